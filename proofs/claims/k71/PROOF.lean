import PyProof.Rows.All
import Wide.All
import OpenK.AllK
import Wide.FinOn
import HandS.ForMost
import HandS.IsInst
import HandS.TupAny
import HandS.Conv
import HandS.Wide
import HandS.SortInts
import HandS.RaiseMore
import HandS.DictComp
import KE.GoesMore
import KE.GoesEnum
import HandS.Style
import HandS.WordsDict
import HandS.Property
import HandS.OwnEq
import KE.KOpsOwn
import HandS.Star
import HandS.Deep
import HandS.ClsMeth
import HandS.Zip
import HandS.Exc
import HandS.ExcOwn
import HandS.ExcIs
import HandS.TryOnly
import PySem.Challenge.RW_everyround_k71_rows_of_values
set_option Elab.async false
set_option linter.all false
set_option maxRecDepth 100000
set_option maxHeartbeats 1000000
/-! A layer of my own over HandS: data as trees (D), mutable objects by number (O), programs as plain functions of them. -/
namespace Mo
open PySem L2

/-- data: scalars, tuples and lists by value, mutable objects by their number; fz: an instance that is changed no more, by value -/
inductive D where
  | non | bl (b : Bool) | int (i : Int) | str (x : Str) | ty (n : String) | adr (a : Addr) | ref (n : Nat) | tup (l : List D) | lst (l : List D) | kl (l : List D) | fz (C : Addr) (ns : List Str) (l : List D)
mutual
def D.beq : D → D → Bool
  | .non, .non => true
  | .bl a, .bl b => a == b
  | .int i, .int j => decide (i = j)
  | .str x, .str y => decide (x = y)
  | .ty x, .ty y => decide (x = y)
  | .adr x, .adr y => decide (x = y)
  | .ref x, .ref y => decide (x = y)
  | .tup l, .tup m => D.beqs l m
  | .lst l, .lst m => D.beqs l m
  | .kl l, .kl m => D.beqs l m
  | .fz C ns l, .fz E ms m => decide (C = E) && (decide (ns = ms) && D.beqs l m)
  | _, _ => false
def D.beqs : List D → List D → Bool
  | [], [] => true
  | x :: l, y :: m => D.beq x y && D.beqs l m
  | _, _ => false
end
mutual
theorem D.beq_eq : ∀ (x y : D), D.beq x y = true → x = y
  | .non, y, h => by cases y <;> simp [D.beq] at h <;> rfl
  | .bl a, y, h => by cases y <;> simp [D.beq] at h; rw [h]
  | .int a, y, h => by cases y <;> simp [D.beq] at h; rw [h]
  | .str a, y, h => by cases y <;> simp [D.beq] at h; rw [h]
  | .ty a, y, h => by cases y <;> simp [D.beq] at h; rw [h]
  | .adr a, y, h => by cases y <;> simp [D.beq] at h; rw [h]
  | .ref a, y, h => by cases y <;> simp [D.beq] at h; rw [h]
  | .tup l, y, h => by
    cases y <;> simp [D.beq] at h
    rw [D.beqs_eq l _ h]
  | .lst l, y, h => by
    cases y <;> simp [D.beq] at h
    rw [D.beqs_eq l _ h]
  | .kl l, y, h => by
    cases y <;> simp [D.beq] at h
    rw [D.beqs_eq l _ h]
  | .fz C ns l, y, h => by
    cases y <;> simp [D.beq] at h
    rw [h.1, h.2.1, D.beqs_eq l _ h.2.2]
theorem D.beqs_eq : ∀ (x y : List D), D.beqs x y = true → x = y
  | [], y, h => by cases y <;> simp [D.beqs] at h; rfl
  | x :: l, y, h => by
    cases y with
    | nil => simp [D.beqs] at h
    | cons y m =>
      simp [D.beqs] at h
      rw [D.beq_eq x y h.1, D.beqs_eq l m h.2]
end
mutual
theorem D.beq_refl : ∀ (x : D), D.beq x x = true
  | .non => rfl
  | .bl a => by simp [D.beq]
  | .int a => by simp [D.beq]
  | .str a => by simp [D.beq]
  | .ty a => by simp [D.beq]
  | .adr a => by simp [D.beq]
  | .ref a => by simp [D.beq]
  | .tup l => by rw [D.beq]; exact D.beqs_refl l
  | .lst l => by rw [D.beq]; exact D.beqs_refl l
  | .kl l => by rw [D.beq]; exact D.beqs_refl l
  | .fz C ns l => by rw [D.beq, D.beqs_refl l]; simp
theorem D.beqs_refl : ∀ (x : List D), D.beqs x x = true
  | [] => rfl
  | x :: l => by rw [D.beqs, D.beq_refl x, D.beqs_refl l]; rfl
end
instance : DecidableEq D := fun x y => if h : D.beq x y = true then isTrue (D.beq_eq x y h) else isFalse fun e => h (e ▸ D.beq_refl x)

/-- a mutable object; gone: no longer one's own -/
inductive O where
  | gone | lst (l : List D) | dct (l : List (Key × D)) | ins (C : Addr) (fs : List (Str × D)) | fdct (l : List (Key × D))
  deriving DecidableEq
/-- may change: neither gone nor locked (fdct: a dict that is walked through) -/
def O.act : O → Bool
  | .gone => false
  | .fdct _ => false
  | _ => true
theorem O.act_ne {o : O} (h : o.act = true) : o ≠ .gone := fun z => by subst z; cases h

/-- the ground: addresses that others hold as mutable, where one's own objects stand, these objects, the abstract heap -/
structure G where
  N : Addr → Prop
  ρ : Nat → Addr
  S : List O
  H : Hp
def G.Live (g : G) (a : Addr) : Prop := ∃ i o, g.S[i]? = some o ∧ o.act = true ∧ g.ρ i = a
def G.Pr (g : G) (a : Addr) : Prop := ¬ g.N a ∧ ¬ g.Live a

def H0 : Hp := fun _ => none
def gT (K : PySem.W.Frag) (g : G) (a : Addr) (vs : List V) : Prop := (Rd g.H a (.tup vs) ∧ g.Pr a) ∨ SqT K H0 a vs
def gL (g : G) (a : Addr) (vs : List V) : Prop := Rd g.H a (.lst vs) ∧ g.Pr a
def gK (K : PySem.W.Frag) (g : G) (a : Addr) (vs : List V) : Prop := gL g a vs ∨ SqL K H0 a vs
/-- an instance that nobody changes -/
def gI (g : G) (a C dx : Addr) (fs : List (Str × V)) : Prop := g.H a = some (.ins C dx fs) ∧ g.Pr a
theorem not_rd0 {a : Addr} {u : HO} (h : Rd H0 a u) : False := by
  rcases h with h | ⟨o, h⟩ <;> cases h
theorem gT.sq {K : PySem.W.Frag} {g : G} {a : Addr} {vs : List V} (h : gT K g a vs) : SqT K g.H a vs := by
  rcases h with ⟨h, _⟩ | h | h
  · exact .inl h
  · exact (not_rd0 h).elim
  · exact .inr h
theorem gL.sq {K : PySem.W.Frag} {g : G} {a : Addr} {vs : List V} (h : gL g a vs) : SqL K g.H a vs := .inl h.1
theorem gK.sq {K : PySem.W.Frag} {g : G} {a : Addr} {vs : List V} (h : gK K g a vs) : SqL K g.H a vs := by
  rcases h with ⟨h, _⟩ | h | h
  · exact .inl h
  · exact (not_rd0 h).elim
  · exact .inr h

mutual
/-- the data d stands as the value v -/
def RD (K : PySem.W.Frag) (g : G) : D → V → Prop
  | .non, v => v = .non
  | .bl b, v => v = .bl b
  | .int i, v => v = .int i
  | .str x, v => v = .str x
  | .ty n, v => v = .ty n
  | .adr a, v => v = .ref a
  | .ref n, v => n < g.S.length ∧ v = .ref (g.ρ n)
  | .tup l, v => ∃ a vs, v = .ref a ∧ gT K g a vs ∧ RDs K g l vs
  | .lst l, v => ∃ a vs, v = .ref a ∧ gL g a vs ∧ RDs K g l vs
  | .kl l, v => ∃ a vs, v = .ref a ∧ gK K g a vs ∧ RDs K g l vs
  | .fz C ns l, v => ∃ a dx vs, v = .ref a ∧ ns.length = l.length ∧ gI g a C dx (ns.zip vs) ∧ RDs K g l vs
def RDs (K : PySem.W.Frag) (g : G) : List D → List V → Prop
  | [], vs => vs = []
  | d :: l, vs => ∃ v r, vs = v :: r ∧ RD K g d v ∧ RDs K g l r
end
/-- pairs with the same first parts -/
def RPs (K : PySem.W.Frag) (g : G) {α : Type} : List (α × D) → List (α × V) → Prop
  | [], vs => vs = []
  | (k, d) :: l, vs => ∃ v r, vs = (k, v) :: r ∧ RD K g d v ∧ RPs K g l r
def RO (K : PySem.W.Frag) (g : G) : O → Addr → Prop
  | .gone, _ => True
  | .lst l, a => ∃ vs, g.H a = some (.lst vs) ∧ RDs K g l vs
  | .dct l, a => ∃ vs, g.H a = some (.dK vs) ∧ RPs K g l vs
  | .ins C l, a => ∃ dx vs, g.H a = some (.ins C dx vs) ∧ RPs K g l vs
  | .fdct l, a => ∃ od vs, g.H a = some (.frz od (.dK vs)) ∧ RPs K g l vs
structure Rep (K : PySem.W.Frag) (g : G) : Prop where
  nd : ∀ a, g.N a → ∃ o, g.H a = some o
  inj : ∀ i j o u, g.S[i]? = some o → o ≠ .gone → g.S[j]? = some u → u ≠ .gone → g.ρ i = g.ρ j → i = j
  obj : ∀ i o, g.S[i]? = some o → RO K g o (g.ρ i)
/-- a later ground -/
structure Ext (g g' : G) : Prop where
  n : g'.N = g.N
  len : g.S.length ≤ g'.S.length
  ag : ∀ i, i < g.S.length → g'.ρ i = g.ρ i
  kp : ∀ a o, g.H a = some o → ¬ g.Live a → g'.H a = some o ∧ ¬ g'.Live a
theorem Ext.refl (g : G) : Ext g g := ⟨rfl, Nat.le_refl _, fun _ _ => rfl, fun _ _ h l => ⟨h, l⟩⟩
theorem Ext.trans {g g1 g2 : G} (a : Ext g g1) (b : Ext g1 g2) : Ext g g2 :=
  ⟨b.n.trans a.n, Nat.le_trans a.len b.len, fun i h => (b.ag i (Nat.lt_of_lt_of_le h a.len)).trans (a.ag i h), fun x o h l =>
    let ⟨h1, l1⟩ := a.kp x o h l
    b.kp x o h1 l1⟩
theorem Ext.pr {g g' : G} (e : Ext g g') {a : Addr} {o : HO} (h : g.H a = some o) (p : g.Pr a) : g'.H a = some o ∧ g'.Pr a :=
  ⟨(e.kp a o h p.2).1, by rw [G.Pr, e.n]; exact ⟨p.1, (e.kp a o h p.2).2⟩⟩
theorem Ext.rd {g g' : G} (e : Ext g g') {a : Addr} {u : HO} (h : Rd g.H a u) (p : g.Pr a) : Rd g'.H a u ∧ g'.Pr a := by
  rcases h with h | ⟨o, h⟩
  · exact ⟨.inl (e.pr h p).1, (e.pr h p).2⟩
  · exact ⟨.inr ⟨o, (e.pr h p).1⟩, (e.pr h p).2⟩
/-- what data needs of a ground -/
structure Sim0 (g g' : G) : Prop where
  tu : ∀ a vs, Rd g.H a (.tup vs) → g.Pr a → Rd g'.H a (.tup vs) ∧ g'.Pr a
  ls : ∀ a vs, Rd g.H a (.lst vs) → g.Pr a → Rd g'.H a (.lst vs) ∧ g'.Pr a
  is_ : ∀ a C dx fs, gI g a C dx fs → gI g' a C dx fs
structure Sim (g g' : G) : Prop extends Sim0 g g' where
  len : g.S.length ≤ g'.S.length
  ag : ∀ i, i < g.S.length → g'.ρ i = g.ρ i
theorem Ext.sim {g g' : G} (e : Ext g g') : Sim g g' := ⟨⟨fun _ _ h p => e.rd h p, fun _ _ h p => e.rd h p, fun _ _ _ _ h => e.pr h.1 h.2⟩, e.len, e.ag⟩
theorem gT.sim {K : PySem.W.Frag} {g g' : G} (e : Sim0 g g') {a : Addr} {vs : List V} (h : gT K g a vs) : gT K g' a vs := by
  rcases h with ⟨h, p⟩ | h
  · exact .inl (e.tu _ _ h p)
  · exact .inr h
theorem gL.sim {g g' : G} (e : Sim0 g g') {a : Addr} {vs : List V} (h : gL g a vs) : gL g' a vs := e.ls _ _ h.1 h.2
theorem gK.sim {K : PySem.W.Frag} {g g' : G} (e : Sim0 g g') {a : Addr} {vs : List V} (h : gK K g a vs) : gK K g' a vs := by
  rcases h with h | h
  · exact .inl (h.sim e)
  · exact .inr h
mutual
theorem RD.sim {K : PySem.W.Frag} {g g' : G} (e : Sim g g') : ∀ {d : D} {v : V}, RD K g d v → RD K g' d v
  | .non, _, h => by rw [RD] at h ⊢; exact h
  | .bl _, _, h => by rw [RD] at h ⊢; exact h
  | .int _, _, h => by rw [RD] at h ⊢; exact h
  | .str _, _, h => by rw [RD] at h ⊢; exact h
  | .ty _, _, h => by rw [RD] at h ⊢; exact h
  | .adr _, _, h => by rw [RD] at h ⊢; exact h
  | .ref n, _, h => by
    rw [RD] at h ⊢
    exact ⟨Nat.lt_of_lt_of_le h.1 e.len, by rw [e.ag n h.1]; exact h.2⟩
  | .tup l, _, h => by
    rw [RD] at h ⊢
    obtain ⟨a, vs, h1, h2, h3⟩ := h
    exact ⟨a, vs, h1, h2.sim e.toSim0, RDs.sim e h3⟩
  | .lst l, _, h => by
    rw [RD] at h ⊢
    obtain ⟨a, vs, h1, h2, h3⟩ := h
    exact ⟨a, vs, h1, h2.sim e.toSim0, RDs.sim e h3⟩
  | .kl l, _, h => by
    rw [RD] at h ⊢
    obtain ⟨a, vs, h1, h2, h3⟩ := h
    exact ⟨a, vs, h1, h2.sim e.toSim0, RDs.sim e h3⟩
  | .fz C ns l, _, h => by
    rw [RD] at h ⊢
    obtain ⟨a, dx, vs, h1, h0, h2, h3⟩ := h
    exact ⟨a, dx, vs, h1, h0, e.is_ _ _ _ _ h2, RDs.sim e h3⟩
theorem RDs.sim {K : PySem.W.Frag} {g g' : G} (e : Sim g g') : ∀ {l : List D} {vs : List V}, RDs K g l vs → RDs K g' l vs
  | [], _, h => by rw [RDs] at h ⊢; exact h
  | d :: l, _, h => by
    rw [RDs] at h ⊢
    obtain ⟨v, r, h1, h2, h3⟩ := h
    exact ⟨v, r, h1, RD.sim e h2, RDs.sim e h3⟩
end
mutual
/-- no number of an object from n on -/
def D.lo (n : Nat) : D → Bool
  | .ref i => decide (i < n)
  | .tup l => D.los n l
  | .lst l => D.los n l
  | .kl l => D.los n l
  | .fz _ _ l => D.los n l
  | _ => true
def D.los (n : Nat) : List D → Bool
  | [] => true
  | d :: l => D.lo n d && D.los n l
end
mutual
/-- data whose numbers are below n, where the first n objects stand alike -/
theorem RD.under {K : PySem.W.Frag} {g g' : G} (e : Sim0 g g') {n : Nat} (hn : ∀ i, i < n → i < g.S.length → i < g'.S.length ∧ g'.ρ i = g.ρ i) : ∀ {d : D} {v : V}, D.lo n d = true → RD K g d v → RD K g' d v
  | .non, _, _, h => by rw [RD] at h ⊢; exact h
  | .bl _, _, _, h => by rw [RD] at h ⊢; exact h
  | .int _, _, _, h => by rw [RD] at h ⊢; exact h
  | .str _, _, _, h => by rw [RD] at h ⊢; exact h
  | .ty _, _, _, h => by rw [RD] at h ⊢; exact h
  | .adr _, _, _, h => by rw [RD] at h ⊢; exact h
  | .ref i, _, b, h => by
    rw [D.lo] at b
    rw [RD] at h ⊢
    obtain ⟨h1, h2⟩ := hn i (of_decide_eq_true b) h.1
    exact ⟨h1, by rw [h2]; exact h.2⟩
  | .tup l, _, b, h => by
    rw [D.lo] at b
    rw [RD] at h ⊢
    obtain ⟨a, vs, h1, h2, h3⟩ := h
    exact ⟨a, vs, h1, h2.sim e, RDs.under e hn b h3⟩
  | .lst l, _, b, h => by
    rw [D.lo] at b
    rw [RD] at h ⊢
    obtain ⟨a, vs, h1, h2, h3⟩ := h
    exact ⟨a, vs, h1, h2.sim e, RDs.under e hn b h3⟩
  | .kl l, _, b, h => by
    rw [D.lo] at b
    rw [RD] at h ⊢
    obtain ⟨a, vs, h1, h2, h3⟩ := h
    exact ⟨a, vs, h1, h2.sim e, RDs.under e hn b h3⟩
  | .fz C ns l, _, b, h => by
    rw [D.lo] at b
    rw [RD] at h ⊢
    obtain ⟨a, dx, vs, h1, h0, h2, h3⟩ := h
    exact ⟨a, dx, vs, h1, h0, e.is_ _ _ _ _ h2, RDs.under e hn b h3⟩
theorem RDs.under {K : PySem.W.Frag} {g g' : G} (e : Sim0 g g') {n : Nat} (hn : ∀ i, i < n → i < g.S.length → i < g'.S.length ∧ g'.ρ i = g.ρ i) : ∀ {l : List D} {vs : List V}, D.los n l = true → RDs K g l vs → RDs K g' l vs
  | [], _, _, h => by rw [RDs] at h ⊢; exact h
  | d :: l, _, b, h => by
    rw [D.los, Bool.and_eq_true] at b
    rw [RDs] at h ⊢
    obtain ⟨v, r, h1, h2, h3⟩ := h
    exact ⟨v, r, h1, RD.under e hn b.1 h2, RDs.under e hn b.2 h3⟩
end
theorem RD.mono {K : PySem.W.Frag} {g g' : G} (e : Ext g g') {d : D} {v : V} (h : RD K g d v) : RD K g' d v := h.sim e.sim
theorem RDs.mono {K : PySem.W.Frag} {g g' : G} (e : Ext g g') {l : List D} {vs : List V} (h : RDs K g l vs) : RDs K g' l vs := h.sim e.sim
theorem RPs.sim {K : PySem.W.Frag} {g g' : G} (e : Sim g g') {α : Type} : ∀ {l : List (α × D)} {vs : List (α × V)}, RPs K g l vs → RPs K g' l vs
  | [], _, h => by rw [RPs] at h ⊢; exact h
  | (k, d) :: l, _, h => by
    rw [RPs] at h ⊢
    obtain ⟨v, r, h1, h2, h3⟩ := h
    exact ⟨v, r, h1, h2.sim e, RPs.sim e h3⟩
theorem RPs.mono {K : PySem.W.Frag} {g g' : G} (e : Ext g g') {α : Type} {l : List (α × D)} {vs : List (α × V)} (h : RPs K g l vs) : RPs K g' l vs := h.sim e.sim
/-- no object of the pairs from n on -/
def belowP {α : Type} (n : Nat) (l : List (α × D)) : Bool := l.all fun p => D.lo n p.2
def O.lo (n : Nat) : O → Bool
  | .gone => true
  | .lst l => D.los n l
  | .dct l => belowP n l
  | .ins _ l => belowP n l
  | .fdct l => belowP n l
theorem RPs.under {K : PySem.W.Frag} {g g' : G} (e : Sim0 g g') {n : Nat} (hn : ∀ i, i < n → i < g.S.length → i < g'.S.length ∧ g'.ρ i = g.ρ i) {α : Type} : ∀ {l : List (α × D)} {vs : List (α × V)}, belowP n l = true → RPs K g l vs → RPs K g' l vs
  | [], _, _, h => by rw [RPs] at h ⊢; exact h
  | (k, d) :: l, _, b, h => by
    rw [belowP, List.all_cons, Bool.and_eq_true] at b
    rw [RPs] at h ⊢
    obtain ⟨v, r, h1, h2, h3⟩ := h
    exact ⟨v, r, h1, h2.under e hn b.1, RPs.under e hn b.2 h3⟩

theorem RDs.length {K : PySem.W.Frag} {g : G} : ∀ {l : List D} {vs : List V}, RDs K g l vs → l.length = vs.length
  | [], _, h => by rw [RDs] at h; subst h; rfl
  | d :: l, _, h => by
    rw [RDs] at h
    obtain ⟨v, r, rfl, _, h3⟩ := h
    rw [List.length_cons, List.length_cons, RDs.length h3]
theorem RDs.get {K : PySem.W.Frag} {g : G} : ∀ {l : List D} {vs : List V} {i : Nat} {d : D}, RDs K g l vs → l[i]? = some d → ∃ v, vs[i]? = some v ∧ RD K g d v
  | [], _, _, _, _, q => by simp at q
  | x :: l, _, 0, d, h, q => by
    rw [RDs] at h
    obtain ⟨v, r, rfl, h2, _⟩ := h
    simp at q; subst q
    exact ⟨v, rfl, h2⟩
  | x :: l, _, i + 1, d, h, q => by
    rw [RDs] at h
    obtain ⟨v, r, rfl, _, h3⟩ := h
    obtain ⟨w, a, b⟩ := RDs.get h3 (i := i) (by simpa using q)
    exact ⟨w, by simpa using a, b⟩
theorem RDs.append {K : PySem.W.Frag} {g : G} : ∀ {l m : List D} {vs us : List V}, RDs K g l vs → RDs K g m us → RDs K g (l ++ m) (vs ++ us)
  | [], _, _, _, h, q => by rw [RDs] at h; subst h; exact q
  | d :: l, m, _, us, h, q => by
    rw [RDs] at h
    obtain ⟨v, r, rfl, h2, h3⟩ := h
    rw [List.cons_append, RDs]
    exact ⟨v, r ++ us, rfl, h2, RDs.append h3 q⟩
theorem RDs.nil {K : PySem.W.Frag} {g : G} : RDs K g [] [] := by rw [RDs]
theorem RDs.cons {K : PySem.W.Frag} {g : G} {d : D} {l : List D} {v : V} {vs : List V} (h : RD K g d v) (t : RDs K g l vs) : RDs K g (d :: l) (v :: vs) := by
  rw [RDs]
  exact ⟨v, vs, rfl, h, t⟩
theorem RDs.set {K : PySem.W.Frag} {g : G} {d : D} {v : V} (r : RD K g d v) : ∀ {l : List D} {vs : List V} (i : Nat), RDs K g l vs → RDs K g (l.set i d) (vs.set i v)
  | [], _, _, h => by rw [RDs] at h; subst h; exact RDs.nil
  | x :: l, _, 0, h => by
    rw [RDs] at h
    obtain ⟨w, u, rfl, _, h3⟩ := h
    exact RDs.cons r h3
  | x :: l, _, i + 1, h => by
    rw [RDs] at h
    obtain ⟨w, u, rfl, h2, h3⟩ := h
    exact RDs.cons h2 (RDs.set r i h3)
theorem RDs.take {K : PySem.W.Frag} {g : G} : ∀ {l : List D} {vs : List V} (n : Nat), RDs K g l vs → RDs K g (l.take n) (vs.take n)
  | _, _, 0, _ => RDs.nil
  | [], _, n + 1, h => by rw [RDs] at h; subst h; exact RDs.nil
  | x :: l, _, n + 1, h => by
    rw [RDs] at h
    obtain ⟨w, u, rfl, h2, h3⟩ := h
    exact RDs.cons h2 (RDs.take n h3)
theorem RDs.drop {K : PySem.W.Frag} {g : G} : ∀ {l : List D} {vs : List V} (n : Nat), RDs K g l vs → RDs K g (l.drop n) (vs.drop n)
  | _, _, 0, h => h
  | [], _, n + 1, h => by rw [RDs] at h; subst h; exact RDs.nil
  | x :: l, _, n + 1, h => by
    rw [RDs] at h
    obtain ⟨w, u, rfl, h2, h3⟩ := h
    exact RDs.drop n h3
theorem RO.sim {K : PySem.W.Frag} {g g' : G} (e : Sim g g') {o : O} {a : Addr} (h : RO K g o a) (k : o ≠ .gone → g'.H a = g.H a) : RO K g' o a := by
  cases o with
  | gone => trivial
  | lst l =>
    obtain ⟨vs, h1, h2⟩ := h
    exact ⟨vs, (k (by intro z; cases z)).trans h1, h2.sim e⟩
  | dct l =>
    obtain ⟨vs, h1, h2⟩ := h
    exact ⟨vs, (k (by intro z; cases z)).trans h1, h2.sim e⟩
  | ins C l =>
    obtain ⟨dx, vs, h1, h2⟩ := h
    exact ⟨dx, vs, (k (by intro z; cases z)).trans h1, h2.sim e⟩
  | fdct l =>
    obtain ⟨dx, vs, h1, h2⟩ := h
    exact ⟨dx, vs, (k (by intro z; cases z)).trans h1, h2.sim e⟩
theorem RO.under {K : PySem.W.Frag} {g g' : G} (e : Sim0 g g') {n : Nat} (hn : ∀ i, i < n → i < g.S.length → i < g'.S.length ∧ g'.ρ i = g.ρ i) {o : O} {a : Addr} (b : O.lo n o = true) (h : RO K g o a) (k : o ≠ .gone → g'.H a = g.H a) : RO K g' o a := by
  cases o with
  | gone => trivial
  | lst l =>
    obtain ⟨vs, h1, h2⟩ := h
    exact ⟨vs, (k (by intro z; cases z)).trans h1, h2.under e hn b⟩
  | dct l =>
    obtain ⟨vs, h1, h2⟩ := h
    exact ⟨vs, (k (by intro z; cases z)).trans h1, h2.under e hn b⟩
  | ins C l =>
    obtain ⟨dx, vs, h1, h2⟩ := h
    exact ⟨dx, vs, (k (by intro z; cases z)).trans h1, h2.under e hn b⟩
  | fdct l =>
    obtain ⟨dx, vs, h1, h2⟩ := h
    exact ⟨dx, vs, (k (by intro z; cases z)).trans h1, h2.under e hn b⟩
theorem RO.mono {K : PySem.W.Frag} {g g' : G} (e : Ext g g') {o : O} {a : Addr} (h : RO K g o a) (k : o ≠ .gone → g'.H a = g.H a) : RO K g' o a := by
  cases o with
  | gone => trivial
  | lst l =>
    obtain ⟨vs, h1, h2⟩ := h
    exact ⟨vs, (k (by intro z; cases z)).trans h1, h2.mono e⟩
  | dct l =>
    obtain ⟨vs, h1, h2⟩ := h
    exact ⟨vs, (k (by intro z; cases z)).trans h1, h2.mono e⟩
  | ins C l =>
    obtain ⟨dx, vs, h1, h2⟩ := h
    exact ⟨dx, vs, (k (by intro z; cases z)).trans h1, h2.mono e⟩
  | fdct l =>
    obtain ⟨dx, vs, h1, h2⟩ := h
    exact ⟨dx, vs, (k (by intro z; cases z)).trans h1, h2.mono e⟩
/-- where a live object stands, something mutable stands -/
theorem RO.at_ {K : PySem.W.Frag} {g : G} {o : O} {a : Addr} (h : RO K g o a) (n : o ≠ .gone) : ∃ u, g.H a = some u := by
  cases o with
  | gone => exact absurd rfl n
  | lst l => obtain ⟨vs, h1, _⟩ := h; exact ⟨_, h1⟩
  | dct l => obtain ⟨vs, h1, _⟩ := h; exact ⟨_, h1⟩
  | ins C l => obtain ⟨dx, vs, h1, _⟩ := h; exact ⟨_, h1⟩
  | fdct l => obtain ⟨dx, vs, h1, _⟩ := h; exact ⟨_, h1⟩
theorem RO.nofrz {K : PySem.W.Frag} {g : G} {o : O} {a : Addr} (h : RO K g o a) (n : o.act = true) (od : Obj) (u : HO) : g.H a ≠ some (.frz od u) := fun z => by
  cases o with
  | gone => cases n
  | fdct l => cases n
  | lst l => obtain ⟨vs, h1, _⟩ := h; rw [z] at h1; cases h1
  | dct l => obtain ⟨vs, h1, _⟩ := h; rw [z] at h1; cases h1
  | ins C l => obtain ⟨dx, vs, h1, _⟩ := h; rw [z] at h1; cases h1
theorem Rep.fresh {K : PySem.W.Frag} {g : G} (rp : Rep K g) {p : Addr} (h : g.H p = none) : g.Pr p := by
  refine ⟨fun z => ?_, fun ⟨i, o, h1, h2, h3⟩ => ?_⟩
  · obtain ⟨o, q⟩ := rp.nd p z
    rw [h] at q; cases q
  · obtain ⟨u, q⟩ := (rp.obj i o h1).at_ (O.act_ne h2)
    rw [h3, h] at q; cases q
/-- a new object that nobody will change -/
theorem Ext.newv {g : G} {p : Addr} {u : HO} (h : g.H p = none) : Ext g { g with H := upd g.H p u } :=
  ⟨rfl, Nat.le_refl _, fun _ _ => rfl, fun a o q l => ⟨(show upd g.H p u a = g.H a from upd_ne (ne_of_none q h)).trans q, l⟩⟩
theorem Rep.newv {K : PySem.W.Frag} {g : G} (rp : Rep K g) {p : Addr} {u : HO} (h : g.H p = none) : Rep K { g with H := upd g.H p u } := by
  refine ⟨fun a z => ?_, rp.inj, fun i o q => (rp.obj i o q).mono (Ext.newv h) fun n => ?_⟩
  · obtain ⟨o, e⟩ := rp.nd a z
    exact ⟨o, (show upd g.H p u a = g.H a from upd_ne (ne_of_none e h)).trans e⟩
  · obtain ⟨w, e⟩ := (rp.obj i o q).at_ n
    exact upd_ne (ne_of_none e h)
/-- a new object of one's own -/
abbrev G.add (g : G) (p : Addr) (o : O) (u : HO) : G := { N := g.N, ρ := fun i => if i = g.S.length then p else g.ρ i, S := g.S ++ [o], H := upd g.H p u }
theorem Ext.add {K : PySem.W.Frag} {g : G} (rp : Rep K g) {p : Addr} {o : O} {u : HO} (h : g.H p = none) : Ext g (g.add p o u) := by
  refine ⟨rfl, by simp, fun i hi => if_neg (Nat.ne_of_lt hi), fun a w q l => ⟨(show upd g.H p u a = g.H a from upd_ne (ne_of_none q h)).trans q, ?_⟩⟩
  rintro ⟨i, x, h1, h2, h3⟩
  have h3 : (if i = g.S.length then p else g.ρ i) = a := h3
  have h1 : (g.S ++ [o])[i]? = some x := h1
  by_cases hi : i < g.S.length
  · refine l ⟨i, x, ?_, h2, ?_⟩
    · rw [List.getElem?_append_left hi] at h1; exact h1
    · rw [if_neg (Nat.ne_of_lt hi)] at h3; exact h3
  · have e : i = g.S.length := by
      rcases Nat.lt_or_ge i (g.S.length + 1) with z | z
      · omega
      · rw [List.getElem?_eq_none (by simpa using z)] at h1; cases h1
    rw [if_pos e] at h3
    rw [h3, q] at h; cases h
theorem Rep.add {K : PySem.W.Frag} {g : G} (rp : Rep K g) {p : Addr} {o : O} {u : HO} (h : g.H p = none) (ho : RO K (g.add p o u) o p) : Rep K (g.add p o u) := by
  have hn : ∀ i x, g.S[i]? = some x → x ≠ .gone → g.ρ i ≠ p := fun i x q n z => by
    obtain ⟨w, e⟩ := (rp.obj i x q).at_ n
    rw [z, h] at e; cases e
  have hs : ∀ i x, (g.add p o u).S[i]? = some x → (i < g.S.length ∧ g.S[i]? = some x ∧ (g.add p o u).ρ i = g.ρ i) ∨ (i = g.S.length ∧ x = o ∧ (g.add p o u).ρ i = p) := fun i x q => by
    by_cases hi : i < g.S.length
    · exact .inl ⟨hi, by rw [← List.getElem?_append_left (l₂ := [o]) hi]; exact q, if_neg (Nat.ne_of_lt hi)⟩
    · have e : i = g.S.length := by
        rcases Nat.lt_or_ge i (g.S.length + 1) with z | z
        · omega
        · rw [List.getElem?_eq_none (by simpa using z)] at q; cases q
      refine .inr ⟨e, ?_, if_pos e⟩
      subst e
      have q' : (g.S ++ [o])[g.S.length]? = some x := q
      rw [List.getElem?_append_right (Nat.le_refl _), Nat.sub_self] at q'
      exact (Option.some.inj q').symm
  refine ⟨fun a z => ?_, fun i j x y q1 n1 q2 n2 e => ?_, fun i x q => ?_⟩
  · obtain ⟨w, e⟩ := rp.nd a z
    exact ⟨w, (show upd g.H p u a = g.H a from upd_ne (ne_of_none e h)).trans e⟩
  · rcases hs i x q1 with ⟨l1, s1, r1⟩ | ⟨l1, s1, r1⟩ <;> rcases hs j y q2 with ⟨l2, s2, r2⟩ | ⟨l2, s2, r2⟩
    · rw [r1, r2] at e; exact rp.inj i j x y s1 n1 s2 n2 e
    · rw [r1, r2] at e; exact absurd e (hn i x s1 n1)
    · rw [r1, r2] at e; exact absurd e.symm (hn j y s2 n2)
    · rw [l1, l2]
  · rcases hs i x q with ⟨l1, s1, r1⟩ | ⟨l1, s1, r1⟩
    · rw [r1]
      refine (rp.obj i x s1).mono (Ext.add rp h) fun n => ?_
      obtain ⟨w, e⟩ := (rp.obj i x s1).at_ n
      exact upd_ne (ne_of_none e h)
    · rw [r1, s1]; exact ho
/-- one's own object i changes -/
abbrev G.put (g : G) (i : Nat) (o : O) (u : HO) : G := { g with S := g.S.set i o, H := upd g.H (g.ρ i) u }
theorem live_put {g : G} {i : Nat} {o o' : O} {u : HO} (hi : g.S[i]? = some o) (n : o.act = true) {a : Addr} (h : (g.put i o' u).Live a) : g.Live a := by
  obtain ⟨j, x, h1, h2, h3⟩ := h
  by_cases hj : i = j
  · subst hj; exact ⟨i, o, hi, n, h3⟩
  · have h1' : (g.S.set i o')[j]? = some x := h1
    rw [List.getElem?_set_ne hj] at h1'
    exact ⟨j, x, h1', h2, h3⟩
theorem Ext.put {g : G} {i : Nat} {o o' : O} {u : HO} (hi : g.S[i]? = some o) (n : o.act = true) : Ext g (g.put i o' u) := by
  refine ⟨rfl, by simp, fun _ _ => rfl, fun a w q l => ⟨?_, fun z => l (live_put hi n z)⟩⟩
  exact (show upd g.H (g.ρ i) u a = g.H a from upd_ne fun z => l ⟨i, o, hi, n, z.symm⟩).trans q
theorem Rep.put {K : PySem.W.Frag} {g : G} (rp : Rep K g) {i : Nat} {o o' : O} {u : HO} (hi : g.S[i]? = some o) (n : o.act = true) (ho : RO K (g.put i o' u) o' (g.ρ i)) : Rep K (g.put i o' u) := by
  have hs : ∀ j x, (g.put i o' u).S[j]? = some x → (j = i ∧ x = o') ∨ (j ≠ i ∧ g.S[j]? = some x) := fun j x q => by
    have q' : (g.S.set i o')[j]? = some x := q
    by_cases hj : i = j
    · subst hj
      rw [List.getElem?_set_self (List.getElem?_eq_some_iff.mp hi).1] at q'
      exact .inl ⟨rfl, (Option.some.inj q').symm⟩
    · rw [List.getElem?_set_ne hj] at q'
      exact .inr ⟨fun z => hj z.symm, q'⟩
  have lv : ∀ (j : Nat) (x : O), (g.put i o' u).S[j]? = some x → x ≠ .gone → ∃ y : O, g.S[j]? = some y ∧ y ≠ .gone := fun j x q m => by
    rcases hs j x q with ⟨e, _⟩ | ⟨_, e⟩
    · exact ⟨o, by rw [e]; exact hi, O.act_ne n⟩
    · exact ⟨x, e, m⟩
  refine ⟨fun a z => ?_, fun j k x y q1 n1 q2 n2 e => ?_, fun j x q => ?_⟩
  · obtain ⟨w, e⟩ := rp.nd a z
    by_cases ha : a = g.ρ i
    · exact ⟨u, by rw [ha]; exact upd_same⟩
    · exact ⟨w, (show upd g.H (g.ρ i) u a = g.H a from upd_ne ha).trans e⟩
  · obtain ⟨x', a1, a2⟩ := lv j x q1 n1
    obtain ⟨y', b1, b2⟩ := lv k y q2 n2
    exact rp.inj j k x' y' a1 a2 b1 b2 e
  · rcases hs j x q with ⟨e1, e2⟩ | ⟨e1, e2⟩
    · rw [e1, e2]; exact ho
    · refine (rp.obj j x e2).mono (Ext.put hi n) fun m => ?_
      exact upd_ne fun z => e1 (rp.inj j i x o e2 m hi (O.act_ne n) z)
/-- one's own object is given away: nobody changes it any more -/
theorem Ext.freeze {g : G} {i : Nat} {o : O} (hi : g.S[i]? = some o) : Ext g { g with S := g.S.set i .gone } := by
  refine ⟨rfl, by simp, fun _ _ => rfl, fun a w q l => ⟨q, ?_⟩⟩
  rintro ⟨j, x, h1, h2, h3⟩
  have h1' : (g.S.set i .gone)[j]? = some x := h1
  by_cases hj : i = j
  · subst hj
    rw [List.getElem?_set_self (List.getElem?_eq_some_iff.mp hi).1] at h1'
    rw [← Option.some.inj h1'] at h2
    cases h2
  · rw [List.getElem?_set_ne hj] at h1'
    exact l ⟨j, x, h1', h2, h3⟩
theorem Rep.freeze {K : PySem.W.Frag} {g : G} (rp : Rep K g) {i : Nat} {o : O} (hi : g.S[i]? = some o) : Rep K { g with S := g.S.set i .gone } := by
  have hs : ∀ (j : Nat) (x : O), (g.S.set i .gone)[j]? = some x → x = .gone ∨ g.S[j]? = some x := fun j x q => by
    by_cases hj : i = j
    · subst hj
      rw [List.getElem?_set_self (List.getElem?_eq_some_iff.mp hi).1] at q
      exact .inl (Option.some.inj q).symm
    · rw [List.getElem?_set_ne hj] at q
      exact .inr q
  refine ⟨rp.nd, fun j k x y q1 n1 q2 n2 e => ?_, fun j x q => ?_⟩
  · rcases hs j x q1 with z | a1
    · exact absurd z n1
    rcases hs k y q2 with z | b1
    · exact absurd z n2
    exact rp.inj j k x y a1 n1 b1 n2 e
  · rcases hs j x q with z | a1
    · subst z; trivial
    · exact (rp.obj j x a1).mono (Ext.freeze hi) fun _ => rfl

/-- the names' values -/
abbrev Env := List (Option D)
def RE (K : PySem.W.Frag) (g : G) (e : Env) (σ : St) : Prop := e.length = σ.length ∧ ∀ (i : Nat) (d : D), e[i]? = some (some d) → ∃ v, σ[i]? = some (some v) ∧ RD K g d v
theorem RE.mono {K : PySem.W.Frag} {g g' : G} {e : Env} {σ : St} (x : Ext g g') (h : RE K g e σ) : RE K g' e σ :=
  ⟨h.1, fun i d q => let ⟨v, a, b⟩ := h.2 i d q; ⟨v, a, b.mono x⟩⟩
theorem RE.sim {K : PySem.W.Frag} {g g' : G} {e : Env} {σ : St} (x : Sim g g') (h : RE K g e σ) : RE K g' e σ :=
  ⟨h.1, fun i d q => let ⟨v, a, b⟩ := h.2 i d q; ⟨v, a, b.sim x⟩⟩
theorem RE.set {K : PySem.W.Frag} {g : G} {e : Env} {σ : St} {i : Nat} {d : D} {v : V} (h : RE K g e σ) (r : RD K g d v) : RE K g (e.set i (some d)) (σ.set i (some v)) := by
  refine ⟨by rw [List.length_set, List.length_set]; exact h.1, fun j x q => ?_⟩
  by_cases hj : i = j
  · subst hj
    have hl : i < e.length := by
      rcases Nat.lt_or_ge i e.length with z | z
      · exact z
      · rw [List.getElem?_eq_none (by rw [List.length_set]; exact z)] at q; cases q
    rw [List.getElem?_set_self hl] at q
    cases q
    exact ⟨v, List.getElem?_set_self (by rw [← h.1]; exact hl), r⟩
  · rw [List.getElem?_set_ne hj] at q ⊢
    exact h.2 j x q
theorem RE.wipe {K : PySem.W.Frag} {g : G} {e : Env} {σ : St} {i : Nat} (h : RE K g e σ) : RE K g (e.set i none) (σ.set i none) := by
  refine ⟨by rw [List.length_set, List.length_set]; exact h.1, fun j x q => ?_⟩
  by_cases hj : i = j
  · subst hj
    have hl : i < e.length := by
      rcases Nat.lt_or_ge i e.length with z | z
      · exact z
      · rw [List.getElem?_eq_none (by rw [List.length_set]; exact z)] at q; cases q
    rw [List.getElem?_set_self hl] at q
    cases q
  · rw [List.getElem?_set_ne hj] at q ⊢
    exact h.2 j x q

/-! ### results -/
/-- an error: its class, its own attributes (none: it has no dict) -/
structure Xc where
  cls : Value
  fs : Option (List (Str × D))
inductive R (α : Type) where
  | ok (a : α) (S : List O)
  | er (x : Xc) (S : List O)
  | bad
def R.bind {α β : Type} (r : R α) (f : α → List O → R β) : R β := match r with
  | .ok a S => f a S
  | .er x S => .er x S
  | .bad => .bad
inductive RS where
  | nx (e : Env) (S : List O) | rt (d : D) (S : List O) | bk (e : Env) (S : List O) | ct (e : Env) (S : List O) | er (x : Xc) (e : Env) (S : List O) | bad
abbrev ME := Env → List O → R D
abbrev MT := Env → List O → R Bool
abbrev MA := Env → List O → R (List D)
abbrev MS := Env → List O → RS
def RX (K : PySem.W.Frag) (g : G) (x : Xc) (cls : Value) (d : Option Addr) : Prop := cls = x.cls ∧ match x.fs, d with
  | none, none => True
  | some fs, some a => ∃ vs, g.H a = some (.xd vs) ∧ g.Pr a ∧ RPs K g fs vs
  | _, _ => False
/-- what is wanted of an error, by the names' values: as HandS.Exc has it -/
abbrev WX' := Value → Option Addr → St → Hp → Prop
def Post {α : Type} (K : PySem.W.Frag) (W : WX') (g : G) (r : R α) (σ : St) (k : α → G → Prop) : Prop := match r with
  | .ok a S' => ∀ g', Ext g g' → g'.S = S' → Rep K g' → k a g'
  | .er x S' => ∀ g' cls d, Ext g g' → g'.S = S' → Rep K g' → RX K g' x cls d → W cls d σ g'.H
  | .bad => False
theorem Post.mono {α : Type} {K : PySem.W.Frag} {W : WX'} {g g1 : G} {r : R α} {σ : St} {k : α → G → Prop} (e : Ext g g1) (h : Post K W g r σ k) : Post K W g1 r σ k := by
  cases r with
  | ok a S => exact fun g' e' => h g' (e.trans e')
  | er x S => exact fun g' c d e' => h g' c d (e.trans e')
  | bad => exact h
theorem Post.imp {α : Type} {K : PySem.W.Frag} {W : WX'} {g : G} {r : R α} {σ : St} {k k' : α → G → Prop} (h : Post K W g r σ k) (f : ∀ a g', Ext g g' → Rep K g' → k a g' → k' a g') : Post K W g r σ k' := by
  cases r with
  | ok a S => exact fun g' e s rp => f a g' e rp (h g' e s rp)
  | er x S => exact h
  | bad => exact h
theorem Post.bind {α β : Type} {K : PySem.W.Frag} {W : WX'} {g : G} {r : R α} {f : α → List O → R β} {σ : St} {k : β → G → Prop} (h : Post K W g (r.bind f) σ k) :
    Post K W g r σ fun a g1 => Ext g g1 ∧ Rep K g1 ∧ Post K W g1 (f a g1.S) σ k := by
  cases r with
  | ok a S =>
    intro g1 e s rp
    subst s
    exact ⟨e, rp, Post.mono e h⟩
  | er x S => exact h
  | bad => exact h
theorem Post.here {α : Type} {K : PySem.W.Frag} {W : WX'} {g : G} {a : α} {σ : St} {k : α → G → Prop} (rp : Rep K g) (h : Post K W g (.ok a g.S) σ k) : k a g := h g (Ext.refl g) rfl rp

/-! ### readings -/
section
variable (K : PySem.W.Frag) (W : WX')
def tE (m : ME) : TE := fun σ H Q => ∃ g e, g.H = H ∧ Rep K g ∧ RE K g e σ ∧ Post K W g (m e g.S) σ fun d g' => ∀ v, RD K g' d v → Q v g'.H
def tT (m : MT) : TT := fun σ H Q => ∃ g e, g.H = H ∧ Rep K g ∧ RE K g e σ ∧ Post K W g (m e g.S) σ fun b g' => Q b g'.H
def tA (m : MA) : TA := fun σ H Q => ∃ g e, g.H = H ∧ Rep K g ∧ RE K g e σ ∧ Post K W g (m e g.S) σ fun l g' => ∀ vs, RDs K g' l vs → Q vs g'.H
/-- behind a statement -/
def PostS (g : G) (r : RS) (D : Ends) : Prop := match r with
  | .nx e S' => ∀ g' σ, Ext g g' → g'.S = S' → Rep K g' → RE K g' e σ → D.nx σ g'.H
  | .bk e S' => ∀ g' σ, Ext g g' → g'.S = S' → Rep K g' → RE K g' e σ → D.bk σ g'.H
  | .ct e S' => ∀ g' σ, Ext g g' → g'.S = S' → Rep K g' → RE K g' e σ → D.ct σ g'.H
  | .rt d S' => ∀ g' v, Ext g g' → g'.S = S' → Rep K g' → RD K g' d v → D.rt v g'.H
  | .er x e S' => ∀ g' σ cls d, Ext g g' → g'.S = S' → Rep K g' → RE K g' e σ → RX K g' x cls d → W cls d σ g'.H
  | .bad => False
def tS (m : MS) : TS := fun D σ H => ∃ g e, g.H = H ∧ Rep K g ∧ RE K g e σ ∧ PostS K W g (m e g.S) D
end
theorem PostS.mono {K : PySem.W.Frag} {W : WX'} {g g1 : G} {r : RS} {D : Ends} (e : Ext g g1) (h : PostS K W g r D) : PostS K W g1 r D := by
  cases r with
  | nx en S => exact fun g' σ e' => h g' σ (e.trans e')
  | bk en S => exact fun g' σ e' => h g' σ (e.trans e')
  | ct en S => exact fun g' σ e' => h g' σ (e.trans e')
  | rt d S => exact fun g' σ e' => h g' σ (e.trans e')
  | er x en S => exact fun g' σ c d e' => h g' σ c d (e.trans e')
  | bad => exact h
theorem tE.of {K : PySem.W.Frag} {W : WX'} {m : ME} {g : G} {e : Env} {σ : St} {Q : VK} (rp : Rep K g) (re : RE K g e σ) (h : Post K W g (m e g.S) σ fun d g' => ∀ v, RD K g' d v → Q v g'.H) : tE K W m σ g.H Q := ⟨g, e, rfl, rp, re, h⟩
/-- the state that an error carries out of an expression -/
theorem PostS.of_er {α : Type} {K : PySem.W.Frag} {W : WX'} {g : G} {r : R α} {σ : St} {e : Env} {D : Ends} {f : α → List O → RS} (re : RE K g e σ)
    (h : PostS K W g (match r with | .ok a S => f a S | .er x S => .er x e S | .bad => .bad) D) :
    Post K W g r σ fun a g1 => Ext g g1 ∧ Rep K g1 ∧ PostS K W g1 (f a g1.S) D := by
  cases r with
  | ok a S =>
    intro g1 e1 s rp
    subst s
    exact ⟨e1, rp, PostS.mono e1 h⟩
  | er x S => exact fun g' c d e1 s rp rx => h g' σ c d e1 s rp (re.mono e1) rx
  | bad => exact h
end Mo

namespace Mo
open PySem L2

/-! ### what implies what -/
section
variable {X : Cx}
theorem PE.imp {e : Expr} {t t' : TE} (h : PE X e t) (f : ∀ σ H Q, t' σ H Q → t σ H Q) : PE X e t' := ⟨fun p s σ H Q I q => h.run p s σ H Q I (f σ H Q q)⟩
theorem PT.imp {e : Expr} {t t' : TT} (h : PT X e t) (f : ∀ σ H Q, t' σ H Q → t σ H Q) : PT X e t' := ⟨fun p s σ H Q I q => h.run p s σ H Q I (f σ H Q q)⟩
theorem PW.imp {e : Expr} {t t' : TT} (h : PW X e t) (f : ∀ σ H Q, t' σ H Q → t σ H Q) : PW X e t' := ⟨fun w p s σ H Q I q => h.run w p s σ H Q I (f σ H Q q)⟩
theorem PA.imp {e : List Expr} {t t' : TA} (h : PA X e t) (f : ∀ σ H Q, t' σ H Q → t σ H Q) : PA X e t' := ⟨fun o p s σ H Q I q => h.run o p s σ H Q I (f σ H Q q)⟩
theorem PS.imp {e : Stmt} {t t' : TS} (h : PS X e t) (f : ∀ D σ H, t' D σ H → t D σ H) : PS X e t' := ⟨fun p s σ H D I q => h.run p s σ H D I (f D σ H q)⟩
theorem PSs.imp {e : List Stmt} {t t' : TS} (h : PSs X e t) (f : ∀ D σ H, t' D σ H → t D σ H) : PSs X e t' := ⟨fun p s σ H D I q => h.run p s σ H D I (f D σ H q)⟩
end
def sz : Nat := 16777216
theorem sz_eq : sz = sizeLine := sizeLine_eq.symm

/-! ### expressions as functions -/
def mC (d : D) : ME := fun _ S => .ok d S
def mVar (i : Nat) : ME := fun e S => match e[i]? with
  | some (some d) => .ok d S
  | _ => .bad
abbrev Op2 := List O → D → D → Option D
abbrev Op1 := List O → D → Option D
def R.ofO (S : List O) : Option D → R D
  | some d => .ok d S
  | none => .bad
def mBin (f : Op2) (ma mb : ME) : ME := fun e S => (ma e S).bind fun a S1 => (mb e S1).bind fun b S2 => R.ofO S2 (f S2 a b)
def mUn (f : Op1) (ma : ME) : ME := fun e S => (ma e S).bind fun a S1 => R.ofO S1 (f S1 a)
def mNil : MA := fun _ S => .ok [] S
def mCons (ma : ME) (mr : MA) : MA := fun e S => (ma e S).bind fun a S1 => (mr e S1).bind fun l S2 => .ok (a :: l) S2
/-- a value as a truth: it is a bool -/
def asB (S : List O) : D → R Bool
  | .bl b => .ok b S
  | _ => .bad
def mTB (m : ME) : MT := fun e S => (m e S).bind fun d S1 => asB S1 d
def mAnd (t u : MT) : MT := fun e S => (t e S).bind fun b S1 => if b then u e S1 else .ok false S1
def mOr (t u : MT) : MT := fun e S => (t e S).bind fun b S1 => if b then .ok true S1 else u e S1
def mNot (t : MT) : MT := fun e S => (t e S).bind fun b S1 => .ok (!b) S1
def mIf (t : MT) (ma mb : ME) : ME := fun e S => (t e S).bind fun b S1 => if b then ma e S1 else mb e S1
def mAndV (ma mb : ME) : ME := fun e S => (ma e S).bind fun d S1 => (asB S1 d).bind fun b S2 => if b then mb e S2 else .ok (.bl false) S2
def mOrV (ma mb : ME) : ME := fun e S => (ma e S).bind fun d S1 => (asB S1 d).bind fun b S2 => if b then .ok (.bl true) S2 else mb e S2
def mNotV (ma : ME) : ME := fun e S => (ma e S).bind fun d S1 => (asB S1 d).bind fun b S2 => .ok (.bl (!b)) S2

/-- an operation of two values, one, many, by the data -/
def rOp (K : PySem.W.Frag) (f : Op2) : R2 := fun x y H Q => ∃ g a b d, g.H = H ∧ Rep K g ∧ RD K g a x ∧ RD K g b y ∧ f g.S a b = some d ∧ ∀ g' v, Ext g g' → g'.S = g.S → Rep K g' → RD K g' d v → Q v g'.H
def rUn (K : PySem.W.Frag) (f : Op1) : V → Hp → VK → Prop := fun x H Q => ∃ g a d, g.H = H ∧ Rep K g ∧ RD K g a x ∧ f g.S a = some d ∧ ∀ g' v, Ext g g' → g'.S = g.S → Rep K g' → RD K g' d v → Q v g'.H

section
variable {K : PySem.W.Frag} {W : WX'} {σ : St} {H : Hp} {Q : VK}
theorem i_C {d : D} {v : V} (r : ∀ g, RD K g d v) (h : tE K W (mC d) σ H Q) : tC v σ H Q := by
  obtain ⟨g, e, rfl, rp, re, p⟩ := h
  exact Post.here rp p v (r g)
theorem i_var {i : Nat} (h : tE K W (mVar i) σ H Q) : tVar i σ H Q := by
  obtain ⟨g, e, rfl, rp, re, p⟩ := h
  unfold mVar at p
  split at p
  · rename_i d q
    obtain ⟨v, a, b⟩ := re.2 i d q
    exact ⟨v, a, Post.here rp p v b⟩
  · exact False.elim p
theorem i_bin {f : Op2} {ma mb : ME} (h : tE K W (mBin f ma mb) σ H Q) : tOp (rOp K f) (tE K W ma) (tE K W mb) σ H Q := by
  obtain ⟨g, e, rfl, rp, re, p⟩ := h
  refine ⟨g, e, rfl, rp, re, (Post.bind p).imp fun a g1 e1 r1 ⟨_, _, p1⟩ v rv => ?_⟩
  refine ⟨g1, e, rfl, r1, re.mono e1, (Post.bind p1).imp fun b g2 e2 r2 ⟨_, _, p2⟩ u ru => ?_⟩
  cases q : f g2.S a b with
  | none => rw [q] at p2; exact False.elim p2
  | some d =>
    rw [q] at p2
    exact ⟨g2, a, b, d, rfl, r2, rv.mono e2, ru, q, fun g' w x s r rw' => p2 g' x s r w rw'⟩
theorem i_un {f : Op1} {ma : ME} (h : tE K W (mUn f ma) σ H Q) : tUn (rUn K f) (tE K W ma) σ H Q := by
  obtain ⟨g, e, rfl, rp, re, p⟩ := h
  refine ⟨g, e, rfl, rp, re, (Post.bind p).imp fun a g1 e1 r1 ⟨_, _, p1⟩ v rv => ?_⟩
  cases q : f g1.S a with
  | none => rw [q] at p1; exact False.elim p1
  | some d =>
    rw [q] at p1
    exact ⟨g1, a, d, rfl, r1, rv, q, fun g' w x s r rw' => p1 g' x s r w rw'⟩
theorem i_nil {Q : List V → Hp → Prop} (h : tA K W mNil σ H Q) : tNil σ H Q := by
  obtain ⟨g, e, rfl, rp, re, p⟩ := h
  exact Post.here rp p [] RDs.nil
theorem i_cons {ma : ME} {mr : MA} {Q : List V → Hp → Prop} (h : tA K W (mCons ma mr) σ H Q) : tCons (tE K W ma) (tA K W mr) σ H Q := by
  obtain ⟨g, e, rfl, rp, re, p⟩ := h
  refine ⟨g, e, rfl, rp, re, (Post.bind p).imp fun a g1 e1 r1 ⟨_, _, p1⟩ v rv => ?_⟩
  refine ⟨g1, e, rfl, r1, re.mono e1, (Post.bind p1).imp fun l g2 e2 r2 ⟨_, _, p2⟩ vs rs => ?_⟩
  exact Post.here r2 p2 (v :: vs) (RDs.cons (rv.mono e2) rs)
theorem asB_post {g : G} {d : D} {σ : St} {k : Bool → G → Prop} (rp : Rep K g) (h : Post K W g (asB g.S d) σ k) {v : V} (r : RD K g d v) : ∃ b, v = .bl b ∧ k b g := by
  cases d with
  | bl b =>
    rw [RD] at r
    exact ⟨b, r, Post.here rp h⟩
  | _ => exact False.elim h
theorem i_tTest {m : ME} {Q : Bool → Hp → Prop} (h : tT K W (mTB m) σ H Q) : tTest (tE K W m) σ H Q := by
  obtain ⟨g, e, rfl, rp, re, p⟩ := h
  refine ⟨g, e, rfl, rp, re, (Post.bind p).imp fun a g1 e1 r1 ⟨_, _, p1⟩ v rv => asB_post r1 p1 rv⟩
theorem i_tB {m : ME} {Q : Bool → Hp → Prop} (h : tT K W (mTB m) σ H Q) : tB (tE K W m) σ H Q := i_tTest h
theorem i_and {t u : MT} {Q : Bool → Hp → Prop} (h : tT K W (mAnd t u) σ H Q) : tAnd (tT K W t) (tT K W u) σ H Q := by
  obtain ⟨g, e, rfl, rp, re, p⟩ := h
  refine ⟨g, e, rfl, rp, re, (Post.bind p).imp fun b g1 e1 r1 ⟨_, _, p1⟩ => ?_⟩
  cases b with
  | true => exact ⟨g1, e, rfl, r1, re.mono e1, p1⟩
  | false => exact Post.here r1 p1
theorem i_or {t u : MT} {Q : Bool → Hp → Prop} (h : tT K W (mOr t u) σ H Q) : tOr (tT K W t) (tT K W u) σ H Q := by
  obtain ⟨g, e, rfl, rp, re, p⟩ := h
  refine ⟨g, e, rfl, rp, re, (Post.bind p).imp fun b g1 e1 r1 ⟨_, _, p1⟩ => ?_⟩
  cases b with
  | false => exact ⟨g1, e, rfl, r1, re.mono e1, p1⟩
  | true => exact Post.here r1 p1
theorem i_not {t : MT} {Q : Bool → Hp → Prop} (h : tT K W (mNot t) σ H Q) : tNot (tT K W t) σ H Q := by
  obtain ⟨g, e, rfl, rp, re, p⟩ := h
  exact ⟨g, e, rfl, rp, re, (Post.bind p).imp fun b g1 e1 r1 ⟨_, _, p1⟩ => Post.here r1 p1⟩
theorem i_if {t : MT} {ma mb : ME} (h : tE K W (mIf t ma mb) σ H Q) : tIf (tT K W t) (tE K W ma) (tE K W mb) σ H Q := by
  obtain ⟨g, e, rfl, rp, re, p⟩ := h
  refine ⟨g, e, rfl, rp, re, (Post.bind p).imp fun b g1 e1 r1 ⟨_, _, p1⟩ => ?_⟩
  cases b with
  | true => exact ⟨g1, e, rfl, r1, re.mono e1, p1⟩
  | false => exact ⟨g1, e, rfl, r1, re.mono e1, p1⟩
theorem i_andV {ma mb : ME} (h : tE K W (mAndV ma mb) σ H Q) : tAndV (tE K W ma) (tE K W mb) σ H Q := by
  obtain ⟨g, e, rfl, rp, re, p⟩ := h
  refine ⟨g, e, rfl, rp, re, (Post.bind p).imp fun a g1 e1 r1 ⟨_, _, p1⟩ v rv => ?_⟩
  obtain ⟨b, hb, _, _, p2⟩ := asB_post r1 (Post.bind p1) rv
  refine ⟨b, hb, ?_⟩
  cases b with
  | true => exact ⟨g1, e, rfl, r1, re.mono e1, p2⟩
  | false => exact Post.here r1 p2 _ (by rw [RD])
theorem i_orV {ma mb : ME} (h : tE K W (mOrV ma mb) σ H Q) : tOrV (tE K W ma) (tE K W mb) σ H Q := by
  obtain ⟨g, e, rfl, rp, re, p⟩ := h
  refine ⟨g, e, rfl, rp, re, (Post.bind p).imp fun a g1 e1 r1 ⟨_, _, p1⟩ v rv => ?_⟩
  obtain ⟨b, hb, _, _, p2⟩ := asB_post r1 (Post.bind p1) rv
  refine ⟨b, hb, ?_⟩
  cases b with
  | false => exact ⟨g1, e, rfl, r1, re.mono e1, p2⟩
  | true => exact Post.here r1 p2 _ (by rw [RD])
theorem i_notV {ma : ME} (h : tE K W (mNotV ma) σ H Q) : tNotV (tE K W ma) σ H Q := by
  obtain ⟨g, e, rfl, rp, re, p⟩ := h
  refine ⟨g, e, rfl, rp, re, (Post.bind p).imp fun a g1 e1 r1 ⟨_, _, p1⟩ v rv => ?_⟩
  obtain ⟨b, hb, _, _, p2⟩ := asB_post r1 (Post.bind p1) rv
  exact ⟨b, hb, Post.here r1 p2 _ (by rw [RD])⟩
end

section
variable {X : Cx} {W : WX'} {a b c : Expr} {ma mb mc : ME} {ta tb tc : MT} {pos : Pos} {rest : List Expr}
theorem pm_var (i : Nat) {x : Str} {pos : Pos} (hN : X.N[i]? = some x := by rfl) (hv : Vis X.env.scope x := by first | exact Or.inl rfl | exact Or.inr (Or.inl rfl) | exact Or.inr (Or.inr rfl)) (hd : (x == ("__debug__" : Str)) = false := by decide)
    (hcd : (x == ("__classdict__" : Str)) = false := by decide) : PE X (.Name x pos) (tE X.K W (mVar i)) := PE.imp (pe_var hN hv hd hcd) fun _ _ _ => i_var
theorem pm_int {i j pos} : PE X (.Constant (.int i) j pos) (tE X.K W (mC (.int i))) := PE.imp pe_int fun _ _ _ => i_C fun g => by rw [RD]
theorem pm_bl {i j pos} : PE X (.Constant (.bool i) j pos) (tE X.K W (mC (.bl i))) := PE.imp pe_bl fun _ _ _ => i_C fun g => by rw [RD]
theorem pm_non {j pos} : PE X (.Constant .none j pos) (tE X.K W (mC .non)) := PE.imp pe_non fun _ _ _ => i_C fun g => by rw [RD]
theorem pm_str {i j pos} : PE X (.Constant (.str i) j pos) (tE X.K W (mC (.str i))) := PE.imp pe_str fun _ _ _ => i_C fun g => by rw [RD]
theorem pm_bltn {x : Str} {n : String} {pos : Pos} (hg : Gl X x) (hm : X.mg x = none) (hv : bootBuiltins x = some (.type n)) (hn : x ≠ "__name__" := by decide) (hd : (x == ("__debug__" : Str)) = false := by decide) : PE X (.Name x pos) (tE X.K W (mC (.ty n))) :=
  PE.imp (pe_bltn (v := .ty n) hg hm hv rfl hn hd) fun _ _ _ => i_C fun g => by rw [RD]
theorem pm_glob {x : Str} {p : Addr} {pos : Pos} (hg : Gl X x) (hm : X.mg x = some (.ref p)) (hd : (x == ("__debug__" : Str)) = false := by decide) : PE X (.Name x pos) (tE X.K W (mC (.adr p))) :=
  PE.imp (pe_glob (v := .ref p) hg hm rfl hd) fun _ _ _ => i_C fun g => by rw [RD]
theorem pm_bin {op : Operator} {f : Op2} (ho : OpR X (binaryOp op) (rOp X.K f)) (ha : PE X a (tE X.K W ma)) (hb : PE X b (tE X.K W mb)) : PE X (.BinOp a op b pos) (tE X.K W (mBin f ma mb)) := PE.imp (pe_op ho ha hb) fun _ _ _ => i_bin
theorem pm_un {op : UnaryOp} {f : Op1} (ho : UnR X (unaryOp op) (rUn X.K f)) (ha : PE X a (tE X.K W ma)) : PE X (.UnaryOp op a pos) (tE X.K W (mUn f ma)) := PE.imp (pe_un ho ha) fun _ _ _ => i_un
theorem pm_cmp {op : CmpOp} {f : Op2} (ho : OpR X (compareOp op) (rOp X.K f)) (ha : PE X a (tE X.K W ma)) (hb : PE X b (tE X.K W mb)) (hm : behindInMarks op b = false := by first | exact nomark _ | rfl | with_unfolding_all rfl) :
    PE X (.Compare a [op] [b] pos) (tE X.K W (mBin f ma mb)) := PE.imp (pe_cmpR ho ha hb hm) fun _ _ _ => i_bin
theorem qm_cmp {op : CmpOp} {f : Op2} (ho : OpR X (compareOp op) (rOp X.K f)) (ha : PE X a (tE X.K W ma)) (hb : PE X b (tE X.K W mb)) (hm : behindInMarks op b = false := by first | exact nomark _ | rfl | with_unfolding_all rfl) :
    PT X (.Compare a [op] [b] pos) (tT X.K W (mTB (mBin f ma mb))) := PT.imp (pt_cmpR ho ha hb hm) fun σ H Q h => by
  obtain ⟨g, e, rfl, rp, re, p⟩ := i_tTest h
  exact i_bin ⟨g, e, rfl, rp, re, p⟩
/-- any expression that gives a bool, as a test -/
theorem qm_val (ha : PE X a (tE X.K W ma)) (he : ∀ whole, isTrue a X.env whole = (do let v ← whole; standAt a.pos; holding [v] (truthy v)) := by intro _; rfl) : PT X a (tT X.K W (mTB ma)) := PT.imp (pt_val ha he) fun _ _ _ => i_tB
theorem qm_and1 (ha : PT X a (tT X.K W ta)) : PW X (.BoolOp .And [a] pos) (tT X.K W ta) := pw_and1 ha
theorem qm_or1 (ha : PT X a (tT X.K W ta)) : PW X (.BoolOp .Or [a] pos) (tT X.K W ta) := pw_or1 ha
theorem qm_and (ha : PT X a (tT X.K W ta)) (hb : PW X (.BoolOp .And (b :: rest) pos) (tT X.K W tb)) : PW X (.BoolOp .And (a :: b :: rest) pos) (tT X.K W (mAnd ta tb)) := PW.imp (pw_and ha hb) fun _ _ _ => i_and
theorem qm_or (ha : PT X a (tT X.K W ta)) (hb : PW X (.BoolOp .Or (b :: rest) pos) (tT X.K W tb)) : PW X (.BoolOp .Or (a :: b :: rest) pos) (tT X.K W (mOr ta tb)) := PW.imp (pw_or ha hb) fun _ _ _ => i_or
theorem qm_not (ha : PT X a (tT X.K W ta)) : PT X (.UnaryOp .Not a pos) (tT X.K W (mNot ta)) := PT.imp (pt_not ha) fun _ _ _ => i_not
theorem pm_if (hc : PT X c (tT X.K W tc)) (ha : PE X a (tE X.K W ma)) (hb : PE X b (tE X.K W mb)) : PE X (.IfExp c a b pos) (tE X.K W (mIf tc ma mb)) := PE.imp (pe_ifExp hc ha hb) fun _ _ _ => i_if
theorem pm_one {op} (h : PE X a (tE X.K W ma)) : PE X (.BoolOp op [a] pos) (tE X.K W ma) := pe_one h
theorem pm_and (ha : PE X a (tE X.K W ma)) (hb : PE X (.BoolOp .And (b :: rest) pos) (tE X.K W mb)) : PE X (.BoolOp .And (a :: b :: rest) pos) (tE X.K W (mAndV ma mb)) := PE.imp (pe_and ha hb) fun _ _ _ => i_andV
theorem pm_or (ha : PE X a (tE X.K W ma)) (hb : PE X (.BoolOp .Or (b :: rest) pos) (tE X.K W mb)) : PE X (.BoolOp .Or (a :: b :: rest) pos) (tE X.K W (mOrV ma mb)) := PE.imp (pe_or ha hb) fun _ _ _ => i_orV
theorem pm_not (ha : PE X a (tE X.K W ma)) : PE X (.UnaryOp .Not a pos) (tE X.K W (mNotV ma)) := PE.imp (pe_not ha) fun _ _ _ => i_notV
theorem am_nil : PA X [] (tA X.K W mNil) := PA.imp pa_nil fun _ _ _ => i_nil
theorem am_cons {mr : MA} {es : List Expr} (ha : PE X a (tE X.K W ma)) (hr : PA X es (tA X.K W mr)) (hs : starEach (a :: es) X.env = (false, eval a X.env) :: starEach es X.env := by rfl) : PA X (a :: es) (tA X.K W (mCons ma mr)) :=
  PA.imp (pa_cons ha hr hs) fun _ _ _ => i_cons
end

/-! ### new sequences -/
def mTup (m : MA) : ME := fun e S => (m e S).bind fun l S1 => if l.length ≤ sz then .ok (.tup l) S1 else .bad
/-- a list that is never changed again -/
def mLst (m : MA) : ME := fun e S => (m e S).bind fun l S1 => if l.length ≤ sz then .ok (.lst l) S1 else .bad
/-- a list that is changed later -/
def mNew (m : MA) : ME := fun e S => (m e S).bind fun l S1 => if l.length ≤ sz then .ok (.ref S1.length) (S1 ++ [.lst l]) else .bad
section
variable {K : PySem.W.Frag} {g : G} {p : Addr}
theorem new_tup (rp : Rep K g) (hp : g.H p = none) {l : List D} {vs : List V} (r : RDs K g l vs) : Ext g { g with H := upd g.H p (.tup vs) } ∧ Rep K { g with H := upd g.H p (.tup vs) } ∧ RD K { g with H := upd g.H p (.tup vs) } (.tup l) (.ref p) := by
  refine ⟨Ext.newv hp, rp.newv hp, ?_⟩
  rw [RD]
  exact ⟨p, vs, rfl, .inl ⟨.inl upd_same, rp.fresh hp⟩, r.mono (Ext.newv hp)⟩
theorem new_lst (rp : Rep K g) (hp : g.H p = none) {l : List D} {vs : List V} (r : RDs K g l vs) : Ext g { g with H := upd g.H p (.lst vs) } ∧ Rep K { g with H := upd g.H p (.lst vs) } ∧ RD K { g with H := upd g.H p (.lst vs) } (.lst l) (.ref p) := by
  refine ⟨Ext.newv hp, rp.newv hp, ?_⟩
  rw [RD]
  exact ⟨p, vs, rfl, ⟨.inl upd_same, rp.fresh hp⟩, r.mono (Ext.newv hp)⟩
theorem new_ref (rp : Rep K g) (hp : g.H p = none) {l : List D} {vs : List V} (r : RDs K g l vs) : Ext g (g.add p (.lst l) (.lst vs)) ∧ Rep K (g.add p (.lst l) (.lst vs)) ∧ RD K (g.add p (.lst l) (.lst vs)) (.ref g.S.length) (.ref p) := by
  refine ⟨Ext.add rp hp, rp.add hp ⟨vs, upd_same, r.mono (Ext.add rp hp)⟩, ?_⟩
  rw [RD]
  exact ⟨by simp, by simp⟩
end
section
variable {K : PySem.W.Frag} {W : WX'} {σ : St} {H : Hp} {Q : VK}
theorem i_tup {m : MA} (h : tE K W (mTup m) σ H Q) : tTup (tA K W m) σ H Q := by
  obtain ⟨g, e, rfl, rp, re, p⟩ := h
  refine ⟨g, e, rfl, rp, re, (Post.bind p).imp fun l g1 e1 r1 ⟨_, _, p1⟩ vs rv => ?_⟩
  by_cases hl : l.length ≤ sz
  · rw [if_pos hl] at p1
    refine ⟨by rw [← rv.length, ← sz_eq]; exact hl, fun q hq => ?_⟩
    obtain ⟨x, y, z⟩ := new_tup r1 hq rv
    exact p1 _ x rfl y _ z
  · rw [if_neg hl] at p1; exact False.elim p1
theorem i_lst {m : MA} (h : tE K W (mLst m) σ H Q) : tLst (tA K W m) σ H Q := by
  obtain ⟨g, e, rfl, rp, re, p⟩ := h
  refine ⟨g, e, rfl, rp, re, (Post.bind p).imp fun l g1 e1 r1 ⟨_, _, p1⟩ vs rv => ?_⟩
  by_cases hl : l.length ≤ sz
  · rw [if_pos hl] at p1
    refine ⟨by rw [← rv.length, ← sz_eq]; exact hl, fun q hq => ?_⟩
    obtain ⟨x, y, z⟩ := new_lst r1 hq rv
    exact p1 _ x rfl y _ z
  · rw [if_neg hl] at p1; exact False.elim p1
theorem i_new {m : MA} (h : tE K W (mNew m) σ H Q) : tLst (tA K W m) σ H Q := by
  obtain ⟨g, e, rfl, rp, re, p⟩ := h
  refine ⟨g, e, rfl, rp, re, (Post.bind p).imp fun l g1 e1 r1 ⟨_, _, p1⟩ vs rv => ?_⟩
  by_cases hl : l.length ≤ sz
  · rw [if_pos hl] at p1
    refine ⟨by rw [← rv.length, ← sz_eq]; exact hl, fun q hq => ?_⟩
    obtain ⟨x, y, z⟩ := new_ref r1 hq rv
    exact p1 _ x rfl y _ z
  · rw [if_neg hl] at p1; exact False.elim p1
end
section
variable {X : Cx} {W : WX'} {es : List Expr} {m : MA} {pos : Pos}
theorem pm_tup {x1} (h : PA X es (tA X.K W m)) : PE X (.Tuple es x1 pos) (tE X.K W (mTup m)) := PE.imp (pe_tup h) fun _ _ _ => i_tup
theorem pm_lst (h : PA X es (tA X.K W m)) : PE X (.List es pos) (tE X.K W (mLst m)) := PE.imp (pe_lst h) fun _ _ _ => i_lst
theorem pm_new (h : PA X es (tA X.K W m)) : PE X (.List es pos) (tE X.K W (mNew m)) := PE.imp (pe_lst h) fun _ _ _ => i_new
end

/-! ### what a sequence holds -/
/-- a list, to be read -/
def seqR (S : List O) : D → Option (List D)
  | .lst l => some l
  | .kl l => some l
  | .ref n => match S[n]? with
    | some (.lst l) => some l
    | _ => none
  | _ => none
/-- a list that the program made -/
def seqP (S : List O) : D → Option (List D)
  | .lst l => some l
  | .ref n => match S[n]? with
    | some (.lst l) => some l
    | _ => none
  | _ => none
section
variable {K : PySem.W.Frag} {g : G}
theorem seqR_at (rp : Rep K g) {d : D} {l : List D} (h : seqR g.S d = some l) {v : V} (r : RD K g d v) : ∃ a vs, v = .ref a ∧ SqL K g.H a vs ∧ RDs K g l vs := by
  cases d with
  | lst m =>
    cases h
    rw [RD] at r
    obtain ⟨a, vs, h1, h2, h3⟩ := r
    exact ⟨a, vs, h1, h2.sq, h3⟩
  | kl m =>
    cases h
    rw [RD] at r
    obtain ⟨a, vs, h1, h2, h3⟩ := r
    exact ⟨a, vs, h1, h2.sq, h3⟩
  | ref n =>
    rw [RD] at r
    unfold seqR at h
    dsimp only at h
    split at h
    · rename_i m q
      cases h
      obtain ⟨vs, h1, h2⟩ := rp.obj n _ q
      exact ⟨_, vs, r.2, .inl (.inl h1), h2⟩
    · cases h
  | _ => cases h
theorem seqP_at (rp : Rep K g) {d : D} {l : List D} (h : seqP g.S d = some l) {v : V} (r : RD K g d v) : ∃ a vs, v = .ref a ∧ Rd g.H a (.lst vs) ∧ RDs K g l vs := by
  cases d with
  | lst m =>
    cases h
    rw [RD] at r
    obtain ⟨a, vs, h1, h2, h3⟩ := r
    exact ⟨a, vs, h1, h2.1, h3⟩
  | ref n =>
    rw [RD] at r
    unfold seqP at h
    dsimp only at h
    split at h
    · rename_i m q
      cases h
      obtain ⟨vs, h1, h2⟩ := rp.obj n _ q
      exact ⟨_, vs, r.2, .inl h1, h2⟩
    · cases h
  | _ => cases h
end
end Mo

namespace Mo
open PySem L2 PyProof.Rows

/-! ### operators -/
/-- x ++ y, by lists -/
def apS (x y : Str) : Str := ⟨⟨x.cps.toList ++ y.cps.toList⟩⟩
theorem apS_eq (x y : Str) : apS x y = x ++ y := by
  show _ = Str.append x y
  unfold apS Str.append
  congr 1
  apply Array.toList_inj.mp
  rw [Array.toList_append]
def gAdd : Op2 := fun S a b => match a, b with
  | .int i, .int j => some (.int (i + j))
  | .int i, .bl k => some (.int (i + b2i k))
  | .str x, .str y => if x.length + y.length ≤ sz then some (.str (apS x y)) else none
  | .tup x, .tup y => if x.length + y.length ≤ sz then some (.tup (x ++ y)) else none
  | a, b => match seqP S a, seqP S b with
    | some x, some y => if x.length + y.length ≤ sz then some (.lst (x ++ y)) else none
    | _, _ => none
def gSub : Op2 := fun _ a b => match a, b with
  | .int i, .int j => some (.int (i - j))
  | _, _ => none
def gMul : Op2 := fun S a b => match a, b with
  | .int i, .int j => if (i.natAbs < 18446744073709551616) ∨ (j.natAbs < 18446744073709551616) then some (.int (i * j)) else none
  | a, .int k => match seqP S a with
    | some x => if x.length * k.toNat ≤ sz ∧ k.natAbs < 9223372036854775808 then some (.lst (List.replicate k.toNat x).flatten) else none
    | none => none
  | _, _ => none
def gDiv : Op2 := fun _ a b => match a, b with
  | .int i, .int j => if 0 < j ∧ j.natAbs.log2 < 9000 then some (.int (i / j)) else none
  | _, _ => none
def gMod : Op2 := fun _ a b => match a, b with
  | .int i, .int j => if 0 < j then some (.int (i % j)) else none
  | _, _ => none
def gPow : Op2 := fun _ a b => match a, b with
  | .int i, .int j => if 0 ≤ j ∧ j ≤ 1000000 ∧ i.natAbs < 18446744073709551616 then some (.int (i ^ j.toNat)) else none
  | _, _ => none
def gShl : Op2 := fun _ a b => match a, b with
  | .int i, .int j => if 0 ≤ j ∧ j ≤ 1000000 ∧ i.natAbs < 18446744073709551616 then some (.int (i * 2 ^ j.toNat)) else none
  | _, _ => none
def gNeg : Op1 := fun _ a => match a with
  | .int i => some (.int (-i))
  | _ => none
def gLt : Op2 := fun _ a b => match a, b with
  | .int i, .int j => some (.bl (decide (i < j)))
  | .str x, .str y => some (.bl (decide (x.cps.toList < y.cps.toList)))
  | _, _ => none
def gLe : Op2 := fun _ a b => match a, b with
  | .int i, .int j => some (.bl (decide (i ≤ j)))
  | _, _ => none
def gGt : Op2 := fun _ a b => match a, b with
  | .int i, .int j => some (.bl (decide (j < i)))
  | _, _ => none
def gGe : Op2 := fun _ a b => match a, b with
  | .int i, .int j => some (.bl (decide (j ≤ i)))
  | _, _ => none
mutual
/-- data without objects of one's own -/
def toPy : D → Option PyData
  | .non => some .none
  | .bl b => some (.bool b)
  | .int i => some (.int i)
  | .str x => some (.str x)
  | .tup l => match toPys l with | some m => some (.tuple m) | none => none
  | .lst l => match toPys l with | some m => some (.list m) | none => none
  | .kl l => match toPys l with | some m => some (.list m) | none => none
  | _ => none
def toPys : List D → Option (List PyData)
  | [] => some []
  | d :: l => match toPy d, toPys l with | some x, some m => some (x :: m) | _, _ => none
end
def toPyS (S : List O) (d : D) : Option PyData := match d with
  | .ref n => match S[n]? with
    | some (.lst l) => (match toPys l with | some m => some (.list m) | none => none)
    | _ => none
  | d => toPy d
/-- scalars that == tells apart -/
def scD : D → D → Option Bool
  | .int i, .int j => some (decide (i = j))
  | .str i, .str j => some (decide (i.cps.toList = j.cps.toList))
  | .bl i, .bl j => some (i == j)
  | .non, .non => some true
  | .int _, .str _ => some false
  | .str _, .int _ => some false
  | .non, .int _ => some false
  | .int _, .non => some false
  | .non, .str _ => some false
  | .str _, .non => some false
  | .non, .bl _ => some false
  | .bl _, .non => some false
  | .bl _, .str _ => some false
  | .str _, .bl _ => some false
  | _, _ => none
def eqB (S : List O) (a b : D) : Option Bool := match scD a b with
  | some k => some k
  | none => match toPyS S a, toPyS S b with
    | some p, some q => if SeqAt.shaped p = true ∧ SeqAt.shaped q = true then some (PyData.eqv p q) else none
    | _, _ => none
def gEq : Op2 := fun S a b => (eqB S a b).map .bl
def gNe : Op2 := fun S a b => (eqB S a b).map fun k => .bl (!k)
def gIsN : Op2 := fun _ a b => match b with
  | .non => some (.bl (decide (a = .non)))
  | _ => none
def gNotN : Op2 := fun _ a b => match b with
  | .non => some (.bl (!decide (a = .non)))
  | _ => none
def flatD : D → Bool
  | .non => true | .bl _ => true | .int _ => true | .str _ => true | _ => false
def eqD : D → D → Bool
  | .non, .non => true
  | .bl a, .bl b => a == b
  | .bl a, .int b => (if a then 1 else 0) == b
  | .int a, .bl b => a == (if b then 1 else 0)
  | .int a, .int b => a == b
  | .str a, .str b => a == b
  | _, _ => false
def inD (x : D) (l : List D) : Bool := l.any fun y => eqD y x
def elemB (S : List O) (a b : D) : Option Bool := match b with
  | .str z => match a with
    | .str y => some (!(Builtin.Str.occurrences z y 0 z.length 1).isEmpty)
    | _ => none
  | .tup l => if flatD a = true ∧ l.all flatD = true then some (inD a l) else none
  | b => match seqR S b with
    | some l => if flatD a = true ∧ l.all flatD = true then some (inD a l) else none
    | none => none
def gIn : Op2 := fun S a b => (elemB S a b).map .bl
def gNin : Op2 := fun S a b => (elemB S a b).map fun k => .bl (!k)

section
variable {K : PySem.W.Frag} {g : G}
theorem rd_sc {d : D} {v : V} (h : flatD d = true) (r : RD K g d v) : flatV v = true := by
  cases d <;> first | (cases h; done) | (simp only [RD] at r; subst r; rfl)
theorem dec_strl {x y : Str} : decide (V.str x = V.str y) = decide (x.cps.toList = y.cps.toList) := by
  by_cases h : x = y
  · subst h; rw [decide_eq_true rfl, decide_eq_true rfl]
  · rw [decide_eq_false (fun z => h (by cases z; rfl)), decide_eq_false (fun z => h (by
      cases x with | mk a => cases y with | mk b => cases a with | mk a => cases b with | mk b => simp at z; subst z; rfl))]
theorem scD_ok {a b : D} {k : Bool} (h : scD a b = some k) {x y : V} (ra : RD K g a x) (rb : RD K g b y) : scal x y = true ∧ decide (x = y) = k := by
  cases a <;> cases b <;> first
    | (cases h; done)
    | (simp only [RD] at ra rb; subst ra; subst rb; cases h; refine ⟨rfl, ?_⟩; first | rfl | exact dec_strl | (simp; done) | exact dec_bl)
mutual
theorem toPy_ok : ∀ {d : D} {p : PyData} {v : V}, toPy d = some p → RD K g d v → Dp K g.H v p
  | .non, p, v, h, r => by rw [RD] at r; subst r; cases h; exact .non
  | .bl b, p, v, h, r => by rw [RD] at r; subst r; cases h; exact .bl b
  | .int i, p, v, h, r => by rw [RD] at r; subst r; cases h; exact .int i
  | .str x, p, v, h, r => by rw [RD] at r; subst r; cases h; exact .str x
  | .tup l, p, v, h, r => by
    rw [toPy] at h
    cases q : toPys l with
    | none => rw [q] at h; cases h
    | some m =>
      rw [q] at h; cases h
      rw [RD] at r
      obtain ⟨a, vs, rfl, h2, h3⟩ := r
      exact .tup h2.sq (toPys_ok q h3)
  | .lst l, p, v, h, r => by
    rw [toPy] at h
    cases q : toPys l with
    | none => rw [q] at h; cases h
    | some m =>
      rw [q] at h; cases h
      rw [RD] at r
      obtain ⟨a, vs, rfl, h2, h3⟩ := r
      exact .lst h2.sq (toPys_ok q h3)
  | .kl l, p, v, h, r => by
    rw [toPy] at h
    cases q : toPys l with
    | none => rw [q] at h; cases h
    | some m =>
      rw [q] at h; cases h
      rw [RD] at r
      obtain ⟨a, vs, rfl, h2, h3⟩ := r
      exact .lst h2.sq (toPys_ok q h3)
  | .ty _, p, v, h, r => by cases h
  | .adr _, p, v, h, r => by cases h
  | .ref _, p, v, h, r => by cases h
theorem toPys_ok : ∀ {l : List D} {m : List PyData} {vs : List V}, toPys l = some m → RDs K g l vs → DpAll K g.H vs m
  | [], m, vs, h, r => by rw [RDs] at r; subst r; cases h; exact .nil
  | d :: l, m, vs, h, r => by
    rw [RDs] at r
    obtain ⟨v, us, rfl, h2, h3⟩ := r
    rw [toPys] at h
    cases q1 : toPy d with
    | none => rw [q1] at h; cases h
    | some p =>
      cases q2 : toPys l with
      | none => rw [q1, q2] at h; cases h
      | some ps =>
        rw [q1, q2] at h; cases h
        exact .cons (toPy_ok q1 h2) (toPys_ok q2 h3)
end
theorem toPyS_ok (rp : Rep K g) {d : D} {p : PyData} {v : V} (h : toPyS g.S d = some p) (r : RD K g d v) : Dp K g.H v p := by
  cases d with
  | ref n =>
    rw [RD] at r
    unfold toPyS at h
    dsimp only at h
    split at h
    · rename_i l q
      cases q2 : toPys l with
      | none => rw [q2] at h; cases h
      | some m =>
        rw [q2] at h; cases h
        obtain ⟨vs, h1, h2⟩ := rp.obj n _ q
        rw [r.2]
        exact .lst (.inl (.inl h1)) (toPys_ok q2 h2)
    · cases h
  | _ => exact toPy_ok h r
theorem rds_flat : ∀ {l : List D} {vs : List V}, l.all flatD = true → RDs K g l vs → vs.all flatV = true
  | [], _, _, r => by rw [RDs] at r; subst r; rfl
  | d :: l, _, h, r => by
    rw [RDs] at r
    obtain ⟨v, us, rfl, h2, h3⟩ := r
    rw [List.all_cons, Bool.and_eq_true] at h ⊢
    exact ⟨rd_sc h.1 h2, rds_flat h.2 h3⟩
theorem eqD_ok {a b : D} {x y : V} (ra : RD K g a x) (rb : RD K g b y) (fa : flatD a = true) (fb : flatD b = true) : eqV x y = eqD a b := by
  cases a <;> first | (cases fa; done) | (cases b <;> first | (cases fb; done) | (simp only [RD] at ra rb; subst ra; subst rb; rfl))
theorem inD_ok {a : D} {x : V} (ra : RD K g a x) (fa : flatD a = true) : ∀ {l : List D} {vs : List V}, l.all flatD = true → RDs K g l vs → inV x vs = inD a l
  | [], _, _, r => by rw [RDs] at r; subst r; rfl
  | d :: l, _, h, r => by
    rw [RDs] at r
    obtain ⟨v, us, rfl, h2, h3⟩ := r
    rw [List.all_cons, Bool.and_eq_true] at h
    have ih := inD_ok ra fa h.2 h3
    unfold inV inD at ih ⊢
    rw [List.any_cons, List.any_cons, ih, eqD_ok h2 ra h.1 fa]
end

section
variable {X : Cx}
theorem rd_lst {pins : List (Addr × Obj)} {σ : L2.St} {H : Hp} {s : Shared} {l : Addr} {xs : List V} (I : Inv X pins σ H s) (h : Rd H l (.lst xs)) :
    xs.length ≤ sizeLine ∧ ∃ (its : List Value) (n : Nat), Vals xs its ∧ xs.length = its.length ∧ s.heap.get? l = some { cls := .type "list", data := .seq its.toArray n } := by
  obtain ⟨z, its, n, r, e⟩ := h.ok I.hok
  exact ⟨z, its, n, r, r.length, e⟩
theorem catR : OpR X (binaryOp .Add) (fun x y H Q => ∃ l b xs zs, x = .ref l ∧ y = .ref b ∧ Rd H l (.lst xs) ∧ Rd H b (.lst zs) ∧ xs.length + zs.length ≤ sizeLine ∧ ∀ p, H p = none → Q (.ref p) (upd H p (.lst (xs ++ zs)))) := by
  intro pins s σ H x y v u Q I rx ry h
  obtain ⟨l, b, xs, zs, rfl, rfl, hH, hB, hz, q⟩ := h
  cases rx
  cases ry
  obtain ⟨_, its, n, r, hl, e⟩ := rd_lst I hH
  obtain ⟨_, jts, m, r2, hl2, e2⟩ := rd_lst I hB
  refine PySem.P.add_list e e2 ?_ (by rw [List.size_toArray, List.size_toArray]; omega)
  rw [show its.toArray ++ jts.toArray = (its ++ jts).toArray by simp]
  exact ⟨.ref _, _, I.lnew (t' := s.toks) (r.append r2) (by rw [List.length_append]; omega), rfl, q _ I.fresh⟩
theorem repR : OpR X (binaryOp .Mult) (fun x y H Q => ∃ l k xs, x = .ref l ∧ y = .int k ∧ Rd H l (.lst xs) ∧ -(2 ^ 63) ≤ k ∧ k < 2 ^ 63 ∧ xs.length * k.toNat ≤ sizeLine ∧
    ∀ p, H p = none → Q (.ref p) (upd H p (.lst (List.replicate k.toNat xs).flatten))) := by
  intro pins s σ H x y v u Q I rx ry h
  obtain ⟨l, k, xs, rfl, rfl, hH, h1, h2, hz, q⟩ := h
  cases rx
  obtain ⟨t, rfl⟩ := ry
  obtain ⟨_, its, n, r, hl, e⟩ := rd_lst I hH
  have hlen : its.toArray.size * k.toNat ≤ sizeLine := by rw [List.size_toArray, ← hl]; exact hz
  have big : ¬ its.toArray.size * k.toNat > (2 ^ 63 - 1) / 8 := by
    have : (sizeLine : Nat) ≤ (2 ^ 63 - 1) / 8 := by decide
    omega
  have fits : ¬ (!Builtin.List.listFitsIndex k) = true := by
    rw [fitsIndex_both h1 h2]
    exact Bool.false_ne_true
  have short : ¬ Builtin.List.listTooLong (its.toArray.size * k.toNat) = true := by
    rw [notLongL hlen]
    exact Bool.false_ne_true
  have made : List.foldl (fun x1 x2 => x1 ++ x2) #[] (List.replicate (if its.toArray.isEmpty = true then 0 else k.toNat) its.toArray) = (List.replicate k.toNat its).flatten.toArray := by
    have any : ∀ m : Nat, List.foldl (fun x1 x2 => x1 ++ x2) #[] (List.replicate m its.toArray) = (List.replicate m its).flatten.toArray := fun m => by
      have z := foldl_rep its m []
      rw [List.nil_append] at z
      exact z
    rw [any]
    cases its with
    | nil => simp
    | cons a r' => rw [if_neg (by simp)]
  refine wpAny_binaryOp_repeat_ref (T := "list") (U := "int") (by decide) ⟨_, e, rfl⟩ (fun s' => typeIs_int s' k t) noFill_list_mul F.fills_int_mul F.slot_int_rmul repeat_list F.slot_int_index.lookup
    (call_meets F.slot_int_rmul (typeIs_int s k t) F.entry_int_rmul (F.args_int_rmul_2 _ _) (int___rmul___int_list k t l its.toArray n)
      ⟨e, rfl, ⟨_, e, rfl⟩, call_meets F.slot_list_mul ⟨_, e, rfl⟩ F.entry_list_mul (F.args_list_mul_2 _ _) (AutoListH.list___mul___list_int_3 l its.toArray n k t fits big short) ⟨e, ?_⟩⟩)
  rw [made]
  exact ⟨.ref _, _, I.lnew (t' := s.toks) (r.rep k.toNat) (by rw [PyProof.Rows.lm_len_rep_flat, Nat.mul_comm]; exact hz), rfl, q _ I.fresh⟩
theorem RDs.rep {K : PySem.W.Frag} {g : G} {l : List D} {vs : List V} (r : RDs K g l vs) : ∀ k : Nat, RDs K g (List.replicate k l).flatten (List.replicate k vs).flatten
  | 0 => RDs.nil
  | k + 1 => by
    rw [List.replicate_succ, List.replicate_succ, List.flatten_cons, List.flatten_cons]
    exact r.append (RDs.rep r k)

theorem o_add : OpR X (binaryOp .Add) (rOp X.K gAdd) := by
  intro pins s σ H x y v u Q I rx ry h
  obtain ⟨g, a, b, d, rfl, rp, ra, rb, hf, q⟩ := h
  have lists : (match seqP g.S a, seqP g.S b with
    | some x, some y => if x.length + y.length ≤ sz then some (D.lst (x ++ y)) else none
    | _, _ => none) = some d → wpAny (model X.prog X.w) X.A (binaryOp .Add v u) (EP X pins σ Q) X.xe s := fun hf => by
    cases e1 : seqP g.S a with
    | none => rw [e1] at hf; cases hf
    | some l1 =>
      cases e2 : seqP g.S b with
      | none => rw [e1, e2] at hf; cases hf
      | some l2 =>
        rw [e1, e2] at hf
        dsimp only at hf
        by_cases hz : l1.length + l2.length ≤ sz
        · rw [if_pos hz] at hf
          cases hf
          obtain ⟨p1, vs1, rfl, h1, r1⟩ := seqP_at rp e1 ra
          obtain ⟨p2, vs2, rfl, h2, r2⟩ := seqP_at rp e2 rb
          refine catR pins s σ _ _ _ v u Q I rx ry ⟨p1, p2, vs1, vs2, rfl, rfl, h1, h2, by rw [← r1.length, ← r2.length, ← sz_eq]; exact hz, fun p hp => ?_⟩
          obtain ⟨x1, x2, x3⟩ := new_lst rp hp (r1.append r2)
          exact q _ _ x1 rfl x2 x3
        · rw [if_neg hz] at hf; cases hf
  unfold gAdd at hf
  split at hf
  · cases hf
    simp only [RD] at ra rb; subst ra; subst rb
    exact op_add pins s σ _ _ _ v u Q I rx ry ⟨_, _, rfl, rfl, q g _ (Ext.refl g) rfl rp (by rw [RD])⟩
  · cases hf
    simp only [RD] at ra rb; subst ra; subst rb
    exact op_add_ib pins s σ _ _ _ v u Q I rx ry ⟨_, _, rfl, rfl, q g _ (Ext.refl g) rfl rp (by rw [RD])⟩
  · rename_i x1 y1
    by_cases hz : x1.length + y1.length ≤ sz
    · rw [if_pos hz] at hf
      cases hf
      simp only [RD] at ra rb; subst ra; subst rb
      exact op_add_str pins s σ _ _ _ v u Q I rx ry ⟨_, _, rfl, rfl, by rw [← sz_eq]; exact hz, q g _ (Ext.refl g) rfl rp (by rw [RD, apS_eq])⟩
    · rw [if_neg hz] at hf; cases hf
  · rename_i x1 y1
    by_cases hz : x1.length + y1.length ≤ sz
    · rw [if_pos hz] at hf
      cases hf
      simp only [RD] at ra rb
      obtain ⟨p1, vs1, rfl, h1, r1⟩ := ra
      obtain ⟨p2, vs2, rfl, h2, r2⟩ := rb
      have e1 := r1.length
      have e2 := r2.length
      refine op_catA pins s σ _ _ _ v u Q I rx ry ⟨p1, p2, vs1, vs2, rfl, rfl, h1.sq, h2.sq, by rw [← e1, ← e2, ← sz_eq]; exact hz, fun z => ?_, fun z z' => ?_, fun z z' p hp => ?_⟩
      · subst z
        have : x1 = [] := List.eq_nil_of_length_eq_zero e1
        subst this
        exact q g _ (Ext.refl g) rfl rp (by rw [RD]; exact ⟨p2, vs2, rfl, h2, r2⟩)
      · subst z'
        have : y1 = [] := List.eq_nil_of_length_eq_zero e2
        subst this
        refine q g _ (Ext.refl g) rfl rp ?_
        rw [List.append_nil, RD]
        exact ⟨p1, vs1, rfl, h1, r1⟩
      · obtain ⟨x1, x2, x3⟩ := new_tup rp hp (r1.append r2)
        exact q _ _ x1 rfl x2 x3
    · rw [if_neg hz] at hf; cases hf
  · exact lists hf
/-- an operation of two ints -/
theorem o_ints {f : Value → Value → Sem Value} {op : Op2} {C : Int → Int → Prop} {fn : Int → Int → D} {vn : Int → Int → V} (h : OpR X f (rI C vn)) (rel : ∀ g i j, RD X.K g (fn i j) (vn i j))
    (inv : ∀ S a b d, op S a b = some d → ∃ i j, a = .int i ∧ b = .int j ∧ C i j ∧ d = fn i j) : OpR X f (rOp X.K op) := by
  intro pins s σ H x y v u Q I rx ry hh
  obtain ⟨g, a, b, d, rfl, rp, ra, rb, hf, q⟩ := hh
  obtain ⟨i, j, rfl, rfl, hc, rfl⟩ := inv _ _ _ _ hf
  simp only [RD] at ra rb; subst ra; subst rb
  exact h pins s σ _ _ _ v u Q I rx ry ⟨i, j, rfl, rfl, hc, q g _ (Ext.refl g) rfl rp (rel g i j)⟩
theorem o_ints0 {f : Value → Value → Sem Value} {op : Op2} {fn : Int → Int → D} {vn : Int → Int → V} (h : OpR X f (rI0 vn)) (rel : ∀ g i j, RD X.K g (fn i j) (vn i j))
    (inv : ∀ S a b d, op S a b = some d → ∃ i j, a = .int i ∧ b = .int j ∧ d = fn i j) : OpR X f (rOp X.K op) := by
  intro pins s σ H x y v u Q I rx ry hh
  obtain ⟨g, a, b, d, rfl, rp, ra, rb, hf, q⟩ := hh
  obtain ⟨i, j, rfl, rfl, rfl⟩ := inv _ _ _ _ hf
  simp only [RD] at ra rb; subst ra; subst rb
  exact h pins s σ _ _ _ v u Q I rx ry ⟨i, j, rfl, rfl, q g _ (Ext.refl g) rfl rp (rel g i j)⟩
theorem o_sub : OpR X (binaryOp .Sub) (rOp X.K gSub) := o_ints0 (fn := fun i j => .int (i - j)) op_sub (fun g i j => by rw [RD]) fun S a b d h => by
  unfold gSub at h
  split at h
  · cases h; exact ⟨_, _, rfl, rfl, rfl⟩
  · cases h
theorem o_div : OpR X (binaryOp .FloorDiv) (rOp X.K gDiv) := o_ints (fn := fun i j => .int (i / j)) op_fdivW (fun g i j => by rw [RD]) fun S a b d h => by
  unfold gDiv at h
  split at h
  · split at h
    · cases h; rename_i q; exact ⟨_, _, rfl, rfl, q, rfl⟩
    · cases h
  · cases h
theorem o_mod : OpR X (binaryOp .Mod) (rOp X.K gMod) := o_ints (fn := fun i j => .int (i % j)) op_mod (fun g i j => by rw [RD]) fun S a b d h => by
  unfold gMod at h
  split at h
  · split at h
    · cases h; rename_i q; exact ⟨_, _, rfl, rfl, q, rfl⟩
    · cases h
  · cases h
theorem o_pow : OpR X (binaryOp .Pow) (rOp X.K gPow) := o_ints (fn := fun i j => .int (i ^ j.toNat)) op_pow (fun g i j => by rw [RD]) fun S a b d h => by
  unfold gPow at h
  split at h
  · split at h
    · cases h; rename_i q; exact ⟨_, _, rfl, rfl, ⟨q.1, q.2.1, q.2.2⟩, rfl⟩
    · cases h
  · cases h
theorem o_shl : OpR X (binaryOp .LShift) (rOp X.K gShl) := o_ints (fn := fun i j => .int (i * 2 ^ j.toNat)) op_shl (fun g i j => by rw [RD]) fun S a b d h => by
  unfold gShl at h
  split at h
  · split at h
    · cases h; rename_i q; exact ⟨_, _, rfl, rfl, ⟨q.1, q.2.1, q.2.2⟩, rfl⟩
    · cases h
  · cases h
theorem o_mul : OpR X (binaryOp .Mult) (rOp X.K gMul) := by
  intro pins s σ H x y v u Q I rx ry h
  obtain ⟨g, a, b, d, rfl, rp, ra, rb, hf, q⟩ := h
  unfold gMul at hf
  split at hf
  · split at hf
    · rename_i i j hc
      cases hf
      simp only [RD] at ra rb; subst ra; subst rb
      refine op_mul pins s σ _ _ _ v u Q I rx ry ⟨i, j, rfl, rfl, ?_, q g _ (Ext.refl g) rfl rp (by rw [RD])⟩
      rcases hc with hc | hc
      · exact .inl ⟨by omega, by omega⟩
      · exact .inr ⟨by omega, by omega⟩
    · cases hf
  · rename_i b' k _
    cases e1 : seqP g.S a with
    | none => rw [e1] at hf; cases hf
    | some l =>
      rw [e1] at hf
      dsimp only at hf
      split at hf
      · rename_i hc
        cases hf
        rw [RD] at rb; subst rb
        obtain ⟨p1, vs1, rfl, h1, r1⟩ := seqP_at rp e1 ra
        refine repR pins s σ _ _ _ v u Q I rx ry ⟨p1, k, vs1, rfl, rfl, h1, by omega, by omega, by rw [← r1.length, ← sz_eq]; exact hc.1, fun p hp => ?_⟩
        obtain ⟨x1, x2, x3⟩ := new_lst rp hp (r1.rep k.toNat)
        exact q _ _ x1 rfl x2 x3
      · cases hf
  · cases hf
theorem o_neg : UnR X (unaryOp .USub) (rUn X.K gNeg) := by
  intro pins s σ H x v Q I rx h
  obtain ⟨g, a, d, rfl, rp, ra, hf, q⟩ := h
  unfold gNeg at hf
  split at hf
  · cases hf
    rw [RD] at ra; subst ra
    exact un_neg pins s σ _ _ v Q I rx ⟨_, rfl, q g _ (Ext.refl g) rfl rp (by rw [RD])⟩
  · cases hf
theorem o_lt : OpR X (compareOp .Lt) (rOp X.K gLt) := by
  intro pins s σ H x y v u Q I rx ry h
  obtain ⟨g, a, b, d, rfl, rp, ra, rb, hf, q⟩ := h
  unfold gLt at hf
  split at hf
  · cases hf
    simp only [RD] at ra rb; subst ra; subst rb
    exact op_lt pins s σ _ _ _ v u Q I rx ry ⟨_, _, rfl, rfl, q g _ (Ext.refl g) rfl rp (by rw [RD])⟩
  · cases hf
    simp only [RD] at ra rb; subst ra; subst rb
    exact op_lt_str pins s σ _ _ _ v u Q I rx ry ⟨_, _, rfl, rfl, q g _ (Ext.refl g) rfl rp (by rw [RD])⟩
  · cases hf
theorem o_le : OpR X (compareOp .LtE) (rOp X.K gLe) := o_ints0 (fn := fun i j => .bl (decide (i ≤ j))) op_le (fun g i j => by rw [RD]) fun S a b d h => by
  unfold gLe at h
  split at h
  · cases h; exact ⟨_, _, rfl, rfl, rfl⟩
  · cases h
theorem o_gt : OpR X (compareOp .Gt) (rOp X.K gGt) := o_ints0 (fn := fun i j => .bl (decide (j < i))) op_gt (fun g i j => by rw [RD]) fun S a b d h => by
  unfold gGt at h
  split at h
  · cases h; exact ⟨_, _, rfl, rfl, rfl⟩
  · cases h
theorem o_ge : OpR X (compareOp .GtE) (rOp X.K gGe) := o_ints0 (fn := fun i j => .bl (decide (j ≤ i))) op_ge (fun g i j => by rw [RD]) fun S a b d h => by
  unfold gGe at h
  split at h
  · cases h; exact ⟨_, _, rfl, rfl, rfl⟩
  · cases h
theorem eqB_cases {S : List O} {a b : D} {k : Bool} (h : eqB S a b = some k) : scD a b = some k ∨ ∃ p q, toPyS S a = some p ∧ toPyS S b = some q ∧ SeqAt.shaped p = true ∧ SeqAt.shaped q = true ∧ PyData.eqv p q = k := by
  unfold eqB at h
  cases e : scD a b with
  | some k' => rw [e] at h; cases h; exact .inl rfl
  | none =>
    rw [e] at h
    dsimp only at h
    cases e1 : toPyS S a with
    | none => rw [e1] at h; cases h
    | some p =>
      cases e2 : toPyS S b with
      | none => rw [e1, e2] at h; cases h
      | some q =>
        rw [e1, e2] at h
        dsimp only at h
        by_cases hc : SeqAt.shaped p = true ∧ SeqAt.shaped q = true
        · rw [if_pos hc] at h
          cases h
          exact .inr ⟨p, q, rfl, rfl, hc.1, hc.2, rfl⟩
        · rw [if_neg hc] at h; cases h
theorem o_eq (hu : X.A.units + 64 < cLine) : OpR X (compareOp .Eq) (rOp X.K gEq) := by
  intro pins s σ H x y v u Q I rx ry h
  obtain ⟨g, a, b, d, rfl, rp, ra, rb, hf, q⟩ := h
  unfold gEq at hf
  cases e : eqB g.S a b with
  | none => rw [e] at hf; cases hf
  | some k =>
    rw [e] at hf; cases hf
    have fin : Q (.bl k) g.H := q g _ (Ext.refl g) rfl rp (by rw [RD])
    rcases eqB_cases e with z | ⟨p1, p2, z1, z2, s1, s2, rfl⟩
    · obtain ⟨w1, w2⟩ := scD_ok z ra rb
      exact L2.op_eq pins s σ _ _ _ v u Q I rx ry ⟨w1, by rw [w2]; exact fin⟩
    · exact op_eqD hu pins s σ _ _ _ v u Q I rx ry ⟨p1, p2, toPyS_ok rp z1 ra, toPyS_ok rp z2 rb, s1, s2, fin⟩
theorem o_ne (hu : X.A.units + 64 < cLine) : OpR X (compareOp .NotEq) (rOp X.K gNe) := by
  intro pins s σ H x y v u Q I rx ry h
  obtain ⟨g, a, b, d, rfl, rp, ra, rb, hf, q⟩ := h
  unfold gNe at hf
  cases e : eqB g.S a b with
  | none => rw [e] at hf; cases hf
  | some k =>
    rw [e] at hf; cases hf
    have fin : Q (.bl (!k)) g.H := q g _ (Ext.refl g) rfl rp (by rw [RD])
    rcases eqB_cases e with z | ⟨p1, p2, z1, z2, s1, s2, rfl⟩
    · obtain ⟨w1, w2⟩ := scD_ok z ra rb
      exact L2.op_ne pins s σ _ _ _ v u Q I rx ry ⟨w1, by rw [w2]; exact fin⟩
    · exact op_neD hu pins s σ _ _ _ v u Q I rx ry ⟨p1, p2, toPyS_ok rp z1 ra, toPyS_ok rp z2 rb, s1, s2, fin⟩
theorem rd_non {K : PySem.W.Frag} {g : G} {d : D} {x : V} (r : RD K g d x) : decide (x = .non) = decide (d = .non) := by
  cases d with
  | non => rw [RD] at r; subst r; rfl
  | bl _ => rw [RD] at r; subst r; rfl
  | int _ => rw [RD] at r; subst r; rfl
  | str _ => rw [RD] at r; subst r; rfl
  | ty _ => rw [RD] at r; subst r; rfl
  | adr _ => rw [RD] at r; subst r; rfl
  | ref _ => rw [RD] at r; rw [r.2]; rfl
  | tup _ => rw [RD] at r; obtain ⟨a, vs, rfl, _⟩ := r; rfl
  | lst _ => rw [RD] at r; obtain ⟨a, vs, rfl, _⟩ := r; rfl
  | kl _ => rw [RD] at r; obtain ⟨a, vs, rfl, _⟩ := r; rfl
  | fz _ _ _ => rw [RD] at r; obtain ⟨a, dx, vs, rfl, _⟩ := r; rfl
theorem o_isN : OpR X (compareOp .Is) (rOp X.K gIsN) := by
  intro pins s σ H x y v u Q I rx ry h
  obtain ⟨g, a, b, d, rfl, rp, ra, rb, hf, q⟩ := h
  unfold gIsN at hf
  split at hf
  · cases hf
    rw [RD] at rb; subst rb
    exact op_isN pins s σ _ _ _ v u Q I rx ry ⟨rfl, by rw [rd_non ra]; exact q g _ (Ext.refl g) rfl rp (by rw [RD])⟩
  · cases hf
theorem o_notN : OpR X (compareOp .IsNot) (rOp X.K gNotN) := by
  intro pins s σ H x y v u Q I rx ry h
  obtain ⟨g, a, b, d, rfl, rp, ra, rb, hf, q⟩ := h
  unfold gNotN at hf
  split at hf
  · cases hf
    rw [RD] at rb; subst rb
    exact op_notN pins s σ _ _ _ v u Q I rx ry ⟨rfl, by rw [rd_non ra]; exact q g _ (Ext.refl g) rfl rp (by rw [RD])⟩
  · cases hf
theorem elemB_cases {K : PySem.W.Frag} {g : G} (rp : Rep K g) {a b : D} {k : Bool} {x y : V} (ra : RD K g a x) (rb : RD K g b y) (h : elemB g.S a b = some k) :
    (∃ i j, x = .str i ∧ y = .str j ∧ (!(Builtin.Str.occurrences j i 0 j.length 1).isEmpty) = k) ∨ (∃ p xs, y = .ref p ∧ (SqL K g.H p xs ∨ SqT K g.H p xs) ∧ flatV x = true ∧ xs.all flatV = true ∧ inV x xs = k) := by
  unfold elemB at h
  split at h
  · rename_i z
    split at h
    · cases h
      simp only [RD] at ra rb; subst ra; subst rb
      exact .inl ⟨_, _, rfl, rfl, rfl⟩
    · cases h
  · rename_i l
    by_cases hc : flatD a = true ∧ l.all flatD = true
    · rw [if_pos hc] at h
      cases h
      rw [RD] at rb
      obtain ⟨p, vs, rfl, h1, h2⟩ := rb
      exact .inr ⟨p, vs, rfl, .inr h1.sq, rd_sc hc.1 ra, rds_flat hc.2 h2, inD_ok ra hc.1 hc.2 h2⟩
    · rw [if_neg hc] at h; cases h
  · cases e : seqR g.S b with
    | none => rw [e] at h; cases h
    | some l =>
      rw [e] at h
      dsimp only at h
      by_cases hc : flatD a = true ∧ l.all flatD = true
      · rw [if_pos hc] at h
        cases h
        obtain ⟨p, vs, rfl, h1, h2⟩ := seqR_at rp e rb
        exact .inr ⟨p, vs, rfl, .inl h1, rd_sc hc.1 ra, rds_flat hc.2 h2, inD_ok ra hc.1 hc.2 h2⟩
      · rw [if_neg hc] at h; cases h
theorem o_in : OpR X (compareOp .In) (rOp X.K gIn) := by
  intro pins s σ H x y v u Q I rx ry h
  obtain ⟨g, a, b, d, rfl, rp, ra, rb, hf, q⟩ := h
  unfold gIn at hf
  cases e : elemB g.S a b with
  | none => rw [e] at hf; cases hf
  | some k =>
    rw [e] at hf; cases hf
    have fin : Q (.bl k) g.H := q g _ (Ext.refl g) rfl rp (by rw [RD])
    rcases elemB_cases rp ra rb e with ⟨i, j, rfl, rfl, z⟩ | ⟨p, xs, rfl, z1, z2, z3, z4⟩
    · exact op_in_str pins s σ _ _ _ v u Q I rx ry ⟨i, j, rfl, rfl, by rw [z]; exact fin⟩
    · exact op_in_seq pins s σ _ _ _ v u Q I rx ry ⟨p, xs, rfl, z1, z2, z3, by rw [z4]; exact fin⟩
theorem o_nin : OpR X (compareOp .NotIn) (rOp X.K gNin) := by
  intro pins s σ H x y v u Q I rx ry h
  obtain ⟨g, a, b, d, rfl, rp, ra, rb, hf, q⟩ := h
  unfold gNin at hf
  cases e : elemB g.S a b with
  | none => rw [e] at hf; cases hf
  | some k =>
    rw [e] at hf; cases hf
    have fin : Q (.bl (!k)) g.H := q g _ (Ext.refl g) rfl rp (by rw [RD])
    rcases elemB_cases rp ra rb e with ⟨i, j, rfl, rfl, z⟩ | ⟨p, xs, rfl, z1, z2, z3, z4⟩
    · exact op_notin_str pins s σ _ _ _ v u Q I rx ry ⟨i, j, rfl, rfl, by rw [z]; exact fin⟩
    · exact op_notIn_seq pins s σ _ _ _ v u Q I rx ry ⟨p, xs, rfl, z1, z2, z3, by rw [z4]; exact fin⟩
end
end Mo

namespace Mo
open PySem L2 PyProof.Rows

/-! ### items -/
def gIx : Op2 := fun S a i => match a, i with
  | .tup l, .int i => atI l i
  | .str z, .int i => if z.length ≤ sz then (match atI z.cps.toList i with | some c => some (.str ⟨#[c]⟩) | none => none) else none
  | a, .int i => match seqR S a with
    | some l => atI l i
    | none => none
  | _, _ => none
theorem RDs.atI {K : PySem.W.Frag} {g : G} {l : List D} {vs : List V} {i : Int} {d : D} (r : RDs K g l vs) (h : L2.atI l i = some d) : ∃ v, L2.atI vs i = some v ∧ RD K g d v := by
  unfold L2.atI at h ⊢
  rw [← r.length]
  cases e : ixN l.length i with
  | none => rw [e] at h; cases h
  | some j =>
    rw [e] at h
    exact RDs.get r h
section
variable {X : Cx}
theorem o_ix : IxR X (rOp X.K gIx) := by
  intro e1 e2 pins s σ H x y v u Q I rx ry h hsub
  obtain ⟨g, a, b, d, rfl, rp, ra, rb, hf, q⟩ := h
  unfold gIx at hf
  split at hf
  · rename_i l i
    simp only [RD] at ra rb
    subst rb
    obtain ⟨p, vs, rfl, h1, r1⟩ := ra
    obtain ⟨w, hw, rw'⟩ := r1.atI hf
    exact ix_tup e1 e2 pins s σ _ _ _ v u Q I rx ry ⟨p, vs, i, w, rfl, rfl, h1.sq, hw, q g w (Ext.refl g) rfl rp rw'⟩ hsub
  · rename_i z i
    split at hf
    · rename_i hz
      split at hf
      · rename_i c hc
        cases hf
        simp only [RD] at ra rb
        subst ra; subst rb
        exact ix_str e1 e2 pins s σ _ _ _ v u Q I rx ry ⟨z, i, c, rfl, rfl, by rw [← sz_eq]; exact hz, hc, q g _ (Ext.refl g) rfl rp (by rw [RD])⟩ hsub
      · cases hf
    · cases hf
  · rename_i i _ _
    cases e : seqR g.S a with
    | none => rw [e] at hf; cases hf
    | some l =>
      rw [e] at hf
      dsimp only at hf
      obtain ⟨p, vs, rfl, h1, r1⟩ := seqR_at rp e ra
      obtain ⟨w, hw, rw'⟩ := r1.atI hf
      simp only [RD] at rb
      subst rb
      exact ix_list e1 e2 pins s σ _ _ _ v u Q I rx ry ⟨p, vs, i, w, rfl, rfl, h1, hw, q g w (Ext.refl g) rfl rp rw'⟩ hsub
  · cases hf
theorem pm_ix {W : WX'} {a b : Expr} {ma mb : ME} {pos : Pos} (ha : PE X a (tE X.K W ma)) (hb : PE X b (tE X.K W mb)) (hs : PlainIx b := by first | (intro _ _; rfl)) : PE X (.Subscript a b pos) (tE X.K W (mBin gIx ma mb)) := PE.imp (pe_ix o_ix ha hb hs) fun _ _ _ => i_bin
end

/-! ### slices -/
abbrev MO := Env → List O → R (Option Int)
def moN : MO := fun _ S => .ok none S
def asI (S : List O) : D → R (Option Int)
  | .int i => .ok (some i) S
  | _ => .bad
def moS (m : ME) : MO := fun e S => (m e S).bind fun d S1 => asI S1 d
def tO (K : PySem.W.Frag) (W : WX') (m : MO) : TO := fun σ H Q => ∃ g e, g.H = H ∧ Rep K g ∧ RE K g e σ ∧ Post K W g (m e g.S) σ fun o g' => Q o g'.H
def cutD {α : Type} (xs : List α) (lo hi : Option Int) : List α := (xs.drop (HT.sIx xs.length 0 lo)).take (HT.sIx xs.length xs.length hi - HT.sIx xs.length 0 lo)
def gSl (S : List O) (a : D) (lo hi : Option Int) : Option D := match a with
  | .tup l => some (.tup (cutD l lo hi))
  | .str z => if z.length ≤ sz then some (.str (cutS z lo hi)) else none
  | a => match seqR S a with
    | some l => some (.lst (cutD l lo hi))
    | none => none
def mSl (m : ME) (l h : MO) : ME := fun e S => (m e S).bind fun a S1 => (l e S1).bind fun lo S2 => (h e S2).bind fun hi S3 => R.ofO S3 (gSl S3 a lo hi)
def rSl (K : PySem.W.Frag) (f : List O → D → Option Int → Option Int → Option D) : V → Option Int → Option Int → Hp → VK → Prop := fun x lo hi H Q =>
  ∃ g a d, g.H = H ∧ Rep K g ∧ RD K g a x ∧ f g.S a lo hi = some d ∧ ∀ g' v, Ext g g' → g'.S = g.S → Rep K g' → RD K g' d v → Q v g'.H
theorem RDs.cut {K : PySem.W.Frag} {g : G} {l : List D} {vs : List V} (r : RDs K g l vs) (lo hi : Option Int) : RDs K g (cutD l lo hi) (cutV vs lo hi) := by
  unfold cutD cutV
  rw [← r.length]
  exact (r.drop _).take _
section
variable {X : Cx} {W : WX'}
theorem o_sl : SlR X (rSl X.K gSl) := by
  intro pins s σ H x v vl vu lo hi sl Q I rx hs pl pu h
  obtain ⟨g, a, d, rfl, rp, ra, hf, q⟩ := h
  unfold gSl at hf
  split at hf
  · rename_i l
    cases hf
    have ra' := ra
    rw [RD] at ra
    obtain ⟨p, vs, rfl, h1, r1⟩ := ra
    have e := r1.length
    refine sl_tupA pins s σ _ _ v vl vu lo hi sl Q I rx hs pl pu ⟨p, vs, rfl, h1.sq, fun z => ?_, fun z w hw => ?_⟩
    · refine q g _ (Ext.refl g) rfl rp ?_
      have : cutD l lo hi = l := by
        unfold cutD
        rw [e, z.1, z.2, List.drop_zero, Nat.sub_zero, ← e, List.take_length]
      rw [this]
      exact ra'
    · obtain ⟨x1, x2, x3⟩ := new_tup rp hw (r1.cut lo hi)
      exact q _ _ x1 rfl x2 x3
  · rename_i z
    split at hf
    · rename_i hz
      cases hf
      rw [RD] at ra; subst ra
      exact sl_str pins s σ _ _ v vl vu lo hi sl Q I rx hs pl pu ⟨z, rfl, by rw [← sz_eq]; exact hz, q g _ (Ext.refl g) rfl rp (by rw [RD])⟩
    · cases hf
  · cases e : seqR g.S a with
    | none => rw [e] at hf; cases hf
    | some l =>
      rw [e] at hf
      cases hf
      obtain ⟨p, vs, rfl, h1, r1⟩ := seqR_at rp e ra
      refine sl_list pins s σ _ _ v vl vu lo hi sl Q I rx hs pl pu ⟨p, vs, rfl, h1, fun w hw => ?_⟩
      obtain ⟨x1, x2, x3⟩ := new_lst rp hw (r1.cut lo hi)
      exact q _ _ x1 rfl x2 x3
theorem i_sl {K : PySem.W.Frag} {σ : L2.St} {H : Hp} {Q : VK} {m : ME} {l h : MO} (hh : tE K W (mSl m l h) σ H Q) : tSl (rSl K gSl) (tE K W m) (tO K W l) (tO K W h) σ H Q := by
  obtain ⟨g, e, rfl, rp, re, p⟩ := hh
  refine ⟨g, e, rfl, rp, re, (Post.bind p).imp fun a g1 e1 r1 ⟨_, _, p1⟩ v rv => ?_⟩
  refine ⟨g1, e, rfl, r1, re.mono e1, (Post.bind p1).imp fun lo g2 e2 r2 ⟨_, _, p2⟩ => ?_⟩
  refine ⟨g2, e, rfl, r2, (re.mono e1).mono e2, (Post.bind p2).imp fun hi g3 e3 r3 ⟨_, _, p3⟩ => ?_⟩
  cases q : gSl g3.S a lo hi with
  | none => rw [q] at p3; exact False.elim p3
  | some d =>
    rw [q] at p3
    exact ⟨g3, a, d, rfl, r3, (rv.mono e2).mono e3, q, fun g' w x s r rw' => p3 g' x s r w rw'⟩
theorem po_n : PO X none (tO X.K W moN) := ⟨fun pins s σ H Q I h => by
  obtain ⟨g, e, rfl, rp, re, p⟩ := h
  exact po_none.run pins s σ _ Q I (Post.here rp p)⟩
theorem po_s {e : Expr} {m : ME} (h : PE X e (tE X.K W m)) : PO X (some e) (tO X.K W (moS m)) := ⟨fun pins s σ H Q I hh => by
  obtain ⟨g, en, rfl, rp, re, p⟩ := hh
  refine (po_some h).run pins s σ _ Q I ⟨g, en, rfl, rp, re, (Post.bind p).imp fun d g1 e1 r1 ⟨_, _, p1⟩ v rv => ?_⟩
  cases d with
  | int i =>
    rw [RD] at rv
    exact ⟨i, rv, Post.here r1 p1⟩
  | _ => exact False.elim p1⟩
theorem pm_sl {a : Expr} {lo hi : Option Expr} {m : ME} {l h : MO} {p2 pos : Pos} (ha : PE X a (tE X.K W m)) (hl : PO X lo (tO X.K W l)) (hh : PO X hi (tO X.K W h)) : PE X (.Subscript a (.Slice lo hi none p2) pos) (tE X.K W (mSl m l h)) :=
  PE.imp (pe_slice o_sl ha hl hh) fun _ _ _ => i_sl
end
/-- the items that a slice with a step picks -/
def pickD {α : Type} (xs : List α) (lo hi : Option Int) (c : Int) : List α :=
  (sliceRange (sliceBounds lo hi (some c) xs.length).1 (sliceBounds lo hi (some c) xs.length).2.1 (sliceBounds lo hi (some c) xs.length).2.2).filterMap (xs[·]?)
theorem pick_vals {xs : List V} {its : List Value} (r : Vals xs its) : ∀ ix : List Nat, Vals (ix.filterMap (xs[·]?)) (ix.filterMap (its[·]?))
  | [] => .nil
  | i :: ix => by
    rw [List.filterMap_cons, List.filterMap_cons]
    cases e : xs[i]? with
    | none => rw [r.none_of e]; exact pick_vals r ix
    | some x =>
      obtain ⟨u, hu, ru⟩ := r.get e
      rw [hu]
      exact .cons ru (pick_vals r ix)
theorem pick_rds {K : PySem.W.Frag} {g : G} {l : List D} {vs : List V} (r : RDs K g l vs) : ∀ ix : List Nat, RDs K g (ix.filterMap (l[·]?)) (ix.filterMap (vs[·]?))
  | [] => RDs.nil
  | i :: ix => by
    rw [List.filterMap_cons, List.filterMap_cons]
    cases e : l[i]? with
    | none =>
      have : vs[i]? = none := by
        rw [List.getElem?_eq_none_iff] at e ⊢
        rw [← r.length]; exact e
      rw [this]; exact pick_rds r ix
    | some d =>
      obtain ⟨v, hv, rv⟩ := r.get e
      rw [hv]
      exact RDs.cons rv (pick_rds r ix)
def gSl3 (S : List O) (a : D) (lo hi st : Option Int) : Option D := match st with
  | some c => if c ≠ 0 then (match seqR S a with
    | some l => some (.lst (pickD l lo hi c))
    | none => none) else none
  | none => none
def mSl3 (m : ME) (l h t : MO) : ME := fun e S => (m e S).bind fun a S1 => (l e S1).bind fun lo S2 => (h e S2).bind fun hi S3 => (t e S3).bind fun st S4 => R.ofO S4 (gSl3 S4 a lo hi st)
section
variable {X : Cx} {W : WX'}
theorem pm_sl3 {a st : Expr} {lo hi : Option Expr} {m : ME} {l h t : MO} {p2 pos : Pos} (ha : PE X a (tE X.K W m)) (hl : PO X lo (tO X.K W l)) (hh : PO X hi (tO X.K W h)) (ht : PO X (some st) (tO X.K W t)) :
    PE X (.Subscript a (.Slice lo hi (some st) p2) pos) (tE X.K W (mSl3 m l h t)) := by
  constructor
  rintro pins s σ H Q I ⟨g, e, rfl, rp, re, p⟩
  refine Subscript_ (thn (ha.run pins s σ _ (fun v H1 => tO X.K W l σ H1 fun lo H2 => tO X.K W h σ H2 fun hi H3 => tO X.K W t σ H3 fun st H4 => ∃ g a d, g.H = H4 ∧ Rep X.K g ∧ RD X.K g a v ∧ gSl3 g.S a lo hi st = some d ∧ ∀ g' w, Ext g g' → g'.S = g.S → Rep X.K g' → RD X.K g' d w → Q w g'.H) I
    ⟨g, e, rfl, rp, re, (Post.bind p).imp fun a g1 e1 r1 ⟨_, _, p1⟩ v rv => ?_⟩) fun v s1 ⟨x, H1, I1, r1, q1⟩ => ?_)
  · refine ⟨g1, e, rfl, r1, re.mono e1, (Post.bind p1).imp fun lo g2 e2 r2 ⟨_, _, p2⟩ => ?_⟩
    refine ⟨g2, e, rfl, r2, (re.mono e1).mono e2, (Post.bind p2).imp fun hi g3 e3 r3 ⟨_, _, p3⟩ => ?_⟩
    refine ⟨g3, e, rfl, r3, ((re.mono e1).mono e2).mono e3, (Post.bind p3).imp fun st g4 e4 r4 ⟨_, _, p4⟩ => ?_⟩
    cases q : gSl3 g4.S a lo hi st with
    | none => rw [q] at p4; exact False.elim p4
    | some d =>
      rw [q] at p4
      exact ⟨g4, a, d, rfl, r4, ((rv.mono e2).mono e3).mono e4, q, fun g' w x s r rw' => p4 g' x s r w rw'⟩
  · refine wpAny_Slice (thn (hl.run pins s1 σ H1 _ I1 q1) fun vl s2 ⟨lo', H2, I2, pl, q2⟩ => thn (hh.run pins s2 σ H2 _ I2 q2) fun vu s3 ⟨hi', H3, I3, pu, q3⟩ => thn (ht.run pins s3 σ H3 _ I3 q3) fun vt s4 ⟨st', H4, I4, pt, q4⟩ => ?_)
    obtain ⟨g4, a4, d, rfl, r4, rv, hf, q⟩ := q4
    unfold gSl3 at hf
    cases st' with
    | none => cases hf
    | some c =>
      dsimp only at hf
      by_cases hc : c ≠ 0
      · rw [if_pos hc] at hf
        cases e5 : seqR g4.S a4 with
        | none => rw [e5] at hf; cases hf
        | some ls =>
          rw [e5] at hf
          cases hf
          obtain ⟨b, vs, rfl, h1, h2⟩ := seqR_at r4 e5 rv
          cases r1
          have I5 : Inv X pins σ g4.H { s4 with heap := s4.heap.push { cls := .type "slice", data := .fields #[vl, vu, vt] } } := I4.kept (t' := s4.toks) fun b ob q => Heap.get?_push_of_some _ q
          obtain ⟨its, rr, hpl, hz⟩ := I5.list h1
          have hlen := rr.length
          show wpAny (model X.prog X.w) X.A (subscriptTail a (.Slice lo hi (some st) p2) (.ref b) (.ref s4.heap.objs.size)) (EP X pins σ Q) X.xe { s4 with heap := s4.heap.push { cls := .type "slice", data := .fields #[vl, vu, vt] } }
          refine tail_any (ops := [.ref b, .ref s4.heap.objs.size]) hpl.isList.typeIs (PySem.slot_list_getitem.lookup) ?_ (by with_unfolding_all rfl)
          refine wpAny_getItem_list_slice hpl.isList (Heap.IsSliceOf.new _ vl vu vt) pl pu pt (by intro z; exact hc (Option.some.inj z)) ?_ (by rw [List.size_toArray]; omega)
          have ev : (slicePick its.toArray lo' hi' (some c)) = (pickD its lo' hi' c).toArray := by
            unfold slicePick pickD
            simp only [List.size_toArray, List.getElem?_toArray]
          have vv : Vals (pickD vs lo' hi' c) (pickD its lo' hi' c) := by
            unfold pickD
            rw [← hlen]
            exact pick_vals rr _
          have dd : RDs X.K g4 (pickD ls lo' hi' c) (pickD vs lo' hi' c) := by
            unfold pickD
            rw [← h2.length]
            exact pick_rds h2 _
          have small : (pickD vs lo' hi' c).length ≤ sizeLine := by
            have z : (slicePick its.toArray lo' hi' (some c)).size ≤ its.toArray.size := PySem.slicePick_size_le _ _ _ _
            rw [ev, List.size_toArray, List.size_toArray, ← vv.length] at z
            omega
          rw [ev]
          have fr := I5.hok.fresh (Nat.le_refl _)
          obtain ⟨x1, x2, x3⟩ := new_lst r4 fr dd
          refine ⟨.ref _, _, I5.laid (t' := s4.toks) (o := .lst (pickD vs lo' hi' c)) (fun b ob q => Heap.get?_push_of_some _ q) (Nat.le_refl _) ?_, rfl, q _ _ x1 rfl x2 x3⟩
          exact ⟨small, _, 0, vv, Heap.get?_push_size _ rfl⟩
      · rw [if_neg hc] at hf; cases hf
end
end Mo

namespace Mo
open PySem PySem.Spec L2 PyProof.Rows

/-! ### built-in functions -/
abbrev OpN := List O → List D → Option D
def mCB (f : OpN) (m : MA) : ME := fun e S => (m e S).bind fun l S1 => R.ofO S1 (f S1 l)
def rN (K : PySem.W.Frag) (f : OpN) : List V → Hp → VK → Prop := fun vs H Q => ∃ g ds d, g.H = H ∧ Rep K g ∧ RDs K g ds vs ∧ f g.S ds = some d ∧ ∀ g' v, Ext g g' → g'.S = g.S → Rep K g' → RD K g' d v → Q v g'.H
theorem i_CB {K : PySem.W.Frag} {W : WX'} {σ : L2.St} {H : Hp} {Q : VK} {f : OpN} {m : MA} (h : tE K W (mCB f m) σ H Q) : tCB (rN K f) (tA K W m) σ H Q := by
  obtain ⟨g, e, rfl, rp, re, p⟩ := h
  refine ⟨g, e, rfl, rp, re, (Post.bind p).imp fun l g1 e1 r1 ⟨_, _, p1⟩ vs rv => ?_⟩
  cases q : f g1.S l with
  | none => rw [q] at p1; exact False.elim p1
  | some d =>
    rw [q] at p1
    exact ⟨g1, l, d, rfl, r1, rv, q, fun g' w x s r rw' => p1 g' x s r w rw'⟩
section
variable {X : Cx} {W : WX'} {e : Expr} {es : List Expr} {m : MA} {x : Str} {p pos : Pos} {id T : String} {f : OpN}
theorem pm_cb (hc : CallR X (.builtin id) (rN X.K f)) (hg : Gl X x) (hm : X.mg x = none) (hv : bootBuiltins x = some (.builtin id)) (ha : PA X (e :: es) (tA X.K W m)) (hn : x ≠ "__name__" := by decide) (hdb : (x == ("__debug__" : Str)) = false := by decide)
    (he : starEach (e :: es) X.env = (false, eval e X.env) :: starEach es X.env := by rfl) (hpl : (backTo pos (starEach es X.env)).any (·.1) = false := by rfl) : PE X (.Call (.Name x p) (e :: es) [] pos) (tE X.K W (mCB f m)) :=
  PE.imp (pe_callB hc hg hm hv ha hn hdb he hpl) fun _ _ _ => i_CB
theorem pm_cty (hc : CallR X (.type T) (rN X.K f)) (hg : Gl X x) (hm : X.mg x = none) (hv : bootBuiltins x = some (.type T)) (ha : PA X (e :: es) (tA X.K W m)) (hn : x ≠ "__name__" := by decide) (hdb : (x == ("__debug__" : Str)) = false := by decide)
    (he : starEach (e :: es) X.env = (false, eval e X.env) :: starEach es X.env := by rfl) (hpl : (backTo pos (starEach es X.env)).any (·.1) = false := by rfl) : PE X (.Call (.Name x p) (e :: es) [] pos) (tE X.K W (mCB f m)) :=
  PE.imp (pe_callTy hc hg hm hv ha hn hdb he hpl) fun _ _ _ => i_CB
end

def gLen : OpN := fun S l => match l with
  | [.str z] => if z.length ≤ sz then some (.int z.length) else none
  | [.tup l] => some (.int l.length)
  | [d] => match seqR S d with
    | some l => some (.int l.length)
    | none => none
  | _ => none
def gInt : OpN := fun _ l => match l with
  | [.int i] => some (.int i)
  | [.bl k] => some (.int (if k then 1 else 0))
  | _ => none
def gAbs : OpN := fun _ l => match l with
  | [.int i] => some (.int (if i < 0 then -i else i))
  | _ => none
def gStr : OpN := fun _ l => match l with
  | [.int i] => if i.natAbs.log2 < 1920 then some (.str (toString i)) else none
  | _ => none
def gMax2 : OpN := fun _ l => match l with
  | [.int i, .int j] => some (.int (if j > i then j else i))
  | _ => none
def gMin2 : OpN := fun _ l => match l with
  | [.int i, .int j] => some (.int (if j < i then j else i))
  | _ => none
mutual
/-- a bound on the length of the text, without the text -/
def lenB : PyData → Nat
  | .none => 4
  | .bool _ => 5
  | .int i => (toString i : Str).length
  | .str x => x.cps.toList.foldl (fun n c => n + (Builtin.Str.reprChar (reprQuote x) c).length) 2
  | .tuple xs => lenBs xs + 4
  | .list xs => (PyData.list xs).shown.length
  | .dict kvs => (PyData.dict kvs).shown.length
def lenBs : List PyData → Nat
  | [] => 0
  | x :: xs => (lenB x + 2) + lenBs xs
end
mutual
theorem lenB_ok : ∀ p : PyData, p.shown.length ≤ lenB p
  | .none => by rw [PyData.shown, lenB]; decide +kernel
  | .bool b => by rw [PyData.shown, lenB]; cases b <;> decide +kernel
  | .int i => by rw [PyData.shown, lenB]; exact Nat.le_refl _
  | .str x => by rw [PyData.shown, lenB, ← reprLen_eq, ← Array.foldl_toList]; exact Nat.le_refl _
  | .list xs => by rw [lenB]; exact Nat.le_refl _
  | .dict kvs => by rw [lenB]; exact Nat.le_refl _
  | .tuple xs => by
    rw [PyData.shown, lenB]
    have h := lenBs_ok xs
    have e : (tupleText (PyData.shownAll xs)).length = 1 + (Str.join ", " (PyData.shownAll xs)).length + (if (PyData.shownAll xs).length == 1 then 2 else 1) := by
      unfold tupleText
      rw [strLen_append, strLen_append]
      congr 1
      split <;> rfl
    have j : (Str.join ", " (PyData.shownAll xs)).length ≤ piled (PyData.shownAll xs) := by
      by_cases q : PyData.shownAll xs = []
      · rw [q]; exact Nat.zero_le _
      · have := join_length_add _ q
        omega
    rw [e]
    split <;> omega
theorem lenBs_ok : ∀ xs : List PyData, piled (PyData.shownAll xs) ≤ lenBs xs
  | [] => by rw [PyData.shownAll, lenBs]; exact Nat.le_refl _
  | x :: xs => by
    rw [PyData.shownAll, lenBs, piled_cons]
    have h1 := lenB_ok x
    have h2 := lenBs_ok xs
    omega
end
/-- the text of some data -/
def shownD (S : List O) (d : D) : Option Str := match toPyS S d with
  | some p => if p.showable = true ∧ p.hasDict = false ∧ p.depth ≤ 64 ∧ lenB p ≤ sz then some p.shown else none
  | none => none
def gRepr : OpN := fun S l => match l with
  | [d] => (shownD S d).map .str
  | _ => none
/-- is the data of that built-in type -/
def isiD (S : List O) (d : D) (n : String) : Option Bool := match d with
  | .non => kitB "NoneType" n
  | .bl _ => kitB "bool" n
  | .int _ => kitB "int" n
  | .str _ => kitB "str" n
  | .tup _ => kitB "tuple" n
  | .lst _ => kitB "list" n
  | .kl _ => kitB "list" n
  | .ref i => match S[i]? with
    | some (.lst _) => kitB "list" n
    | some (.dct _) => kitB "dict" n
    | _ => none
  | _ => none
def gIsi : OpN := fun S l => match l with
  | [d, .ty n] => (isiD S d n).map .bl
  | _ => none
def insI (x : Int) : List Int → List Int
  | [] => [x]
  | y :: r => if x ≤ y then x :: y :: r else y :: insI x r
def sortI : List Int → List Int
  | [] => []
  | x :: r => insI x (sortI r)
def leS (x y : Str) : Bool := !ltCps y.cps.toList x.cps.toList
def insS (x : Str) : List Str → List Str
  | [] => [x]
  | y :: r => if leS x y then x :: y :: r else y :: insS x r
def sortS : List Str → List Str
  | [] => []
  | x :: r => insS x (sortS r)
def intsD : List D → Option (List Int)
  | [] => some []
  | .int i :: l => match intsD l with | some m => some (i :: m) | none => none
  | _ => none
def strsD : List D → Option (List Str)
  | [] => some []
  | .str i :: l => match strsD l with | some m => some (i :: m) | none => none
  | _ => none
def gSorted : OpN := fun S l => match l with
  | [d] => match seqR S d with
    | some l => match intsD l with
      | some ns => some (.lst ((sortI ns).map .int))
      | none => match strsD l with
        | some ss => if ss.length < 64 then some (.lst ((sortS ss).map .str)) else none
        | none => none
    | none => none
  | _ => none
def gList : OpN := fun S l => match l with
  | [.tup l] => some (.lst l)
  | [d] => match seqR S d with
    | some l => some (.lst l)
    | none => none
  | _ => none
def gTuple : OpN := fun S l => match l with
  | [.tup l] => some (.tup l)
  | [d] => match seqR S d with
    | some l => some (.tup l)
    | none => none
  | _ => none
def blsD : List D → Option (List Bool)
  | [] => some []
  | .bl i :: l => match blsD l with | some m => some (i :: m) | none => none
  | _ => none
def gAll : OpN := fun S l => match l with
  | [d] => match seqR S d with
    | some l => match blsD l with
      | some bs => some (.bl (bs.all id))
      | none => none
    | none => none
  | _ => none
def gAny : OpN := fun S l => match l with
  | [d] => match seqR S d with
    | some l => match blsD l with
      | some bs => some (.bl (bs.any id))
      | none => none
    | none => none
  | _ => none
def gSum : OpN := fun S l => match l with
  | [d] => match seqR S d with
    | some l => match intsD l with
      | some bs => some (.int bs.sum)
      | none => none
    | none => none
  | _ => none

theorem insI_perm (x : Int) : ∀ l, (insI x l).Perm (x :: l)
  | [] => .refl _
  | y :: r => by
    unfold insI
    split
    · exact .refl _
    · exact ((insI_perm x r).cons y).trans (.swap x y r)
theorem sortI_perm : ∀ l, (sortI l).Perm l
  | [] => .refl _
  | x :: r => (insI_perm x _).trans ((sortI_perm r).cons x)
theorem insI_sorted (x : Int) : ∀ l, l.Pairwise (· ≤ ·) → (insI x l).Pairwise (· ≤ ·)
  | [], _ => by simp [insI]
  | y :: r, h => by
    unfold insI
    rw [List.pairwise_cons] at h
    split
    · rename_i hx
      refine List.pairwise_cons.mpr ⟨fun z hz => ?_, List.pairwise_cons.mpr h⟩
      rcases List.mem_cons.mp hz with rfl | hz
      · exact hx
      · exact Int.le_trans hx (h.1 z hz)
    · rename_i hx
      refine List.pairwise_cons.mpr ⟨fun z hz => ?_, insI_sorted x r h.2⟩
      have := (insI_perm x r).mem_iff.mp hz
      rcases List.mem_cons.mp this with rfl | hz
      · omega
      · exact h.1 z hz
theorem sortI_sorted : ∀ l, (sortI l).Pairwise (· ≤ ·)
  | [] => .nil
  | x :: r => insI_sorted x _ (sortI_sorted r)
theorem sortI_one {a b : List Int} (hp : a.Perm b) (ha : a.Pairwise (· ≤ ·)) : a = sortI b :=
  List.Perm.eq_of_pairwise (le := (· ≤ ·)) (fun x y _ _ h1 h2 => Int.le_antisymm h1 h2) ha (sortI_sorted b) (hp.trans (sortI_perm b).symm)
/-! texts in order -/
theorem ltCps_irr : ∀ l : List Nat, ltCps l l = false
  | [] => by simp [ltCps]
  | x :: r => by simp [ltCps, ltCps_irr r]
theorem ltCps_anti : ∀ a b : List Nat, ltCps a b = false → ltCps b a = false → a = b
  | [], [], _, _ => rfl
  | [], _ :: _, h, _ => by simp [ltCps] at h
  | _ :: _, [], _, h => by simp [ltCps] at h
  | x :: r, y :: t, h1, h2 => by
    simp [ltCps] at h1 h2
    have e : x = y := by omega
    subst e
    rw [ltCps_anti r t (by simpa using h1) (by simpa using h2)]
theorem ltCps_trans : ∀ a b c : List Nat, ltCps b a = false → ltCps c b = false → ltCps c a = false
  | [], _, [], _, _ => by simp [ltCps]
  | [], _, _ :: _, _, _ => by simp [ltCps]
  | _ :: _, [], _, h, _ => by simp [ltCps] at h
  | _ :: _, _ :: _, [], _, h => by simp [ltCps] at h
  | x :: r, y :: t, z :: u, h1, h2 => by
    simp [ltCps] at h1 h2 ⊢
    refine ⟨by omega, fun e => ?_⟩
    have e1 : y = x := by omega
    have e2 : z = y := by omega
    exact ltCps_trans r t u (h1.2 e1) (h2.2 e2)
theorem str_ext {x y : Str} (h : x.cps.toList = y.cps.toList) : x = y := by
  cases x; cases y
  simp at h
  rw [h]
theorem insS_perm (x : Str) : ∀ l, (insS x l).Perm (x :: l)
  | [] => .refl _
  | y :: r => by
    unfold insS
    split
    · exact .refl _
    · exact ((insS_perm x r).cons y).trans (.swap x y r)
theorem sortS_perm : ∀ l, (sortS l).Perm l
  | [] => .refl _
  | x :: r => (insS_perm x _).trans ((sortS_perm r).cons x)
abbrev LeS (x y : Str) : Prop := ltCps y.cps.toList x.cps.toList = false
theorem leS_total (x y : Str) : LeS x y ∨ LeS y x := by
  unfold LeS
  cases h : ltCps y.cps.toList x.cps.toList with
  | false => exact .inl rfl
  | true =>
    cases h2 : ltCps x.cps.toList y.cps.toList with
    | false => exact .inr rfl
    | true =>
      exfalso
      have key : ∀ a b : List Nat, ltCps a b = true → ltCps b a = true → False := by
        intro a
        induction a with
        | nil => intro b _ h; cases b <;> simp [ltCps] at h
        | cons p r ih =>
          intro b h1 h2
          cases b with
          | nil => simp [ltCps] at h1
          | cons q t =>
            simp [ltCps] at h1 h2
            have e : p = q := by omega
            subst e
            exact ih t (by simpa using h1) (by simpa using h2)
      exact key _ _ h h2
theorem insS_sorted (x : Str) : ∀ l, l.Pairwise LeS → (insS x l).Pairwise LeS
  | [], _ => by simp [insS]
  | y :: r, h => by
    unfold insS
    rw [List.pairwise_cons] at h
    split
    · rename_i hx
      have hx : LeS x y := by simpa [leS, LeS] using hx
      refine List.pairwise_cons.mpr ⟨fun z hz => ?_, List.pairwise_cons.mpr h⟩
      rcases List.mem_cons.mp hz with rfl | hz
      · exact hx
      · exact ltCps_trans _ _ _ hx (h.1 z hz)
    · rename_i hx
      have hx : LeS y x := by
        rcases leS_total y x with z | z
        · exact z
        · exact absurd (by simpa [leS, LeS] using z) hx
      refine List.pairwise_cons.mpr ⟨fun z hz => ?_, insS_sorted x r h.2⟩
      have := (insS_perm x r).mem_iff.mp hz
      rcases List.mem_cons.mp this with rfl | hz
      · exact hx
      · exact h.1 z hz
theorem sortS_sorted : ∀ l, (sortS l).Pairwise LeS
  | [] => .nil
  | x :: r => insS_sorted x _ (sortS_sorted r)
theorem rising_pair : ∀ (l : List Str) (p : Str), risingS p l = true → (p :: l).Pairwise LeS
  | [], p, _ => by simp
  | x :: r, p, h => by
    have h' : LeS p x ∧ risingS x r = true := by simpa [risingS, LeS] using h
    have ih := rising_pair r x h'.2
    refine List.pairwise_cons.mpr ⟨fun z hz => ?_, ih⟩
    rcases List.mem_cons.mp hz with rfl | hz
    · exact h'.1
    · exact ltCps_trans _ _ _ h'.1 ((List.pairwise_cons.mp ih).1 z hz)
theorem sortS_one {a b : List Str} (hp : a.Perm b) (ha : sortedS a = true) : a = sortS b := by
  have hs : a.Pairwise LeS := by
    cases a with
    | nil => exact .nil
    | cons x r => exact rising_pair r x ha
  exact List.Perm.eq_of_pairwise (le := LeS) (fun x y _ _ h1 h2 => str_ext (ltCps_anti _ _ h2 h1)) hs (sortS_sorted b) (hp.trans (sortS_perm b).symm)

section
variable {K : PySem.W.Frag} {g : G}
theorem rds_ints : ∀ {l : List D} {ns : List Int} {vs : List V}, intsD l = some ns → RDs K g l vs → vs = ns.map V.int
  | [], ns, vs, h, r => by rw [RDs] at r; subst r; cases h; rfl
  | .int i :: l, ns, vs, h, r => by
    rw [RDs] at r
    obtain ⟨v, us, rfl, h2, h3⟩ := r
    rw [intsD] at h
    cases q : intsD l with
    | none => rw [q] at h; cases h
    | some m =>
      rw [q] at h; cases h
      rw [RD] at h2; subst h2
      rw [List.map_cons, rds_ints q h3]
  | .non :: _, _, _, h, _ => by simp [intsD] at h
  | .bl _ :: _, _, _, h, _ => by simp [intsD] at h
  | .str _ :: _, _, _, h, _ => by simp [intsD] at h
  | .ty _ :: _, _, _, h, _ => by simp [intsD] at h
  | .adr _ :: _, _, _, h, _ => by simp [intsD] at h
  | .ref _ :: _, _, _, h, _ => by simp [intsD] at h
  | .tup _ :: _, _, _, h, _ => by simp [intsD] at h
  | .lst _ :: _, _, _, h, _ => by simp [intsD] at h
  | .kl _ :: _, _, _, h, _ => by simp [intsD] at h
theorem rds_strs : ∀ {l : List D} {ns : List Str} {vs : List V}, strsD l = some ns → RDs K g l vs → vs = ns.map V.str
  | [], ns, vs, h, r => by rw [RDs] at r; subst r; cases h; rfl
  | .str i :: l, ns, vs, h, r => by
    rw [RDs] at r
    obtain ⟨v, us, rfl, h2, h3⟩ := r
    rw [strsD] at h
    cases q : strsD l with
    | none => rw [q] at h; cases h
    | some m =>
      rw [q] at h; cases h
      rw [RD] at h2; subst h2
      rw [List.map_cons, rds_strs q h3]
  | .non :: _, _, _, h, _ => by simp [strsD] at h
  | .bl _ :: _, _, _, h, _ => by simp [strsD] at h
  | .int _ :: _, _, _, h, _ => by simp [strsD] at h
  | .ty _ :: _, _, _, h, _ => by simp [strsD] at h
  | .adr _ :: _, _, _, h, _ => by simp [strsD] at h
  | .ref _ :: _, _, _, h, _ => by simp [strsD] at h
  | .tup _ :: _, _, _, h, _ => by simp [strsD] at h
  | .lst _ :: _, _, _, h, _ => by simp [strsD] at h
  | .kl _ :: _, _, _, h, _ => by simp [strsD] at h
theorem rds_bls : ∀ {l : List D} {ns : List Bool} {vs : List V}, blsD l = some ns → RDs K g l vs → vs = ns.map V.bl
  | [], ns, vs, h, r => by rw [RDs] at r; subst r; cases h; rfl
  | .bl i :: l, ns, vs, h, r => by
    rw [RDs] at r
    obtain ⟨v, us, rfl, h2, h3⟩ := r
    rw [blsD] at h
    cases q : blsD l with
    | none => rw [q] at h; cases h
    | some m =>
      rw [q] at h; cases h
      rw [RD] at h2; subst h2
      rw [List.map_cons, rds_bls q h3]
  | .non :: _, _, _, h, _ => by simp [blsD] at h
  | .str _ :: _, _, _, h, _ => by simp [blsD] at h
  | .int _ :: _, _, _, h, _ => by simp [blsD] at h
  | .ty _ :: _, _, _, h, _ => by simp [blsD] at h
  | .adr _ :: _, _, _, h, _ => by simp [blsD] at h
  | .ref _ :: _, _, _, h, _ => by simp [blsD] at h
  | .tup _ :: _, _, _, h, _ => by simp [blsD] at h
  | .lst _ :: _, _, _, h, _ => by simp [blsD] at h
  | .kl _ :: _, _, _, h, _ => by simp [blsD] at h
theorem rds_of_ints : ∀ ns : List Int, RDs K g (ns.map D.int) (ns.map V.int)
  | [] => RDs.nil
  | n :: r => RDs.cons (by rw [RD]) (rds_of_ints r)
theorem rds_of_strs : ∀ ns : List Str, RDs K g (ns.map D.str) (ns.map V.str)
  | [] => RDs.nil
  | n :: r => RDs.cons (by rw [RD]) (rds_of_strs r)
theorem RDs.one {d : D} {vs : List V} (r : RDs K g [d] vs) : ∃ v, vs = [v] ∧ RD K g d v := by
  rw [RDs] at r
  obtain ⟨v, us, rfl, h2, h3⟩ := r
  rw [RDs] at h3
  subst h3
  exact ⟨v, rfl, h2⟩
theorem RDs.two {d d2 : D} {vs : List V} (r : RDs K g [d, d2] vs) : ∃ v u, vs = [v, u] ∧ RD K g d v ∧ RD K g d2 u := by
  rw [RDs] at r
  obtain ⟨v, us, rfl, h2, h3⟩ := r
  obtain ⟨u, rfl, h4⟩ := h3.one
  exact ⟨v, u, rfl, h2, h4⟩
theorem ty_of {d : D} {n : String} {b : Bool} (rp : Rep K g) (h : isiD g.S d n = some b) {v : V} (r : RD K g d v) : ∃ t, TyX K g.H v (.type t) ∧ kitB t n = some b := by
  have tl : ∀ {a : Addr} {vs : List V}, SqL K g.H a vs → TyX K g.H (.ref a) (.type "list") := fun {a vs} q => by
    rcases q with (q | ⟨o, q⟩) | ⟨o, its, k, q, c, _⟩
    · exact .base (.lst q)
    · exact .base (.frz q)
    · exact .kList q c
  have tt : ∀ {a : Addr} {vs : List V}, SqT K g.H a vs → TyX K g.H (.ref a) (.type "tuple") := fun {a vs} q => by
    rcases q with (q | ⟨o, q⟩) | ⟨o, its, k, q, c, _⟩
    · exact .base (.tup q)
    · exact .fTuple q
    · exact .kTuple q c
  cases d with
  | non => rw [RD] at r; subst r; exact ⟨_, .base .non, h⟩
  | bl k => rw [RD] at r; subst r; exact ⟨_, .base (.bl k), h⟩
  | int k => rw [RD] at r; subst r; exact ⟨_, .base (.int k), h⟩
  | str k => rw [RD] at r; subst r; exact ⟨_, .base (.str k), h⟩
  | tup l =>
    rw [RD] at r
    obtain ⟨a, vs, rfl, h1, _⟩ := r
    exact ⟨_, tt h1.sq, h⟩
  | lst l =>
    rw [RD] at r
    obtain ⟨a, vs, rfl, h1, _⟩ := r
    exact ⟨_, tl h1.sq, h⟩
  | kl l =>
    rw [RD] at r
    obtain ⟨a, vs, rfl, h1, _⟩ := r
    exact ⟨_, tl h1.sq, h⟩
  | ref i =>
    rw [RD] at r
    unfold isiD at h
    dsimp only at h
    split at h
    · rename_i l q
      obtain ⟨vs, h1, _⟩ := rp.obj i _ q
      rw [r.2]
      exact ⟨_, .base (.lst h1), h⟩
    · rename_i l q
      obtain ⟨vs, h1, _⟩ := rp.obj i _ q
      rw [r.2]
      exact ⟨_, .base (.dK h1), h⟩
    · cases h
  | _ => cases h
end

section
variable {X : Cx}
theorem c_len : CallR X (.builtin "len") (rN X.K gLen) := by
  intro pins s σ H xs us Q I r h
  obtain ⟨g, ds, d, rfl, rp, rv, hf, q⟩ := h
  unfold gLen at hf
  split at hf
  · split at hf
    · rename_i z hz
      cases hf
      obtain ⟨v, rfl, h1⟩ := rv.one
      rw [RD] at h1; subst h1
      exact call_len pins s σ _ _ us Q I r ⟨_, _, rfl, ⟨by rw [← sz_eq]; exact hz, rfl⟩, q g _ (Ext.refl g) rfl rp (by rw [RD])⟩
    · cases hf
  · rename_i l
    cases hf
    obtain ⟨v, rfl, h1⟩ := rv.one
    rw [RD] at h1
    obtain ⟨a, vs, rfl, h2, h3⟩ := h1
    exact call_len pins s σ _ _ us Q I r ⟨_, _, rfl, .inr ⟨vs, h2.sq, h3.length⟩, q g _ (Ext.refl g) rfl rp (by rw [RD])⟩
  · rename_i d' _ _
    cases e : seqR g.S d' with
    | none => rw [e] at hf; cases hf
    | some l =>
      rw [e] at hf; cases hf
      obtain ⟨v, rfl, h1⟩ := rv.one
      obtain ⟨a, vs, rfl, h2, h3⟩ := seqR_at rp e h1
      exact call_len pins s σ _ _ us Q I r ⟨_, _, rfl, .inl ⟨vs, h2, h3.length⟩, q g _ (Ext.refl g) rfl rp (by rw [RD])⟩
  · cases hf
theorem c_int : CallR X (.type "int") (rN X.K gInt) := by
  intro pins s σ H xs us Q I r h
  obtain ⟨g, ds, d, rfl, rp, rv, hf, q⟩ := h
  unfold gInt at hf
  split at hf
  · cases hf
    obtain ⟨v, rfl, h1⟩ := rv.one
    rw [RD] at h1; subst h1
    exact call_int1 pins s σ _ _ us Q I r (.inl ⟨_, rfl, q g _ (Ext.refl g) rfl rp (by rw [RD])⟩)
  · cases hf
    obtain ⟨v, rfl, h1⟩ := rv.one
    rw [RD] at h1; subst h1
    exact call_int1 pins s σ _ _ us Q I r (.inr ⟨_, rfl, q g _ (Ext.refl g) rfl rp (by rw [RD])⟩)
  · cases hf
theorem c_abs : CallR X (.builtin "abs") (rN X.K gAbs) := by
  intro pins s σ H xs us Q I r h
  obtain ⟨g, ds, d, rfl, rp, rv, hf, q⟩ := h
  unfold gAbs at hf
  split at hf
  · cases hf
    obtain ⟨v, rfl, h1⟩ := rv.one
    rw [RD] at h1; subst h1
    exact call_abs pins s σ _ _ us Q I r ⟨_, rfl, q g _ (Ext.refl g) rfl rp (by rw [RD])⟩
  · cases hf
theorem c_str : CallR X (.type "str") (rN X.K gStr) := by
  intro pins s σ H xs us Q I r h
  obtain ⟨g, ds, d, rfl, rp, rv, hf, q⟩ := h
  unfold gStr at hf
  split at hf
  · split at hf
    · rename_i hz
      cases hf
      obtain ⟨v, rfl, h1⟩ := rv.one
      rw [RD] at h1; subst h1
      exact call_str_int pins s σ _ _ us Q I r ⟨_, rfl, hz, q g _ (Ext.refl g) rfl rp (by rw [RD])⟩
    · cases hf
  · cases hf
theorem c_max2 (hc : X.calm = true) : CallR X (.builtin "max") (rN X.K gMax2) := by
  intro pins s σ H xs us Q I r h
  obtain ⟨g, ds, d, rfl, rp, rv, hf, q⟩ := h
  unfold gMax2 at hf
  split at hf
  · cases hf
    obtain ⟨v, u, rfl, h1, h2⟩ := rv.two
    rw [RD] at h1 h2; subst h1; subst h2
    exact call_max2 hc pins s σ _ _ us Q I r ⟨_, _, rfl, q g _ (Ext.refl g) rfl rp (by rw [RD])⟩
  · cases hf
theorem c_min2 (hc : X.calm = true) : CallR X (.builtin "min") (rN X.K gMin2) := by
  intro pins s σ H xs us Q I r h
  obtain ⟨g, ds, d, rfl, rp, rv, hf, q⟩ := h
  unfold gMin2 at hf
  split at hf
  · cases hf
    obtain ⟨v, u, rfl, h1, h2⟩ := rv.two
    rw [RD] at h1 h2; subst h1; subst h2
    exact call_min2 hc pins s σ _ _ us Q I r ⟨_, _, rfl, q g _ (Ext.refl g) rfl rp (by rw [RD])⟩
  · cases hf
theorem c_isi : CallR X (.builtin "isinstance") (rN X.K gIsi) := by
  intro pins s σ H xs us Q I r h
  obtain ⟨g, ds, d, rfl, rp, rv, hf, q⟩ := h
  unfold gIsi at hf
  split at hf
  · rename_i d' n
    cases e : isiD g.S d' n with
    | none => rw [e] at hf; cases hf
    | some b =>
      rw [e] at hf; cases hf
      obtain ⟨v, u, rfl, h1, h2⟩ := rv.two
      rw [RD] at h2; subst h2
      obtain ⟨t, ht, hk⟩ := ty_of rp e h1
      exact call_isi pins s σ _ _ us Q I r ⟨_, _, .type t, .type n, b, rfl, .ty n, ht, kit_ty hk, q g _ (Ext.refl g) rfl rp (by rw [RD])⟩
  · cases hf
theorem c_sorted : CallR X (.builtin "sorted") (rN X.K gSorted) := by
  intro pins s σ H xs us Q I r h
  obtain ⟨g, ds, d, rfl, rp, rv, hf, q⟩ := h
  unfold gSorted at hf
  split at hf
  · rename_i d'
    cases e : seqR g.S d' with
    | none => rw [e] at hf; cases hf
    | some l =>
      rw [e] at hf
      dsimp only at hf
      obtain ⟨v, rfl, h1⟩ := rv.one
      obtain ⟨a, vs, rfl, h2, h3⟩ := seqR_at rp e h1
      cases ei : intsD l with
      | some ns =>
        rw [ei] at hf; cases hf
        rw [rds_ints ei h3] at h2
        refine cr_sortedI pins s σ _ _ us Q I r ⟨a, ns, rfl, h2, fun ns' p hp hs hn => ?_⟩
        rw [sortI_one hp hs]
        obtain ⟨x1, x2, x3⟩ := new_lst rp hn (rds_of_ints (K := X.K) (g := g) (sortI ns))
        exact q _ _ x1 rfl x2 x3
      | none =>
        rw [ei] at hf
        dsimp only at hf
        cases es : strsD l with
        | none => rw [es] at hf; cases hf
        | some ss =>
          rw [es] at hf
          dsimp only at hf
          split at hf
          · rename_i hz
            cases hf
            rw [rds_strs es h3] at h2
            refine cr_sortedS pins s σ _ _ us Q I r ⟨a, ss, rfl, h2, hz, fun ns' p hp hs hn => ?_⟩
            rw [sortS_one hp hs]
            obtain ⟨x1, x2, x3⟩ := new_lst rp hn (rds_of_strs (K := X.K) (g := g) (sortS ss))
            exact q _ _ x1 rfl x2 x3
          · cases hf
  · cases hf
theorem c_list : CallR X (.type "list") (rN X.K gList) := by
  intro pins s σ H xs us Q I r h
  obtain ⟨g, ds, d, rfl, rp, rv, hf, q⟩ := h
  unfold gList at hf
  split at hf
  · cases hf
    obtain ⟨v, rfl, h1⟩ := rv.one
    rw [RD] at h1
    obtain ⟨a, vs, rfl, h2, h3⟩ := h1
    refine call_list_of pins s σ _ _ us Q I r ⟨a, vs, rfl, .inr h2.sq, fun p hn => ?_⟩
    obtain ⟨x1, x2, x3⟩ := new_lst rp hn h3
    exact q _ _ x1 rfl x2 x3
  · rename_i d' _
    cases e : seqR g.S d' with
    | none => rw [e] at hf; cases hf
    | some l =>
      rw [e] at hf; cases hf
      obtain ⟨v, rfl, h1⟩ := rv.one
      obtain ⟨a, vs, rfl, h2, h3⟩ := seqR_at rp e h1
      refine call_list_of pins s σ _ _ us Q I r ⟨a, vs, rfl, .inl h2, fun p hn => ?_⟩
      obtain ⟨x1, x2, x3⟩ := new_lst rp hn h3
      exact q _ _ x1 rfl x2 x3
  · cases hf
theorem c_tuple : CallR X (.type "tuple") (rN X.K gTuple) := by
  intro pins s σ H xs us Q I r h
  obtain ⟨g, ds, d, rfl, rp, rv, hf, q⟩ := h
  unfold gTuple at hf
  split at hf
  · cases hf
    obtain ⟨v, rfl, h1⟩ := rv.one
    have h0 := h1
    rw [RD] at h1
    obtain ⟨a, vs, rfl, h2, h3⟩ := h1
    exact call_tuple_of pins s σ _ _ us Q I r ⟨a, vs, rfl, .inr ⟨h2.sq, q g _ (Ext.refl g) rfl rp h0⟩⟩
  · rename_i d' _
    cases e : seqR g.S d' with
    | none => rw [e] at hf; cases hf
    | some l =>
      rw [e] at hf; cases hf
      obtain ⟨v, rfl, h1⟩ := rv.one
      obtain ⟨a, vs, rfl, h2, h3⟩ := seqR_at rp e h1
      refine call_tuple_of pins s σ _ _ us Q I r ⟨a, vs, rfl, .inl ⟨h2, fun p hn => ?_⟩⟩
      obtain ⟨x1, x2, x3⟩ := new_tup rp hn h3
      exact q _ _ x1 rfl x2 x3
  · cases hf
theorem c_all (hc : X.calm = true) : CallR X (.builtin "all") (rN X.K gAll) := by
  intro pins s σ H xs us Q I r h
  obtain ⟨g, ds, d, rfl, rp, rv, hf, q⟩ := h
  unfold gAll at hf
  split at hf
  · rename_i d'
    cases e : seqR g.S d' with
    | none => rw [e] at hf; cases hf
    | some l =>
      rw [e] at hf
      dsimp only at hf
      cases eb : blsD l with
      | none => rw [eb] at hf; cases hf
      | some bs =>
        rw [eb] at hf; cases hf
        obtain ⟨v, rfl, h1⟩ := rv.one
        obtain ⟨a, vs, rfl, h2, h3⟩ := seqR_at rp e h1
        rw [rds_bls eb h3] at h2
        exact cr_all hc pins s σ _ _ us Q I r ⟨a, bs, rfl, h2, q g _ (Ext.refl g) rfl rp (by rw [RD])⟩
  · cases hf
theorem c_any (hc : X.calm = true) : CallR X (.builtin "any") (rN X.K gAny) := by
  intro pins s σ H xs us Q I r h
  obtain ⟨g, ds, d, rfl, rp, rv, hf, q⟩ := h
  unfold gAny at hf
  split at hf
  · rename_i d'
    cases e : seqR g.S d' with
    | none => rw [e] at hf; cases hf
    | some l =>
      rw [e] at hf
      dsimp only at hf
      cases eb : blsD l with
      | none => rw [eb] at hf; cases hf
      | some bs =>
        rw [eb] at hf; cases hf
        obtain ⟨v, rfl, h1⟩ := rv.one
        obtain ⟨a, vs, rfl, h2, h3⟩ := seqR_at rp e h1
        rw [rds_bls eb h3] at h2
        exact cr_any hc pins s σ _ _ us Q I r ⟨a, bs, rfl, h2, q g _ (Ext.refl g) rfl rp (by rw [RD])⟩
  · cases hf
theorem c_sum (hc : X.calm = true) : CallR X (.builtin "sum") (rN X.K gSum) := by
  intro pins s σ H xs us Q I r h
  obtain ⟨g, ds, d, rfl, rp, rv, hf, q⟩ := h
  unfold gSum at hf
  split at hf
  · rename_i d'
    cases e : seqR g.S d' with
    | none => rw [e] at hf; cases hf
    | some l =>
      rw [e] at hf
      dsimp only at hf
      cases eb : intsD l with
      | none => rw [eb] at hf; cases hf
      | some bs =>
        rw [eb] at hf; cases hf
        obtain ⟨v, rfl, h1⟩ := rv.one
        obtain ⟨a, vs, rfl, h2, h3⟩ := seqR_at rp e h1
        rw [rds_ints eb h3] at h2
        exact cr_sum hc pins s σ _ _ us Q I r ⟨a, bs, rfl, h2, q g _ (Ext.refl g) rfl rp (by rw [RD])⟩
  · cases hf
theorem c_repr (hg : X.A.guards = some []) (hu : X.A.units + 100 < cLine) : CallR X (.builtin "repr") (rN X.K gRepr) := by
  intro pins s σ H xs us Q I r h
  obtain ⟨g, ds, d, rfl, rp, rv, hf, q⟩ := h
  unfold gRepr at hf
  split at hf
  · rename_i d'
    cases e : shownD g.S d' with
    | none => rw [e] at hf; cases hf
    | some t =>
      rw [e] at hf; cases hf
      obtain ⟨v, rfl, h1⟩ := rv.one
      obtain ⟨u, rfl, ru⟩ := vals1 r
      unfold shownD at e
      cases ep : toPyS g.S d' with
      | none => rw [ep] at e; cases e
      | some p =>
        rw [ep] at e
        dsimp only at e
        split at e
        · rename_i hc
          cases e
          obtain ⟨hs, hd, hdep, hl⟩ := hc
          have dp := toPyS_ok rp ep h1
          obtain ⟨as, rd⟩ := Dp.reads I p v u dp ru
          have hl' : p.shown.length ≤ sizeLine := by rw [← sz_eq]; exact Nat.le_trans (lenB_ok p) hl
          have fin : ∀ (h' : Heap) (t' : Tok) (tk : Nat), (∀ b o, s.heap.get? b = some o → h'.get? b = some o) → EP X pins σ Q (.str p.shown t') { s with heap := h', toks := tk } :=
            fun h' t' tk k => ⟨.str p.shown, g.H, I.kept k, ⟨_, rfl⟩, q g _ (Ext.refl g) rfl rp (by rw [RD])⟩
          cases rd with
          | none => exact PySem.P.repr_of_none (fin s.heap _ _ fun _ _ z => z)
          | bool b => exact PySem.P.repr_of_bool (fin s.heap _ _ fun _ _ z => z)
          | int i t => exact PySem.P.repr_of_int (by simpa [PyData.showable] using hs) (fin s.heap _ _ fun _ _ z => z)
          | str x t => exact PySem.P.repr_of_str (fin s.heap _ _ fun _ _ z => z) hl'
          | list a1 a2 a3 a4 => exact repr_of_reads' (.list a1 a2 a3 a4) hs (fun z => by rw [hd] at z; cases z) hg (by omega) (fun _ _ z => z) (fun h' u' tk k => fin h' u' tk k) hl'
          | tuple a1 a2 a3 a4 => exact repr_of_reads' (.tuple a1 a2 a3 a4) hs (fun z => by rw [hd] at z; cases z) hg (by omega) (fun _ _ z => z) (fun h' u' tk k => fin h' u' tk k) hl'
          | dict a1 a2 a3 a4 a5 => simp [PyData.hasDict] at hd
        · cases e
  · cases hf
end
end Mo

namespace Mo
open PySem PySem.Spec L2 PyProof.Rows

/-! ### methods of built-in types -/
abbrev OpM := List O → D → List D → Option (D × List O)
def R.ofM : Option (D × List O) → R D
  | some (d, S) => .ok d S
  | none => .bad
def mMt (ty : List O → D → Bool) (f : OpM) (mo : ME) (m : MA) : ME := fun e S => (mo e S).bind fun a S1 => if ty S1 a = true then (m e S1).bind fun l S2 => R.ofM (f S2 a l) else .bad
def rMt (K : PySem.W.Frag) (f : OpM) : V → List V → Hp → VK → Prop := fun x vs H Q => ∃ g a ds d S', g.H = H ∧ Rep K g ∧ RD K g a x ∧ RDs K g ds vs ∧ f g.S a ds = some (d, S') ∧ ∀ g' v, Ext g g' → g'.S = S' → Rep K g' → RD K g' d v → Q v g'.H
def isL (S : List O) (a : D) : Bool := (seqR S a).isSome
def isS (_ : List O) (a : D) : Bool := match a with
  | .str _ => true
  | _ => false
section
variable {X : Cx} {W : WX'} {o e : Expr} {es : List Expr} {mo : ME} {m : MA} {name : Str} {apos cpos : Pos} {T id : String} {f : OpM} {ty : List O → D → Bool}
theorem i_mt {K : PySem.W.Frag} {σ : L2.St} {H : Hp} {Q : VK} (hty : ∀ g a v, Rep K g → RD K g a v → ty g.S a = true → tyV K T v g.H) (h : tE K W (mMt ty f mo m) σ H Q) : tBM K T (rMt K f) (tE K W mo) (tA K W m) σ H Q := by
  obtain ⟨g, e, rfl, rp, re, p⟩ := h
  refine ⟨g, e, rfl, rp, re, (Post.bind p).imp fun a g1 e1 r1 ⟨_, _, p1⟩ v rv => ?_⟩
  by_cases ht : ty g1.S a = true
  · rw [if_pos ht] at p1
    refine ⟨hty g1 a v r1 rv ht, g1, e, rfl, r1, re.mono e1, (Post.bind p1).imp fun l g2 e2 r2 ⟨_, _, p2⟩ vs rvs => ?_⟩
    cases q : f g2.S a l with
    | none => rw [q] at p2; exact False.elim p2
    | some dS =>
      obtain ⟨d, S'⟩ := dS
      rw [q] at p2
      exact ⟨g2, a, l, d, S', rfl, r2, rv.mono e2, rvs, q, fun g' w x s r rw' => p2 g' x s r w rw'⟩
  · rw [if_neg ht] at p1; exact False.elim p1
theorem i_mt0 {K : PySem.W.Frag} {σ : L2.St} {H : Hp} {Q : VK} (hty : ∀ g a v, Rep K g → RD K g a v → ty g.S a = true → tyV K T v g.H) (h : tE K W (mMt ty f mo mNil) σ H Q) : tBM0 K T (rMt K f) (tE K W mo) σ H Q := by
  obtain ⟨g, e, rfl, rp, re, p⟩ := h
  refine ⟨g, e, rfl, rp, re, (Post.bind p).imp fun a g1 e1 r1 ⟨_, _, p1⟩ v rv => ?_⟩
  by_cases ht : ty g1.S a = true
  · rw [if_pos ht] at p1
    refine ⟨hty g1 a v r1 rv ht, ?_⟩
    have p2 : Post K W g1 (R.ofM (f g1.S a [])) σ fun d g' => ∀ v, RD K g' d v → Q v g'.H := p1
    cases q : f g1.S a [] with
    | none => rw [q] at p2; exact False.elim p2
    | some dS =>
      obtain ⟨d, S'⟩ := dS
      rw [q] at p2
      exact ⟨g1, a, [], d, S', rfl, r1, rv, RDs.nil, q, fun g' w x s r rw' => p2 g' x s r w rw'⟩
  · rw [if_neg ht] at p1; exact False.elim p1
theorem pm_mt (pa : PlainAttrs T) (slot : Slot T name id) (hty : typeOf (.builtin id) = pure (.type "method_descriptor")) (hm : MtM X id (rMt X.K f)) (ht : ∀ g a v, Rep X.K g → RD X.K g a v → ty g.S a = true → tyV X.K T v g.H)
    (ho : PE X o (tE X.K W mo)) (ha : PA X (e :: es) (tA X.K W m)) (hbase : attributeBase o name X.env (eval o X.env) = eval o X.env := by rfl)
    (hfew : ((backTo cpos (starEach (e :: es) X.env)).all (fun x => !x.1) && (backToKw cpos (keywordEach [] X.env)).all (fun x => x.1.isSome)
      && decide ((e :: es).length + ([] : List Keyword).length + (if ([] : List Keyword).isEmpty then 0 else 1) < 30)) = true := by rfl)
    (hline : (apos.endLine == cpos.line) = true := by rfl) (hs : starEach (e :: es) X.env = (false, eval e X.env) :: starEach es X.env := by rfl) (hplain : (backTo cpos (starEach es X.env)).any (·.1) = false := by rfl) :
    PE X (.Call (.Attribute o name apos) (e :: es) [] cpos) (tE X.K W (mMt ty f mo m)) := PE.imp (pe_bm pa slot hty hm ho ha hbase hfew hline hs hplain) fun _ _ _ => i_mt ht
theorem pm_mt0 (pa : PlainAttrs T) (slot : Slot T name id) (hty : typeOf (.builtin id) = pure (.type "method_descriptor")) (hm : MtM X id (rMt X.K f)) (ht : ∀ g a v, Rep X.K g → RD X.K g a v → ty g.S a = true → tyV X.K T v g.H)
    (ho : PE X o (tE X.K W mo)) (hbase : attributeBase o name X.env (eval o X.env) = eval o X.env := by rfl) (hline : (apos.endLine == cpos.line) = true := by rfl) :
    PE X (.Call (.Attribute o name apos) [] [] cpos) (tE X.K W (mMt ty f mo mNil)) := PE.imp (pe_bm0 pa slot hty hm ho hbase hline) fun _ _ _ => i_mt0 ht
theorem isL_ok {K : PySem.W.Frag} : ∀ g a v, Rep K g → RD K g a v → isL g.S a = true → tyV K "list" v g.H := fun g a v rp r h => by
  unfold isL at h
  obtain ⟨l, hl⟩ := Option.isSome_iff_exists.mp h
  obtain ⟨p, vs, rfl, h1, _⟩ := seqR_at rp hl r
  exact .inl ⟨rfl, vs, h1⟩
theorem isS_ok {K : PySem.W.Frag} : ∀ g a v, Rep K g → RD K g a v → isS g.S a = true → tyV K "str" v g.H := fun g a v rp r h => by
  cases a <;> first | (cases h; done) | (rw [RD] at r; subst r; rfl)
end
/-- one's own list is written anew -/
theorem put_lst {K : PySem.W.Frag} {g : G} (rp : Rep K g) {n : Nat} {l l' : List D} {vs : List V} (hi : g.S[n]? = some (.lst l)) (r : RDs K g l' vs) :
    Ext g (g.put n (.lst l') (.lst vs)) ∧ Rep K (g.put n (.lst l') (.lst vs)) := by
  have x := Ext.put (o' := .lst l') (u := .lst vs) hi rfl
  exact ⟨x, rp.put hi rfl ⟨vs, upd_same, r.mono x⟩⟩
def gAppend : OpM := fun S a l => match a, l with
  | .ref n, [d] => match S[n]? with
    | some (.lst l) => if l.length < sz then some (.non, S.set n (.lst (l ++ [d]))) else none
    | _ => none
  | _, _ => none
def gPop : OpM := fun S a l => match a, l with
  | .ref n, [] => match S[n]? with
    | some (.lst l) => match l[l.length - 1]? with
      | some d => some (d, S.set n (.lst l.dropLast))
      | none => none
    | _ => none
  | _, _ => none
def gJoin : OpM := fun S a l => match a, l with
  | .str z, [.tup l] => match strsD l with
    | some ss => if (ss.map (·.length)).sum + ss.length * z.length ≤ 16777216 then some (.str (Txt.join z ss), S) else none
    | none => none
  | .str z, [d] => match seqR S d with
    | some l => match strsD l with
      | some ss => if (ss.map (·.length)).sum + ss.length * z.length ≤ 16777216 then some (.str (Txt.join z ss), S) else none
      | none => none
    | none => none
  | _, _ => none
section
variable {X : Cx}
theorem RDs.dropLast {K : PySem.W.Frag} {g : G} {l : List D} {vs : List V} (r : RDs K g l vs) : RDs K g l.dropLast vs.dropLast := by
  rw [List.dropLast_eq_take, List.dropLast_eq_take, ← r.length]
  exact r.take _
theorem t_append : MtM X "list.append" (rMt X.K gAppend) := by
  intro pins s σ H x vs v us Q I rx rv h
  obtain ⟨g, a, ds, d, S', rfl, rp, ra, rds, hf, q⟩ := h
  unfold gAppend at hf
  split at hf
  · rename_i n y
    split at hf
    · rename_i l hn
      split at hf
      · rename_i hz
        cases hf
        rw [RD] at ra
        obtain ⟨w, rfl, rw'⟩ := rds.one
        obtain ⟨ws, h1, h2⟩ := rp.obj n _ hn
        obtain ⟨e1, e2⟩ := put_lst rp hn (h2.append (RDs.cons rw' RDs.nil))
        exact mt_append pins s σ _ _ _ v us Q I rx rv ⟨g.ρ n, ws, w, ra.2, rfl, h1, by rw [← h2.length, ← sz_eq]; exact hz, q _ .non e1 rfl e2 (by rw [RD])⟩
      · cases hf
    · cases hf
  · cases hf
theorem t_pop : MtM X "list.pop" (rMt X.K gPop) := by
  intro pins s σ H x vs v us Q I rx rv h
  obtain ⟨g, a, ds, d, S', rfl, rp, ra, rds, hf, q⟩ := h
  unfold gPop at hf
  split at hf
  · rename_i n
    split at hf
    · rename_i l hn
      split at hf
      · rename_i y hy
        cases hf
        rw [RD] at ra
        rw [RDs] at rds; subst rds
        obtain ⟨ws, h1, h2⟩ := rp.obj n _ hn
        obtain ⟨w, hw, rw'⟩ := h2.get hy
        obtain ⟨e1, e2⟩ := put_lst rp hn h2.dropLast
        exact mt_pop pins s σ _ _ _ v us Q I rx rv ⟨g.ρ n, ws, w, ra.2, rfl, h1, by rw [← h2.length]; exact hw, q _ w e1 rfl e2 (rw'.mono e1)⟩
      · cases hf
    · cases hf
  · cases hf
theorem t_join : MtM X "str.join" (rMt X.K gJoin) := by
  intro pins s σ H x vs v us Q I rx rv h
  obtain ⟨g, a, ds, d, S', rfl, rp, ra, rds, hf, q⟩ := h
  unfold gJoin at hf
  split at hf
  · rename_i z l
    cases e : strsD l with
    | none => rw [e] at hf; cases hf
    | some ss =>
      rw [e] at hf
      dsimp only at hf
      split at hf
      · rename_i hz
        cases hf
        rw [RD] at ra; subst ra
        obtain ⟨w, rfl, h1⟩ := rds.one
        rw [RD] at h1
        obtain ⟨b, ws, rfl, h2, h3⟩ := h1
        have h2' := h2.sq
        rw [rds_strs e h3] at h2'
        exact mt_join pins s σ _ _ _ v us Q I rx rv ⟨z, b, ss, rfl, rfl, .inr h2', hz, q g _ (Ext.refl g) rfl rp (by rw [RD])⟩
      · cases hf
  · rename_i z d' _
    cases e0 : seqR g.S d' with
    | none => rw [e0] at hf; cases hf
    | some l =>
      rw [e0] at hf
      dsimp only at hf
      cases e : strsD l with
      | none => rw [e] at hf; cases hf
      | some ss =>
        rw [e] at hf
        dsimp only at hf
        split at hf
        · rename_i hz
          cases hf
          rw [RD] at ra; subst ra
          obtain ⟨w, rfl, h1⟩ := rds.one
          obtain ⟨b, ws, rfl, h2, h3⟩ := seqR_at rp e0 h1
          rw [rds_strs e h3] at h2
          exact mt_join pins s σ _ _ _ v us Q I rx rv ⟨z, b, ss, rfl, rfl, .inl h2, hz, q g _ (Ext.refl g) rfl rp (by rw [RD])⟩
        · cases hf
  · cases hf
end

/-! ### statements -/
def R.st {α : Type} (r : R α) (e : Env) (f : α → List O → RS) : RS := match r with
  | .ok a S => f a S
  | .er x S => .er x e S
  | .bad => .bad
def sNil : MS := fun e S => .nx e S
def sSeq (a b : MS) : MS := fun e S => match a e S with
  | .nx e' S' => b e' S'
  | r => r
def sRet (m : ME) : MS := fun e S => (m e S).st e fun d S1 => .rt d S1
def sRetN : MS := fun _ S => .rt .non S
def sAsg (i : Nat) (m : ME) : MS := fun e S => (m e S).st e fun d S1 => .nx (e.set i (some d)) S1
def sExpr (m : ME) : MS := fun e S => (m e S).st e fun _ S1 => .nx e S1
def sIf (t : MT) (a b : MS) : MS := fun e S => (t e S).st e fun k S1 => if k then a e S1 else b e S1
def sBrk : MS := fun e S => .bk e S
def sCnt : MS := fun e S => .ct e S
def sPar (i j : Nat) (m : MA) : MS := fun e S => (m e S).st e fun l S1 => match l with
  | [a, b] => .nx ((e.set i (some a)).set j (some b)) S1
  | _ => .bad
/-- xs[i] = .. -/
def fSet (S : List O) (a i d : D) : Option (List O) := match a, i with
  | .ref n, .int k => match S[n]? with
    | some (.lst l) => match ixN l.length k with
      | some j => some (S.set n (.lst (l.set j d)))
      | none => none
    | _ => none
  | _, _ => none
theorem fSet_inv {S : List O} {a i d : D} {S4 : List O} (q : fSet S a i d = some S4) : ∃ n k l j, a = .ref n ∧ i = .int k ∧ S[n]? = some (.lst l) ∧ ixN l.length k = some j ∧ S4 = S.set n (.lst (l.set j d)) := by
  unfold fSet at q
  split at q
  · split at q
    · rename_i hn
      split at q
      · rename_i hj
        cases q
        exact ⟨_, _, _, _, rfl, rfl, hn, hj, rfl⟩
      · cases q
    · cases q
  · cases q
def sSet (mv mo mi : ME) : MS := fun e S => (mv e S).st e fun d S1 => (mo e S1).st e fun a S2 => (mi e S2).st e fun i S3 => match fSet S3 a i d with
  | some S4 => .nx e S4
  | none => .bad
section
variable {K : PySem.W.Frag} {W : WX'} {g : G} {σ : L2.St} {H : Hp} {e : Env} {D : Ends}
theorem PostS.of_st {α : Type} {r : R α} {f : α → List O → RS} (re : RE K g e σ) (h : PostS K W g (r.st e f) D) : Post K W g r σ fun a g1 => Ext g g1 ∧ Rep K g1 ∧ PostS K W g1 (f a g1.S) D := PostS.of_er re h
theorem i_seq {a b : MS} (h : tS K W (sSeq a b) D σ H) : tSeq (tS K W a) (tS K W b) D σ H := by
  obtain ⟨g, e, rfl, rp, re, p⟩ := h
  refine ⟨g, e, rfl, rp, re, ?_⟩
  unfold sSeq at p
  cases q : a e g.S with
  | nx e' S' =>
    rw [q] at p
    intro g' σ' x s r re'
    subst s
    exact ⟨g', e', rfl, r, re', PostS.mono x p⟩
  | rt d S' => rw [q] at p; exact p
  | bk e' S' => rw [q] at p; exact p
  | ct e' S' => rw [q] at p; exact p
  | er x' e' S' => rw [q] at p; exact p
  | bad => rw [q] at p; exact p
theorem i_snil (h : tS K W sNil D σ H) : tNext D σ H := by
  obtain ⟨g, e, rfl, rp, re, p⟩ := h
  exact p g σ (Ext.refl g) rfl rp re
theorem i_ret {m : ME} (h : tS K W (sRet m) D σ H) : tRet (tE K W m) D σ H := by
  obtain ⟨g, e, rfl, rp, re, p⟩ := h
  exact ⟨g, e, rfl, rp, re, (PostS.of_st re p).imp fun d g1 e1 r1 ⟨_, _, p1⟩ v rv => p1 g1 v (Ext.refl g1) rfl r1 rv⟩
theorem i_retN (h : tS K W sRetN D σ H) : tRetN D σ H := by
  obtain ⟨g, e, rfl, rp, re, p⟩ := h
  exact p g .non (Ext.refl g) rfl rp (by rw [RD])
theorem i_asg {i : Nat} {m : ME} (h : tS K W (sAsg i m) D σ H) : tAsg (tE K W m) (gName i) D σ H := by
  obtain ⟨g, e, rfl, rp, re, p⟩ := h
  exact ⟨g, e, rfl, rp, re, (PostS.of_st re p).imp fun d g1 e1 r1 ⟨_, _, p1⟩ v rv => p1 g1 _ (Ext.refl g1) rfl r1 ((re.mono e1).set rv)⟩
theorem i_expr {m : ME} (h : tS K W (sExpr m) D σ H) : tDrop (tE K W m) D σ H := by
  obtain ⟨g, e, rfl, rp, re, p⟩ := h
  exact ⟨g, e, rfl, rp, re, (PostS.of_st re p).imp fun d g1 e1 r1 ⟨_, _, p1⟩ v rv => p1 g1 _ (Ext.refl g1) rfl r1 (re.mono e1)⟩
theorem i_ifs {t : MT} {a b : MS} (h : tS K W (sIf t a b) D σ H) : tIfS (tT K W t) (tS K W a) (tS K W b) D σ H := by
  obtain ⟨g, e, rfl, rp, re, p⟩ := h
  refine ⟨g, e, rfl, rp, re, (PostS.of_st re p).imp fun k g1 e1 r1 ⟨_, _, p1⟩ => ?_⟩
  cases k with
  | true => exact ⟨g1, e, rfl, r1, re.mono e1, p1⟩
  | false => exact ⟨g1, e, rfl, r1, re.mono e1, p1⟩
theorem i_brk (h : tS K W sBrk D σ H) : tBreak D σ H := by
  obtain ⟨g, e, rfl, rp, re, p⟩ := h
  exact p g σ (Ext.refl g) rfl rp re
theorem i_cnt (h : tS K W sCnt D σ H) : tCont D σ H := by
  obtain ⟨g, e, rfl, rp, re, p⟩ := h
  exact p g σ (Ext.refl g) rfl rp re
theorem i_par {i j : Nat} {m : MA} (h : tS K W (sPar i j m) D σ H) : tPar i j (tA K W m) D σ H := by
  obtain ⟨g, e, rfl, rp, re, p⟩ := h
  refine ⟨g, e, rfl, rp, re, (PostS.of_st re p).imp fun l g1 e1 r1 ⟨_, _, p1⟩ vs rv => ?_⟩
  split at p1
  · obtain ⟨v, u, rfl, h1, h2⟩ := rv.two
    exact ⟨v, u, rfl, p1 g1 _ (Ext.refl g1) rfl r1 (((re.mono e1).set h1).set h2)⟩
  · exact False.elim p1
theorem i_set {mv mo mi : ME} (h : tS K W (sSet mv mo mi) D σ H) : tAsg (tE K W mv) (L2.gSub (tE K W mo) (tE K W mi) rSetL) D σ H := by
  obtain ⟨g, e, rfl, rp, re, p⟩ := h
  refine ⟨g, e, rfl, rp, re, (PostS.of_st re p).imp fun d g1 e1 r1 ⟨_, _, p1⟩ v rv => ?_⟩
  refine ⟨g1, e, rfl, r1, re.mono e1, (PostS.of_st (re.mono e1) p1).imp fun a g2 e2 r2 ⟨_, _, p2⟩ w rw' => ?_⟩
  refine ⟨g2, e, rfl, r2, (re.mono e1).mono e2, (PostS.of_st ((re.mono e1).mono e2) p2).imp fun i g3 e3 r3 ⟨_, _, p3⟩ u ru => ?_⟩
  cases q : fSet g3.S a i d with
  | none => rw [q] at p3; exact False.elim p3
  | some S4 =>
    rw [q] at p3
    dsimp only at p3
    obtain ⟨n, k, l, j, rfl, rfl, hn, hj, rfl⟩ := fSet_inv q
    have rn := rw'.mono e3
    simp only [RD] at rn ru
    obtain ⟨ws, h1, h2⟩ := r3.obj n _ hn
    have rv3 := (rv.mono e2).mono e3
    obtain ⟨x1, x2⟩ := put_lst r3 hn (RDs.set rv3 j h2)
    exact ⟨g3.ρ n, ws, k, j, rn.2, ru, h1, by rw [← h2.length]; exact hj, p3 _ σ x1 rfl x2 ((((re.mono e1).mono e2).mono e3).mono x1)⟩
end
section
variable {X : Cx} {W : WX'} {st : Stmt} {rest a b : List Stmt} {ma mb : MS} {e c : Expr} {m : ME} {t : MT} {pos : Pos}
theorem sm_nil : PSs X [] (tS X.K W sNil) := PSs.imp pss_nil fun _ _ _ => i_snil
theorem sm_cons (h1 : PS X st (tS X.K W ma)) (h2 : PSs X rest (tS X.K W mb)) : PSs X (st :: rest) (tS X.K W (sSeq ma mb)) := PSs.imp (pss_cons h1 h2) fun _ _ _ => i_seq
theorem sm_one (h1 : PS X st (tS X.K W ma)) : PSs X [st] (tS X.K W ma) := pss_one h1
theorem sm_ret (h : PE X e (tE X.K W m)) : PS X (.Return (some e) pos) (tS X.K W (sRet m)) := PS.imp (ps_ret h) fun _ _ _ => i_ret
theorem sm_retN : PS X (.Return none pos) (tS X.K W sRetN) := PS.imp ps_retN fun _ _ _ => i_retN
theorem sm_set {i : Nat} {x : Str} {pos' : Pos} (hN : X.N.Nodup) (hi : X.N[i]? = some x) (hx : Loc X.env.scope x) (he : PE X e (tE X.K W m)) (hs : swapsWith e (some (.Name x pos')) pos.line X.env = pure false := by rfl) (hf : X.fn x = true ∨ X.env.scope.names.lookup x = some .local := by first | exact .inl rfl | exact .inr rfl | assumption) :
    PS X (.Assign [.Name x pos'] e pos) (tS X.K W (sAsg i m)) := PS.imp (ps_set hN hi hx he hs hf) fun _ _ _ => i_asg
theorem sm_expr (h : PE X e (tE X.K W m)) (hs : swapsWith e none pos.line X.env = pure false := by rfl) : PS X (.Expr e pos) (tS X.K W (sExpr m)) := PS.imp (ps_expr h hs) fun _ _ _ => i_expr
theorem sm_if (hc : PT X c (tT X.K W t)) (ha : PSs X a (tS X.K W ma)) (hb : PSs X b (tS X.K W mb)) : PS X (.If c a b pos) (tS X.K W (sIf t ma mb)) := PS.imp (ps_if hc ha hb) fun _ _ _ => i_ifs
theorem sm_pass : PS X (.Pass pos) (tS X.K W sNil) := PS.imp ps_pass fun _ _ _ => i_snil
theorem sm_brk : PS X (.Break pos) (tS X.K W sBrk) := PS.imp ps_break fun _ _ _ => i_brk
theorem sm_cnt : PS X (.Continue pos) (tS X.K W sCnt) := PS.imp ps_continue fun _ _ _ => i_cnt
theorem sm_par {i j : Nat} {x y : Str} {a b : Expr} {mm : MA} {px py pt : Pos} {kt k2 pt2} (hc : X.calm = true) (hN : X.N.Nodup) (hi : X.N[i]? = some x) (hj : X.N[j]? = some y) (hij : i ≠ j)
    (hx : X.env.scope.names.lookup x = some .local) (hy : X.env.scope.names.lookup y = some .local) (ha : PA X [a, b] (tA X.K W mm))
    (hw : swappedStores [.Tuple [.Name x px, .Name y py] kt pt] (.Tuple [a, b] k2 pt2) X.env = pure (some [x, y]))
    (hs : swapsWithSole [.Tuple [.Name x px, .Name y py] kt pt] (.Tuple [a, b] k2 pt2) pos.line X.env = pure false := by rfl) :
    PS X (.Assign [.Tuple [.Name x px, .Name y py] kt pt] (.Tuple [a, b] k2 pt2) pos) (tS X.K W (sPar i j mm)) := PS.imp (ps_par hc hN hi hj hij hx hy ha hw hs) fun _ _ _ => i_par
theorem sm_item {o i : Expr} {mo mi : ME} {ipos : Pos} (he : PE X e (tE X.K W m)) (ho : PE X o (tE X.K W mo)) (hi : PE X i (tE X.K W mi)) (ha : ∀ v, assign (.Subscript o i ipos) X.env v = (do
      let ov ← holding [v] (eval o X.env)
      let iv ← holding [v, ov] (eval i X.env)
      standAt ipos
      holding [v, ov, iv] (setItem ov iv v)
      release [v, ov, iv] []) := by intro _; rfl) (hs : swapsWithSole [.Subscript o i ipos] e pos.line X.env = pure false := by rfl) (hw : swappedStores [.Subscript o i ipos] e X.env = pure none := by rfl)
    (h1 : (assignEach [.Subscript o i ipos] X.env).map (·.2) = [assign (.Subscript o i ipos) X.env] := by rfl) : PS X (.Assign [.Subscript o i ipos] e pos) (tS X.K W (sSet m mo mi)) :=
  PS.imp (ps_asg he (pg_sub ho hi set_list ha) hs hw h1) fun _ _ _ => i_set
end

/-! ### targets -/
structure Tg where
  f : D → Env → Option Env
  sl : List Nat
def tgN (i : Nat) : Tg := ⟨fun d e => some (e.set i (some d)), [i]⟩
structure Tgs where
  f : List D → Env → Option Env
  sl : List Nat
def tgsN : Tgs := ⟨fun l e => match l with | [] => some e | _ => none, []⟩
def tgsC (t : Tg) (u : Tgs) : Tgs := ⟨fun l e => match l with
  | d :: r => match t.f d e with
    | some e' => u.f r e'
    | none => none
  | [] => none, t.sl ++ u.sl⟩
def tgT (n : Nat) (u : Tgs) : Tg := ⟨fun d e => match d with
  | .tup l => if l.length = n then u.f l e else none
  | _ => none, u.sl⟩
def Off (sl : List Nat) (σ σ' : L2.St) : Prop := σ'.length = σ.length ∧ ∀ j : Nat, j ∉ sl → σ'[j]? = σ[j]?
def tG (K : PySem.W.Frag) (t : Tg) : TG := fun v σ H Q => ∃ g e d e', g.H = H ∧ Rep K g ∧ RE K g e σ ∧ RD K g d v ∧ t.f d e = some e' ∧ ∀ σ', RE K g e' σ' → Off t.sl σ σ' → Q σ' H
def tGs (K : PySem.W.Frag) (t : Tgs) : TGs := fun vs σ H Q => ∃ g e l e', g.H = H ∧ Rep K g ∧ RE K g e σ ∧ RDs K g l vs ∧ t.f l e = some e' ∧ ∀ σ', RE K g e' σ' → Off t.sl σ σ' → Q σ' H
section
variable {X : Cx} {pos : Pos}
theorem PG.imp {tg : Expr} {t t' : TG} (h : PG X tg t) (f : ∀ v σ H Q, t' v σ H Q → t v σ H Q) : PG X tg t' := ⟨fun p s σ H v u Q I r q => h.run p s σ H v u Q I r (f v σ H Q q)⟩
theorem PGs.imp {tg : List Expr} {t t' : TGs} (h : PGs X tg t) (f : ∀ v σ H Q, t' v σ H Q → t v σ H Q) : PGs X tg t' := ⟨fun p s σ H v u Q I r q => h.run p s σ H v u Q I r (f v σ H Q q)⟩
theorem gm_name {i : Nat} {x : Str} (hN : X.N.Nodup) (hi : X.N[i]? = some x) (hx : Loc X.env.scope x) (hf : X.fn x = true ∨ X.env.scope.names.lookup x = some .local := by first | exact .inl rfl | exact .inr rfl | assumption) : PG X (.Name x pos) (tG X.K (tgN i)) :=
  PG.imp (pg_name hN hi hx hf) fun v σ H Q ⟨g, e, d, e', h1, rp, re, rd, hf, q⟩ => by
    cases hf
    exact q _ (re.set rd) ⟨by rw [List.length_set], fun j hj => List.getElem?_set_ne (fun z => hj (by simp [tgN, z]))⟩
theorem gms_nil : PGs X [] (tGs X.K tgsN) := PGs.imp pgs_nil fun v σ H Q ⟨g, e, l, e', h1, rp, re, rd, hf, q⟩ => by
  cases l with
  | nil =>
    cases hf
    rw [RDs] at rd
    exact ⟨rd, q σ re ⟨rfl, fun _ _ => rfl⟩⟩
  | cons _ _ => cases hf
theorem gms_cons {e : Expr} {es : List Expr} {t : Tg} {u : Tgs} (h1 : PG X e (tG X.K t)) (h2 : PGs X es (tGs X.K u))
    (hs : (assignEach (e :: es) X.env).map (·.2) = assign e X.env :: (assignEach es X.env).map (·.2) := by rfl) : PGs X (e :: es) (tGs X.K (tgsC t u)) := PGs.imp (pgs_cons h1 h2 hs) fun v σ H Q ⟨g, e, l, e', hH, rp, re, rd, hf, q⟩ => by
  cases l with
  | nil => cases hf
  | cons d r =>
    rw [RDs] at rd
    obtain ⟨v1, vr, rfl, rd1, rd2⟩ := rd
    unfold tgsC at hf
    dsimp only at hf
    cases q1 : t.f d e with
    | none => rw [q1] at hf; cases hf
    | some e1 =>
      rw [q1] at hf
      refine ⟨v1, vr, rfl, g, e, d, e1, hH, rp, re, rd1, q1, fun σ1 re1 o1 => ?_⟩
      refine ⟨g, e1, r, e', hH, rp, re1, rd2, hf, fun σ2 re2 o2 => q σ2 re2 ⟨o2.1.trans o1.1, fun j hj => ?_⟩⟩
      have hj' : j ∉ t.sl ∧ j ∉ u.sl := by simpa [tgsC] using hj
      exact (o2.2 j hj'.2).trans (o1.2 j hj'.1)
theorem gm_tup {es : List Expr} {k : Nat} {t : Tgs} {n : Nat} (hc : X.calm = true) (h : PGs X es (tGs X.K t))
    (hn : (assignEach es X.env).length = n := by rfl) (hst : (assignEach es X.env).findIdx? (·.1) = none := by rfl) : PG X (.Tuple es k pos) (tG X.K (tgT n t)) := PG.imp (pg_tup hc h hn hst) fun v σ H Q ⟨g, e, d, e', hH, rp, re, rd, hf, q⟩ => by
  cases d with
  | tup l =>
    unfold tgT at hf
    dsimp only at hf
    split at hf
    · rename_i hl
      rw [RD] at rd
      obtain ⟨a, vs, rfl, h1, h2⟩ := rd
      refine ⟨a, vs, rfl, by rw [← hH]; exact h1.sq, by rw [← h2.length]; exact hl, g, e, l, e', hH, rp, re, h2, hf, q⟩
    · cases hf
  | _ => cases hf
/-- a, b = e -/
def sUnp (t : Tg) (m : ME) : MS := fun e S => (m e S).st e fun d S1 => match t.f d e with
  | some e' => .nx e' S1
  | none => .bad
theorem sm_unp {W : WX'} {tg e : Expr} {m : ME} {t : Tg} (he : PE X e (tE X.K W m)) (hg : PG X tg (tG X.K t)) (hs : swapsWithSole [tg] e pos.line X.env = pure false := by rfl) (hw : swappedStores [tg] e X.env = pure none := by rfl)
    (h1 : (assignEach [tg] X.env).map (·.2) = [assign tg X.env] := by rfl) : PS X (.Assign [tg] e pos) (tS X.K W (sUnp t m)) := PS.imp (ps_asg he hg hs hw h1) fun D σ H ⟨g, e, hH, rp, re, p⟩ => by
  subst hH
  refine ⟨g, e, rfl, rp, re, (PostS.of_st re p).imp fun d g1 e1 r1 ⟨_, _, p1⟩ v rv => ?_⟩
  cases q : t.f d e with
  | none => rw [q] at p1; exact False.elim p1
  | some e' =>
    rw [q] at p1
    exact ⟨g1, e, d, e', rfl, r1, re.mono e1, rv, q, fun σ' re' _ => p1 g1 σ' (Ext.refl g1) rfl r1 re'⟩
end
end Mo

namespace Mo
open PySem PySem.Spec L2 PyProof.Rows

theorem Sim.refl (g : G) : Sim g g := (Ext.refl g).sim
theorem Sim.trans {g g1 g2 : G} (a : Sim g g1) (b : Sim g1 g2) : Sim g g2 :=
  ⟨⟨fun x vs h p => let ⟨h1, p1⟩ := a.tu x vs h p; b.tu x vs h1 p1, fun x vs h p => let ⟨h1, p1⟩ := a.ls x vs h p; b.ls x vs h1 p1, fun x C dx fs h => b.is_ _ _ _ _ (a.is_ _ _ _ _ h)⟩, Nat.le_trans a.len b.len, fun i h => (b.ag i (Nat.lt_of_lt_of_le h a.len)).trans (a.ag i h)⟩

/-! ### what a loop walks -/
abbrev MI := Env → List O → R (List D × (List O → Bool))
/-- what nobody may change stays -/
abbrev Kpt (g g' : G) : Prop := ∀ a o, g.H a = some o → ¬ g.Live a → g'.H a = some o ∧ ¬ g'.Live a
def Jok (K : PySem.W.Frag) (g : G) (J : It) (l : List D) (chk : List O → Bool) : Prop := ∀ g', Sim g g' → Kpt g g' → Rep K g' → chk g'.S = true → ∀ i, (l.length ≤ i → J.stop i g'.H) ∧ ∀ d, l[i]? = some d → J.go i g'.H ∧
  ∀ x H', J.yld i g'.H x H' → ∃ g2, Ext g' g2 ∧ g2.S = g'.S ∧ g2.H = H' ∧ Rep K g2 ∧ RD K g2 d x
def tI (K : PySem.W.Frag) (W : WX') (m : MI) : TI := fun σ H R' => ∃ g e, g.H = H ∧ Rep K g ∧ RE K g e σ ∧ Post K W g (m e g.S) σ fun lc g' => ∀ J, Jok K g' J lc.1 lc.2 → R' J g'.H
def anyS : List O → Bool := fun _ => true
def srcD (S : List O) (d : D) : Option (List D × (List O → Bool)) := match d with
  | .tup l => some (l, anyS)
  | .lst l => some (l, anyS)
  | .kl l => some (l, anyS)
  | .ref n => match S[n]? with
    | some (.lst l) => some (l, fun S' => decide (S'[n]? = some (.lst l)))
    | _ => none
  | _ => none
def miSeq (m : ME) : MI := fun e S => (m e S).bind fun d S1 => match srcD S1 d with
  | some r => .ok r S1
  | none => .bad
/-- a range's items -/
def rangeD (a c : Int) (n : Nat) : List D := (List.range n).map fun i => .int (a + (i : Nat) * c)
def rangeA1 (l : List D) : Option (List D) := match l with
  | [.int b] => if b.natAbs < 4611686018427387904 then some (rangeD 0 1 b.toNat) else none
  | _ => none
def rangeA2 (l : List D) : Option (List D) := match l with
  | [.int a, .int b] => if a.natAbs < 4611686018427387904 ∧ b.natAbs < 4611686018427387904 then some (rangeD a 1 (b - a).toNat) else none
  | _ => none
def rangeA3 (l : List D) : Option (List D) := match l with
  | [.int a, .int b, .int c] => if c ≠ 0 ∧ c.natAbs < 1073741824 ∧ Builtin.Range.small a b c = true ∧ 0 ≤ Builtin.Range.rangeSize a b c then some (rangeD a c (Builtin.Range.rangeSize a b c).toNat) else none
  | _ => none
def miRange (f : List D → Option (List D)) (m : MA) : MI := fun e S => (m e S).bind fun l S1 => match f l with
  | some r => .ok (r, anyS) S1
  | none => .bad
section
variable {K : PySem.W.Frag} {g : G}
theorem jok_list {a : Addr} {vs : List V} {l : List D} {chk : List O → Bool} (h : ∀ g', Sim g g' → Rep K g' → chk g'.S = true → ∃ vs, SqL K g'.H a vs ∧ RDs K g' l vs) : Jok K g (Itl K a) l chk := fun g' s _ rp c i => by
  obtain ⟨vs, h1, h2⟩ := h g' s rp c
  refine ⟨fun hi => ⟨vs, h1, by rw [← h2.length]; exact hi⟩, fun d hd => ?_⟩
  obtain ⟨v, hv, rv⟩ := h2.get hd
  refine ⟨⟨vs, v, h1, hv⟩, fun x H' y => ?_⟩
  obtain ⟨rfl, y⟩ := y
  have e : some x = some v := (y vs h1).symm.trans hv
  cases e
  exact ⟨g', Ext.refl g', rfl, rfl, rp, rv⟩
theorem jok_tup {a : Addr} {l : List D} {chk : List O → Bool} (h : ∀ g', Sim g g' → Rep K g' → chk g'.S = true → ∃ vs, SqT K g'.H a vs ∧ RDs K g' l vs) : Jok K g (Itt K a) l chk := fun g' s _ rp c i => by
  obtain ⟨vs, h1, h2⟩ := h g' s rp c
  refine ⟨fun hi => ⟨vs, h1, by rw [← h2.length]; exact hi⟩, fun d hd => ?_⟩
  obtain ⟨v, hv, rv⟩ := h2.get hd
  refine ⟨⟨vs, v, h1, hv⟩, fun x H' y => ?_⟩
  obtain ⟨rfl, y⟩ := y
  have e : some x = some v := (y vs h1).symm.trans hv
  cases e
  exact ⟨g', Ext.refl g', rfl, rfl, rp, rv⟩
theorem range_get {a c : Int} {n i : Nat} {d : D} (h : (rangeD a c n)[i]? = some d) : i < n ∧ d = .int (a + (i : Nat) * c) := by
  unfold rangeD at h
  rw [List.getElem?_map] at h
  cases e : (List.range n)[i]? with
  | none => rw [e] at h; cases h
  | some j =>
    rw [e] at h
    have hi : i < n := by
      have := (List.getElem?_eq_some_iff.mp e).1
      rwa [List.length_range] at this
    rw [List.getElem?_range hi] at e
    cases e
    cases h
    exact ⟨hi, rfl⟩
theorem range_len (a c : Int) (n : Nat) : (rangeD a c n).length = n := by
  unfold rangeD
  rw [List.length_map, List.length_range]
theorem jok_range {lo : Int} {n : Nat} : Jok K g (Itr lo n) (rangeD lo 1 n) anyS := fun g' s _ rp c i => by
  refine ⟨fun hi => by rw [range_len] at hi; exact hi, fun d hd => ?_⟩
  obtain ⟨h1, rfl⟩ := range_get hd
  refine ⟨h1, fun x H' y => ?_⟩
  obtain ⟨rfl, rfl⟩ := y
  exact ⟨g', Ext.refl g', rfl, rfl, rp, by rw [RD, Int.mul_one]⟩
theorem jok_rangeC {lo c : Int} {n : Nat} : Jok K g (Itc lo c n) (rangeD lo c n) anyS := fun g' s _ rp ch i => by
  refine ⟨fun hi => by rw [range_len] at hi; exact hi, fun d hd => ?_⟩
  obtain ⟨h1, rfl⟩ := range_get hd
  refine ⟨h1, fun x H' y => ?_⟩
  obtain ⟨rfl, rfl⟩ := y
  exact ⟨g', Ext.refl g', rfl, rfl, rp, by rw [RD]⟩
end
section
variable {X : Cx} {tg : Expr} {W : WX'}
theorem PI.imp {tg e : Expr} {t t' : TI} (h : PI X tg e t) (f : ∀ σ H Q, t' σ H Q → t σ H Q) : PI X tg e t' := ⟨fun p s σ H Q I q => h.run p s σ H Q I (f σ H Q q)⟩
/-- a list or a tuple, walked -/
theorem pi_seq {e : Expr} {te : TE} (he : PE X e te) : PI X tg e (fun σ H R' => te σ H fun x H1 => ∃ a, x = .ref a ∧ ((∃ xs, SqL X.K H1 a xs ∧ R' (Itl X.K a) H1) ∨ (∃ xs, SqT X.K H1 a xs ∧ R' (Itt X.K a) H1))) := by
  constructor
  intro pins s σ H R' I h
  refine thn (he.run pins s σ H _ I h) fun v s1 ⟨x, H1, I1, r1, a, ex, q1⟩ => ?_
  subst ex
  cases r1
  have own : FpOk X pins H1 s1.heap.objs.size := I1.fpOk (Nat.le_refl _) (I1.hok.fresh (Nat.le_refl _))
  rcases q1 with ⟨xs, hq, q⟩ | ⟨xs, hq, q⟩
  · obtain ⟨its, rv, p, hz⟩ := I1.list hq
    refine wpAny_pyIter_list p.isList ⟨s1.heap.objs.size, [s1.heap.objs.size], _, _, H1, rfl, I1.kept (t' := s1.toks) fun b o e => Heap.get?_push_of_some _ e, turn_list a _, ⟨_, Heap.get?_push_size _ rfl, rfl, rfl⟩, fun b hb => ?_, q⟩
    rw [show b = s1.heap.objs.size by simpa using hb]
    exact own
  · obtain ⟨its, rv, p, hz⟩ := I1.tuple hq
    refine wpAny_pyIter_tuple (show s1.heap.IsTuple a its.toArray from p) ⟨s1.heap.objs.size, [s1.heap.objs.size], _, _, H1, rfl, I1.kept (t' := s1.toks) fun b o e => Heap.get?_push_of_some _ e, turn_tuple a _, ⟨_, Heap.get?_push_size _ rfl, rfl, rfl⟩, fun b hb => ?_, q⟩
    rw [show b = s1.heap.objs.size by simpa using hb]
    exact own
theorem im_seq {e : Expr} {m : ME} (he : PE X e (tE X.K W m)) : PI X tg e (tI X.K W (miSeq m)) := PI.imp (pi_seq he) fun σ H R' ⟨g, e, hH, rp, re, p⟩ => by
  subst hH
  refine ⟨g, e, rfl, rp, re, (Post.bind p).imp fun d g1 e1 r1 ⟨_, _, p1⟩ v rv => ?_⟩
  cases d with
  | tup l =>
    have p1' : Post X.K W g1 (.ok (l, anyS) g1.S) σ _ := p1
    rw [RD] at rv
    obtain ⟨a, vs, rfl, h1, h2⟩ := rv
    exact ⟨a, rfl, .inr ⟨vs, h1.sq, Post.here r1 p1' _ (jok_tup fun g' s _ _ => ⟨vs, (h1.sim s.toSim0).sq, h2.sim s⟩)⟩⟩
  | lst l =>
    have p1' : Post X.K W g1 (.ok (l, anyS) g1.S) σ _ := p1
    rw [RD] at rv
    obtain ⟨a, vs, rfl, h1, h2⟩ := rv
    exact ⟨a, rfl, .inl ⟨vs, h1.sq, Post.here r1 p1' _ (jok_list (vs := vs) fun g' s _ _ => ⟨vs, (h1.sim s.toSim0).sq, h2.sim s⟩)⟩⟩
  | kl l =>
    have p1' : Post X.K W g1 (.ok (l, anyS) g1.S) σ _ := p1
    rw [RD] at rv
    obtain ⟨a, vs, rfl, h1, h2⟩ := rv
    exact ⟨a, rfl, .inl ⟨vs, h1.sq, Post.here r1 p1' _ (jok_list (vs := vs) fun g' s _ _ => ⟨vs, (h1.sim s.toSim0).sq, h2.sim s⟩)⟩⟩
  | ref n =>
    rw [RD] at rv
    cases q : g1.S[n]? with
    | none => simp only [srcD, q] at p1; exact False.elim p1
    | some o =>
      cases o with
      | lst l =>
        simp only [srcD, q] at p1
        obtain ⟨vs, h1, h2⟩ := r1.obj n _ q
        refine ⟨g1.ρ n, rv.2, .inl ⟨vs, .inl (.inl h1), Post.here r1 p1 _ (jok_list (vs := vs) fun g' s rp' c => ?_)⟩⟩
        have c' := of_decide_eq_true c
        obtain ⟨ws, k1, k2⟩ := rp'.obj n _ c'
        rw [s.ag n rv.1] at k1
        exact ⟨ws, .inl (.inl k1), k2⟩
      | _ => simp only [srcD, q] at p1; exact False.elim p1
  | _ => exact False.elim p1
theorem i_range {K : PySem.W.Frag} {σ : L2.St} {H : Hp} {R' : It → Hp → Prop} {f : List D → Option (List D)} {m : MA} {k : List V → Hp → Prop} (h : tI K W (miRange f m) σ H R')
    (hk : ∀ g l vs r, Rep K g → RDs K g l vs → f l = some r → (∀ J, Jok K g J r anyS → R' J g.H) → k vs g.H) : tA K W m σ H k := by
  obtain ⟨g, e, hH, rp, re, p⟩ := h
  subst hH
  refine ⟨g, e, rfl, rp, re, (Post.bind p).imp fun l g1 e1 r1 ⟨_, _, p1⟩ vs rv => ?_⟩
  cases q : f l with
  | none => rw [q] at p1; exact False.elim p1
  | some r =>
    rw [q] at p1
    exact hk g1 l vs r r1 rv q (Post.here r1 p1)
theorem im_range1 {a : Expr} {m : MA} {p pos : Pos} (hg : Gl X "range") (hm : X.mg "range" = none) (ha : PA X [a] (tA X.K W m)) (hs : starEach [a] X.env = [(false, eval a X.env)] := by rfl) : PI X tg (.Call (.Name "range" p) [a] [] pos) (tI X.K W (miRange rangeA1 m)) :=
  PI.imp (pi_range1 hg hm ha hs) fun σ H R' h => i_range h fun g l vs r rp rv q hR => by
  unfold rangeA1 at q
  split at q
  · split at q
    · rename_i b hc
      cases q
      obtain ⟨v, rfl, h1⟩ := rv.one
      rw [RD] at h1; subst h1
      exact ⟨b, rfl, by omega, by omega, hR _ jok_range⟩
    · cases q
  · cases q
theorem im_range2 {a b : Expr} {m : MA} {p pos : Pos} (hg : Gl X "range") (hm : X.mg "range" = none) (ha : PA X [a, b] (tA X.K W m)) (hs : starEach [a, b] X.env = [(false, eval a X.env), (false, eval b X.env)] := by rfl) (hs2 : starEach [b] X.env = [(false, eval b X.env)] := by rfl) :
    PI X tg (.Call (.Name "range" p) [a, b] [] pos) (tI X.K W (miRange rangeA2 m)) :=
  PI.imp (pi_range2 hg hm ha hs hs2) fun σ H R' h => i_range h fun g l vs r rp rv q hR => by
  unfold rangeA2 at q
  split at q
  · split at q
    · rename_i i j hc
      cases q
      obtain ⟨v, u, rfl, h1, h2⟩ := rv.two
      simp only [RD] at h1 h2; subst h1; subst h2
      exact ⟨i, j, rfl, by omega, hR _ jok_range⟩
    · cases q
  · cases q
theorem im_range3 {a b c : Expr} {m : MA} {p pos : Pos} (hg : Gl X "range") (hm : X.mg "range" = none) (ha : PA X [a, b, c] (tA X.K W m)) (hs : starEach [a, b, c] X.env = (false, eval a X.env) :: starEach [b, c] X.env := by rfl) (hpl : (backTo pos (starEach [b, c] X.env)).any (·.1) = false := by rfl) :
    PI X tg (.Call (.Name "range" p) [a, b, c] [] pos) (tI X.K W (miRange rangeA3 m)) :=
  PI.imp (pi_range3 hg hm ha hs hpl) fun σ H R' h => i_range h fun g l vs r rp rv q hR => by
  unfold rangeA3 at q
  split at q
  · split at q
    · rename_i i j k hc
      cases q
      rw [RDs] at rv
      obtain ⟨v, vs', rfl, h1, h2⟩ := rv
      obtain ⟨u, w, rfl, h3, h4⟩ := h2.two
      simp only [RD] at h1 h3 h4; subst h1; subst h3; subst h4
      exact ⟨i, j, k, _, rfl, ⟨hc.1, hc.2.1, hc.2.2.1, by omega⟩, hR _ jok_rangeC⟩
    · cases q
  · cases q
end

/-! ### for -/
/-- a loop's turns -/
def loopL (chk : List O → Bool) (t : Tg) (b : MS) : List D → MS
  | [], e, S => if chk S = true then .nx e S else .bad
  | d :: l, e, S => if chk S = true then (match t.f d e with
    | some e' => (match b e' S with
      | .nx e1 S1 => loopL chk t b l e1 S1
      | .ct e1 S1 => loopL chk t b l e1 S1
      | .bk e1 S1 => .nx e1 S1
      | r => r)
    | none => .bad) else .bad
def sFor (m : MI) (t : Tg) (b : MS) : MS := fun e S => (m e S).st e fun lc S1 => loopL lc.2 t b lc.1 e S1
/-- while, at most n turns -/
def loopW (t : MT) (b : MS) : Nat → MS
  | 0, _, _ => .bad
  | n + 1, e, S => (t e S).st e fun k S1 => if k then (match b e S1 with
    | .nx e1 S2 => loopW t b n e1 S2
    | .ct e1 S2 => loopW t b n e1 S2
    | .bk e1 S2 => .nx e1 S2
    | r => r) else .nx e S1
section
variable {K : PySem.W.Frag} {W : WX'} {σ : L2.St} {H : Hp} {D : Ends}
theorem i_for {m : MI} {t : Tg} {b : MS} (h : tS K W (sFor m t b) D σ H) : tFor (tI K W m) (tG K t) (tS K W b) D σ H := by
  obtain ⟨g, e, hH, rp, re, p⟩ := h
  subst hH
  refine ⟨g, e, rfl, rp, re, (PostS.of_st re p).imp fun lc g1 e1 r1 ⟨_, _, p1⟩ J hJ => ?_⟩
  obtain ⟨l, chk⟩ := lc
  let At : Nat → L2.St → Hp → Prop := fun i σ H => i ≤ l.length ∧ ∃ g' e, g'.H = H ∧ Sim g1 g' ∧ Kpt g1 g' ∧ Rep K g' ∧ RE K g' e σ ∧ PostS K W g' (loopL chk t b (l.drop i) e g'.S) D
  refine ⟨fun i m σ H => m = l.length - i ∧ At i σ H, ⟨l.length, by simp, Nat.zero_le _, g1, e, rfl, Sim.refl g1, fun _ _ q nl => ⟨q, nl⟩, r1, re.mono e1, p1⟩, ?_⟩
  rintro i m σ H ⟨rfl, hi, g', e', rfl, s', keep, rp', re', p'⟩
  by_cases hlt : i < l.length
  · obtain ⟨d, hd⟩ : ∃ d, l[i]? = some d := ⟨l[i], by simp [hlt]⟩
    have hdrop : l.drop i = d :: l.drop (i + 1) := by
      rw [List.drop_eq_getElem_cons hlt]
      congr 1
      exact Option.some.inj ((List.getElem?_eq_getElem hlt).symm.trans hd)
    rw [hdrop, loopL] at p'
    by_cases hc : chk g'.S = true
    · rw [if_pos hc] at p'
      obtain ⟨go, yl⟩ := (hJ g' s' keep rp' hc i).2 d hd
      refine .inr ⟨go, fun σ H => At (i + 1) σ H, fun σ2 H2 h2 => ⟨l.length - (i + 1), by omega, rfl, h2⟩, fun x H' y => ?_⟩
      obtain ⟨g2, x2, s2, rfl, rp2, rd2⟩ := yl x H' y
      cases q : t.f d e' with
      | none => rw [q] at p'; exact False.elim p'
      | some e2 =>
        rw [q] at p'
        dsimp only at p'
        refine ⟨g2, e', d, e2, rfl, rp2, re'.mono x2, rd2, q, fun σ2 re2 _ => ⟨g2, e2, rfl, rp2, re2, ?_⟩⟩
        rw [s2]
        cases qb : b e2 g'.S with
        | nx e3 S3 =>
          rw [qb] at p'
          exact fun g3 σ3 x3 hs rp3 re3 => ⟨hlt, g3, e3, rfl, (s'.trans x2.sim).trans x3.sim, fun a o q nl => (x2.trans x3).kp a o (keep a o q nl).1 (keep a o q nl).2, rp3, re3, by rw [hs]; exact PostS.mono (x2.trans x3) p'⟩
        | ct e3 S3 =>
          rw [qb] at p'
          exact fun g3 σ3 x3 hs rp3 re3 => ⟨hlt, g3, e3, rfl, (s'.trans x2.sim).trans x3.sim, fun a o q nl => (x2.trans x3).kp a o (keep a o q nl).1 (keep a o q nl).2, rp3, re3, by rw [hs]; exact PostS.mono (x2.trans x3) p'⟩
        | bk e3 S3 =>
          rw [qb] at p'
          exact fun g3 σ3 x3 hs rp3 re3 => p' g3 σ3 (x2.trans x3) hs rp3 re3
        | rt d3 S3 =>
          rw [qb] at p'
          exact fun g3 v3 x3 hs rp3 rd3 => p' g3 v3 (x2.trans x3) hs rp3 rd3
        | er x3 e3 S3 =>
          rw [qb] at p'
          exact fun g3 σ3 c d3 x3 hs rp3 re3 rx3 => p' g3 σ3 c d3 (x2.trans x3) hs rp3 re3 rx3
        | bad => rw [qb] at p'; exact False.elim p'
    · rw [if_neg hc] at p'; exact False.elim p'
  · have hl : l.drop i = [] := List.drop_eq_nil_of_le (by omega)
    rw [hl, loopL] at p'
    by_cases hc : chk g'.S = true
    · rw [if_pos hc] at p'
      exact .inl ⟨(hJ g' s' keep rp' hc i).1 (Nat.le_of_not_lt hlt), p' g' _ (Ext.refl g') rfl rp' re'⟩
    · rw [if_neg hc] at p'; exact False.elim p'
theorem i_while {t : MT} {b : MS} {n : Nat} (h : tS K W (loopW t b n) D σ H) : tWhile (tT K W t) (tS K W b) D σ H := by
  obtain ⟨g, e, hH, rp, re, p⟩ := h
  subst hH
  refine ⟨fun m σ H => ∃ g' e, g'.H = H ∧ Rep K g' ∧ RE K g' e σ ∧ PostS K W g' (loopW t b m e g'.S) D, ⟨n, g, e, rfl, rp, re, p⟩, ?_⟩
  rintro m σ H ⟨g', e', rfl, rp', re', p'⟩
  cases m with
  | zero => exact False.elim p'
  | succ m =>
    rw [loopW] at p'
    refine ⟨g', e', rfl, rp', re', (PostS.of_st re' p').imp fun k g1 e1 r1 ⟨_, _, p1⟩ => ?_⟩
    cases k with
    | false => exact p1 g1 _ (Ext.refl g1) rfl r1 (re'.mono e1)
    | true =>
      rw [if_pos rfl] at p1
      refine ⟨_, fun σ2 H2 h2 => ⟨m, Nat.lt_succ_self m, h2⟩, g1, e', rfl, r1, re'.mono e1, ?_⟩
      cases qb : b e' g1.S with
      | nx e3 S3 =>
        rw [qb] at p1
        exact fun g3 σ3 x3 hs rp3 re3 => ⟨g3, e3, rfl, rp3, re3, by rw [hs]; exact PostS.mono x3 p1⟩
      | ct e3 S3 =>
        rw [qb] at p1
        exact fun g3 σ3 x3 hs rp3 re3 => ⟨g3, e3, rfl, rp3, re3, by rw [hs]; exact PostS.mono x3 p1⟩
      | bk e3 S3 => rw [qb] at p1; exact p1
      | rt d3 S3 => rw [qb] at p1; exact p1
      | er x3 e3 S3 => rw [qb] at p1; exact p1
      | bad => rw [qb] at p1; exact False.elim p1
end
section
variable {X : Cx} {W : WX'} {tg iter c : Expr} {body : List Stmt} {m : MI} {t : Tg} {b : MS} {mt : MT} {pos : Pos}
theorem sm_for (hp : PassesOwn (model X.prog X.w) X.A X.env X.xe) (hc : X.calm = true) (hi : PI X tg iter (tI X.K W m)) (hg : PG X tg (tG X.K t)) (hb : PSs X body (tS X.K W b))
    (hs : ∀ x, foldedSetIterable iter X.env x = pure x := by intro _; rfl) : PS X (.For tg iter body [] pos) (tS X.K W (sFor m t b)) := PS.imp (ps_for hp hc hi hg hb hs) fun _ _ _ => i_for
theorem sm_while (n : Nat) (hp : PassesOwn (model X.prog X.w) X.A X.env X.xe) (hc : PT X c (tT X.K W mt)) (hb : PSs X body (tS X.K W b)) : PS X (.While c body [] pos) (tS X.K W (loopW mt b n)) := PS.imp (ps_while hp hc hb) fun _ _ _ => i_while
end
end Mo

namespace Mo
open PySem PySem.Spec L2 PyProof.Rows

/-! ### comprehensions -/
def wipeE (e : Env) : List Nat → Env
  | [] => e
  | v :: vs => (wipeE e vs).set v none
def mYes : MT := fun _ S => .ok true S
/-- an error cannot leave here -/
def R.nb {α : Type} (r : R α) : R α := match r with
  | .ok a S => .ok a S
  | _ => .bad
abbrev WF : WX' := fun _ _ _ _ => False
def compL (chk : List O → Bool) (t : Tg) (tt : MT) (te : ME) (e : Env) : List D → List D → List O → R (List D)
  | acc, [], S => if chk S = true then .ok acc S else .bad
  | acc, d :: l, S => if chk S = true then (match t.f d e with
    | some e' => (tt e' S).nb.bind fun k S1 => if k then (te e' S1).nb.bind fun y S2 => (if acc.length < sz then compL chk t tt te e (acc ++ [y]) l S2 else .bad) else compL chk t tt te e acc l S1
    | none => .bad) else .bad
def mComp (m : MI) (t : Tg) (tt : MT) (te : ME) (vs : List Nat) : ME := fun e S => (m e S).bind fun lc S1 => (compL lc.2 t tt te (wipeE e vs) [] lc.1 S1).bind fun acc S2 => .ok (.lst acc) S2
/-- .. as a list that is changed later -/
def mCompN (m : MI) (t : Tg) (tt : MT) (te : ME) (vs : List Nat) : ME := fun e S => (m e S).bind fun lc S1 => (compL lc.2 t tt te (wipeE e vs) [] lc.1 S1).bind fun acc S2 => .ok (.ref S2.length) (S2 ++ [.lst acc])
theorem RE.wipes {K : PySem.W.Frag} {g : G} {e : Env} {σ : L2.St} (h : RE K g e σ) : ∀ vs, RE K g (wipeE e vs) (L2.wipe σ vs)
  | [] => h
  | v :: vs => (RE.wipes h vs).wipe
theorem wipe_get {σ : L2.St} {j : Nat} : ∀ {vs : List Nat}, j ∉ vs → (wipe σ vs)[j]? = σ[j]?
  | [], _ => rfl
  | v :: vs, h => by
    have h' : ¬ j = v ∧ j ∉ vs := by simpa using h
    unfold wipe
    rw [List.getElem?_set_ne (fun z => h'.1 z.symm), wipe_get h'.2]
theorem wipe_in {σ : L2.St} {j : Nat} : ∀ {vs : List Nat}, j ∈ vs → j < σ.length → (wipe σ vs)[j]? = some none
  | v :: vs, h, hl => by
    unfold wipe
    by_cases e : v = j
    · subst e
      exact List.getElem?_set_self (by rw [wipe_length]; exact hl)
    · rw [List.getElem?_set_ne e]
      rcases List.mem_cons.mp h with z | z
      · exact absurd z.symm e
      · exact wipe_in z hl
theorem wipe_same {σ σ' : L2.St} {sl vs : List Nat} (o : Off sl (wipe σ vs) σ') (hs : ∀ j ∈ sl, j ∈ vs) : wipe σ' vs = wipe σ vs := by
  have hl : σ'.length = σ.length := by rw [o.1, wipe_length]
  refine List.ext_getElem? fun j => ?_
  by_cases hj : j ∈ vs
  · by_cases hlt : j < σ.length
    · rw [wipe_in hj hlt, wipe_in hj (by omega)]
    · rw [List.getElem?_eq_none (by rw [wipe_length]; omega), List.getElem?_eq_none (by rw [wipe_length]; omega)]
  · rw [wipe_get hj, o.2 j fun z => hj (hs j z)]
/-- a list under way, kept from everybody -/
abbrev G.guard (g : G) (p : Addr) (u : HO) : G := { g with N := fun a => g.N a ∨ a = p, H := upd g.H p u }
section
variable {K : PySem.W.Frag} {g : G} {p : Addr} {u : HO}
theorem rd_upd {H : Hp} {a p : Addr} {u o : HO} (h : Rd H a u) (ne : a ≠ p) : Rd (upd H p o) a u := by
  rcases h with h | ⟨x, h⟩
  · exact .inl ((upd_ne ne).trans h)
  · exact .inr ⟨x, (upd_ne ne).trans h⟩
theorem rd_some {H : Hp} {a : Addr} {u : HO} (h : Rd H a u) : ∃ o, H a = some o := by
  rcases h with h | ⟨x, h⟩ <;> exact ⟨_, h⟩
theorem Sim.guard (hp : g.H p = none) : Sim g (g.guard p u) := by
  have key : ∀ (a : Addr) (w : HO), Rd g.H a w → g.Pr a → Rd (g.guard p u).H a w ∧ (g.guard p u).Pr a := fun a w h q => by
    have ne : a ≠ p := by
      obtain ⟨o, ho⟩ := rd_some h
      exact ne_of_none ho hp
    exact ⟨rd_upd h ne, fun z => z.elim q.1 ne, q.2⟩
  exact ⟨⟨fun a vs h q => key a _ h q, fun a vs h q => key a _ h q, fun a C dx fs q => have ne := ne_of_none q.1 hp; ⟨(upd_ne ne).trans q.1, fun z => z.elim q.2.1 ne, q.2.2⟩⟩, Nat.le_refl _, fun _ _ => rfl⟩
theorem Rep.guard (rp : Rep K g) (hp : g.H p = none) : Rep K (g.guard p u) := by
  refine ⟨fun a z => ?_, rp.inj, fun i o q => (rp.obj i o q).sim (Sim.guard hp) fun n => ?_⟩
  · rcases z with z | z
    · obtain ⟨o, e⟩ := rp.nd a z
      exact ⟨o, (show upd g.H p u a = g.H a from upd_ne (ne_of_none e hp)).trans e⟩
    · subst z; exact ⟨u, upd_same⟩
  · obtain ⟨w, e⟩ := (rp.obj i o q).at_ n
    exact upd_ne (ne_of_none e hp)
/-- the list under way grows -/
abbrev G.grow (g : G) (p : Addr) (u : HO) : G := { g with H := upd g.H p u }
theorem Sim.grow (hN : g.N p) : Sim g (g.grow p u) := by
  have key : ∀ (a : Addr) (w : HO), Rd g.H a w → g.Pr a → Rd (g.grow p u).H a w ∧ (g.grow p u).Pr a := fun a w h q => by
    have ne : a ≠ p := fun z => q.1 (z ▸ hN)
    exact ⟨rd_upd h ne, q⟩
  exact ⟨⟨fun a vs h q => key a _ h q, fun a vs h q => key a _ h q, fun a C dx fs q => have ne : a ≠ p := fun z => q.2.1 (z ▸ hN); ⟨(upd_ne ne).trans q.1, q.2⟩⟩, Nat.le_refl _, fun _ _ => rfl⟩
theorem Rep.grow {ws : List V} (rp : Rep K g) (hN : g.N p) (nl : ¬ g.Live p) (hz : g.H p = some (.lst ws)) : Rep K (g.grow p u) := by
  refine ⟨fun a z => ?_, rp.inj, fun i o q => (rp.obj i o q).sim (Sim.grow hN) fun n => ?_⟩
  · by_cases h : a = p
    · subst h; exact ⟨u, upd_same⟩
    · obtain ⟨o, e⟩ := rp.nd a z
      exact ⟨o, (show upd g.H p u a = g.H a from upd_ne h).trans e⟩
  · refine upd_ne fun z => ?_
    by_cases ha : o.act = true
    · exact nl ⟨i, o, q, ha, z⟩
    · cases o with
      | gone => exact n rfl
      | fdct l =>
        obtain ⟨od, vs, q1, _⟩ := rp.obj i _ q
        rw [z, hz] at q1
        cases q1
      | lst l => exact ha rfl
      | dct l => exact ha rfl
      | ins C l => exact ha rfl
/-- .. and is let go -/
theorem Sim.free (N : Addr → Prop) (h : ∀ a, N a → g.N a) : Sim g { g with N := N } :=
  ⟨⟨fun a vs r q => ⟨r, fun z => q.1 (h a z), q.2⟩, fun a vs r q => ⟨r, fun z => q.1 (h a z), q.2⟩, fun a C dx fs q => ⟨q.1, fun z => q.2.1 (h a z), q.2.2⟩⟩, Nat.le_refl _, fun _ _ => rfl⟩
theorem Rep.free (rp : Rep K g) (N : Addr → Prop) (h : ∀ a, N a → g.N a) : Rep K { g with N := N } :=
  ⟨fun a z => rp.nd a (h a z), rp.inj, fun i o q => (rp.obj i o q).sim (Sim.free N h) fun _ => rfl⟩
end
section
variable {K : PySem.W.Frag} {W : WX'} {σ : L2.St} {H : Hp} {Q : VK}
theorem i_comp {m : MI} {t : Tg} {tt : MT} {te : ME} {vs : List Nat} (hsl : ∀ j ∈ t.sl, j ∈ vs) (h : tE K W (mComp m t tt te vs) σ H Q) : tLc (tI K W m) (tG K t) (tT K WF tt) (tE K WF te) vs σ H Q := by
  obtain ⟨g, e, hH, rp, re, p⟩ := h
  subst hH
  refine ⟨g, e, rfl, rp, re, (Post.bind p).imp fun lc g1 e1 r1 ⟨_, _, p1⟩ J hJ => ?_⟩
  obtain ⟨l, chk⟩ := lc
  have p1 : Post K W g1 ((compL chk t tt te (wipeE e vs) [] l g1.S).bind fun acc S2 => .ok (.lst acc) S2) σ fun d g' => ∀ v, RD K g' d v → Q v g'.H := p1
  intro Dl hD
  let At : Nat → Hp → Prop := fun i H => i ≤ l.length ∧ ∃ g' acc vs', g'.H = H ∧ Sim g1 g' ∧ Rep K g' ∧ g'.H Dl = some (.lst vs') ∧ RDs K g' acc vs' ∧ (∀ a, g'.N a ↔ (g1.N a ∨ a = Dl)) ∧ ¬ g'.Live Dl ∧
    (∀ a o, g1.H a = some o → ¬ g1.Live a → g'.H a = some o ∧ ¬ g'.Live a) ∧ compL chk t tt te (wipeE e vs) [] l g1.S = compL chk t tt te (wipeE e vs) acc (l.drop i) g'.S
  have rew : RE K g1 (wipeE e vs) (L2.wipe σ vs) := (re.mono e1).wipes vs
  refine ⟨fun i m H => m = l.length - i ∧ At i H, ⟨l.length, by simp, Nat.zero_le _, g1.guard Dl (.lst []), [], [], rfl, Sim.guard hD, r1.guard hD, upd_same, RDs.nil, fun _ => Iff.rfl, (r1.fresh hD).2, fun a o ho nl => ⟨?_, nl⟩, rfl⟩, ?_⟩
  · exact (show upd g1.H Dl (.lst []) a = g1.H a from upd_ne (ne_of_none ho hD)).trans ho
  rintro i m H ⟨rfl, hi, g', acc, vs', rfl, s', rp', hDl, racc, hN, nlive, keep, hR⟩
  have hND : g'.N Dl := (hN Dl).mpr (.inr rfl)
  by_cases hlt : i < l.length
  · obtain ⟨d, hd⟩ : ∃ d, l[i]? = some d := ⟨l[i], by simp [hlt]⟩
    have hdrop : l.drop i = d :: l.drop (i + 1) := by
      rw [List.drop_eq_getElem_cons hlt]
      congr 1
      exact Option.some.inj ((List.getElem?_eq_getElem hlt).symm.trans hd)
    rw [hdrop, compL] at hR
    have nobad : compL chk t tt te (wipeE e vs) [] l g1.S ≠ .bad := fun z => by rw [z] at p1; exact p1
    by_cases hc : chk g'.S = true
    · rw [if_pos hc] at hR
      obtain ⟨go, yl⟩ := (hJ g' s' keep rp' hc i).2 d hd
      refine .inr ⟨go, fun H => At (i + 1) H, fun H2 h2 => ⟨l.length - (i + 1), by omega, rfl, h2⟩, fun x H' y => ?_⟩
      obtain ⟨g2, x2, s2, rfl, rp2, rd2⟩ := yl x H' y
      cases q : t.f d (wipeE e vs) with
      | none => rw [q] at hR; exact absurd hR nobad
      | some e2 =>
        rw [q] at hR
        dsimp only at hR
        refine ⟨g2, wipeE e vs, d, e2, rfl, rp2, rew.sim (s'.trans x2.sim), rd2, q, fun σ2 re2 off => ⟨wipe_same off hsl, g2, e2, rfl, rp2, re2, ?_⟩⟩
        rw [s2]
        cases qt : tt e2 g'.S with
        | er x3 S3 => rw [qt] at hR; exact absurd hR nobad
        | bad => rw [qt] at hR; exact absurd hR nobad
        | ok k S3 =>
          rw [qt] at hR
          have hR : compL chk t tt te (wipeE e vs) [] l g1.S = if k then (te e2 S3).nb.bind fun y S2 => (if acc.length < sz then compL chk t tt te (wipeE e vs) (acc ++ [y]) (l.drop (i + 1)) S2 else .bad) else compL chk t tt te (wipeE e vs) acc (l.drop (i + 1)) S3 := hR
          intro g3 x3 hs3 rp3
          have x23 := x2.trans x3
          have keep3 : ∀ a o, g1.H a = some o → ¬ g1.Live a → g3.H a = some o ∧ ¬ g3.Live a := fun a o ho nl =>
            let ⟨k1, k2⟩ := keep a o ho nl
            x23.kp a o k1 k2
          have dl3 := x23.kp Dl _ hDl nlive
          have hN3 : ∀ a, g3.N a ↔ (g1.N a ∨ a = Dl) := fun a => by rw [x23.n]; exact hN a
          cases k with
          | false => exact ⟨hlt, g3, acc, vs', rfl, s'.trans x23.sim, rp3, dl3.1, racc.sim x23.sim, hN3, dl3.2, keep3, by rw [hs3]; exact hR⟩
          | true =>
            rw [if_pos rfl] at hR
            refine ⟨g3, e2, rfl, rp3, re2.mono x3, ?_⟩
            rw [hs3]
            cases qe : te e2 S3 with
            | er x4 S4 => rw [qe] at hR; exact absurd hR nobad
            | bad => rw [qe] at hR; exact absurd hR nobad
            | ok y S4 =>
              rw [qe] at hR
              have hR : compL chk t tt te (wipeE e vs) [] l g1.S = (if acc.length < sz then compL chk t tt te (wipeE e vs) (acc ++ [y]) (l.drop (i + 1)) S4 else .bad) := hR
              by_cases hz : acc.length < sz
              · rw [if_pos hz] at hR
                intro g4 x4 hs4 rp4 v4 rv4
                have x24 := x23.trans x4
                have dl4 := x24.kp Dl _ hDl nlive
                have hN4 : ∀ a, g4.N a ↔ (g1.N a ∨ a = Dl) := fun a => by rw [x24.n]; exact hN a
                have hND4 : g4.N Dl := (hN4 Dl).mpr (.inr rfl)
                refine ⟨vs', dl4.1, by rw [← racc.length, ← sz_eq]; exact hz, hlt, g4.grow Dl (.lst (vs' ++ [v4])), acc ++ [y], vs' ++ [v4], rfl, (s'.trans x24.sim).trans (Sim.grow hND4), rp4.grow hND4 dl4.2 dl4.1, upd_same,
                  ((racc.sim x24.sim).append (RDs.cons rv4 RDs.nil)).sim (Sim.grow hND4), hN4, dl4.2, fun a o ho nl => ?_, by rw [show (g4.grow Dl (.lst (vs' ++ [v4]))).S = S4 from hs4]; exact hR⟩
                obtain ⟨k1, k2⟩ := keep a o ho nl
                obtain ⟨k3, k4⟩ := x24.kp a o k1 k2
                exact ⟨(show upd g4.H Dl (.lst (vs' ++ [v4])) a = g4.H a from upd_ne (ne_of_none ho hD)).trans k3, k4⟩
              · rw [if_neg hz] at hR; exact absurd hR nobad
    · rw [if_neg hc] at hR; exact absurd hR nobad
  · have hl : l.drop i = [] := List.drop_eq_nil_of_le (Nat.le_of_not_lt hlt)
    rw [hl, compL] at hR
    have nobad : compL chk t tt te (wipeE e vs) [] l g1.S ≠ .bad := fun z => by rw [z] at p1; exact p1
    by_cases hc : chk g'.S = true
    · rw [if_pos hc] at hR
      refine .inl ⟨(hJ g' s' keep rp' hc i).1 (Nat.le_of_not_lt hlt), ?_⟩
      rw [hR] at p1
      have hsub : ∀ a, g1.N a → g'.N a := fun a z => (hN a).mpr (.inl z)
      refine p1 { g' with N := g1.N } ⟨rfl, s'.len, s'.ag, keep⟩ rfl (rp'.free _ hsub) (.ref Dl) ?_
      rw [RD]
      refine ⟨Dl, vs', rfl, ⟨.inl hDl, fun z => ?_, nlive⟩, racc.sim (Sim.free _ hsub)⟩
      obtain ⟨o, ho⟩ := r1.nd Dl z
      rw [hD] at ho; cases ho
    · rw [if_neg hc] at hR; exact absurd hR nobad
theorem i_compN {m : MI} {t : Tg} {tt : MT} {te : ME} {vs : List Nat} (hsl : ∀ j ∈ t.sl, j ∈ vs) (h : tE K W (mCompN m t tt te vs) σ H Q) : tLc (tI K W m) (tG K t) (tT K WF tt) (tE K WF te) vs σ H Q := by
  obtain ⟨g, e, hH, rp, re, p⟩ := h
  subst hH
  refine ⟨g, e, rfl, rp, re, (Post.bind p).imp fun lc g1 e1 r1 ⟨_, _, p1⟩ J hJ => ?_⟩
  obtain ⟨l, chk⟩ := lc
  have p1 : Post K W g1 ((compL chk t tt te (wipeE e vs) [] l g1.S).bind fun acc S2 => .ok (.ref S2.length) (S2 ++ [.lst acc])) σ fun d g' => ∀ v, RD K g' d v → Q v g'.H := p1
  intro Dl hD
  let At : Nat → Hp → Prop := fun i H => i ≤ l.length ∧ ∃ g' acc vs', g'.H = H ∧ Sim g1 g' ∧ Rep K g' ∧ g'.H Dl = some (.lst vs') ∧ RDs K g' acc vs' ∧ (∀ a, g'.N a ↔ (g1.N a ∨ a = Dl)) ∧ ¬ g'.Live Dl ∧
    (∀ a o, g1.H a = some o → ¬ g1.Live a → g'.H a = some o ∧ ¬ g'.Live a) ∧ compL chk t tt te (wipeE e vs) [] l g1.S = compL chk t tt te (wipeE e vs) acc (l.drop i) g'.S
  have rew : RE K g1 (wipeE e vs) (L2.wipe σ vs) := (re.mono e1).wipes vs
  refine ⟨fun i m H => m = l.length - i ∧ At i H, ⟨l.length, by simp, Nat.zero_le _, g1.guard Dl (.lst []), [], [], rfl, Sim.guard hD, r1.guard hD, upd_same, RDs.nil, fun _ => Iff.rfl, (r1.fresh hD).2, fun a o ho nl => ⟨?_, nl⟩, rfl⟩, ?_⟩
  · exact (show upd g1.H Dl (.lst []) a = g1.H a from upd_ne (ne_of_none ho hD)).trans ho
  rintro i m H ⟨rfl, hi, g', acc, vs', rfl, s', rp', hDl, racc, hN, nlive, keep, hR⟩
  have hND : g'.N Dl := (hN Dl).mpr (.inr rfl)
  by_cases hlt : i < l.length
  · obtain ⟨d, hd⟩ : ∃ d, l[i]? = some d := ⟨l[i], by simp [hlt]⟩
    have hdrop : l.drop i = d :: l.drop (i + 1) := by
      rw [List.drop_eq_getElem_cons hlt]
      congr 1
      exact Option.some.inj ((List.getElem?_eq_getElem hlt).symm.trans hd)
    rw [hdrop, compL] at hR
    have nobad : compL chk t tt te (wipeE e vs) [] l g1.S ≠ .bad := fun z => by rw [z] at p1; exact p1
    by_cases hc : chk g'.S = true
    · rw [if_pos hc] at hR
      obtain ⟨go, yl⟩ := (hJ g' s' keep rp' hc i).2 d hd
      refine .inr ⟨go, fun H => At (i + 1) H, fun H2 h2 => ⟨l.length - (i + 1), by omega, rfl, h2⟩, fun x H' y => ?_⟩
      obtain ⟨g2, x2, s2, rfl, rp2, rd2⟩ := yl x H' y
      cases q : t.f d (wipeE e vs) with
      | none => rw [q] at hR; exact absurd hR nobad
      | some e2 =>
        rw [q] at hR
        dsimp only at hR
        refine ⟨g2, wipeE e vs, d, e2, rfl, rp2, rew.sim (s'.trans x2.sim), rd2, q, fun σ2 re2 off => ⟨wipe_same off hsl, g2, e2, rfl, rp2, re2, ?_⟩⟩
        rw [s2]
        cases qt : tt e2 g'.S with
        | er x3 S3 => rw [qt] at hR; exact absurd hR nobad
        | bad => rw [qt] at hR; exact absurd hR nobad
        | ok k S3 =>
          rw [qt] at hR
          have hR : compL chk t tt te (wipeE e vs) [] l g1.S = if k then (te e2 S3).nb.bind fun y S2 => (if acc.length < sz then compL chk t tt te (wipeE e vs) (acc ++ [y]) (l.drop (i + 1)) S2 else .bad) else compL chk t tt te (wipeE e vs) acc (l.drop (i + 1)) S3 := hR
          intro g3 x3 hs3 rp3
          have x23 := x2.trans x3
          have keep3 : ∀ a o, g1.H a = some o → ¬ g1.Live a → g3.H a = some o ∧ ¬ g3.Live a := fun a o ho nl =>
            let ⟨k1, k2⟩ := keep a o ho nl
            x23.kp a o k1 k2
          have dl3 := x23.kp Dl _ hDl nlive
          have hN3 : ∀ a, g3.N a ↔ (g1.N a ∨ a = Dl) := fun a => by rw [x23.n]; exact hN a
          cases k with
          | false => exact ⟨hlt, g3, acc, vs', rfl, s'.trans x23.sim, rp3, dl3.1, racc.sim x23.sim, hN3, dl3.2, keep3, by rw [hs3]; exact hR⟩
          | true =>
            rw [if_pos rfl] at hR
            refine ⟨g3, e2, rfl, rp3, re2.mono x3, ?_⟩
            rw [hs3]
            cases qe : te e2 S3 with
            | er x4 S4 => rw [qe] at hR; exact absurd hR nobad
            | bad => rw [qe] at hR; exact absurd hR nobad
            | ok y S4 =>
              rw [qe] at hR
              have hR : compL chk t tt te (wipeE e vs) [] l g1.S = (if acc.length < sz then compL chk t tt te (wipeE e vs) (acc ++ [y]) (l.drop (i + 1)) S4 else .bad) := hR
              by_cases hz : acc.length < sz
              · rw [if_pos hz] at hR
                intro g4 x4 hs4 rp4 v4 rv4
                have x24 := x23.trans x4
                have dl4 := x24.kp Dl _ hDl nlive
                have hN4 : ∀ a, g4.N a ↔ (g1.N a ∨ a = Dl) := fun a => by rw [x24.n]; exact hN a
                have hND4 : g4.N Dl := (hN4 Dl).mpr (.inr rfl)
                refine ⟨vs', dl4.1, by rw [← racc.length, ← sz_eq]; exact hz, hlt, g4.grow Dl (.lst (vs' ++ [v4])), acc ++ [y], vs' ++ [v4], rfl, (s'.trans x24.sim).trans (Sim.grow hND4), rp4.grow hND4 dl4.2 dl4.1, upd_same,
                  ((racc.sim x24.sim).append (RDs.cons rv4 RDs.nil)).sim (Sim.grow hND4), hN4, dl4.2, fun a o ho nl => ?_, by rw [show (g4.grow Dl (.lst (vs' ++ [v4]))).S = S4 from hs4]; exact hR⟩
                obtain ⟨k1, k2⟩ := keep a o ho nl
                obtain ⟨k3, k4⟩ := x24.kp a o k1 k2
                exact ⟨(show upd g4.H Dl (.lst (vs' ++ [v4])) a = g4.H a from upd_ne (ne_of_none ho hD)).trans k3, k4⟩
              · rw [if_neg hz] at hR; exact absurd hR nobad
    · rw [if_neg hc] at hR; exact absurd hR nobad
  · have hl : l.drop i = [] := List.drop_eq_nil_of_le (Nat.le_of_not_lt hlt)
    rw [hl, compL] at hR
    have nobad : compL chk t tt te (wipeE e vs) [] l g1.S ≠ .bad := fun z => by rw [z] at p1; exact p1
    by_cases hc : chk g'.S = true
    · rw [if_pos hc] at hR
      refine .inl ⟨(hJ g' s' keep rp' hc i).1 (Nat.le_of_not_lt hlt), ?_⟩
      rw [hR] at p1
      have hsub : ∀ a, g1.N a → g'.N a := fun a z => (hN a).mpr (.inl z)
      let g2 : G := { N := g1.N, ρ := fun i => if i = g'.S.length then Dl else g'.ρ i, S := g'.S ++ [.lst acc], H := g'.H }
      have live2 : ∀ a, g2.Live a → g'.Live a ∨ a = Dl := fun a ⟨i, o, q, n, e⟩ => by
        have q' : (g'.S ++ [O.lst acc])[i]? = some o := q
        have e' : (if i = g'.S.length then Dl else g'.ρ i) = a := e
        by_cases hi : i < g'.S.length
        · rw [List.getElem?_append_left hi] at q'
          rw [if_neg (Nat.ne_of_lt hi)] at e'
          exact .inl ⟨i, o, q', n, e'⟩
        · have e2 : i = g'.S.length := by
            rcases Nat.lt_or_ge i (g'.S.length + 1) with z | z
            · omega
            · rw [List.getElem?_eq_none (by simpa using z)] at q'; cases q'
          rw [if_pos e2] at e'
          exact .inr e'.symm
      have pr2 : ∀ a, g'.Pr a → g2.Pr a := fun a q => ⟨fun z => q.1 (hsub a z), fun z => (live2 a z).elim q.2 fun e => q.1 ((hN a).mpr (.inr e))⟩
      have s2 : Sim g' g2 := ⟨⟨fun a vs r q => ⟨r, pr2 a q⟩, fun a vs r q => ⟨r, pr2 a q⟩, fun a C dx fs q => ⟨q.1, pr2 a q.2⟩⟩, by show _ ≤ (g'.S ++ [O.lst acc]).length; simp, fun i hi => if_neg (Nat.ne_of_lt hi)⟩
      have at2 : ∀ i o, g2.S[i]? = some o → (i < g'.S.length ∧ g'.S[i]? = some o ∧ g2.ρ i = g'.ρ i) ∨ (i = g'.S.length ∧ o = .lst acc ∧ g2.ρ i = Dl) := fun i o q => by
        have q' : (g'.S ++ [O.lst acc])[i]? = some o := q
        by_cases hi : i < g'.S.length
        · rw [List.getElem?_append_left hi] at q'
          exact .inl ⟨hi, q', if_neg (Nat.ne_of_lt hi)⟩
        · have e2 : i = g'.S.length := by
            rcases Nat.lt_or_ge i (g'.S.length + 1) with z | z
            · omega
            · rw [List.getElem?_eq_none (by simpa using z)] at q'; cases q'
          subst e2
          rw [List.getElem?_append_right (Nat.le_refl _), Nat.sub_self] at q'
          exact .inr ⟨rfl, (Option.some.inj q').symm, if_pos rfl⟩
      have hne : ∀ i o, g'.S[i]? = some o → o ≠ .gone → g'.ρ i ≠ Dl := fun i o q n e => by
        cases o with
        | gone => exact n rfl
        | fdct l =>
          obtain ⟨od, ws, h1, _⟩ := rp'.obj i _ q
          rw [e, hDl] at h1
          cases h1
        | lst l => exact nlive ⟨i, _, q, rfl, e⟩
        | dct l => exact nlive ⟨i, _, q, rfl, e⟩
        | ins C l => exact nlive ⟨i, _, q, rfl, e⟩
      refine p1 g2 ⟨rfl, Nat.le_trans s'.len s2.len, fun i hi => ?_, fun a o ho nl => ?_⟩ rfl ⟨fun a z => rp'.nd a (hsub a z), fun i j o u q1 n1 q2 n2 e => ?_, fun i o q => ?_⟩ (.ref Dl) ?_
      · rw [s2.ag i (Nat.lt_of_lt_of_le hi s'.len)]; exact s'.ag i hi
      · obtain ⟨k1, k2⟩ := keep a o ho nl
        exact ⟨k1, fun z => (live2 a z).elim k2 fun e => by rw [e, hD] at ho; cases ho⟩
      · rcases at2 i o q1 with ⟨a1, a2, a3⟩ | ⟨a1, a2, a3⟩ <;> rcases at2 j u q2 with ⟨b1, b2, b3⟩ | ⟨b1, b2, b3⟩
        · rw [a3, b3] at e; exact rp'.inj i j o u a2 n1 b2 n2 e
        · rw [a3, b3] at e; exact absurd e (hne i o a2 n1)
        · rw [a3, b3] at e; exact absurd e.symm (hne j u b2 n2)
        · rw [a1, b1]
      · rcases at2 i o q with ⟨a1, a2, a3⟩ | ⟨a1, a2, a3⟩
        · rw [a3]; exact (rp'.obj i o a2).sim s2 fun _ => rfl
        · rw [a3, a2]; exact ⟨vs', hDl, racc.sim s2⟩
      · rw [RD]
        exact ⟨by show g'.S.length < (g'.S ++ [O.lst acc]).length; simp, by rw [show g2.ρ g'.S.length = Dl from if_pos rfl]⟩
    · rw [if_neg hc] at hR; exact absurd hR nobad
end
section
variable {X : Cx} {W : WX'} {m : MI} {t : Tg} {tt : MT} {te : ME}
theorem PTs.imp {X : Cx} {ifs : List Expr} {t t' : TT} (h : PTs X ifs t) (f : ∀ σ H Q, t' σ H Q → t σ H Q) : PTs X ifs t' := ⟨fun p s σ H Q I q => h.run p s σ H Q I (f σ H Q q)⟩
theorem qms_nil : PTs X [] (tT X.K WF mYes) := PTs.imp pts_nil fun σ H Q ⟨g, e, hH, rp, re, p⟩ => by
  subst hH
  exact Post.here rp p
theorem qms_one {c : Expr} (h : PT X c (tT X.K WF tt)) : PTs X [c] (tT X.K WF tt) := pts_one h
theorem pm_comp {elt tg iter : Expr} {ifs : List Expr} {scope : Scope} {own : List (Str × Nat)} {pos : Pos} (hc : X.calm = true) (hN : X.N.Nodup) (hi : PI X tg iter (tI X.K W m)) (ok : BlkOk X.N X.env.scope scope own)
    (hg : ∀ (s : Shared) (H : Hp) (C : Addr) (cl : List (Str × Addr)) (fp : List Addr), PG (X.blk s H scope (compEnvC scope cl C X.env) fp) tg (tG X.K t)) (ht : ∀ (s : Shared) (H : Hp) (C : Addr) (cl : List (Str × Addr)) (fp : List Addr), PTs (X.blk s H scope (compEnvC scope cl C X.env) fp) ifs (tT X.K WF tt))
    (he : ∀ (s : Shared) (H : Hp) (C : Addr) (cl : List (Str × Addr)) (fp : List Addr), PE (X.blk s H scope (compEnvC scope cl C X.env) fp) elt (tE X.K WF te)) (hsl : ∀ j ∈ t.sl, j ∈ own.map (·.2) := by decide) (hs : ∀ x, foldedSetIterable iter X.env x = pure x := by intro _; rfl) :
    PE X (.ListComp elt [⟨tg, iter, ifs, 0⟩] scope pos) (tE X.K W (mComp m t tt te (own.map (·.2)))) := PE.imp (pe_lc hc hN hi ok hg ht he hs) fun _ _ _ => i_comp hsl
theorem sm_comp {i : Nat} {y : Str} {py : Pos} {elt tg iter : Expr} {ifs : List Expr} {scope : Scope} {own : List (Str × Nat)} {pos spos : Pos} (hc : X.calm = true) (hN : X.N.Nodup) (hy : X.N[i]? = some y) (hyl : X.env.scope.names.lookup y = some .local)
    (hsw : swapsWith (.ListComp elt [⟨tg, iter, ifs, 0⟩] scope pos) (some (.Name y py)) spos.line X.env = pure true) (hi : PI X tg iter (tI X.K W m)) (ok : BlkOk X.N X.env.scope scope own)
    (hg : ∀ (s : Shared) (H : Hp) (C : Addr) (cl : List (Str × Addr)) (fp : List Addr), PG (X.blk s H scope (compEnvC scope cl C X.env) fp) tg (tG X.K t)) (ht : ∀ (s : Shared) (H : Hp) (C : Addr) (cl : List (Str × Addr)) (fp : List Addr), PTs (X.blk s H scope (compEnvC scope cl C X.env) fp) ifs (tT X.K WF tt))
    (he : ∀ (s : Shared) (H : Hp) (C : Addr) (cl : List (Str × Addr)) (fp : List Addr), PE (X.blk s H scope (compEnvC scope cl C X.env) fp) elt (tE X.K WF te)) (hsl : ∀ j ∈ t.sl, j ∈ own.map (·.2) := by decide) (hs : ∀ x, foldedSetIterable iter X.env x = pure x := by intro _; rfl) :
    PS X (.Assign [.Name y py] (.ListComp elt [⟨tg, iter, ifs, 0⟩] scope pos) spos) (tS X.K W (sAsg i (mComp m t tt te (own.map (·.2))))) := PS.imp (ps_setLc hc hN hy hyl hsw hi ok hg ht he hs) fun D σ H ⟨g, e, hH, rp, re, p⟩ => by
  subst hH
  exact i_comp hsl ⟨g, e, rfl, rp, re, (PostS.of_st re p).imp fun d g1 e1 r1 ⟨_, _, p1⟩ v rv => p1 g1 _ (Ext.refl g1) rfl r1 ((re.mono e1).set rv)⟩
theorem pm_compN {elt tg iter : Expr} {ifs : List Expr} {scope : Scope} {own : List (Str × Nat)} {pos : Pos} (hc : X.calm = true) (hN : X.N.Nodup) (hi : PI X tg iter (tI X.K W m)) (ok : BlkOk X.N X.env.scope scope own)
    (hg : ∀ (s : Shared) (H : Hp) (C : Addr) (cl : List (Str × Addr)) (fp : List Addr), PG (X.blk s H scope (compEnvC scope cl C X.env) fp) tg (tG X.K t)) (ht : ∀ (s : Shared) (H : Hp) (C : Addr) (cl : List (Str × Addr)) (fp : List Addr), PTs (X.blk s H scope (compEnvC scope cl C X.env) fp) ifs (tT X.K WF tt))
    (he : ∀ (s : Shared) (H : Hp) (C : Addr) (cl : List (Str × Addr)) (fp : List Addr), PE (X.blk s H scope (compEnvC scope cl C X.env) fp) elt (tE X.K WF te)) (hsl : ∀ j ∈ t.sl, j ∈ own.map (·.2) := by decide) (hs : ∀ x, foldedSetIterable iter X.env x = pure x := by intro _; rfl) :
    PE X (.ListComp elt [⟨tg, iter, ifs, 0⟩] scope pos) (tE X.K W (mCompN m t tt te (own.map (·.2)))) := PE.imp (pe_lc hc hN hi ok hg ht he hs) fun _ _ _ => i_compN hsl
theorem sm_compN {i : Nat} {y : Str} {py : Pos} {elt tg iter : Expr} {ifs : List Expr} {scope : Scope} {own : List (Str × Nat)} {pos spos : Pos} (hc : X.calm = true) (hN : X.N.Nodup) (hy : X.N[i]? = some y) (hyl : X.env.scope.names.lookup y = some .local)
    (hsw : swapsWith (.ListComp elt [⟨tg, iter, ifs, 0⟩] scope pos) (some (.Name y py)) spos.line X.env = pure true) (hi : PI X tg iter (tI X.K W m)) (ok : BlkOk X.N X.env.scope scope own)
    (hg : ∀ (s : Shared) (H : Hp) (C : Addr) (cl : List (Str × Addr)) (fp : List Addr), PG (X.blk s H scope (compEnvC scope cl C X.env) fp) tg (tG X.K t)) (ht : ∀ (s : Shared) (H : Hp) (C : Addr) (cl : List (Str × Addr)) (fp : List Addr), PTs (X.blk s H scope (compEnvC scope cl C X.env) fp) ifs (tT X.K WF tt))
    (he : ∀ (s : Shared) (H : Hp) (C : Addr) (cl : List (Str × Addr)) (fp : List Addr), PE (X.blk s H scope (compEnvC scope cl C X.env) fp) elt (tE X.K WF te)) (hsl : ∀ j ∈ t.sl, j ∈ own.map (·.2) := by decide) (hs : ∀ x, foldedSetIterable iter X.env x = pure x := by intro _; rfl) :
    PS X (.Assign [.Name y py] (.ListComp elt [⟨tg, iter, ifs, 0⟩] scope pos) spos) (tS X.K W (sAsg i (mCompN m t tt te (own.map (·.2))))) := PS.imp (ps_setLc hc hN hy hyl hsw hi ok hg ht he hs) fun D σ H ⟨g, e, hH, rp, re, p⟩ => by
  subst hH
  exact i_compN hsl ⟨g, e, rfl, rp, re, (PostS.of_st re p).imp fun d g1 e1 r1 ⟨_, _, p1⟩ v rv => p1 g1 _ (Ext.refl g1) rfl r1 ((re.mono e1).set rv)⟩
end
end Mo

namespace Mo
open PySem PySem.Spec L2 PyProof.Rows

/-! ### functions: their promise, their body, their call -/
structure RoomG (k : Nat) (A : Around) : Prop where
  r : Room k A
  g : A.guards = some []
theorem RoomG.mono {j k : Nat} {A : Around} (h : RoomG k A) (le : j ≤ k) : RoomG j A := ⟨h.r.mono le, h.g⟩
theorem RoomG.deeper {k : Nat} {A : Around} (h : RoomG (k + 1) A) (env : PySem.Env) : RoomG k (A.deeper env) := ⟨h.r.deeper env, h.g⟩
theorem RoomG.u64 {k : Nat} {A : Around} (h : RoomG k A) : A.units + 64 < cLine := h.r.units
theorem RoomG.u100 {k : Nat} {A : Around} (h : RoomG k A) : A.units + 100 < cLine := by have := h.r.un; omega
structure FnG (P : Program) (w : World) (K : PySem.W.Frag) (mg : Str → Option Value) (base : Heap) (CX : CXT) (k : Nat) (f : Addr) (fd : FuncData) (ps : List Str) (sp : Sp) : Prop where
  len : ∀ vs H Q E, sp vs H Q E → vs.length = ps.length
  run : ∀ (A : Around) (outer : List PySem.Env) (s : Shared) (H : Hp) (args : Args) (us : List Value) (vs : List V) (Q : VK) (E : XK), RoomG k A → Env0 P w K mg base A outer s H → BindsTo s fd args (ps.zip us) → Vals vs us → sp vs H Q E →
    codeAny (model P w) A (.call (.ref f) args) (CR CX outer P w H s Q E) s
theorem FnG.mono {P : Program} {w : World} {K : PySem.W.Frag} {mg : Str → Option Value} {base : Heap} {CX : CXT} {j k : Nat} {f : Addr} {fd : FuncData} {ps : List Str} {sp : Sp} (F : FnG P w K mg base CX j f fd ps sp) (h : j ≤ k) : FnG P w K mg base CX k f fd ps sp :=
  ⟨F.len, fun A outer s H args us vs Q E hr => F.run A outer s H args us vs Q E (hr.mono h)⟩

/-- what is left of the objects behind a function: its own ones go, where nothing else names them -/
def trimS (ok : Bool) (S S' : List O) : List O := if (ok && ((S'.take S.length).zip S).all fun p => p.1 == p.2 || O.lo S.length p.1) = true then S'.take S.length else S'
def Xc.lo (n : Nat) (x : Xc) : Bool := match x.fs with
  | none => true
  | some l => belowP n l
/-- a body as a function of its arguments; n: how many names -/
def fnM (np n : Nat) (b : MS) : List D → List O → R D := fun ds S => if ds.length = np then (match b (ds.map some ++ List.replicate (n - ds.length) none) S with
  | .rt d S' => .ok d (trimS (D.lo S.length d) S S')
  | .nx _ S' => .ok .non (trimS true S S')
  | .er x _ S' => .er x (trimS (x.lo S.length) S S')
  | _ => .bad) else .bad
theorem fnM_len {np n : Nat} {b : MS} {ds : List D} {S : List O} (h : fnM np n b ds S ≠ .bad) : ds.length = np := by
  unfold fnM at h
  by_cases e : ds.length = np
  · exact e
  · rw [if_neg e] at h; exact absurd rfl h
abbrev ofX (E : XK) : WX' := fun cls d _ H => E cls d H
def spM (K : PySem.W.Frag) (n : Nat) (f : List D → List O → R D) : Sp := fun vs H Q E => vs.length = n ∧ ∃ g ds, g.H = H ∧ Rep K g ∧ RDs K g ds vs ∧ Post K (ofX E) g (f ds g.S) [] fun d g' => ∀ v, RD K g' d v → Q v g'.H

mutual
theorem RD.lo_of {K : PySem.W.Frag} {g : G} : ∀ {d : D} {v : V}, RD K g d v → D.lo g.S.length d = true
  | .non, _, _ => by simp [D.lo]
  | .bl _, _, _ => by simp [D.lo]
  | .int _, _, _ => by simp [D.lo]
  | .str _, _, _ => by simp [D.lo]
  | .ty _, _, _ => by simp [D.lo]
  | .adr _, _, _ => by simp [D.lo]
  | .ref i, _, h => by
    rw [RD] at h
    rw [D.lo]
    exact decide_eq_true h.1
  | .tup l, _, h => by
    rw [RD] at h
    obtain ⟨a, vs, _, _, h3⟩ := h
    rw [D.lo]
    exact RDs.lo_of h3
  | .lst l, _, h => by
    rw [RD] at h
    obtain ⟨a, vs, _, _, h3⟩ := h
    rw [D.lo]
    exact RDs.lo_of h3
  | .kl l, _, h => by
    rw [RD] at h
    obtain ⟨a, vs, _, _, h3⟩ := h
    rw [D.lo]
    exact RDs.lo_of h3
  | .fz C ns l, _, h => by
    rw [RD] at h
    obtain ⟨a, dx, vs, _, _, _, h3⟩ := h
    rw [D.lo]
    exact RDs.lo_of h3
theorem RDs.lo_of {K : PySem.W.Frag} {g : G} : ∀ {l : List D} {vs : List V}, RDs K g l vs → D.los g.S.length l = true
  | [], _, _ => by simp [D.los]
  | d :: l, _, h => by
    rw [RDs] at h
    obtain ⟨v, r, _, h2, h3⟩ := h
    rw [D.los, RD.lo_of h2, RDs.lo_of h3]
    rfl
end
theorem RPs.lo_of {K : PySem.W.Frag} {g : G} {α : Type} : ∀ {l : List (α × D)} {vs : List (α × V)}, RPs K g l vs → belowP g.S.length l = true
  | [], _, _ => rfl
  | (k, d) :: l, _, h => by
    rw [RPs] at h
    obtain ⟨v, r, _, h2, h3⟩ := h
    rw [belowP, List.all_cons, Bool.and_eq_true]
    exact ⟨h2.lo_of, RPs.lo_of h3⟩
theorem RO.lo_of {K : PySem.W.Frag} {g : G} {o : O} {a : Addr} (h : RO K g o a) : O.lo g.S.length o = true := by
  cases o with
  | gone => rfl
  | fdct l => obtain ⟨_, vs, _, h2⟩ := h; exact h2.lo_of
  | lst l => obtain ⟨vs, _, h2⟩ := h; exact h2.lo_of
  | dct l => obtain ⟨vs, _, h2⟩ := h; exact h2.lo_of
  | ins C l => obtain ⟨dx, vs, _, h2⟩ := h; exact h2.lo_of
/-- behind a call with its own objects gone -/
theorem trim_ok {K : PySem.W.Frag} {g g' : G} (rp : Rep K g) (x : Ext g g') (rp' : Rep K g') (b : Bool) :
    ∃ g2, g2.H = g'.H ∧ g2.S = trimS b g.S g'.S ∧ Ext g g2 ∧ Rep K g2 ∧ (∀ d v, (b = true → D.lo g.S.length d = true) → RD K g' d v → RD K g2 d v) ∧
      (∀ {α : Type} (l : List (α × D)) (vs : List (α × V)), (b = true → belowP g.S.length l = true) → RPs K g' l vs → RPs K g2 l vs) ∧ ∀ a, g'.Pr a → g2.Pr a := by
  unfold trimS
  by_cases hc : (b && ((g'.S.take g.S.length).zip g.S).all fun p => p.1 == p.2 || O.lo g.S.length p.1) = true
  · rw [if_pos hc]
    rw [Bool.and_eq_true] at hc
    have hlen : (g'.S.take g.S.length).length = g.S.length := by rw [List.length_take]; exact Nat.min_eq_left x.len
    have get : ∀ i o, (g'.S.take g.S.length)[i]? = some o → i < g.S.length ∧ g'.S[i]? = some o := fun i o q => by
      have hi : i < g.S.length := by rw [← hlen]; exact (List.getElem?_eq_some_iff.mp q).1
      rw [List.getElem?_take_of_lt hi] at q
      exact ⟨hi, q⟩
    have lows : ∀ i o, (g'.S.take g.S.length)[i]? = some o → O.lo g.S.length o = true := fun i o q => by
      obtain ⟨hi, _⟩ := get i o q
      obtain ⟨o0, h0⟩ : ∃ o0, g.S[i]? = some o0 := ⟨g.S[i], by simp [hi]⟩
      have hm : (o, o0) ∈ (g'.S.take g.S.length).zip g.S := by
        refine List.mem_of_getElem? (i := i) ?_
        rw [List.getElem?_zip_eq_some]
        exact ⟨q, h0⟩
      have := List.all_eq_true.mp hc.2 _ hm
      rw [Bool.or_eq_true] at this
      rcases this with z | z
      · have e : o = o0 := by simpa using z
        rw [e]
        exact (rp.obj i o0 h0).lo_of
      · exact z
    let g2 : G := { g' with S := g'.S.take g.S.length }
    have live : ∀ a, g2.Live a → g'.Live a := fun a ⟨i, o, q, n, e⟩ => ⟨i, o, (get i o q).2, n, e⟩
    have pr : ∀ a, g'.Pr a → g2.Pr a := fun a h => ⟨h.1, fun z => h.2 (live a z)⟩
    have s0 : Sim0 g' g2 := ⟨fun a vs r q => ⟨r, pr a q⟩, fun a vs r q => ⟨r, pr a q⟩, fun a C dx fs q => ⟨q.1, pr a q.2⟩⟩
    have un : ∀ i, i < g.S.length → i < g'.S.length → i < g2.S.length ∧ g2.ρ i = g'.ρ i := fun i hi _ => ⟨by rw [show g2.S.length = g.S.length from hlen]; exact hi, rfl⟩
    refine ⟨g2, rfl, rfl, ⟨x.n, Nat.le_of_eq hlen.symm, x.ag, fun a o h l => ⟨(x.kp a o h l).1, fun z => (x.kp a o h l).2 (live a z)⟩⟩, ⟨rp'.nd, fun i j o u q1 n1 q2 n2 e => rp'.inj i j o u (get i o q1).2 n1 (get j u q2).2 n2 e, fun i o q => (rp'.obj i o (get i o q).2).under s0 un (lows i o q) fun _ => rfl⟩, fun d v hd r => r.under s0 un (hd hc.1), fun l vs hl r => r.under s0 un (hl hc.1), pr⟩
  · rw [if_neg hc]
    exact ⟨g', rfl, rfl, x, rp', fun _ _ _ r => r, fun _ _ _ r => r, fun _ h => h⟩
theorem RDs.all_get {K : PySem.W.Frag} {g : G} {l : List D} {vs : List V} (r : RDs K g l vs) (n : Nat) : RE K g (l.map some ++ List.replicate (n - l.length) none) (vs.map some ++ List.replicate (n - vs.length) none) := by
  refine ⟨by simp [r.length], fun i d q => ?_⟩
  by_cases hi : i < l.length
  · rw [List.getElem?_append_left (by simpa using hi), List.getElem?_map] at q
    cases e : l[i]? with
    | none => rw [e] at q; cases q
    | some d' =>
      rw [e] at q
      cases q
      obtain ⟨v, hv, rv⟩ := r.get e
      refine ⟨v, ?_, rv⟩
      rw [List.getElem?_append_left (by rw [List.length_map, ← r.length]; exact hi), List.getElem?_map, hv]
      rfl
  · rw [List.getElem?_append_right (by simpa using hi), List.getElem?_replicate] at q
    split at q <;> cases q

/-- from a function's promise to its body's reading -/
theorem body_of {K : PySem.W.Frag} {n np : Nat} {b : MS} {vs : List V} {H : Hp} {Q : VK} {E : XK} {N : List Str} (hn : N.length = n) (h : spM K np (fnM np n b) vs H Q E) :
    tS K (ofX E) b { nx := fun _ H' => Q .non H', rt := Q } (L2.start N vs) H := by
  obtain ⟨hl, g, ds, rfl, rp, rds, p⟩ := h
  refine ⟨g, _, rfl, rp, by unfold L2.start; rw [hn]; exact rds.all_get n, ?_⟩
  unfold fnM at p
  rw [if_pos (rds.length.trans hl)] at p
  cases q : b (ds.map some ++ List.replicate (n - ds.length) none) g.S with
  | rt d S' =>
    rw [q] at p
    intro g' v x s rp' rd
    obtain ⟨g2, e1, e2, e3, e4, e5, _⟩ := trim_ok rp x rp' (D.lo g.S.length d)
    rw [← e1]
    exact p g2 e3 (by rw [e2, s]) e4 v (e5 d v (fun z => z) rd)
  | nx e' S' =>
    rw [q] at p
    intro g' σ' x s rp' _
    obtain ⟨g2, e1, e2, e3, e4, e5, _⟩ := trim_ok rp x rp' true
    show Q .non g'.H
    rw [← e1]
    exact p g2 e3 (by rw [e2, s]) e4 .non (by rw [RD])
  | er x' e' S' =>
    rw [q] at p
    intro g' σ' cls da x s rp' _ rx
    obtain ⟨g2, e1, e2, e3, e4, e5, e6, e7⟩ := trim_ok rp x rp' (x'.lo g.S.length)
    show E cls da g'.H
    rw [← e1]
    refine p g2 cls da e3 (by rw [e2, s]) e4 ⟨rx.1, ?_⟩
    have r2 := rx.2
    cases h1 : x'.fs with
    | none =>
      rw [h1] at r2
      cases da with
      | none => trivial
      | some a => exact r2
    | some fs =>
      rw [h1] at r2
      cases da with
      | none => exact r2
      | some a =>
        obtain ⟨ws, k1, k2, k3⟩ := r2
        exact ⟨ws, by rw [e1]; exact k1, e7 a k2, e6 fs ws (fun z => by simpa [Xc.lo, h1] using z) k3⟩
  | bk e' S' => rw [q] at p; exact False.elim p
  | ct e' S' => rw [q] at p; exact False.elim p
  | bad => rw [q] at p; exact False.elim p

section
variable {P : Program} {w : World} {K : PySem.W.Frag} {mg : Str → Option Value} {base : Heap} {CX : CXT}
/-- a def, by its body -/
theorem Fun.okG {x qual : Str} {st : Stmt} {f : Addr} {fd : FuncData} {N ps : List Str} {k : Nat} {sp : Sp} (F : Fun K x qual st f fd) (S : FnScope N ps (defScope st)) (len : ∀ vs H Q E, sp vs H Q E → vs.length = ps.length)
    (hbody : ∀ (cdv : Value) (A : Around) (outer : List PySem.Env) (s : Shared) (H : Hp) (vs : List V) (Q : VK) (E : XK), RoomG k (A.deeper (envOfC qual (defScope st) s.heap.objs.size f cdv)) → sp vs H Q E →
      ∃ t, PSs (cxOf CX P w K mg base N qual (defScope st) f cdv A outer s H E) (defBody st) t ∧ t { nx := fun _ H' => Q .non H', rt := Q } (L2.start N vs) H) : FnG P w K mg base CX (k + 1) f fd ps sp := by
  obtain ⟨oc, od, kV, doc, pm, an, cdv, ct, osl, rfl, lk, hcd⟩ := F.ex
  refine ⟨len, fun A outer s H args us vs Q E hr e0 hb r hsp => ?_⟩
  have hl := len _ _ _ _ hsp
  have KX : K.In s.heap := e0.mod.kin.keeps fun b o e => (e0.bs b o e).1
  have lim : s.heap.NoLimit := e0.mod.nolimit.keeps fun b o e => (e0.bs b o e).1
  have kinds : ∀ y ∈ ps.zip us, (defScope st).names.lookup y.1 = some .local ∨ ((defScope st).names.lookup y.1 = some .cell ∧ ((cellsFrom (s.heap.objs.size + 1) (defScope st).names []).lookup y.1).isSome = true) := fun y hy => by
    rcases S.par y.1 (List.of_mem_zip (a := y.1) (b := y.2) hy).1 with q | q
    · exact .inl q
    · exact .inr ⟨q, PySem.W.cellsFrom_some _ _ _ (.inl q)⟩
  refine codeAny_call_function hr.r.depth (KX _ _ lk) rfl S.co S.gen rfl (PySem.W.codeRec_of KX hcd) (hb _ _ _ _ ?_)
  refine wpAny_newFunctionEnv_cells S.kind kinds fun env he s1 x => ?_
  subst he
  refine ⟨lim.keeps x.toInCall.keep, codeAny_func ?_⟩
  obtain ⟨t, ht, hq⟩ := hbody cdv A outer s H vs Q E (hr.deeper _) hsp
  have I : L2.Inv (cxOf CX P w K mg base N qual (defScope st) f cdv A outer s H E) [] (L2.start N vs) H s1 := inv_start S hr.r.hd e0 hl r x
  refine wpAny_mono (ht.run [] s1 (L2.start N vs) H _ I hq) (fun fl s' hs => ?_) fun e s' hs => hs
  cases fl with
  | ret u =>
    obtain ⟨v, σ', H', J, rv, q⟩ := hs
    exact ⟨v, H', J.os, J.bare, J.base, J.hok, rv, q⟩
  | next =>
    obtain ⟨σ', H', J, q⟩ := hs
    exact ⟨.non, H', J.os, J.bare, J.base, J.hok, rfl, q⟩
  | brk =>
    obtain ⟨_, _, _, q⟩ := hs
    exact False.elim q
  | cont =>
    obtain ⟨_, _, _, q⟩ := hs
    exact False.elim q
/-- a def that raises nothing, by its body's function -/
theorem fn_m {x qual : Str} {st : Stmt} {f : Addr} {fd : FuncData} {N ps : List Str} {k n np : Nat} {b : MS} (F : Fun K x qual st f fd) (S : FnScope N ps (defScope st)) (hn : N.length = n) (hp : ps.length = np)
    (body : ∀ (cdv : Value) (A : Around) (outer : List PySem.Env) (s : Shared) (H : Hp) (E : XK), RoomG k (A.deeper (envOfC qual (defScope st) s.heap.objs.size f cdv)) →
      PSs (cxOf CX0 P w K mg base N qual (defScope st) f cdv A outer s H E).nox (defBody st) (tS K WF b)) :
    FnG P w K mg base CX0 (k + 1) f fd ps fun vs H Q _ => spM K np (fnM np n b) vs H Q E0 :=
  Fun.okG F S (fun vs H Q E h => by rw [hp]; exact h.1) fun cdv A outer s H vs Q E hr h => ⟨_, (body cdv A outer s H E hr).nox, body_of hn h⟩
end

/-! ### calls -/
def mCall (f : List D → List O → R D) (m : MA) : ME := fun e S => (m e S).bind fun l S1 => f l S1
/-- .. of a function that sees no object of ours -/
def pureR (r : R D) (S : List O) : R D := match r with
  | .ok d _ => if D.lo 0 d = true then .ok d S else .bad
  | .er x _ => if x.lo 0 = true then .er x S else .bad
  | .bad => .bad
def mCallP (f : List D → List O → R D) (m : MA) : ME := fun e S => (m e S).bind fun l S1 => if D.los 0 l = true then pureR (f l []) S1 else .bad
section
variable {X : Cx} {CX : CXT} {k : Nat} {f : Addr} {fd : FuncData} {ps : List Str} {sp : Sp} {W : WX'} {x : Str} {p pos : Pos} {e : Expr} {es : List Expr} {t : TA} {m : MA} {ff : List D → List O → R D} {n : Nat}
theorem run_g {pins : List (Addr × Obj)} {σ : L2.St} {H : Hp} {s : Shared} {Q : VK} {E : XK} {args : Args} {us : List Value} {vs : List V} (F : FnG X.prog X.w X.K X.mg X.base CX k f fd ps sp) (hr : RoomG k X.A) (hb : us.length = ps.length → BindsTo s fd args (ps.zip us))
    (hx : ∀ e s', CX X.stack H s E e s' → X.xe e s') (I : L2.Inv X pins σ H s) (r : Vals vs us) (h : sp vs H Q E) : codeAny (model X.prog X.w) X.A (.call (.ref f) args) (fun r s' => match r with
      | .ok (.ret u) => EP X pins σ Q u s'
      | .ok _ => False
      | .error e => X.xe e s') s := by
  have hl : us.length = ps.length := by rw [← r.length]; exact F.len _ _ _ _ h
  refine codeAny_mono (F.run X.A X.stack s H args us vs Q E hr I.env0 (hb hl) r h) fun r s' hq => ?_
  cases r with
  | error e => exact hx e s' hq
  | ok fl =>
    cases fl with
    | ret u => exact I.after hq
    | next => exact hq
    | brk => exact hq
    | cont => exact hq
/-- the call of a def by name -/
def tCallG (sp : Sp) (W : WX') (t : TA) : TE := fun σ H Q => t σ H fun vs H1 => sp vs H1 Q fun cls d H' => W cls d σ H'
abbrev PassG (CX : CXT) (X : Cx) (W : WX') : Prop := ∀ (pins : List (Addr × Obj)) (σ : L2.St) (H : Hp) (s : Shared) (e : Value) (s' : Shared), L2.Inv X pins σ H s → CX X.stack H s (fun cls d H' => W cls d σ H') e s' → X.xe e s'
theorem passG0 : PassG CX0 X W := fun _ _ _ _ _ _ _ h => h.elim
theorem pe_callG (F : FnG X.prog X.w X.K X.mg X.base CX k f fd ps sp) (hr : RoomG k X.A) (hg : Gl X x) (hm : X.mg x = some (.ref f)) (hk : PySem.W.keepIn X.K (.ref f) = true) (hb : Binds X.K fd ps []) (hx : PassG CX X W)
    (ha : PA X (e :: es) t) (hdb : (x == ("__debug__" : Str)) = false := by decide) (he : starEach (e :: es) X.env = (false, eval e X.env) :: starEach es X.env := by rfl) (hpl : (backTo pos (starEach es X.env)).any (·.1) = false := by rfl) :
    PE X (.Call (.Name x p) (e :: es) [] pos) (tCallG sp W t) := by
  constructor
  intro pins s σ H Q I h
  refine wpAny_Call_Name_kw (ld_glob I hg hm ?_ hdb)
  refine PySem.W.callWith_K (h₀ := X.base) I.ok.mod.kin hk (thn (ha.run pos pins s σ H _ I h) fun us s1 ⟨vs, H1, I1, r, q⟩ => ⟨I1.kIn, ?_⟩) he hpl
  refine wpAny_call (codeAny_mono (run_g F hr (fun hl => by have := hb s1 us I1.kIn (by simpa using hl); simpa using this) (fun e s' hc => hx pins σ H1 s1 e s' I1 hc) I1 r q) fun r s' hq => ?_)
  cases r with
  | error e => exact hq
  | ok fl => cases fl <;> exact hq
theorem pe_callG0 (F : FnG X.prog X.w X.K X.mg X.base CX k f fd ps sp) (hr : RoomG k X.A) (hg : Gl X x) (hm : X.mg x = some (.ref f)) (hk : PySem.W.keepIn X.K (.ref f) = true) (hb : Binds X.K fd ps []) (hx : PassG CX X W)
    (hdb : (x == ("__debug__" : Str)) = false := by decide) : PE X (.Call (.Name x p) [] [] pos) (tCallG sp W tNil) := by
  constructor
  intro pins s σ H Q I h
  refine wpAny_Call_Name_kw (ld_glob I hg hm ?_ hdb)
  refine PySem.W.callWith_K0 I.kIn hk (wpAny_call (codeAny_mono (run_g F hr (us := []) (fun hl => by have := hb s [] I.kIn (by simpa using hl); simpa using this) (fun e s' hc => hx pins σ H s e s' I hc) I .nil h) fun r s' hq => ?_))
  cases r with
  | error e => exact hq
  | ok fl => cases fl <;> exact hq
theorem i_call {K : PySem.W.Frag} {σ : L2.St} {H : Hp} {Q : VK} {np nn : Nat} {b : MS} {sp : Sp} (hsp : ∀ vs H Q, spM K np (fnM np nn b) vs H Q (fun cls d H' => W cls d σ H') → sp vs H Q fun cls d H' => W cls d σ H') (h : tE K W (mCall (fnM np nn b) m) σ H Q) : tCallG sp W (tA K W m) σ H Q := by
  obtain ⟨g, e, hH, rp, re, p⟩ := h
  subst hH
  refine ⟨g, e, rfl, rp, re, (Post.bind p).imp fun l g1 e1 r1 ⟨_, _, p1⟩ vs rv => hsp _ _ _ ?_⟩
  refine ⟨?_, g1, l, rfl, r1, rv, ?_⟩
  · rw [← rv.length]
    exact fnM_len (S := g1.S) fun z => by rw [z] at p1; exact p1
  · cases q : fnM np nn b l g1.S with
    | ok d S => rw [q] at p1; exact p1
    | er x S => rw [q] at p1; exact p1
    | bad => rw [q] at p1; exact p1
/-- the ground of a callee that sees no object of ours -/
abbrev G.bare (g : G) : G := { N := fun a => g.N a ∨ g.Live a, ρ := g.ρ, S := [], H := g.H }
theorem not_live_nil {g : G} (h : g.S = []) {a : Addr} : ¬ g.Live a := fun ⟨i, o, q, _, _⟩ => by rw [h] at q; simp at q
theorem sim_bare (g : G) : Sim0 g g.bare := ⟨fun a vs r q => ⟨r, fun z => z.elim q.1 q.2, not_live_nil rfl⟩, fun a vs r q => ⟨r, fun z => z.elim q.1 q.2, not_live_nil rfl⟩, fun a C dx fs q => ⟨q.1, fun z => z.elim q.2.1 q.2.2, not_live_nil rfl⟩⟩
theorem Rep.bare {K : PySem.W.Frag} {g : G} (rp : Rep K g) : Rep K g.bare := by
  refine ⟨fun a z => ?_, fun i j o u q => by simp at q, fun i o q => by simp at q⟩
  rcases z with z | ⟨i, o, q, n, e⟩
  · exact rp.nd a z
  · obtain ⟨u, h⟩ := (rp.obj i o q).at_ (O.act_ne n)
    exact ⟨u, by rw [← e]; exact h⟩
theorem back_bare {K : PySem.W.Frag} {g g' : G} (rp : Rep K g) (x : Ext g.bare g') (rp' : Rep K g') : Ext g { g with H := g'.H } ∧ Rep K { g with H := g'.H } ∧ Sim0 g' { g with H := g'.H } := by
  have e1 : Ext g { g with H := g'.H } := ⟨rfl, Nat.le_refl _, fun _ _ => rfl, fun a o h l => ⟨(x.kp a o h (not_live_nil rfl)).1, l⟩⟩
  have hN : ∀ a, g'.N a ↔ (g.N a ∨ g.Live a) := fun a => by rw [x.n]
  refine ⟨e1, ⟨fun a z => rp'.nd a ((hN a).mpr (.inl z)), rp.inj, fun i o q => (rp.obj i o q).mono e1 fun n => ?_⟩, ?_⟩
  · obtain ⟨u, h⟩ := (rp.obj i o q).at_ n
    exact (x.kp _ u h (not_live_nil rfl)).1.trans h.symm
  · exact ⟨fun a vs r q => ⟨r, fun z => q.1 ((hN a).mpr (.inl z)), fun z => q.1 ((hN a).mpr (.inr z))⟩, fun a vs r q => ⟨r, fun z => q.1 ((hN a).mpr (.inl z)), fun z => q.1 ((hN a).mpr (.inr z))⟩, fun a C dx fs q => ⟨q.1, fun z => q.2.1 ((hN a).mpr (.inl z)), fun z => q.2.1 ((hN a).mpr (.inr z))⟩⟩
theorem i_callP {K : PySem.W.Frag} {σ : L2.St} {H : Hp} {Q : VK} {np nn : Nat} {b : MS} {sp : Sp} (hsp : ∀ vs H Q, spM K np (fnM np nn b) vs H Q (fun cls d H' => W cls d σ H') → sp vs H Q fun cls d H' => W cls d σ H') (h : tE K W (mCallP (fnM np nn b) m) σ H Q) : tCallG sp W (tA K W m) σ H Q := by
  obtain ⟨g, e, hH, rp, re, p⟩ := h
  subst hH
  refine ⟨g, e, rfl, rp, re, (Post.bind p).imp fun l g1 e1 r1 ⟨_, _, p1⟩ vs rv => hsp _ _ _ ?_⟩
  by_cases hlo : D.los 0 l = true
  · rw [if_pos hlo] at p1
    refine ⟨?_, g1.bare, l, rfl, r1.bare, rv.under (sim_bare g1) (fun i hi => absurd hi (Nat.not_lt_zero i)) hlo, ?_⟩
    · rw [← rv.length]
      exact fnM_len (S := []) fun z => by rw [z] at p1; exact p1
    · show Post K (ofX _) g1.bare (fnM np nn b l []) [] _
      cases q : fnM np nn b l [] with
      | ok d S =>
        rw [q] at p1
        have p1 : Post K W g1 (if D.lo 0 d = true then .ok d g1.S else .bad) σ fun d g' => ∀ v, RD K g' d v → Q v g'.H := p1
        by_cases hd : D.lo 0 d = true
        · rw [if_pos hd] at p1
          intro g' x s rp' v rdv
          obtain ⟨y1, y2, y3⟩ := back_bare r1 x rp'
          exact p1 _ y1 rfl y2 v (rdv.under y3 (fun i hi => absurd hi (Nat.not_lt_zero i)) hd)
        · rw [if_neg hd] at p1; exact False.elim p1
      | er xx S =>
        rw [q] at p1
        have p1 : Post K W g1 (if xx.lo 0 = true then .er xx g1.S else .bad) σ fun d g' => ∀ v, RD K g' d v → Q v g'.H := p1
        by_cases hd : xx.lo 0 = true
        · rw [if_pos hd] at p1
          intro g' cls da x s rp' rx
          obtain ⟨y1, y2, y3⟩ := back_bare r1 x rp'
          refine p1 { g1 with H := g'.H } cls da y1 rfl y2 ⟨rx.1, ?_⟩
          have r2 := rx.2
          cases h1 : xx.fs with
          | none =>
            rw [h1] at r2
            cases da with
            | none => trivial
            | some a => exact r2
          | some fs =>
            rw [h1] at r2
            cases da with
            | none => exact r2
            | some a =>
              obtain ⟨ws, k1, k2, k3⟩ := r2
              have hN : ∀ a, g'.N a ↔ (g1.N a ∨ g1.Live a) := fun a => by rw [x.n]
              exact ⟨ws, k1, ⟨fun z => k2.1 ((hN a).mpr (.inl z)), fun z => k2.1 ((hN a).mpr (.inr z))⟩, k3.under y3 (fun i hi => absurd hi (Nat.not_lt_zero i)) (by simpa [Xc.lo, h1] using hd)⟩
        · rw [if_neg hd] at p1; exact False.elim p1
      | bad => rw [q] at p1; exact False.elim p1
  · rw [if_neg hlo] at p1; exact False.elim p1
/-- a function that raises nothing -/
def nbF (f : List D → List O → R D) : List D → List O → R D := fun l S => (f l S).nb
theorem nb_post {α : Type} {K : PySem.W.Frag} {W W2 : WX'} {g : G} {r : R α} {σ σ2 : L2.St} {k : α → G → Prop} (h : Post K W g r.nb σ k) : Post K W2 g r σ2 k := by
  cases r with
  | ok a S => exact h
  | er x S => exact False.elim h
  | bad => exact False.elim h
theorem i_callN {K : PySem.W.Frag} {σ : L2.St} {H : Hp} {Q : VK} {np nn : Nat} {b : MS} (h : tE K W (mCall (nbF (fnM np nn b)) m) σ H Q) : tCallG (fun vs H Q _ => spM K np (fnM np nn b) vs H Q E0) W (tA K W m) σ H Q := by
  obtain ⟨g, e, hH, rp, re, p⟩ := h
  subst hH
  refine ⟨g, e, rfl, rp, re, (Post.bind p).imp fun l g1 e1 r1 ⟨_, _, p1⟩ vs rv => ⟨?_, g1, l, rfl, r1, rv, nb_post p1⟩⟩
  rw [← rv.length]
  exact fnM_len (S := g1.S) fun z => by rw [nbF, z] at p1; exact p1
theorem i_callPN {K : PySem.W.Frag} {σ : L2.St} {H : Hp} {Q : VK} {np nn : Nat} {b : MS} (h : tE K W (mCallP (nbF (fnM np nn b)) m) σ H Q) : tCallG (fun vs H Q _ => spM K np (fnM np nn b) vs H Q E0) W (tA K W m) σ H Q := by
  obtain ⟨g, e, hH, rp, re, p⟩ := h
  subst hH
  refine ⟨g, e, rfl, rp, re, (Post.bind p).imp fun l g1 e1 r1 ⟨_, _, p1⟩ vs rv => ?_⟩
  by_cases hlo : D.los 0 l = true
  · rw [if_pos hlo] at p1
    refine ⟨?_, g1.bare, l, rfl, r1.bare, rv.under (sim_bare g1) (fun i hi => absurd hi (Nat.not_lt_zero i)) hlo, ?_⟩
    · rw [← rv.length]
      exact fnM_len (S := []) fun z => by rw [nbF, z] at p1; exact p1
    · show Post K (ofX _) g1.bare (fnM np nn b l []) [] _
      cases q : fnM np nn b l [] with
      | ok d S =>
        rw [nbF, q] at p1
        have p1 : Post K W g1 (if D.lo 0 d = true then .ok d g1.S else .bad) σ fun d g' => ∀ v, RD K g' d v → Q v g'.H := p1
        by_cases hd : D.lo 0 d = true
        · rw [if_pos hd] at p1
          intro g' x s rp' v rdv
          obtain ⟨y1, y2, y3⟩ := back_bare r1 x rp'
          exact p1 _ y1 rfl y2 v (rdv.under y3 (fun i hi => absurd hi (Nat.not_lt_zero i)) hd)
        · rw [if_neg hd] at p1; exact False.elim p1
      | er xx S => rw [nbF, q] at p1; exact False.elim p1
      | bad => rw [nbF, q] at p1; exact False.elim p1
  · rw [if_neg hlo] at p1; exact False.elim p1
/-- f(e, ..), f a def that raises nothing -/
theorem pm_call {np nn : Nat} {b : MS} (F : FnG X.prog X.w X.K X.mg X.base CX0 k f fd ps fun vs H Q _ => spM X.K np (fnM np nn b) vs H Q E0) (hr : RoomG k X.A) (hg : Gl X x) (hm : X.mg x = some (.ref f)) (hk : PySem.W.keepIn X.K (.ref f) = true) (hb : Binds X.K fd ps [])
    (ha : PA X (e :: es) (tA X.K W m)) (hdb : (x == ("__debug__" : Str)) = false := by decide) (he : starEach (e :: es) X.env = (false, eval e X.env) :: starEach es X.env := by rfl) (hpl : (backTo pos (starEach es X.env)).any (·.1) = false := by rfl) :
    PE X (.Call (.Name x p) (e :: es) [] pos) (tE X.K W (mCall (nbF (fnM np nn b)) m)) := PE.imp (pe_callG F hr hg hm hk hb passG0 ha hdb he hpl) fun σ H Q h => i_callN h
theorem pm_callP {np nn : Nat} {b : MS} (F : FnG X.prog X.w X.K X.mg X.base CX0 k f fd ps fun vs H Q _ => spM X.K np (fnM np nn b) vs H Q E0) (hr : RoomG k X.A) (hg : Gl X x) (hm : X.mg x = some (.ref f)) (hk : PySem.W.keepIn X.K (.ref f) = true) (hb : Binds X.K fd ps [])
    (ha : PA X (e :: es) (tA X.K W m)) (hdb : (x == ("__debug__" : Str)) = false := by decide) (he : starEach (e :: es) X.env = (false, eval e X.env) :: starEach es X.env := by rfl) (hpl : (backTo pos (starEach es X.env)).any (·.1) = false := by rfl) :
    PE X (.Call (.Name x p) (e :: es) [] pos) (tE X.K W (mCallP (nbF (fnM np nn b)) m)) := PE.imp (pe_callG F hr hg hm hk hb passG0 ha hdb he hpl) fun σ H Q h => i_callPN h
end
end Mo

namespace Mo
open PySem PySem.Spec L2 PyProof.Rows

/-! ### calls by names -/
def permL {α : Type} (ix : List Nat) (l : List α) : List α := ix.filterMap (l[·]?)
def KBindsG (K : PySem.W.Frag) (fd : FuncData) (ps ks : List Str) (nu : Nat) (ix : List Nat) : Prop :=
  ∀ (s : Shared) (us ws : List Value), K.In s.heap → us.length = nu → ws.length = ks.length → BindsTo s fd ⟨us, ks.zip ws⟩ (ps.zip (permL ix (us ++ ws)))
def mCallK (nu nk : Nat) (ix : List Nat) (f : List D → List O → R D) (m mk : MA) : ME := fun e S => (m e S).bind fun l S1 => (mk e S1).bind fun l2 S2 => if l.length = nu ∧ l2.length = nk then f (permL ix (l ++ l2)) S2 else .bad
def mCallKP (nu nk : Nat) (ix : List Nat) (f : List D → List O → R D) (m mk : MA) : ME := fun e S => (m e S).bind fun l S1 => (mk e S1).bind fun l2 S2 => if l.length = nu ∧ l2.length = nk ∧ D.los 0 (permL ix (l ++ l2)) = true then pureR (f (permL ix (l ++ l2)) []) S2 else .bad
def tCallKG (sp : Sp) (nu nk : Nat) (ix : List Nat) (W : WX') (t tk : TA) : TE := fun σ H Q => t σ H fun vs H1 => tk σ H1 fun zs H2 => vs.length = nu ∧ zs.length = nk ∧ sp (permL ix (vs ++ zs)) H2 Q fun cls d H' => W cls d σ H'
structure KAt (X : Cx) (kws : List Keyword) (ks : List Str) : Prop where
  names : ∀ pos, (backToKw pos (keywordEach kws X.env)).filterMap (·.1) = ks
  all : ∀ pos, (backToKw pos (keywordEach kws X.env)).all (·.1.isSome) = true
  none : ∀ pos, (backToKw pos (keywordEach kws X.env)).any (·.1.isNone) = false
section
variable {X : Cx} {CX : CXT} {k : Nat} {f : Addr} {fd : FuncData} {ps ks : List Str} {sp : Sp} {W : WX'} {x : Str} {p pos : Pos} {e : Expr} {es : List Expr} {kws : List Keyword} {t tk : TA} {m mk : MA} {nu nk : Nat} {ix : List Nat}
theorem PK.imp {X : Cx} {kws : List Keyword} {t t' : TA} (h : PK X kws t) (f : ∀ σ H Q, t' σ H Q → t σ H Q) : PK X kws t' := ⟨fun o p s σ H Q I q => h.run o p s σ H Q I (f σ H Q q)⟩
theorem km_nil : PK X [] (tA X.K W mNil) := PK.imp pk_nil fun _ _ _ => i_nil
theorem km_cons {nm : Option Str} {kpos : Pos} {ma : ME} {mr : MA} (ha : PE X e (tE X.K W ma)) (hr : PK X kws (tA X.K W mr)) : PK X (⟨nm, e, kpos⟩ :: kws) (tA X.K W (mCons ma mr)) := PK.imp (pk_cons ha hr) fun _ _ _ => i_cons
theorem pe_callKG0 (F : FnG X.prog X.w X.K X.mg X.base CX k f fd ps sp) (hr : RoomG k X.A) (hg : Gl X x) (hm : X.mg x = some (.ref f)) (hk : PySem.W.keepIn X.K (.ref f) = true) (hb : KBindsG X.K fd ps ks 0 ix) (hx : PassG CX X W) (hnk : ks.length = nk)
    (hkw : PK X kws tk) (ka : KAt X kws ks) (hdb : (x == ("__debug__" : Str)) = false := by decide) : PE X (.Call (.Name x p) [] kws pos) (tCallKG sp 0 nk ix W tNil tk) := by
  constructor
  intro pins s σ H Q I h
  refine wpAny_Call_Name_kw (ld_glob I hg hm ?_ hdb)
  refine PySem.W.callWith_KW0 (h₀ := X.base) I.ok.mod.kin hk (ka.all pos) ?_ (by
    show (([] : List (Bool × Sem Value)).any (·.1) || _) = false
    rw [ka.none pos] <;> rfl)
  refine thn (hkw.run pos pins s σ H _ I h) fun ws s2 ⟨zs, H2, I2, rz, h1, h2, q2⟩ => ⟨I2.kIn, ?_⟩
  rw [ka.names pos]
  have hz : ws.length = ks.length := by rw [← rz.length, h2, hnk]
  refine wpAny_call (codeAny_mono (run_g F hr (args := ⟨[], ks.zip ws⟩) (us := permL ix ([] ++ ws)) (fun _ => hb s2 [] ws I2.kIn rfl hz) (fun e s' hc => hx pins σ H2 s2 e s' I2 hc) I2 (pick_vals (xs := [] ++ zs) (its := [] ++ ws) rz ix) q2) fun r s' hq => ?_)
  cases r with
  | error e => exact hq
  | ok fl => cases fl <;> exact hq
theorem pe_callKG (F : FnG X.prog X.w X.K X.mg X.base CX k f fd ps sp) (hr : RoomG k X.A) (hg : Gl X x) (hm : X.mg x = some (.ref f)) (hk : PySem.W.keepIn X.K (.ref f) = true) (hb : KBindsG X.K fd ps ks nu ix) (hx : PassG CX X W) (hnk : ks.length = nk)
    (ha : PA X (e :: es) t) (hkw : PK X kws tk) (ka : KAt X kws ks) (hdb : (x == ("__debug__" : Str)) = false := by decide) (he : starEach (e :: es) X.env = (false, eval e X.env) :: starEach es X.env := by rfl)
    (hpl : (backTo pos (starEach (e :: es) X.env)).any (·.1) = false := by rfl) : PE X (.Call (.Name x p) (e :: es) kws pos) (tCallKG sp nu nk ix W t tk) := by
  constructor
  intro pins s σ H Q I h
  refine wpAny_Call_Name_kw (ld_glob I hg hm ?_ hdb)
  refine PySem.W.callWith_KW (h₀ := X.base) I.ok.mod.kin hk (ka.all pos) (thn (ha.run pos pins s σ H _ I h) fun us s1 ⟨vs, H1, I1, r, q⟩ => ?_) (by rw [hpl, ka.none pos] <;> rfl) he
  refine thn (hkw.run pos pins s1 σ H1 _ I1 q) fun ws s2 ⟨zs, H2, I2, rz, h1, h2, q2⟩ => ⟨I2.kIn, ?_⟩
  rw [ka.names pos]
  have hz : ws.length = ks.length := by rw [← rz.length, h2, hnk]
  refine wpAny_call (codeAny_mono (run_g F hr (args := ⟨us, ks.zip ws⟩) (us := permL ix (us ++ ws)) (fun _ => hb s2 us ws I2.kIn (by rw [← r.length]; exact h1) hz) (fun e s' hc => hx pins σ H2 s2 e s' I2 hc) I2 (pick_vals (r.append rz) ix) q2) fun r s' hq => ?_)
  cases r with
  | error e => exact hq
  | ok fl => cases fl <;> exact hq
theorem i_callK {K : PySem.W.Frag} {σ : L2.St} {H : Hp} {Q : VK} {np nn : Nat} {b : MS} (h : tE K W (mCallK nu nk ix (nbF (fnM np nn b)) m mk) σ H Q) : tCallKG (fun vs H Q _ => spM K np (fnM np nn b) vs H Q E0) nu nk ix W (tA K W m) (tA K W mk) σ H Q := by
  obtain ⟨g, e, hH, rp, re, p⟩ := h
  subst hH
  refine ⟨g, e, rfl, rp, re, (Post.bind p).imp fun l g1 e1 r1 ⟨_, _, p1⟩ vs rv => ?_⟩
  refine ⟨g1, e, rfl, r1, re.mono e1, (Post.bind p1).imp fun l2 g2 e2 r2 ⟨_, _, p2⟩ zs rz => ?_⟩
  by_cases hc : l.length = nu ∧ l2.length = nk
  · rw [if_pos hc] at p2
    have ra := pick_rds ((rv.mono e2).append rz) ix
    refine ⟨by rw [← rv.length]; exact hc.1, by rw [← rz.length]; exact hc.2, ?_, g2, permL ix (l ++ l2), rfl, r2, ra, nb_post p2⟩
    rw [show (permL ix (vs ++ zs)).length = (permL ix (l ++ l2)).length from ra.length.symm]
    exact fnM_len (S := g2.S) fun z => by rw [nbF, z] at p2; exact p2
  · rw [if_neg hc] at p2; exact False.elim p2
theorem i_callKP {K : PySem.W.Frag} {σ : L2.St} {H : Hp} {Q : VK} {np nn : Nat} {b : MS} (h : tE K W (mCallKP nu nk ix (nbF (fnM np nn b)) m mk) σ H Q) : tCallKG (fun vs H Q _ => spM K np (fnM np nn b) vs H Q E0) nu nk ix W (tA K W m) (tA K W mk) σ H Q := by
  obtain ⟨g, e, hH, rp, re, p⟩ := h
  subst hH
  refine ⟨g, e, rfl, rp, re, (Post.bind p).imp fun l g1 e1 r1 ⟨_, _, p1⟩ vs rv => ?_⟩
  refine ⟨g1, e, rfl, r1, re.mono e1, (Post.bind p1).imp fun l2 g2 e2 r2 ⟨_, _, p2⟩ zs rz => ?_⟩
  by_cases hc : l.length = nu ∧ l2.length = nk ∧ D.los 0 (permL ix (l ++ l2)) = true
  · rw [if_pos hc] at p2
    have ra : RDs K g2 (permL ix (l ++ l2)) (permL ix (vs ++ zs)) := pick_rds ((rv.mono e2).append rz) ix
    refine ⟨by rw [← rv.length]; exact hc.1, by rw [← rz.length]; exact hc.2.1, ?_, g2.bare, permL ix (l ++ l2), rfl, r2.bare, ra.under (sim_bare g2) (fun i hi => absurd hi (Nat.not_lt_zero i)) hc.2.2, ?_⟩
    · rw [show (permL ix (vs ++ zs)).length = (permL ix (l ++ l2)).length from ra.length.symm]
      exact fnM_len (S := []) fun z => by rw [nbF, z] at p2; exact p2
    · show Post K (ofX _) g2.bare (fnM np nn b (permL ix (l ++ l2)) []) [] _
      cases q : fnM np nn b (permL ix (l ++ l2)) [] with
      | ok d S =>
        rw [nbF, q] at p2
        have p2 : Post K W g2 (if D.lo 0 d = true then .ok d g2.S else .bad) σ fun d g' => ∀ v, RD K g' d v → Q v g'.H := p2
        by_cases hd : D.lo 0 d = true
        · rw [if_pos hd] at p2
          intro g' x s rp' v rdv
          obtain ⟨y1, y2, y3⟩ := back_bare r2 x rp'
          exact p2 _ y1 rfl y2 v (rdv.under y3 (fun i hi => absurd hi (Nat.not_lt_zero i)) hd)
        · rw [if_neg hd] at p2; exact False.elim p2
      | er xx S => rw [nbF, q] at p2; exact False.elim p2
      | bad => rw [nbF, q] at p2; exact False.elim p2
  · rw [if_neg hc] at p2; exact False.elim p2
theorem pm_callK0 {np nn : Nat} {b : MS} (F : FnG X.prog X.w X.K X.mg X.base CX0 k f fd ps fun vs H Q _ => spM X.K np (fnM np nn b) vs H Q E0) (hr : RoomG k X.A) (hg : Gl X x) (hm : X.mg x = some (.ref f)) (hk : PySem.W.keepIn X.K (.ref f) = true) (hb : KBindsG X.K fd ps ks 0 ix) (hnk : ks.length = nk)
    (hkw : PK X kws (tA X.K W mk)) (ka : KAt X kws ks) (hdb : (x == ("__debug__" : Str)) = false := by decide) : PE X (.Call (.Name x p) [] kws pos) (tE X.K W (mCallK 0 nk ix (nbF (fnM np nn b)) mNil mk)) :=
  PE.imp (pe_callKG0 (W := W) F hr hg hm hk hb passG0 hnk hkw ka hdb) fun σ H Q h => i_nil (i_callK h)
theorem pm_callKP0 {np nn : Nat} {b : MS} (F : FnG X.prog X.w X.K X.mg X.base CX0 k f fd ps fun vs H Q _ => spM X.K np (fnM np nn b) vs H Q E0) (hr : RoomG k X.A) (hg : Gl X x) (hm : X.mg x = some (.ref f)) (hk : PySem.W.keepIn X.K (.ref f) = true) (hb : KBindsG X.K fd ps ks 0 ix) (hnk : ks.length = nk)
    (hkw : PK X kws (tA X.K W mk)) (ka : KAt X kws ks) (hdb : (x == ("__debug__" : Str)) = false := by decide) : PE X (.Call (.Name x p) [] kws pos) (tE X.K W (mCallKP 0 nk ix (nbF (fnM np nn b)) mNil mk)) :=
  PE.imp (pe_callKG0 (W := W) F hr hg hm hk hb passG0 hnk hkw ka hdb) fun σ H Q h => i_nil (i_callKP h)
theorem pm_callK {np nn : Nat} {b : MS} (F : FnG X.prog X.w X.K X.mg X.base CX0 k f fd ps fun vs H Q _ => spM X.K np (fnM np nn b) vs H Q E0) (hr : RoomG k X.A) (hg : Gl X x) (hm : X.mg x = some (.ref f)) (hk : PySem.W.keepIn X.K (.ref f) = true) (hb : KBindsG X.K fd ps ks nu ix) (hnk : ks.length = nk)
    (ha : PA X (e :: es) (tA X.K W m)) (hkw : PK X kws (tA X.K W mk)) (ka : KAt X kws ks) (hdb : (x == ("__debug__" : Str)) = false := by decide) (he : starEach (e :: es) X.env = (false, eval e X.env) :: starEach es X.env := by rfl)
    (hpl : (backTo pos (starEach (e :: es) X.env)).any (·.1) = false := by rfl) : PE X (.Call (.Name x p) (e :: es) kws pos) (tE X.K W (mCallK nu nk ix (nbF (fnM np nn b)) m mk)) :=
  PE.imp (pe_callKG (W := W) F hr hg hm hk hb passG0 hnk ha hkw ka hdb he hpl) fun σ H Q h => i_callK h
theorem pm_callKP {np nn : Nat} {b : MS} (F : FnG X.prog X.w X.K X.mg X.base CX0 k f fd ps fun vs H Q _ => spM X.K np (fnM np nn b) vs H Q E0) (hr : RoomG k X.A) (hg : Gl X x) (hm : X.mg x = some (.ref f)) (hk : PySem.W.keepIn X.K (.ref f) = true) (hb : KBindsG X.K fd ps ks nu ix) (hnk : ks.length = nk)
    (ha : PA X (e :: es) (tA X.K W m)) (hkw : PK X kws (tA X.K W mk)) (ka : KAt X kws ks) (hdb : (x == ("__debug__" : Str)) = false := by decide) (he : starEach (e :: es) X.env = (false, eval e X.env) :: starEach es X.env := by rfl)
    (hpl : (backTo pos (starEach (e :: es) X.env)).any (·.1) = false := by rfl) : PE X (.Call (.Name x p) (e :: es) kws pos) (tE X.K W (mCallKP nu nk ix (nbF (fnM np nn b)) m mk)) :=
  PE.imp (pe_callKG (W := W) F hr hg hm hk hb passG0 hnk ha hkw ka hdb he hpl) fun σ H Q h => i_callKP h
end

/-! ### list(range(..)) -/
def mListR (f : List D → Option (List D)) (m : MA) : ME := fun e S => (m e S).bind fun l S1 => match f l with
  | some r => if r.length ≤ sz then .ok (.lst r) S1 else .bad
  | none => .bad
def mListRN (f : List D → Option (List D)) (m : MA) : ME := fun e S => (m e S).bind fun l S1 => match f l with
  | some r => if r.length ≤ sz then .ok (.ref S1.length) (S1 ++ [.lst r]) else .bad
  | none => .bad
/-- list(..) of a list or a tuple, changed later -/
def mListN (m : ME) : ME := fun e S => (m e S).bind fun d S1 => match gList S1 [d] with
  | some (.lst r) => .ok (.ref S1.length) (S1 ++ [.lst r])
  | _ => .bad
theorem range_rds {K : PySem.W.Frag} {g : G} (a c : Int) (n : Nat) : RDs K g (rangeD a c n) ((List.range n).map fun i => V.int (a + (i : Nat) * c)) := by
  unfold rangeD
  generalize List.range n = l
  induction l with
  | nil => exact RDs.nil
  | cons i r ih => exact RDs.cons (by rw [RD]) ih
/-- a range object, made for the call at hand -/
def PRgC (X : Cx) (e : Expr) (t : L2.St → Hp → (Int → Int → Int → Hp → Prop) → Prop) : Prop :=
  ∀ (pins : List (Addr × Obj)) (s : Shared) (σ : L2.St) (H : Hp) (Q : Int → Int → Int → Hp → Prop), L2.Inv X pins σ H s → t σ H Q →
    wpAny (model X.prog X.w) X.A (eval e X.env) (fun x s' => ∃ r a b c t u v H', x = .ref r ∧ IsRange s'.heap r a b c t u v ∧ L2.Inv X pins σ H' s' ∧ Q a b c H') X.xe s
section
variable {X : Cx} {W : WX'} {ta : TA} {p pos : Pos}
theorem prgC_1 {a : Expr} (hg : Gl X "range") (hm : X.mg "range" = none) (ha : PA X [a] ta) (hs : starEach [a] X.env = [(false, eval a X.env)] := by rfl) : PRgC X (.Call (.Name "range" p) [a] [] pos) fun σ H Q => ta σ H fun vs H1 => ∃ b : Int, vs = [.int b] ∧ Q 0 b 1 H1 := by
  intro pins s σ H Q I h
  refine Call_ (ld_blt I hg hm boot_range (PyProof.Rows.callWith_type1 (thn (ha.run pos pins s σ H _ I h) fun us s1 ⟨vs, H1, I1, r1, b, e, q⟩ => ?_) hs rfl))
  subst e
  obtain ⟨u, rfl, t, rfl⟩ := vals1 r1
  exact call_range_1 ⟨_, 0, b, 1, _, _, _, H1, rfl, IsRange.new _ _ _ _ _ _ _, I1.kept fun b u e => Heap.get?_push_of_some _ e, q⟩
theorem prgC_2 {a b : Expr} (hg : Gl X "range") (hm : X.mg "range" = none) (ha : PA X [a, b] ta) (hs : starEach [a, b] X.env = [(false, eval a X.env), (false, eval b X.env)] := by rfl) (hs2 : starEach [b] X.env = [(false, eval b X.env)] := by rfl) :
    PRgC X (.Call (.Name "range" p) [a, b] [] pos) fun σ H Q => ta σ H fun vs H1 => ∃ i j : Int, vs = [.int i, .int j] ∧ Q i j 1 H1 := by
  intro pins s σ H Q I h
  refine Call_ (ld_blt I hg hm boot_range (PyProof.Rows.callWith_type1 (thn (ha.run pos pins s σ H _ I h) fun us s1 ⟨vs, H1, I1, r1, i, j, e, q⟩ => ?_) (by rw [hs, hs2]) (by rw [hs2]; rfl)))
  subst e
  obtain ⟨u, w', rfl, ⟨t, rfl⟩, ⟨t', rfl⟩⟩ := vals2 r1
  exact call_range_2 ⟨_, i, j, 1, _, _, _, H1, rfl, IsRange.new _ _ _ _ _ _ _, I1.kept fun b u e => Heap.get?_push_of_some _ e, q⟩
theorem prgC_3 {a b c : Expr} (hg : Gl X "range") (hm : X.mg "range" = none) (ha : PA X [a, b, c] ta) (hs : starEach [a, b, c] X.env = (false, eval a X.env) :: starEach [b, c] X.env := by rfl) (hpl : (backTo pos (starEach [b, c] X.env)).any (·.1) = false := by rfl) :
    PRgC X (.Call (.Name "range" p) [a, b, c] [] pos) fun σ H Q => ta σ H fun vs H1 => ∃ i j k : Int, vs = [.int i, .int j, .int k] ∧ k ≠ 0 ∧ k.natAbs < 1073741824 ∧ Q i j k H1 := by
  intro pins s σ H Q I h
  refine Call_ (ld_blt I hg hm boot_range (PyProof.Rows.callWith_type1 (thn (ha.run pos pins s σ H _ I h) fun us s1 ⟨vs, H1, I1, r1, i, j, k, e, c0, c1, q⟩ => ?_) hs hpl))
  subst e
  cases r1 with
  | cons r rr =>
    obtain ⟨u, w', rfl, ⟨t', rfl⟩, ⟨t'', rfl⟩⟩ := vals2 rr
    obtain ⟨t, rfl⟩ := r
    exact call_range_3 c0 ⟨_, i, j, k, _, _, _, H1, rfl, IsRange.new _ _ _ _ _ _ _, I1.kept (t' := s1.toks) fun b u e => Heap.get?_push_of_some _ e, q⟩ (.inl (PyProof.noPylong_small c1))
theorem vals_rgC {a c : Int} {n : Nat} {acc : Array Value} (h : ItemsOf (fun i v => ∃ t, v = .int (a + i * c) t) acc n) : Vals ((List.range n).map fun i => V.int (a + (i : Nat) * c)) acc.toList := by
  have e : acc.toList.length = n := by rw [Array.length_toList]; exact h.1
  rw [← e]
  refine vals_of_get acc.toList _ fun j u hj => ?_
  obtain ⟨t, rfl⟩ := h.2 j u (by rw [← hj, Array.getElem?_toList])
  exact ⟨t, rfl⟩
theorem pe_listRgC {e : Expr} {te : L2.St → Hp → (Int → Int → Int → Hp → Prop) → Prop} (hc : X.calm = true) (hg : Gl X "list") (hm : X.mg "list" = none) (he : PRgC X e te) (na : starEach [e] X.env = (false, eval e X.env) :: starEach [] X.env := by rfl) :
    PE X (.Call (.Name "list" p) [e] [] pos) fun σ H Q => te σ H fun a b c H1 => ∃ n : Nat, Builtin.Range.small a b c = true ∧ Builtin.Range.rangeSize a b c = n ∧ n ≤ 16777216 ∧ ∀ q, H1 q = none → Q (.ref q) (upd H1 q (.lst ((List.range n).map fun i => V.int (a + (i : Nat) * c)))) := by
  constructor
  intro pins s σ H Q I h
  refine Call_ (ld_blt I hg hm boot_list (PyProof.Rows.callWith_type1 (args_cons (thn (he pins s σ H _ I h) fun x s1 ⟨r, a, b, c, t, u, v, H1, ex, hr, I1, n, b1, b2, b3, q⟩ => args_nil ?_) na) na))
  subst ex
  refine call_list_range (n := n) (I1.ok.hd hc) hr b1 b2 b3 fun h' tk acc c' hk e' hi => ?_
  refine ⟨.ref s1.heap.objs.size, _, I1.laid hk (Nat.le_refl _) (show ObjOk X.prog X.w _ _ _ (.lst ((List.range n).map fun i => V.int (a + (i : Nat) * c))) from ⟨?_, acc.toList, c', vals_rgC hi, ?_⟩), rfl, q _ (I1.hok.fresh (Nat.le_refl _))⟩
  · rw [List.length_map, List.length_range, sizeLine_eq]; exact b3
  · rw [Array.toArray_toList]; exact e'
theorem range1_fact (b : Int) (h : b.natAbs < 4611686018427387904) : Builtin.Range.small 0 b 1 = true ∧ Builtin.Range.rangeSize 0 b 1 = b.toNat := by
  refine ⟨small_one (by omega) (by omega) (by omega) (by omega), ?_⟩
  rw [rangeSize_nat, Int.sub_zero]
theorem range2_fact (a b : Int) (h : a.natAbs < 4611686018427387904) (h2 : b.natAbs < 4611686018427387904) : Builtin.Range.small a b 1 = true ∧ Builtin.Range.rangeSize a b 1 = (b - a).toNat :=
  ⟨small_one (by omega) (by omega) (by omega) (by omega), rangeSize_nat a b⟩
/-- what a list of a range asks, by the data -/
theorem i_listR {K : PySem.W.Frag} {σ : L2.St} {H : Hp} {Q : VK} {f : List D → Option (List D)} {m : MA} {k : List V → Hp → Prop} (h : tE K W (mListR f m) σ H Q)
    (hk : ∀ g l vs r, Rep K g → RDs K g l vs → f l = some r → r.length ≤ sz → (∀ us q, RDs K g r us → g.H q = none → Q (.ref q) (upd g.H q (.lst us))) → k vs g.H) : tA K W m σ H k := by
  obtain ⟨g, e, hH, rp, re, p⟩ := h
  subst hH
  refine ⟨g, e, rfl, rp, re, (Post.bind p).imp fun l g1 e1 r1 ⟨_, _, p1⟩ vs rv => ?_⟩
  cases q : f l with
  | none => rw [q] at p1; exact False.elim p1
  | some r =>
    rw [q] at p1
    dsimp only at p1
    by_cases hz : r.length ≤ sz
    · rw [if_pos hz] at p1
      refine hk g1 l vs r r1 rv q hz fun us a ru ha => ?_
      obtain ⟨x1, x2, x3⟩ := new_lst r1 ha ru
      exact p1 _ x1 rfl x2 _ x3
    · rw [if_neg hz] at p1; exact False.elim p1
theorem i_listRN {K : PySem.W.Frag} {σ : L2.St} {H : Hp} {Q : VK} {f : List D → Option (List D)} {m : MA} {k : List V → Hp → Prop} (h : tE K W (mListRN f m) σ H Q)
    (hk : ∀ g l vs r, Rep K g → RDs K g l vs → f l = some r → r.length ≤ sz → (∀ us q, RDs K g r us → g.H q = none → Q (.ref q) (upd g.H q (.lst us))) → k vs g.H) : tA K W m σ H k := by
  obtain ⟨g, e, hH, rp, re, p⟩ := h
  subst hH
  refine ⟨g, e, rfl, rp, re, (Post.bind p).imp fun l g1 e1 r1 ⟨_, _, p1⟩ vs rv => ?_⟩
  cases q : f l with
  | none => rw [q] at p1; exact False.elim p1
  | some r =>
    rw [q] at p1
    dsimp only at p1
    by_cases hz : r.length ≤ sz
    · rw [if_pos hz] at p1
      refine hk g1 l vs r r1 rv q hz fun us a ru ha => ?_
      obtain ⟨x1, x2, x3⟩ := new_ref r1 ha ru
      exact p1 _ x1 rfl x2 _ x3
    · rw [if_neg hz] at p1; exact False.elim p1
theorem rangeA1_inv {K : PySem.W.Frag} {g : G} {l r : List D} {vs : List V} (rv : RDs K g l vs) (q : rangeA1 l = some r) : ∃ b : Int, vs = [.int b] ∧ b.natAbs < 4611686018427387904 ∧ r = rangeD 0 1 b.toNat := by
  unfold rangeA1 at q
  split at q
  · split at q
    · rename_i b hc
      cases q
      obtain ⟨v, rfl, h1⟩ := rv.one
      rw [RD] at h1; subst h1
      exact ⟨b, rfl, hc, rfl⟩
    · cases q
  · cases q
theorem rangeA2_inv {K : PySem.W.Frag} {g : G} {l r : List D} {vs : List V} (rv : RDs K g l vs) (q : rangeA2 l = some r) : ∃ a b : Int, vs = [.int a, .int b] ∧ a.natAbs < 4611686018427387904 ∧ b.natAbs < 4611686018427387904 ∧ r = rangeD a 1 (b - a).toNat := by
  unfold rangeA2 at q
  split at q
  · split at q
    · rename_i i j hc
      cases q
      obtain ⟨v, u, rfl, h1, h2⟩ := rv.two
      simp only [RD] at h1 h2; subst h1; subst h2
      exact ⟨i, j, rfl, hc.1, hc.2, rfl⟩
    · cases q
  · cases q
theorem rangeA3_inv {K : PySem.W.Frag} {g : G} {l r : List D} {vs : List V} (rv : RDs K g l vs) (q : rangeA3 l = some r) : ∃ a b c : Int, vs = [.int a, .int b, .int c] ∧ c ≠ 0 ∧ c.natAbs < 1073741824 ∧ Builtin.Range.small a b c = true ∧ 0 ≤ Builtin.Range.rangeSize a b c ∧ r = rangeD a c (Builtin.Range.rangeSize a b c).toNat := by
  unfold rangeA3 at q
  split at q
  · split at q
    · rename_i i j k hc
      cases q
      rw [RDs] at rv
      obtain ⟨v, vs', rfl, h1, h2⟩ := rv
      obtain ⟨u, w, rfl, h3, h4⟩ := h2.two
      simp only [RD] at h1 h3 h4; subst h1; subst h3; subst h4
      exact ⟨i, j, k, rfl, hc.1, hc.2.1, hc.2.2.1, hc.2.2.2, rfl⟩
    · cases q
  · cases q
theorem sz16 {n : Nat} (h : n ≤ sz) : n ≤ 16777216 := h
section
variable {a b c e0 : Expr} {m : MA} {p2 pos2 : Pos}
theorem pm_listR1 (hc : X.calm = true) (hl : Gl X "list") (hlm : X.mg "list" = none) (hg : Gl X "range") (hm : X.mg "range" = none) (ha : PA X [a] (tA X.K W m)) (hs : starEach [a] X.env = [(false, eval a X.env)] := by rfl)
    (na : starEach [.Call (.Name "range" p2) [a] [] pos2] X.env = (false, eval (.Call (.Name "range" p2) [a] [] pos2) X.env) :: starEach [] X.env := by rfl) : PE X (.Call (.Name "list" p) [.Call (.Name "range" p2) [a] [] pos2] [] pos) (tE X.K W (mListR rangeA1 m)) :=
  PE.imp (pe_listRgC hc hl hlm (prgC_1 hg hm ha hs) na) fun σ H Q h => i_listR h fun g l vs r rp rv q hz k => by
    obtain ⟨b, rfl, h1, rfl⟩ := rangeA1_inv rv q
    obtain ⟨f1, f2⟩ := range1_fact b h1
    rw [range_len] at hz
    exact ⟨b, rfl, b.toNat, f1, f2, sz16 hz, fun q hq => k _ q (range_rds 0 1 _) hq⟩
theorem pm_listRN1 (hc : X.calm = true) (hl : Gl X "list") (hlm : X.mg "list" = none) (hg : Gl X "range") (hm : X.mg "range" = none) (ha : PA X [a] (tA X.K W m)) (hs : starEach [a] X.env = [(false, eval a X.env)] := by rfl)
    (na : starEach [.Call (.Name "range" p2) [a] [] pos2] X.env = (false, eval (.Call (.Name "range" p2) [a] [] pos2) X.env) :: starEach [] X.env := by rfl) : PE X (.Call (.Name "list" p) [.Call (.Name "range" p2) [a] [] pos2] [] pos) (tE X.K W (mListRN rangeA1 m)) :=
  PE.imp (pe_listRgC hc hl hlm (prgC_1 hg hm ha hs) na) fun σ H Q h => i_listRN h fun g l vs r rp rv q hz k => by
    obtain ⟨b, rfl, h1, rfl⟩ := rangeA1_inv rv q
    obtain ⟨f1, f2⟩ := range1_fact b h1
    rw [range_len] at hz
    exact ⟨b, rfl, b.toNat, f1, f2, sz16 hz, fun q hq => k _ q (range_rds 0 1 _) hq⟩
theorem pm_listR2 (hc : X.calm = true) (hl : Gl X "list") (hlm : X.mg "list" = none) (hg : Gl X "range") (hm : X.mg "range" = none) (ha : PA X [a, b] (tA X.K W m)) (hs : starEach [a, b] X.env = [(false, eval a X.env), (false, eval b X.env)] := by rfl) (hs2 : starEach [b] X.env = [(false, eval b X.env)] := by rfl)
    (na : starEach [.Call (.Name "range" p2) [a, b] [] pos2] X.env = (false, eval (.Call (.Name "range" p2) [a, b] [] pos2) X.env) :: starEach [] X.env := by rfl) : PE X (.Call (.Name "list" p) [.Call (.Name "range" p2) [a, b] [] pos2] [] pos) (tE X.K W (mListR rangeA2 m)) :=
  PE.imp (pe_listRgC hc hl hlm (prgC_2 hg hm ha hs hs2) na) fun σ H Q h => i_listR h fun g l vs r rp rv q hz k => by
    obtain ⟨i, j, rfl, h1, h2, rfl⟩ := rangeA2_inv rv q
    obtain ⟨f1, f2⟩ := range2_fact i j h1 h2
    rw [range_len] at hz
    exact ⟨i, j, rfl, (j - i).toNat, f1, f2, sz16 hz, fun q hq => k _ q (range_rds i 1 _) hq⟩
theorem pm_listR3 (hc : X.calm = true) (hl : Gl X "list") (hlm : X.mg "list" = none) (hg : Gl X "range") (hm : X.mg "range" = none) (ha : PA X [a, b, c] (tA X.K W m)) (hs : starEach [a, b, c] X.env = (false, eval a X.env) :: starEach [b, c] X.env := by rfl) (hpl : (backTo pos2 (starEach [b, c] X.env)).any (·.1) = false := by rfl)
    (na : starEach [.Call (.Name "range" p2) [a, b, c] [] pos2] X.env = (false, eval (.Call (.Name "range" p2) [a, b, c] [] pos2) X.env) :: starEach [] X.env := by rfl) : PE X (.Call (.Name "list" p) [.Call (.Name "range" p2) [a, b, c] [] pos2] [] pos) (tE X.K W (mListR rangeA3 m)) :=
  PE.imp (pe_listRgC hc hl hlm (prgC_3 hg hm ha hs hpl) na) fun σ H Q h => i_listR h fun g l vs r rp rv q hz k => by
    obtain ⟨i, j, c, rfl, h1, h2, h3, h4, rfl⟩ := rangeA3_inv rv q
    rw [range_len] at hz
    exact ⟨i, j, c, rfl, h1, h2, _, h3, by omega, sz16 hz, fun q hq => k _ q (range_rds i c _) hq⟩
end
end

/-! ### the law's end -/
/-- the law's call, from its promise -/
theorem law_callG {P : Program} {w : World} {K : PySem.W.Frag} {mg mb : Str → Option Value} {CX : CXT} {k : Nat} {fa a : Addr} {fd : FuncData} {x : Str} {sp : Sp} {s₁ : Shared} {vs : List Value} {ns : List Int}
    (KX : K.In s₁.heap) (hns : s₁.heap.Ns mainGlobals mg) (hb : s₁.heap.Ns builtinsNs mb) (hbb : ∀ x : Str, x ≠ "__name__" → mb x = bootBuiltins x) (hlim : s₁.heap.NoLimit) (hg : s₁.gens = #[])
    (ha : s₁.heap.get? a = some { cls := .type "list", data := .seq vs.toArray }) (hi : IntsAre vs ns) (hl : ns.length ≤ sizeLine) (hr : RoomG k callerA)
    (F : ∀ base : Heap, K.In base → base.Ns mainGlobals mg → FnG P w K mg base CX k fa fd [x] sp) (hbind : ∀ (s : Shared) (u : Value), BindsTo s fd ⟨[u], []⟩ [(x, u)])
    (hsp : ∀ H : Hp, Only H → SqL K H a (ns.map V.int) → sp [.ref a] H (fun v _ => v = .bl true) fun _ _ _ => False)
    (hCX : ∀ H e s', CX [] H s₁ (fun _ _ _ => False) e s' → False) :
    codeAny (model P w) callerA (.call (.ref fa) ⟨[.ref a], []⟩) (fun r s' => r = .ok (.ret (.bool true)) ∧ OldK s₁.heap s'.heap ∧ s'.os = s₁.os ∧ AllBare s'.gens) s₁ := by
  have rv := vals_ints hi
  have lenV := hi.length
  -- nothing is tracked but the script, where it isn't one of the module's own objects
  have go : ∀ H : Hp, Only H → SqL K H a (ns.map V.int) → HOk P w H s₁.heap → (∀ b, H b ≠ none → b = a) → (H a ≠ none → K.lookup a = none) →
      codeAny (model P w) callerA (.call (.ref fa) ⟨[.ref a], []⟩) (fun r s' => r = .ok (.ret (.bool true)) ∧ OldK s₁.heap s'.heap ∧ s'.os = s₁.os ∧ AllBare s'.gens) s₁ := by
    intro H hO hS hok hA hK
    have untracked : ∀ {b : Addr} {o : Obj} {es : Array DictEntry} {ep : Nat}, s₁.heap.get? b = some o → o.data = .dict es ep → H b = none := fun {b o es ep} e d => by
      cases q : H b with
      | none => rfl
      | some u =>
        exfalso
        have e' : b = a := hA b (by rw [q]; simp)
        rw [e', ha] at e
        cases e
        cases d
    have nsOf : ∀ {b : Addr} {m : Str → Option Value}, s₁.heap.Ns b m → (hidT s₁.heap H).Ns b m := fun {b m} ⟨o, es, ep, e, d, r⟩ => ⟨o, es, ep, hidT_get e (untracked e d), d, r⟩
    have hKb : K.In (hidT s₁.heap H) := fun b o e => hidT_get (KX b o e) (by
      cases q : H b with
      | none => rfl
      | some u =>
        exfalso
        have e' : b = a := hA b (by rw [q]; simp)
        have z := hK (by rw [← e', q]; simp)
        rw [← e', e] at z
        cases z)
    have hM : Mod K mg (hidT s₁.heap H) := ⟨hKb, nsOf hns, ⟨mb, nsOf hb, hbb⟩, let ⟨mc, h1, h2⟩ := hlim; ⟨mc, nsOf h1, h2⟩⟩
    have none_in : ∀ b : Addr, b ∉ frs ([] : List PySem.Env) := fun b z => absurd (show b ∈ ([] : List Addr) from z) (by simp)
    have e0 : Env0 P w K mg (hidT s₁.heap H) callerA [] s₁ H := ⟨rfl, hM, fun b o e => of_hidT e, Nat.le_of_eq (hidT_size _ _), trivial, fun b z => absurd z (none_in b), hok, .of_eq hg⟩
    refine codeAny_mono ((F _ hKb (nsOf hns)).run callerA [] s₁ H ⟨[.ref a], []⟩ [.ref a] [.ref a] _ _ hr e0 (hbind s₁ (.ref a)) (.cons rfl .nil) (hsp H hO hS)) fun r s' h => ?_
    cases r with
    | error e => exact (hCX H e s' h).elim
    | ok fl =>
      cases fl with
      | ret u =>
        obtain ⟨v, H', os, bare, un, hok', r', q⟩ := h
        have q' : v = .bl true := q
        subst q'
        obtain rfl : u = Value.bool true := r'
        refine ⟨rfl, OldK.of_keep fun b o e => ?_, os, bare⟩
        cases q : H b with
        | none => exact un.keep b o e q (none_in b) (by simp)
        | some u =>
          rcases hO b with z | ⟨ob, xs, z⟩
          · rw [q] at z; cases z
          · obtain ⟨e1, _⟩ := hok b _ z
            obtain ⟨e2, _⟩ := hok' b _ (un.frzs b ob _ z)
            rw [e] at e1; cases e1
            exact e2
      | next => exact False.elim h
      | brk => exact False.elim h
      | cont => exact False.elim h
  cases hk : K.lookup a with
  | some o =>
    have e := KX a o hk
    rw [ha] at e
    cases e
    exact go (fun _ => none) (fun _ => .inl rfl) (.inr ⟨_, vs.toArray, _, hk, rfl, rfl, rfl, by rw [List.size_toArray, lenV]; exact hl, by simpa using rv⟩) (fun b u z => by cases z) (fun b z => absurd rfl z) fun z => absurd rfl z
  | none =>
    let own : Hp := fun b => if b = a then some (.frz { cls := .type "list", data := .seq vs.toArray } (.lst (ns.map V.int))) else none
    have at1 : own a = some (.frz { cls := .type "list", data := .seq vs.toArray } (.lst (ns.map V.int))) := if_pos rfl
    have off1 : ∀ b, b ≠ a → own b = none := fun b h => if_neg h
    refine go own (fun b => ?_) (.inl (.inr ⟨_, at1⟩)) (fun b u z => ?_) (fun b z => ?_) fun _ => hk
    · by_cases h : b = a
      · subst h; exact .inr ⟨_, _, at1⟩
      · exact .inl (off1 b h)
    · by_cases h : b = a
      · subst h
        rw [at1] at z
        cases z
        exact ⟨ha, by rw [List.length_map]; exact hl, vs, _, rv, ha⟩
      · rw [off1 b h] at z; cases z
    · by_cases h : b = a
      · exact h
      · exact absurd (off1 b h) z
theorem walk_G {l : PySem.W.OpenLaw} {k np nn : Nat} {q : Program} {loose : List Str} {XP : (Str → Option Value) → Heap → Prop} {YP : World → Heap → Prop} {d : DefRec} {K : Params → PySem.W.Frag} {x : Str}
    (hn : l.most = some 63) (hdf : d.params.defaults = []) (hr : Room k callerA) (hY : ∀ (w : World) (h : Heap), YP w h → (K w.params).In h)
    (F : ∀ (w : World) (mg : Str → Option Value) (fa : Addr) (h : Heap), (K w.params).In h → h.Ns mainGlobals mg → mg d.name = some (.ref fa) →
      ∃ fd : FuncData, (∀ (s : Shared) (u : Value), BindsTo s fd ⟨[u], []⟩ [(x, u)]) ∧ ∃ b : MS, (∀ ns : List Int, ns.length ≤ 63 → ∃ S, fnM np nn b [.kl (ns.map D.int)] [] = .ok (.bl true) S) ∧
        ∀ base : Heap, (K w.params).In base → base.Ns mainGlobals mg → FnG l.prog w (K w.params) mg base CX0 k fa fd [x] fun vs H Q _ => spM (K w.params) np (fnM np nn b) vs H Q E0) :
    PySem.W.WalkO q loose XP YP l.row.toRowW d [] (fun f vs => PySem.call f vs) := by
  refine Att.attach_call hn hdf fun w s₀ s₁ mg mb fa o pm cd doc a vs ns G Y ho hd hcd hmg hobj hints hlen hg => ?_
  have KX := hY w _ Y
  obtain ⟨fd, hb, b, hlaw, hF⟩ := F w mg fa _ KX G.T.g hmg
  refine law_callG KX G.T.g G.T.b G.T.builtins G.T.nolimit hg hobj hints (Nat.le_trans hlen (by decide)) ⟨hr, rfl⟩ hF hb (fun H hO hS => ?_) fun H e s' h => h
  obtain ⟨S', hS'⟩ := hlaw ns hlen
  have hnp := fnM_len (ds := [.kl (ns.map D.int)]) (S := []) fun z => by rw [hS'] at z; cases z
  refine ⟨hnp, { N := fun _ => False, ρ := fun _ => 0, S := [], H := H }, [.kl (ns.map D.int)], rfl, ⟨fun _ z => z.elim, fun i j o u q => by simp at q, fun i o q => by simp at q⟩, RDs.cons ?_ RDs.nil, ?_⟩
  · rw [RD]
    refine ⟨a, ns.map V.int, rfl, ?_, rds_of_ints ns⟩
    rcases hS with h | h
    · exact .inl ⟨h, fun z => z, not_live_nil rfl⟩
    · exact .inr (.inr h)
  · show Post _ _ _ (fnM np nn b [.kl (ns.map D.int)] []) [] _
    rw [hS']
    intro g' _ _ _ v rv
    rw [RD] at rv
    exact rv
end Mo

namespace Mo
open PySem PySem.Spec L2 PyProof.Rows

/-! ### another mirror of the same text -/
theorem tE_ref {K : PySem.W.Frag} {W : WX'} {m m' : ME} {σ : L2.St} {H : Hp} {Q : VK} (h : ∀ e S, m' e S ≠ .bad → m e S = m' e S) (q : tE K W m' σ H Q) : tE K W m σ H Q := by
  obtain ⟨g, e, hH, rp, re, p⟩ := q
  refine ⟨g, e, hH, rp, re, ?_⟩
  rw [h e g.S fun z => by rw [z] at p; exact p]
  exact p
theorem tT_ref {K : PySem.W.Frag} {W : WX'} {m m' : MT} {σ : L2.St} {H : Hp} {Q : Bool → Hp → Prop} (h : ∀ e S, m' e S ≠ .bad → m e S = m' e S) (q : tT K W m' σ H Q) : tT K W m σ H Q := by
  obtain ⟨g, e, hH, rp, re, p⟩ := q
  refine ⟨g, e, hH, rp, re, ?_⟩
  rw [h e g.S fun z => by rw [z] at p; exact p]
  exact p
/-- repr(a) == repr(b), without the texts where the data are alike -/
def okRepr (S : List O) (d : D) : Bool := match toPyS S d with
  | some p => p.showable && !p.hasDict && decide (p.depth ≤ 64) && decide (lenB p ≤ sz)
  | none => false
def offS : D → Bool
  | .ref _ => false
  | _ => true
def mReprEq (f : Op2) (ma mb : ME) : ME := fun e S => (ma e S).bind fun a S1 => if okRepr S1 a = true then (mb e S1).bind fun b S2 =>
  if offS a = true ∧ a = b then R.ofO S2 (f S2 (.int 0) (.int 0)) else R.ofO S2 ((gRepr S1 [a]).bind fun x => (gRepr S2 [b]).bind fun y => f S2 x y) else .bad
theorem okRepr_at {S : List O} {d : D} (h : okRepr S d = true) : ∃ x, gRepr S [d] = some (.str x) ∧ ∀ S', offS d = true → gRepr S' [d] = some (.str x) := by
  unfold okRepr at h
  cases e : toPyS S d with
  | none => rw [e] at h; cases h
  | some p =>
    rw [e] at h
    simp only [Bool.and_eq_true, decide_eq_true_eq, Bool.not_eq_true'] at h
    obtain ⟨⟨⟨h1, h2⟩, h3⟩, h4⟩ := h
    have key : ∀ S', toPyS S' d = some p → gRepr S' [d] = some (.str p.shown) := fun S' e' => by
      show (shownD S' d).map D.str = _
      unfold shownD
      rw [e']
      show (if _ then _ else _ : Option Str).map D.str = _
      rw [if_pos ⟨h1, h2, h3, h4⟩]
      rfl
    refine ⟨p.shown, key S e, fun S' ho => key S' ?_⟩
    cases d <;> first | (cases ho; done) | exact e
theorem reprEq_ref {f : Op2} {ma mb : ME} (hf : ∀ S x, f S (.str x) (.str x) = f S (.int 0) (.int 0)) (e : Env) (S : List O) (h : mReprEq f ma mb e S ≠ .bad) : mBin f (mCB gRepr (mCons ma mNil)) (mCB gRepr (mCons mb mNil)) e S = mReprEq f ma mb e S := by
  unfold mReprEq at h ⊢
  unfold mBin mCB mCons mNil
  cases ha : ma e S with
  | er x S1 => rfl
  | bad => rfl
  | ok a S1 =>
    rw [ha] at h
    simp only [R.bind] at h ⊢
    by_cases ho : okRepr S1 a = true
    · rw [if_pos ho] at h ⊢
      obtain ⟨x, h1, h2⟩ := okRepr_at ho
      rw [h1]
      simp only [R.ofO]
      cases hb : mb e S1 with
      | er x S1 => rfl
      | bad => rfl
      | ok b S2 =>
        simp only []
        by_cases hc : offS a = true ∧ a = b
        · rw [if_pos hc, ← hc.2, h2 S2 hc.1]
          simp only []
          rw [hf]
        · rw [if_neg hc]
          simp only [Option.bind]
          cases hy : gRepr S2 [b] <;> rfl
    · rw [if_neg ho] at h
      exact absurd rfl h
section
variable {X : Cx} {W : WX'} {a b : Expr} {ma mb : ME} {pos : Pos}
theorem pm_reprEq (h : PE X a (tE X.K W (mBin gEq (mCB gRepr (mCons ma mNil)) (mCB gRepr (mCons mb mNil))))) : PE X a (tE X.K W (mReprEq gEq ma mb)) := PE.imp h fun σ H Q => tE_ref (reprEq_ref fun S x => by unfold gEq eqB scD; simp)
theorem qm_reprEq (h : PT X a (tT X.K W (mTB (mBin gEq (mCB gRepr (mCons ma mNil)) (mCB gRepr (mCons mb mNil)))))) : PT X a (tT X.K W (mTB (mReprEq gEq ma mb))) := PT.imp h fun σ H Q => tT_ref fun e S hh => by
  unfold mTB at hh ⊢
  rw [reprEq_ref (fun S x => by unfold gEq eqB scD; simp) e S fun z => hh (by rw [z]; rfl)]
theorem qm_reprNe (h : PT X a (tT X.K W (mTB (mBin gNe (mCB gRepr (mCons ma mNil)) (mCB gRepr (mCons mb mNil)))))) : PT X a (tT X.K W (mTB (mReprEq gNe ma mb))) := PT.imp h fun σ H Q => tT_ref fun e S hh => by
  unfold mTB at hh ⊢
  rw [reprEq_ref (fun S x => by unfold gNe eqB scD; simp) e S fun z => hh (by rw [z]; rfl)]
end

/-! ### running a mirror: one rule for each combinator -/
section
variable {e e1 e2 : Env} {S S1 S2 S3 S4 : List O} {a b d i : D} {ma mb mc m mo mi mv : ME} {mr : MA} {r : RS} {t u : MT} {k : Bool} {l : List D} {n : Nat}
theorem v_C : mC d e S = .ok d S := rfl
theorem v_var (h : e[n]? = some (some d)) : mVar n e S = .ok d S := by unfold mVar; rw [h]
theorem v_bin {f : Op2} (h1 : ma e S = .ok a S1) (h2 : mb e S1 = .ok b S2) (h3 : f S2 a b = some d) : mBin f ma mb e S = .ok d S2 := by
  unfold mBin; rw [h1]; show (mb e S1).bind _ = _; rw [h2]; show R.ofO S2 (f S2 a b) = _; rw [h3]; rfl
theorem v_un {f : Op1} (h1 : ma e S = .ok a S1) (h3 : f S1 a = some d) : mUn f ma e S = .ok d S1 := by
  unfold mUn; rw [h1]; show R.ofO S1 (f S1 a) = _; rw [h3]; rfl
theorem v_nil : mNil e S = .ok [] S := rfl
theorem v_cons (h1 : ma e S = .ok a S1) (h2 : mr e S1 = .ok l S2) : mCons ma mr e S = .ok (a :: l) S2 := by
  unfold mCons; rw [h1]; show (mr e S1).bind _ = _; rw [h2]; rfl
theorem v_cb {f : OpN} (h1 : mr e S = .ok l S1) (h2 : f S1 l = some d) : mCB f mr e S = .ok d S1 := by
  unfold mCB; rw [h1]; show R.ofO S1 (f S1 l) = _; rw [h2]; rfl
theorem v_tup (h1 : mr e S = .ok l S1) (h2 : l.length ≤ sz) : mTup mr e S = .ok (.tup l) S1 := by
  unfold mTup; rw [h1]; show (if _ then _ else _) = _; rw [if_pos h2]
theorem v_lst (h1 : mr e S = .ok l S1) (h2 : l.length ≤ sz) : mLst mr e S = .ok (.lst l) S1 := by
  unfold mLst; rw [h1]; show (if _ then _ else _) = _; rw [if_pos h2]
theorem v_new (h1 : mr e S = .ok l S1) (h2 : l.length ≤ sz) : mNew mr e S = .ok (.ref S1.length) (S1 ++ [.lst l]) := by
  unfold mNew; rw [h1]; show (if _ then _ else _) = _; rw [if_pos h2]
theorem v_call {f : List D → List O → R D} (h1 : mr e S = .ok l S1) {x : R D} (h2 : f l S1 = x) : mCall f mr e S = x := by
  unfold mCall; rw [h1]; exact h2
theorem v_tb (h1 : m e S = .ok (.bl k) S1) : mTB m e S = .ok k S1 := by unfold mTB; rw [h1]; rfl
theorem v_and (h1 : t e S = .ok k S1) {x : R Bool} (h2 : (if k then u e S1 else .ok false S1) = x) : mAnd t u e S = x := by unfold mAnd; rw [h1]; exact h2
theorem v_or (h1 : t e S = .ok k S1) {x : R Bool} (h2 : (if k then .ok true S1 else u e S1) = x) : mOr t u e S = x := by unfold mOr; rw [h1]; exact h2
theorem v_not (h1 : t e S = .ok k S1) : mNot t e S = .ok (!k) S1 := by unfold mNot; rw [h1]; rfl
theorem v_if (h1 : t e S = .ok k S1) {x : R D} (h2 : (if k then ma e S1 else mb e S1) = x) : mIf t ma mb e S = x := by unfold mIf; rw [h1]; exact h2
theorem w_seq {x y : MS} (h1 : x e S = .nx e1 S1) (h2 : y e1 S1 = r) : sSeq x y e S = r := by unfold sSeq; rw [h1]; exact h2
theorem w_seqR {x y : MS} (h1 : x e S = .rt d S1) : sSeq x y e S = .rt d S1 := by unfold sSeq; rw [h1]
theorem w_asg (h1 : m e S = .ok d S1) : sAsg n m e S = .nx (e.set n (some d)) S1 := by unfold sAsg; rw [h1]; rfl
theorem w_expr (h1 : m e S = .ok d S1) : sExpr m e S = .nx e S1 := by unfold sExpr; rw [h1]; rfl
theorem w_ret (h1 : m e S = .ok d S1) : sRet m e S = .rt d S1 := by unfold sRet; rw [h1]; rfl
theorem w_if {x y : MS} (h1 : t e S = .ok k S1) (h2 : (if k then x e S1 else y e S1) = r) : sIf t x y e S = r := by unfold sIf; rw [h1]; exact h2
theorem w_set (h1 : mv e S = .ok d S1) (h2 : mo e S1 = .ok a S2) (h3 : mi e S2 = .ok i S3) (h4 : fSet S3 a i d = some S4) : sSet mv mo mi e S = .nx e S4 := by
  unfold sSet; rw [h1]; show (mo e S1).st _ _ = _; rw [h2]; show (mi e S2).st _ _ = _; rw [h3]; show (match fSet S3 a i d with | some S4 => RS.nx e S4 | none => .bad) = _; rw [h4]
theorem x_ix {j : Nat} {l : List D} {i : Int} (h : S[j]? = some (.lst l)) (h2 : atI l i = some d) : gIx S (.ref j) (.int i) = some d := by
  show (match seqR S (.ref j) with | some l => atI l i | none => none) = _
  rw [show seqR S (.ref j) = some l by unfold seqR; simp only [h]]
  exact h2
theorem x_ixl {l : List D} {i : Int} (h2 : atI l i = some d) : gIx S (.lst l) (.int i) = some d := h2
theorem x_set {j q : Nat} {l : List D} {i : Int} (h : S[j]? = some (.lst l)) (h2 : ixN l.length i = some q) : fSet S (.ref j) (.int i) d = some (S.set j (.lst (l.set q d))) := by
  unfold fSet; simp only [h, h2]
theorem x_addI {i j : Int} : gAdd S (.int i) (.int j) = some (.int (i + j)) := rfl
theorem x_gt {i j : Int} : gGt S (.int i) (.int j) = some (.bl (decide (j < i))) := rfl
theorem x_ge {i j : Int} : gGe S (.int i) (.int j) = some (.bl (decide (j ≤ i))) := rfl
theorem x_le {i j : Int} : gLe S (.int i) (.int j) = some (.bl (decide (i ≤ j))) := rfl
theorem x_mod {i j : Int} (h : 0 < j) : gMod S (.int i) (.int j) = some (.int (i % j)) := by unfold gMod; simp only [h, if_true]
theorem log2_20 {j : Int} (h : 0 < j) (h2 : j < 100000000000000000000) : j.natAbs.log2 < 9000 := (Nat.log2_lt (by omega)).mpr (Nat.lt_of_lt_of_le (show j.natAbs < 100000000000000000000 by omega) (by decide +kernel))
theorem x_div {i j : Int} (h : 0 < j) (h2 : j < 100000000000000000000) : gDiv S (.int i) (.int j) = some (.int (i / j)) := by unfold gDiv; simp only [h, log2_20 h h2, and_self, if_true]
theorem x_mul {i j : Int} (h : i.natAbs < 18446744073709551616) : gMul S (.int i) (.int j) = some (.int (i * j)) := by unfold gMul; simp only [h, true_or, if_true]
theorem x_pow {i j : Int} (h : 0 ≤ j) (h1 : j ≤ 1000000) (h2 : i.natAbs < 18446744073709551616) : gPow S (.int i) (.int j) = some (.int (i ^ j.toNat)) := by unfold gPow; simp only [h, h1, h2, and_self, if_true]
theorem x_int {i : Int} : gInt S [.int i] = some (.int i) := rfl
theorem x_intB {k : Bool} : gInt S [.bl k] = some (.int (if k then 1 else 0)) := rfl
theorem x_lenL {l : List D} : gLen S [.lst l] = some (.int l.length) := rfl
end
theorem toPys_ints : ∀ cs : List Int, toPys (cs.map D.int) = some (cs.map PyData.int)
  | [] => rfl
  | c :: cs => by
    rw [List.map_cons, toPys, toPys_ints cs]
    rfl
theorem trim_same {b : Bool} {S S' : List O} (h : S'.length = S.length) : trimS b S S' = S' := by
  unfold trimS
  split
  · rw [← h, List.take_length]
  · rfl
theorem canLay_ints : ∀ cs : List Int, PyData.canLayAll0 (cs.map PyData.int) = true ∧ PyData.depthAll (cs.map PyData.int) = 0
  | [] => ⟨rfl, rfl⟩
  | c :: cs => by
    obtain ⟨h1, h2⟩ := canLay_ints cs
    constructor
    · rw [List.map_cons, PyData.canLayAll0, h1]; rfl
    · rw [List.map_cons, PyData.depthAll, h2]; rfl
theorem shaped_ints (cs : List Int) : SeqAt.shaped (.list (cs.map PyData.int)) = true := by
  unfold SeqAt.shaped
  rw [PyData.canLay0, (canLay_ints cs).1, PyData.depth, (canLay_ints cs).2]
  decide
/-- xs == [] -/
theorem x_eqNil {S : List O} {cs : List Int} : gEq S (.lst (cs.map .int)) (.lst []) = some (.bl (decide (cs = []))) := by
  unfold gEq eqB
  rw [show scD (.lst (cs.map .int)) (.lst []) = none by rfl]
  dsimp only
  rw [show toPyS S (.lst (cs.map .int)) = some (.list (cs.map PyData.int)) by
    show toPy (.lst (cs.map .int)) = _
    rw [toPy, toPys_ints]]
  rw [show toPyS S (.lst []) = some (.list []) by rfl]
  dsimp only
  rw [if_pos ⟨shaped_ints cs, by decide +kernel⟩]
  cases cs with
  | nil => rfl
  | cons c cs => rfl
/-! ### the numbers that a script gives -/
def bFeed : MS :=
  sRet (mNew (mCons (mC (.int 0)) (mCons (mComp (miSeq (mSl (mVar 0) moN (moS (mC (.int 63))))) (tgN 1) mYes (mCB gAbs (mCons (mVar 1) mNil)) [1]) (mCons (mC (.int 0)) (mCons (mC (.int 0)) mNil)))))
def bDraw : MS :=
  sSeq (sSet (mBin gAdd (mBin gIx (mVar 0) (mC (.int 3))) (mC (.int 1))) (mVar 0) (mC (.int 3))) (
  sSeq (sIf (mTB (mBin gGt (mBin gIx (mVar 0) (mC (.int 0))) (mC (.int 0)))) (
  sSeq (sAsg 2 (mBin gMod (mCB gInt (mCons (mBin gIx (mVar 0) (mC (.int 0))) mNil)) (mVar 1))) (
  sSeq (sSet (mBin gDiv (mBin gIx (mVar 0) (mC (.int 0))) (mVar 1)) (mVar 0) (mC (.int 0))) (
  sRet (mVar 2)))) (
  sNil)) (
  sSeq (sAsg 3 (mBin gAdd (mBin gIx (mVar 0) (mC (.int 1))) (mBin gMul (mLst (mCons (mC (.int 7)) mNil)) (mCB gInt (mCons (mBin gEq (mBin gIx (mVar 0) (mC (.int 1))) (mLst mNil)) mNil))))) (
  sSeq (sAsg 4 (mBin gIx (mVar 3) (mBin gMod (mCB gInt (mCons (mBin gIx (mVar 0) (mC (.int 2))) mNil)) (mCB gLen (mCons (mVar 3) mNil))))) (
  sSeq (sSet (mBin gAdd (mBin gIx (mVar 0) (mC (.int 2))) (mC (.int 1))) (mVar 0) (mC (.int 2))) (
  sSeq (sIf (mAnd (mTB (mBin gGe (mVar 4) (mBin gPow (mC (.int 10)) (mC (.int 18))))) (mTB (mBin gLe (mBin gIx (mVar 0) (mC (.int 2))) (mCB gLen (mCons (mVar 3) mNil))))) (
  sSeq (sSet (mBin gDiv (mVar 4) (mVar 1)) (mVar 0) (mC (.int 0))) (
  sRet (mBin gMod (mCB gInt (mCons (mVar 4) mNil)) (mVar 1)))) (
  sNil)) (
  sSeq (sAsg 5 (mBin gMod (mCB gInt (mCons (mBin gPow (mBin gAdd (mBin gMod (mCB gInt (mCons (mVar 4) mNil)) (mC (.int 2147483629))) (mBin gMul (mC (.int 99991)) (mBin gIx (mVar 0) (mC (.int 3))))) (mC (.int 5))) mNil)) (mC (.int 2305843009213693951)))) (
  sSeq (sAsg 5 (mBin gMod (mCB gInt (mCons (mBin gPow (mBin gAdd (mBin gAdd (mVar 5) (mBin gMul (mC (.int 7)) (mBin gIx (mVar 0) (mC (.int 3))))) (mC (.int 1))) (mC (.int 3))) mNil)) (mC (.int 2305843009213693921)))) (
  sRet (mBin gMod (mCB gInt (mCons (mBin gDiv (mVar 5) (mC (.int 1024))) mNil)) (mVar 1))))))))))
abbrev feedO (l : Int) (cs : List Int) (p c : Int) : O := .lst [.int l, .lst (cs.map .int), .int p, .int c]
/-- the feed stands in slot j, c draws behind it -/
structure FeedAt (S : List O) (j : Nat) (l : Int) (cs : List Int) (p c : Int) : Prop where
  at_ : S[j]? = some (feedO l cs p c)
  l0 : 0 ≤ l
  cs0 : ∀ x ∈ cs, 0 ≤ x
  csl : cs.length ≤ 63
  p0 : 0 ≤ p
  c0 : 0 ≤ c
def drawV (cs : List Int) : List Int := if cs = [] then [7] else cs
theorem drawV_eq {S : List O} {cs : List Int} (h : cs.length ≤ 63) : ∃ x, gMul S (.lst [.int 7]) (.int (if decide (cs = []) then 1 else 0)) = some x ∧ gAdd S (.lst (cs.map .int)) x = some (.lst ((drawV cs).map .int)) := by
  cases cs with
  | nil => exact ⟨.lst [.int 7], rfl, rfl⟩
  | cons c cs =>
    refine ⟨.lst [], rfl, ?_⟩
    show (if _ then _ else _) = _
    rw [if_pos (by simp [sz] at h ⊢; omega), List.append_nil]
    rfl
theorem drawV_len {cs : List Int} (h : cs.length ≤ 63) : 0 < (drawV cs).length ∧ (drawV cs).length ≤ 63 := by
  unfold drawV
  split
  · decide
  · rename_i hc
    exact ⟨List.length_pos_iff.mpr hc, h⟩
theorem drawV_pos {cs : List Int} (h : ∀ x ∈ cs, 0 ≤ x) : ∀ x ∈ drawV cs, 0 ≤ x := by
  unfold drawV
  split
  · intro x hx
    simp at hx
    omega
  · exact h
theorem draw_run {S : List O} {j : Nat} {l p c many : Int} {cs : List Int} (F : FeedAt S j l cs p c) (hm : 0 < many) (hm2 : many < 100000000000000000000) (hc : c < 1000000000) :
    ∃ d l' p', bDraw [some (.ref j), some (.int many), none, none, none, none] S = .rt (.int d) (S.set j (feedO l' cs p' (c + 1))) ∧ 0 ≤ d ∧ d < many ∧ 0 ≤ l' ∧ 0 ≤ p' := by
  obtain ⟨h, l0, cs0, csl, p0, c0⟩ := F
  have hj : j < S.length := (List.getElem?_eq_some_iff.mp h).1
  have at1 : ∀ (T : List O) o, T.length = S.length → (T.set j o)[j]? = some o := fun T o e => List.getElem?_set_self (by omega)
  obtain ⟨x7, hx7, hV⟩ := drawV_eq (S := S.set j (feedO l cs p (c + 1))) csl
  obtain ⟨v0, v63⟩ := drawV_len csl
  have vpos := drawV_pos cs0
  unfold bDraw
  have s1 := at1 S (feedO l cs p (c + 1)) rfl
  by_cases hl : 0 < l
  · refine ⟨l % many, l / many, p, ?_, Int.emod_nonneg _ (by omega), Int.emod_lt_of_pos _ hm, Int.ediv_nonneg l0 (by omega), p0⟩
    refine w_seq (w_set (v_bin (v_bin (v_var rfl) v_C (x_ix h rfl)) v_C x_addI) (v_var rfl) v_C (x_set h rfl)) ?_
    refine w_seqR (w_if (k := true) (v_tb (v_bin (v_bin (v_var rfl) v_C (x_ix s1 rfl)) v_C (by rw [x_gt, decide_eq_true hl]))) ?_)
    refine w_seq (w_asg (v_bin (v_cb (v_cons (v_bin (v_var rfl) v_C (x_ix s1 rfl)) v_nil) x_int) (v_var rfl) (x_mod hm))) ?_
    refine w_seq (w_set (v_bin (v_bin (v_var rfl) v_C (x_ix s1 rfl)) (v_var rfl) (x_div hm hm2)) (v_var rfl) v_C (x_set s1 rfl)) ?_
    rw [List.set_set]
    exact w_ret (v_var rfl)
  · -- the cell
    have hq : 0 ≤ p % ((drawV cs).length : Int) ∧ p % ((drawV cs).length : Int) < ((drawV cs).length : Int) := ⟨Int.emod_nonneg _ (by omega), Int.emod_lt_of_pos _ (by omega)⟩
    obtain ⟨cell, hcell, cpos⟩ : ∃ cell : Int, atI ((drawV cs).map D.int) (p % ((drawV cs).length : Int)) = some (.int cell) ∧ 0 ≤ cell := by
      have hn : (p % ((drawV cs).length : Int)).toNat < (drawV cs).length := by omega
      refine ⟨(drawV cs)[(p % ((drawV cs).length : Int)).toNat], ?_, vpos _ (List.getElem_mem hn)⟩
      unfold atI ixN
      rw [List.length_map, if_pos hq.1, if_pos hq.2]
      show ((drawV cs).map D.int)[(p % ((drawV cs).length : Int)).toNat]? = _
      rw [List.getElem?_map, List.getElem?_eq_getElem hn]
      rfl
    have s2 := at1 (S.set j (feedO l cs p (c + 1))) (feedO l cs (p + 1) (c + 1)) (by rw [List.length_set])
    have pre : ∀ r, (∀ (z : D), sSeq (sIf (mAnd (mTB (mBin gGe (mVar 4) (mBin gPow (mC (.int 10)) (mC (.int 18))))) (mTB (mBin gLe (mBin gIx (mVar 0) (mC (.int 2))) (mCB gLen (mCons (mVar 3) mNil))))) (
  sSeq (sSet (mBin gDiv (mVar 4) (mVar 1)) (mVar 0) (mC (.int 0))) (
  sRet (mBin gMod (mCB gInt (mCons (mVar 4) mNil)) (mVar 1)))) (
  sNil)) (
  sSeq (sAsg 5 (mBin gMod (mCB gInt (mCons (mBin gPow (mBin gAdd (mBin gMod (mCB gInt (mCons (mVar 4) mNil)) (mC (.int 2147483629))) (mBin gMul (mC (.int 99991)) (mBin gIx (mVar 0) (mC (.int 3))))) (mC (.int 5))) mNil)) (mC (.int 2305843009213693951)))) (
  sSeq (sAsg 5 (mBin gMod (mCB gInt (mCons (mBin gPow (mBin gAdd (mBin gAdd (mVar 5) (mBin gMul (mC (.int 7)) (mBin gIx (mVar 0) (mC (.int 3))))) (mC (.int 1))) (mC (.int 3))) mNil)) (mC (.int 2305843009213693921)))) (
  sRet (mBin gMod (mCB gInt (mCons (mBin gDiv (mVar 5) (mC (.int 1024))) mNil)) (mVar 1)))))
      [some (.ref j), some (.int many), none, some (.lst ((drawV cs).map .int)), some (.int cell), none] (S.set j (feedO l cs (p + 1) (c + 1))) = r) → bDraw [some (.ref j), some (.int many), none, none, none, none] S = r := by
      intro r hr
      refine w_seq (w_set (v_bin (v_bin (v_var rfl) v_C (x_ix h rfl)) v_C x_addI) (v_var rfl) v_C (x_set h rfl)) ?_
      refine w_seq (w_if (k := false) (v_tb (v_bin (v_bin (v_var rfl) v_C (x_ix s1 rfl)) v_C (by rw [x_gt, decide_eq_false hl]))) rfl) ?_
      refine w_seq (w_asg (v_bin (v_bin (v_var rfl) v_C (x_ix s1 rfl)) (v_bin (v_lst (v_cons v_C v_nil) (by decide)) (v_cb (v_cons (v_bin (v_bin (v_var rfl) v_C (x_ix s1 rfl)) (v_lst v_nil (by decide)) x_eqNil) v_nil) x_intB) hx7) hV)) ?_
      refine w_seq (w_asg (v_bin (v_var rfl) (v_bin (v_cb (v_cons (v_bin (v_var rfl) v_C (x_ix s1 rfl)) v_nil) x_int) (v_cb (v_cons (v_var rfl) v_nil) x_lenL) (x_mod (by rw [List.length_map]; omega))) (x_ixl (by rw [List.length_map]; exact hcell)))) ?_
      refine w_seq (w_set (v_bin (v_bin (v_var rfl) v_C (x_ix s1 rfl)) v_C x_addI) (v_var rfl) v_C (x_set s1 rfl)) ?_
      rw [List.set_set]
      exact hr .non
    have s3 := at1 S (feedO l cs (p + 1) (c + 1)) rfl
    have e18 : ∀ (T : List O), mBin gPow (mC (.int 10)) (mC (.int 18)) [some (.ref j), some (.int many), none, some (.lst ((drawV cs).map .int)), some (.int cell), none] T = .ok (.int 1000000000000000000) T := fun T => v_bin v_C v_C (x_pow (by decide) (by decide) (by decide))
    by_cases hb : 1000000000000000000 ≤ cell ∧ p + 1 ≤ ((drawV cs).length : Int)
    · refine ⟨cell % many, cell / many, p + 1, pre _ fun z => ?_, Int.emod_nonneg _ (by omega), Int.emod_lt_of_pos _ hm, Int.ediv_nonneg cpos (by omega), by omega⟩
      refine w_seqR (w_if (k := true) (v_and (k := true) (v_tb (v_bin (v_var rfl) (e18 _) (by rw [x_ge, decide_eq_true hb.1]))) (v_tb (v_bin (v_bin (v_var rfl) v_C (x_ix s3 rfl)) (v_cb (v_cons (v_var rfl) v_nil) x_lenL) (by rw [x_le, List.length_map, decide_eq_true hb.2])))) ?_)
      refine w_seq (w_set (v_bin (v_var rfl) (v_var rfl) (x_div hm hm2)) (v_var rfl) v_C (x_set s3 rfl)) ?_
      rw [List.set_set]
      exact w_ret (v_bin (v_cb (v_cons (v_var rfl) v_nil) x_int) (v_var rfl) (x_mod hm))
    · have m1 : 0 ≤ cell % 2147483629 ∧ cell % 2147483629 < 2147483629 := ⟨Int.emod_nonneg _ (by decide), Int.emod_lt_of_pos _ (by decide)⟩
      let y := (cell % 2147483629 + 99991 * (c + 1)) ^ (5 : Int).toNat % 2305843009213693951
      have hy : 0 ≤ y ∧ y < 2305843009213693951 := ⟨Int.emod_nonneg _ (by decide), Int.emod_lt_of_pos _ (by decide)⟩
      let y2 := (y + 7 * (c + 1) + 1) ^ (3 : Int).toNat % 2305843009213693921
      refine ⟨y2 / 1024 % many, l, p + 1, pre _ fun z => ?_, Int.emod_nonneg _ (by omega), Int.emod_lt_of_pos _ hm, l0, by omega⟩
      refine w_seq (S1 := S.set j (feedO l cs (p + 1) (c + 1))) (w_if (k := false) ?_ rfl) ?_
      · by_cases h1 : 1000000000000000000 ≤ cell
        · exact v_and (k := true) (v_tb (v_bin (v_var rfl) (e18 _) (by rw [x_ge, decide_eq_true h1]))) (v_tb (v_bin (v_bin (v_var rfl) v_C (x_ix s3 rfl)) (v_cb (v_cons (v_var rfl) v_nil) x_lenL) (by rw [x_le, List.length_map, decide_eq_false (fun q => hb ⟨h1, q⟩)])))
        · exact v_and (k := false) (v_tb (v_bin (v_var rfl) (e18 _) (by rw [x_ge, decide_eq_false h1]))) rfl
      refine w_seq (w_asg (v_bin (v_cb (v_cons (v_bin (v_bin (v_bin (v_cb (v_cons (v_var rfl) v_nil) x_int) v_C (x_mod (by decide))) (v_bin v_C (v_bin (v_var rfl) v_C (x_ix s3 rfl)) (x_mul (by decide))) x_addI) v_C (x_pow (by decide) (by decide) (by omega))) v_nil) x_int) v_C (x_mod (by decide)))) ?_
      refine w_seq (w_asg (v_bin (v_cb (v_cons (v_bin (v_bin (v_bin (v_var rfl) (v_bin v_C (v_bin (v_var rfl) v_C (x_ix s3 rfl)) (x_mul (by decide))) x_addI) v_C x_addI) v_C (x_pow (by decide) (by decide) (by show (y + 7 * (c + 1) + 1).natAbs < _; omega))) v_nil) x_int) v_C (x_mod (by decide)))) ?_
      exact w_ret (v_bin (v_cb (v_cons (v_bin (v_var rfl) v_C (x_div (by decide) (by decide))) v_nil) x_int) (v_var rfl) (x_mod hm))
theorem feed_set {S : List O} {j : Nat} {l p c l' p' : Int} {cs : List Int} (F : FeedAt S j l cs p c) (h1 : 0 ≤ l') (h2 : 0 ≤ p') : FeedAt (S.set j (feedO l' cs p' (c + 1))) j l' cs p' (c + 1) :=
  ⟨List.getElem?_set_self (List.getElem?_eq_some_iff.mp F.at_).1, h1, F.cs0, F.csl, h2, by have := F.c0; omega⟩
theorem fn_rt {np n : Nat} {b : MS} {ds : List D} {S S' : List O} {d : D} (hl : ds.length = np) (h : b (ds.map some ++ List.replicate (n - ds.length) none) S = .rt d S') : fnM np n b ds S = .ok d (trimS (D.lo S.length d) S S') := by
  unfold fnM
  rw [if_pos hl, h]
theorem nb_ok {f : List D → List O → R D} {ds : List D} {S S' : List O} {d : D} (h : f ds S = .ok d S') : nbF f ds S = .ok d S' := by
  unfold nbF
  rw [h]
  rfl
/-- one draw, as a call -/
theorem draw_call {S : List O} {j : Nat} {l p c many : Int} {cs : List Int} (F : FeedAt S j l cs p c) (hm : 0 < many) (hm2 : many < 100000000000000000000) (hc : c < 1000000000) :
    ∃ d l' p', nbF (fnM 2 6 bDraw) [.ref j, .int many] S = .ok (.int d) (S.set j (feedO l' cs p' (c + 1))) ∧ 0 ≤ d ∧ d < many ∧ FeedAt (S.set j (feedO l' cs p' (c + 1))) j l' cs p' (c + 1) := by
  obtain ⟨d, l', p', h1, h2, h3, h4, h5⟩ := draw_run F hm hm2 hc
  refine ⟨d, l', p', nb_ok ?_, h2, h3, feed_set F h4 h5⟩
  refine (fn_rt (S' := S.set j (feedO l' cs p' (c + 1))) (d := .int d) rfl h1).trans ?_
  rw [trim_same (by rw [List.length_set])]
theorem compL_map {chk : List O → Bool} {t : Tg} {te : ME} {e : Env} {S : List O} {f : D → D} (hc : chk S = true) : ∀ {l acc : List D}, (∀ d ∈ l, ∃ e', t.f d e = some e' ∧ te e' S = .ok (f d) S) → acc.length + l.length ≤ sz → compL chk t mYes te e acc l S = .ok (acc ++ l.map f) S
  | [], acc, _, _ => by
    unfold compL
    rw [if_pos hc, List.map_nil, List.append_nil]
  | d :: l, acc, h, hs => by
    obtain ⟨e', h1, h2⟩ := h d List.mem_cons_self
    unfold compL
    rw [if_pos hc, h1]
    show R.bind (te e' S).nb _ = _
    rw [h2]
    show (if acc.length < sz then compL chk t mYes te e (acc ++ [f d]) l S else .bad) = _
    rw [List.length_cons] at hs
    rw [if_pos (by omega), compL_map hc (fun x hx => h x (List.mem_cons_of_mem _ hx)) (by rw [List.length_append]; simp; omega)]
    simp
theorem feed_call (ns : List Int) : ∃ cs, nbF (fnM 1 2 bFeed) [.kl (ns.map .int)] [] = .ok (.ref 0) [feedO 0 cs 0 0] ∧ FeedAt [feedO 0 cs 0 0] 0 0 cs 0 0 := by
  let cs : List Int := (cutD ns none (some 63)).map fun i => if i < 0 then -i else i
  have hcut : cutD (ns.map D.int) none (some 63) = (cutD ns none (some 63)).map D.int := by
    unfold cutD
    rw [List.length_map, List.map_take, List.map_drop]
  have hl : (cutD ns none (some 63)).length ≤ 63 := by
    unfold cutD
    rw [List.length_take]
    refine Nat.le_trans (Nat.min_le_left _ _) ?_
    show (min (Int.toNat 63) ns.length) - 0 ≤ 63
    omega
  refine ⟨cs, nb_ok ?_, rfl, Int.le_refl _, ?_, by simpa [cs] using hl, Int.le_refl _, Int.le_refl _⟩
  · refine (fn_rt (S' := [feedO 0 cs 0 0]) (d := .ref 0) rfl ?_).trans ?_
    · refine w_ret (v_new (S1 := []) (l := [.int 0, .lst (cs.map .int), .int 0, .int 0]) (v_cons v_C (v_cons ?_ (v_cons v_C (v_cons v_C v_nil)))) (show 4 ≤ 16777216 by decide))
      show (miSeq (mSl (mVar 0) moN (moS (mC (.int 63)))) [some (.kl (ns.map D.int)), none] []).bind _ = _
      rw [show miSeq (mSl (mVar 0) moN (moS (mC (.int 63)))) [some (.kl (ns.map D.int)), none] [] = .ok ((cutD ns none (some 63)).map D.int, anyS) [] by
        rw [← hcut]
        rfl]
      show (compL anyS (tgN 1) mYes (mCB gAbs (mCons (mVar 1) mNil)) [some (.kl (ns.map D.int)), none] [] ((cutD ns none (some 63)).map D.int) []).bind _ = _
      rw [compL_map (f := fun d => match d with | .int i => .int (if i < 0 then -i else i) | d => d) rfl ?_ ?_]
      · rw [List.nil_append, List.map_map]
        show R.ok _ _ = _
        congr 2
        simp [cs]
      · intro d hd
        obtain ⟨i, _, rfl⟩ := List.mem_map.mp hd
        exact ⟨_, rfl, v_cb (v_cons (v_var rfl) v_nil) rfl⟩
      · simp [sz]
        omega
    · rfl
  · intro x hx
    obtain ⟨i, _, rfl⟩ := List.mem_map.mp hx
    split <;> omega
theorem loop_inv {t : Tg} {b : MS} {I : Nat → Env → List O → Prop} {n : Nat} (h : ∀ (i : Nat), i < n → ∀ (d : D) (e : Env) (S : List O), I i e S → ∃ e' e1 S1, t.f d e = some e' ∧ b e' S = .nx e1 S1 ∧ I (i + 1) e1 S1) :
    ∀ {l : List D} {i : Nat} {e : Env} {S : List O}, i + l.length = n → I i e S → ∃ e1 S1, loopL anyS t b l e S = .nx e1 S1 ∧ I n e1 S1
  | [], i, e, S, hl, hI => ⟨e, S, by unfold loopL; rw [if_pos (show anyS S = true from rfl)], by simp at hl; exact hl ▸ hI⟩
  | d :: l, i, e, S, hl, hI => by
    rw [List.length_cons] at hl
    obtain ⟨e', e1, S1, h1, h2, h3⟩ := h i (by omega) d e S hI
    obtain ⟨e2, S2, h4, h5⟩ := loop_inv h (l := l) (i := i + 1) (by omega) h3
    refine ⟨e2, S2, ?_, h5⟩
    unfold loopL
    rw [if_pos (show anyS S = true from rfl), h1]
    dsimp only
    rw [h2]
    exact h4
theorem w_for {m : MI} {t : Tg} {b : MS} {e : Env} {S S1 : List O} {l : List D} {chk : List O → Bool} (h : m e S = .ok (l, chk) S1) : sFor m t b e S = loopL chk t b l e S1 := by unfold sFor; rw [h]; rfl
end Mo

namespace Mo
open PySem PySem.Spec L2 PyProof.Rows

/-! ### dicts, by number; keys ints or texts -/
def keyD : D → Option Key
  | .int i => some (.inl i)
  | .str x => some (.inr x)
  | _ => none
def kD : Key → D
  | .inl i => .int i
  | .inr x => .str x
def valP : List (Key × D) → Key → Option D
  | [], _ => none
  | (j, d) :: l, k => if j = k then some d else valP l k
def putP (l : List (Key × D)) (k : Key) (d : D) : List (Key × D) := if (l.any fun p => decide (p.1 = k)) = true then l.map (fun p => if p.1 = k then (p.1, d) else p) else l ++ [(k, d)]
section
variable {K : PySem.W.Frag} {g : G}
theorem RPs.val : ∀ {l : List (Key × D)} {vs : List (Key × V)} (k : Key), RPs K g l vs → (∀ d, valP l k = some d → ∃ v, valV vs k = some v ∧ RD K g d v) ∧ (valP l k = none → valV vs k = none)
  | [], vs, k, h => by
    rw [RPs] at h
    subst h
    exact ⟨fun d q => (nomatch q), fun _ => rfl⟩
  | (j, x) :: l, vs, k, h => by
    rw [RPs] at h
    obtain ⟨v, r, rfl, h2, h3⟩ := h
    have ih := RPs.val k h3
    unfold valP
    by_cases e : j = k
    · rw [if_pos e, valV_pos (p := (j, v)) e]
      exact ⟨fun d q => by cases q; exact ⟨v, rfl, h2⟩, fun q => by cases q⟩
    · rw [if_neg e, valV_neg (p := (j, v)) e]
      exact ih
theorem RPs.any : ∀ {l : List (Key × D)} {vs : List (Key × V)} (k : Key), RPs K g l vs → (vs.any fun kv => decide (kv.1 = k)) = l.any fun p => decide (p.1 = k)
  | [], vs, k, h => by rw [RPs] at h; subst h; rfl
  | (j, x) :: l, vs, k, h => by
    rw [RPs] at h
    obtain ⟨v, r, rfl, h2, h3⟩ := h
    rw [List.any_cons, List.any_cons, RPs.any k h3]
theorem RPs.map : ∀ {l : List (Key × D)} {vs : List (Key × V)} {k : Key} {d : D} {y : V}, RPs K g l vs → RD K g d y → RPs K g (l.map fun p => if p.1 = k then (p.1, d) else p) (vs.map fun kv => if kv.1 = k then (kv.1, y) else kv)
  | [], vs, k, d, y, h, _ => by rw [RPs] at h; subst h; rw [List.map_nil, List.map_nil, RPs]
  | (j, x) :: l, vs, k, d, y, h, hd => by
    rw [RPs] at h
    obtain ⟨v, r, rfl, h2, h3⟩ := h
    rw [List.map_cons, List.map_cons]
    by_cases e : j = k
    · simp only [e, if_true]
      rw [RPs]
      exact ⟨y, _, rfl, hd, RPs.map h3 hd⟩
    · simp only [e, if_false]
      rw [RPs]
      exact ⟨v, _, rfl, h2, RPs.map h3 hd⟩
theorem RPs.snoc : ∀ {l : List (Key × D)} {vs : List (Key × V)} {k : Key} {d : D} {y : V}, RPs K g l vs → RD K g d y → RPs K g (l ++ [(k, d)]) (vs ++ [(k, y)])
  | [], vs, k, d, y, h, hd => by
    rw [RPs] at h
    subst h
    show RPs K g [(k, d)] [(k, y)]
    rw [RPs]
    exact ⟨y, [], rfl, hd, by rw [RPs]⟩
  | (j, x) :: l, vs, k, d, y, h, hd => by
    rw [RPs] at h
    obtain ⟨v, r, rfl, h2, h3⟩ := h
    rw [List.cons_append, List.cons_append, RPs]
    exact ⟨v, _, rfl, h2, RPs.snoc h3 hd⟩
theorem RPs.put {l : List (Key × D)} {vs : List (Key × V)} {k : Key} {d : D} {y : V} (h : RPs K g l vs) (hd : RD K g d y) : RPs K g (putP l k d) (putK vs k y) := by
  unfold putP putK
  rw [RPs.any k h]
  split
  · exact h.map hd
  · exact h.snoc hd
theorem RPs.length : ∀ {l : List (Key × D)} {vs : List (Key × V)}, RPs K g l vs → l.length = vs.length
  | [], vs, h => by rw [RPs] at h; subst h; rfl
  | (j, x) :: l, vs, h => by
    rw [RPs] at h
    obtain ⟨v, r, rfl, h2, h3⟩ := h
    rw [List.length_cons, List.length_cons, RPs.length h3]
theorem RPs.getK : ∀ {l : List (Key × D)} {vs : List (Key × V)} {i : Nat} {k : Key} {v : V}, RPs K g l vs → vs[i]? = some (k, v) → ∃ d, l[i]? = some (k, d) ∧ RD K g d v
  | [], vs, i, k, v, h, q => by rw [RPs] at h; subst h; simp at q
  | (j, x) :: l, vs, 0, k, v, h, q => by
    rw [RPs] at h
    obtain ⟨w, r, rfl, h2, h3⟩ := h
    simp at q
    obtain ⟨rfl, rfl⟩ := q
    exact ⟨x, rfl, h2⟩
  | (j, x) :: l, vs, i + 1, k, v, h, q => by
    rw [RPs] at h
    obtain ⟨w, r, rfl, h2, h3⟩ := h
    obtain ⟨d, e1, e2⟩ := RPs.getK h3 (i := i) (by simpa using q)
    exact ⟨d, by simpa using e1, e2⟩
theorem keyD_at {d : D} {k : Key} {v : V} (h : keyD d = some k) (r : RD K g d v) : v = kV k := by
  cases d <;> first | (cases h; done) | (cases h; rw [RD] at r; exact r)
theorem kD_rd (k : Key) : RD K g (kD k) (kV k) := by
  cases k <;> (unfold kD kV; rw [RD])
end
def dctR (S : List O) (d : D) : Option (List (Key × D)) := match d with
  | .ref n => match S[n]? with
    | some (.dct l) => some l
    | some (.fdct l) => some l
    | _ => none
  | _ => none
theorem dctR_at {K : PySem.W.Frag} {g : G} (rp : Rep K g) {d : D} {l : List (Key × D)} {v : V} (h : dctR g.S d = some l) (r : RD K g d v) : ∃ a vs, v = .ref a ∧ Rd g.H a (.dK vs) ∧ RPs K g l vs := by
  unfold dctR at h
  split at h
  · rename_i n
    rw [RD] at r
    split at h
    · rename_i l' hn
      cases h
      obtain ⟨vs, h1, h2⟩ := rp.obj n _ hn
      exact ⟨_, vs, r.2, .inl h1, h2⟩
    · rename_i l' hn
      cases h
      obtain ⟨od, vs, h1, h2⟩ := rp.obj n _ hn
      exact ⟨_, vs, r.2, .inr ⟨od, h1⟩, h2⟩
    · cases h
  · cases h
def gDGet : Op2 := fun S a i => match dctR S a, keyD i with
  | some l, some k => valP l k
  | _, _ => none
/-- k in d -/
def gDIn : Op2 := fun S i a => match keyD i, dctR S a with
  | some k, some l => some (.bl (valP l k).isSome)
  | _, _ => none
def gDNin : Op2 := fun S i a => match keyD i, dctR S a with
  | some k, some l => some (.bl (!(valP l k).isSome))
  | _, _ => none
theorem dget_at {H : Hp} {vs : List (Key × V)} {a : Addr} {k : Key} (h : Rd H a (.dK vs)) : DGet H a (kV k) (valV vs k) := .inl ⟨vs, k, h, rfl, rfl⟩
section
variable {X : Cx} {W : WX'} {a b e f o i : Expr} {ma mb mf m mo mi : ME} {pos pos' apos cpos : Pos}
theorem pm_dget (hu : X.A.units + 64 < cLine) (ha : PE X a (tE X.K W ma)) (hb : PE X b (tE X.K W mb)) (hs : NoSl b := by first | rfl | (intro _ _; rfl) | exact trivial) : PE X (.Subscript a b pos) (tE X.K W (mBin gDGet ma mb)) :=
  PE.imp (pe_dget (by omega) ha hb hs) fun σ H Q h => by
    obtain ⟨g, e, hH, rp, re, p⟩ := h
    subst hH
    refine ⟨g, e, rfl, rp, re, (Post.bind p).imp fun d g1 e1 r1 ⟨_, _, p1⟩ v rv => ?_⟩
    refine ⟨g1, e, rfl, r1, re.mono e1, (Post.bind p1).imp fun i g2 e2 r2 ⟨_, _, p2⟩ w rw' => ?_⟩
    cases q : gDGet g2.S d i with
    | none => rw [q] at p2; exact False.elim p2
    | some x =>
      rw [q] at p2
      unfold gDGet at q
      cases hl : dctR g2.S d with
      | none => rw [hl] at q; cases q
      | some l =>
        cases hk : keyD i with
        | none => rw [hl, hk] at q; cases q
        | some k =>
          rw [hl, hk] at q
          obtain ⟨a, vs, rfl, h1, h2⟩ := dctR_at r2 hl (rv.mono e2)
          obtain ⟨y, hy, ry⟩ := (RPs.val k h2).1 x q
          rw [keyD_at hk rw']
          exact ⟨a, y, rfl, by rw [← hy]; exact dget_at h1, p2 g2 (Ext.refl _) rfl r2 y ry⟩
theorem i_din {K : PySem.W.Frag} {σ : L2.St} {H : Hp} {Q : VK} (h : tE K W (mBin gDIn ma mb) σ H Q) : tDIn (tE K W ma) (tE K W mb) σ H Q := by
  obtain ⟨g, e, hH, rp, re, p⟩ := h
  subst hH
  refine ⟨g, e, rfl, rp, re, (Post.bind p).imp fun d g1 e1 r1 ⟨_, _, p1⟩ v rv => ?_⟩
  refine ⟨g1, e, rfl, r1, re.mono e1, (Post.bind p1).imp fun i g2 e2 r2 ⟨_, _, p2⟩ w rw' => ?_⟩
  cases q : gDIn g2.S d i with
  | none => rw [q] at p2; exact False.elim p2
  | some x =>
    rw [q] at p2
    unfold gDIn at q
    cases hk : keyD d with
    | none => rw [hk] at q; cases q
    | some k =>
      cases hl : dctR g2.S i with
      | none => rw [hk, hl] at q; cases q
      | some l =>
        rw [hk, hl] at q
        cases q
        obtain ⟨a, vs, rfl, h1, h2⟩ := dctR_at r2 hl rw'
        rw [keyD_at hk (rv.mono e2)]
        refine ⟨a, valV vs k, rfl, dget_at h1, p2 g2 (Ext.refl _) rfl r2 _ ?_⟩
        rw [RD]
        cases hv : valP l k with
        | none => rw [(RPs.val k h2).2 hv]; rfl
        | some x => obtain ⟨y, hy, _⟩ := (RPs.val k h2).1 x hv; rw [hy]; rfl
theorem i_dnin {K : PySem.W.Frag} {σ : L2.St} {H : Hp} {Q : VK} (h : tE K W (mBin gDNin ma mb) σ H Q) : tDNotIn (tE K W ma) (tE K W mb) σ H Q := by
  obtain ⟨g, e, hH, rp, re, p⟩ := h
  subst hH
  refine ⟨g, e, rfl, rp, re, (Post.bind p).imp fun d g1 e1 r1 ⟨_, _, p1⟩ v rv => ?_⟩
  refine ⟨g1, e, rfl, r1, re.mono e1, (Post.bind p1).imp fun i g2 e2 r2 ⟨_, _, p2⟩ w rw' => ?_⟩
  cases q : gDNin g2.S d i with
  | none => rw [q] at p2; exact False.elim p2
  | some x =>
    rw [q] at p2
    unfold gDNin at q
    cases hk : keyD d with
    | none => rw [hk] at q; cases q
    | some k =>
      cases hl : dctR g2.S i with
      | none => rw [hk, hl] at q; cases q
      | some l =>
        rw [hk, hl] at q
        cases q
        obtain ⟨a, vs, rfl, h1, h2⟩ := dctR_at r2 hl rw'
        rw [keyD_at hk (rv.mono e2)]
        refine ⟨a, valV vs k, rfl, dget_at h1, p2 g2 (Ext.refl _) rfl r2 _ ?_⟩
        rw [RD]
        cases hv : valP l k with
        | none => rw [(RPs.val k h2).2 hv]; rfl
        | some x => obtain ⟨y, hy, _⟩ := (RPs.val k h2).1 x hv; rw [hy]; rfl
theorem pm_din (hu : X.A.units + 64 < cLine) (ha : PE X a (tE X.K W ma)) (hb : PE X b (tE X.K W mb)) (hm : behindInMarks .In b = false := by first | exact nomark _ | rfl | with_unfolding_all rfl) : PE X (.Compare a [.In] [b] pos) (tE X.K W (mBin gDIn ma mb)) := PE.imp (pe_cmp (pc_din (by omega) ha hb) hm) fun _ _ _ => i_din
theorem pm_dnin (hu : X.A.units + 64 < cLine) (ha : PE X a (tE X.K W ma)) (hb : PE X b (tE X.K W mb)) (hm : behindInMarks .NotIn b = false := by first | exact nomark _ | rfl | with_unfolding_all rfl) : PE X (.Compare a [.NotIn] [b] pos) (tE X.K W (mBin gDNin ma mb)) := PE.imp (pe_cmp (pc_dnotin (by omega) ha hb) hm) fun _ _ _ => i_dnin
theorem qm_din (hu : X.A.units + 64 < cLine) (ha : PE X a (tE X.K W ma)) (hb : PE X b (tE X.K W mb)) (hm : behindInMarks .In b = false := by first | exact nomark _ | rfl | with_unfolding_all rfl) : PT X (.Compare a [.In] [b] pos) (tT X.K W (mTB (mBin gDIn ma mb))) := PT.imp (pt_cmp (pc_din (by omega) ha hb) hm) fun σ H Q h => by
  obtain ⟨g, e, rfl, rp, re, p⟩ := i_tTest h
  exact i_din ⟨g, e, rfl, rp, re, p⟩
theorem qm_dnin (hu : X.A.units + 64 < cLine) (ha : PE X a (tE X.K W ma)) (hb : PE X b (tE X.K W mb)) (hm : behindInMarks .NotIn b = false := by first | exact nomark _ | rfl | with_unfolding_all rfl) : PT X (.Compare a [.NotIn] [b] pos) (tT X.K W (mTB (mBin gDNin ma mb))) := PT.imp (pt_cmp (pc_dnotin (by omega) ha hb) hm) fun σ H Q h => by
  obtain ⟨g, e, rfl, rp, re, p⟩ := i_tTest h
  exact i_dnin ⟨g, e, rfl, rp, re, p⟩
/-- {} -/
def mDNew : ME := fun _ S => .ok (.ref S.length) (S ++ [.dct []])
theorem pm_dnew : PE X (.Dict [] [] pos) (tE X.K W mDNew) := PE.imp pe_dnewK fun σ H Q ⟨g, e, hH, rp, re, p⟩ => by
  subst hH
  intro q hq
  have x := Ext.add rp (o := .dct []) (u := .dK []) hq
  have p1 : ∀ g', Ext g g' → g'.S = g.S ++ [.dct []] → Rep X.K g' → ∀ v, RD X.K g' (.ref g.S.length) v → Q v g'.H := p
  refine p1 _ x rfl (rp.add hq ⟨[], upd_same, by rw [RPs]⟩) _ ?_
  rw [RD]
  exact ⟨by simp, by simp⟩
/-- d[k] = v -/
def fDSet (S : List O) (a i d : D) : Option (List O) := match a, keyD i with
  | .ref n, some k => match S[n]? with
    | some (.dct l) => if l.length < sz then some (S.set n (.dct (putP l k d))) else none
    | _ => none
  | _, _ => none
theorem fDSet_inv {S : List O} {a i d : D} {S4 : List O} (q : fDSet S a i d = some S4) : ∃ n k l, a = .ref n ∧ keyD i = some k ∧ S[n]? = some (.dct l) ∧ l.length < sz ∧ S4 = S.set n (.dct (putP l k d)) := by
  unfold fDSet at q
  cases a with
  | ref n =>
    cases hk : keyD i with
    | none => rw [hk] at q; cases q
    | some k =>
      rw [hk] at q
      dsimp only at q
      split at q
      · rename_i l hn
        by_cases hl : l.length < sz
        · rw [if_pos hl] at q
          cases q
          exact ⟨n, k, l, rfl, rfl, hn, hl, rfl⟩
        · rw [if_neg hl] at q; cases q
      · cases q
  | _ => cases q
def sDSet (mv mo mi : ME) : MS := fun e S => (mv e S).st e fun d S1 => (mo e S1).st e fun a S2 => (mi e S2).st e fun i S3 => match fDSet S3 a i d with
  | some S4 => .nx e S4
  | none => .bad
theorem sm_dset {mv : ME} (hu : X.A.units + 64 < cLine) (hv : PE X e (tE X.K W mv)) (ho : PE X o (tE X.K W mo)) (hi : PE X i (tE X.K W mi)) (hs : swapsWith e (some (.Subscript o i pos')) pos.line X.env = pure false := by rfl) :
    PS X (.Assign [.Subscript o i pos'] e pos) (tS X.K W (sDSet mv mo mi)) := PS.imp (ps_dput (by omega) ho hi hv hs) fun D σ H ⟨g, e, hH, rp, re, p⟩ => by
  subst hH
  refine ⟨g, e, rfl, rp, re, (PostS.of_st re p).imp fun d g1 e1 r1 ⟨_, _, p1⟩ v rv => ?_⟩
  refine ⟨g1, e, rfl, r1, re.mono e1, (PostS.of_st (re.mono e1) p1).imp fun a g2 e2 r2 ⟨_, _, p2⟩ w rw' => ?_⟩
  refine ⟨g2, e, rfl, r2, (re.mono e1).mono e2, (PostS.of_st ((re.mono e1).mono e2) p2).imp fun i g3 e3 r3 ⟨_, _, p3⟩ u ru => ?_⟩
  cases q : fDSet g3.S a i d with
  | none => rw [q] at p3; exact False.elim p3
  | some S4 =>
    rw [q] at p3
    dsimp only at p3
    obtain ⟨n, k, l, rfl, hk, hn, hl, rfl⟩ := fDSet_inv q
    have rn := rw'.mono e3
    rw [RD] at rn
    obtain ⟨vs, h1, h2⟩ := r3.obj n _ hn
    have rv3 := (rv.mono e2).mono e3
    have x := Ext.put (o' := .dct (putP l k d)) (u := .dK (putK vs k v)) hn rfl
    have y := r3.put hn rfl (o' := .dct (putP l k d)) (u := .dK (putK vs k v)) ⟨_, upd_same, (h2.put rv3).mono x⟩
    rw [keyD_at hk ru]
    exact ⟨g3.ρ n, _, rn.2, .inl ⟨vs, k, h1, rfl, by rw [← h2.length, ← sz_eq]; exact hl, rfl⟩, p3 _ σ x rfl y ((((re.mono e1).mono e2).mono e3).mono x)⟩
/-- d.get(k, x) -/
def mDGet2 (ma mb mf : ME) : ME := fun e S => (ma e S).bind fun a S1 => if (dctR S1 a).isSome = true then (mb e S1).bind fun i S2 => (mf e S2).bind fun z S3 => match dctR S3 a, keyD i with
  | some l, some k => .ok ((valP l k).getD z) S3
  | _, _ => .bad else .bad
theorem pm_dget2 (hu : X.A.units + 64 < cLine) (ho : PE X o (tE X.K W mo)) (he : PE X e (tE X.K W m)) (hf : PE X f (tE X.K W mf)) (hm : M2 X o "get" apos e f cpos := by exact ⟨rfl, rfl, rfl, rfl⟩) : PE X (.Call (.Attribute o "get" apos) [e, f] [] cpos) (tE X.K W (mDGet2 mo m mf)) :=
  PE.imp (pe_dget2 (by omega) ho he hf hm) fun σ H Q ⟨g, e, hH, rp, re, p⟩ => by
    subst hH
    refine ⟨g, e, rfl, rp, re, (Post.bind p).imp fun a g1 e1 r1 ⟨_, _, p1⟩ v rv => ?_⟩
    cases h0 : dctR g1.S a with
    | none => rw [h0] at p1; exact False.elim p1
    | some l0 =>
      rw [h0] at p1
      obtain ⟨ad, vs0, rfl, k1, k2⟩ := dctR_at r1 h0 rv
      refine ⟨ad, rfl, .inl ⟨vs0, k1⟩, ?_⟩
      refine ⟨g1, e, rfl, r1, re.mono e1, (Post.bind p1).imp fun i g2 e2 r2 ⟨_, _, p2⟩ w rw' => ?_⟩
      refine ⟨g2, e, rfl, r2, (re.mono e1).mono e2, (Post.bind p2).imp fun z g3 e3 r3 ⟨_, _, p3⟩ y ry => ?_⟩
      cases hl : dctR g3.S a with
      | none => rw [hl] at p3; exact False.elim p3
      | some l =>
        cases hk : keyD i with
        | none => rw [hl, hk] at p3; exact False.elim p3
        | some k =>
          rw [hl, hk] at p3
          obtain ⟨a', vs, ea, h1, h2⟩ := dctR_at r3 hl ((rv.mono e2).mono e3)
          cases ea
          rw [keyD_at hk rw']
          refine ⟨valV vs k, dget_at h1, p3 g3 (Ext.refl _) rfl r3 _ ?_⟩
          cases hv : valP l k with
          | none => rw [(RPs.val k h2).2 hv]; exact ry
          | some x => obtain ⟨y', hy, rx⟩ := (RPs.val k h2).1 x hv; rw [hy]; exact rx
/-- the statement runs while the dict of the i-th name is locked -/
def sLock (j : Nat) (b : MS) : MS := fun e S => match e[j]? with
  | some (some (.ref n)) => match S[n]? with
    | some (.dct l) => match b e (S.set n (.fdct l)) with
      | .nx e' S' => if S'[n]? = some (.fdct l) then .nx e' (S'.set n (.dct l)) else .bad
      | .rt d S' => if S'[n]? = some (.fdct l) then .rt d (S'.set n (.dct l)) else .bad
      | .bk e' S' => if S'[n]? = some (.fdct l) then .bk e' (S'.set n (.dct l)) else .bad
      | .ct e' S' => if S'[n]? = some (.fdct l) then .ct e' (S'.set n (.dct l)) else .bad
      | _ => .bad
    | _ => .bad
  | _ => .bad
end
section
variable {K : PySem.W.Frag} {g g' : G} {n : Nat} {l : List (Key × D)} {vs : List (Key × V)}
abbrev G.locked (g : G) (n : Nat) (l : List (Key × D)) (od : Obj) (vs : List (Key × V)) : G := g.put n (.fdct l) (.frz od (.dK vs))
theorem lock_rep (rp : Rep K g) (hn : g.S[n]? = some (.dct l)) (od : Obj) (h2 : RPs K g l vs) : Ext g (g.locked n l od vs) ∧ Rep K (g.locked n l od vs) ∧ ¬ (g.locked n l od vs).Live (g.ρ n) := by
  have x := Ext.put (o' := .fdct l) (u := .frz od (.dK vs)) hn rfl
  refine ⟨x, rp.put hn rfl ⟨od, vs, upd_same, h2.mono x⟩, ?_⟩
  rintro ⟨j, y, h1, h2, h3⟩
  have h1' : (g.S.set n (.fdct l))[j]? = some y := h1
  by_cases hj : n = j
  · subst hj
    rw [List.getElem?_set_self (List.getElem?_eq_some_iff.mp hn).1] at h1'
    rw [← Option.some.inj h1'] at h2
    cases h2
  · rw [List.getElem?_set_ne hj] at h1'
    exact hj (rp.inj n j _ y hn (O.act_ne rfl) h1' (O.act_ne h2) h3.symm)
/-- back from the lock -/
theorem unlock_rep (rp : Rep K g) (hn : g.S[n]? = some (.dct l)) (od : Obj) (h1 : g.H (g.ρ n) = some (.dK vs)) (h2 : RPs K g l vs) (x : Ext (g.locked n l od vs) g') (rp' : Rep K g') (hs : g'.S[n]? = some (.fdct l)) :
    g'.H (g.ρ n) = some (.frz od (.dK vs)) ∧ ∃ g2 : G, g2.H = upd g'.H (g.ρ n) (.dK vs) ∧ g2.S = g'.S.set n (.dct l) ∧ Ext g g2 ∧ Rep K g2 ∧ Sim g' g2 := by
  obtain ⟨y1, y2, y3⟩ := lock_rep rp hn od h2
  have hnl : n < g.S.length := (List.getElem?_eq_some_iff.mp hn).1
  obtain ⟨z1, z2⟩ := x.kp (g.ρ n) _ (show upd g.H (g.ρ n) _ (g.ρ n) = some (.frz od (.dK vs)) from upd_same) y3
  have hρ : g'.ρ n = g.ρ n := x.ag n (by show n < (g.S.set n _).length; rw [List.length_set]; exact hnl)
  let g2 : G := { N := g'.N, ρ := g'.ρ, S := g'.S.set n (.dct l), H := upd g'.H (g.ρ n) (.dK vs) }
  have live2 : ∀ a, g2.Live a → g'.Live a ∨ a = g.ρ n := fun a ⟨j, y, q1, q2, q3⟩ => by
    have q1' : (g'.S.set n (.dct l))[j]? = some y := q1
    by_cases hj : n = j
    · subst hj; exact .inr (by rw [← hρ]; exact q3.symm)
    · rw [List.getElem?_set_ne hj] at q1'
      exact .inl ⟨j, y, q1', q2, q3⟩
  have key : ∀ (a : Addr) (w : HO), (∀ o r, w ≠ .frz o r) → (∀ r, w ≠ .dK r) → Rd g'.H a w → g'.Pr a → Rd g2.H a w ∧ g2.Pr a := fun a w w1 w2 h q => by
    have ne : a ≠ g.ρ n := fun z => by
      subst z
      rcases h with h | ⟨o, h⟩
      · rw [z1] at h; cases h; exact w1 _ _ rfl
      · rw [z1] at h; cases h; exact w2 _ rfl
    refine ⟨?_, q.1, fun z => (live2 a z).elim q.2 ne⟩
    rcases h with h | ⟨o, h⟩
    · exact .inl ((upd_ne ne).trans h)
    · exact .inr ⟨o, (upd_ne ne).trans h⟩
  have nI : ∀ {a C dx fs}, gI g' a C dx fs → a ≠ g.ρ n := fun q z => by
    have h := q.1
    rw [z, z1] at h
    cases h
  have s2 : Sim g' g2 := ⟨⟨fun a vs h q => key a _ (fun _ _ z => by cases z) (fun _ z => by cases z) h q, fun a vs h q => key a _ (fun _ _ z => by cases z) (fun _ z => by cases z) h q, fun a C dx fs q => ⟨(upd_ne (nI q)).trans q.1, q.2.1, fun z => (live2 a z).elim q.2.2 (nI q)⟩⟩, by show g'.S.length ≤ (g'.S.set n _).length; rw [List.length_set]; exact Nat.le_refl _, fun _ _ => rfl⟩
  have lng : g.Live (g.ρ n) := ⟨n, _, hn, rfl, rfl⟩
  have e2 : Ext g g2 := by
    refine ⟨x.n, ?_, fun i hi => x.ag i (by show i < (g.S.set n _).length; rw [List.length_set]; exact hi), fun a o q nl => ?_⟩
    · have := x.len
      show g.S.length ≤ (g'.S.set n _).length
      rw [List.length_set]
      rw [show (g.locked n l od vs).S.length = g.S.length from List.length_set ..] at this
      exact this
    · have ne : a ≠ g.ρ n := fun z => nl (z ▸ lng)
      obtain ⟨k1, k2⟩ := x.kp a o ((show upd g.H (g.ρ n) _ a = g.H a from upd_ne ne).trans q) fun z => nl (live_put hn rfl z)
      exact ⟨(show upd g'.H (g.ρ n) _ a = g'.H a from upd_ne ne).trans k1, fun z => (live2 a z).elim k2 ne⟩
  have vsl : RPs K g' l vs := (h2.mono y1).mono x
  refine ⟨z1, g2, rfl, rfl, e2, ⟨fun a z => ?_, fun i j y w q1 n1 q2 n2 e => ?_, fun i y q => ?_⟩, s2⟩
  · obtain ⟨o, ho⟩ := rp'.nd a z
    by_cases ha : a = g.ρ n
    · exact ⟨_, by rw [ha]; exact upd_same⟩
    · exact ⟨o, (show upd g'.H (g.ρ n) _ a = g'.H a from upd_ne ha).trans ho⟩
  · have at2 : ∀ (i : Nat) (y : O), (g'.S.set n (.dct l))[i]? = some y → y ≠ .gone → i = n ∨ (g'.S[i]? = some y ∧ g'.ρ i ≠ g.ρ n) := fun i y q m => by
      by_cases hi : n = i
      · exact .inl hi.symm
      · rw [List.getElem?_set_ne hi] at q
        exact .inr ⟨q, fun z => hi (rp'.inj i n y _ q m hs (by intro z; cases z) (by rw [hρ]; exact z)).symm⟩
    have e' : g'.ρ i = g'.ρ j := e
    rcases at2 i y q1 n1 with a | ⟨a, a'⟩ <;> rcases at2 j w q2 n2 with b | ⟨b, b'⟩
    · rw [a, b]
    · rw [a, hρ] at e'; exact absurd e'.symm b'
    · rw [b, hρ] at e'; exact absurd e' a'
    · exact rp'.inj i j y w a n1 b n2 e'
  · have q' : (g'.S.set n (.dct l))[i]? = some y := q
    by_cases hi : n = i
    · subst hi
      rw [List.getElem?_set_self (List.getElem?_eq_some_iff.mp hs).1] at q'
      cases q'
      refine ⟨vs, ?_, vsl.sim s2⟩
      show upd g'.H (g.ρ n) (.dK vs) (g'.ρ n) = _
      rw [hρ]
      exact upd_same
    · rw [List.getElem?_set_ne hi] at q'
      by_cases hy : g'.ρ i = g.ρ n
      · -- only what is locked, too, stands there
        have ro := rp'.obj i y q'
        cases y with
        | gone => trivial
        | lst l2 => exact absurd ⟨i, _, q', rfl, hy⟩ z2
        | dct l2 => exact absurd ⟨i, _, q', rfl, hy⟩ z2
        | ins C l2 => exact absurd ⟨i, _, q', rfl, hy⟩ z2
        | fdct l2 => exact absurd (rp'.inj i n _ _ q' (by intro z; cases z) hs (by intro z; cases z) (by rw [hρ]; exact hy)).symm hi
      · exact (rp'.obj i y q').sim s2 fun _ => upd_ne hy
end
section
variable {X : Cx} {W : WX'} {st : Stmt} {b : MS} {j : Nat}
theorem i_lock {K : PySem.W.Frag} {D : Ends} {σ : L2.St} {H : Hp} (h : tS K W (sLock j b) D σ H) : tLock (tS K W b) D σ H := by
  obtain ⟨g, e, hH, rp, re, p⟩ := h
  subst hH
  unfold sLock at p
  cases he : e[j]? with
  | none => rw [he] at p; exact False.elim p
  | some od => cases od with
    | none => rw [he] at p; exact False.elim p
    | some d => cases d with
      | ref n =>
        rw [he] at p
        dsimp only at p
        cases hn : g.S[n]? with
        | none => rw [hn] at p; exact False.elim p
        | some o => cases o with
          | dct l =>
            rw [hn] at p
            dsimp only at p
            obtain ⟨vs, h1, h2⟩ := rp.obj n _ hn
            refine ⟨g.ρ n, .dK vs, h1, True.intro, fun od => ?_⟩
            obtain ⟨y1, y2, y3⟩ := lock_rep rp hn od h2
            refine ⟨g.locked n l od vs, e, rfl, y2, re.mono y1, ?_⟩
            show PostS K W (g.locked n l od vs) (b e (g.S.set n (.fdct l))) _
            cases q : b e (g.S.set n (.fdct l)) with
            | nx e' S' =>
              rw [q] at p
              dsimp only at p
              by_cases hs : S'[n]? = some (.fdct l)
              · rw [if_pos hs] at p
                intro g' σ' x s rp' re'
                obtain ⟨k1, g2, k2, k3, k4, k5, k6⟩ := unlock_rep rp hn od h1 h2 x rp' (by rw [s]; exact hs)
                refine ⟨k1, ?_⟩
                show D.nx σ' (upd g'.H (g.ρ n) (.dK vs))
                rw [← k2]
                exact p g2 σ' k4 (by rw [k3, s]) k5 (re'.sim k6)
              · rw [if_neg hs] at p; exact False.elim p
            | bk e' S' =>
              rw [q] at p
              dsimp only at p
              by_cases hs : S'[n]? = some (.fdct l)
              · rw [if_pos hs] at p
                intro g' σ' x s rp' re'
                obtain ⟨k1, g2, k2, k3, k4, k5, k6⟩ := unlock_rep rp hn od h1 h2 x rp' (by rw [s]; exact hs)
                refine ⟨k1, ?_⟩
                show D.bk σ' (upd g'.H (g.ρ n) (.dK vs))
                rw [← k2]
                exact p g2 σ' k4 (by rw [k3, s]) k5 (re'.sim k6)
              · rw [if_neg hs] at p; exact False.elim p
            | ct e' S' =>
              rw [q] at p
              dsimp only at p
              by_cases hs : S'[n]? = some (.fdct l)
              · rw [if_pos hs] at p
                intro g' σ' x s rp' re'
                obtain ⟨k1, g2, k2, k3, k4, k5, k6⟩ := unlock_rep rp hn od h1 h2 x rp' (by rw [s]; exact hs)
                refine ⟨k1, ?_⟩
                show D.ct σ' (upd g'.H (g.ρ n) (.dK vs))
                rw [← k2]
                exact p g2 σ' k4 (by rw [k3, s]) k5 (re'.sim k6)
              · rw [if_neg hs] at p; exact False.elim p
            | rt d S' =>
              rw [q] at p
              dsimp only at p
              by_cases hs : S'[n]? = some (.fdct l)
              · rw [if_pos hs] at p
                intro g' v x s rp' rv
                obtain ⟨k1, g2, k2, k3, k4, k5, k6⟩ := unlock_rep rp hn od h1 h2 x rp' (by rw [s]; exact hs)
                refine ⟨k1, ?_⟩
                show D.rt v (upd g'.H (g.ρ n) (.dK vs))
                rw [← k2]
                exact p g2 v k4 (by rw [k3, s]) k5 (rv.sim k6)
              · rw [if_neg hs] at p; exact False.elim p
            | er x e' S' => rw [q] at p; exact False.elim p
            | bad => rw [q] at p; exact False.elim p
          | _ => rw [hn] at p; exact False.elim p
      | _ => rw [he] at p; exact False.elim p
theorem sm_lock (h : PS X st (tS X.K W b)) : PS X st (tS X.K W (sLock j b)) := PS.imp (ps_lock h) fun _ _ _ => i_lock
/-- for k in d, d locked -/
def keysD (l : List (Key × D)) : List D := l.map fun p => kD p.1
def hasF (n : Nat) (l : List (Key × D)) (S : List O) : Bool := decide (S[n]? = some (.fdct l))
def miKeys (m : ME) : MI := fun e S => (m e S).bind fun d S1 => match d with
  | .ref n => match S1[n]? with
    | some (.fdct l) => .ok (keysD l, hasF n l) S1
    | _ => .bad
  | _ => .bad
theorem jok_keys {K : PySem.W.Frag} {g : G} {n : Nat} {l : List (Key × D)} {o : Obj} {vs : List (Key × V)} (hn : g.S[n]? = some (.fdct l)) (rp0 : Rep K g) (ha : g.H (g.ρ n) = some (.frz o (.dK vs))) (h2 : RPs K g l vs) :
    Jok K g (Itk (g.ρ n) o vs) (keysD l) (hasF n l) := fun g' s kp rp c i => by
  have nl : ¬ g.Live (g.ρ n) := fun ⟨j, y, q1, q2, q3⟩ => by
    have := rp0.inj j n y _ q1 (O.act_ne q2) hn (by intro z; cases z) q3
    subst this
    rw [hn] at q1
    cases q1
    cases q2
  have h1 := (kp _ _ ha nl).1
  have h2 := h2.sim s
  have hl := h2.length
  refine ⟨fun hi => ⟨h1, by unfold keysD at hi; rw [List.length_map] at hi; omega⟩, fun d hd => ?_⟩
  unfold keysD at hd
  rw [List.getElem?_map] at hd
  cases e : l[i]? with
  | none => rw [e] at hd; cases hd
  | some p =>
    rw [e] at hd
    cases hd
    have hi : i < l.length := (List.getElem?_eq_some_iff.mp e).1
    refine ⟨⟨h1, by omega⟩, fun x H' y => ?_⟩
    obtain ⟨rfl, k, v, hkv, rfl⟩ := y
    obtain ⟨d', e1, e2⟩ := RPs.getK h2 hkv
    rw [e] at e1
    cases e1
    exact ⟨g', Ext.refl g', rfl, rfl, rp, kD_rd k⟩
theorem im_keys {tg e : Expr} {m : ME} (he : PE X e (tE X.K W m)) : PI X tg e (tI X.K W (miKeys m)) := PI.imp (pi_keys he) fun σ H R' ⟨g, e, hH, rp, re, p⟩ => by
  subst hH
  refine ⟨g, e, rfl, rp, re, (Post.bind p).imp fun d g1 e1 r1 ⟨_, _, p1⟩ v rv => ?_⟩
  cases d with
  | ref n =>
    dsimp only at p1
    cases hn : g1.S[n]? with
    | none => rw [hn] at p1; exact False.elim p1
    | some o => cases o with
      | fdct l =>
        rw [hn] at p1
        rw [RD] at rv
        obtain ⟨od, vs, h1, h2⟩ := r1.obj n _ hn
        exact ⟨g1.ρ n, od, rv.2, .inl ⟨vs, h1, Post.here r1 p1 _ (jok_keys hn r1 h1 h2)⟩⟩
      | _ => rw [hn] at p1; exact False.elim p1
  | _ => exact False.elim p1
end
end Mo

namespace Mo
open PySem PySem.Spec L2 PyProof.Rows

/-! ### enumerate(tuple) -/
section
variable {prog : Program} {w : World} {A : Around} {E : Value → Shared → Prop} {s : Shared}
theorem meets_enumT (l : Addr) (items : Array Value) :
    Meets (Builtin.«enumerate.__new__» ⟨[.type "enumerate", .ref l], []⟩) (fun _ R s => s.heap.IsTuple l items ∧
      R (.ok (.ret (.ref (s.heap.push { cls := .type "tuple_iterator", data := .fields #[.ref l, .int 0 0] }).objs.size)))
        { s with heap := (s.heap.push { cls := .type "tuple_iterator", data := .fields #[.ref l, .int 0 0] }).push { cls := .type "enumerate", data := .fields #[.none, .bool false, .ref s.heap.objs.size, rawInt 0, .none, .none] } }) :=
  .of_wp fun prog w A R s h => by
    obtain ⟨hp, g, d, tk, os⟩ := s
    obtain ⟨h1, h⟩ := h
    have hsub := sub_enumerate
    have q1 : ∀ {A' : Around} {E : Value → Shared → Prop} {Q : Value → Shared → Prop}, Q (.ref hp.objs.size) ⟨hp.push { cls := .type "tuple_iterator", data := .fields #[.ref l, .int 0 0] }, g, d, tk, os⟩ → wpAny (model prog w) A' (pyIter (.ref l)) Q E ⟨hp, g, d, tk, os⟩ :=
      fun q => (begins_tuple l items).iter prog w _ _ ⟨hp, g, d, tk, os⟩ _ h1 q
    wp_walk using q1
    refine wpAny_stack_any fun st => wpAny_pure ?_
    split
    · rename_i c _ _ _ _ _
      cases (c == Value.type "enumerate")
      · wp_walk using q1
        exact ⟨_, rfl, h⟩
      · wp_walk using q1
        exact ⟨_, rfl, h⟩
    · wp_walk using q1
      exact ⟨_, rfl, h⟩
theorem call_enumT {l : Addr} {items : Array Value} {Q : Value → Shared → Prop} (hL : s.heap.IsTuple l items)
    (h : ∀ h', IsEnum h' (s.heap.objs.size + 1) s.heap.objs.size 0 .none → h'.IsTupleIter s.heap.objs.size l 0 → h'.objs.size = s.heap.objs.size + 2 →
      (∀ b o, s.heap.get? b = some o → h'.get? b = some o) → Q (.ref (s.heap.objs.size + 1)) { s with heap := h' }) :
    wpAny (model prog w) A (call (.type "enumerate") [.ref l]) Q E s := by
  refine callType_new F.called_enumerate (by decide) (F.typeCall_enumerate_1 _) (F.newCall_enumerate_1 _) (fun obj => F.args_object_init_2 obj _) F.entry_enumerate_new (meets_enumT l items) ⟨hL, ?_⟩
  have hz : (s.heap.push { cls := .type "tuple_iterator", data := .fields #[.ref l, .int 0 0] }).objs.size = s.heap.objs.size + 1 := Heap.size_push ..
  show _ ∧ _
  rw [hz]
  have he : IsEnum ((s.heap.push { cls := .type "tuple_iterator", data := .fields #[.ref l, .int 0 0] }).push
      { cls := .type "enumerate", data := .fields #[.none, .bool false, .ref s.heap.objs.size, rawInt 0, .none, .none] }) (s.heap.objs.size + 1) s.heap.objs.size 0 .none := by
    have := Heap.get?_push_size (s.heap.push { cls := .type "tuple_iterator", data := .fields #[.ref l, .int 0 0] })
      (o := { cls := .type "enumerate", data := .fields #[.none, .bool false, .ref s.heap.objs.size, rawInt 0, .none, .none] }) rfl
    rw [hz] at this; exact this
  exact ⟨⟨_, he, rfl⟩, h _ he ⟨_, Heap.get?_push_of_some _ (Heap.get?_push_size _ rfl), rfl, rfl⟩ (by rw [Heap.size_push, hz]) fun b o x => Heap.get?_push_of_some _ (Heap.get?_push_of_some _ x)⟩
end
/-- the tuple at a, each item in a new pair -/
def IteT (K : PySem.W.Frag) (a : Addr) (xs : List V) : It :=
  ⟨fun i H => SqT K H a xs ∧ i < xs.length, fun i H v H' => ∃ T x, v = .ref T ∧ H T = none ∧ H' = upd H T (.tup [.int (i : Nat), x]) ∧ xs[i]? = some x, fun i H => SqT K H a xs ∧ xs.length ≤ i⟩
theorem turn_enumT {P : Program} {w : World} {K : PySem.W.Frag} {elts : List Expr} {kk : Nat} {tpos : Pos} (a e it : Addr) (xs : List V) :
    Turn P w K (.Tuple elts kk tpos) (IteT K a xs) [e, it] e (fun i h => (∃ old, IsEnum h e it ((i : Nat) : Int) old) ∧ h.IsTupleIter it a i ∧ e ≠ it ∧ i ≤ xs.length) where
  mem := by simp
  obj := fun i h st b hb => by
    obtain ⟨⟨old, he⟩, ⟨o, ho, hc, hd⟩, _⟩ := st
    have e' : b = e ∨ b = it := by simpa using hb
    rcases e' with z | z
    · rw [z]; exact ⟨_, he, fun v q => nomatch q⟩
    · rw [z]; exact ⟨o, ho, fun v q => by rw [hd] at q; cases q⟩
  keep := fun i h h' st k => let ⟨⟨old, he⟩, hi, hne⟩ := st; ⟨⟨old, k e (by simp) _ he⟩, hi.at fun o q => k it (by simp) o q, hne⟩
  item := by
    intro X hP hw hK hc i pins s σ H E I hf st hg
    subst hP hw hK
    obtain ⟨⟨old, he⟩, hit, hne, hle⟩ := st
    obtain ⟨hq, hlx⟩ := hg
    obtain ⟨x, hx⟩ : ∃ x, xs[i]? = some x := ⟨xs[i], by simp [hlx]⟩
    obtain ⟨its, rv, p, hz⟩ := I.tuple hq
    obtain ⟨u, hu, ru⟩ := rv.get hx
    have hel : e < s.heap.objs.size := Heap.lt_size he
    have hil : it < s.heap.objs.size := by obtain ⟨_, q, _⟩ := hit; exact Heap.lt_size q
    have pT : s.heap.IsTuple a its.toArray := p
    have hhd : X.A.in1.handled = none := (I.ok.hd hc)
    have hai : a ≠ it := fun z => by
      subst z
      obtain ⟨_, q1, q2, _⟩ := pT
      obtain ⟨_, q3, q4, _⟩ := hit
      rw [q1] at q3
      cases q3
      have e1 : (Value.type "tuple") = .type "tuple_iterator" := q2.symm.trans q4
      exact absurd (Value.type.inj e1) (by decide)
    have hae : a ≠ e := fun z => by
      subst z
      obtain ⟨_, q1, q2, _⟩ := pT
      rw [he] at q1
      cases q1
      have e1 : (Value.type "enumerate") = .type "tuple" := q2
      exact absurd (Value.type.inj e1) (by decide)
    have hlt : i < its.toArray.size := by
      rw [List.size_toArray, ← rv.length]
      exact (List.getElem?_eq_some_iff.mp hx).1
    refine wpAny_pyNext_enum_itemD (Draws.tuple hhd it a hai its.toArray) he ⟨hit, pT⟩ hlt hne (by simp [hne, Ne.symm hae]) fun x' h' tk hP ho hst' hT hsz hk => ?_
    have hx' : x' = u := by
      have : its.toArray[i]? = some x' := hP
      rw [List.getElem?_toArray, hu] at this
      exact (Option.some.inj this).symm
    subst hx'
    refine ⟨_, rfl, wpAny_letOwnedTupleGo_enum (s := { s with heap := h', toks := tk + 1 }) ho fun h'' he' sb => ?_⟩
    have hT2 : h''.get? s.heap.objs.size = some { cls := .type "tuple", data := .seq #[.int i tk, x'] } := (sb.2 _ (Nat.ne_of_gt hel)).trans hT
    have new : ObjOk X.prog X.w (upd H s.heap.objs.size (.tup [.int (i : Nat), x])) h'' s.heap.objs.size (.tup [.int (i : Nat), x]) :=
      ⟨by show 2 ≤ sizeLine; decide, [.int i tk, x'], .cons ⟨_, rfl⟩ (.cons ru .nil), ⟨_, hT2, rfl, _, rfl⟩⟩
    have I1 : Inv X pins σ (upd H s.heap.objs.size (.tup [.int (i : Nat), x])) { s with heap := h'', toks := tk + 1 } :=
      I.turnedNew (ch := [e, it]) (fun b ob hb q => (sb.2 b (fun z => hb (by simp [z]))).trans (hk b ob (fun z => hb (by simp [z])) (fun z => hb (by simp [z])) q)) hf (Nat.le_refl _) new
    refine ⟨.ref s.heap.objs.size, _, I1, rfl, ⟨_, x, rfl, I.hok.fresh (Nat.le_refl _), rfl, hx⟩, ⟨⟨x', ?_⟩, hst'.1.at fun o q => (sb.2 it (Ne.symm hne)).trans q, hne, hlx⟩, fun b hb => ?_⟩
    · have e1 : ((i + 1 : Nat) : Int) = (i : Int) + 1 := by omega
      rw [e1]; exact he'
    · have hb' : b < s.heap.objs.size := by
        have e' : b = e ∨ b = it := by simpa using hb
        rcases e' with z | z
        · rw [z]; exact hel
        · rw [z]; exact hil
      rw [upd_ne (Nat.ne_of_lt hb')]
      exact (hf b hb).1
  done := by
    intro X hP hw hK hc i pins s σ H E I hf st hg
    subst hP hw hK
    obtain ⟨⟨old, he⟩, hit, hne, hle⟩ := st
    obtain ⟨hq, hx⟩ := hg
    obtain ⟨its, rv, p, hz⟩ := I.tuple hq
    obtain ⟨f0, f1, f2, f3, f4, f5⟩ := hf it (by simp)
    have hl := rv.length
    have pT : s.heap.IsTuple a its.toArray := p
    have hai : a ≠ it := fun z => by
      subst z
      obtain ⟨_, q1, q2, _⟩ := pT
      obtain ⟨_, q3, q4, _⟩ := hit
      rw [q1] at q3
      cases q3
      have e1 : (Value.type "tuple") = .type "tuple_iterator" := q2.symm.trans q4
      exact absurd (Value.type.inj e1) (by decide)
    have hi : i = its.toArray.size := by rw [List.size_toArray]; omega
    subst hi
    have hhd : X.A.in1.handled = none := (I.ok.hd hc)
    exact wpAny_pyNext_enum_endD (Draws.tuple hhd it a hai its.toArray) he ⟨hit, pT⟩ fun h' eb => ⟨rfl, I.turned (t' := s.toks) (fun b o hb q => eb b o hb q) f0 f1 f3 f4 f5⟩
  self := fun A i s Q E st h => let ⟨⟨_, he⟩, _⟩ := st; wpAny_pyIter_enum he h
def iEnumT (K : PySem.W.Frag) (ta : TA) : TI := fun σ H R => ta σ H fun vs H1 => ∃ a xs, vs = [.ref a] ∧ SqT K H1 a xs ∧ R (IteT K a xs) H1
section
variable {X : Cx} {tg : Expr} {W : WX'}
theorem pi_enumT {e : Expr} {ta : TA} {p pos tpos : Pos} {elts : List Expr} {kk : Nat} (hg : Gl X "enumerate") (hm : X.mg "enumerate" = none) (ha : PA X [e] ta) (hs : starEach [e] X.env = [(false, eval e X.env)] := by rfl) :
    PI X (.Tuple elts kk tpos) (.Call (.Name "enumerate" p) [e] [] pos) (iEnumT X.K ta) := by
  refine ⟨fun pins s σ H R I h => ?_⟩
  refine Call_ (ld_blt I hg hm boot_enumerate (PyProof.Rows.callWith_type1 (thn (ha.run pos pins s σ H _ I h) fun us s1 ⟨vs, H1, I1, r1, q1⟩ => ?_) hs rfl))
  obtain ⟨a, xs, ex, hq, q⟩ := q1
  subst ex
  cases r1 with
  | cons r rr =>
    cases rr
    cases r
    obtain ⟨its, rv, p', hz⟩ := I1.tuple hq
    refine call_enumT (show s1.heap.IsTuple a its.toArray from p') fun h' he hit hsz hk => wpAny_pyIter_enum he ?_
    have I2 : Inv X pins σ H1 { s1 with heap := h' } := I1.kept (t' := s1.toks) hk
    refine ⟨s1.heap.objs.size + 1, [s1.heap.objs.size + 1, s1.heap.objs.size], _, _, H1, rfl, I2, turn_enumT a (s1.heap.objs.size + 1) s1.heap.objs.size xs, ⟨⟨.none, he⟩, hit, Nat.succ_ne_self _, Nat.zero_le _⟩, fun b hb => ?_, q⟩
    have e' : b = s1.heap.objs.size + 1 ∨ b = s1.heap.objs.size := by simpa using hb
    have hle : s1.heap.objs.size ≤ b := by
      rcases e' with z | z
      · rw [z]; exact Nat.le_add_right _ _
      · rw [z]; exact Nat.le_refl _
    exact I1.fpOk hle (I1.hok.fresh hle)
/-- enumerate(..) of a tuple -/
def enumD : Nat → List D → List D
  | _, [] => []
  | n, d :: l => .tup [.int n, d] :: enumD (n + 1) l
theorem enumD_get : ∀ {l : List D} {n i : Nat} {d : D}, (enumD n l)[i]? = some d → ∃ x, l[i]? = some x ∧ d = .tup [.int ((n + i : Nat) : Int), x]
  | [], n, i, d, h => by simp [enumD] at h
  | x :: l, n, 0, d, h => by
    simp [enumD] at h
    exact ⟨x, rfl, h.symm⟩
  | x :: l, n, i + 1, d, h => by
    rw [enumD] at h
    obtain ⟨y, h1, h2⟩ := enumD_get (l := l) (n := n + 1) (i := i) (by simpa using h)
    refine ⟨y, by simpa using h1, ?_⟩
    rw [h2, show n + 1 + i = n + (i + 1) by omega]
theorem enumD_len : ∀ {l : List D} {n : Nat}, (enumD n l).length = l.length
  | [], _ => rfl
  | x :: l, n => by rw [enumD, List.length_cons, List.length_cons, enumD_len]
def miEnumT (m : MA) : MI := fun e S => (m e S).bind fun l S1 => match l with
  | [.tup r] => .ok (enumD 0 r, anyS) S1
  | _ => .bad
theorem jok_enumT {K : PySem.W.Frag} {g : G} {a : Addr} {vs : List V} {r : List D} (h1 : gT K g a vs) (h2 : RDs K g r vs) : Jok K g (IteT K a vs) (enumD 0 r) anyS := fun g' s kp rp c i => by
  have k1 := h1.sim s.toSim0
  have k2 := h2.sim s
  have hl := k2.length
  refine ⟨fun hi => ⟨k1.sq, by rw [enumD_len] at hi; omega⟩, fun d hd => ?_⟩
  obtain ⟨x, hx, rfl⟩ := enumD_get hd
  have hlt : i < r.length := (List.getElem?_eq_some_iff.mp hx).1
  refine ⟨⟨k1.sq, by omega⟩, fun v H' y => ?_⟩
  obtain ⟨T, x', rfl, hT, rfl, hx'⟩ := y
  obtain ⟨w, hw, rw'⟩ := k2.get hx
  rw [hx'] at hw
  cases hw
  obtain ⟨n1, n2, n3⟩ := new_tup rp hT (RDs.cons (show RD K g' (.int ((0 + i : Nat) : Int)) (.int (i : Nat)) by rw [RD]; simp) (RDs.cons rw' RDs.nil))
  exact ⟨_, n1, rfl, rfl, n2, n3⟩
theorem im_enumT {e : Expr} {m : MA} {p pos tpos : Pos} {elts : List Expr} {kk : Nat} (hg : Gl X "enumerate") (hm : X.mg "enumerate" = none) (ha : PA X [e] (tA X.K W m)) (hs : starEach [e] X.env = [(false, eval e X.env)] := by rfl) :
    PI X (.Tuple elts kk tpos) (.Call (.Name "enumerate" p) [e] [] pos) (tI X.K W (miEnumT m)) := PI.imp (pi_enumT hg hm ha hs) fun σ H R' ⟨g, e, hH, rp, re, p⟩ => by
  subst hH
  refine ⟨g, e, rfl, rp, re, (Post.bind p).imp fun l g1 e1 r1 ⟨_, _, p1⟩ vs rv => ?_⟩
  split at p1
  · rename_i r
    obtain ⟨v, rfl, hv⟩ := rv.one
    rw [RD] at hv
    obtain ⟨a, ws, rfl, h1, h2⟩ := hv
    exact ⟨a, ws, rfl, h1.sq, Post.here r1 p1 _ (jok_enumT h1 h2)⟩
  · exact False.elim p1
end

/-! ### dict comprehensions -/
def compDL (chk : List O → Bool) (t : Tg) (tt : MT) (tk te : ME) (e : Env) : List (Key × D) → List D → List O → R (List (Key × D))
  | acc, [], S => if chk S = true then .ok acc S else .bad
  | acc, d :: l, S => if chk S = true then (match t.f d e with
    | some e' => (tt e' S).nb.bind fun k S1 => if k then (tk e' S1).nb.bind fun kd S2 => ((te e' S2).nb.bind fun y S3 => (match keyD kd with | some k => if acc.length < sz then compDL chk t tt tk te e (putP acc k y) l S3 else .bad | none => .bad)) else compDL chk t tt tk te e acc l S1
    | none => .bad) else .bad
def mDCompN (m : MI) (t : Tg) (tt : MT) (tk te : ME) (vs : List Nat) : ME := fun e S => (m e S).bind fun lc S1 => (compDL lc.2 t tt tk te (wipeE e vs) [] lc.1 S1).bind fun acc S2 => .ok (.ref S2.length) (S2 ++ [.dct acc])
section
variable {K : PySem.W.Frag} {W : WX'} {σ : L2.St} {H : Hp} {Q : VK} {g : G} {p : Addr} {u : HO}
theorem RPs_nil {α : Type} : RPs K g ([] : List (α × D)) [] := by rw [RPs]
theorem Rep.growD {ws : List (Key × V)} (rp : Rep K g) (hN : g.N p) (nl : ¬ g.Live p) (hz : g.H p = some (.dK ws)) : Rep K (g.grow p u) := by
  refine ⟨fun a z => ?_, rp.inj, fun i o q => (rp.obj i o q).sim (Sim.grow hN) fun n => ?_⟩
  · by_cases h : a = p
    · subst h; exact ⟨u, upd_same⟩
    · obtain ⟨o, e⟩ := rp.nd a z
      exact ⟨o, (show upd g.H p u a = g.H a from upd_ne h).trans e⟩
  · refine upd_ne fun z => ?_
    by_cases ha : o.act = true
    · exact nl ⟨i, o, q, ha, z⟩
    · cases o with
      | gone => exact n rfl
      | fdct l =>
        obtain ⟨od, vs, q1, _⟩ := rp.obj i _ q
        rw [z, hz] at q1
        cases q1
      | lst l => exact ha rfl
      | dct l => exact ha rfl
      | ins C l => exact ha rfl
theorem i_dcompN {m : MI} {t : Tg} {tt : MT} {tk te : ME} {vs : List Nat} (hsl : ∀ j ∈ t.sl, j ∈ vs) (h : tE K W (mDCompN m t tt tk te vs) σ H Q) : tDc (tI K W m) (tG K t) (tT K WF tt) (tE K WF tk) (tE K WF te) vs σ H Q := by
  obtain ⟨g, e, hH, rp, re, p⟩ := h
  subst hH
  refine ⟨g, e, rfl, rp, re, (Post.bind p).imp fun lc g1 e1 r1 ⟨_, _, p1⟩ J hJ => ?_⟩
  obtain ⟨l, chk⟩ := lc
  have p1 : Post K W g1 ((compDL chk t tt tk te (wipeE e vs) [] l g1.S).bind fun acc S2 => .ok (.ref S2.length) (S2 ++ [.dct acc])) σ fun d g' => ∀ v, RD K g' d v → Q v g'.H := p1
  intro Dl hD
  let At : Nat → Hp → Prop := fun i H => i ≤ l.length ∧ ∃ g' acc vs', g'.H = H ∧ Sim g1 g' ∧ Rep K g' ∧ g'.H Dl = some (.dK vs') ∧ RPs K g' acc vs' ∧ (∀ a, g'.N a ↔ (g1.N a ∨ a = Dl)) ∧ ¬ g'.Live Dl ∧
    (∀ a o, g1.H a = some o → ¬ g1.Live a → g'.H a = some o ∧ ¬ g'.Live a) ∧ compDL chk t tt tk te (wipeE e vs) [] l g1.S = compDL chk t tt tk te (wipeE e vs) acc (l.drop i) g'.S
  have rew : RE K g1 (wipeE e vs) (L2.wipe σ vs) := (re.mono e1).wipes vs
  refine ⟨fun i m H => m = l.length - i ∧ At i H, ⟨l.length, by simp, Nat.zero_le _, g1.guard Dl (.dK []), [], [], rfl, Sim.guard hD, r1.guard hD, upd_same, RPs_nil, fun _ => Iff.rfl, (r1.fresh hD).2, fun a o ho nl => ⟨?_, nl⟩, rfl⟩, ?_⟩
  · exact (show upd g1.H Dl (.dK []) a = g1.H a from upd_ne (ne_of_none ho hD)).trans ho
  rintro i m H ⟨rfl, hi, g', acc, vs', rfl, s', rp', hDl, racc, hN, nlive, keep, hR⟩
  have hND : g'.N Dl := (hN Dl).mpr (.inr rfl)
  by_cases hlt : i < l.length
  · obtain ⟨d, hd⟩ : ∃ d, l[i]? = some d := ⟨l[i], by simp [hlt]⟩
    have hdrop : l.drop i = d :: l.drop (i + 1) := by
      rw [List.drop_eq_getElem_cons hlt]
      congr 1
      exact Option.some.inj ((List.getElem?_eq_getElem hlt).symm.trans hd)
    rw [hdrop, compDL] at hR
    have nobad : compDL chk t tt tk te (wipeE e vs) [] l g1.S ≠ .bad := fun z => by rw [z] at p1; exact p1
    by_cases hc : chk g'.S = true
    · rw [if_pos hc] at hR
      obtain ⟨go, yl⟩ := (hJ g' s' keep rp' hc i).2 d hd
      refine .inr ⟨go, fun H => At (i + 1) H, fun H2 h2 => ⟨l.length - (i + 1), by omega, rfl, h2⟩, fun x H' y => ?_⟩
      obtain ⟨g2, x2, s2, rfl, rp2, rd2⟩ := yl x H' y
      cases q : t.f d (wipeE e vs) with
      | none => rw [q] at hR; exact absurd hR nobad
      | some e2 =>
        rw [q] at hR
        dsimp only at hR
        refine ⟨g2, wipeE e vs, d, e2, rfl, rp2, rew.sim (s'.trans x2.sim), rd2, q, fun σ2 re2 off => ⟨wipe_same off hsl, g2, e2, rfl, rp2, re2, ?_⟩⟩
        rw [s2]
        cases qt : tt e2 g'.S with
        | er x3 S3 => rw [qt] at hR; exact absurd hR nobad
        | bad => rw [qt] at hR; exact absurd hR nobad
        | ok k S3 =>
          rw [qt] at hR
          have hR : compDL chk t tt tk te (wipeE e vs) [] l g1.S = if k then (tk e2 S3).nb.bind fun kd S2 => ((te e2 S2).nb.bind fun y S3 => (match keyD kd with | some k => if acc.length < sz then compDL chk t tt tk te (wipeE e vs) (putP acc k y) (l.drop (i + 1)) S3 else .bad | none => .bad)) else compDL chk t tt tk te (wipeE e vs) acc (l.drop (i + 1)) S3 := hR
          intro g3 x3 hs3 rp3
          have x23 := x2.trans x3
          have keep3 : ∀ a o, g1.H a = some o → ¬ g1.Live a → g3.H a = some o ∧ ¬ g3.Live a := fun a o ho nl =>
            let ⟨k1, k2⟩ := keep a o ho nl
            x23.kp a o k1 k2
          have dl3 := x23.kp Dl _ hDl nlive
          have hN3 : ∀ a, g3.N a ↔ (g1.N a ∨ a = Dl) := fun a => by rw [x23.n]; exact hN a
          cases k with
          | false => exact ⟨hlt, g3, acc, vs', rfl, s'.trans x23.sim, rp3, dl3.1, racc.sim x23.sim, hN3, dl3.2, keep3, by rw [hs3]; exact hR⟩
          | true =>
            rw [if_pos rfl] at hR
            refine ⟨g3, e2, rfl, rp3, re2.mono x3, ?_⟩
            rw [hs3]
            cases qk : tk e2 S3 with
            | er x4 S4 => rw [qk] at hR; exact absurd hR nobad
            | bad => rw [qk] at hR; exact absurd hR nobad
            | ok kd S4 =>
              rw [qk] at hR
              have hR : compDL chk t tt tk te (wipeE e vs) [] l g1.S = (te e2 S4).nb.bind fun y S2 => (match keyD kd with | some k => if acc.length < sz then compDL chk t tt tk te (wipeE e vs) (putP acc k y) (l.drop (i + 1)) S2 else .bad | none => .bad) := hR
              intro g4 x4 hs4 rp4 v4 rv4
              have x24 := x23.trans x4
              refine ⟨g4, e2, rfl, rp4, (re2.mono x3).mono x4, ?_⟩
              rw [hs4]
              cases qe : te e2 S4 with
              | er x5 S5 => rw [qe] at hR; exact absurd hR nobad
              | bad => rw [qe] at hR; exact absurd hR nobad
              | ok y S5 =>
                rw [qe] at hR
                have hR : compDL chk t tt tk te (wipeE e vs) [] l g1.S = (match keyD kd with | some k => if acc.length < sz then compDL chk t tt tk te (wipeE e vs) (putP acc k y) (l.drop (i + 1)) S5 else .bad | none => .bad) := hR
                cases hk : keyD kd with
                | none => rw [hk] at hR; exact absurd hR nobad
                | some k =>
                  rw [hk] at hR
                  dsimp only at hR
                  by_cases hz : acc.length < sz
                  · rw [if_pos hz] at hR
                    intro g5 x5 hs5 rp5 v5 rv5
                    have x25 := x24.trans x5
                    have dl5 := x25.kp Dl _ hDl nlive
                    have hN5 : ∀ a, g5.N a ↔ (g1.N a ∨ a = Dl) := fun a => by rw [x25.n]; exact hN a
                    have hND5 : g5.N Dl := (hN5 Dl).mpr (.inr rfl)
                    refine ⟨vs', k, keyD_at hk rv4, dl5.1, by rw [← racc.length, ← sz_eq]; exact hz, hlt, g5.grow Dl (.dK (putK vs' k v5)), putP acc k y, putK vs' k v5, rfl, (s'.trans x25.sim).trans (Sim.grow hND5), rp5.growD hND5 dl5.2 dl5.1, upd_same,
                      ((racc.sim x25.sim).put rv5).sim (Sim.grow hND5), hN5, dl5.2, fun a o ho nl => ?_, by rw [show (g5.grow Dl (.dK (putK vs' k v5))).S = S5 from hs5]; exact hR⟩
                    obtain ⟨k1, k2⟩ := keep a o ho nl
                    obtain ⟨k3, k4⟩ := x25.kp a o k1 k2
                    exact ⟨(show upd g5.H Dl (.dK (putK vs' k v5)) a = g5.H a from upd_ne (ne_of_none ho hD)).trans k3, k4⟩
                  · rw [if_neg hz] at hR; exact absurd hR nobad
    · rw [if_neg hc] at hR; exact absurd hR nobad
  · have hl : l.drop i = [] := List.drop_eq_nil_of_le (Nat.le_of_not_lt hlt)
    rw [hl, compDL] at hR
    have nobad : compDL chk t tt tk te (wipeE e vs) [] l g1.S ≠ .bad := fun z => by rw [z] at p1; exact p1
    by_cases hc : chk g'.S = true
    · rw [if_pos hc] at hR
      refine .inl ⟨(hJ g' s' keep rp' hc i).1 (Nat.le_of_not_lt hlt), ?_⟩
      rw [hR] at p1
      have hsub : ∀ a, g1.N a → g'.N a := fun a z => (hN a).mpr (.inl z)
      let g2 : G := { N := g1.N, ρ := fun i => if i = g'.S.length then Dl else g'.ρ i, S := g'.S ++ [.dct acc], H := g'.H }
      have live2 : ∀ a, g2.Live a → g'.Live a ∨ a = Dl := fun a ⟨i, o, q, n, e⟩ => by
        have q' : (g'.S ++ [O.dct acc])[i]? = some o := q
        have e' : (if i = g'.S.length then Dl else g'.ρ i) = a := e
        by_cases hi : i < g'.S.length
        · rw [List.getElem?_append_left hi] at q'
          rw [if_neg (Nat.ne_of_lt hi)] at e'
          exact .inl ⟨i, o, q', n, e'⟩
        · have e2 : i = g'.S.length := by
            rcases Nat.lt_or_ge i (g'.S.length + 1) with z | z
            · omega
            · rw [List.getElem?_eq_none (by simpa using z)] at q'; cases q'
          rw [if_pos e2] at e'
          exact .inr e'.symm
      have pr2 : ∀ a, g'.Pr a → g2.Pr a := fun a q => ⟨fun z => q.1 (hsub a z), fun z => (live2 a z).elim q.2 fun e => q.1 ((hN a).mpr (.inr e))⟩
      have s2 : Sim g' g2 := ⟨⟨fun a vs r q => ⟨r, pr2 a q⟩, fun a vs r q => ⟨r, pr2 a q⟩, fun a C dx fs q => ⟨q.1, pr2 a q.2⟩⟩, by show _ ≤ (g'.S ++ [O.dct acc]).length; simp, fun i hi => if_neg (Nat.ne_of_lt hi)⟩
      have at2 : ∀ i o, g2.S[i]? = some o → (i < g'.S.length ∧ g'.S[i]? = some o ∧ g2.ρ i = g'.ρ i) ∨ (i = g'.S.length ∧ o = .dct acc ∧ g2.ρ i = Dl) := fun i o q => by
        have q' : (g'.S ++ [O.dct acc])[i]? = some o := q
        by_cases hi : i < g'.S.length
        · rw [List.getElem?_append_left hi] at q'
          exact .inl ⟨hi, q', if_neg (Nat.ne_of_lt hi)⟩
        · have e2 : i = g'.S.length := by
            rcases Nat.lt_or_ge i (g'.S.length + 1) with z | z
            · omega
            · rw [List.getElem?_eq_none (by simpa using z)] at q'; cases q'
          subst e2
          rw [List.getElem?_append_right (Nat.le_refl _), Nat.sub_self] at q'
          exact .inr ⟨rfl, (Option.some.inj q').symm, if_pos rfl⟩
      have hne : ∀ i o, g'.S[i]? = some o → o ≠ .gone → g'.ρ i ≠ Dl := fun i o q n e => by
        cases o with
        | gone => exact n rfl
        | fdct l =>
          obtain ⟨od, ws, h1, _⟩ := rp'.obj i _ q
          rw [e, hDl] at h1
          cases h1
        | lst l => exact nlive ⟨i, _, q, rfl, e⟩
        | dct l => exact nlive ⟨i, _, q, rfl, e⟩
        | ins C l => exact nlive ⟨i, _, q, rfl, e⟩
      refine p1 g2 ⟨rfl, Nat.le_trans s'.len s2.len, fun i hi => ?_, fun a o ho nl => ?_⟩ rfl ⟨fun a z => rp'.nd a (hsub a z), fun i j o u q1 n1 q2 n2 e => ?_, fun i o q => ?_⟩ (.ref Dl) ?_
      · rw [s2.ag i (Nat.lt_of_lt_of_le hi s'.len)]; exact s'.ag i hi
      · obtain ⟨k1, k2⟩ := keep a o ho nl
        exact ⟨k1, fun z => (live2 a z).elim k2 fun e => by rw [e, hD] at ho; cases ho⟩
      · rcases at2 i o q1 with ⟨a1, a2, a3⟩ | ⟨a1, a2, a3⟩ <;> rcases at2 j u q2 with ⟨b1, b2, b3⟩ | ⟨b1, b2, b3⟩
        · rw [a3, b3] at e; exact rp'.inj i j o u a2 n1 b2 n2 e
        · rw [a3, b3] at e; exact absurd e (hne i o a2 n1)
        · rw [a3, b3] at e; exact absurd e.symm (hne j u b2 n2)
        · rw [a1, b1]
      · rcases at2 i o q with ⟨a1, a2, a3⟩ | ⟨a1, a2, a3⟩
        · rw [a3]; exact (rp'.obj i o a2).sim s2 fun _ => rfl
        · rw [a3, a2]; exact ⟨vs', hDl, racc.sim s2⟩
      · rw [RD]
        exact ⟨by show g'.S.length < (g'.S ++ [O.dct acc]).length; simp, by rw [show g2.ρ g'.S.length = Dl from if_pos rfl]⟩
    · rw [if_neg hc] at hR; exact absurd hR nobad
end
section
variable {X : Cx} {W : WX'} {m : MI} {t : Tg} {tt : MT} {tk te : ME}
theorem pm_dcompN {kx elt tg iter : Expr} {ifs : List Expr} {scope : Scope} {own : List (Str × Nat)} {pos : Pos} (hc : X.calm = true) (hN : X.N.Nodup) (hi : PI X tg iter (tI X.K W m)) (ok : BlkOk X.N X.env.scope scope own)
    (hg : ∀ (s : Shared) (H : Hp) (C : Addr) (cl : List (Str × Addr)) (fp : List Addr), PG (X.blk s H scope (compEnvC scope cl C X.env) fp) tg (tG X.K t)) (ht : ∀ (s : Shared) (H : Hp) (C : Addr) (cl : List (Str × Addr)) (fp : List Addr), PTs (X.blk s H scope (compEnvC scope cl C X.env) fp) ifs (tT X.K WF tt))
    (hk : ∀ (s : Shared) (H : Hp) (C : Addr) (cl : List (Str × Addr)) (fp : List Addr), PE (X.blk s H scope (compEnvC scope cl C X.env) fp) kx (tE X.K WF tk))
    (he : ∀ (s : Shared) (H : Hp) (C : Addr) (cl : List (Str × Addr)) (fp : List Addr), PE (X.blk s H scope (compEnvC scope cl C X.env) fp) elt (tE X.K WF te)) (hsl : ∀ j ∈ t.sl, j ∈ own.map (·.2) := by decide) (hs : ∀ x, foldedSetIterable iter X.env x = pure x := by intro _; rfl) :
    PE X (.DictComp kx elt [⟨tg, iter, ifs, 0⟩] scope pos) (tE X.K W (mDCompN m t tt tk te (own.map (·.2)))) := PE.imp (pe_dc hc hN hi ok hg ht hk he hs) fun _ _ _ => i_dcompN hsl
end
end Mo

namespace Mo
open PySem PySem.Spec L2 PyProof.Rows

/-! ### lists that are changed later, made by + and * -/
/-- an operator whose result is a new list -/
abbrev Op2N := List O → D → D → Option (List D)
def rOpN (K : PySem.W.Frag) (f : Op2N) : R2 := fun x y H Q => ∃ g a b l, g.H = H ∧ Rep K g ∧ RD K g a x ∧ RD K g b y ∧ f g.S a b = some l ∧ ∀ g' v, Ext g g' → g'.S = g.S ++ [.lst l] → Rep K g' → RD K g' (.ref g.S.length) v → Q v g'.H
def mBinN (f : Op2N) (ma mb : ME) : ME := fun e S => (ma e S).bind fun a S1 => (mb e S1).bind fun b S2 => match f S2 a b with
  | some l => .ok (.ref S2.length) (S2 ++ [.lst l])
  | none => .bad
def nAdd : Op2N := fun S a b => match seqP S a, seqP S b with
  | some x, some y => if x.length + y.length ≤ sz then some (x ++ y) else none
  | _, _ => none
def nMul : Op2N := fun S a b => match b with
  | .int k => match seqP S a with
    | some x => if x.length * k.toNat ≤ sz ∧ k.natAbs < 9223372036854775808 then some (List.replicate k.toNat x).flatten else none
    | none => none
  | _ => none
section
variable {X : Cx} {W : WX'} {a b : Expr} {ma mb : ME} {pos : Pos}
theorem o_addN : OpR X (binaryOp .Add) (rOpN X.K nAdd) := by
  intro pins s σ H x y v u Q I rx ry h
  obtain ⟨g, a, b, l, rfl, rp, ra, rb, hf, q⟩ := h
  unfold nAdd at hf
  cases e1 : seqP g.S a with
  | none => rw [e1] at hf; cases hf
  | some l1 =>
    cases e2 : seqP g.S b with
    | none => rw [e1, e2] at hf; cases hf
    | some l2 =>
      rw [e1, e2] at hf
      dsimp only at hf
      by_cases hz : l1.length + l2.length ≤ sz
      · rw [if_pos hz] at hf
        cases hf
        obtain ⟨p1, vs1, rfl, h1, r1⟩ := seqP_at rp e1 ra
        obtain ⟨p2, vs2, rfl, h2, r2⟩ := seqP_at rp e2 rb
        refine catR pins s σ _ _ _ v u Q I rx ry ⟨p1, p2, vs1, vs2, rfl, rfl, h1, h2, by rw [← r1.length, ← r2.length, ← sz_eq]; exact hz, fun p hp => ?_⟩
        obtain ⟨x1, x2, x3⟩ := new_ref rp hp (r1.append r2)
        exact q _ _ x1 rfl x2 x3
      · rw [if_neg hz] at hf; cases hf
theorem o_mulN : OpR X (binaryOp .Mult) (rOpN X.K nMul) := by
  intro pins s σ H x y v u Q I rx ry h
  obtain ⟨g, a, b, l0, rfl, rp, ra, rb, hf, q⟩ := h
  unfold nMul at hf
  split at hf
  · rename_i k
    cases e1 : seqP g.S a with
    | none => rw [e1] at hf; cases hf
    | some l =>
      rw [e1] at hf
      dsimp only at hf
      split at hf
      · rename_i hc
        cases hf
        rw [RD] at rb; subst rb
        obtain ⟨p1, vs1, rfl, h1, r1⟩ := seqP_at rp e1 ra
        refine repR pins s σ _ _ _ v u Q I rx ry ⟨p1, k, vs1, rfl, rfl, h1, by omega, by omega, by rw [← r1.length, ← sz_eq]; exact hc.1, fun p hp => ?_⟩
        obtain ⟨x1, x2, x3⟩ := new_ref rp hp (r1.rep k.toNat)
        exact q _ _ x1 rfl x2 x3
      · cases hf
  · cases hf
theorem i_binN {K : PySem.W.Frag} {σ : L2.St} {H : Hp} {Q : VK} {f : Op2N} (h : tE K W (mBinN f ma mb) σ H Q) : tOp (rOpN K f) (tE K W ma) (tE K W mb) σ H Q := by
  obtain ⟨g, e, hH, rp, re, p⟩ := h
  subst hH
  refine ⟨g, e, rfl, rp, re, (Post.bind p).imp fun a g1 e1 r1 ⟨_, _, p1⟩ v rv => ?_⟩
  refine ⟨g1, e, rfl, r1, re.mono e1, (Post.bind p1).imp fun b g2 e2 r2 ⟨_, _, p2⟩ u ru => ?_⟩
  cases q : f g2.S a b with
  | none => rw [q] at p2; exact False.elim p2
  | some l =>
    rw [q] at p2
    exact ⟨g2, a, b, l, rfl, r2, rv.mono e2, ru, q, fun g' w x s r rw' => p2 g' x s r w rw'⟩
theorem pm_binN {op : Operator} {f : Op2N} (ho : OpR X (binaryOp op) (rOpN X.K f)) (ha : PE X a (tE X.K W ma)) (hb : PE X b (tE X.K W mb)) : PE X (.BinOp a op b pos) (tE X.K W (mBinN f ma mb)) := PE.imp (pe_op ho ha hb) fun _ _ _ => i_binN
/-- a, b, c = x, y, z -/
def sPar3 (i j k : Nat) (m : MA) : MS := fun e S => (m e S).st e fun l S1 => match l with
  | [a, b, c] => .nx (((e.set i (some a)).set j (some b)).set k (some c)) S1
  | _ => .bad
theorem sm_par3 {i j l : Nat} {x y z : Str} {a b c : Expr} {mm : MA} {px py pz pt pos : Pos} {kt k2 pt2} (hc : X.calm = true) (hN : X.N.Nodup) (hi : X.N[i]? = some x) (hj : X.N[j]? = some y) (hl : X.N[l]? = some z) (hij : i ≠ j) (hil : i ≠ l) (hjl : j ≠ l)
    (hx : X.env.scope.names.lookup x = some .local) (hy : X.env.scope.names.lookup y = some .local) (hz : X.env.scope.names.lookup z = some .local) (ha : PA X [a, b, c] (tA X.K W mm))
    (hw : swappedStores [.Tuple [.Name x px, .Name y py, .Name z pz] kt pt] (.Tuple [a, b, c] k2 pt2) X.env = pure (some [x, y, z]))
    (hs : swapsWithSole [.Tuple [.Name x px, .Name y py, .Name z pz] kt pt] (.Tuple [a, b, c] k2 pt2) pos.line X.env = pure false := by rfl) :
    PS X (.Assign [.Tuple [.Name x px, .Name y py, .Name z pz] kt pt] (.Tuple [a, b, c] k2 pt2) pos) (tS X.K W (sPar3 i j l mm)) := PS.imp (ps_par3 hc hN hi hj hl hij hil hjl hx hy hz ha hw hs) fun D σ H ⟨g, e, hH, rp, re, p⟩ => by
  subst hH
  refine ⟨g, e, rfl, rp, re, (PostS.of_st re p).imp fun l g1 e1 r1 ⟨_, _, p1⟩ vs rv => ?_⟩
  split at p1
  · rw [RDs] at rv
    obtain ⟨v, vr, rfl, h1, h2⟩ := rv
    obtain ⟨u, w, rfl, h3, h4⟩ := h2.two
    exact ⟨v, u, w, rfl, p1 g1 _ (Ext.refl g1) rfl r1 ((((re.mono e1).set h1).set h3).set h4)⟩
  · exact False.elim p1
end
/-- a def that is called deeper than its promise goes -/
theorem fnG_bad {P : Program} {w : World} {K : PySem.W.Frag} {mg : Str → Option Value} {base : Heap} {CX : CXT} {k np n : Nat} {f : Addr} {fd : FuncData} {ps : List Str} (hp : ps.length = np) :
    FnG P w K mg base CX k f fd ps fun vs H Q _ => spM K np (fnM np n fun _ _ => .bad) vs H Q E0 := by
  refine ⟨fun vs H Q E h => by rw [hp]; exact h.1, fun A outer s H args us vs Q E hr e0 hb r hsp => ?_⟩
  obtain ⟨_, g, ds, _, _, _, p⟩ := hsp
  unfold fnM at p
  split at p <;> exact False.elim p
theorem qm_w {X : Cx} {a : Expr} {t : TT} (h : PW X a t) : PT X a t := h.pt
end Mo

namespace Mo
open PySem PySem.Spec L2 PyProof.Rows

/-! ### more of dicts and enumerate -/
/-- len of a dict that is not walked through -/
def gLenD : OpN := fun S l => match l with
  | [.ref n] => match S[n]? with
    | some (.dct l) => some (.int l.length)
    | _ => none
  | _ => none
section
variable {X : Cx} {W : WX'}
theorem c_lenD : CallR X (.builtin "len") (rN X.K gLenD) := by
  intro pins s σ H xs us Q I r h
  obtain ⟨g, ds, d, rfl, rp, rv, hf, q⟩ := h
  unfold gLenD at hf
  split at hf
  · rename_i n
    split at hf
    · rename_i l hn
      cases hf
      obtain ⟨v, rfl, h1⟩ := rv.one
      rw [RD] at h1
      obtain ⟨vs, k1, k2⟩ := rp.obj n _ hn
      refine call_lenD pins s σ _ _ us Q I r ⟨g.ρ n, vs, by rw [h1.2], k1, ?_⟩
      exact q g _ (Ext.refl g) rfl rp (by rw [RD, k2.length])
    · cases hf
  · cases hf
/-- {i: None} -/
def mDisp1 (i : Int) : ME := fun _ S => .ok (.ref S.length) (S ++ [.dct [(.inl i, .non)]])
theorem pm_disp1 {i : Int} {j k : Nat} {p1 p2 pos : Pos} : PE X (.Dict [some (.Constant (.int i) j p1)] [.Constant .none k p2] pos) (tE X.K W (mDisp1 i)) :=
  PE.imp (pe_disp (pps_cons pe_int pe_non pps_nil) rfl rfl (by simp) (by simp)) fun σ H Q ⟨g, e, hH, rp, re, p⟩ => by
    subst hH
    intro q hq
    refine ⟨upd_same, [(.inl i, .non)], rfl, by simp, ?_⟩
    have x := Ext.add rp (o := .dct [(.inl i, .non)]) (u := .dK [(.inl i, .non)]) hq
    have e0 : upd (upd g.H q (.dK [])) q (.dK (mergeK [] [((.inl i : Key), V.non)])) = upd g.H q (.dK [(.inl i, .non)]) := by
      funext a
      by_cases h : a = q
      · subst h; rw [upd_same, upd_same]; rfl
      · rw [upd_ne h, upd_ne h, upd_ne h]
    show Q (.ref q) (upd (upd g.H q (.dK [])) q (.dK (mergeK [] [((.inl i : Key), V.non)])))
    rw [e0]
    have p1 : ∀ g', Ext g g' → g'.S = g.S ++ [.dct [(.inl i, .non)]] → Rep X.K g' → ∀ v, RD X.K g' (.ref g.S.length) v → Q v g'.H := p
    refine p1 _ x rfl (rp.add hq ⟨[(.inl i, .non)], upd_same, ?_⟩) _ ?_
    · rw [RPs]
      exact ⟨.non, [], rfl, by rw [RD], by rw [RPs]⟩
    · rw [RD]
      exact ⟨by simp, by simp⟩
/-- enumerate(..) of a list -/
def miEnum (m : MA) : MI := fun e S => (m e S).bind fun l S1 => match l with
  | [.lst r] => .ok (enumD 0 r, anyS) S1
  | [.kl r] => .ok (enumD 0 r, anyS) S1
  | [.ref n] => match S1[n]? with
    | some (.lst r) => .ok (enumD 0 r, fun S => decide (S[n]? = some (.lst r))) S1
    | _ => .bad
  | _ => .bad
theorem jok_enum {K : PySem.W.Frag} {g : G} {a : Addr} {r : List D} {chk : List O → Bool} (h : ∀ g', Sim g g' → Rep K g' → chk g'.S = true → ∃ vs, SqL K g'.H a vs ∧ RDs K g' r vs) : Jok K g (Ite K a) (enumD 0 r) chk := fun g' s kp rp c i => by
  obtain ⟨vs, h1, h2⟩ := h g' s rp c
  have hl := h2.length
  refine ⟨fun hi => ⟨vs, h1, by rw [enumD_len] at hi; omega⟩, fun d hd => ?_⟩
  obtain ⟨x, hx, rfl⟩ := enumD_get hd
  obtain ⟨w, hw, rw'⟩ := h2.get hx
  refine ⟨⟨vs, w, h1, hw⟩, fun v H' y => ?_⟩
  obtain ⟨T, x', rfl, hT, rfl, hx'⟩ := y
  have e := hx' vs h1
  rw [hw] at e
  cases e
  obtain ⟨n1, n2, n3⟩ := new_tup rp hT (RDs.cons (show RD K g' (.int ((0 + i : Nat) : Int)) (.int (i : Nat)) by rw [RD]; simp) (RDs.cons rw' RDs.nil))
  exact ⟨_, n1, rfl, rfl, n2, n3⟩
theorem im_enum {e : Expr} {m : MA} {p pos tpos : Pos} {elts : List Expr} {kk : Nat} (hg : Gl X "enumerate") (hm : X.mg "enumerate" = none) (ha : PA X [e] (tA X.K W m)) (hs : starEach [e] X.env = [(false, eval e X.env)] := by rfl) :
    PI X (.Tuple elts kk tpos) (.Call (.Name "enumerate" p) [e] [] pos) (tI X.K W (miEnum m)) := PI.imp (pi_enum hg hm ha hs) fun σ H R' ⟨g, e, hH, rp, re, p⟩ => by
  subst hH
  refine ⟨g, e, rfl, rp, re, (Post.bind p).imp fun l g1 e1 r1 ⟨_, _, p1⟩ vs rv => ?_⟩
  split at p1
  · obtain ⟨v, rfl, hv⟩ := rv.one
    rw [RD] at hv
    obtain ⟨a, ws, rfl, h1, h2⟩ := hv
    exact ⟨a, ws, rfl, h1.sq, Post.here r1 p1 _ (jok_enum fun g' s _ _ => ⟨ws, (h1.sim s.toSim0).sq, h2.sim s⟩)⟩
  · obtain ⟨v, rfl, hv⟩ := rv.one
    rw [RD] at hv
    obtain ⟨a, ws, rfl, h1, h2⟩ := hv
    exact ⟨a, ws, rfl, h1.sq, Post.here r1 p1 _ (jok_enum fun g' s _ _ => ⟨ws, (h1.sim s.toSim0).sq, h2.sim s⟩)⟩
  · rename_i n _
    split at p1
    · rename_i r hn
      obtain ⟨v, rfl, hv⟩ := rv.one
      have hv0 := hv
      rw [RD] at hv
      obtain ⟨vs, h1, h2⟩ := r1.obj n _ hn
      refine ⟨g1.ρ n, vs, by rw [hv.2], .inl (.inl h1), Post.here r1 p1 _ (jok_enum fun g' s rp' c => ?_)⟩
      have c := of_decide_eq_true c
      obtain ⟨vs', k1, k2⟩ := rp'.obj n _ c
      rw [s.ag n hv.1] at k1
      exact ⟨vs', .inl (.inl k1), k2⟩
    · exact False.elim p1
  · exact False.elim p1
end
end Mo

namespace Mo
open PySem L2

/-! ### instances: attributes, making, methods, properties -/
theorem RoomG.in1 {k : Nat} {A : Around} (h : RoomG (k + 1) A) : RoomG k A.in1 := ⟨h.r.in1, h.g⟩
theorem RoomG.make {k : Nat} {A : Around} (h : RoomG (k + 1) A) (C : Addr) (us : List Value) (kw : List (Str × Value)) : RoomG k (A.under (.builtin "type.__call__" ⟨.ref C :: us, kw⟩)) := ⟨h.r.make C us kw, by first | exact h.g | (have := h.g; simpa [Around.under] using this)⟩
/-- the attributes of an instance of a class -/
def insD (C : Addr) (S : List O) (d : D) : Option (List (Str × D)) := match d with
  | .fz E ns l => if E = C then some (ns.zip l) else none
  | .ref n => match S[n]? with
    | some (.ins E fs) => if E = C then some fs else none
    | _ => none
  | _ => none
section
variable {K : PySem.W.Frag} {g : G}
theorem rps_zip : ∀ {ns : List Str} {l : List D} {vs : List V}, ns.length = l.length → RDs K g l vs → RPs K g (ns.zip l) (ns.zip vs)
  | [], [], vs, _, _ => by rw [List.zip_nil_left, List.zip_nil_left, RPs]
  | n :: ns, d :: l, vs, h, r => by
    rw [RDs] at r
    obtain ⟨v, w, rfl, h2, h3⟩ := r
    rw [List.zip_cons_cons, List.zip_cons_cons, RPs]
    exact ⟨v, _, rfl, h2, rps_zip (by simpa using h) h3⟩
theorem RPs.split : ∀ {l : List (Str × D)} {vs : List (Str × V)}, RPs K g l vs → vs = (l.map (·.1)).zip (vs.map (·.2)) ∧ RDs K g (l.map (·.2)) (vs.map (·.2))
  | [], vs, h => by rw [RPs] at h; subst h; exact ⟨rfl, RDs.nil⟩
  | (k, d) :: l, vs, h => by
    rw [RPs] at h
    obtain ⟨v, r, rfl, h2, h3⟩ := h
    obtain ⟨e, q⟩ := RPs.split h3
    refine ⟨?_, RDs.cons h2 q⟩
    show (k, v) :: r = (k, v) :: (l.map (·.1)).zip (r.map (·.2))
    rw [← e]
theorem RPs.lk : ∀ {l : List (Str × D)} {vs : List (Str × V)} {f : Str}, RPs K g l vs → (∀ d, l.lookup f = some d → ∃ v, vs.lookup f = some v ∧ RD K g d v) ∧ (l.lookup f = none → vs.lookup f = none)
  | [], vs, f, h => by rw [RPs] at h; subst h; exact ⟨fun d z => by simp at z, fun _ => rfl⟩
  | (k, d) :: l, vs, f, h => by
    rw [RPs] at h
    obtain ⟨v, r, rfl, h2, h3⟩ := h
    rw [List.lookup_cons, List.lookup_cons]
    cases e : f == k with
    | true => exact ⟨fun d' z => by cases z; exact ⟨v, rfl, h2⟩, fun z => by cases z⟩
    | false => exact RPs.lk h3
theorem insD_at (rp : Rep K g) {C : Addr} {d : D} {fs : List (Str × D)} (h : insD C g.S d = some fs) {v : V} (r : RD K g d v) : ∃ a dx vs, v = .ref a ∧ g.H a = some (.ins C dx vs) ∧ RPs K g fs vs := by
  cases d with
  | fz E ns l =>
    unfold insD at h
    dsimp only at h
    by_cases e : E = C
    · rw [if_pos e] at h
      cases h
      subst e
      rw [RD] at r
      obtain ⟨a, dx, vs, rfl, h0, h1, h2⟩ := r
      exact ⟨a, dx, _, rfl, h1.1, rps_zip h0 h2⟩
    · rw [if_neg e] at h; cases h
  | ref n =>
    unfold insD at h
    dsimp only at h
    split at h
    · rename_i E fs' q
      by_cases e : E = C
      · rw [if_pos e] at h
        cases h
        subst e
        rw [RD] at r
        obtain ⟨dx, vs, h1, h2⟩ := rp.obj n _ q
        exact ⟨_, dx, vs, r.2, h1, h2⟩
      · rw [if_neg e] at h; cases h
    · cases h
  | _ => cases h
end
/-- e.f -/
def mFld (C : Addr) (f : Str) (m : ME) : ME := fun e S => (m e S).bind fun d S1 => R.ofO S1 ((insD C S1 d).bind fun fs => fs.lookup f)
def putD (f : Str) (v : D) : List (Str × D) → List (Str × D)
  | [] => [(f, v)]
  | (g, x) :: r => if g = f then (g, v) :: r else (g, x) :: putD f v r
/-- o.f = v -/
def sFldS (C : Addr) (f : Str) (mv mo : ME) : MS := fun e S => (mv e S).st e fun y S1 => (mo e S1).st e fun d S2 => match d with
  | .ref n => match S2[n]? with
    | some (.ins E fs) => if E = C ∧ fs.length < 1000 then .nx e (S2.set n (.ins C (putD f y fs))) else .bad
    | _ => .bad
  | _ => .bad
section
variable {K : PySem.W.Frag} {W : WX'} {σ : L2.St} {H : Hp} {Q : VK} {C : Addr} {f : Str} {m : ME}
theorem i_fld (c : Cls K C) (n : NoAttr K C f) (h : tE K W (mFld C f m) σ H Q) : tFld K (tE K W m) f σ H Q := by
  obtain ⟨g, e, rfl, rp, re, p⟩ := h
  refine ⟨g, e, rfl, rp, re, (Post.bind p).imp fun d g1 e1 r1 ⟨_, _, p1⟩ v rv => ?_⟩
  cases q : insD C g1.S d with
  | none => rw [q] at p1; exact False.elim p1
  | some fs =>
    rw [q] at p1
    obtain ⟨a, dx, vs, rfl, h1, h2⟩ := insD_at r1 q rv
    cases l : fs.lookup f with
    | none => rw [Option.bind_some, l] at p1; exact False.elim p1
    | some y =>
      rw [Option.bind_some, l] at p1
      obtain ⟨u, k1, k2⟩ := (h2.lk (f := f)).1 y l
      exact ⟨a, C, dx, vs, u, rfl, h1, c, n, k1, Post.here r1 p1 u k2⟩
theorem RPs.putF {g : G} {y : D} {v : V} (r : RD K g y v) : ∀ {l : List (Str × D)} {vs : List (Str × V)}, RPs K g l vs → RPs K g (putD f y l) (L2.putF f v vs)
  | [], vs, h => by
    rw [RPs] at h; subst h
    show RPs K g [(f, y)] [(f, v)]
    rw [RPs]
    exact ⟨v, [], rfl, r, by rw [RPs]⟩
  | (k, d) :: l, vs, h => by
    rw [RPs] at h
    obtain ⟨w, u, rfl, h2, h3⟩ := h
    show RPs K g (if k = f then (k, y) :: l else (k, d) :: putD f y l) (if k = f then (k, v) :: u else (k, w) :: L2.putF f v u)
    by_cases e : k = f
    · rw [if_pos e, if_pos e, RPs]; exact ⟨v, u, rfl, r, h3⟩
    · rw [if_neg e, if_neg e, RPs]; exact ⟨w, _, rfl, h2, RPs.putF r h3⟩
theorem RPs.len {g : G} : ∀ {l : List (Str × D)} {vs : List (Str × V)}, RPs K g l vs → l.length = vs.length
  | [], vs, h => by rw [RPs] at h; subst h; rfl
  | (k, d) :: l, vs, h => by
    rw [RPs] at h
    obtain ⟨w, u, rfl, h2, h3⟩ := h
    rw [List.length_cons, List.length_cons, RPs.len h3]
theorem i_fldS {mv mo : ME} {D : Ends} (c : Cls K C) (n : NoAttr K C f) (h : tS K W (sFldS C f mv mo) D σ H) : sFld K (tE K W mo) (tE K W mv) f D σ H := by
  obtain ⟨g, e, rfl, rp, re, p⟩ := h
  refine ⟨g, e, rfl, rp, re, (PostS.of_st re p).imp fun y g1 e1 r1 ⟨_, _, p1⟩ v rv => ?_⟩
  refine ⟨g1, e, rfl, r1, re.mono e1, (PostS.of_st (re.mono e1) p1).imp fun d g2 e2 r2 ⟨_, _, p2⟩ u ru => ?_⟩
  cases d with
  | ref k =>
    dsimp only at p2
    split at p2
    · rename_i E fs hk
      by_cases hc : E = C ∧ fs.length < 1000
      · rw [if_pos hc] at p2
        obtain ⟨rfl, hl⟩ := hc
        rw [RD] at ru
        obtain ⟨dx, vs, h1, h2⟩ := r2.obj k _ hk
        have x1 : Ext g2 (g2.put k (.ins E (putD f y fs)) (.ins E dx (L2.putF f v vs))) := Ext.put hk rfl
        have x2 : Rep K (g2.put k (.ins E (putD f y fs)) (.ins E dx (L2.putF f v vs))) := r2.put hk rfl ⟨dx, _, upd_same, ((h2.putF (rv.mono e2))).mono x1⟩
        exact ⟨g2.ρ k, E, dx, vs, ru.2, h1, c, n, by rw [← h2.len]; exact hl, p2 _ σ x1 rfl x2 (((re.mono e1).mono e2).mono x1)⟩
      · rw [if_neg hc] at p2; exact False.elim p2
    · exact False.elim p2
  | _ => exact False.elim p2
end
section
variable {X : Cx} {W : WX'} {o e : Expr} {f : Str} {pos pos' : Pos} {m mv mo : ME} {C : Addr}
theorem pm_fld (c : Cls X.K C) (n : NoAttr X.K C f) (he : PE X e (tE X.K W m)) (hb : attributeBase e f X.env (eval e X.env) = eval e X.env := by rfl) : PE X (.Attribute e f pos) (tE X.K W (mFld C f m)) := PE.imp (pe_fld he hb) fun _ _ _ => i_fld c n
theorem sm_fld (c : Cls X.K C) (n : NoAttr X.K C f) (hv : PE X e (tE X.K W mv)) (ho : PE X o (tE X.K W mo)) (hs : swapsWith e (some (.Attribute o f pos')) pos.line X.env = pure false := by rfl) : PS X (.Assign [.Attribute o f pos'] e pos) (tS X.K W (sFldS C f mv mo)) := PS.imp (ps_fld ho hv hs) fun _ _ _ => i_fldS c n
end

/-! ### a new instance -/
def mMake (C : Addr) (init : List D → List O → R D) (m : MA) : ME := fun e S => (m e S).bind fun l S1 => (init (.ref S1.length :: l) (S1 ++ [.ins C []])).bind fun d S2 => if d = .non then .ok (.ref S1.length) S2 else .bad
/-- .. that is changed no more -/
def mMakeF (C : Addr) (init : List D → List O → R D) (m : MA) : ME := fun e S => (m e S).bind fun l S1 => (init (.ref S1.length :: l) (S1 ++ [.ins C []])).bind fun d S2 => if d = .non then (match S2[S1.length]? with
  | some (.ins E fs) => if E = C then .ok (.fz C (fs.map (·.1)) (fs.map (·.2))) (S2.set S1.length .gone) else .bad
  | _ => .bad) else .bad
def tMakeG (C : Addr) (sp : Sp) (W : WX') (t : TA) : TE := fun σ H Q => t σ H fun vs H1 => ∀ x dx, H1 x = none → H1 dx = none → dx ≠ x → sp (.ref x :: vs) (upd (upd H1 dx (.own x)) x (.ins C dx [])) (fun v H2 => v = .non ∧ Q (.ref x) H2) fun cls d H' => W cls d σ H'
section
variable {K : PySem.W.Frag} {g : G} {x dx C : Addr}
/-- the ground with a new instance -/
abbrev G.inst (g : G) (x dx C : Addr) : G := G.add { g with H := upd g.H dx (.own x) } x (.ins C []) (.ins C dx [])
theorem inst_ok (rp : Rep K g) (h1 : g.H x = none) (h2 : g.H dx = none) (ne : dx ≠ x) : Ext g (g.inst x dx C) ∧ Rep K (g.inst x dx C) ∧ RD K (g.inst x dx C) (.ref g.S.length) (.ref x) := by
  have a1 := Ext.newv (u := .own x) h2
  have a2 := rp.newv (u := .own x) h2
  have hx : (upd g.H dx (.own x)) x = none := (upd_ne (Ne.symm ne)).trans h1
  refine ⟨a1.trans (Ext.add a2 hx), a2.add hx ⟨dx, [], upd_same, by rw [RPs]⟩, ?_⟩
  rw [RD]
  exact ⟨by simp, by simp⟩
theorem inst_at {g' : G} (e : Ext (g.inst x dx C) g') : g.S.length < g'.S.length ∧ g'.ρ g.S.length = x := by
  have hl : g.S.length < (g.inst x dx C).S.length := by show g.S.length < (g.S ++ [_]).length; simp
  refine ⟨Nat.lt_of_lt_of_le hl e.len, (e.ag _ hl).trans ?_⟩
  show (if g.S.length = g.S.length then x else g.ρ g.S.length) = x
  rw [if_pos rfl]
/-- an own instance is given away -/
theorem froz_ok {g' : G} (rp : Rep K g) (h1 : g.H x = none) (e : Ext (g.inst x dx C) g') (r' : Rep K g') {fs : List (Str × D)} (hs : g'.S[g.S.length]? = some (.ins C fs)) :
    Ext g' { g' with S := g'.S.set g.S.length .gone } ∧ Rep K { g' with S := g'.S.set g.S.length .gone } ∧ RD K { g' with S := g'.S.set g.S.length .gone } (.fz C (fs.map (·.1)) (fs.map (·.2))) (.ref x) := by
  have f1 := Ext.freeze hs
  have f2 := r'.freeze hs
  obtain ⟨hl, hρ⟩ := inst_at e
  obtain ⟨dx', vs, k1, k2⟩ := r'.obj _ _ hs
  rw [hρ] at k1
  obtain ⟨s1, s2⟩ := k2.split
  refine ⟨f1, f2, ?_⟩
  rw [RD]
  refine ⟨x, dx', vs.map (·.2), rfl, by rw [List.length_map, List.length_map], ⟨by rw [← s1]; exact k1, fun z => ?_, fun z => ?_⟩, s2.mono f1⟩
  · have z : g'.N x := z
    rw [e.n] at z
    exact (rp.fresh h1).1 z
  · obtain ⟨j, y, q1, q2, q3⟩ := z
    have q1 : (g'.S.set g.S.length .gone)[j]? = some y := q1
    by_cases hj : g.S.length = j
    · subst hj
      rw [List.getElem?_set_self hl] at q1
      cases q1; cases q2
    · rw [List.getElem?_set_ne hj] at q1
      exact hj (r'.inj _ _ _ _ hs (by intro z; cases z) q1 (O.act_ne q2) (hρ.trans q3.symm))
end
section
variable {K : PySem.W.Frag} {W : WX'} {σ : L2.St} {H : Hp} {Q : VK} {C : Addr} {m : MA} {np nn : Nat} {b : MS}
theorem i_makeN (h : tE K W (mMake C (nbF (fnM np nn b)) m) σ H Q) : tMakeG C (fun vs H Q _ => spM K np (fnM np nn b) vs H Q E0) W (tA K W m) σ H Q := by
  obtain ⟨g, e, hH, rp, re, p⟩ := h
  subst hH
  refine ⟨g, e, rfl, rp, re, (Post.bind p).imp fun l g1 e1 r1 ⟨_, _, p1⟩ vs rv x dx hx hd ne => ?_⟩
  obtain ⟨a1, a2, a3⟩ := inst_ok (C := C) r1 hx hd ne
  have p2 := Post.mono a1 p1
  refine ⟨?_, g1.inst x dx C, _, rfl, a2, RDs.cons a3 (rv.mono a1), ?_⟩
  · rw [List.length_cons, ← rv.length]
    have := fnM_len (np := np) (n := nn) (b := b) (ds := .ref g1.S.length :: l) (S := g1.S ++ [.ins C []]) fun z => by rw [nbF, z] at p2; exact p2
    simpa using this
  · show Post K (ofX _) (g1.inst x dx C) (fnM np nn b (.ref g1.S.length :: l) (g1.S ++ [.ins C []])) [] _
    cases q : fnM np nn b (.ref g1.S.length :: l) (g1.S ++ [.ins C []]) with
    | ok d S2 =>
      rw [nbF, q] at p2
      have p2 : Post K W (g1.inst x dx C) (if d = .non then .ok (.ref g1.S.length) S2 else .bad) σ fun d g' => ∀ v, RD K g' d v → Q v g'.H := p2
      by_cases hn : d = .non
      · rw [if_pos hn] at p2
        subst hn
        intro g' y s r' v rd
        rw [RD] at rd
        obtain ⟨k1, k2⟩ := inst_at y
        exact ⟨rd, p2 g' y s r' (.ref x) (by rw [RD]; exact ⟨k1, by rw [k2]⟩)⟩
      · rw [if_neg hn] at p2; exact False.elim p2
    | er xx S2 => rw [nbF, q] at p2; exact False.elim p2
    | bad => rw [nbF, q] at p2; exact False.elim p2
theorem i_makeFN (h : tE K W (mMakeF C (nbF (fnM np nn b)) m) σ H Q) : tMakeG C (fun vs H Q _ => spM K np (fnM np nn b) vs H Q E0) W (tA K W m) σ H Q := by
  obtain ⟨g, e, hH, rp, re, p⟩ := h
  subst hH
  refine ⟨g, e, rfl, rp, re, (Post.bind p).imp fun l g1 e1 r1 ⟨_, _, p1⟩ vs rv x dx hx hd ne => ?_⟩
  obtain ⟨a1, a2, a3⟩ := inst_ok (C := C) r1 hx hd ne
  have p2 := Post.mono a1 p1
  refine ⟨?_, g1.inst x dx C, _, rfl, a2, RDs.cons a3 (rv.mono a1), ?_⟩
  · rw [List.length_cons, ← rv.length]
    have := fnM_len (np := np) (n := nn) (b := b) (ds := .ref g1.S.length :: l) (S := g1.S ++ [.ins C []]) fun z => by rw [nbF, z] at p2; exact p2
    simpa using this
  · show Post K (ofX _) (g1.inst x dx C) (fnM np nn b (.ref g1.S.length :: l) (g1.S ++ [.ins C []])) [] _
    cases q : fnM np nn b (.ref g1.S.length :: l) (g1.S ++ [.ins C []]) with
    | ok d S2 =>
      rw [nbF, q] at p2
      have p3 : Post K W (g1.inst x dx C) (if d = .non then (match S2[g1.S.length]? with
        | some (.ins E fs) => if E = C then .ok (.fz C (fs.map (·.1)) (fs.map (·.2))) (S2.set g1.S.length .gone) else .bad
        | _ => .bad) else .bad) σ fun d g' => ∀ v, RD K g' d v → Q v g'.H := p2
      by_cases hn : d = .non
      · rw [if_pos hn] at p3
        clear p2
        subst hn
        split at p3
        · rename_i E fs hs
          by_cases hc : E = C
          · rw [if_pos hc] at p3
            subst hc
            intro g' y s r' v rd
            rw [RD] at rd
            subst s
            obtain ⟨f1, f2, f3⟩ := froz_ok r1 hx y r' hs
            exact ⟨rd, p3 _ (y.trans f1) rfl f2 (.ref x) f3⟩
          · rw [if_neg hc] at p3; exact False.elim p3
        · exact False.elim p3
      · rw [if_neg hn] at p3; exact False.elim p3
    | er xx S2 => rw [nbF, q] at p2; exact False.elim p2
    | bad => rw [nbF, q] at p2; exact False.elim p2
end
section
variable {X : Cx} {CX : CXT} {k : Nat} {f C : Addr} {fd : FuncData} {ps : List Str} {sp : Sp} {W : WX'} {x : Str} {p pos : Pos} {e : Expr} {es : List Expr} {t : TA} {m : MA}
theorem run_makeG {pins : List (Addr × Obj)} {σ : L2.St} {H : Hp} {s : Shared} {Q : VK} {us : List Value} {vs : List V} (M : Mk X.K C f) (F : FnG X.prog X.w X.K X.mg X.base CX k f fd ps sp) (hr : RoomG (k + 1) X.A) (hb : Binds X.K fd ps [])
    (hx : PassG CX X W) (I : L2.Inv X pins σ H s) (r : Vals vs us)
    (h : ∀ x dx, H x = none → H dx = none → dx ≠ x → sp (.ref x :: vs) (upd (upd H dx (.own x)) x (.ins C dx [])) (fun v H2 => v = .non ∧ Q (.ref x) H2) fun cls d H' => W cls d σ H') :
    wpAny (model X.prog X.w) X.A (call (.ref C) us) (EP X pins σ Q) X.xe s := by
  have hq := h (s.heap.objs.size + 1) s.heap.objs.size (I.hok.fresh (Nat.le_succ _)) (I.hok.fresh (Nat.le_refl _)) (Nat.ne_of_lt (Nat.lt_succ_self _))
  have I2 := Inv.made (C := C) I
  have r2 : Vals (V.ref (s.heap.objs.size + 1) :: vs) (Value.ref (s.heap.objs.size + 1) :: us) := .cons rfl r
  have hl : (Value.ref (s.heap.objs.size + 1) :: us).length = ps.length := by
    have e := r2.length
    rw [F.len _ _ _ _ hq] at e
    exact e.symm
  refine wpAny_call (make_map (f := f) I.kIn M.makes M.init (beq_iff_eq.mp M.fn) (codeAny_mono (F.run _ X.stack _ _ ⟨Value.ref (s.heap.objs.size + 1) :: us, []⟩ (Value.ref (s.heap.objs.size + 1) :: us) _ _ _ (hr.make C us [])
    (I2.env0.make C us []) (by have := hb _ (Value.ref (s.heap.objs.size + 1) :: us) I2.kIn (by simpa using hl); simpa using this) r2 hq) fun r s' hq' => ?_))
  cases r with
  | error e => exact hx pins σ _ _ e s' I2 hq'
  | ok fl =>
    cases fl with
    | ret u =>
      obtain ⟨v, H', I3, rv, ev, q3⟩ := I2.after hq'
      subst ev
      exact ⟨rv, ⟨V.ref (s.heap.objs.size + 1), H', I3, rfl, q3⟩⟩
    | next => exact False.elim hq'
    | brk => exact False.elim hq'
    | cont => exact False.elim hq'
theorem pe_makeG (M : Mk X.K C f) (F : FnG X.prog X.w X.K X.mg X.base CX k f fd ps sp) (hr : RoomG (k + 1) X.A) (hg : Gl X x) (hm : X.mg x = some (.ref C)) (hb : Binds X.K fd ps []) (hx : PassG CX X W)
    (ha : PA X (e :: es) t) (hdb : (x == ("__debug__" : Str)) = false := by decide) (he : starEach (e :: es) X.env = (false, eval e X.env) :: starEach es X.env := by rfl) (hpl : (backTo pos (starEach es X.env)).any (·.1) = false := by rfl) :
    PE X (.Call (.Name x p) (e :: es) [] pos) (tMakeG C sp W t) := by
  refine ⟨fun pins s σ H Q I h => ?_⟩
  refine wpAny_Call_Name_kw (ld_glob I hg hm ?_ hdb)
  refine PySem.W.callWith_K (h₀ := X.base) I.ok.mod.kin M.kp (thn (ha.run pos pins s σ H _ I h) fun us s1 ⟨vs, H1, I1, r, q⟩ => ⟨I1.kIn, ?_⟩) he hpl
  exact run_makeG M F hr hb hx I1 r q
theorem pe_makeG0 (M : Mk X.K C f) (F : FnG X.prog X.w X.K X.mg X.base CX k f fd ps sp) (hr : RoomG (k + 1) X.A) (hg : Gl X x) (hm : X.mg x = some (.ref C)) (hb : Binds X.K fd ps []) (hx : PassG CX X W)
    (hdb : (x == ("__debug__" : Str)) = false := by decide) : PE X (.Call (.Name x p) [] [] pos) (tMakeG C sp W tNil) := by
  refine ⟨fun pins s σ H Q I h => ?_⟩
  refine wpAny_Call_Name_kw (ld_glob I hg hm ?_ hdb)
  exact PySem.W.callWith_K0 I.kIn M.kp (run_makeG (us := []) M F hr hb hx I .nil h)
variable {np nn : Nat} {b : MS}
theorem pm_make (M : Mk X.K C f) (F : FnG X.prog X.w X.K X.mg X.base CX0 k f fd ps fun vs H Q _ => spM X.K np (fnM np nn b) vs H Q E0) (hr : RoomG (k + 1) X.A) (hg : Gl X x) (hm : X.mg x = some (.ref C)) (hb : Binds X.K fd ps [])
    (ha : PA X (e :: es) (tA X.K W m)) (hdb : (x == ("__debug__" : Str)) = false := by decide) (he : starEach (e :: es) X.env = (false, eval e X.env) :: starEach es X.env := by rfl) (hpl : (backTo pos (starEach es X.env)).any (·.1) = false := by rfl) :
    PE X (.Call (.Name x p) (e :: es) [] pos) (tE X.K W (mMake C (nbF (fnM np nn b)) m)) := PE.imp (pe_makeG M F hr hg hm hb passG0 ha hdb he hpl) fun _ _ _ => i_makeN
theorem pm_makeF (M : Mk X.K C f) (F : FnG X.prog X.w X.K X.mg X.base CX0 k f fd ps fun vs H Q _ => spM X.K np (fnM np nn b) vs H Q E0) (hr : RoomG (k + 1) X.A) (hg : Gl X x) (hm : X.mg x = some (.ref C)) (hb : Binds X.K fd ps [])
    (ha : PA X (e :: es) (tA X.K W m)) (hdb : (x == ("__debug__" : Str)) = false := by decide) (he : starEach (e :: es) X.env = (false, eval e X.env) :: starEach es X.env := by rfl) (hpl : (backTo pos (starEach es X.env)).any (·.1) = false := by rfl) :
    PE X (.Call (.Name x p) (e :: es) [] pos) (tE X.K W (mMakeF C (nbF (fnM np nn b)) m)) := PE.imp (pe_makeG M F hr hg hm hb passG0 ha hdb he hpl) fun _ _ _ => i_makeFN
theorem i_nilA {σ : L2.St} {H : Hp} {Q : List V → Hp → Prop} (h : tA X.K W mNil σ H Q) : tNil σ H Q := i_nil h
theorem pm_make0 (M : Mk X.K C f) (F : FnG X.prog X.w X.K X.mg X.base CX0 k f fd ps fun vs H Q _ => spM X.K np (fnM np nn b) vs H Q E0) (hr : RoomG (k + 1) X.A) (hg : Gl X x) (hm : X.mg x = some (.ref C)) (hb : Binds X.K fd ps [])
    (hdb : (x == ("__debug__" : Str)) = false := by decide) : PE X (.Call (.Name x p) [] [] pos) (tE X.K W (mMake C (nbF (fnM np nn b)) mNil)) := PE.imp (pe_makeG0 (W := W) M F hr hg hm hb passG0 hdb) fun _ _ _ h => i_nil (i_makeN h)
theorem pm_makeF0 (M : Mk X.K C f) (F : FnG X.prog X.w X.K X.mg X.base CX0 k f fd ps fun vs H Q _ => spM X.K np (fnM np nn b) vs H Q E0) (hr : RoomG (k + 1) X.A) (hg : Gl X x) (hm : X.mg x = some (.ref C)) (hb : Binds X.K fd ps [])
    (hdb : (x == ("__debug__" : Str)) = false := by decide) : PE X (.Call (.Name x p) [] [] pos) (tE X.K W (mMakeF C (nbF (fnM np nn b)) mNil)) := PE.imp (pe_makeG0 (W := W) M F hr hg hm hb passG0 hdb) fun _ _ _ h => i_nil (i_makeFN h)
end

/-! ### methods, properties -/
/-- o.m(..) -/
def mMeth (C : Addr) (mn : Str) (f : List D → List O → R D) (mo : ME) (m : MA) : ME := fun e S => (mo e S).bind fun d S1 => if ((insD C S1 d).any fun fs => (fs.lookup mn).isNone) = true then (m e S1).bind fun l S2 => f (d :: l) S2 else .bad
/-- o.f, a property -/
def mProp (C : Addr) (f : List D → List O → R D) (mo : ME) : ME := fun e S => (mo e S).bind fun d S1 => if (insD C S1 d).isSome = true then f [d] S1 else .bad
def tMethG (C : Addr) (m : Str) (sp : Sp) (W : WX') (ta : TE) (t : TA) : TE := fun σ H Q => ta σ H fun x H1 => ∃ a dx fs, x = .ref a ∧ H1 a = some (.ins C dx fs) ∧ fs.lookup m = none ∧ t σ H1 fun vs H2 => sp (x :: vs) H2 Q fun cls d H' => W cls d σ H'
def tPropG (C : Addr) (sp : Sp) (ta : TE) : TE := fun σ H Q => ta σ H fun x H1 => ∃ a dx fs, x = .ref a ∧ H1 a = some (.ins C dx fs) ∧ sp [.ref a] H1 Q E0
section
variable {K : PySem.W.Frag} {W : WX'} {σ : L2.St} {H : Hp} {Q : VK} {C : Addr} {m : MA} {mo : ME} {mn : Str} {np nn : Nat} {b : MS}
theorem i_methN (h : tE K W (mMeth C mn (nbF (fnM np nn b)) mo m) σ H Q) : tMethG C mn (fun vs H Q _ => spM K np (fnM np nn b) vs H Q E0) W (tE K W mo) (tA K W m) σ H Q := by
  obtain ⟨g, e, hH, rp, re, p⟩ := h
  subst hH
  refine ⟨g, e, rfl, rp, re, (Post.bind p).imp fun d g1 e1 r1 ⟨_, _, p1⟩ v rv => ?_⟩
  cases q : insD C g1.S d with
  | none => rw [q] at p1; exact False.elim p1
  | some fs =>
    rw [q] at p1
    obtain ⟨a, dx, vs, rfl, h1, h2⟩ := insD_at r1 q rv
    by_cases hn : (fs.lookup mn).isNone = true
    · rw [Option.any_some, if_pos hn] at p1
      refine ⟨a, dx, vs, rfl, h1, (h2.lk (f := mn)).2 (by simpa using hn), g1, e, rfl, r1, re.mono e1, (Post.bind p1).imp fun l g2 e2 r2 ⟨_, _, p2⟩ ws rw' => ?_⟩
      refine ⟨?_, g2, d :: l, rfl, r2, RDs.cons (rv.mono e2) rw', nb_post p2⟩
      rw [List.length_cons, ← rw'.length]
      have := fnM_len (np := np) (n := nn) (b := b) (ds := d :: l) (S := g2.S) fun z => by rw [nbF, z] at p2; exact p2
      simpa using this
    · rw [Option.any_some, if_neg hn] at p1; exact False.elim p1
theorem i_propN (h : tE K W (mProp C (nbF (fnM np nn b)) mo) σ H Q) : tPropG C (fun vs H Q _ => spM K np (fnM np nn b) vs H Q E0) (tE K W mo) σ H Q := by
  obtain ⟨g, e, hH, rp, re, p⟩ := h
  subst hH
  refine ⟨g, e, rfl, rp, re, (Post.bind p).imp fun d g1 e1 r1 ⟨_, _, p1⟩ v rv => ?_⟩
  cases q : insD C g1.S d with
  | none => rw [q] at p1; exact False.elim p1
  | some fs =>
    rw [q] at p1
    obtain ⟨a, dx, vs, rfl, h1, h2⟩ := insD_at r1 q rv
    have p1 : Post K W g1 (nbF (fnM np nn b) [d] g1.S) σ fun d g' => ∀ v, RD K g' d v → Q v g'.H := p1
    refine ⟨a, dx, vs, rfl, h1, ?_, g1, [d], rfl, r1, RDs.cons rv RDs.nil, nb_post p1⟩
    have := fnM_len (np := np) (n := nn) (b := b) (ds := [d]) (S := g1.S) fun z => by rw [nbF, z] at p1; exact p1
    simpa using this
end
section
variable {X : Cx} {CX : CXT} {k : Nat} {f C pr : Addr} {fd : FuncData} {ps : List Str} {sp : Sp} {W : WX'} {x mn : Str} {p pos apos : Pos} {o e : Expr} {es : List Expr} {ta : TE} {t : TA} {m : MA} {mo : ME}
theorem pe_methG {pl : Sem Bool} (he : PE X o ta) (c : Cls X.K C) (hm : Meth X.K C mn f) (F : FnG X.prog X.w X.K X.mg X.base CX k f fd ps sp) (hr : RoomG k X.A) (hb : Binds X.K fd ps []) (hx : PassG CX X W) (ha : PA X (e :: es) t)
    (hst : starEach (e :: es) X.env = (false, eval e X.env) :: starEach es X.env := by rfl) (hpl : (backTo pos (starEach es X.env)).any (·.1) = false := by rfl)
    (ht : eval (.Call (.Attribute o mn apos) (e :: es) [] pos) X.env = (do
      let ov ← eval o X.env
      standAt apos.atName
      let (f, first) ← holding [ov] (getMethod ov mn pl)
      callWith pos f first (backTo pos (starEach (e :: es) X.env)) (backToKw pos (keywordEach [] X.env))) := by rfl) :
    PE X (.Call (.Attribute o mn apos) (e :: es) [] pos) (tMethG C mn sp W ta t) := by
  refine ⟨fun pins s σ H Q I h => ?_⟩
  refine PySem.W.methodCall_KW (pl := pl) (thn (he.run pins s σ H _ I h) fun u s1 ⟨x, H1, I1, rx, a, dx, fs, ex, ea, l, q⟩ => ?_) ht
  subst ex
  obtain rfl : u = Value.ref a := rx
  refine getmeth_ok I1 ea c hm l ?_
  refine PySem.W.callWith_K (first := [.ref a]) (h₀ := X.base) I.ok.mod.kin hm.kp (thn (ha.run pos pins s1 σ H1 _ I1 q) fun us s2 ⟨vs, H2, I2, r, q2⟩ => ⟨I2.kIn, ?_⟩) hst hpl
  refine wpAny_call (codeAny_mono (run_g F hr (us := .ref a :: us) (vs := .ref a :: vs) (fun hl => by have := hb s2 (.ref a :: us) I2.kIn (by simpa using hl); simpa using this) (fun e s' hc => hx pins σ H2 s2 e s' I2 hc) I2 (.cons rfl r) q2) fun r s' hq => ?_)
  cases r with
  | error e => exact hq
  | ok fl => cases fl <;> exact hq
theorem pe_methG0 {pl : Sem Bool} (he : PE X o ta) (c : Cls X.K C) (hm : Meth X.K C mn f) (F : FnG X.prog X.w X.K X.mg X.base CX k f fd ps sp) (hr : RoomG k X.A) (hb : Binds X.K fd ps []) (hx : PassG CX X W)
    (ht : eval (.Call (.Attribute o mn apos) [] [] pos) X.env = (do
      let ov ← eval o X.env
      standAt apos.atName
      let (f, first) ← holding [ov] (getMethod ov mn pl)
      callWith pos f first (backTo pos (starEach [] X.env)) (backToKw pos (keywordEach [] X.env))) := by rfl) :
    PE X (.Call (.Attribute o mn apos) [] [] pos) (tMethG C mn sp W ta tNil) := by
  refine ⟨fun pins s σ H Q I h => ?_⟩
  refine PySem.W.methodCall_KW (pl := pl) (thn (he.run pins s σ H _ I h) fun u s1 ⟨x, H1, I1, rx, a, dx, fs, ex, ea, l, q⟩ => ?_) ht
  subst ex
  obtain rfl : u = Value.ref a := rx
  refine getmeth_ok I1 ea c hm l ?_
  refine PySem.W.callWith_K0 (first := [.ref a]) I1.kIn hm.kp (wpAny_call (codeAny_mono (run_g F hr (us := [.ref a]) (vs := [.ref a]) (fun hl => by have := hb s1 [.ref a] I1.kIn (by simpa using hl); simpa using this) (fun e s' hc => hx pins σ H1 s1 e s' I1 hc) I1 (.cons rfl .nil) q) fun r s' hq => ?_))
  cases r with
  | error e => exact hq
  | ok fl => cases fl <;> exact hq
/-- e.f, a property whose getter raises nothing -/
theorem pe_propG (he : PE X e ta) (c : Cls X.K C) (hp : PropOf X.K C mn pr f) (F : FnG X.prog X.w X.K X.mg X.base CX0 k f fd ps sp) (hr : RoomG (k + 1) X.A) (hb : Binds X.K fd ps []) (hsp : ∀ vs H Q E E', sp vs H Q E → sp vs H Q E')
    (hab : attributeBase e mn X.env (eval e X.env) = eval e X.env := by rfl) : PE X (.Attribute e mn pos) (tPropG C sp ta) := by
  refine ⟨fun pins s σ H Q I h => ?_⟩
  refine attr_of hab (thn (he.run pins s σ H _ I h) fun u s1 ⟨x, H1, I1, rx, a, dx, fs, ex, ea, q⟩ => ?_)
  subst ex
  obtain rfl : u = Value.ref a := rx
  obtain ⟨mA, O, _, _, _, _⟩ := ins_get I1.hok ea
  obtain ⟨od, J, _⟩ := O.look
  obtain ⟨rest, hrec⟩ := hp.rec_
  have I2 := I1.tok (s1.toks + 1)
  have hl : ([Value.ref a] : List Value).length = ps.length := by
    have := F.len _ _ _ _ q
    simpa using this
  have hc : (PySem.W.clsIn X.K C).isSome = true := by
    obtain ⟨cd, hc, _⟩ := PySem.W.any_some c.hd
    rw [hc]
    rfl
  refine PySem.W.get_bind I1.kIn J (PySem.W.plainGet_of (c.get mn)).1 (PySem.W.findObj_data hc hp.at_ hp.get hp.tak) (PySem.W.plainGet_of (c.get mn)).2 (wpAny_call (PySem.W.prop_get (s := { s1 with toks := s1.toks + 1 }) I1.kIn hrec ?_))
  refine codeAny_mono (F.run X.A.in1 X.stack { s1 with toks := s1.toks + 1 } H1 ⟨[.ref a], []⟩ [.ref a] [.ref a] Q E0 hr.in1 I2.env0.in1 (by have := hb { s1 with toks := s1.toks + 1 } [.ref a] I2.kIn (by simpa using hl); simpa using this) (.cons rfl .nil) (hsp _ _ _ _ _ q)) fun r s' hq => ?_
  cases r with
  | error er => exact False.elim hq
  | ok fl =>
    cases fl with
    | ret u =>
      obtain ⟨v, H', I3, rv, q3⟩ := I2.after hq
      show wpAny _ _ (handedOut u) _ _ _
      rw [PySem.W.handedOut_of (handed_of rv)]
      exact wpAny_pure ⟨v, H', I3, rv, q3⟩
    | next => exact False.elim hq
    | brk => exact False.elim hq
    | cont => exact False.elim hq
variable {np nn : Nat} {b : MS}
theorem pm_meth {pl : Sem Bool} (c : Cls X.K C) (hm : Meth X.K C mn f) (F : FnG X.prog X.w X.K X.mg X.base CX0 k f fd ps fun vs H Q _ => spM X.K np (fnM np nn b) vs H Q E0) (hr : RoomG k X.A) (hb : Binds X.K fd ps []) (he : PE X o (tE X.K W mo)) (ha : PA X (e :: es) (tA X.K W m))
    (hst : starEach (e :: es) X.env = (false, eval e X.env) :: starEach es X.env := by rfl) (hpl : (backTo pos (starEach es X.env)).any (·.1) = false := by rfl)
    (ht : eval (.Call (.Attribute o mn apos) (e :: es) [] pos) X.env = (do
      let ov ← eval o X.env
      standAt apos.atName
      let (f, first) ← holding [ov] (getMethod ov mn pl)
      callWith pos f first (backTo pos (starEach (e :: es) X.env)) (backToKw pos (keywordEach [] X.env))) := by rfl) :
    PE X (.Call (.Attribute o mn apos) (e :: es) [] pos) (tE X.K W (mMeth C mn (nbF (fnM np nn b)) mo m)) := PE.imp (pe_methG (pl := pl) he c hm F hr hb passG0 ha hst hpl ht) fun _ _ _ => i_methN
theorem pm_meth0 {pl : Sem Bool} (c : Cls X.K C) (hm : Meth X.K C mn f) (F : FnG X.prog X.w X.K X.mg X.base CX0 k f fd ps fun vs H Q _ => spM X.K np (fnM np nn b) vs H Q E0) (hr : RoomG k X.A) (hb : Binds X.K fd ps []) (he : PE X o (tE X.K W mo))
    (ht : eval (.Call (.Attribute o mn apos) [] [] pos) X.env = (do
      let ov ← eval o X.env
      standAt apos.atName
      let (f, first) ← holding [ov] (getMethod ov mn pl)
      callWith pos f first (backTo pos (starEach [] X.env)) (backToKw pos (keywordEach [] X.env))) := by rfl) :
    PE X (.Call (.Attribute o mn apos) [] [] pos) (tE X.K W (mMeth C mn (nbF (fnM np nn b)) mo mNil)) := PE.imp (pe_methG0 (W := W) (pl := pl) he c hm F hr hb passG0 ht) fun σ H Q h => by
  have h := i_methN h
  obtain ⟨g, e, k0, k1, k2, k3⟩ := h
  exact ⟨g, e, k0, k1, k2, k3.imp fun a g' x r q v rv => let ⟨a, dx, fs, y1, y2, y3, y4⟩ := q v rv; ⟨a, dx, fs, y1, y2, y3, i_nil y4⟩⟩
theorem pm_prop (c : Cls X.K C) (hp : PropOf X.K C mn pr f) (F : FnG X.prog X.w X.K X.mg X.base CX0 k f fd ps fun vs H Q _ => spM X.K np (fnM np nn b) vs H Q E0) (hr : RoomG (k + 1) X.A) (hb : Binds X.K fd ps []) (he : PE X e (tE X.K W mo))
    (hab : attributeBase e mn X.env (eval e X.env) = eval e X.env := by rfl) : PE X (.Attribute e mn pos) (tE X.K W (mProp C (nbF (fnM np nn b)) mo)) := PE.imp (pe_propG he c hp F hr hb (fun _ _ _ _ _ h => h) hab) fun _ _ _ => i_propN
end
end Mo

namespace Mo
open PySem L2 PySem.W

/-! ### operators of own classes -/
section
variable {prog : Program} {w : World} {A : Around} {E : Value → Shared → Prop} {s : Shared} {x : Addr} {o : Obj} {i : Int} {t : Tok}
theorem int_declines {name : String} {f : Int → Int → Sem PySem.Fin} {Q : PySem.Fin → Shared → Prop} (hs : slotArgs name 1 ⟨[.int i t, .ref x], []⟩ = pure (.int i t, [.ref x])) (hx : s.heap.get? x = some o) (hd : o.data = .plain)
    (h : ∀ tk, Q (.done (.ret .notImplemented)) { s with toks := tk }) : wpAny (model prog w) A (Builtin.Int.intBinary name f false ⟨[.int i t, .ref x], []⟩) Q (fun e s' => E e s') s := by
  unfold Builtin.Int.intBinary Builtin.Int.intOfSelf
  rw [hs]
  obtain ⟨hh, g, d, tk, os⟩ := s
  obtain ⟨oc, od, oda, osl⟩ := o
  cases hd
  wp_walk using AutoSeq1.wpAny_loadPart' hx
  exact h _
theorem try_int {name : Str} {id nm : String} {f : Int → Int → Sem PySem.Fin} {Q : Option Value → Shared → Prop} (slot : Slot "int" name id) (entry : entryFor table id = some (Builtin.Int.intBinary nm f false)) (args : argsOk id ⟨[.int i t, .ref x], []⟩)
    (hs : slotArgs nm 1 ⟨[.int i t, .ref x], []⟩ = pure (.int i t, [.ref x])) (hx : s.heap.get? x = some o) (hd : o.data = .plain) (h : ∀ tk, Q none { s with toks := tk }) : wpAny (model prog w) A (tryMethod (.int i t) name (.ref x)) Q E s :=
  wpAny_tryMethod_declines (typeIs_int s i t) slot (GQ.call_here slot (typeIs_int s i t) entry args (int_declines hs hx hd fun tk => ⟨rfl, h tk⟩))
end
section
variable {prog : Program} {w : World} {A : Around} {E : Value → Shared → Prop} {s : Shared} {K : Frag} {x C f f0 : Addr} {ox : Obj} {od : Option Obj} {op : Operator} {T : String}
theorem bin_same {b : Value} {Q : Value → Shared → Prop} (X : K.In s.heap) (I : InstAt s.heap x ox C od) (hb : Looks (model prog w) s.heap (typeOf b) (.ref C)) (hc : selfFirst K C = true)
    (hs : findIn K (.ref C) (PySem.dunder op.info.2) = some (some (.ref f))) (hf : isFn K (.ref f) = true)
    (h : wpAny (model prog w) A (call (.ref f) [.ref x, b]) (PySem.W.CmpBack Q) E s) : wpAny (model prog w) A (binaryOp op (.ref x) b) Q E s := by
  obtain ⟨cd, rest, hcd, hm⟩ := ksp_first hc
  unfold binaryOp
  refine wpAny_holding (wpAny_bind ?_)
  unfold binaryOp1
  refine wpAny_bind (I.type.here (wpAny_bind (hb.here (wpAny_bind ((fills_K X hcd hm hs).here ?_)))))
  simp only [beq_self_eq_true, if_true]
  refine wpAny_bind (wpAny_pure ?_)
  simp only [Bool.and_false, Bool.false_eq_true, if_false, Bool.false_and]
  refine wpAny_bind (wpAny_pure ?_)
  simp only [Bool.false_eq_true, if_false]
  refine wpAny_bind (m := tryMethod (.ref x) _ b) ?_
  unfold tryMethod
  refine wpAny_bind (special_fn X I hs (beq_iff_eq.mp hf) (wpAny_mono h (fun v s' hv => ?_) fun _ _ e => e))
  cases v <;> first | exact hv.elim | exact wpAny_pure (wpAny_pure (wpAny_pure hv))
theorem bin_T {b : Value} {fo ro rc : Option Value} {Q : Value → Shared → Prop} (X : K.In s.heap) (I : InstAt s.heap x ox C od) (hb : typeOf b = pure (.type T)) (hc : selfFirst K C = true)
    (hs : findIn K (.ref C) (PySem.dunder op.info.2) = some (some (.ref f))) (hf : isFn K (.ref f) = true) (hr : findIn K (.ref C) (dunderR op.info.2) = some rc) (hp : rc = none ∨ ∃ g : Addr, rc = some (.ref g))
    (h1 : findIn K (.type T) (PySem.dunder op.info.2) = some fo) (h2 : findIn K (.type T) (dunderR op.info.2) = some ro) (hsub : subIn K (.type T) (.ref C) = some false)
    (h : wpAny (model prog w) A (call (.ref f) [.ref x, b]) (PySem.W.CmpBack Q) E s) : wpAny (model prog w) A (binaryOp op (.ref x) b) Q E s := by
  obtain ⟨cd, rest, hcd, hm⟩ := ksp_first hc
  rcases hi : op.info with ⟨sym, nm'⟩
  rw [hi] at hs hr h1 h2
  dsimp only at hs hr h1 h2
  have one := ksp_try X I hs hf h
  obtain ⟨hh, g, d, tt, os⟩ := s
  have L1 : Looks (model prog w) hh (typeOf (.ref x)) (.ref C) := I.type
  have L2 : Looks (model prog w) hh (typeOf b) (.type T) := Looks.of_pure hb
  have L3 : Looks (model prog w) hh (fillsNumberSlot (.ref C) nm') true := fills_K X hcd hm hs
  have L4 : Looks (model prog w) hh (fillsNumberSlot (.type T) nm') ((fo.isSome && !isSeqSlot fo) || (ro.isSome && !isSeqSlot ro)) := ksp_fillsT X h1 h2
  have L5 : Looks (model prog w) hh (isSubtype (.type T) (.ref C)) false := looks_subIn X hsub
  have L6 : Looks (model prog w) hh (numberSlotInPython (.ref C) nm') true := ksp_inPy X hs hr hp
  have L7 : Looks (model prog w) hh (numberSlotInPython (.type T) nm') false := Looks.of_pure rfl
  have L8 : Looks (model prog w) hh (typeLookup (.type T) (dunderR nm')) ro := looks_findIn X h2
  generalize ((fo.isSome && !isSeqSlot fo) || (ro.isSome && !isSeqSlot ro)) = right at L4
  have hne : (Value.ref C == Value.type T) = false := Bool.eq_false_iff.mpr fun q => by cases beq_iff_eq.mp q
  simp only [binaryOp, hi]
  refine wpAny_holding (wpAny_bind ?_)
  unfold binaryOp1
  refine wpAny_bind (L1.at (wpAny_bind (L2.at (wpAny_bind (L3.at ?_)))))
  simp only [hne, Bool.false_eq_true, if_false]
  cases right with
  | false =>
    ksp_lk
    refine wpAny_mono one (fun r s' hr' => ?_) fun _ _ e => e
    obtain ⟨v, rfl, hq⟩ := hr'
    ksp_lk
    exact hq
  | true =>
    ksp_lk
    refine wpAny_mono one (fun r s' hr' => ?_) fun _ _ e => e
    obtain ⟨v, rfl, hq⟩ := hr'
    ksp_lk
    exact hq
theorem bin_refl {i : Int} {t : Tok} {id nm : String} {ff : Int → Int → Sem PySem.Fin} {Q : Value → Shared → Prop} (X : K.In s.heap) (I : InstAt s.heap x ox C od) (hd : ox.data = .plain) (hc : selfFirst K C = true)
    (hs : findIn K (.ref C) (PySem.dunder op.info.2) = some (some (.ref f0))) (hr : findIn K (.ref C) (dunderR op.info.2) = some (some (.ref f))) (hf : isFn K (.ref f) = true)
    (fills : fillsNumberSlot (.type "int") op.info.2 = pure true) (hsub : subIn K (.ref C) (.type "int") = some false)
    (slot : Slot "int" (PySem.dunder op.info.2) id) (entry : entryFor table id = some (Builtin.Int.intBinary nm ff false)) (args : argsOk id ⟨[.int i t, .ref x], []⟩) (hsl : slotArgs nm 1 ⟨[.int i t, .ref x], []⟩ = pure (.int i t, [.ref x]))
    (h : ∀ tk, wpAny (model prog w) A (call (.ref f) [.ref x, .int i t]) (PySem.W.CmpBack Q) E { s with toks := tk }) : wpAny (model prog w) A (binaryOp op (.int i t) (.ref x)) Q E s := by
  obtain ⟨cd, rest, hcd, hm⟩ := ksp_first hc
  rcases hi : op.info with ⟨sym, nm'⟩
  rw [hi] at hs hr fills slot
  dsimp only at hs hr fills slot
  have one := fun tk => ksp_try (s := { s with toks := tk }) X I hr hf (h tk)
  obtain ⟨hh, g, d, tt, os⟩ := s
  have dec : ∀ (Q' : Option Value → Shared → Prop) (tt : Nat), (∀ tk, Q' none ⟨hh, g, d, tk, os⟩) → wpAny (model prog w) A (tryMethod (.int i t) (PySem.dunder nm') (.ref x)) Q' E ⟨hh, g, d, tt, os⟩ := fun Q' tt hq => try_int slot entry args hsl I.at_ hd hq
  have L1 : Looks (model prog w) hh (typeOf (.ref x)) (.ref C) := I.type
  have L2 : Looks (model prog w) hh (typeOf (.int i t)) (.type "int") := Looks.of_pure rfl
  have L3 : Looks (model prog w) hh (fillsNumberSlot (.ref C) nm') true := fills_K X hcd hm hs
  have L4 : Looks (model prog w) hh (fillsNumberSlot (.type "int") nm') true := Looks.of_pure fills
  have L5 : Looks (model prog w) hh (isSubtype (.ref C) (.type "int")) false := looks_subIn X hsub
  have L7 : Looks (model prog w) hh (numberSlotInPython (.type "int") nm') false := Looks.of_pure rfl
  have hne : (Value.type "int" == Value.ref C) = false := Bool.eq_false_iff.mpr fun q => by cases beq_iff_eq.mp q
  simp only [binaryOp, hi]
  refine wpAny_holding (wpAny_bind ?_)
  unfold binaryOp1
  refine wpAny_bind (L2.at (wpAny_bind (L1.at (wpAny_bind (L4.at ?_)))))
  simp only [hne, Bool.false_eq_true, if_false]
  ksp_lk
  refine dec _ _ fun tk => ?_
  ksp_lk
  refine wpAny_mono (one tk) (fun r s' hr' => ?_) fun _ _ e => e
  obtain ⟨v, rfl, hq⟩ := hr'
  ksp_lk
  exact hq
end

/-! ### instances without an __eq__ of their own -/
structure EqF (K : Frag) (C : Addr) : Prop where
  eq : findIn K (.ref C) "__eq__" = some (some (.builtin "object.__eq__"))
  ne : findIn K (.ref C) "__ne__" = some (some (.builtin "object.__ne__"))
  mro : mroIn K C (.type "object") = some true
section
variable {prog : Program} {w : World} {M : Model} {A : Around} {E : Value → Shared → Prop} {s : Shared} {K : Frag} {x y C : Addr} {ox oy : Obj} {od od' : Option Obj}
theorem cls_tup (I : InstAt s.heap x ox C od) : ox.cls ≠ .type "tuple" := by rw [I.cls]; intro z; cases z
theorem bound_eq {args : List Value} {Q : Option Value → Shared → Prop} (X : K.In s.heap) (I : InstAt s.heap x ox C od) (F : EqF K C) (h : wpAny M A (call (.builtin "object.__eq__") (.ref x :: args)) (fun v => Q (some v)) E s) :
    wpAny M A (callSpecialIfBound? (.ref x) "__eq__" args) Q E s := HN.ifBound_objEq X I F.eq h
theorem bound_ne {args : List Value} {Q : Option Value → Shared → Prop} (X : K.In s.heap) (I : InstAt s.heap x ox C od) (F : EqF K C) (h : wpAny M A (call (.builtin "object.__ne__") (.ref x :: args)) (fun v => Q (some v)) E s) :
    wpAny M A (callSpecialIfBound? (.ref x) "__ne__" args) Q E s := by
  simp only [callSpecialIfBound?, bindSpecialIfBound?]
  refine wpAny_holding (wpAny_bind (wpAny_bind (wpAny_bind (I.type.here ((looks_findIn X F.ne).here ?_)))))
  refine wpAny_bind (wpAny_askSetting (wpAny_ite ?_))
  have fin : wpAny M A (call (.builtin "object.__ne__") ([.ref x] ++ args) >>= fun v => pure (some v)) Q E s := wpAny_bind (wpAny_mono h (fun v s' h' => wpAny_pure h') fun _ _ h' => h')
  split
  · exact wpAny_bind (wpAny_of_eq (PySem.F.cmp_object.ne.bind _) (wpAny_pure (by exact fin)))
  · exact wpAny_tryCatch (wpAny_bind (wpAny_of_eq (PySem.F.cmp_object.ne.bind _) (wpAny_pure (by exact fin))))
theorem eq_same {Q : Option Value → Shared → Prop} (X : K.In s.heap) (I : InstAt s.heap x ox C od) (F : EqF K C) (hq : Q (some (.bool true)) s) : wpAny (model prog w) A (callSpecialIfBound? (.ref x) "__eq__" [.ref x]) Q E s :=
  bound_eq X I F (wpAny_call (codeAny_call_builtin PySem.F.cmp_object.eq.plain PySem.F.cmpEntry_eq (check_slot PySem.F.cmpKind_eq PySem.F.cmpSplit_eq (I.type.andThen (looks_mroIn X F.mro)) (PySem.F.cmpArgs_eq _ _) (objEq_entry_same hq))))
theorem eq_other {Q : Option Value → Shared → Prop} (X : K.In s.heap) (I : InstAt s.heap x ox C od) (J : InstAt s.heap y oy C od') (ne : x ≠ y) (F : EqF K C) (hq : Q (some .notImplemented) s) : wpAny (model prog w) A (callSpecialIfBound? (.ref x) "__eq__" [.ref y]) Q E s :=
  bound_eq X I F (wpAny_call (codeAny_call_builtin PySem.F.cmp_object.eq.plain PySem.F.cmpEntry_eq (check_slot PySem.F.cmpKind_eq PySem.F.cmpSplit_eq (I.type.andThen (looks_mroIn X F.mro)) (PySem.F.cmpArgs_eq _ _) (objEq_entry_other ne I.at_ J.at_ (cls_tup I) hq))))
theorem ne_same {Q : Option Value → Shared → Prop} (X : K.In s.heap) (I : InstAt s.heap x ox C od) (F : EqF K C) (hu : A.units + 1 < cLine) (hq : Q (some (.bool false)) s) : wpAny (model prog w) A (tryCompare (.ref x) "__ne__" (.ref x)) Q E s := by
  simp only [tryCompare]
  refine wpAny_bind (bound_ne X I F (wpAny_call (codeAny_call_builtin PySem.F.cmp_object.ne.plain PySem.F.cmpEntry_ne (check_slot PySem.F.cmpKind_ne PySem.F.cmpSplit_ne (I.type.andThen (looks_mroIn X F.mro)) (PySem.F.cmpArgs_ne _ _) ?_))))
  have hu0 : A.in1.units < cLine := hu
  unfold Builtin.«object.__ne__»
  repeat (first | with_reducible refine wpAny_cRoomFor hu0 ?_ | with_reducible refine eq_same X I F ?_ | wp_step)
  exact hq
theorem ne_other {Q : Option Value → Shared → Prop} (X : K.In s.heap) (I : InstAt s.heap x ox C od) (J : InstAt s.heap y oy C od') (ne : x ≠ y) (F : EqF K C) (hu : A.units + 1 < cLine) (hq : Q none s) : wpAny (model prog w) A (tryCompare (.ref x) "__ne__" (.ref y)) Q E s := by
  simp only [tryCompare]
  refine wpAny_bind (bound_ne X I F (wpAny_call (codeAny_call_builtin PySem.F.cmp_object.ne.plain PySem.F.cmpEntry_ne (check_slot PySem.F.cmpKind_ne PySem.F.cmpSplit_ne (I.type.andThen (looks_mroIn X F.mro)) (PySem.F.cmpArgs_ne _ _) ?_))))
  have hu0 : A.in1.units < cLine := hu
  unfold Builtin.«object.__ne__»
  repeat (first | with_reducible refine wpAny_cRoomFor hu0 ?_ | with_reducible refine eq_other X I J ne F ?_ | wp_step)
  exact hq
theorem teq_same {Q : Option Value → Shared → Prop} (X : K.In s.heap) (I : InstAt s.heap x ox C od) (F : EqF K C) (hq : Q (some (.bool true)) s) : wpAny (model prog w) A (tryCompare (.ref x) "__eq__" (.ref x)) Q E s := by
  simp only [tryCompare]
  exact wpAny_bind (eq_same X I F (wpAny_pure hq))
theorem teq_other {Q : Option Value → Shared → Prop} (X : K.In s.heap) (I : InstAt s.heap x ox C od) (J : InstAt s.heap y oy C od') (ne : x ≠ y) (F : EqF K C) (hq : Q none s) : wpAny (model prog w) A (tryCompare (.ref x) "__eq__" (.ref y)) Q E s := by
  simp only [tryCompare]
  exact wpAny_bind (eq_other X I J ne F (wpAny_pure hq))
theorem rc_ne_same {Q : Value → Shared → Prop} (X : K.In s.heap) (I : InstAt s.heap x ox C od) (F : EqF K C) (hu : A.units + 1 < cLine) (hq : Q (.bool false) s) : wpAny (model prog w) A (richCompare .NotEq (.ref x) (.ref x)) Q E s := by
  have hu0 : A.units < cLine := Nat.lt_of_succ_lt hu
  simp only [richCompare, cmpInfo_NotEq, oneThing_ref]
  refine wpAny_holding (wpAny_bind (wpAny_cRoomFor hu0 ?_))
  refine wpAny_bind (I.type.here (wpAny_bind (I.type.here ?_)))
  rw [if_neg (by simp)]
  refine wpAny_bind (wpAny_pure ?_)
  simp only [Bool.false_eq_true, if_false]
  refine wpAny_bind (m := tryCompare (.ref x) _ (.ref x)) (ne_same X I F hu ?_)
  exact wpAny_pure hq
theorem rc_ne_other {Q : Value → Shared → Prop} (X : K.In s.heap) (I : InstAt s.heap x ox C od) (J : InstAt s.heap y oy C od') (ne : x ≠ y) (F : EqF K C) (hu : A.units + 1 < cLine) (hq : Q (.bool true) s) : wpAny (model prog w) A (richCompare .NotEq (.ref x) (.ref y)) Q E s := by
  have hu0 : A.units < cLine := Nat.lt_of_succ_lt hu
  simp only [richCompare, cmpInfo_NotEq, oneThing_ref]
  refine wpAny_holding (wpAny_bind (wpAny_cRoomFor hu0 ?_))
  refine wpAny_bind (I.type.here (wpAny_bind (J.type.here ?_)))
  rw [if_neg (by simp)]
  refine wpAny_bind (wpAny_pure ?_)
  simp only [Bool.false_eq_true, if_false, Bool.not_false, if_true]
  refine wpAny_bind (m := tryCompare (.ref x) _ (.ref y)) (ne_other X I J ne F hu ?_)
  refine wpAny_bind (m := tryCompare (.ref y) _ (.ref x)) (ne_other X J I (Ne.symm ne) F hu ?_)
  repeat (first | with_reducible refine wpAny_isSame_ref_other ne I.at_ J.at_ (cls_tup I) ?_ | wp_step)
  exact hq
theorem rc_eq_same {Q : Value → Shared → Prop} (X : K.In s.heap) (I : InstAt s.heap x ox C od) (F : EqF K C) (hu : A.units < cLine) (hq : Q (.bool true) s) : wpAny (model prog w) A (richCompare .Eq (.ref x) (.ref x)) Q E s := by
  simp only [richCompare, cmpInfo_Eq, oneThing_ref]
  refine wpAny_holding (wpAny_bind (wpAny_cRoomFor hu ?_))
  refine wpAny_bind (I.type.here (wpAny_bind (I.type.here ?_)))
  rw [if_neg (by simp)]
  refine wpAny_bind (wpAny_pure ?_)
  simp only [Bool.false_eq_true, if_false]
  refine wpAny_bind (m := tryCompare (.ref x) _ (.ref x)) (teq_same X I F ?_)
  exact wpAny_pure hq
theorem rc_eq_other {Q : Value → Shared → Prop} (X : K.In s.heap) (I : InstAt s.heap x ox C od) (J : InstAt s.heap y oy C od') (ne : x ≠ y) (F : EqF K C) (hu : A.units < cLine) (hq : Q (.bool false) s) : wpAny (model prog w) A (richCompare .Eq (.ref x) (.ref y)) Q E s := by
  simp only [richCompare, cmpInfo_Eq, oneThing_ref]
  refine wpAny_holding (wpAny_bind (wpAny_cRoomFor hu ?_))
  refine wpAny_bind (I.type.here (wpAny_bind (J.type.here ?_)))
  rw [if_neg (by simp)]
  refine wpAny_bind (wpAny_pure ?_)
  simp only [Bool.false_eq_true, if_false, Bool.not_false, if_true]
  refine wpAny_bind (m := tryCompare (.ref x) _ (.ref y)) (teq_other X I J ne F ?_)
  refine wpAny_bind (m := tryCompare (.ref y) _ (.ref x)) (teq_other X J I (Ne.symm ne) F ?_)
  repeat (first | with_reducible refine wpAny_isSame_ref_other ne I.at_ J.at_ (cls_tup I) ?_ | wp_step)
  exact hq
end
end Mo

namespace Mo
open PySem L2 PySem.W

/-! ### own operators, as functions -/
def isI (C : Addr) (S : List O) (d : D) : Bool := (insD C S d).isSome
def isInt : D → Bool
  | .int _ => true
  | _ => false
/-- a op b, where an own class has the operator: fa its __op__ (with an own value or an int behind), fr its __rop__ (with an int ahead) -/
def mBinO (C : Addr) (fa fr : List D → List O → R D) (g : Op2) (ma mb : ME) : ME := fun e S => (ma e S).bind fun a S1 => (mb e S1).bind fun b S2 =>
  if isI C S2 a = true then (if (isI C S2 b || isInt b) = true then fa [a, b] S2 else .bad)
  else if isI C S2 b = true then (if isInt a = true then fr [b, a] S2 else .bad)
  else R.ofO S2 (g S2 a b)
/-- .. without __rop__ -/
def mBinL (C : Addr) (fa : List D → List O → R D) (g : Op2) (ma mb : ME) : ME := fun e S => (ma e S).bind fun a S1 => (mb e S1).bind fun b S2 =>
  if isI C S2 a = true then (if (isI C S2 b || isInt b) = true then fa [a, b] S2 else .bad) else R.ofO S2 (g S2 a b)
def mUnO (C : Addr) (fn : List D → List O → R D) (g : Op1) (ma : ME) : ME := fun e S => (ma e S).bind fun a S1 => if isI C S1 a = true then fn [a] S1 else R.ofO S1 (g S1 a)
def rOwn (C : Addr) (spa spr : Sp) (rd : R2) : R2 := fun x y H Q =>
  (∃ a dx fs, x = .ref a ∧ H a = some (.ins C dx fs) ∧ ((∃ b dy gs, y = .ref b ∧ H b = some (.ins C dy gs)) ∨ ∃ j, y = .int j) ∧ spa [x, y] H Q E0) ∨
  (∃ i a dx fs, x = .int i ∧ y = .ref a ∧ H a = some (.ins C dx fs) ∧ spr [y, x] H Q E0) ∨ rd x y H Q
structure OwnOp (K : Frag) (C : Addr) (op : Operator) (f : Addr) (fo ro rc : Option Value) : Prop where
  sf : selfFirst K C = true
  at_ : findIn K (.ref C) (PySem.dunder op.info.2) = some (some (.ref f))
  fn : isFn K (.ref f) = true
  r : findIn K (.ref C) (dunderR op.info.2) = some rc
  rp : rc = none ∨ ∃ g : Addr, rc = some (.ref g)
  t1 : findIn K (.type "int") (PySem.dunder op.info.2) = some fo
  t2 : findIn K (.type "int") (dunderR op.info.2) = some ro
  sub : subIn K (.type "int") (.ref C) = some false
structure OwnR (K : Frag) (C : Addr) (op : Operator) (f : Addr) : Prop where
  r : findIn K (.ref C) (dunderR op.info.2) = some (some (.ref f))
  fn : isFn K (.ref f) = true
  sub : subIn K (.ref C) (.type "int") = some false
/-- what an int's own operator is -/
structure IntOp (op : Operator) : Prop where
  fills : fillsNumberSlot (.type "int") op.info.2 = pure true
  ex : ∃ (id nm : String) (ff : Int → Int → Sem PySem.Fin), Slot "int" (PySem.dunder op.info.2) id ∧ entryFor table id = some (Builtin.Int.intBinary nm ff false) ∧ (∀ a b, argsOk id ⟨[a, b], []⟩) ∧ ∀ i t x, slotArgs nm 1 ⟨[.int i t, .ref x], []⟩ = pure (.int i t, [.ref x])
theorem int_add : IntOp .Add := ⟨PySem.F.fills_int_add, "int.__add__", "__add__", _, PySem.F.slot_int_add, PySem.F.entry_int_add, PySem.F.args_int_add_2, fun _ _ _ => rfl⟩
theorem int_sub : IntOp .Sub := ⟨PySem.F.fills_int_sub, "int.__sub__", "__sub__", _, PySem.F.slot_int_sub, PySem.F.entry_int_sub, PySem.F.args_int_sub_2, fun _ _ _ => rfl⟩
theorem int_mul : IntOp .Mult := ⟨PySem.F.fills_int_mul, "int.__mul__", "__mul__", _, PySem.F.slot_int_mul, PySem.F.entry_int_mul, PySem.F.args_int_mul_2, fun _ _ _ => rfl⟩
section
variable {X : Cx} {k : Nat} {f fr C : Addr} {fd fd' : FuncData} {ps ps' : List Str} {sp sp' : Sp} {rd : R2} {op : Operator} {fo ro rc : Option Value}
theorem cmpBack {pins : List (Addr × Obj)} {σ : L2.St} {Q : VK} {u : Value} {s : Shared} (h : EP X pins σ Q u s) : PySem.W.CmpBack (EP X pins σ Q) u s := by
  cases u with
  | notImplemented =>
    obtain ⟨v, _, _, r, _⟩ := h
    cases v <;> first | exact False.elim r | (cases r; done) | (obtain ⟨_, r⟩ := r; cases r)
  | _ => exact h
theorem call_own {pins : List (Addr × Obj)} {σ : L2.St} {H : Hp} {s : Shared} {Q : VK} {us : List Value} {vs : List V} (F : FnG X.prog X.w X.K X.mg X.base CX0 k f fd ps sp) (hr : RoomG k X.A) (hb : Binds X.K fd ps []) (I : L2.Inv X pins σ H s) (r : Vals vs us) (h : sp vs H Q E0) :
    wpAny (model X.prog X.w) X.A (call (.ref f) us) (EP X pins σ Q) X.xe s := by
  refine wpAny_call (codeAny_mono (run_g F hr (fun hl => by have := hb s us I.kIn (by simpa using hl); simpa using this) (fun e s' hc => False.elim hc) I r h) fun r s' hq => ?_)
  cases r with
  | error e => exact hq
  | ok fl => cases fl <;> exact hq
theorem call_in1 {pins : List (Addr × Obj)} {σ : L2.St} {H : Hp} {s : Shared} {Q : VK} {us : List Value} {vs : List V} {E : Value → Shared → Prop} (F : FnG X.prog X.w X.K X.mg X.base CX0 k f fd ps sp) (hr : RoomG (k + 1) X.A) (hb : Binds X.K fd ps []) (I : L2.Inv X pins σ H s) (r : Vals vs us) (h : sp vs H Q E0) :
    wpAny (model X.prog X.w) X.A.in1 (call (.ref f) us) (EP X pins σ Q) E s := by
  have hl : us.length = ps.length := by rw [← r.length]; exact F.len _ _ _ _ h
  refine wpAny_call (codeAny_mono (F.run X.A.in1 X.stack s H ⟨us, []⟩ us vs Q E0 hr.in1 I.env0.in1 (by have := hb s us I.kIn (by simpa using hl); simpa using this) r h) fun r s' hq => ?_)
  cases r with
  | error e => exact False.elim hq
  | ok fl =>
    cases fl with
    | ret u => exact I.after hq
    | next => exact hq
    | brk => exact hq
    | cont => exact hq
theorem inst_of {pins : List (Addr × Obj)} {σ : L2.St} {H : Hp} {s : Shared} {a dx : Addr} {fs : List (Str × V)} (I : L2.Inv X pins σ H s) (e : H a = some (.ins C dx fs)) : ∃ od, InstAt s.heap a (instObj C dx) C (some od) := by
  obtain ⟨mA, O, _⟩ := ins_get I.hok e
  obtain ⟨od, J, _⟩ := O.look
  exact ⟨od, J⟩
theorem o_own (F : FnG X.prog X.w X.K X.mg X.base CX0 k f fd ps sp) (F' : FnG X.prog X.w X.K X.mg X.base CX0 k fr fd' ps' sp') (hr : RoomG k X.A) (hb : Binds X.K fd ps []) (hb' : Binds X.K fd' ps' []) (w1 : OwnOp X.K C op f fo ro rc) (w2 : OwnR X.K C op fr) (w3 : IntOp op)
    (ho : OpR X (binaryOp op) rd) : OpR X (binaryOp op) (rOwn C sp sp' rd) := by
  intro pins s σ H x y v u Q I rx ry h
  rcases h with ⟨a, dx, fs, rfl, ha, h1, h2⟩ | ⟨i, a, dx, fs, rfl, rfl, ha, h2⟩ | h
  · cases (show v = Value.ref a from rx)
    obtain ⟨od, J⟩ := inst_of I ha
    have go : wpAny (model X.prog X.w) X.A (call (.ref f) [.ref a, u]) (PySem.W.CmpBack (EP X pins σ Q)) X.xe s := wpAny_mono (call_own F hr hb I (vs := [.ref a, y]) (.cons rfl (.cons ry .nil)) h2) (fun _ _ z => cmpBack z) fun _ _ z => z
    rcases h1 with ⟨b, dy, gs, rfl, hb⟩ | ⟨j, rfl⟩
    · cases (show u = Value.ref b from ry)
      obtain ⟨od', J'⟩ := inst_of I hb
      exact bin_same I.kIn J J'.type w1.sf w1.at_ w1.fn go
    · obtain ⟨t, rfl⟩ := (show ∃ t, u = Value.int j t from ry)
      exact bin_T (T := "int") I.kIn J rfl w1.sf w1.at_ w1.fn w1.r w1.rp w1.t1 w1.t2 w1.sub go
  · cases (show u = Value.ref a from ry)
    obtain ⟨t, rfl⟩ := (show ∃ t, v = Value.int i t from rx)
    obtain ⟨od, J⟩ := inst_of I ha
    obtain ⟨id, nm, ff, e1, e2, e3, e4⟩ := w3.ex
    exact bin_refl I.kIn J rfl w1.sf w1.at_ w2.r w2.fn w3.fills w2.sub e1 e2 (e3 _ _) (e4 _ _ _) fun tk => wpAny_mono (call_own F' hr hb' (I.tok tk) (vs := [.ref a, .int i]) (.cons rfl (.cons rx .nil)) h2) (fun _ _ z => cmpBack z) fun _ _ z => z
  · exact ho pins s σ H x y v u Q I rx ry h
theorem o_ownL (F : FnG X.prog X.w X.K X.mg X.base CX0 k f fd ps sp) (hr : RoomG k X.A) (hb : Binds X.K fd ps []) (w1 : OwnOp X.K C op f fo ro rc) (ho : OpR X (binaryOp op) rd) : OpR X (binaryOp op) (rOwn C sp (fun _ _ _ _ => False) rd) := by
  intro pins s σ H x y v u Q I rx ry h
  rcases h with ⟨a, dx, fs, rfl, ha, h1, h2⟩ | ⟨i, a, dx, fs, rfl, rfl, ha, h2⟩ | h
  · cases (show v = Value.ref a from rx)
    obtain ⟨od, J⟩ := inst_of I ha
    have go : wpAny (model X.prog X.w) X.A (call (.ref f) [.ref a, u]) (PySem.W.CmpBack (EP X pins σ Q)) X.xe s := wpAny_mono (call_own F hr hb I (vs := [.ref a, y]) (.cons rfl (.cons ry .nil)) h2) (fun _ _ z => cmpBack z) fun _ _ z => z
    rcases h1 with ⟨b, dy, gs, rfl, hb⟩ | ⟨j, rfl⟩
    · cases (show u = Value.ref b from ry)
      obtain ⟨od', J'⟩ := inst_of I hb
      exact bin_same I.kIn J J'.type w1.sf w1.at_ w1.fn go
    · obtain ⟨t, rfl⟩ := (show ∃ t, u = Value.int j t from ry)
      exact bin_T (T := "int") I.kIn J rfl w1.sf w1.at_ w1.fn w1.r w1.rp w1.t1 w1.t2 w1.sub go
  · exact False.elim h2
  · exact ho pins s σ H x y v u Q I rx ry h
end
theorem isI_some {C : Addr} {S : List O} {d : D} (h : isI C S d = true) : ∃ fs, insD C S d = some fs := Option.isSome_iff_exists.mp h
section
variable {K : PySem.W.Frag} {W : WX'} {σ : L2.St} {H : Hp} {Q : VK} {C : Addr} {ma mb : ME} {np nn nr : Nat} {b br : MS} {g : Op2}
theorem fn_post {g1 : G} {ds : List D} {vs : List V} {n1 n2 : Nat} {bb : MS} (r1 : Rep K g1) (rv : RDs K g1 ds vs) (p : Post K W g1 (nbF (fnM n1 n2 bb) ds g1.S) σ fun d g' => ∀ v, RD K g' d v → Q v g'.H) : spM K n1 (fnM n1 n2 bb) vs g1.H Q E0 := by
  refine ⟨?_, g1, ds, rfl, r1, rv, nb_post p⟩
  rw [← rv.length]
  exact fnM_len (S := g1.S) fun z => by rw [nbF, z] at p; exact p
theorem i_binO (h : tE K W (mBinO C (nbF (fnM np nn b)) (nbF (fnM np nr br)) g ma mb) σ H Q) : tOp (rOwn C (fun vs H Q _ => spM K np (fnM np nn b) vs H Q E0) (fun vs H Q _ => spM K np (fnM np nr br) vs H Q E0) (rOp K g)) (tE K W ma) (tE K W mb) σ H Q := by
  obtain ⟨g0, e, rfl, rp, re, p⟩ := h
  refine ⟨g0, e, rfl, rp, re, (Post.bind p).imp fun a g1 e1 r1 ⟨_, _, p1⟩ v rv => ?_⟩
  refine ⟨g1, e, rfl, r1, re.mono e1, (Post.bind p1).imp fun y g2 e2 r2 ⟨_, _, p2⟩ u ru => ?_⟩
  have rv2 := rv.mono e2
  by_cases ia : isI C g2.S a = true
  · rw [if_pos ia] at p2
    obtain ⟨fs, ha⟩ := isI_some ia
    obtain ⟨ad, dx, vs, rfl, h1, _⟩ := insD_at r2 ha rv2
    by_cases ib : (isI C g2.S y || isInt y) = true
    · rw [if_pos ib] at p2
      refine .inl ⟨ad, dx, vs, rfl, h1, ?_, fn_post r2 (RDs.cons rv2 (RDs.cons ru RDs.nil)) p2⟩
      by_cases iy : isI C g2.S y = true
      · obtain ⟨gs, hb⟩ := isI_some iy
        obtain ⟨bd, dy, ws, rfl, k1, _⟩ := insD_at r2 hb ru
        exact .inl ⟨bd, dy, ws, rfl, k1⟩
      · have : isInt y = true := by simpa [iy] using ib
        cases y with
        | int j => rw [RD] at ru; exact .inr ⟨j, ru⟩
        | _ => cases this
    · rw [if_neg ib] at p2; exact False.elim p2
  · rw [if_neg ia] at p2
    by_cases iy : isI C g2.S y = true
    · rw [if_pos iy] at p2
      obtain ⟨gs, hb⟩ := isI_some iy
      obtain ⟨bd, dy, ws, rfl, k1, _⟩ := insD_at r2 hb ru
      by_cases it : isInt a = true
      · rw [if_pos it] at p2
        cases a with
        | int j =>
          have rj := rv2
          rw [RD] at rj
          exact .inr (.inl ⟨j, bd, dy, ws, rj, rfl, k1, fn_post r2 (RDs.cons ru (RDs.cons rv2 RDs.nil)) p2⟩)
        | _ => cases it
      · rw [if_neg it] at p2; exact False.elim p2
    · rw [if_neg iy] at p2
      cases q : g g2.S a y with
      | none => rw [q] at p2; exact False.elim p2
      | some d =>
        rw [q] at p2
        exact .inr (.inr ⟨g2, a, y, d, rfl, r2, rv2, ru, q, fun g' w x s r rw' => p2 g' x s r w rw'⟩)
theorem i_binL (h : tE K W (mBinL C (nbF (fnM np nn b)) g ma mb) σ H Q) : tOp (rOwn C (fun vs H Q _ => spM K np (fnM np nn b) vs H Q E0) (fun _ _ _ _ => False) (rOp K g)) (tE K W ma) (tE K W mb) σ H Q := by
  obtain ⟨g0, e, rfl, rp, re, p⟩ := h
  refine ⟨g0, e, rfl, rp, re, (Post.bind p).imp fun a g1 e1 r1 ⟨_, _, p1⟩ v rv => ?_⟩
  refine ⟨g1, e, rfl, r1, re.mono e1, (Post.bind p1).imp fun y g2 e2 r2 ⟨_, _, p2⟩ u ru => ?_⟩
  have rv2 := rv.mono e2
  by_cases ia : isI C g2.S a = true
  · rw [if_pos ia] at p2
    obtain ⟨fs, ha⟩ := isI_some ia
    obtain ⟨ad, dx, vs, rfl, h1, _⟩ := insD_at r2 ha rv2
    by_cases ib : (isI C g2.S y || isInt y) = true
    · rw [if_pos ib] at p2
      refine .inl ⟨ad, dx, vs, rfl, h1, ?_, fn_post r2 (RDs.cons rv2 (RDs.cons ru RDs.nil)) p2⟩
      by_cases iy : isI C g2.S y = true
      · obtain ⟨gs, hb⟩ := isI_some iy
        obtain ⟨bd, dy, ws, rfl, k1, _⟩ := insD_at r2 hb ru
        exact .inl ⟨bd, dy, ws, rfl, k1⟩
      · have : isInt y = true := by simpa [iy] using ib
        cases y with
        | int j => rw [RD] at ru; exact .inr ⟨j, ru⟩
        | _ => cases this
    · rw [if_neg ib] at p2; exact False.elim p2
  · rw [if_neg ia] at p2
    cases q : g g2.S a y with
    | none => rw [q] at p2; exact False.elim p2
    | some d =>
      rw [q] at p2
      exact .inr (.inr ⟨g2, a, y, d, rfl, r2, rv2, ru, q, fun g' w x s r rw' => p2 g' x s r w rw'⟩)
end
section
variable {X : Cx} {W : WX'} {k : Nat} {f fr C : Addr} {fd fd' : FuncData} {ps ps' : List Str} {op : Operator} {fo ro rc : Option Value} {np nn nr : Nat} {b br : MS} {g : Op2} {x y : Expr} {ma mb : ME} {pos : Pos}
theorem pm_binO (F : FnG X.prog X.w X.K X.mg X.base CX0 k f fd ps fun vs H Q _ => spM X.K np (fnM np nn b) vs H Q E0) (F' : FnG X.prog X.w X.K X.mg X.base CX0 k fr fd' ps' fun vs H Q _ => spM X.K np (fnM np nr br) vs H Q E0) (hr : RoomG k X.A) (hb : Binds X.K fd ps []) (hb' : Binds X.K fd' ps' [])
    (w1 : OwnOp X.K C op f fo ro rc) (w2 : OwnR X.K C op fr) (w3 : IntOp op) (ho : OpR X (binaryOp op) (rOp X.K g)) (ha : PE X x (tE X.K W ma)) (hy : PE X y (tE X.K W mb)) : PE X (.BinOp x op y pos) (tE X.K W (mBinO C (nbF (fnM np nn b)) (nbF (fnM np nr br)) g ma mb)) :=
  PE.imp (pe_op (o_own F F' hr hb hb' w1 w2 w3 ho) ha hy) fun _ _ _ => i_binO
theorem pm_binL (F : FnG X.prog X.w X.K X.mg X.base CX0 k f fd ps fun vs H Q _ => spM X.K np (fnM np nn b) vs H Q E0) (hr : RoomG k X.A) (hb : Binds X.K fd ps [])
    (w1 : OwnOp X.K C op f fo ro rc) (ho : OpR X (binaryOp op) (rOp X.K g)) (ha : PE X x (tE X.K W ma)) (hy : PE X y (tE X.K W mb)) : PE X (.BinOp x op y pos) (tE X.K W (mBinL C (nbF (fnM np nn b)) g ma mb)) :=
  PE.imp (pe_op (o_ownL F hr hb w1 ho) ha hy) fun _ _ _ => i_binL
end
end Mo

namespace Mo
open PySem PySem.Spec PySem.Calls PyProof.Rows L2 PySem.W

/-! ### -a, a[i], x in a of own classes; isinstance; is it the same -/
def rUnO (C : Addr) (sp : Sp) (rd : V → Hp → VK → Prop) : V → Hp → VK → Prop := fun x H Q => (∃ a dx fs, x = .ref a ∧ H a = some (.ins C dx fs) ∧ sp [x] H Q E0) ∨ rd x H Q
structure OwnM (K : Frag) (C : Addr) (m : Str) (f : Addr) : Prop where
  at_ : findIn K (.ref C) m = some (some (.ref f))
  fn : isFn K (.ref f) = true
def mIxO (C : Addr) (f : List D → List O → R D) (ma mb : ME) : ME := fun e S => (ma e S).bind fun a S1 => (mb e S1).bind fun b S2 => if isI C S2 a = true then f [a, b] S2 else R.ofO S2 (gIx S2 a b)
def rIxO (C : Addr) (sp : Sp) (rd : R2) : R2 := fun x y H Q => (∃ a dx fs, x = .ref a ∧ H a = some (.ins C dx fs) ∧ sp [x, y] H Q E0) ∨ rd x y H Q
/-- x in a (neg: x not in a), a of an own class -/
def mInO (C : Addr) (neg : Bool) (f : List D → List O → R D) (g : Op2) (ma mb : ME) : ME := fun e S => (ma e S).bind fun a S1 => (mb e S1).bind fun b S2 => if isI C S2 b = true then (f [b, a] S2).bind fun d S3 => (match d with
  | .bl k => .ok (.bl (k != neg)) S3
  | _ => .bad) else R.ofO S2 (g S2 a b)
def rInO (C : Addr) (neg : Bool) (sp : Sp) (rd : R2) : R2 := fun x y H Q => (∃ a dx fs, y = .ref a ∧ H a = some (.ins C dx fs) ∧ sp [y, x] H (fun v H' => ∃ k, v = .bl k ∧ Q (.bl (k != neg)) H') E0) ∨ rd x y H Q
section
variable {X : Cx} {k : Nat} {f C : Addr} {fd : FuncData} {ps : List Str} {sp : Sp} {rd : R2}
theorem o_negO {rd : V → Hp → VK → Prop} (F : FnG X.prog X.w X.K X.mg X.base CX0 k f fd ps sp) (hr : RoomG k X.A) (hb : Binds X.K fd ps []) (w1 : OwnM X.K C "__neg__" f) (ho : UnR X (unaryOp .USub) rd) : UnR X (unaryOp .USub) (rUnO C sp rd) := by
  intro pins s σ H x v Q I rx h
  rcases h with ⟨a, dx, fs, rfl, ha, h1⟩ | h
  · cases (show v = Value.ref a from rx)
    obtain ⟨od, J⟩ := inst_of I ha
    unfold unaryOp
    refine wpAny_holding ?_
    exact wpAny_bind (special_fn I.kIn J w1.at_ (beq_iff_eq.mp w1.fn) (wpAny_mono (call_own F hr hb I (us := [.ref a]) (vs := [.ref a]) (.cons rfl .nil) h1) (fun _ _ z => wpAny_pure z) fun _ _ z => z))
  · exact ho pins s σ H x v Q I rx h
theorem sub_own {prog : Program} {w : World} {A : Around} {E : Value → Shared → Prop} {s : Shared} {K : Frag} {x : Addr} {ox : Obj} {od : Option Obj} {value slice : Expr} {i : Value} {Q : Value → Shared → Prop} (X : K.In s.heap) (I : InstAt s.heap x ox C od) (hs : findIn K (.ref C) "__getitem__" = some (some (.ref f))) (hf : fnIn K f = true) (hfn : isFn K (.ref f) = true)
    (h : wpAny (model prog w) A.in1 (call (.ref f) [.ref x, i]) Q E s) (hsl : subscripted slice true (.ref x) i = runValue (.builtin "lifetime.subscript" ⟨[.ref x, i], []⟩)) :
    wpAny (model prog w) A (subscriptTail value slice (.ref x) i) Q E s := by
  unfold fnIn at hf
  split at hf
  · rename_i e
    unfold subscriptTail getitemInPython
    refine wpAny_bind (wpAny_bind (wpAny_bind (I.type.here ((looks_findIn X hs).here ?_))))
    dsimp only
    refine wpAny_bind (wpAny_load (X _ _ e) (wpAny_pure ?_))
    dsimp only
    rw [hsl]
    refine wpAny_bind (wpAny_runValue (codeAny_builtin entry_sub ?_))
    unfold Builtin.«lifetime.subscript»
    refine wpAny_bind (special_fn X I hs (beq_iff_eq.mp hfn) (wpAny_mono h (fun v s' z => ?_) fun _ _ z => z))
    refine wpAny_pure ?_
    show wpAny (model prog w) A (letTemporaryGo value (.ref x) v >>= fun _ => pure v) Q E s'
    exact wpAny_bind (wpAny_letTemporaryGo (wpAny_pure z))
  · cases hf
theorem pe_ixO {a b : Expr} {ta tb : TE} {pos : Pos} (F : FnG X.prog X.w X.K X.mg X.base CX0 k f fd ps sp) (hr : RoomG (k + 1) X.A) (hb : Binds X.K fd ps []) (w1 : OwnM X.K C "__getitem__" f) (w2 : fnIn X.K f = true) (ho : IxR X rd) (ha : PE X a ta) (hbb : PE X b tb) (hs : PlainIx b := by first | (intro _ _; rfl))
    (hsl : ∀ o i, subscripted b true o i = runValue (.builtin "lifetime.subscript" ⟨[o, i], []⟩) := by intro _ _; with_unfolding_all rfl) : PE X (.Subscript a b pos) (tOp (rIxO C sp rd) ta tb) := by
  refine ⟨fun pins s σ H Q I h => ?_⟩
  refine Subscript_ (binT ha hbb I h fun v u s2 x y H2 I2 rx ry q => ?_)
  rcases q with ⟨ad, dx, fs, rfl, h1, h2⟩ | q
  · cases (show v = Value.ref ad from rx)
    obtain ⟨od, J⟩ := inst_of I2 h1
    exact sub_own I2.kIn J w1.at_ w2 w1.fn (call_in1 F hr hb I2 (us := [.ref ad, u]) (vs := [.ref ad, y]) (.cons rfl (.cons ry .nil)) h2) (hsl _ _)
  · exact ho a b pins s2 σ H2 x y v u Q I2 rx ry q (hs _ _)
theorem contains_own {M : Model} {A : Around} {E : Value → Shared → Prop} {s : Shared} {K : Frag} {x : Addr} {ox : Obj} {od : Option Obj} {v : Value} {Q : Bool → Shared → Prop} (X : K.In s.heap) (I : InstAt s.heap x ox C od) (w1 : OwnM K C "__contains__" f)
    (h : wpAny M A (call (.ref f) [.ref x, v]) (fun r s' => wpAny M A (truthy r) Q E s') E s) : wpAny M A (contains (.ref x) v) Q E s := by
  unfold contains
  refine wpAny_holding (wpAny_bind (wpAny_bind (I.type.here ((looks_findIn X w1.at_).here ?_))))
  rw [if_neg (by simp)]
  exact wpAny_bind (unlessNone_K X I w1.at_ w1.fn h)
theorem o_inO (F : FnG X.prog X.w X.K X.mg X.base CX0 k f fd ps sp) (hr : RoomG k X.A) (hb : Binds X.K fd ps []) (w1 : OwnM X.K C "__contains__" f) (ho : OpR X (compareOp .In) rd) : OpR X (compareOp .In) (rInO C false sp rd) := by
  intro pins s σ H x y v u Q I rx ry h
  rcases h with ⟨a, dx, fs, rfl, ha, h1⟩ | h
  · cases (show u = Value.ref a from ry)
    obtain ⟨od, J⟩ := inst_of I ha
    refine wpAny_bind (contains_own I.kIn J w1 (wpAny_mono (call_own F hr hb I (us := [.ref a, v]) (vs := [.ref a, x]) (.cons rfl (.cons rx .nil)) h1) (fun r s' z => ?_) fun _ _ z => z))
    obtain ⟨z, H', I', rz, k, rfl, q⟩ := z
    cases (show r = Value.bool k from rz)
    refine wpAny_truthy_bool (wpAny_pure ⟨.bl k, H', I', rfl, ?_⟩)
    have e : (k != false) = k := by cases k <;> rfl
    rw [e] at q
    exact q
  · exact ho pins s σ H x y v u Q I rx ry h
theorem o_ninO (F : FnG X.prog X.w X.K X.mg X.base CX0 k f fd ps sp) (hr : RoomG k X.A) (hb : Binds X.K fd ps []) (w1 : OwnM X.K C "__contains__" f) (ho : OpR X (compareOp .NotIn) rd) : OpR X (compareOp .NotIn) (rInO C true sp rd) := by
  intro pins s σ H x y v u Q I rx ry h
  rcases h with ⟨a, dx, fs, rfl, ha, h1⟩ | h
  · cases (show u = Value.ref a from ry)
    obtain ⟨od, J⟩ := inst_of I ha
    refine wpAny_bind (contains_own I.kIn J w1 (wpAny_mono (call_own F hr hb I (us := [.ref a, v]) (vs := [.ref a, x]) (.cons rfl (.cons rx .nil)) h1) (fun r s' z => ?_) fun _ _ z => z))
    obtain ⟨z, H', I', rz, k, rfl, q⟩ := z
    cases (show r = Value.bool k from rz)
    refine wpAny_truthy_bool (wpAny_pure ⟨.bl !k, H', I', rfl, ?_⟩)
    have e : (k != true) = !k := by cases k <;> rfl
    rw [e] at q
    exact q
  · exact ho pins s σ H x y v u Q I rx ry h
end
section
variable {K : Frag} {W : WX'} {σ : L2.St} {H : Hp} {Q : VK} {C : Addr} {ma mb : ME} {np nn : Nat} {b : MS}
theorem i_unO {g : Op1} (h : tE K W (mUnO C (nbF (fnM np nn b)) g ma) σ H Q) : tUn (rUnO C (fun vs H Q _ => spM K np (fnM np nn b) vs H Q E0) (rUn K g)) (tE K W ma) σ H Q := by
  obtain ⟨g0, e, rfl, rp, re, p⟩ := h
  refine ⟨g0, e, rfl, rp, re, (Post.bind p).imp fun a g1 e1 r1 ⟨_, _, p1⟩ v rv => ?_⟩
  by_cases ia : isI C g1.S a = true
  · rw [if_pos ia] at p1
    obtain ⟨fs, ha⟩ := isI_some ia
    obtain ⟨ad, dx, vs, rfl, h1, _⟩ := insD_at r1 ha rv
    exact .inl ⟨ad, dx, vs, rfl, h1, fn_post r1 (RDs.cons rv RDs.nil) p1⟩
  · rw [if_neg ia] at p1
    cases q : g g1.S a with
    | none => rw [q] at p1; exact False.elim p1
    | some d =>
      rw [q] at p1
      exact .inr ⟨g1, a, d, rfl, r1, rv, q, fun g' w x s r rw' => p1 g' x s r w rw'⟩
theorem i_ixO (h : tE K W (mIxO C (nbF (fnM np nn b)) ma mb) σ H Q) : tOp (rIxO C (fun vs H Q _ => spM K np (fnM np nn b) vs H Q E0) (rOp K gIx)) (tE K W ma) (tE K W mb) σ H Q := by
  obtain ⟨g0, e, rfl, rp, re, p⟩ := h
  refine ⟨g0, e, rfl, rp, re, (Post.bind p).imp fun a g1 e1 r1 ⟨_, _, p1⟩ v rv => ?_⟩
  refine ⟨g1, e, rfl, r1, re.mono e1, (Post.bind p1).imp fun y g2 e2 r2 ⟨_, _, p2⟩ u ru => ?_⟩
  have rv2 := rv.mono e2
  by_cases ia : isI C g2.S a = true
  · rw [if_pos ia] at p2
    obtain ⟨fs, ha⟩ := isI_some ia
    obtain ⟨ad, dx, vs, rfl, h1, _⟩ := insD_at r2 ha rv2
    exact .inl ⟨ad, dx, vs, rfl, h1, fn_post r2 (RDs.cons rv2 (RDs.cons ru RDs.nil)) p2⟩
  · rw [if_neg ia] at p2
    cases q : gIx g2.S a y with
    | none => rw [q] at p2; exact False.elim p2
    | some d =>
      rw [q] at p2
      exact .inr ⟨g2, a, y, d, rfl, r2, rv2, ru, q, fun g' w x s r rw' => p2 g' x s r w rw'⟩
theorem i_inO {neg : Bool} {g : Op2} (h : tE K W (mInO C neg (nbF (fnM np nn b)) g ma mb) σ H Q) : tOp (rInO C neg (fun vs H Q _ => spM K np (fnM np nn b) vs H Q E0) (rOp K g)) (tE K W ma) (tE K W mb) σ H Q := by
  obtain ⟨g0, e, rfl, rp, re, p⟩ := h
  refine ⟨g0, e, rfl, rp, re, (Post.bind p).imp fun a g1 e1 r1 ⟨_, _, p1⟩ v rv => ?_⟩
  refine ⟨g1, e, rfl, r1, re.mono e1, (Post.bind p1).imp fun y g2 e2 r2 ⟨_, _, p2⟩ u ru => ?_⟩
  have rv2 := rv.mono e2
  by_cases iy : isI C g2.S y = true
  · rw [if_pos iy] at p2
    obtain ⟨fs, ha⟩ := isI_some iy
    obtain ⟨ad, dx, vs, rfl, h1, _⟩ := insD_at r2 ha ru
    refine .inl ⟨ad, dx, vs, rfl, h1, ?_⟩
    have p3 : Post K W g2 (nbF (fnM np nn b) [y, a] g2.S) σ fun d g' => ∀ v, RD K g' d v → ∃ k, v = .bl k ∧ Q (.bl (k != neg)) g'.H := (Post.bind p2).imp fun d g3 e3 r3 ⟨_, _, p4⟩ v rd => by
      cases d with
      | bl k =>
        rw [RD] at rd
        exact ⟨k, rd, Post.here r3 p4 _ (by rw [RD])⟩
      | _ => exact False.elim p4
    exact fn_post (Q := fun v H' => ∃ k, v = .bl k ∧ Q (.bl (k != neg)) H') r2 (RDs.cons ru (RDs.cons rv2 RDs.nil)) p3
  · rw [if_neg iy] at p2
    cases q : g g2.S a y with
    | none => rw [q] at p2; exact False.elim p2
    | some d =>
      rw [q] at p2
      exact .inr ⟨g2, a, y, d, rfl, r2, rv2, ru, q, fun g' w x s r rw' => p2 g' x s r w rw'⟩
end
section
variable {X : Cx} {W : WX'} {k : Nat} {f C : Addr} {fd : FuncData} {ps : List Str} {np nn : Nat} {b : MS} {x y : Expr} {ma mb : ME} {pos : Pos}
theorem pm_neg (F : FnG X.prog X.w X.K X.mg X.base CX0 k f fd ps fun vs H Q _ => spM X.K np (fnM np nn b) vs H Q E0) (hr : RoomG k X.A) (hb : Binds X.K fd ps []) (w1 : OwnM X.K C "__neg__" f) (ha : PE X x (tE X.K W ma)) : PE X (.UnaryOp .USub x pos) (tE X.K W (mUnO C (nbF (fnM np nn b)) gNeg ma)) :=
  PE.imp (pe_un (o_negO F hr hb w1 o_neg) ha) fun _ _ _ => i_unO
theorem pm_ixO (F : FnG X.prog X.w X.K X.mg X.base CX0 k f fd ps fun vs H Q _ => spM X.K np (fnM np nn b) vs H Q E0) (hr : RoomG (k + 1) X.A) (hb : Binds X.K fd ps []) (w1 : OwnM X.K C "__getitem__" f) (w2 : fnIn X.K f = true) (ha : PE X x (tE X.K W ma)) (hy : PE X y (tE X.K W mb)) (hs : PlainIx y := by first | (intro _ _; rfl))
    (hsl : ∀ o i, subscripted y true o i = runValue (.builtin "lifetime.subscript" ⟨[o, i], []⟩) := by intro _ _; with_unfolding_all rfl) : PE X (.Subscript x y pos) (tE X.K W (mIxO C (nbF (fnM np nn b)) ma mb)) := PE.imp (pe_ixO F hr hb w1 w2 o_ix ha hy hs hsl) fun _ _ _ => i_ixO
theorem pm_inO {g : Op2} (F : FnG X.prog X.w X.K X.mg X.base CX0 k f fd ps fun vs H Q _ => spM X.K np (fnM np nn b) vs H Q E0) (hr : RoomG k X.A) (hb : Binds X.K fd ps []) (w1 : OwnM X.K C "__contains__" f) (ho : OpR X (compareOp .In) (rOp X.K g)) (ha : PE X x (tE X.K W ma)) (hy : PE X y (tE X.K W mb))
    (hm : behindInMarks .In y = false := by first | exact nomark _ | rfl | with_unfolding_all rfl) : PE X (.Compare x [.In] [y] pos) (tE X.K W (mInO C false (nbF (fnM np nn b)) g ma mb)) := PE.imp (pe_cmpR (o_inO F hr hb w1 ho) ha hy hm) fun _ _ _ => i_inO
theorem pm_ninO {g : Op2} (F : FnG X.prog X.w X.K X.mg X.base CX0 k f fd ps fun vs H Q _ => spM X.K np (fnM np nn b) vs H Q E0) (hr : RoomG k X.A) (hb : Binds X.K fd ps []) (w1 : OwnM X.K C "__contains__" f) (ho : OpR X (compareOp .NotIn) (rOp X.K g)) (ha : PE X x (tE X.K W ma)) (hy : PE X y (tE X.K W mb))
    (hm : behindInMarks .NotIn y = false := by first | exact nomark _ | rfl | with_unfolding_all rfl) : PE X (.Compare x [.NotIn] [y] pos) (tE X.K W (mInO C true (nbF (fnM np nn b)) g ma mb)) := PE.imp (pe_cmpR (o_ninO F hr hb w1 ho) ha hy hm) fun _ _ _ => i_inO
end
end Mo

namespace Mo
open PySem PySem.Spec PySem.Calls PyProof.Rows L2 PySem.W

/-! ### isinstance with an own class -/
structure IsiF (K : Frag) (C : Addr) : Prop where
  cl : Cls K C
  ha : findIn K (.ref C) "__class__" = some (some (.builtin "object.__class__"))
  hn : specialIn K (.builtin "object.__class__") "__get__" = some (some (.builtin "getset_descriptor.__get__"))
  htk : takesIn K (.builtin "object.__class__") = some true
  hm : mroIn K C (.type "object") = some true
  own : kitOne K (.ref C) (.ref C) = some true
  non : kitOne K (.type "NoneType") (.ref C) = some false
  bl : kitOne K (.type "bool") (.ref C) = some false
  int : kitOne K (.type "int") (.ref C) = some false
  str : kitOne K (.type "str") (.ref C) = some false
  tup : kitOne K (.type "tuple") (.ref C) = some false
  lst : kitOne K (.type "list") (.ref C) = some false
  dct : kitOne K (.type "dict") (.ref C) = some false
/-- is the data an instance of the class -/
def isiC (C : Addr) (S : List O) (d : D) : Option Bool := match d with
  | .non => some false
  | .bl _ => some false
  | .int _ => some false
  | .str _ => some false
  | .tup _ => some false
  | .lst _ => some false
  | .kl _ => some false
  | .fz E _ _ => if E = C then some true else none
  | .ref i => match S[i]? with
    | some (.lst _) => some false
    | some (.dct _) => some false
    | some (.ins E _) => if E = C then some true else none
    | _ => none
  | _ => none
def gIsiC (C : Addr) : OpN := fun S l => match l with
  | [d, .adr E] => if E = C then (isiC C S d).map .bl else none
  | _ => none
section
variable {K : Frag} {g : G} {C : Addr}
theorem isiC_ok (rp : Rep K g) (F : IsiF K C) {d : D} {b : Bool} (h : isiC C g.S d = some b) {v : V} (r : RD K g d v) : ∃ t, TyX K g.H v t ∧ kitOne K t (.ref C) = some b := by
  have seq : ∀ a vs, SqL K g.H a vs → ∃ t, TyX K g.H (.ref a) t ∧ kitOne K t (.ref C) = some false := fun a vs hq => by
    refine ⟨.type "list", ?_, F.lst⟩
    rcases hq with (hq | ⟨o, hq⟩) | ⟨o, its, n, e, c, _⟩
    · exact .base (.lst hq)
    · exact .base (.frz hq)
    · exact .kList e c
  cases d with
  | non => cases h; rw [RD] at r; subst r; exact ⟨_, .base .non, F.non⟩
  | bl x => cases h; rw [RD] at r; subst r; exact ⟨_, .base (.bl x), F.bl⟩
  | int x => cases h; rw [RD] at r; subst r; exact ⟨_, .base (.int x), F.int⟩
  | str x => cases h; rw [RD] at r; subst r; exact ⟨_, .base (.str x), F.str⟩
  | tup l =>
    cases h
    rw [RD] at r
    obtain ⟨a, vs, rfl, h1, _⟩ := r
    refine ⟨.type "tuple", ?_, F.tup⟩
    rcases h1.sq with (hq | ⟨o, hq⟩) | ⟨o, its, n, e, c, _⟩
    · exact .base (.tup hq)
    · exact .fTuple hq
    · exact .kTuple e c
  | lst l =>
    cases h
    rw [RD] at r
    obtain ⟨a, vs, rfl, h1, _⟩ := r
    exact seq a vs h1.sq
  | kl l =>
    cases h
    rw [RD] at r
    obtain ⟨a, vs, rfl, h1, _⟩ := r
    exact seq a vs h1.sq
  | fz E ns l =>
    unfold isiC at h
    dsimp only at h
    by_cases e : E = C
    · rw [if_pos e] at h
      cases h
      subst e
      rw [RD] at r
      obtain ⟨a, dx, vs, rfl, _, h1, _⟩ := r
      exact ⟨.ref E, .base (.ins h1.1 F.cl F.ha F.hn F.htk F.hm), F.own⟩
    · rw [if_neg e] at h; cases h
  | ref i =>
    rw [RD] at r
    unfold isiC at h
    dsimp only at h
    split at h
    · rename_i l hn
      cases h
      obtain ⟨vs, h1, _⟩ := rp.obj i _ hn
      rw [r.2]
      exact ⟨_, .base (.lst h1), F.lst⟩
    · rename_i l hn
      cases h
      obtain ⟨vs, h1, _⟩ := rp.obj i _ hn
      rw [r.2]
      exact ⟨_, .base (.dK h1), F.dct⟩
    · rename_i E fs hn
      by_cases e : E = C
      · rw [if_pos e] at h
        cases h
        subst e
        obtain ⟨dx, vs, h1, _⟩ := rp.obj i _ hn
        rw [r.2]
        exact ⟨.ref E, .base (.ins h1 F.cl F.ha F.hn F.htk F.hm), F.own⟩
      · rw [if_neg e] at h; cases h
    · cases h
  | _ => cases h
end
section
variable {X : Cx} {C : Addr}
theorem c_isiC (F : IsiF X.K C) : CallR X (.builtin "isinstance") (rN X.K (gIsiC C)) := by
  intro pins s σ H xs us Q I r h
  obtain ⟨g, ds, d, rfl, rp, rv, hf, q⟩ := h
  unfold gIsiC at hf
  split at hf
  · rename_i d' E
    by_cases e : E = C
    · rw [if_pos e] at hf
      subst e
      cases e : isiC E g.S d' with
      | none => rw [e] at hf; cases hf
      | some b =>
        rw [e] at hf; cases hf
        obtain ⟨v, u, rfl, h1, h2⟩ := rv.two
        rw [RD] at h2; subst h2
        obtain ⟨t, ht, hk⟩ := isiC_ok rp F e h1
        exact call_isi pins s σ _ _ us Q I r ⟨_, _, t, .ref E, b, rfl, .own E, ht, hk, q g _ (Ext.refl g) rfl rp (by rw [RD])⟩
    · rw [if_neg e] at hf; cases hf
  · cases hf
end

/-! ### == and != of instances without __eq__: the same one or not -/
def gNeI (C : Addr) (g : Op2) : Op2 := fun S a b => match a, b with
  | .ref n, .ref m => match S[n]?, S[m]? with
    | some (.ins E _), some (.ins E' _) => if E = C ∧ E' = C then some (.bl (!decide (n = m))) else none
    | _, _ => g S a b
  | _, _ => g S a b
def gEqI (C : Addr) (g : Op2) : Op2 := fun S a b => match a, b with
  | .ref n, .ref m => match S[n]?, S[m]? with
    | some (.ins E _), some (.ins E' _) => if E = C ∧ E' = C then some (.bl (decide (n = m))) else none
    | _, _ => g S a b
  | _, _ => g S a b
section
variable {X : Cx} {C : Addr} {g : Op2}
theorem o_neI (F : EqF X.K C) (hu : X.A.units + 64 < cLine) (ho : OpR X (compareOp .NotEq) (rOp X.K g)) : OpR X (compareOp .NotEq) (rOp X.K (gNeI C g)) := by
  intro pins s σ H x y v u Q I rx ry h
  obtain ⟨g1, a, b, d, rfl, rp, ra, rb, hf, q⟩ := h
  unfold gNeI at hf
  split at hf
  · rename_i n m
    split at hf
    · rename_i E fs E' fs' hn hm
      by_cases hc : E = C ∧ E' = C
      · rw [if_pos hc] at hf
        cases hf
        obtain ⟨rfl, rfl⟩ := hc
        rw [RD] at ra rb
        obtain ⟨hl, rfl⟩ := ra
        obtain ⟨hl', rfl⟩ := rb
        cases (show v = Value.ref (g1.ρ n) from rx)
        cases (show u = Value.ref (g1.ρ m) from ry)
        obtain ⟨dx, vs, h1, _⟩ := rp.obj n _ hn
        obtain ⟨dy, ws, h2, _⟩ := rp.obj m _ hm
        obtain ⟨od, J⟩ := inst_of I h1
        obtain ⟨od', J'⟩ := inst_of I h2
        have fin : ∀ k, k = (!decide (n = m)) → EP X pins σ Q (.bool k) s := fun k hk => ⟨.bl k, g1.H, I, rfl, by rw [hk]; exact q g1 _ (Ext.refl g1) rfl rp (by rw [RD])⟩
        by_cases e : n = m
        · subst e
          exact rc_ne_same I.kIn J F (by omega) (fin _ (by simp))
        · have ne : g1.ρ n ≠ g1.ρ m := fun z => e (rp.inj n m _ _ hn (by intro z; cases z) hm (by intro z; cases z) z)
          exact rc_ne_other I.kIn J J' ne F (by omega) (fin _ (by simp [e]))
      · rw [if_neg hc] at hf; cases hf
    · exact ho pins s σ _ x y v u Q I rx ry ⟨g1, _, _, d, rfl, rp, ra, rb, hf, q⟩
  · exact ho pins s σ _ x y v u Q I rx ry ⟨g1, _, _, d, rfl, rp, ra, rb, hf, q⟩
theorem o_eqI (F : EqF X.K C) (hu : X.A.units + 64 < cLine) (ho : OpR X (compareOp .Eq) (rOp X.K g)) : OpR X (compareOp .Eq) (rOp X.K (gEqI C g)) := by
  intro pins s σ H x y v u Q I rx ry h
  obtain ⟨g1, a, b, d, rfl, rp, ra, rb, hf, q⟩ := h
  unfold gEqI at hf
  split at hf
  · rename_i n m
    split at hf
    · rename_i E fs E' fs' hn hm
      by_cases hc : E = C ∧ E' = C
      · rw [if_pos hc] at hf
        cases hf
        obtain ⟨rfl, rfl⟩ := hc
        rw [RD] at ra rb
        obtain ⟨hl, rfl⟩ := ra
        obtain ⟨hl', rfl⟩ := rb
        cases (show v = Value.ref (g1.ρ n) from rx)
        cases (show u = Value.ref (g1.ρ m) from ry)
        obtain ⟨dx, vs, h1, _⟩ := rp.obj n _ hn
        obtain ⟨dy, ws, h2, _⟩ := rp.obj m _ hm
        obtain ⟨od, J⟩ := inst_of I h1
        obtain ⟨od', J'⟩ := inst_of I h2
        have fin : ∀ k, k = (decide (n = m)) → EP X pins σ Q (.bool k) s := fun k hk => ⟨.bl k, g1.H, I, rfl, by rw [hk]; exact q g1 _ (Ext.refl g1) rfl rp (by rw [RD])⟩
        by_cases e : n = m
        · subst e
          exact rc_eq_same I.kIn J F (by omega) (fin _ (by simp))
        · have ne : g1.ρ n ≠ g1.ρ m := fun z => e (rp.inj n m _ _ hn (by intro z; cases z) hm (by intro z; cases z) z)
          exact rc_eq_other I.kIn J J' ne F (by omega) (fin _ (by simp [e]))
      · rw [if_neg hc] at hf; cases hf
    · exact ho pins s σ _ x y v u Q I rx ry ⟨g1, _, _, d, rfl, rp, ra, rb, hf, q⟩
  · exact ho pins s σ _ x y v u Q I rx ry ⟨g1, _, _, d, rfl, rp, ra, rb, hf, q⟩
end

/-! ### C.m(..), m a static method -/
structure StatM (K : Frag) (C : Addr) (m : Str) (mc : Value) (p f : Addr) : Prop where
  rd : readsIn K C mc = true
  ga : specialIn K (.ref C) "__getattribute__" = some (some (.builtin "type.__getattribute__"))
  at_ : findCls K (.ref C) mc m = some (.get (.builtin "staticmethod.__get__") (.ref p) .none (.ref C))
  rc : ∃ rest, recIn K p "staticmethod" = some (.ref f :: rest)
  kp : keepIn K (.ref f) = true
section
variable {X : Cx} {CX : CXT} {k : Nat} {f C p0 : Addr} {fd : FuncData} {ps : List Str} {sp : Sp} {W : WX'} {x mn : Str} {mc : Value} {p pos apos : Pos} {e : Expr} {es : List Expr} {t : TA} {m : MA}
theorem getstat_ok {pins : List (Addr × Obj)} {σ : L2.St} {H : Hp} {s : Shared} {pl : Sem Bool} {A : Around} {E : Value → Shared → Prop} {Q : Value × List Value → Shared → Prop} (I : L2.Inv X pins σ H s) (w1 : StatM X.K C mn mc p0 f)
    (h : ∀ tk, Q (.ref f, []) { s with toks := tk }) : wpAny (model X.prog X.w) A (getMethod (.ref C) mn pl) Q E s := by
  obtain ⟨rest, hp⟩ := w1.rc
  refine method_cls I.kIn w1.ga (cls_bind I.kIn w1.rd w1.at_ ?_)
  exact wpAny_call (sm_get (s := { s with toks := s.toks + 1 }) I.kIn hp (handed_on rfl (h _)))
theorem pe_callS {pl : Sem Bool} (w1 : StatM X.K C mn mc p0 f) (F : FnG X.prog X.w X.K X.mg X.base CX k f fd ps sp) (hr : RoomG k X.A) (hg : Gl X x) (hm : X.mg x = some (.ref C)) (hb : Binds X.K fd ps []) (hx : PassG CX X W) (ha : PA X (e :: es) t)
    (hdb : (x == ("__debug__" : Str)) = false := by decide) (hst : starEach (e :: es) X.env = (false, eval e X.env) :: starEach es X.env := by rfl) (hpl : (backTo pos (starEach es X.env)).any (·.1) = false := by rfl)
    (ht : eval (.Call (.Attribute (.Name x p) mn apos) (e :: es) [] pos) X.env = (do
      let ov ← eval (.Name x p) X.env
      standAt apos.atName
      let (f, first) ← holding [ov] (getMethod ov mn pl)
      callWith pos f first (backTo pos (starEach (e :: es) X.env)) (backToKw pos (keywordEach [] X.env))) := by rfl) :
    PE X (.Call (.Attribute (.Name x p) mn apos) (e :: es) [] pos) (tCallG sp W t) := by
  refine ⟨fun pins s σ H Q I h => ?_⟩
  refine methodCall_KW (pl := pl) (thn ((pe_glob (v := .ref C) hg hm rfl hdb).run pins s σ H (fun v H' => v = .ref C ∧ t σ H' fun vs H1 => sp vs H1 Q fun cls d H' => W cls d σ H') I ⟨rfl, h⟩) fun u s1 ⟨v, H1, I1, rx, ev, q⟩ => ?_) ht
  subst ev
  obtain rfl : u = Value.ref C := rx
  refine getstat_ok I1 w1 fun tk => ?_
  have I2 := I1.tok tk
  refine callWith_K (first := []) (h₀ := X.base) I2.ok.mod.kin w1.kp (thn (ha.run pos pins _ σ H1 _ I2 q) fun us s3 ⟨vs, H2, I3, r, q2⟩ => ⟨I3.kIn, ?_⟩) hst hpl
  refine wpAny_call (codeAny_mono (run_g F hr (fun hl => by have := hb s3 us I3.kIn (by simpa using hl); simpa using this) (fun e s' hc => hx pins σ H2 s3 e s' I3 hc) I3 r q2) fun r s' hq => ?_)
  cases r with
  | error e => exact hq
  | ok fl => cases fl <;> exact hq
variable {np nn : Nat} {b : MS}
theorem pm_callS {pl : Sem Bool} (w1 : StatM X.K C mn mc p0 f) (F : FnG X.prog X.w X.K X.mg X.base CX0 k f fd ps fun vs H Q _ => spM X.K np (fnM np nn b) vs H Q E0) (hr : RoomG k X.A) (hg : Gl X x) (hm : X.mg x = some (.ref C)) (hb : Binds X.K fd ps []) (ha : PA X (e :: es) (tA X.K W m))
    (hdb : (x == ("__debug__" : Str)) = false := by decide) (hst : starEach (e :: es) X.env = (false, eval e X.env) :: starEach es X.env := by rfl) (hpl : (backTo pos (starEach es X.env)).any (·.1) = false := by rfl)
    (ht : eval (.Call (.Attribute (.Name x p) mn apos) (e :: es) [] pos) X.env = (do
      let ov ← eval (.Name x p) X.env
      standAt apos.atName
      let (f, first) ← holding [ov] (getMethod ov mn pl)
      callWith pos f first (backTo pos (starEach (e :: es) X.env)) (backToKw pos (keywordEach [] X.env))) := by rfl) :
    PE X (.Call (.Attribute (.Name x p) mn apos) (e :: es) [] pos) (tE X.K W (mCall (nbF (fnM np nn b)) m)) := PE.imp (pe_callS (pl := pl) w1 F hr hg hm hb passG0 ha hdb hst hpl ht) fun _ _ _ => i_callN
end

/-! ### what is never reached; constants of the module -/
def sBad : MS := fun _ _ => .bad
def mBad : ME := fun _ _ => .bad
section
variable {X : Cx} {W : WX'} {K : Frag} {g : G}
theorem sm_bad {st : Stmt} : PS X st (tS X.K W sBad) := ⟨fun p s σ H D I q => by obtain ⟨g, e, _, _, _, z⟩ := q; exact False.elim z⟩
theorem pm_bad {e : Expr} : PE X e (tE X.K W mBad) := ⟨fun p s σ H Q I q => by obtain ⟨g, e, _, _, _, z⟩ := q; exact False.elim z⟩
theorem pm_cint {x : Str} {i : Int} {t : Tok} {pos : Pos} (hg : Gl X x) (hm : X.mg x = some (.int i t)) (hd : (x == ("__debug__" : Str)) = false := by decide) : PE X (.Name x pos) (tE X.K W (mC (.int i))) :=
  PE.imp (pe_glob (v := .int i) hg hm ⟨_, rfl⟩ hd) fun _ _ _ => i_C fun g => by rw [RD]
theorem pm_cstr {x : Str} {i : Str} {t : Tok} {pos : Pos} (hg : Gl X x) (hm : X.mg x = some (.str i t)) (hd : (x == ("__debug__" : Str)) = false := by decide) : PE X (.Name x pos) (tE X.K W (mC (.str i))) :=
  PE.imp (pe_glob (v := .str i) hg hm ⟨_, rfl⟩ hd) fun _ _ _ => i_C fun g => by rw [RD]
/-- the texts that some values are -/
def strsV : List Value → Option (List Str)
  | [] => some []
  | .str x _ :: r => (strsV r).map (x :: ·)
  | _ => none
theorem strsV_ok : ∀ {l : List Value} {xs : List Str}, strsV l = some xs → Vals (xs.map V.str) l ∧ RDs K g (xs.map D.str) (xs.map V.str)
  | [], xs, h => by cases h; exact ⟨.nil, RDs.nil⟩
  | v :: r, xs, h => by
    cases v with
    | str x t =>
      unfold strsV at h
      cases e : strsV r with
      | none => rw [e] at h; cases h
      | some ys =>
        rw [e] at h; cases h
        obtain ⟨h1, h2⟩ := strsV_ok e
        exact ⟨.cons ⟨t, rfl⟩ h1, RDs.cons (by rw [RD]) h2⟩
    | _ => cases h
/-- a module's tuple of texts -/
theorem pm_ctup {x : Str} {a : Addr} {od : Option Addr} {its : Array Value} {n : Nat} {sl : Array (Option Value)} {xs : List Str} {pos : Pos} (hg : Gl X x) (hm : X.mg x = some (.ref a)) (lk : X.K.lookup a = some ⟨.type "tuple", od, .seq its n, sl⟩) (hs : strsV its.toList = some xs) (hz : its.size ≤ sz)
    (hd : (x == ("__debug__" : Str)) = false := by decide) : PE X (.Name x pos) (tE X.K W (mC (.tup (xs.map .str)))) :=
  PE.imp (pe_glob (v := .ref a) hg hm rfl hd) fun _ _ _ => i_C fun g => by
    rw [RD]
    obtain ⟨h1, h2⟩ := strsV_ok (K := X.K) (g := g) hs
    exact ⟨a, _, rfl, .inr (.inr ⟨_, its, n, lk, rfl, rfl, by rw [← sz_eq]; exact hz, h1⟩), h2⟩
end
end Mo

namespace Mo
open PySem PySem.Spec PySem.Calls PyProof.Rows L2 PySem.W

/-! ### zip -/
def zipD (r q : List D) : List D := (r.zip q).map fun p => .tup [p.1, p.2]
theorem zipD_get {r q : List D} {i : Nat} {d : D} (h : (zipD r q)[i]? = some d) : ∃ x y, r[i]? = some x ∧ q[i]? = some y ∧ d = .tup [x, y] := by
  unfold zipD at h
  rw [List.getElem?_map] at h
  cases e : (r.zip q)[i]? with
  | none => rw [e] at h; cases h
  | some p =>
    rw [e] at h; cases h
    obtain ⟨h1, h2⟩ := List.getElem?_zip_eq_some.mp e
    exact ⟨p.1, p.2, h1, h2, rfl⟩
theorem zipD_len {r q : List D} : (zipD r q).length = min r.length q.length := by unfold zipD; rw [List.length_map, List.length_zip]
def miZip (m : MA) : MI := fun e S => (m e S).bind fun l S1 => match l with
  | [.tup r, .tup q] => .ok (zipD r q, anyS) S1
  | [.ref n, .ref k] => match S1[n]?, S1[k]? with
    | some (.lst r), some (.lst q) => .ok (zipD r q, fun S => decide (S[n]? = some (.lst r)) && decide (S[k]? = some (.lst q))) S1
    | _, _ => .bad
  | _ => .bad
theorem jok_zipT {K : Frag} {g : G} {a b : Addr} {vs us : List V} {r q : List D} (h1 : gT K g a vs) (h2 : RDs K g r vs) (k1 : gT K g b us) (k2 : RDs K g q us) : Jok K g (RZ.ItzT K a b) (zipD r q) anyS := fun g' s kp rp c i => by
  have h1 := h1.sim s.toSim0
  have h2 := h2.sim s
  have k1 := k1.sim s.toSim0
  have k2 := k2.sim s
  have hl := h2.length
  have kl := k2.length
  refine ⟨fun hi => ⟨vs, us, h1.sq, k1.sq, by rw [zipD_len] at hi; omega⟩, fun d hd => ?_⟩
  obtain ⟨x, y, hx, hy, rfl⟩ := zipD_get hd
  obtain ⟨v, hv, rv⟩ := h2.get hx
  obtain ⟨u, hu, ru⟩ := k2.get hy
  refine ⟨⟨vs, us, v, u, h1.sq, k1.sq, hv, hu⟩, fun w H' z => ?_⟩
  obtain ⟨T, x', y', rfl, hT, rfl, hx', hy'⟩ := z
  have e1 := hx' vs h1.sq
  have e2 := hy' us k1.sq
  rw [hv] at e1
  rw [hu] at e2
  cases e1; cases e2
  obtain ⟨n1, n2, n3⟩ := new_tup rp hT (RDs.cons rv (RDs.cons ru RDs.nil))
  exact ⟨_, n1, rfl, rfl, n2, n3⟩
theorem jok_zip {K : Frag} {g : G} {a b : Addr} {r q : List D} {chk : List O → Bool} (h : ∀ g', Sim g g' → Rep K g' → chk g'.S = true → ∃ vs us, SqL K g'.H a vs ∧ RDs K g' r vs ∧ SqL K g'.H b us ∧ RDs K g' q us) : Jok K g (Itz K a b) (zipD r q) chk := fun g' s kp rp c i => by
  obtain ⟨vs, us, h1, h2, k1, k2⟩ := h g' s rp c
  have hl := h2.length
  have kl := k2.length
  refine ⟨fun hi => ⟨vs, us, h1, k1, by rw [zipD_len] at hi; omega⟩, fun d hd => ?_⟩
  obtain ⟨x, y, hx, hy, rfl⟩ := zipD_get hd
  obtain ⟨v, hv, rv⟩ := h2.get hx
  obtain ⟨u, hu, ru⟩ := k2.get hy
  refine ⟨⟨vs, us, v, u, h1, k1, hv, hu⟩, fun w H' z => ?_⟩
  obtain ⟨T, x', y', rfl, hT, rfl, hx', hy'⟩ := z
  have e1 := hx' vs h1
  have e2 := hy' us k1
  rw [hv] at e1
  rw [hu] at e2
  cases e1; cases e2
  obtain ⟨n1, n2, n3⟩ := new_tup rp hT (RDs.cons rv (RDs.cons ru RDs.nil))
  exact ⟨_, n1, rfl, rfl, n2, n3⟩
section
variable {X : Cx} {W : WX'}
theorem im_zip {e e2 : Expr} {m : MA} {p pos tpos : Pos} {elts : List Expr} {kk : Nat} (hg : Gl X "zip") (hm : X.mg "zip" = none) (ha : PA X [e, e2] (tA X.K W m)) (hs : starEach [e, e2] X.env = (false, eval e X.env) :: starEach [e2] X.env := by rfl) (hpl : (backTo pos (starEach [e2] X.env)).any (·.1) = false := by rfl) :
    PI X (.Tuple elts kk tpos) (.Call (.Name "zip" p) [e, e2] [] pos) (tI X.K W (miZip m)) := PI.imp (RZ.pi_zipA hg hm ha hs hpl) fun σ H R' ⟨g, e, hH, rp, re, p⟩ => by
  subst hH
  refine ⟨g, e, rfl, rp, re, (Post.bind p).imp fun l g1 e1 r1 ⟨_, _, p1⟩ vs rv => ?_⟩
  split at p1
  · obtain ⟨v, u, rfl, hv, hu⟩ := rv.two
    rw [RD] at hv hu
    obtain ⟨a, ws, rfl, h1, h2⟩ := hv
    obtain ⟨b, us, rfl, k1, k2⟩ := hu
    exact ⟨a, b, ws, us, rfl, .inr ⟨h1.sq, k1.sq, Post.here r1 p1 _ (jok_zipT h1 h2 k1 k2)⟩⟩
  · rename_i n k _
    split at p1
    · rename_i r q hn hk
      obtain ⟨v, u, rfl, hv, hu⟩ := rv.two
      rw [RD] at hv hu
      obtain ⟨ws, h1, h2⟩ := r1.obj n _ hn
      obtain ⟨us, k1, k2⟩ := r1.obj k _ hk
      refine ⟨g1.ρ n, g1.ρ k, ws, us, by rw [hv.2, hu.2], .inl ⟨.inl (.inl h1), .inl (.inl k1), Post.here r1 p1 _ (jok_zip fun g' s rp' c => ?_)⟩⟩
      rw [Bool.and_eq_true] at c
      have c1 := of_decide_eq_true c.1
      have c2 := of_decide_eq_true c.2
      obtain ⟨ws', a1, a2⟩ := rp'.obj n _ c1
      obtain ⟨us', b1, b2⟩ := rp'.obj k _ c2
      rw [s.ag n hv.1] at a1
      rw [s.ag k hu.1] at b1
      exact ⟨ws', us', .inl (.inl a1), a2, .inl (.inl b1), b2⟩
    · exact False.elim p1
  · exact False.elim p1
end

/-! ### x in xs, xs.index(x) by data of any depth -/
def inP (S : List O) (a b : D) : Option Bool := match toPyS S a, toPyS S b with
  | some p, some (.list ds) => if SeqAt.shaped p = true ∧ SeqAt.shaped (.list ds) = true then some (ds.any fun z => PyData.eqv z p) else none
  | _, _ => none
def gInP : Op2 := fun S a b => (inP S a b).map .bl
def gNinP : Op2 := fun S a b => (inP S a b).map fun k => .bl (!k)
def gIndexP : OpM := fun S a l => match l with
  | [y] => match toPyS S a, toPyS S y with
    | some (.list ds), some d => if SeqAt.shaped (.list ds) = true ∧ SeqAt.shaped d = true then (match ds.findIdx? (fun z => PyData.eqv z d) with
      | some j => some (.int (j : Nat), S)
      | none => none) else none
    | _, _ => none
  | _ => none
theorem inP_cases {S : List O} {a b : D} {k : Bool} (h : inP S a b = some k) : ∃ p ds, toPyS S a = some p ∧ toPyS S b = some (.list ds) ∧ SeqAt.shaped p = true ∧ SeqAt.shaped (.list ds) = true ∧ k = ds.any fun z => PyData.eqv z p := by
  unfold inP at h
  split at h
  · rename_i p ds h1 h2
    by_cases hc : SeqAt.shaped p = true ∧ SeqAt.shaped (.list ds) = true
    · rw [if_pos hc] at h
      cases h
      exact ⟨p, ds, h1, h2, hc.1, hc.2, rfl⟩
    · rw [if_neg hc] at h; cases h
  · cases h
section
variable {X : Cx}
theorem o_inP (hu : X.A.units + 65 < cLine) : OpR X (compareOp .In) (rOp X.K gInP) := by
  intro pins s σ H x y v u Q I rx ry h
  obtain ⟨g, a, b, d, rfl, rp, ra, rb, hf, q⟩ := h
  unfold gInP at hf
  cases e : inP g.S a b with
  | none => rw [e] at hf; cases hf
  | some k =>
    rw [e] at hf; cases hf
    obtain ⟨p, ds, h1, h2, h3, h4, rfl⟩ := inP_cases e
    exact op_inD hu pins s σ _ _ _ v u Q I rx ry ⟨p, ds, toPyS_ok rp h1 ra, toPyS_ok rp h2 rb, h3, h4, q g _ (Ext.refl g) rfl rp (by rw [RD])⟩
theorem o_ninP (hu : X.A.units + 65 < cLine) : OpR X (compareOp .NotIn) (rOp X.K gNinP) := by
  intro pins s σ H x y v u Q I rx ry h
  obtain ⟨g, a, b, d, rfl, rp, ra, rb, hf, q⟩ := h
  unfold gNinP at hf
  cases e : inP g.S a b with
  | none => rw [e] at hf; cases hf
  | some k =>
    rw [e] at hf; cases hf
    obtain ⟨p, ds, h1, h2, h3, h4, rfl⟩ := inP_cases e
    exact op_notInD hu pins s σ _ _ _ v u Q I rx ry ⟨p, ds, toPyS_ok rp h1 ra, toPyS_ok rp h2 rb, h3, h4, q g _ (Ext.refl g) rfl rp (by rw [RD])⟩
theorem t_indexP (hu : X.A.units + 65 < cLine) : MtM X "list.index" (rMt X.K gIndexP) := by
  intro pins s σ H x vs v us Q I rx rv h
  obtain ⟨g, a, ds, d, S', rfl, rp, ra, rds, hf, q⟩ := h
  unfold gIndexP at hf
  split at hf
  · rename_i y
    split at hf
    · rename_i zs p h1 h2
      by_cases hc : SeqAt.shaped (.list zs) = true ∧ SeqAt.shaped p = true
      · rw [if_pos hc] at hf
        split at hf
        · rename_i j hj
          cases hf
          obtain ⟨w, rfl, rw'⟩ := rds.one
          have dl := toPyS_ok rp h1 ra
          obtain ⟨hlt, hz, hno⟩ := List.findIdx?_eq_some_iff_getElem.mp hj
          have hx : ∃ ad, x = .ref ad := by cases dl; exact ⟨_, rfl⟩
          obtain ⟨ad, rfl⟩ := hx
          refine mt_indexD hu pins s σ _ _ _ v us Q I rx rv ⟨ad, w, p, zs, j, zs[j], rfl, rfl, dl, toPyS_ok rp h2 rw', hc.1, hc.2, List.getElem?_eq_getElem hlt, hz, fun m z' hm hz' => ?_, q g _ (Ext.refl g) rfl rp (by rw [RD])⟩
          have := hno m hm
          obtain ⟨hml, e⟩ := List.getElem?_eq_some_iff.mp hz'
          rw [e] at this
          simpa using this
        · cases hf
      · rw [if_neg hc] at hf; cases hf
    · cases hf
  · cases hf
end

/-! ### C(k = v, ..) -/
def mMakeK (C : Addr) (ix : List Nat) (init : List D → List O → R D) (mk : MA) : ME := fun e S => (mk e S).bind fun l S1 => (init (permL ix (.ref S1.length :: l)) (S1 ++ [.ins C []])).bind fun d S2 => if d = .non then .ok (.ref S1.length) S2 else .bad
def tMakeKG (C : Addr) (nk : Nat) (ix : List Nat) (sp : Sp) (W : WX') (tk : TA) : TE := fun σ H Q => tk σ H fun zs H1 => zs.length = nk ∧ ∀ x dx, H1 x = none → H1 dx = none → dx ≠ x → sp (permL ix (.ref x :: zs)) (upd (upd H1 dx (.own x)) x (.ins C dx [])) (fun v H2 => v = .non ∧ Q (.ref x) H2) fun cls d H' => W cls d σ H'
/-- .. n keywords -/
def mMakeKn (C : Addr) (nk : Nat) (ix : List Nat) (init : List D → List O → R D) (mk : MA) : ME := fun e S => (mk e S).bind fun l S1 => if l.length = nk then (init (permL ix (.ref S1.length :: l)) (S1 ++ [.ins C []])).bind fun d S2 => (if d = .non then .ok (.ref S1.length) S2 else .bad) else .bad
theorem RDs.perm {K : Frag} {g : G} {l : List D} {vs : List V} (h : RDs K g l vs) : ∀ ix : List Nat, RDs K g (permL ix l) (permL ix vs)
  | [] => RDs.nil
  | i :: ix => by
    unfold permL
    rw [List.filterMap_cons, List.filterMap_cons]
    cases e : l[i]? with
    | none =>
      have : vs[i]? = none := by
        rw [List.getElem?_eq_none_iff] at e ⊢
        rw [← h.length]; exact e
      rw [this]
      exact RDs.perm h ix
    | some d =>
      obtain ⟨v, hv, rv⟩ := h.get e
      rw [hv]
      exact RDs.cons rv (RDs.perm h ix)
section
variable {K : Frag} {W : WX'} {σ : L2.St} {H : Hp} {Q : VK} {C : Addr} {mk : MA} {np nn nk : Nat} {ix : List Nat} {b : MS}
theorem i_makeKN (h : tE K W (mMakeKn C nk ix (nbF (fnM np nn b)) mk) σ H Q) : tMakeKG C nk ix (fun vs H Q _ => spM K np (fnM np nn b) vs H Q E0) W (tA K W mk) σ H Q := by
  obtain ⟨g, e, hH, rp, re, p⟩ := h
  subst hH
  refine ⟨g, e, rfl, rp, re, (Post.bind p).imp fun l g1 e1 r1 ⟨_, _, p1⟩ vs rv => ?_⟩
  by_cases hl : l.length = nk
  · rw [if_pos hl] at p1
    refine ⟨by rw [← rv.length]; exact hl, fun x dx hx hd ne => ?_⟩
    obtain ⟨a1, a2, a3⟩ := inst_ok (C := C) r1 hx hd ne
    have p2 := Post.mono a1 p1
    have rr := (RDs.cons a3 (rv.mono a1)).perm ix
    have p3 : Post K W (g1.inst x dx C) (nbF (fnM np nn b) (permL ix (.ref g1.S.length :: l)) (g1.S ++ [.ins C []])) σ fun d g' => ∀ v, RD K g' d v → v = .non ∧ Q (.ref x) g'.H := (Post.bind p2).imp fun d g' y r' ⟨_, _, p4⟩ v rd => by
      by_cases hn : d = .non
      · rw [if_pos hn] at p4
        subst hn
        rw [RD] at rd
        obtain ⟨k1, k2⟩ := inst_at y
        exact ⟨rd, Post.here r' p4 (.ref x) (by rw [RD]; exact ⟨k1, by rw [k2]⟩)⟩
      · rw [if_neg hn] at p4; exact False.elim p4
    exact fn_post (Q := fun v H' => v = .non ∧ Q (.ref x) H') (g1 := g1.inst x dx C) a2 rr p3
  · rw [if_neg hl] at p1; exact False.elim p1
end
section
variable {X : Cx} {CX : CXT} {k : Nat} {f C : Addr} {fd : FuncData} {ps ks : List Str} {sp : Sp} {W : WX'} {x : Str} {p pos : Pos} {kws : List Keyword} {tk : TA} {mk : MA} {nk : Nat} {ix : List Nat}
theorem pe_makeKG (M : Mk X.K C f) (F : FnG X.prog X.w X.K X.mg X.base CX k f fd ps sp) (hr : RoomG (k + 1) X.A) (hg : Gl X x) (hm : X.mg x = some (.ref C)) (hb : KBindsG X.K fd ps ks 1 ix) (hx : PassG CX X W) (hnk : ks.length = nk)
    (hkw : PK X kws tk) (ka : KAt X kws ks) (hdb : (x == ("__debug__" : Str)) = false := by decide) : PE X (.Call (.Name x p) [] kws pos) (tMakeKG C nk ix sp W tk) := by
  refine ⟨fun pins s σ H Q I h => ?_⟩
  refine wpAny_Call_Name_kw (ld_glob I hg hm ?_ hdb)
  refine callWith_KW0 (h₀ := X.base) I.ok.mod.kin M.kp (ka.all pos) ?_ (by
    show (([] : List (Bool × Sem Value)).any (·.1) || _) = false
    rw [ka.none pos] <;> rfl)
  refine thn (hkw.run pos pins s σ H _ I h) fun ws s2 ⟨zs, H2, I2, rz, h1, q2⟩ => ⟨I2.kIn, ?_⟩
  rw [ka.names pos]
  have hz : ws.length = ks.length := by rw [← rz.length, h1, hnk]
  have hq := q2 (s2.heap.objs.size + 1) s2.heap.objs.size (I2.hok.fresh (Nat.le_succ _)) (I2.hok.fresh (Nat.le_refl _)) (Nat.ne_of_lt (Nat.lt_succ_self _))
  have I3 := Inv.made (C := C) I2
  have r2 : Vals (permL ix (V.ref (s2.heap.objs.size + 1) :: zs)) (permL ix (Value.ref (s2.heap.objs.size + 1) :: ws)) := pick_vals (xs := V.ref (s2.heap.objs.size + 1) :: zs) (its := Value.ref (s2.heap.objs.size + 1) :: ws) (.cons rfl rz) ix
  refine wpAny_call (make_map (f := f) I2.kIn M.makes M.init (beq_iff_eq.mp M.fn) (codeAny_mono (F.run _ X.stack _ _ ⟨Value.ref (s2.heap.objs.size + 1) :: [], ks.zip ws⟩ (permL ix (Value.ref (s2.heap.objs.size + 1) :: ws)) _ _ _ (hr.make C [] (ks.zip ws))
    (I3.env0.make C [] (ks.zip ws)) (hb _ [Value.ref (s2.heap.objs.size + 1)] ws I3.kIn rfl hz) r2 hq) fun r s' hq' => ?_))
  cases r with
  | error e => exact hx pins σ _ _ e s' I3 hq'
  | ok fl =>
    cases fl with
    | ret u =>
      obtain ⟨v, H', I4, rv, ev, q3⟩ := I3.after hq'
      subst ev
      exact ⟨rv, ⟨V.ref (s2.heap.objs.size + 1), H', I4, rfl, q3⟩⟩
    | next => exact False.elim hq'
    | brk => exact False.elim hq'
    | cont => exact False.elim hq'
variable {np nn : Nat} {b : MS}
theorem pm_makeK (M : Mk X.K C f) (F : FnG X.prog X.w X.K X.mg X.base CX0 k f fd ps fun vs H Q _ => spM X.K np (fnM np nn b) vs H Q E0) (hr : RoomG (k + 1) X.A) (hg : Gl X x) (hm : X.mg x = some (.ref C)) (hb : KBindsG X.K fd ps ks 1 ix) (hnk : ks.length = nk)
    (hkw : PK X kws (tA X.K W mk)) (ka : KAt X kws ks) (hdb : (x == ("__debug__" : Str)) = false := by decide) : PE X (.Call (.Name x p) [] kws pos) (tE X.K W (mMakeKn C nk ix (nbF (fnM np nn b)) mk)) :=
  PE.imp (pe_makeKG (W := W) M F hr hg hm hb passG0 hnk hkw ka hdb) fun _ _ _ => i_makeKN
end

/-! ### a += b, both of an own class without __iadd__ -/
structure NoI (K : Frag) (C : Addr) (op : Operator) : Prop where
  mro : (clsIn K C).map (·.mro) = some [.ref C, .type "object"]
  i1 : findIn K (.ref C) (dunderI op.info.2) = some none
  i2 : findIn K (.type "object") (dunderI op.info.2) = some none
section
variable {prog : Program} {w : World} {M : Model} {A : Around} {E : Value → Shared → Prop} {s : Shared} {K : Frag} {x C f : Addr} {ox : Obj} {od : Option Obj} {op : Operator}
theorem fillsI_none {h : Heap} {add : Bool} (X : K.In h) (N : NoI K C op) : Looks M h (fillsInplaceSlot (.ref C) op.info.2 add) false := by
  intro A Q E s k q
  obtain ⟨cd, hc, hm⟩ := Option.map_eq_some_iff.mp N.mro
  have Lm : Looks M h (mroOf (.ref C)) cd.mro := (looks_clsIn X hc).andThen (f := fun cd => pure cd.mro) .now
  have Lm' := Lm.keeps k
  obtain ⟨hh, g, d, tt, os⟩ := s
  have X' : K.In hh := X.keeps k
  have L1 : Looks M hh (typeLookup (.ref C) (dunderI op.info.2)) none := looks_findIn X' N.i1
  have L2 : Looks M hh (typeLookup (.type "object") (dunderI op.info.2)) none := looks_findIn X' N.i2
  unfold fillsInplaceSlot
  refine wpAny_bind (Lm'.at ?_)
  rw [hm, List.anyM_cons]
  refine wpAny_bind (wpAny_bind (L1.at ?_))
  refine wpAny_pure ?_
  simp only [Bool.false_eq_true, if_false]
  rw [List.anyM_cons]
  refine wpAny_bind (wpAny_bind (L2.at ?_))
  refine wpAny_pure ?_
  simp only [Bool.false_eq_true, if_false, List.anyM_nil]
  exact wpAny_pure q
theorem inpl_same {b : Value} {Q : Value → Shared → Prop} (X : K.In s.heap) (I : InstAt s.heap x ox C od) (hb : Looks (model prog w) s.heap (typeOf b) (.ref C)) (N : NoI K C op) (hc : selfFirst K C = true)
    (hs : findIn K (.ref C) (PySem.dunder op.info.2) = some (some (.ref f))) (hf : isFn K (.ref f) = true)
    (h : wpAny (model prog w) A (call (.ref f) [.ref x, b]) (PySem.W.CmpBack Q) E s) : wpAny (model prog w) A (inplaceOp op (.ref x) b) Q E s := by
  obtain ⟨cd, rest, hcd, hm⟩ := ksp_first hc
  unfold inplaceOp
  refine wpAny_holding (wpAny_bind (I.type.here (wpAny_bind ((fillsI_none X N).here ?_))))
  simp only [Bool.false_eq_true, if_false]
  refine wpAny_bind ?_
  unfold binaryOp1
  refine wpAny_bind (I.type.here (wpAny_bind (hb.here (wpAny_bind ((fills_K X hcd hm hs).here ?_)))))
  simp only [beq_self_eq_true, if_true]
  refine wpAny_bind (wpAny_pure ?_)
  simp only [Bool.and_false, Bool.false_eq_true, if_false, Bool.false_and]
  refine wpAny_bind (wpAny_pure ?_)
  simp only [Bool.false_eq_true, if_false]
  refine wpAny_bind (m := tryMethod (.ref x) _ b) ?_
  unfold tryMethod
  refine wpAny_bind (special_fn X I hs (beq_iff_eq.mp hf) (wpAny_mono h (fun v s' hv => ?_) fun _ _ e => e))
  cases v <;> first | exact hv.elim | exact wpAny_pure (wpAny_pure (wpAny_pure hv))
end
/-- name op= e -/
def sAugO (i : Nat) (C : Addr) (fa : List D → List O → R D) (m : ME) : MS := fun e S => match e[i]? with
  | some (some a) => (m e S).st e fun b S1 => if (isI C S1 a && isI C S1 b) = true then (fa [a, b] S1).st e fun d S2 => .nx (e.set i (some d)) S2 else .bad
  | _ => .bad
def rAugO (C : Addr) (sp : Sp) : R2 := fun x y H Q => ∃ a dx fs b dy gs, x = .ref a ∧ H a = some (.ins C dx fs) ∧ y = .ref b ∧ H b = some (.ins C dy gs) ∧ sp [x, y] H Q E0
section
variable {X : Cx} {W : WX'} {k : Nat} {f C : Addr} {fd : FuncData} {ps : List Str} {sp : Sp} {op : Operator} {fo ro rc : Option Value} {np nn : Nat} {b : MS}
theorem o_augO (F : FnG X.prog X.w X.K X.mg X.base CX0 k f fd ps sp) (hr : RoomG k X.A) (hb : Binds X.K fd ps []) (w1 : OwnOp X.K C op f fo ro rc) (w2 : NoI X.K C op) : PIp X op (rAugO C sp) := by
  intro pins s σ H x y v u Q I rx ry h
  obtain ⟨a, dx, fs, bb, dy, gs, rfl, ha, rfl, hb', h2⟩ := h
  cases (show v = Value.ref a from rx)
  cases (show u = Value.ref bb from ry)
  obtain ⟨od, J⟩ := inst_of I ha
  obtain ⟨od', J'⟩ := inst_of I hb'
  exact inpl_same I.kIn J J'.type w2 w1.sf w1.at_ w1.fn (wpAny_mono (call_own F hr hb I (us := [.ref a, .ref bb]) (vs := [.ref a, .ref bb]) (.cons rfl (.cons rfl .nil)) h2) (fun _ _ z => cmpBack z) fun _ _ z => z)
theorem i_augO {K : Frag} {σ : L2.St} {H : Hp} {D : Ends} {i : Nat} {m : ME} (h : tS K W (sAugO i C (nbF (fnM np nn b)) m) D σ H) : tAug i (tE K W m) (rAugO C fun vs H Q _ => spM K np (fnM np nn b) vs H Q E0) D σ H := by
  obtain ⟨g, e, rfl, rp, re, p⟩ := h
  unfold sAugO at p
  split at p
  · rename_i a he
    obtain ⟨v, hv, rv⟩ := re.2 i a he
    refine ⟨v, hv, g, e, rfl, rp, re, (PostS.of_st re p).imp fun d g1 e1 r1 ⟨_, _, p1⟩ u ru => ?_⟩
    have rv1 := rv.mono e1
    by_cases hc : (isI C g1.S a && isI C g1.S d) = true
    · rw [if_pos hc] at p1
      rw [Bool.and_eq_true] at hc
      obtain ⟨fs, h1⟩ := isI_some hc.1
      obtain ⟨gs, h2⟩ := isI_some hc.2
      obtain ⟨ad, dx, vs, rfl, k1, _⟩ := insD_at r1 h1 rv1
      obtain ⟨bd, dy, ws, rfl, k2, _⟩ := insD_at r1 h2 ru
      refine ⟨ad, dx, vs, bd, dy, ws, rfl, k1, rfl, k2, ?_⟩
      have re1 := re.mono e1
      have p3 : Post K W g1 (nbF (fnM np nn b) [a, d] g1.S) σ fun y g' => ∀ z, RD K g' y z → D.nx (σ.set i (some z)) g'.H := (PostS.of_st re1 p1).imp fun y g2 e2 r2 ⟨_, _, p2⟩ z rz => p2 g2 _ (Ext.refl g2) rfl r2 ((re1.mono e2).set rz)
      exact fn_post (Q := fun z H' => D.nx (σ.set i (some z)) H') r1 (RDs.cons rv1 (RDs.cons ru RDs.nil)) p3
    · rw [if_neg hc] at p1; exact False.elim p1
  · exact False.elim p
theorem sm_augO {i : Nat} {x : Str} {e : Expr} {m : ME} {pos pos' : Pos} (F : FnG X.prog X.w X.K X.mg X.base CX0 k f fd ps fun vs H Q _ => spM X.K np (fnM np nn b) vs H Q E0) (hr : RoomG k X.A) (hb : Binds X.K fd ps []) (w1 : OwnOp X.K C op f fo ro rc) (w2 : NoI X.K C op)
    (hN : X.N.Nodup) (hi : X.N[i]? = some x) (hx : Loc X.env.scope x) (he : PE X e (tE X.K W m)) (hf : X.fn x = true ∨ X.env.scope.names.lookup x = some .local := by first | exact .inl rfl | exact .inr rfl | assumption) :
    PS X (.AugAssign (.Name x pos') op e pos) (tS X.K W (sAugO i C (nbF (fnM np nn b)) m)) := PS.imp (ps_aug hN hi hx he (o_augO F hr hb w1 w2) hf) fun _ _ _ => i_augO
end
end Mo

namespace Mo
open PySem PySem.Spec PyProof.Rows L2

/-! ### defs with a star parameter -/
def FnV (P : Program) (w : World) (K : PySem.W.Frag) (mg : Str → Option Value) (base : Heap) (CX : CXT) (k : Nat) (f : Addr) (sp : Sp) : Prop :=
  ∀ (A : Around) (outer : List PySem.Env) (s : Shared) (H : Hp) (us : List Value) (vs : List V) (Q : VK) (E : XK), RoomG k A → Env0 P w K mg base A outer s H → Vals vs us → sp vs H Q E → codeAny (model P w) A (.call (.ref f) ⟨us, []⟩) (CR CX outer P w H s Q E) s
/-- ds: the arguments; those behind the first np in a new tuple -/
def fnS (np nn : Nat) (b : MS) : List D → List O → R D := fun ds S => if np ≤ ds.length ∧ ds.length - np ≤ sz then fnM (np + 1) nn b (ds.take np ++ [.tup (ds.drop np)]) S else .bad
def spS (K : PySem.W.Frag) (np nn : Nat) (b : MS) : Sp := fun vs H Q _ => ∃ g ds, g.H = H ∧ Rep K g ∧ RDs K g ds vs ∧ Post K (ofX E0) g (fnS np nn b ds g.S) [] fun d g' => ∀ v, RD K g' d v → Q v g'.H
section
variable {P : Program} {w : World} {K : PySem.W.Frag} {mg : Str → Option Value} {base : Heap}
theorem spS_split {np nn : Nat} {b : MS} {vs : List V} {H : Hp} {Q : VK} {E : XK} (h : spS K np nn b vs H Q E) : np ≤ vs.length ∧ vs.length - np ≤ sizeLine ∧ ∀ p, H p = none → spM K (np + 1) (fnM (np + 1) nn b) (vs.take np ++ [V.ref p]) (upd H p (.tup (vs.drop np))) Q E0 := by
  obtain ⟨g, ds, rfl, rp, rv, p⟩ := h
  unfold fnS at p
  by_cases hc : np ≤ ds.length ∧ ds.length - np ≤ sz
  · rw [if_pos hc] at p
    rw [rv.length, sz_eq] at hc
    refine ⟨hc.1, hc.2, fun a ha => ⟨?_, ?_⟩⟩
    · rw [List.length_append, List.length_take]
      show min np vs.length + 1 = _
      omega
    · obtain ⟨x1, x2, x3⟩ := new_tup rp ha (rv.drop np)
      exact ⟨_, _, rfl, x2, ((rv.take np).mono x1).append (RDs.cons x3 RDs.nil), Post.mono x1 p⟩
  · rw [if_neg hc] at p; exact False.elim p
theorem fn_starG {x qual pv : Str} {st : Stmt} {f : Addr} {fd : FuncData} {N ps : List Str} {k nn np : Nat} {b : MS} (F : Fun K x qual st f fd) (S : FnScope N (ps ++ [pv]) (defScope st)) (hn : N.length = nn) (hp : ps.length = np)
    (hbd : ∀ us rest : List Value, us.length = ps.length → bindArgs fd ⟨us ++ rest, []⟩ = (newTuple rest >>= fun t => pure (ps.zip us ++ [(pv, t)])))
    (body : ∀ (cdv : Value) (A : Around) (outer : List PySem.Env) (s : Shared) (H : Hp) (E : XK), RoomG k (A.deeper (envOfC qual (defScope st) s.heap.objs.size f cdv)) →
      PSs (cxOf CX0 P w K mg base N qual (defScope st) f cdv A outer s H E).nox (defBody st) (tS K WF b)) : FnV P w K mg base CX0 (k + 1) f (spS K np nn b) := by
  obtain ⟨oc, od, kV, doc, pm, an, cdv, ct, osl, rfl, lk, hcd⟩ := F.ex
  intro A outer s H us vs Q E hr e0 r hsp
  obtain ⟨l1, l2, hq⟩ := spS_split hsp
  have hn0 : H s.heap.objs.size = none := e0.hok.fresh (Nat.le_refl _)
  have ev : vs = vs.take np ++ vs.drop np := (List.take_append_drop np vs).symm
  have r' := r
  rw [ev] at r'
  obtain ⟨u1, u2, eu, r1, r2⟩ := StX.vals_split r'
  subst eu
  have hl : (vs.take np).length = ps.length := by rw [List.length_take, hp]; omega
  have hl1 : u1.length = ps.length := by rw [← r1.length]; exact hl
  have hz : (vs.drop np).length ≤ sizeLine := by rw [List.length_drop]; exact l2
  have hl2 : u2.length ≤ sizeLine := by rw [← r2.length]; exact hz
  refine StX.run_bnd lk hcd S hr.r e0 (G := fun xs H2 => ∃ p, H p = none ∧ xs = vs.take np ++ [V.ref p] ∧ H2 = upd H p (.tup (vs.drop np))) (fun A' Ex Q' h => ?_) fun s2 H2 xs ⟨p, hp', ex, eH⟩ hr' => ?_
  · rw [hbd u1 u2 hl1]
    refine wpAny_bind (wpAny_newTuple (wpAny_pure ?_) hl2)
    have new : ObjOk P w (upd H s.heap.objs.size (.tup (vs.drop np))) (s.heap.push ({ cls := .type "tuple", data := .seq u2.toArray } : Obj)) s.heap.objs.size (.tup (vs.drop np)) := ⟨hz, u2, r2, ⟨_, Heap.get?_push_size _ rfl, rfl, _, rfl⟩⟩
    have un := StX.un_laid (fs := frs outer) (s := s) (o := ({ cls := .type "tuple", data := .seq u2.toArray } : Obj)) (u := .tup (vs.drop np)) hn0
    have z := h _ _ (vs.take np ++ [V.ref s.heap.objs.size]) (u1 ++ [Value.ref s.heap.objs.size]) (StX.env0_laid e0 new) un rfl (fun e s' z => z) (r1.append (.cons rfl .nil))
      (by rw [List.length_append, List.length_append, hl] <;> rfl) ⟨_, hn0, rfl, rfl⟩
    rw [List.zip_append hl1.symm] at z
    exact z
  · subst ex eH
    have hr2 : RoomG k (A.deeper (envOfC qual (defScope st) s2.heap.objs.size f cdv)) := ⟨hr', hr.g⟩
    exact ⟨_, (body cdv A outer s2 _ E hr2).nox, body_of hn (hq p hp')⟩
end

/-! ### C(..) by an __init__ with a star parameter -/
section
variable {K : PySem.W.Frag} {W : WX'} {σ : L2.St} {H : Hp} {Q : VK} {C : Addr} {m : MA} {np nn : Nat} {b : MS}
theorem i_makeFS (h : tE K W (mMakeF C (nbF (fnS np nn b)) m) σ H Q) : tMakeG C (spS K np nn b) W (tA K W m) σ H Q := by
  obtain ⟨g, e, hH, rp, re, p⟩ := h
  subst hH
  refine ⟨g, e, rfl, rp, re, (Post.bind p).imp fun l g1 e1 r1 ⟨_, _, p1⟩ vs rv x dx hx hd ne => ?_⟩
  obtain ⟨a1, a2, a3⟩ := inst_ok (C := C) r1 hx hd ne
  have p2 := Post.mono a1 p1
  refine ⟨g1.inst x dx C, _, rfl, a2, RDs.cons a3 (rv.mono a1), ?_⟩
  show Post K (ofX _) (g1.inst x dx C) (fnS np nn b (.ref g1.S.length :: l) (g1.S ++ [.ins C []])) [] _
  cases q : fnS np nn b (.ref g1.S.length :: l) (g1.S ++ [.ins C []]) with
  | ok d S2 =>
    rw [nbF, q] at p2
    have p3 : Post K W (g1.inst x dx C) (if d = .non then (match S2[g1.S.length]? with
      | some (.ins E fs) => if E = C then .ok (.fz C (fs.map (·.1)) (fs.map (·.2))) (S2.set g1.S.length .gone) else .bad
      | _ => .bad) else .bad) σ fun d g' => ∀ v, RD K g' d v → Q v g'.H := p2
    by_cases hn : d = .non
    · rw [if_pos hn] at p3
      clear p2
      subst hn
      split at p3
      · rename_i E fs hs
        by_cases hc : E = C
        · rw [if_pos hc] at p3
          subst hc
          intro g' y s r' v rd
          rw [RD] at rd
          subst s
          obtain ⟨f1, f2, f3⟩ := froz_ok r1 hx y r' hs
          exact ⟨rd, p3 _ (y.trans f1) rfl f2 (.ref x) f3⟩
        · rw [if_neg hc] at p3; exact False.elim p3
      · exact False.elim p3
    · rw [if_neg hn] at p3; exact False.elim p3
  | er xx S2 => rw [nbF, q] at p2; exact False.elim p2
  | bad => rw [nbF, q] at p2; exact False.elim p2
end
section
variable {X : Cx} {k : Nat} {f C : Addr} {sp : Sp} {W : WX'} {x : Str} {p pos : Pos} {e : Expr} {es : List Expr} {t : TA} {m : MA}
theorem run_makeV {pins : List (Addr × Obj)} {σ : L2.St} {H : Hp} {s : Shared} {Q : VK} {us : List Value} {vs : List V} (M : Mk X.K C f) (F : FnV X.prog X.w X.K X.mg X.base CX0 k f sp) (hr : RoomG (k + 1) X.A) (I : L2.Inv X pins σ H s) (r : Vals vs us)
    (h : ∀ x dx, H x = none → H dx = none → dx ≠ x → sp (.ref x :: vs) (upd (upd H dx (.own x)) x (.ins C dx [])) (fun v H2 => v = .non ∧ Q (.ref x) H2) fun cls d H' => W cls d σ H') :
    wpAny (model X.prog X.w) X.A (call (.ref C) us) (EP X pins σ Q) X.xe s := by
  have hq := h (s.heap.objs.size + 1) s.heap.objs.size (I.hok.fresh (Nat.le_succ _)) (I.hok.fresh (Nat.le_refl _)) (Nat.ne_of_lt (Nat.lt_succ_self _))
  have I2 := Inv.made (C := C) I
  have r2 : Vals (V.ref (s.heap.objs.size + 1) :: vs) (Value.ref (s.heap.objs.size + 1) :: us) := .cons rfl r
  refine wpAny_call (make_map (f := f) I.kIn M.makes M.init (beq_iff_eq.mp M.fn) (codeAny_mono (F _ X.stack _ _ (Value.ref (s.heap.objs.size + 1) :: us) _ _ _ (hr.make C us []) (I2.env0.make C us []) r2 hq) fun r s' hq' => ?_))
  cases r with
  | error e => exact False.elim hq'
  | ok fl =>
    cases fl with
    | ret u =>
      obtain ⟨v, H', I3, rv, ev, q3⟩ := I2.after hq'
      subst ev
      exact ⟨rv, ⟨V.ref (s.heap.objs.size + 1), H', I3, rfl, q3⟩⟩
    | next => exact False.elim hq'
    | brk => exact False.elim hq'
    | cont => exact False.elim hq'
theorem pe_makeV (M : Mk X.K C f) (F : FnV X.prog X.w X.K X.mg X.base CX0 k f sp) (hr : RoomG (k + 1) X.A) (hg : Gl X x) (hm : X.mg x = some (.ref C))
    (ha : PA X (e :: es) t) (hdb : (x == ("__debug__" : Str)) = false := by decide) (he : starEach (e :: es) X.env = (false, eval e X.env) :: starEach es X.env := by rfl) (hpl : (backTo pos (starEach es X.env)).any (·.1) = false := by rfl) :
    PE X (.Call (.Name x p) (e :: es) [] pos) (tMakeG C sp W t) := by
  refine ⟨fun pins s σ H Q I h => ?_⟩
  refine wpAny_Call_Name_kw (ld_glob I hg hm ?_ hdb)
  refine PySem.W.callWith_K (h₀ := X.base) I.ok.mod.kin M.kp (thn (ha.run pos pins s σ H _ I h) fun us s1 ⟨vs, H1, I1, r, q⟩ => ⟨I1.kIn, ?_⟩) he hpl
  exact run_makeV M F hr I1 r q
theorem pe_makeV0 (M : Mk X.K C f) (F : FnV X.prog X.w X.K X.mg X.base CX0 k f sp) (hr : RoomG (k + 1) X.A) (hg : Gl X x) (hm : X.mg x = some (.ref C))
    (hdb : (x == ("__debug__" : Str)) = false := by decide) : PE X (.Call (.Name x p) [] [] pos) (tMakeG C sp W tNil) := by
  refine ⟨fun pins s σ H Q I h => ?_⟩
  refine wpAny_Call_Name_kw (ld_glob I hg hm ?_ hdb)
  exact PySem.W.callWith_K0 I.kIn M.kp (run_makeV (us := []) M F hr I .nil h)
variable {np nn : Nat} {b : MS}
theorem pm_makeFS (M : Mk X.K C f) (F : FnV X.prog X.w X.K X.mg X.base CX0 k f (spS X.K np nn b)) (hr : RoomG (k + 1) X.A) (hg : Gl X x) (hm : X.mg x = some (.ref C))
    (ha : PA X (e :: es) (tA X.K W m)) (hdb : (x == ("__debug__" : Str)) = false := by decide) (he : starEach (e :: es) X.env = (false, eval e X.env) :: starEach es X.env := by rfl) (hpl : (backTo pos (starEach es X.env)).any (·.1) = false := by rfl) :
    PE X (.Call (.Name x p) (e :: es) [] pos) (tE X.K W (mMakeF C (nbF (fnS np nn b)) m)) := PE.imp (pe_makeV (W := W) M F hr hg hm ha hdb he hpl) fun _ _ _ => i_makeFS
theorem pm_makeFS0 (M : Mk X.K C f) (F : FnV X.prog X.w X.K X.mg X.base CX0 k f (spS X.K np nn b)) (hr : RoomG (k + 1) X.A) (hg : Gl X x) (hm : X.mg x = some (.ref C))
    (hdb : (x == ("__debug__" : Str)) = false := by decide) : PE X (.Call (.Name x p) [] [] pos) (tE X.K W (mMakeF C (nbF (fnS np nn b)) mNil)) := PE.imp (pe_makeV0 (W := W) M F hr hg hm hdb) fun _ _ _ h => i_nil (i_makeFS h)
end
end Mo

namespace Mo
open PySem PySem.Spec PyProof.Rows L2

theorem RoomG.u65 {k : Nat} {A : Around} (h : RoomG k A) : A.units + 65 < cLine := by have := h.u100; omega
theorem sm_bads {X : Cx} {W : WX'} {l : List Stmt} : PSs X l (tS X.K W sBad) := ⟨fun p s σ H D I q => by obtain ⟨g, e, _, _, _, z⟩ := q; exact False.elim z⟩
/-! ### calls of built-in classes that give a new list, changed later -/
abbrev OpNN := List O → List D → Option (List D)
def mCBN (f : OpNN) (m : MA) : ME := fun e S => (m e S).bind fun l S1 => match f S1 l with
  | some r => .ok (.ref S1.length) (S1 ++ [.lst r])
  | none => .bad
def rNN (K : PySem.W.Frag) (f : OpNN) : List V → Hp → VK → Prop := fun vs H Q => ∃ g ds l, g.H = H ∧ Rep K g ∧ RDs K g ds vs ∧ f g.S ds = some l ∧ ∀ g' v, Ext g g' → g'.S = g.S ++ [.lst l] → Rep K g' → RD K g' (.ref g.S.length) v → Q v g'.H
def nList : OpNN := fun S l => match l with
  | [.tup l] => some l
  | [d] => seqR S d
  | _ => none
section
variable {X : Cx} {W : WX'}
theorem i_cbN {K : PySem.W.Frag} {σ : L2.St} {H : Hp} {Q : VK} {f : OpNN} {m : MA} (h : tE K W (mCBN f m) σ H Q) : tCB (rNN K f) (tA K W m) σ H Q := by
  obtain ⟨g, e, rfl, rp, re, p⟩ := h
  refine ⟨g, e, rfl, rp, re, (Post.bind p).imp fun l g1 e1 r1 ⟨_, _, p1⟩ vs rv => ?_⟩
  cases q : f g1.S l with
  | none => rw [q] at p1; exact False.elim p1
  | some r =>
    rw [q] at p1
    exact ⟨g1, l, r, rfl, r1, rv, q, fun g' v x s r' rv' => p1 g' x s r' v rv'⟩
theorem pm_ctyN {T : String} {f : OpNN} {x : Str} {p pos : Pos} {e : Expr} {es : List Expr} {m : MA} (hc : CallR X (.type T) (rNN X.K f)) (hg : Gl X x) (hm : X.mg x = none) (hv : bootBuiltins x = some (.type T)) (ha : PA X (e :: es) (tA X.K W m)) (hn : x ≠ "__name__" := by decide) (hdb : (x == ("__debug__" : Str)) = false := by decide)
    (he : starEach (e :: es) X.env = (false, eval e X.env) :: starEach es X.env := by rfl) (hpl : (backTo pos (starEach es X.env)).any (·.1) = false := by rfl) : PE X (.Call (.Name x p) (e :: es) [] pos) (tE X.K W (mCBN f m)) := PE.imp (pe_callTy hc hg hm hv ha hn hdb he hpl) fun _ _ _ => i_cbN
theorem c_listN : CallR X (.type "list") (rNN X.K nList) := by
  intro pins s σ H xs us Q I r h
  obtain ⟨g, ds, l, rfl, rp, rv, hf, q⟩ := h
  unfold nList at hf
  split at hf
  · cases hf
    obtain ⟨v, rfl, h1⟩ := rv.one
    rw [RD] at h1
    obtain ⟨a, vs, rfl, h2, h3⟩ := h1
    refine call_list_of pins s σ _ _ us Q I r ⟨a, vs, rfl, .inr h2.sq, fun p hn => ?_⟩
    obtain ⟨x1, x2, x3⟩ := new_ref rp hn h3
    exact q _ _ x1 rfl x2 x3
  · obtain ⟨v, rfl, h1⟩ := rv.one
    obtain ⟨a, vs, rfl, h2, h3⟩ := seqR_at rp hf h1
    refine call_list_of pins s σ _ _ us Q I r ⟨a, vs, rfl, .inl h2, fun p hn => ?_⟩
    obtain ⟨x1, x2, x3⟩ := new_ref rp hn h3
    exact q _ _ x1 rfl x2 x3
  · cases hf
end
end Mo

namespace Ev
open PySem PySem.Spec L2 PyProof.Rows Mo
/-! ### more rules to run a mirror -/
section
variable {e e' e1 e2 : Mo.Env} {S S1 S2 S3 S4 : List O} {a b d i y : D} {ma mb mo m : ME} {mr : MA} {r : RS} {t u : MT} {k : Bool} {l l0 : List D} {n j : Nat} {x y' : MS} {rr : R D} {C : Addr} {f : Str} {fs : List (Str × D)}
theorem v_ifT (h1 : t e S = .ok true S1) (h2 : ma e S1 = rr) : mIf t ma mb e S = rr := v_if (k := true) h1 (by rw [if_pos rfl]; exact h2)
theorem v_ifF (h1 : t e S = .ok false S1) (h2 : mb e S1 = rr) : mIf t ma mb e S = rr := v_if (k := false) h1 (by rw [if_neg (by simp)]; exact h2)
theorem w_ifT (h1 : t e S = .ok true S1) (h2 : x e S1 = r) : sIf t x y' e S = r := w_if (k := true) h1 (by rw [if_pos rfl]; exact h2)
theorem w_ifF (h1 : t e S = .ok false S1) (h2 : y' e S1 = r) : sIf t x y' e S = r := w_if (k := false) h1 (by rw [if_neg (by simp)]; exact h2)
theorem w_nil : sNil e S = .nx e S := rfl
theorem v_andF (h1 : t e S = .ok false S1) : mAnd t u e S = .ok false S1 := v_and h1 rfl
theorem v_andT (h1 : t e S = .ok true S1) (h2 : u e S1 = .ok k S2) : mAnd t u e S = .ok k S2 := v_and h1 h2
theorem v_orT (h1 : t e S = .ok true S1) : mOr t u e S = .ok true S1 := v_or h1 rfl
theorem v_orF (h1 : t e S = .ok false S1) (h2 : u e S1 = .ok k S2) : mOr t u e S = .ok k S2 := v_or h1 h2
theorem v_andVT (h1 : ma e S = .ok (.bl true) S1) (h2 : mb e S1 = rr) : mAndV ma mb e S = rr := by unfold mAndV; rw [h1]; exact h2
theorem v_andVF (h1 : ma e S = .ok (.bl false) S1) : mAndV ma mb e S = .ok (.bl false) S1 := by unfold mAndV; rw [h1]; rfl
theorem v_mir {f : List D → Option (List D)} {l r : List D} (h1 : mr e S = .ok l S1) (h2 : f l = some r) : miRange f mr e S = .ok (r, anyS) S1 := by unfold miRange; rw [h1]; show (match f l with | some r => R.ok (r, anyS) S1 | none => .bad) = _; rw [h2]
theorem w_par (h : mr e S = .ok [a, b] S1) : sPar n j mr e S = .nx ((e.set n (some a)).set j (some b)) S1 := by unfold sPar; rw [h]; rfl
theorem w_unp {t : Tg} (h1 : m e S = .ok d S1) (h2 : t.f d e = some e') : sUnp t m e S = .nx e' S1 := by
  unfold sUnp
  rw [h1]
  show (match t.f d e with | some e' => RS.nx e' S1 | none => .bad) = _
  rw [h2]
theorem v_callP {f : List D → List O → R D} (h1 : mr e S = .ok l S1) (h2 : D.los 0 l = true) (h3 : f l [] = .ok d S2) (h4 : D.lo 0 d = true) : mCallP f mr e S = .ok d S1 := by
  unfold mCallP
  rw [h1]
  show (if D.los 0 l = true then pureR (f l []) S1 else .bad) = _
  rw [if_pos h2, h3]
  show (if D.lo 0 d = true then _ else _) = _
  rw [if_pos h4]
theorem v_comp {m : MI} {t : Tg} {tt : MT} {te : ME} {vs : List Nat} {l r : List D} {chk : List O → Bool} (h1 : m e S = .ok (l, chk) S1) (h2 : compL chk t tt te (wipeE e vs) [] l S1 = .ok r S2) : mComp m t tt te vs e S = .ok (.lst r) S2 := by
  unfold mComp
  rw [h1]
  show (compL chk t tt te (wipeE e vs) [] l S1).bind _ = _
  rw [h2]
  rfl
theorem v_seqL (h : m e S = .ok (.lst l) S1) : miSeq m e S = .ok (l, anyS) S1 := by unfold miSeq; rw [h]; rfl
theorem v_seqT (h : m e S = .ok (.tup l) S1) : miSeq m e S = .ok (l, anyS) S1 := by unfold miSeq; rw [h]; rfl
theorem v_moS {i : Int} (h : m e S = .ok (.int i) S1) : moS m e S = .ok (some i) S1 := by unfold moS; rw [h]; rfl
theorem v_moN : moN e S = .ok none S := rfl
theorem v_sl {l h : MO} {lo hi : Option Int} (h1 : m e S = .ok a S1) (h2 : l e S1 = .ok lo S2) (h3 : h e S2 = .ok hi S3) (h4 : gSl S3 a lo hi = some d) : mSl m l h e S = .ok d S3 := by
  unfold mSl
  rw [h1]
  show R.bind (l e S1) _ = _
  rw [h2]
  show R.bind (h e S2) _ = _
  rw [h3]
  show R.ofO S3 (gSl S3 a lo hi) = _
  rw [h4]
  rfl
theorem loopL_nil {chk : List O → Bool} {t : Tg} {b : MS} (hc : chk S = true) : loopL chk t b [] e S = .nx e S := by rw [loopL, if_pos hc]
theorem loopL_step {chk : List O → Bool} {t : Tg} {b : MS} (hc : chk S = true) (h1 : t.f d e = some e') (h2 : b e' S = .nx e1 S1) : loopL chk t b (d :: l) e S = loopL chk t b l e1 S1 := by
  rw [loopL, if_pos hc, h1]
  dsimp only
  rw [h2]
theorem compL_nil {chk : List O → Bool} {t : Tg} {tt : MT} {te : ME} {acc : List D} (hc : chk S = true) : compL chk t tt te e acc [] S = .ok acc S := by rw [compL, if_pos hc]
theorem compL_one {chk : List O → Bool} {t : Tg} {te : ME} {acc : List D} (hc : chk S = true) (h1 : t.f d e = some e') (h3 : te e' S = .ok y S2) (hs : acc.length < sz) :
    compL chk t mYes te e acc (d :: l) S = compL chk t mYes te e (acc ++ [y]) l S2 := by
  rw [compL, if_pos hc, h1]
  show R.bind (te e' S).nb _ = _
  rw [h3]
  show (if acc.length < sz then compL chk t mYes te e (acc ++ [y]) l S2 else .bad) = _
  rw [if_pos hs]
/-- [f(x) for x in xs] -/
theorem compL_fn {α : Type} {chk : List O → Bool} {t : Tg} {te : ME} {g h : α → D} (hc : chk S = true) :
    ∀ {ws : List α} {acc : List D}, (∀ q ∈ ws, ∃ e', t.f (g q) e = some e' ∧ te e' S = .ok (h q) S) → acc.length + ws.length ≤ sz → compL chk t mYes te e acc (ws.map g) S = .ok (acc ++ ws.map h) S
  | [], acc, _, _ => by rw [List.map_nil, List.map_nil, List.append_nil]; exact compL_nil hc
  | q :: ws, acc, hh, hs => by
    obtain ⟨e', h1, h2⟩ := hh q List.mem_cons_self
    rw [List.length_cons] at hs
    rw [List.map_cons, compL_one hc h1 h2 (by omega), compL_fn hc (fun x hx => hh x (List.mem_cons_of_mem _ hx)) (by rw [List.length_append]; simp; omega), List.map_cons, List.append_assoc]
    rfl
theorem loop_at {t : Tg} {b : MS} {I : Nat → Mo.Env → List O → Prop} {l0 : List D} (h : ∀ (i : Nat) (d : D), l0[i]? = some d → ∀ (e : Mo.Env) (S : List O), I i e S → ∃ e' e1 S1, t.f d e = some e' ∧ b e' S = .nx e1 S1 ∧ I (i + 1) e1 S1) :
    ∀ {l : List D} {i : Nat} {e : Mo.Env} {S : List O}, l0.drop i = l → i ≤ l0.length → I i e S → ∃ e1 S1, loopL anyS t b l e S = .nx e1 S1 ∧ I l0.length e1 S1
  | [], i, e, S, hl, hi, hI => by
    have : i = l0.length := by
      have := congrArg List.length hl
      simp at this
      omega
    subst this
    exact ⟨e, S, loopL_nil rfl, hI⟩
  | d :: l, i, e, S, hl, hi, hI => by
    have hd : l0[i]? = some d := by
      have := congrArg (·[0]?) hl
      simpa using this
    obtain ⟨e', e1, S1, h1, h2, h3⟩ := h i d hd e S hI
    have hlt : i < l0.length := (List.getElem?_eq_some_iff.mp hd).1
    have hl' : l0.drop (i + 1) = l := by
      have := congrArg List.tail hl
      simpa using this
    obtain ⟨e2, S2, h4, h5⟩ := loop_at h hl' hlt h3
    exact ⟨e2, S2, (loopL_step rfl h1 h2).trans h4, h5⟩
theorem v_mt {ty : List O → D → Bool} {g : OpM} (h1 : mo e S = .ok a S1) (h2 : ty S1 a = true) (h3 : mr e S1 = .ok l S2) (h4 : g S2 a l = some (d, S3)) : mMt ty g mo mr e S = .ok d S3 := by
  unfold mMt
  rw [h1]
  show (if ty S1 a = true then _ else _) = _
  rw [if_pos h2, h3]
  show R.ofM (g S2 a l) = _
  rw [h4]
  rfl
theorem x_append (h : S[n]? = some (.lst l)) (h2 : l.length < 16777216) : gAppend S (.ref n) [d] = some (.non, S.set n (.lst (l ++ [d]))) := by
  unfold gAppend
  simp only [h]
  rw [if_pos (show l.length < sz from h2)]
theorem x_isL (h : S[n]? = some (.lst l)) : isL S (.ref n) = true := by unfold isL seqR; simp only [h]; rfl
theorem v_cbn {g : OpNN} (h1 : mr e S = .ok l S1) (h2 : g S1 l = some l0) : mCBN g mr e S = .ok (D.ref S1.length) (S1 ++ [.lst l0]) := by
  unfold mCBN
  rw [h1]
  show (match g S1 l with | some r => R.ok (D.ref S1.length) (S1 ++ [O.lst r]) | none => .bad) = _
  rw [h2]
theorem v_listRN {g : List D → Option (List D)} (h1 : mr e S = .ok l S1) (h2 : g l = some l0) (h3 : l0.length ≤ 16777216) : mListRN g mr e S = .ok (.ref S1.length) (S1 ++ [.lst l0]) := by
  unfold mListRN
  rw [h1]
  show (match g l with | some r => if r.length ≤ sz then R.ok (D.ref S1.length) (S1 ++ [O.lst r]) else .bad | none => .bad) = _
  rw [h2]
  exact if_pos h3
/-! instances -/
theorem v_fld (h1 : m e S = .ok a S1) (h2 : insD C S1 a = some fs) (h3 : fs.lookup f = some d) : mFld C f m e S = .ok d S1 := by
  unfold mFld
  rw [h1]
  show R.ofO S1 ((insD C S1 a).bind _) = _
  rw [h2]
  show R.ofO S1 (fs.lookup f) = _
  rw [h3]
  rfl
theorem x_ins (h : S[n]? = some (.ins C fs)) : insD C S (.ref n) = some fs := by unfold insD; simp [h]
theorem x_fz {ns : List Str} : insD C S (.fz C ns l) = some (ns.zip l) := by unfold insD; simp
theorem w_fldS {mv : ME} (h1 : mv e S = .ok y S1) (h2 : mo e S1 = .ok (.ref n) S2) (h3 : S2[n]? = some (.ins C fs)) (h4 : fs.length < 1000) : sFldS C f mv mo e S = .nx e (S2.set n (.ins C (putD f y fs))) := by
  unfold sFldS
  rw [h1]
  show R.st (mo e S1) _ _ = _
  rw [h2]
  show (match S2[n]? with | some (.ins E fs) => if E = C ∧ fs.length < 1000 then RS.nx e (S2.set n (.ins C (putD f y fs))) else .bad | _ => .bad) = _
  rw [h3]
  exact if_pos ⟨rfl, h4⟩
theorem v_makeF {init : List D → List O → R D} (h1 : mr e S = .ok l S1) (h2 : init (.ref S1.length :: l) (S1 ++ [.ins C []]) = .ok .non S2) (h3 : S2[S1.length]? = some (.ins C fs)) : mMakeF C init mr e S = .ok (.fz C (fs.map (·.1)) (fs.map (·.2))) (S2.set S1.length .gone) := by
  unfold mMakeF
  rw [h1]
  show (init (.ref S1.length :: l) (S1 ++ [.ins C []])).bind _ = _
  rw [h2]
  refine (if_pos (c := D.non = D.non) (e := R.bad) rfl).trans ?_
  show (match S2[S1.length]? with
    | some (.ins E fs) => if E = C then R.ok (D.fz C (fs.map fun x : Str × D => x.1) (fs.map fun x : Str × D => x.2)) (S2.set S1.length .gone) else .bad
    | _ => .bad) = _
  rw [h3]
  exact if_pos rfl
theorem v_make {init : List D → List O → R D} (h1 : mr e S = .ok l S1) (h2 : init (.ref S1.length :: l) (S1 ++ [.ins C []]) = .ok .non S2) : mMake C init mr e S = .ok (.ref S1.length) S2 := by
  unfold mMake
  rw [h1]
  show (init (.ref S1.length :: l) (S1 ++ [.ins C []])).bind _ = _
  rw [h2]
  exact if_pos (c := D.non = D.non) (e := R.bad) rfl
theorem v_makeKn {nk : Nat} {ix : List Nat} {init : List D → List O → R D} (h1 : mr e S = .ok l S1) (h0 : l.length = nk) (h2 : init (permL ix (.ref S1.length :: l)) (S1 ++ [.ins C []]) = .ok .non S2) : mMakeKn C nk ix init mr e S = .ok (.ref S1.length) S2 := by
  unfold mMakeKn
  rw [h1]
  show (if l.length = nk then _ else _) = _
  rw [if_pos h0]
  show (init (permL ix (.ref S1.length :: l)) (S1 ++ [.ins C []])).bind _ = _
  rw [h2]
  exact if_pos (c := D.non = D.non) (e := R.bad) rfl
theorem v_prop {g : List D → List O → R D} (h1 : mo e S = .ok a S1) (h2 : insD C S1 a = some fs) (h3 : g [a] S1 = rr) : mProp C g mo e S = rr := by
  unfold mProp
  rw [h1]
  show (if (insD C S1 a).isSome = true then _ else _) = _
  rw [h2]
  exact h3
theorem x_isI (h : insD C S a = some fs) : isI C S a = true := by unfold isI; rw [h]; rfl
theorem x_isIint {i : Int} : isI C S (.int i) = false := rfl
theorem v_binOO {fa fr : List D → List O → R D} {g : Op2} (h1 : ma e S = .ok a S1) (h2 : mb e S1 = .ok b S2) (h3 : isI C S2 a = true) (h4 : isI C S2 b = true) (h5 : fa [a, b] S2 = rr) : mBinO C fa fr g ma mb e S = rr := by
  unfold mBinO
  rw [h1]
  show R.bind (mb e S1) _ = _
  rw [h2]
  show (if isI C S2 a = true then _ else _) = _
  rw [if_pos h3, h4]
  exact h5
theorem v_binOI {fa fr : List D → List O → R D} {g : Op2} {i : Int} (h1 : ma e S = .ok a S1) (h2 : mb e S1 = .ok (.int i) S2) (h3 : isI C S2 a = true) (h5 : fa [a, .int i] S2 = rr) : mBinO C fa fr g ma mb e S = rr := by
  unfold mBinO
  rw [h1]
  show R.bind (mb e S1) _ = _
  rw [h2]
  show (if isI C S2 a = true then _ else _) = _
  rw [if_pos h3]
  exact h5
theorem v_binIO {fa fr : List D → List O → R D} {g : Op2} {i : Int} (h1 : ma e S = .ok (.int i) S1) (h2 : mb e S1 = .ok b S2) (h3 : isI C S2 b = true) (h5 : fr [b, .int i] S2 = rr) : mBinO C fa fr g ma mb e S = rr := by
  unfold mBinO
  rw [h1]
  show R.bind (mb e S1) _ = _
  rw [h2]
  refine (if_neg (c := isI C S2 (.int i) = true) (t := R.bad) (by rw [x_isIint]; simp)).trans ?_
  refine (if_pos h3).trans ?_
  exact h5
theorem v_binLI {fa : List D → List O → R D} {g : Op2} {i : Int} (h1 : ma e S = .ok a S1) (h2 : mb e S1 = .ok (.int i) S2) (h3 : isI C S2 a = true) (h5 : fa [a, .int i] S2 = rr) : mBinL C fa g ma mb e S = rr := by
  unfold mBinL
  rw [h1]
  show R.bind (mb e S1) _ = _
  rw [h2]
  show (if isI C S2 a = true then _ else _) = _
  rw [if_pos h3]
  exact h5
theorem v_unO {fn : List D → List O → R D} {g : Op1} (h1 : ma e S = .ok a S1) (h3 : isI C S1 a = true) (h5 : fn [a] S1 = rr) : mUnO C fn g ma e S = rr := by
  unfold mUnO
  rw [h1]
  show (if isI C S1 a = true then _ else _) = _
  rw [if_pos h3]
  exact h5
theorem v_ixO {g : List D → List O → R D} (h1 : ma e S = .ok a S1) (h2 : mb e S1 = .ok b S2) (h3 : isI C S2 a = true) (h5 : g [a, b] S2 = rr) : mIxO C g ma mb e S = rr := by
  unfold mIxO
  rw [h1]
  show R.bind (mb e S1) _ = _
  rw [h2]
  show (if isI C S2 a = true then _ else _) = _
  rw [if_pos h3]
  exact h5
theorem w_augO {fa : List D → List O → R D} (h0 : e[n]? = some (some a)) (h1 : m e S = .ok b S1) (h3 : isI C S1 a = true) (h4 : isI C S1 b = true) (h5 : fa [a, b] S1 = .ok d S2) : sAugO n C fa m e S = .nx (e.set n (some d)) S2 := by
  unfold sAugO
  rw [h0]
  show R.st (m e S) _ _ = _
  rw [h1]
  show (if (isI C S1 a && isI C S1 b) = true then _ else _) = _
  rw [h3, h4]
  show R.st (fa [a, b] S1) _ _ = _
  rw [h5]
  rfl
theorem x_isiF {ns : List Str} : gIsiC C S [.fz C ns l, .adr C] = some (.bl true) := by
  show (if C = C then (isiC C S (.fz C ns l)).map D.bl else none) = _
  rw [if_pos rfl]
  show (if C = C then some true else none).map D.bl = _
  rw [if_pos rfl]
  rfl
theorem x_isiI {i : Int} : gIsiC C S [.int i, .adr C] = some (.bl false) := by
  show (if C = C then (isiC C S (.int i)).map D.bl else none) = _
  rw [if_pos rfl]
  rfl
end
theorem trim_app {S T : List O} : trimS true S (S ++ T) = S := by
  unfold trimS
  rw [if_pos, List.take_left]
  rw [Bool.true_and, List.take_left, List.all_eq_true]
  intro p hp
  obtain ⟨i, hi⟩ := List.mem_iff_getElem?.mp hp
  rw [List.getElem?_zip_eq_some] at hi
  have : p.1 = p.2 := Option.some.inj (hi.1.symm.trans hi.2)
  rw [this]
  simp
theorem trim_no {S S' : List O} : trimS false S S' = S' := rfl
theorem fn_nx {np n : Nat} {b : MS} {ds : List D} {S S' : List O} {e : Mo.Env} (hl : ds.length = np) (h : b (ds.map some ++ List.replicate (n - ds.length) none) S = .nx e S') : fnM np n b ds S = .ok .non (trimS true S S') := by
  unfold fnM
  rw [if_pos hl, h]
/-- a function's answer, its own objects gone -/
theorem fn_lo {np n : Nat} {b : MS} {ds : List D} {S T : List O} {d : D} (hl : ds.length = np) (h : b (ds.map some ++ List.replicate (n - ds.length) none) S = .rt d (S ++ T)) (h2 : D.lo S.length d = true) : nbF (fnM np n b) ds S = .ok d S :=
  nb_ok ((fn_rt hl h).trans (by rw [h2, trim_app]))
theorem at_0 {S : List O} {a : O} {T : List O} : (S ++ (a :: T))[S.length]? = some a := by rw [List.getElem?_append_right (Nat.le_refl _), Nat.sub_self]; rfl
theorem at_1 {S : List O} {a b : O} {T : List O} : (S ++ (a :: b :: T))[S.length + 1]? = some b := by rw [List.getElem?_append_right (by omega), show S.length + 1 - S.length = 1 by omega]; rfl
theorem at_l {S : List O} {T : List O} {i : Nat} {o : O} (h : S[i]? = some o) : (S ++ T)[i]? = some o := by rw [List.getElem?_append_left (List.getElem?_eq_some_iff.mp h).1]; exact h
theorem set_0 {S : List O} {a b : O} {T : List O} : (S ++ (a :: T)).set S.length b = S ++ (b :: T) := by rw [List.set_append_right _ _ (Nat.le_refl _), Nat.sub_self]; rfl
theorem set_1 {S : List O} {a b c : O} {T : List O} : (S ++ (a :: b :: T)).set (S.length + 1) c = S ++ (a :: c :: T) := by rw [List.set_append_right _ _ (by omega), show S.length + 1 - S.length = 1 by omega]; rfl
theorem cut_lo {α : Type} {l : List α} {i : Nat} (h : i ≤ l.length) : Mo.cutD l none (some (i : Nat)) = l.take i := by
  unfold Mo.cutD HT.sIx
  have e : (if ((i : Nat) : Int) < 0 then (((i : Nat) : Int) + (l.length : Int)).toNat else min ((i : Nat) : Int).toNat l.length) = i := by rw [if_neg (by omega)]; omega
  simp only [e, List.drop_zero, Nat.sub_zero]
theorem atI_nat {l : List D} {i : Nat} {d : D} (h : l[i]? = some d) : atI l (i : Int) = some d := by
  have hl := (List.getElem?_eq_some_iff.mp h).1
  unfold atI ixN
  rw [if_pos (by omega), if_pos (by omega)]
  exact h
end Ev

namespace Ev
open PySem PySem.Spec L2 PyProof.Rows Mo
/-! ### numbers from a deck -/
def bDeck : MS :=
  sRet (mNew (mCons (mCB gList (mCons (mSl (mVar 0) moN (moS (mC (.int 63)))) mNil)) (mCons (mC (.int 0)) (mCons (mC (.int 0)) (mCons (mC (.int 0)) mNil)))))
def bTail : MS :=
  sSeq (sSet (mBin gAdd (mBin gIx (mVar 0) (mC (.int 1))) (mC (.int 1))) (mVar 0) (mC (.int 1))) (
  sSeq (sIf (mAnd (mTB (mBin gGe (mCB gAbs (mCons (mVar 3) mNil)) (mBin gPow (mC (.int 10)) (mC (.int 18))))) (mTB (mBin gLe (mBin gIx (mVar 0) (mC (.int 1))) (mCB gLen (mCons (mBin gIx (mVar 0) (mC (.int 0))) mNil))))) (
  sSeq (sSet (mBin gDiv (mCB gAbs (mCons (mVar 3) mNil)) (mVar 1)) (mVar 0) (mC (.int 2))) (
  sRet (mBin gMod (mCB gInt (mCons (mCB gAbs (mCons (mVar 3) mNil)) mNil)) (mVar 1)))) (
  sNil)) (
  sSeq (sAsg 4 (mBin gMod (mBin gPow (mCB gInt (mCons (mBin gAdd (mBin gMod (mCB gInt (mCons (mVar 3) mNil)) (mC (.int 2147483629))) (mBin gMul (mC (.int 104723)) (mBin gIx (mVar 0) (mC (.int 3))))) mNil)) (mC (.int 5))) (mC (.int 2147483647)))) (
  sSeq (sAsg 4 (mBin gMod (mBin gPow (mCB gInt (mCons (mBin gAdd (mBin gMul (mVar 4) (mBin gAdd (mBin gMul (mC (.int 2)) (mBin gIx (mVar 0) (mC (.int 3)))) (mC (.int 3)))) (mC (.int 7907))) mNil)) (mC (.int 3))) (mC (.int 2147483587)))) (
  sRet (mBin gMod (mBin gDiv (mVar 4) (mC (.int 64))) (mVar 1))))))
def bDrw : MS :=
  sSeq (sSet (mBin gAdd (mBin gIx (mVar 0) (mC (.int 3))) (mC (.int 1))) (mVar 0) (mC (.int 3))) (
  sSeq (sIf (mTB (mBin gGt (mBin gIx (mVar 0) (mC (.int 2))) (mC (.int 0)))) (
  sSeq (sAsg 2 (mBin gMod (mCB gInt (mCons (mBin gIx (mVar 0) (mC (.int 2))) mNil)) (mVar 1))) (
  sSeq (sSet (mBin gDiv (mBin gIx (mVar 0) (mC (.int 2))) (mVar 1)) (mVar 0) (mC (.int 2))) (
  sRet (mVar 2)))) (
  sNil)) (
  sSeq (sAsg 3 (mC (.int 31))) (
  sSeq (sIf (mTB (mBin gNe (mBin gIx (mVar 0) (mC (.int 0))) (mLst mNil))) (
  sAsg 3 (mBin gIx (mBin gIx (mVar 0) (mC (.int 0))) (mBin gMod (mCB gInt (mCons (mBin gIx (mVar 0) (mC (.int 1))) mNil)) (mCB gLen (mCons (mBin gIx (mVar 0) (mC (.int 0))) mNil))))) (
  sNil)) bTail)))
abbrev deckO (cs : List Int) (p l c : Int) : O := .lst [.lst (cs.map .int), .int p, .int l, .int c]
structure DeckAt (S : List O) (j : Nat) (cs : List Int) (p l c : Int) : Prop where
  at_ : S[j]? = some (deckO cs p l c)
  l0 : 0 ≤ l
  csl : cs.length ≤ 63
  p0 : 0 ≤ p
  c0 : 0 ≤ c
theorem x_abs {S : List O} {i : Int} : gAbs S [.int i] = some (.int (if i < 0 then -i else i)) := rfl
theorem x_neNil {S : List O} {cs : List Int} : gNe S (.lst (cs.map .int)) (.lst []) = some (.bl (!decide (cs = []))) := by
  have h := x_eqNil (S := S) (cs := cs)
  unfold gEq at h
  unfold gNe
  cases e : eqB S (.lst (cs.map .int)) (.lst []) with
  | none => rw [e] at h; cases h
  | some k =>
    rw [e] at h
    have : k = decide (cs = []) := by
      have := Option.some.inj h
      exact D.bl.inj this
    rw [this]
    rfl
theorem tail_run {S : List O} {j : Nat} {l p c many cell : Int} {cs : List Int} {a2 : Option D} (F : DeckAt S j cs p l c) (hm : 0 < many) (hm2 : many < 100000000000000000000) (hc : c < 1000000000) :
    ∃ d l' p', bTail [some (.ref j), some (.int many), a2, some (.int cell), none] S = .rt (.int d) (S.set j (deckO cs p' l' c)) ∧ 0 ≤ d ∧ d < many ∧ 0 ≤ l' ∧ 0 ≤ p' := by
  obtain ⟨h, l0, csl, p0, c0⟩ := F
  have hj : j < S.length := (List.getElem?_eq_some_iff.mp h).1
  have s3 : (S.set j (deckO cs (p + 1) l c))[j]? = some (deckO cs (p + 1) l c) := List.getElem?_set_self hj
  let A : Int := if cell < 0 then -cell else cell
  have hA : 0 ≤ A := by show 0 ≤ (if cell < 0 then -cell else cell); split <;> omega
  unfold bTail
  have e18 : ∀ (T : List O), mBin gPow (mC (.int 10)) (mC (.int 18)) [some (.ref j), some (.int many), a2, some (.int cell), none] T = .ok (.int 1000000000000000000) T := fun T => v_bin v_C v_C (x_pow (by decide) (by decide) (by decide))
  by_cases hb : 1000000000000000000 ≤ A ∧ p + 1 ≤ (cs.length : Int)
  · refine ⟨A % many, A / many, p + 1, ?_, Int.emod_nonneg _ (by omega), Int.emod_lt_of_pos _ hm, Int.ediv_nonneg hA (by omega), by omega⟩
    refine w_seq (w_set (v_bin (v_bin (v_var rfl) v_C (x_ix h rfl)) v_C x_addI) (v_var rfl) v_C (x_set h rfl)) ?_
    refine w_seqR (w_ifT (v_andT (v_tb (v_bin (v_cb (v_cons (v_var rfl) v_nil) x_abs) (e18 _) (by rw [x_ge, decide_eq_true hb.1]))) (v_tb (v_bin (v_bin (v_var rfl) v_C (x_ix s3 rfl)) (v_cb (v_cons (v_bin (v_var rfl) v_C (x_ix s3 rfl)) v_nil) x_lenL) (by rw [x_le, List.length_map, decide_eq_true hb.2])))) ?_)
    refine w_seq (w_set (v_bin (v_cb (v_cons (v_var rfl) v_nil) x_abs) (v_var rfl) (x_div hm hm2)) (v_var rfl) v_C (x_set s3 rfl)) ?_
    rw [List.set_set]
    exact w_ret (v_bin (v_cb (v_cons (v_cb (v_cons (v_var rfl) v_nil) x_abs) v_nil) x_int) (v_var rfl) (x_mod hm))
  · have m1 : 0 ≤ cell % 2147483629 ∧ cell % 2147483629 < 2147483629 := ⟨Int.emod_nonneg _ (by decide), Int.emod_lt_of_pos _ (by decide)⟩
    let y := (cell % 2147483629 + 104723 * c) ^ (5 : Int).toNat % 2147483647
    have hy : 0 ≤ y ∧ y < 2147483647 := ⟨Int.emod_nonneg _ (by decide), Int.emod_lt_of_pos _ (by decide)⟩
    have hb1 : (y * (2 * c + 3) + 7907).natAbs < 18446744073709551616 := by
      have k1 : 0 ≤ y * (2 * c + 3) := Int.mul_nonneg hy.1 (by omega)
      have k2 : y * (2 * c + 3) ≤ 2147483647 * 2000000003 := Int.mul_le_mul (by omega) (by omega) (by omega) (by decide)
      omega
    let y2 := (y * (2 * c + 3) + 7907) ^ (3 : Int).toNat % 2147483587
    refine ⟨y2 / 64 % many, l, p + 1, ?_, Int.emod_nonneg _ (by omega), Int.emod_lt_of_pos _ hm, l0, by omega⟩
    refine w_seq (w_set (v_bin (v_bin (v_var rfl) v_C (x_ix h rfl)) v_C x_addI) (v_var rfl) v_C (x_set h rfl)) ?_
    refine w_seq (S1 := S.set j (deckO cs (p + 1) l c)) (w_ifF ?_ rfl) ?_
    · by_cases h1 : 1000000000000000000 ≤ A
      · exact v_andT (v_tb (v_bin (v_cb (v_cons (v_var rfl) v_nil) x_abs) (e18 _) (by rw [x_ge, decide_eq_true h1]))) (v_tb (v_bin (v_bin (v_var rfl) v_C (x_ix s3 rfl)) (v_cb (v_cons (v_bin (v_var rfl) v_C (x_ix s3 rfl)) v_nil) x_lenL) (by rw [x_le, List.length_map, decide_eq_false (fun q => hb ⟨h1, q⟩)])))
      · exact v_andF (v_tb (v_bin (v_cb (v_cons (v_var rfl) v_nil) x_abs) (e18 _) (by rw [x_ge, decide_eq_false h1])))
    refine w_seq (w_asg (v_bin (v_bin (v_cb (v_cons (v_bin (v_bin (v_cb (v_cons (v_var rfl) v_nil) x_int) v_C (x_mod (by decide))) (v_bin v_C (v_bin (v_var rfl) v_C (x_ix s3 rfl)) (x_mul (by decide))) x_addI) v_nil) x_int) v_C (x_pow (by decide) (by decide) (by omega))) v_C (x_mod (by decide)))) ?_
    refine w_seq (w_asg (v_bin (v_bin (v_cb (v_cons (v_bin (v_bin (v_var rfl) (v_bin (v_bin v_C (v_bin (v_var rfl) v_C (x_ix s3 rfl)) (x_mul (by decide))) v_C x_addI) (x_mul (by show y.natAbs < _; omega))) v_C x_addI) v_nil) x_int) v_C (x_pow (by decide) (by decide) hb1)) v_C (x_mod (by decide)))) ?_
    exact w_ret (v_bin (v_bin (v_var rfl) v_C (x_div (by decide) (by decide))) (v_var rfl) (x_mod hm))
theorem drw_run {S : List O} {j : Nat} {l p c many : Int} {cs : List Int} (F : DeckAt S j cs p l c) (hm : 0 < many) (hm2 : many < 100000000000000000000) (hc : c < 100000000) :
    ∃ d l' p', bDrw [some (.ref j), some (.int many), none, none, none] S = .rt (.int d) (S.set j (deckO cs p' l' (c + 1))) ∧ 0 ≤ d ∧ d < many ∧ 0 ≤ l' ∧ 0 ≤ p' := by
  obtain ⟨h, l0, csl, p0, c0⟩ := F
  have hj : j < S.length := (List.getElem?_eq_some_iff.mp h).1
  have s1 : (S.set j (deckO cs p l (c + 1)))[j]? = some (deckO cs p l (c + 1)) := List.getElem?_set_self hj
  unfold bDrw
  by_cases hl : 0 < l
  · refine ⟨l % many, l / many, p, ?_, Int.emod_nonneg _ (by omega), Int.emod_lt_of_pos _ hm, Int.ediv_nonneg l0 (by omega), p0⟩
    refine w_seq (w_set (v_bin (v_bin (v_var rfl) v_C (x_ix h rfl)) v_C x_addI) (v_var rfl) v_C (x_set h rfl)) ?_
    refine w_seqR (w_ifT (v_tb (v_bin (v_bin (v_var rfl) v_C (x_ix s1 rfl)) v_C (by rw [x_gt, decide_eq_true hl]))) ?_)
    refine w_seq (w_asg (v_bin (v_cb (v_cons (v_bin (v_var rfl) v_C (x_ix s1 rfl)) v_nil) x_int) (v_var rfl) (x_mod hm))) ?_
    refine w_seq (w_set (v_bin (v_bin (v_var rfl) v_C (x_ix s1 rfl)) (v_var rfl) (x_div hm hm2)) (v_var rfl) v_C (x_set s1 rfl)) ?_
    rw [List.set_set]
    exact w_ret (v_var rfl)
  · have pre : ∃ cell : Int, sIf (mTB (mBin gNe (mBin gIx (mVar 0) (mC (.int 0))) (mLst mNil))) (
  sAsg 3 (mBin gIx (mBin gIx (mVar 0) (mC (.int 0))) (mBin gMod (mCB gInt (mCons (mBin gIx (mVar 0) (mC (.int 1))) mNil)) (mCB gLen (mCons (mBin gIx (mVar 0) (mC (.int 0))) mNil))))) (
  sNil) [some (.ref j), some (.int many), none, some (.int 31), none] (S.set j (deckO cs p l (c + 1))) = .nx [some (.ref j), some (.int many), none, some (.int cell), none] (S.set j (deckO cs p l (c + 1))) := by
      have t : ∀ k, (!decide (cs = [])) = k → mTB (mBin gNe (mBin gIx (mVar 0) (mC (.int 0))) (mLst mNil)) [some (.ref j), some (.int many), none, some (.int 31), none] (S.set j (deckO cs p l (c + 1))) = .ok k (S.set j (deckO cs p l (c + 1))) := fun k hk => v_tb (v_bin (v_bin (v_var rfl) v_C (x_ix s1 rfl)) (v_lst v_nil (by decide)) (by rw [x_neNil, hk]))
      by_cases hc0 : cs = []
      · exact ⟨31, w_ifF (t false (by simp [hc0])) rfl⟩
      · have v0 : 0 < cs.length := List.length_pos_iff.mpr hc0
        have hq : 0 ≤ p % (cs.length : Int) ∧ p % (cs.length : Int) < (cs.length : Int) := ⟨Int.emod_nonneg _ (by omega), Int.emod_lt_of_pos _ (by omega)⟩
        obtain ⟨cell, hcell⟩ : ∃ cell : Int, atI (cs.map D.int) (p % (cs.length : Int)) = some (.int cell) := by
          have hn : (p % (cs.length : Int)).toNat < cs.length := by omega
          refine ⟨cs[(p % (cs.length : Int)).toNat], ?_⟩
          unfold atI ixN
          rw [List.length_map, if_pos hq.1, if_pos hq.2]
          show (cs.map D.int)[(p % (cs.length : Int)).toNat]? = _
          rw [List.getElem?_map, List.getElem?_eq_getElem hn]
          rfl
        refine ⟨cell, w_ifT (t true (by simp [hc0])) ?_⟩
        exact w_asg (v_bin (v_bin (v_var rfl) v_C (x_ix s1 rfl)) (v_bin (v_cb (v_cons (v_bin (v_var rfl) v_C (x_ix s1 rfl)) v_nil) x_int) (v_cb (v_cons (v_bin (v_var rfl) v_C (x_ix s1 rfl)) v_nil) x_lenL) (x_mod (by rw [List.length_map]; omega))) (x_ixl (by rw [List.length_map]; exact hcell)))
    obtain ⟨cell, hcell⟩ := pre
    obtain ⟨d, l', p', r, d1, d2, d3, d4⟩ := tail_run (cell := cell) (a2 := none) (F := (⟨s1, l0, csl, p0, by omega⟩ : DeckAt _ j cs p l (c + 1))) hm hm2 (by omega)
    refine ⟨d, l', p', ?_, d1, d2, d3, d4⟩
    refine w_seq (w_set (v_bin (v_bin (v_var rfl) v_C (x_ix h rfl)) v_C x_addI) (v_var rfl) v_C (x_set h rfl)) ?_
    refine w_seq (w_ifF (v_tb (v_bin (v_bin (v_var rfl) v_C (x_ix s1 rfl)) v_C (by rw [x_gt, decide_eq_false hl]))) rfl) ?_
    refine w_seq (w_asg v_C) ?_
    refine w_seq hcell ?_
    rw [r, List.set_set]
/-- the deck in slot 0, at most m draws behind it -/
def Dk (S : List O) (m : Nat) : Prop := ∃ cs p l c, DeckAt S 0 cs p l c ∧ c ≤ (m : Int)
/-- but for slot 0 the same -/
def Ag (S S' : List O) : Prop := S'.length = S.length ∧ ∀ i, i ≠ 0 → S'[i]? = S[i]?
theorem Ag.refl (S : List O) : Ag S S := ⟨rfl, fun _ _ => rfl⟩
theorem Ag.trans {S S1 S2 : List O} (a : Ag S S1) (b : Ag S1 S2) : Ag S S2 := ⟨b.1.trans a.1, fun i h => (b.2 i h).trans (a.2 i h)⟩
theorem Dk.mono {S : List O} {m k : Nat} (h : Dk S m) (le : m ≤ k) : Dk S k := by
  obtain ⟨cs, p, l, c, F, hc⟩ := h
  exact ⟨cs, p, l, c, F, by omega⟩
theorem Dk.pos {S : List O} {m : Nat} (h : Dk S m) : 0 < S.length := by
  obtain ⟨cs, p, l, c, F, hc⟩ := h
  exact (List.getElem?_eq_some_iff.mp F.at_).1
theorem Dk.of_get {S S' : List O} {m : Nat} (h : Dk S m) (e : S'[0]? = S[0]?) : Dk S' m := by
  obtain ⟨cs, p, l, c, F, hc⟩ := h
  exact ⟨cs, p, l, c, ⟨e.trans F.at_, F.l0, F.csl, F.p0, F.c0⟩, hc⟩
theorem Dk.app {S T : List O} {m : Nat} (h : Dk S m) : Dk (S ++ T) m := h.of_get (List.getElem?_append_left h.pos)
abbrev fDrw : List D → List O → R D := nbF (fnM 2 5 bDrw)
theorem drw {S : List O} {m : Nat} {many : Int} (h : Dk S m) (hm : m < 10000000) (h1 : 0 < many) (h2 : many < 100000000000000000000) :
    ∃ d S', fDrw [.ref 0, .int many] S = .ok (.int d) S' ∧ 0 ≤ d ∧ d < many ∧ Dk S' (m + 1) ∧ Ag S S' := by
  obtain ⟨cs, p, l, c, F, hc⟩ := h
  obtain ⟨d, l', p', e1, e2, e3, e4, e5⟩ := drw_run F h1 h2 (by omega)
  refine ⟨d, S.set 0 (deckO cs p' l' (c + 1)), nb_ok ((fn_rt (S' := S.set 0 (deckO cs p' l' (c + 1))) (d := .int d) rfl e1).trans (by rw [trim_same (by rw [List.length_set])])), e2, e3, ⟨cs, p', l', c + 1, ⟨List.getElem?_set_self (List.getElem?_eq_some_iff.mp F.at_).1, e4, F.csl, e5, by have := F.c0; omega⟩, by omega⟩, by rw [List.length_set], fun i hi => List.getElem?_set_ne (Ne.symm hi)⟩
/-- one of some -/
def bOne : MS := sRet (mBin gIx (mVar 1) (mCall fDrw (mCons (mVar 0) (mCons (mCB gLen (mCons (mVar 1) mNil)) mNil))))
theorem one {S : List O} {m : Nat} {items : List D} (h : Dk S m) (hm : m < 10000000) (h1 : items ≠ []) (h2 : items.length < 1000) :
    ∃ d ∈ items, ∃ S', nbF (fnM 2 2 bOne) [.ref 0, .lst items] S = .ok d S' ∧ Dk S' (m + 1) ∧ Ag S S' := by
  have hp : 0 < items.length := List.length_pos_iff.mpr h1
  obtain ⟨i, S', e1, e2, e3, F', A⟩ := drw (many := (items.length : Nat)) h hm (by omega) (by omega)
  have hi : i.toNat < items.length := by omega
  refine ⟨items[i.toNat], List.getElem_mem hi, S', nb_ok ?_, F', A⟩
  refine (fn_rt (S' := S') (d := items[i.toNat]) rfl ?_).trans (congrArg _ (trim_same A.1))
  refine w_ret (v_bin (v_var rfl) (v_call (v_cons (v_var rfl) (v_cons (v_cb (v_cons (v_var rfl) v_nil) x_lenL) v_nil)) e1) ?_)
  show atI items i = _
  unfold atI ixN
  rw [if_pos e2, if_pos e3]
  show items[i.toNat]? = _
  rw [List.getElem?_eq_getElem hi]
theorem deck_call (ns : List Int) : ∃ S, nbF (fnM 1 1 bDeck) [.kl (ns.map .int)] [] = .ok (.ref 0) S ∧ Dk S 0 ∧ S.length = 1 := by
  let cs : List Int := Mo.cutD ns none (some 63)
  have hcut : Mo.cutD (ns.map D.int) none (some 63) = cs.map D.int := by
    show _ = (Mo.cutD ns none (some 63)).map D.int
    unfold Mo.cutD
    rw [List.length_map, List.map_take, List.map_drop]
  have hl : cs.length ≤ 63 := by
    show (Mo.cutD ns none (some 63)).length ≤ 63
    unfold Mo.cutD
    rw [List.length_take]
    refine Nat.le_trans (Nat.min_le_left _ _) ?_
    show (min (Int.toNat 63) ns.length) - 0 ≤ 63
    omega
  refine ⟨[deckO cs 0 0 0], nb_ok ?_, ⟨cs, 0, 0, 0, ⟨rfl, Int.le_refl _, hl, Int.le_refl _, Int.le_refl _⟩, Int.le_refl _⟩, rfl⟩
  refine (fn_rt (np := 1) (n := 1) (b := bDeck) (ds := [.kl (ns.map .int)]) (S := []) (S' := [deckO cs 0 0 0]) (d := .ref 0) rfl ?_).trans ?_
  rotate_left
  · show R.ok (D.ref 0) (trimS (D.lo 0 (D.ref 0)) [] [deckO cs 0 0 0]) = _
    rfl
  refine w_ret (v_new (S1 := []) (l := [.lst (cs.map .int), .int 0, .int 0, .int 0]) (v_cons ?_ (v_cons v_C (v_cons v_C (v_cons v_C v_nil)))) (show 4 ≤ 16777216 by decide))
  refine v_cb (l := [.lst (cs.map .int)]) (v_cons (v_sl (v_var rfl) v_moN (v_moS v_C) ?_) v_nil) rfl
  show some (D.lst (Mo.cutD (ns.map D.int) none (some 63))) = _
  rw [hcut]
end Ev

namespace Mo
open PySem PySem.Spec PyProof.Rows L2

/-! ### what leaves a def -/
abbrev CXx (P : Program) (w : World) : CXT := L2.CX P w
theorem passX {X : Cx} {W : WX'} (tk : Takes X W) : PassG (CXx X.prog X.w) X W := fun _ _ _ _ e s' I c => tk e s' (XE.of_call I (fun _ _ _ h => h) c)
section
variable {P : Program} {w : World} {K : PySem.W.Frag} {mg : Str → Option Value} {base : Heap}
abbrev spX (K : PySem.W.Frag) (np n : Nat) (b : MS) : Sp := fun vs H Q E => spM K np (fnM np n b) vs H Q E
/-- a def that may raise, by its body's function -/
theorem fn_mX {x qual : Str} {st : Stmt} {f : Addr} {fd : FuncData} {N ps : List Str} {k n np : Nat} {b : MS} (F : Fun K x qual st f fd) (S : FnScope N ps (defScope st)) (hn : N.length = n) (hp : ps.length = np)
    (body : ∀ (cdv : Value) (A : Around) (outer : List PySem.Env) (s : Shared) (H : Hp) (E : XK), RoomG k (A.deeper (envOfC qual (defScope st) s.heap.objs.size f cdv)) →
      PSs (cxOf (CXx P w) P w K mg base N qual (defScope st) f cdv A outer s H E) (defBody st) (tS K (ofX E) b)) :
    FnG P w K mg base (CXx P w) (k + 1) f fd ps (spX K np n b) :=
  Fun.okG F S (fun vs H Q E h => by rw [hp]; exact h.1) fun cdv A outer s H vs Q E hr h => ⟨_, body cdv A outer s H E hr, body_of hn h⟩
end
section
variable {X : Cx} {W : WX'} {k : Nat} {f : Addr} {fd : FuncData} {ps : List Str} {x : Str} {p pos : Pos} {e : Expr} {es : List Expr} {m : MA} {np nn : Nat} {b : MS}
theorem pm_callX (tk : Takes X W) (F : FnG X.prog X.w X.K X.mg X.base (CXx X.prog X.w) k f fd ps (spX X.K np nn b)) (hr : RoomG k X.A) (hg : Gl X x) (hm : X.mg x = some (.ref f)) (hk : PySem.W.keepIn X.K (.ref f) = true) (hb : Binds X.K fd ps [])
    (ha : PA X (e :: es) (tA X.K W m)) (hdb : (x == ("__debug__" : Str)) = false := by decide) (he : starEach (e :: es) X.env = (false, eval e X.env) :: starEach es X.env := by rfl) (hpl : (backTo pos (starEach es X.env)).any (·.1) = false := by rfl) :
    PE X (.Call (.Name x p) (e :: es) [] pos) (tE X.K W (mCall (fnM np nn b) m)) :=
  PE.imp (pe_callG F hr hg hm hk hb (passX tk) ha hdb he hpl) fun _ _ _ h => i_call (fun _ _ _ z => z) h
end

/-! ### raise X() -/
/-- X() -/
theorem pmk_own0 {X : Cx} {C : Addr} {bmB : List Value} {B newId initId : String} {x : Str} {p pos : Pos} (F : ExcBaseFacts B newId initId bmB) (q : PySem.W.excIn X.K C bmB newId = true) (gC : X.mg x = some (.ref C)) (kC : PySem.W.keepIn X.K (.ref C) = true) (r : Raises X (.ref C)) (hg : Gl X x)
    (hdb : (x == ("__debug__" : Str)) = false := by decide) : PMk X (.Call (.Name x p) [] [] pos) (fun _ H Q => Q (.ref C) none H) := by
  intro pins s σ H Q I h
  refine wpAny_Call_Name_kw (ld_glob I hg gC ?_ hdb)
  refine PySem.W.callWith_K0 I.kIn kC ?_
  obtain ⟨bm, N, nm, qn, bs, hdct, sn, sub, ab, col, dd, k0, k1, k2, k3, k5, mN, hC, hN, hni, T⟩ := exc_obj I.kIn q
  refine wpAny_call_exc_subT F T hC hN hni (fun h' e hm => ?_) (by show 0 ≤ sizeLine; exact Nat.zero_le _)
  exact mk_of I hm r h (I.hok.gone hm.new)
def sRaise (C : Addr) : MS := fun e S => .er ⟨.ref C, none⟩ e S
structure ExcF (K : PySem.W.Frag) (C : Addr) : Prop where
  x : PySem.W.excIn K C [.type "ValueError", .type "Exception", .type "BaseException", .type "object"] "ValueError.__new__" = true
  kp : PySem.W.keepIn K (.ref C) = true
  bs : PySem.W.subIn K (.ref C) (.type "BaseException") = some true
  ty : PySem.W.typeIn K (.ref C) = some (.type "type")
section
variable {X : Cx} {W : WX'} {C : Addr} {x : Str} {p pos pos' : Pos}
theorem sm_raise (T : ExcF X.K C) (hc : X.calm = true) (tk : Takes X W) (hg : Gl X x) (hm : X.mg x = some (.ref C)) (hdb : (x == ("__debug__" : Str)) = false := by decide) :
    PS X (.Raise (some (.Call (.Name x p) [] [] pos)) none pos') (tS X.K W (sRaise C)) :=
  PS.imp (ps_raise hc tk (pmk_own0 PySem.F.excBase_ValueError T.x hm T.kp (raises_own T.bs T.ty) hg hdb)) fun D σ H h => by
    obtain ⟨g, e, rfl, rp, re, q⟩ := h
    exact q g σ (.ref C) none (Ext.refl g) rfl rp re ⟨rfl, trivial⟩
end
end Mo
namespace Mo
open PySem PySem.Spec PySem.Calls PyProof.Rows L2 PySem.W

/-! ### own operators that may raise -/
def OpX (X : Cx) (f : Value → Value → Sem Value) (r : L2.St → R2) : Prop :=
  ∀ (pins : List (Addr × Obj)) (s : Shared) (σ : L2.St) (H : Hp) (x y : V) (v u : Value) (Q : VK), L2.Inv X pins σ H s → RelV x v → RelV y u → r σ x y H Q →
    wpAny (model X.prog X.w) X.A (f v u) (EP X pins σ Q) X.xe s
section
variable {X : Cx} {a b : Expr} {ta tb : TE} {pos : Pos}
theorem pe_opX {op : Operator} {r : L2.St → R2} (ho : OpX X (binaryOp op) r) (ha : PE X a ta) (hb : PE X b tb) : PE X (.BinOp a op b pos) (fun σ H Q => tOp (r σ) ta tb σ H Q) := by
  refine ⟨fun pins s σ H Q I h => ?_⟩
  exact wpAny_BinOp (binT ha hb I h fun v u s2 x y H2 I2 rx ry q => ho pins s2 σ H2 x y v u Q I2 rx ry q)
def tAugX (i : Nat) (te : TE) (r : L2.St → R2) : TS := fun D σ H => ∃ x, σ[i]? = some (some x) ∧ te σ H fun y H1 => r σ x y H1 fun z H2 => D.nx (σ.set i (some z)) H2
theorem ps_augX {i : Nat} {x : Str} {e : Expr} {te : TE} {op : Operator} {r : L2.St → R2} {pos' : Pos} (hN : X.N.Nodup) (hi : X.N[i]? = some x) (hx : Loc X.env.scope x) (he : PE X e te) (ho : OpX X (inplaceOp op) r) (hf : X.fn x = true ∨ X.env.scope.names.lookup x = some .local := by first | exact .inl rfl | exact .inr rfl | assumption) :
    PS X (.AugAssign (.Name x pos') op e pos) (tAugX i te r) := by
  refine ⟨fun pins s σ H D I h => ?_⟩
  obtain ⟨v, e1, h⟩ := h
  obtain ⟨m, hn, hl⟩ := I.loc
  have vis : Vis X.env.scope x := by rcases hx with k | k; exact .inl k; exact .inr (.inl k)
  obtain ⟨u, rr, l⟩ := hl i x v hi e1 vis
  refine wpAny_AugAssign_Name ?_
  have go : wpAny (model X.prog X.w) X.A (eval e X.env) (fun w s₂ => wpAny (model X.prog X.w) X.A (inplaceOp op u w) (fun r s₃ => wpAny (model X.prog X.w) X.A (storeName X.env x r) (fun _ => SP X pins D .next) X.xe s₃) X.xe s₂) X.xe s := by
    refine thn (he.run pins s σ H _ I h) fun w s1 ⟨y, H1, I1, r1, q1⟩ => ?_
    refine thn (ho pins s1 σ H1 v y u w _ I1 rr r1 q1) fun z s2 ⟨zv, H2, I2, r2, q2⟩ => ?_
    exact store_ok I2 hN hi hx r2 (fun s3 I3 => ⟨_, H2, I3, q2⟩) hf
  rcases l with ⟨hk, hm⟩ | ⟨hk, c, hc, hcell⟩
  · exact wpAny_loadName_local I.ok.kind hk hn hm go
  · rcases hk with hk | hk
    · exact wpAny_loadName_cell I.ok.kind hk hc hcell go
    · rcases hx with k | k
      · have : X.env.scope.names.lookup x = some .free := hk
        rw [k] at this; cases this
      · have : X.env.scope.names.lookup x = some .free := hk
        rw [k] at this; cases this
end
/-- what may go wrong, at the slots σ -/
abbrev EW (W : WX') (σ : L2.St) : XK := fun cls d H => W cls d σ H
def rOwnX (C : Addr) (W : WX') (spa spr : Sp) (rd : R2) : L2.St → R2 := fun σ x y H Q =>
  (∃ a dx fs, x = .ref a ∧ H a = some (.ins C dx fs) ∧ ((∃ b dy gs, y = .ref b ∧ H b = some (.ins C dy gs)) ∨ ∃ j, y = .int j) ∧ spa [x, y] H Q (EW W σ)) ∨
  (∃ i a dx fs, x = .int i ∧ y = .ref a ∧ H a = some (.ins C dx fs) ∧ spr [y, x] H Q (EW W σ)) ∨ rd x y H Q
section
variable {X : Cx} {W : WX'} {k : Nat} {f fr C : Addr} {fd fd' : FuncData} {ps ps' : List Str} {sp sp' : Sp} {rd : R2} {op : Operator} {fo ro rc : Option Value}
theorem call_ownX {pins : List (Addr × Obj)} {σ : L2.St} {H : Hp} {s : Shared} {Q : VK} {us : List Value} {vs : List V} (tk : Takes X W) (F : FnG X.prog X.w X.K X.mg X.base (CXx X.prog X.w) k f fd ps sp) (hr : RoomG k X.A) (hb : Binds X.K fd ps []) (I : L2.Inv X pins σ H s) (r : Vals vs us) (h : sp vs H Q (EW W σ)) :
    wpAny (model X.prog X.w) X.A (call (.ref f) us) (EP X pins σ Q) X.xe s := by
  refine wpAny_call (codeAny_mono (run_g F hr (fun hl => by have := hb s us I.kIn (by simpa using hl); simpa using this) (fun e s' hc => passX tk pins σ H s e s' I hc) I r h) fun r s' hq => ?_)
  cases r with
  | error e => exact hq
  | ok fl => cases fl <;> exact hq
theorem o_ownX (tk : Takes X W) (F : FnG X.prog X.w X.K X.mg X.base (CXx X.prog X.w) k f fd ps sp) (F' : FnG X.prog X.w X.K X.mg X.base (CXx X.prog X.w) k fr fd' ps' sp') (hr : RoomG k X.A) (hb : Binds X.K fd ps []) (hb' : Binds X.K fd' ps' []) (w1 : OwnOp X.K C op f fo ro rc) (w2 : OwnR X.K C op fr) (w3 : IntOp op)
    (ho : OpR X (binaryOp op) rd) : OpX X (binaryOp op) (rOwnX C W sp sp' rd) := by
  intro pins s σ H x y v u Q I rx ry h
  rcases h with ⟨a, dx, fs, rfl, ha, h1, h2⟩ | ⟨i, a, dx, fs, rfl, rfl, ha, h2⟩ | h
  · cases (show v = Value.ref a from rx)
    obtain ⟨od, J⟩ := inst_of I ha
    have go : wpAny (model X.prog X.w) X.A (call (.ref f) [.ref a, u]) (PySem.W.CmpBack (EP X pins σ Q)) X.xe s := wpAny_mono (call_ownX tk F hr hb I (vs := [.ref a, y]) (.cons rfl (.cons ry .nil)) h2) (fun _ _ z => cmpBack z) fun _ _ z => z
    rcases h1 with ⟨b, dy, gs, rfl, hb⟩ | ⟨j, rfl⟩
    · cases (show u = Value.ref b from ry)
      obtain ⟨od', J'⟩ := inst_of I hb
      exact bin_same I.kIn J J'.type w1.sf w1.at_ w1.fn go
    · obtain ⟨t, rfl⟩ := (show ∃ t, u = Value.int j t from ry)
      exact bin_T (T := "int") I.kIn J rfl w1.sf w1.at_ w1.fn w1.r w1.rp w1.t1 w1.t2 w1.sub go
  · cases (show u = Value.ref a from ry)
    obtain ⟨t, rfl⟩ := (show ∃ t, v = Value.int i t from rx)
    obtain ⟨od, J⟩ := inst_of I ha
    obtain ⟨id, nm, ff, e1, e2, e3, e4⟩ := w3.ex
    exact bin_refl I.kIn J rfl w1.sf w1.at_ w2.r w2.fn w3.fills w2.sub e1 e2 (e3 _ _) (e4 _ _ _) fun tk' => wpAny_mono (call_ownX tk F' hr hb' (I.tok tk') (vs := [.ref a, .int i]) (.cons rfl (.cons rx .nil)) h2) (fun _ _ z => cmpBack z) fun _ _ z => z
  · exact ho pins s σ H x y v u Q I rx ry h
theorem o_ownLX (tk : Takes X W) (F : FnG X.prog X.w X.K X.mg X.base (CXx X.prog X.w) k f fd ps sp) (hr : RoomG k X.A) (hb : Binds X.K fd ps []) (w1 : OwnOp X.K C op f fo ro rc) (ho : OpR X (binaryOp op) rd) : OpX X (binaryOp op) (rOwnX C W sp (fun _ _ _ _ => False) rd) := by
  intro pins s σ H x y v u Q I rx ry h
  rcases h with ⟨a, dx, fs, rfl, ha, h1, h2⟩ | ⟨i, a, dx, fs, rfl, rfl, ha, h2⟩ | h
  · cases (show v = Value.ref a from rx)
    obtain ⟨od, J⟩ := inst_of I ha
    have go : wpAny (model X.prog X.w) X.A (call (.ref f) [.ref a, u]) (PySem.W.CmpBack (EP X pins σ Q)) X.xe s := wpAny_mono (call_ownX tk F hr hb I (vs := [.ref a, y]) (.cons rfl (.cons ry .nil)) h2) (fun _ _ z => cmpBack z) fun _ _ z => z
    rcases h1 with ⟨b, dy, gs, rfl, hb⟩ | ⟨j, rfl⟩
    · cases (show u = Value.ref b from ry)
      obtain ⟨od', J'⟩ := inst_of I hb
      exact bin_same I.kIn J J'.type w1.sf w1.at_ w1.fn go
    · obtain ⟨t, rfl⟩ := (show ∃ t, u = Value.int j t from ry)
      exact bin_T (T := "int") I.kIn J rfl w1.sf w1.at_ w1.fn w1.r w1.rp w1.t1 w1.t2 w1.sub go
  · exact False.elim h2
  · exact ho pins s σ H x y v u Q I rx ry h
def rAugX (C : Addr) (W : WX') (sp : Sp) : L2.St → R2 := fun σ x y H Q => ∃ a dx fs b dy gs, x = .ref a ∧ H a = some (.ins C dx fs) ∧ y = .ref b ∧ H b = some (.ins C dy gs) ∧ sp [x, y] H Q (EW W σ)
theorem o_augX (tk : Takes X W) (F : FnG X.prog X.w X.K X.mg X.base (CXx X.prog X.w) k f fd ps sp) (hr : RoomG k X.A) (hb : Binds X.K fd ps []) (w1 : OwnOp X.K C op f fo ro rc) (w2 : NoI X.K C op) : OpX X (inplaceOp op) (rAugX C W sp) := by
  intro pins s σ H x y v u Q I rx ry h
  obtain ⟨a, dx, fs, bb, dy, gs, rfl, ha, rfl, hb', h2⟩ := h
  cases (show v = Value.ref a from rx)
  cases (show u = Value.ref bb from ry)
  obtain ⟨od, J⟩ := inst_of I ha
  obtain ⟨od', J'⟩ := inst_of I hb'
  exact inpl_same I.kIn J J'.type w2 w1.sf w1.at_ w1.fn (wpAny_mono (call_ownX tk F hr hb I (us := [.ref a, .ref bb]) (vs := [.ref a, .ref bb]) (.cons rfl (.cons rfl .nil)) h2) (fun _ _ z => cmpBack z) fun _ _ z => z)
def tNegX (C : Addr) (W : WX') (sp : Sp) (ta : TE) : TE := fun σ H Q => ta σ H fun x H1 => (∃ a dx fs, x = .ref a ∧ H1 a = some (.ins C dx fs) ∧ sp [x] H1 Q (EW W σ)) ∨ rUn X.K gNeg x H1 Q
theorem pe_negX {a : Expr} {ta : TE} {pos : Pos} (tk : Takes X W) (F : FnG X.prog X.w X.K X.mg X.base (CXx X.prog X.w) k f fd ps sp) (hr : RoomG k X.A) (hb : Binds X.K fd ps []) (w1 : OwnM X.K C "__neg__" f) (he : PE X a ta) : PE X (.UnaryOp .USub a pos) (tNegX (X := X) C W sp ta) := by
  refine ⟨fun pins s σ H Q I h => ?_⟩
  refine UnaryOp_ (thn (he.run pins s σ H _ I h) fun v s1 ⟨x, H1, I1, rx, q1⟩ => ?_)
  rcases q1 with ⟨a, dx, fs, rfl, ha, h1⟩ | h
  · cases (show v = Value.ref a from rx)
    obtain ⟨od, J⟩ := inst_of I1 ha
    unfold unaryOp
    refine wpAny_holding ?_
    exact wpAny_bind (special_fn I1.kIn J w1.at_ (beq_iff_eq.mp w1.fn) (wpAny_mono (call_ownX tk F hr hb I1 (us := [.ref a]) (vs := [.ref a]) (.cons rfl .nil) h1) (fun _ _ z => wpAny_pure z) fun _ _ z => z))
  · exact o_neg pins s1 σ H1 x v Q I1 rx h
end
section
variable {K : PySem.W.Frag} {W : WX'} {σ : L2.St} {H : Hp} {Q : VK} {C : Addr} {ma mb : ME} {np nn nr : Nat} {b br : MS} {g : Op2}
theorem fn_postX {g1 : G} {ds : List D} {vs : List V} {n1 n2 : Nat} {bb : MS} (r1 : Rep K g1) (rv : RDs K g1 ds vs) (p : Post K W g1 (fnM n1 n2 bb ds g1.S) σ fun d g' => ∀ v, RD K g' d v → Q v g'.H) : spM K n1 (fnM n1 n2 bb) vs g1.H Q (EW W σ) := by
  refine ⟨?_, g1, ds, rfl, r1, rv, ?_⟩
  · rw [← rv.length]
    exact fnM_len (S := g1.S) fun z => by rw [z] at p; exact p
  · cases q : fnM n1 n2 bb ds g1.S with
    | ok d S => rw [q] at p; exact p
    | er x S => rw [q] at p; exact p
    | bad => rw [q] at p; exact False.elim p
theorem i_binX (h : tE K W (mBinO C (fnM np nn b) (fnM np nr br) g ma mb) σ H Q) : tOp (rOwnX C W (spX K np nn b) (spX K np nr br) (rOp K g) σ) (tE K W ma) (tE K W mb) σ H Q := by
  obtain ⟨g0, e, rfl, rp, re, p⟩ := h
  refine ⟨g0, e, rfl, rp, re, (Post.bind p).imp fun a g1 e1 r1 ⟨_, _, p1⟩ v rv => ?_⟩
  refine ⟨g1, e, rfl, r1, re.mono e1, (Post.bind p1).imp fun y g2 e2 r2 ⟨_, _, p2⟩ u ru => ?_⟩
  have rv2 := rv.mono e2
  by_cases ia : isI C g2.S a = true
  · rw [if_pos ia] at p2
    obtain ⟨fs, ha⟩ := isI_some ia
    obtain ⟨ad, dx, vs, rfl, h1, _⟩ := insD_at r2 ha rv2
    by_cases ib : (isI C g2.S y || isInt y) = true
    · rw [if_pos ib] at p2
      refine .inl ⟨ad, dx, vs, rfl, h1, ?_, fn_postX r2 (RDs.cons rv2 (RDs.cons ru RDs.nil)) p2⟩
      by_cases iy : isI C g2.S y = true
      · obtain ⟨gs, hb⟩ := isI_some iy
        obtain ⟨bd, dy, ws, rfl, k1, _⟩ := insD_at r2 hb ru
        exact .inl ⟨bd, dy, ws, rfl, k1⟩
      · have : isInt y = true := by simpa [iy] using ib
        cases y with
        | int j => rw [RD] at ru; exact .inr ⟨j, ru⟩
        | _ => cases this
    · rw [if_neg ib] at p2; exact False.elim p2
  · rw [if_neg ia] at p2
    by_cases iy : isI C g2.S y = true
    · rw [if_pos iy] at p2
      obtain ⟨gs, hb⟩ := isI_some iy
      obtain ⟨bd, dy, ws, rfl, k1, _⟩ := insD_at r2 hb ru
      by_cases it : isInt a = true
      · rw [if_pos it] at p2
        cases a with
        | int j =>
          have rj := rv2
          rw [RD] at rj
          exact .inr (.inl ⟨j, bd, dy, ws, rj, rfl, k1, fn_postX r2 (RDs.cons ru (RDs.cons rv2 RDs.nil)) p2⟩)
        | _ => cases it
      · rw [if_neg it] at p2; exact False.elim p2
    · rw [if_neg iy] at p2
      cases q : g g2.S a y with
      | none => rw [q] at p2; exact False.elim p2
      | some d =>
        rw [q] at p2
        exact .inr (.inr ⟨g2, a, y, d, rfl, r2, rv2, ru, q, fun g' w x s r rw' => p2 g' x s r w rw'⟩)
theorem i_binLX (h : tE K W (mBinL C (fnM np nn b) g ma mb) σ H Q) : tOp (rOwnX C W (spX K np nn b) (fun _ _ _ _ => False) (rOp K g) σ) (tE K W ma) (tE K W mb) σ H Q := by
  obtain ⟨g0, e, rfl, rp, re, p⟩ := h
  refine ⟨g0, e, rfl, rp, re, (Post.bind p).imp fun a g1 e1 r1 ⟨_, _, p1⟩ v rv => ?_⟩
  refine ⟨g1, e, rfl, r1, re.mono e1, (Post.bind p1).imp fun y g2 e2 r2 ⟨_, _, p2⟩ u ru => ?_⟩
  have rv2 := rv.mono e2
  by_cases ia : isI C g2.S a = true
  · rw [if_pos ia] at p2
    obtain ⟨fs, ha⟩ := isI_some ia
    obtain ⟨ad, dx, vs, rfl, h1, _⟩ := insD_at r2 ha rv2
    by_cases ib : (isI C g2.S y || isInt y) = true
    · rw [if_pos ib] at p2
      refine .inl ⟨ad, dx, vs, rfl, h1, ?_, fn_postX r2 (RDs.cons rv2 (RDs.cons ru RDs.nil)) p2⟩
      by_cases iy : isI C g2.S y = true
      · obtain ⟨gs, hb⟩ := isI_some iy
        obtain ⟨bd, dy, ws, rfl, k1, _⟩ := insD_at r2 hb ru
        exact .inl ⟨bd, dy, ws, rfl, k1⟩
      · have : isInt y = true := by simpa [iy] using ib
        cases y with
        | int j => rw [RD] at ru; exact .inr ⟨j, ru⟩
        | _ => cases this
    · rw [if_neg ib] at p2; exact False.elim p2
  · rw [if_neg ia] at p2
    cases q : g g2.S a y with
    | none => rw [q] at p2; exact False.elim p2
    | some d =>
      rw [q] at p2
      exact .inr (.inr ⟨g2, a, y, d, rfl, r2, rv2, ru, q, fun g' w x s r rw' => p2 g' x s r w rw'⟩)
theorem i_negX {X : Cx} (h : tE X.K W (mUnO C (fnM np nn b) gNeg ma) σ H Q) : tNegX (X := X) C W (spX X.K np nn b) (tE X.K W ma) σ H Q := by
  obtain ⟨g0, e, rfl, rp, re, p⟩ := h
  refine ⟨g0, e, rfl, rp, re, (Post.bind p).imp fun a g1 e1 r1 ⟨_, _, p1⟩ v rv => ?_⟩
  by_cases ia : isI C g1.S a = true
  · rw [if_pos ia] at p1
    obtain ⟨fs, ha⟩ := isI_some ia
    obtain ⟨ad, dx, vs, rfl, h1, _⟩ := insD_at r1 ha rv
    exact .inl ⟨ad, dx, vs, rfl, h1, fn_postX r1 (RDs.cons rv RDs.nil) p1⟩
  · rw [if_neg ia] at p1
    cases q : gNeg g1.S a with
    | none => rw [q] at p1; exact False.elim p1
    | some d =>
      rw [q] at p1
      exact .inr ⟨g1, a, d, rfl, r1, rv, q, fun g' w x s r rw' => p1 g' x s r w rw'⟩
theorem i_augX {D : Ends} {i : Nat} {m : ME} (h : tS K W (sAugO i C (fnM np nn b) m) D σ H) : tAugX i (tE K W m) (rAugX C W (spX K np nn b)) D σ H := by
  obtain ⟨g, e, rfl, rp, re, p⟩ := h
  unfold sAugO at p
  split at p
  · rename_i a he
    obtain ⟨v, hv, rv⟩ := re.2 i a he
    refine ⟨v, hv, g, e, rfl, rp, re, (PostS.of_st re p).imp fun d g1 e1 r1 ⟨_, _, p1⟩ u ru => ?_⟩
    have rv1 := rv.mono e1
    by_cases hc : (isI C g1.S a && isI C g1.S d) = true
    · rw [if_pos hc] at p1
      rw [Bool.and_eq_true] at hc
      obtain ⟨fs, h1⟩ := isI_some hc.1
      obtain ⟨gs, h2⟩ := isI_some hc.2
      obtain ⟨ad, dx, vs, rfl, k1, _⟩ := insD_at r1 h1 rv1
      obtain ⟨bd, dy, ws, rfl, k2, _⟩ := insD_at r1 h2 ru
      refine ⟨ad, dx, vs, bd, dy, ws, rfl, k1, rfl, k2, ?_⟩
      have re1 := re.mono e1
      have p3 : Post K W g1 (fnM np nn b [a, d] g1.S) σ fun y g' => ∀ z, RD K g' y z → D.nx (σ.set i (some z)) g'.H := (PostS.of_st re1 p1).imp fun y g2 e2 r2 ⟨_, _, p2⟩ z rz => p2 g2 _ (Ext.refl g2) rfl r2 ((re1.mono e2).set rz)
      exact fn_postX (Q := fun z H' => D.nx (σ.set i (some z)) H') r1 (RDs.cons rv1 (RDs.cons ru RDs.nil)) p3
    · rw [if_neg hc] at p1; exact False.elim p1
  · exact False.elim p
end
section
variable {X : Cx} {W : WX'} {k : Nat} {f fr C p0 : Addr} {fd fd' : FuncData} {ps ps' : List Str} {op : Operator} {fo ro rc : Option Value} {np nn nr : Nat} {b br : MS} {g : Op2} {x y e : Expr} {es : List Expr} {ma mb m' : ME} {m : MA} {p pos pos' apos : Pos} {xn mn : Str} {mc : Value}
theorem pm_binX (tk : Takes X W) (F : FnG X.prog X.w X.K X.mg X.base (CXx X.prog X.w) k f fd ps (spX X.K np nn b)) (F' : FnG X.prog X.w X.K X.mg X.base (CXx X.prog X.w) k fr fd' ps' (spX X.K np nr br)) (hr : RoomG k X.A) (hb : Binds X.K fd ps []) (hb' : Binds X.K fd' ps' [])
    (w1 : OwnOp X.K C op f fo ro rc) (w2 : OwnR X.K C op fr) (w3 : IntOp op) (ho : OpR X (binaryOp op) (rOp X.K g)) (ha : PE X x (tE X.K W ma)) (hy : PE X y (tE X.K W mb)) : PE X (.BinOp x op y pos) (tE X.K W (mBinO C (fnM np nn b) (fnM np nr br) g ma mb)) :=
  PE.imp (pe_opX (o_ownX tk F F' hr hb hb' w1 w2 w3 ho) ha hy) fun _ _ _ => i_binX
theorem pm_binLX (tk : Takes X W) (F : FnG X.prog X.w X.K X.mg X.base (CXx X.prog X.w) k f fd ps (spX X.K np nn b)) (hr : RoomG k X.A) (hb : Binds X.K fd ps [])
    (w1 : OwnOp X.K C op f fo ro rc) (ho : OpR X (binaryOp op) (rOp X.K g)) (ha : PE X x (tE X.K W ma)) (hy : PE X y (tE X.K W mb)) : PE X (.BinOp x op y pos) (tE X.K W (mBinL C (fnM np nn b) g ma mb)) :=
  PE.imp (pe_opX (o_ownLX tk F hr hb w1 ho) ha hy) fun _ _ _ => i_binLX
theorem pm_negX (tk : Takes X W) (F : FnG X.prog X.w X.K X.mg X.base (CXx X.prog X.w) k f fd ps (spX X.K np nn b)) (hr : RoomG k X.A) (hb : Binds X.K fd ps []) (w1 : OwnM X.K C "__neg__" f) (ha : PE X x (tE X.K W ma)) : PE X (.UnaryOp .USub x pos) (tE X.K W (mUnO C (fnM np nn b) gNeg ma)) :=
  PE.imp (pe_negX tk F hr hb w1 ha) fun _ _ _ => i_negX
theorem sm_augX {i : Nat} (tk : Takes X W) (F : FnG X.prog X.w X.K X.mg X.base (CXx X.prog X.w) k f fd ps (spX X.K np nn b)) (hr : RoomG k X.A) (hb : Binds X.K fd ps []) (w1 : OwnOp X.K C op f fo ro rc) (w2 : NoI X.K C op)
    (hN : X.N.Nodup) (hi : X.N[i]? = some xn) (hx : Loc X.env.scope xn) (he : PE X e (tE X.K W m')) (hf : X.fn xn = true ∨ X.env.scope.names.lookup xn = some .local := by first | exact .inl rfl | exact .inr rfl | assumption) :
    PS X (.AugAssign (.Name xn pos') op e pos) (tS X.K W (sAugO i C (fnM np nn b) m')) := PS.imp (ps_augX hN hi hx he (o_augX tk F hr hb w1 w2) hf) fun _ _ _ => i_augX
theorem pm_callSX {pl : Sem Bool} (tk : Takes X W) (w1 : StatM X.K C mn mc p0 f) (F : FnG X.prog X.w X.K X.mg X.base (CXx X.prog X.w) k f fd ps (spX X.K np nn b)) (hr : RoomG k X.A) (hg : Gl X xn) (hm : X.mg xn = some (.ref C)) (hb : Binds X.K fd ps []) (ha : PA X (e :: es) (tA X.K W m))
    (hdb : (xn == ("__debug__" : Str)) = false := by decide) (hst : starEach (e :: es) X.env = (false, eval e X.env) :: starEach es X.env := by rfl) (hpl : (backTo pos (starEach es X.env)).any (·.1) = false := by rfl)
    (ht : eval (.Call (.Attribute (.Name xn p) mn apos) (e :: es) [] pos) X.env = (do
      let ov ← eval (.Name xn p) X.env
      standAt apos.atName
      let (f, first) ← holding [ov] (getMethod ov mn pl)
      callWith pos f first (backTo pos (starEach (e :: es) X.env)) (backToKw pos (keywordEach [] X.env))) := by rfl) :
    PE X (.Call (.Attribute (.Name xn p) mn apos) (e :: es) [] pos) (tE X.K W (mCall (fnM np nn b) m)) := PE.imp (Mo.pe_callS (pl := pl) w1 F hr hg hm hb (passX tk) ha hdb hst hpl ht) fun _ _ _ h => i_call (fun _ _ _ z => z) h
end
end Mo

namespace Mo
open PySem PySem.Spec PyProof.Rows L2

/-! ### try -/
def exM (mt : List (Addr × Bool)) : Value → Option Bool
  | .ref D => mt.lookup D
  | _ => none
def ExM (K : PySem.W.Frag) (C : Addr) (mt : List (Addr × Bool)) : Prop := ∀ D b, mt.lookup D = some b → PySem.W.exmOne K (.ref D) (.ref C) = some b
theorem exM_ok {K : PySem.W.Frag} {C : Addr} {mt : List (Addr × Bool)} (h : ExM K C mt) {cls : Value} {b : Bool} (e : exM mt cls = some b) : PySem.W.exmOne K cls (.ref C) = some b := by
  cases cls <;> first | exact h _ _ e | cases e
theorem ExM.nil {K : PySem.W.Frag} {C : Addr} : ExM K C [] := fun D b h => by cases h
theorem ExM.cons {K : PySem.W.Frag} {C D : Addr} {b : Bool} {mt : List (Addr × Bool)} (h : PySem.W.exmOne K (.ref D) (.ref C) = some b) (t : ExM K C mt) : ExM K C ((D, b) :: mt) := fun D' b' e => by
  rw [List.lookup_cons] at e
  by_cases q : D' = D
  · subst q
    simp at e
    subst e
    exact h
  · rw [show (D' == D) = false by simp [q]] at e
    exact t D' b' e
/-- try: b except X: h -/
def sTryO (mt : List (Addr × Bool)) (b h : MS) : MS := fun e S => match b e S with
  | .er x e1 S1 => (match exM mt x.cls with
    | some true => (match h e1 S1 with
      | .er _ _ _ => .bad
      | r => r)
    | some false => .er x e1 S1
    | none => .bad)
  | r => r
/-- try: b except X as n: h (n in slot i) -/
def sTryA (mt : List (Addr × Bool)) (i : Nat) (b h : MS) : MS := fun e S => match b e S with
  | .er x e1 S1 => (match exM mt x.cls with
    | some true => if x.fs = none ∧ i < e1.length then (match h (e1.set i none) S1 with
      | .nx e2 S2 => .nx (e2.set i none) S2
      | .bk e2 S2 => .bk (e2.set i none) S2
      | .ct e2 S2 => .ct (e2.set i none) S2
      | .rt d S2 => .rt d S2
      | _ => .bad) else .bad
    | some false => .er x e1 S1
    | none => .bad)
  | r => r
theorem RE.unset {K : PySem.W.Frag} {g : G} {e : Env} {σ : L2.St} {i : Nat} {v : Option V} (h : RE K g e σ) : RE K g (e.set i none) (σ.set i v) := by
  refine ⟨by rw [List.length_set, List.length_set]; exact h.1, fun j x q => ?_⟩
  by_cases hj : i = j
  · subst hj
    by_cases hl : i < e.length
    · rw [List.getElem?_set_self hl] at q; cases q
    · rw [List.getElem?_eq_none (by simpa using hl)] at q; cases q
  · rw [List.getElem?_set_ne hj] at q ⊢
    exact h.2 j x q
section
variable {X : Cx} {W : WX'} {x n : Str} {C : Addr} {i : Nat} {body suite : List Stmt} {b₀ : Stmt} {np pos pos' : Pos} {b h : MS} {mt : List (Addr × Bool)}
theorem i_tryO {K : PySem.W.Frag} {D : Ends} {σ : L2.St} {H : Hp} (hm : ExM K C mt) (q : tS K W (sTryO mt b h) D σ H) : tS K (wOnly K (.ref C) (fun _ _ _ => tS K WF h) W D) b D σ H := by
  obtain ⟨g, e, rfl, rp, re, p⟩ := q
  refine ⟨g, e, rfl, rp, re, ?_⟩
  unfold sTryO at p
  cases r : b e g.S with
  | nx e1 S1 => rw [r] at p; exact p
  | rt d S1 => rw [r] at p; exact p
  | bk e1 S1 => rw [r] at p; exact p
  | ct e1 S1 => rw [r] at p; exact p
  | bad => rw [r] at p; exact p
  | er y e1 S1 =>
    rw [r] at p
    intro g' σ' cls d x1 hs r1 re1 rx
    have ec : cls = y.cls := rx.1
    dsimp only at p
    cases hq : exM mt y.cls with
    | none => rw [hq] at p; exact False.elim p
    | some k =>
      rw [hq] at p
      refine ⟨k, by rw [ec]; exact exM_ok hm hq, fun hk a na => ?_, fun hk => ?_⟩
      · subst hk
        have p' := PostS.mono x1 p
        exact ⟨g', e1, rfl, r1, re1, by rw [hs]; cases hr : h e1 S1 with
          | nx e2 S2 => rw [hr] at p'; exact p'
          | rt d S2 => rw [hr] at p'; exact p'
          | bk e2 S2 => rw [hr] at p'; exact p'
          | ct e2 S2 => rw [hr] at p'; exact p'
          | bad => rw [hr] at p'; exact p'
          | er y e2 S2 => rw [hr] at p'; exact False.elim p'⟩
      · subst hk
        exact p g' σ' cls d x1 hs r1 re1 rx
/-- what a suite knows of the exception that it holds -/
def Holds (mt : List (Addr × Bool)) (i a : Nat) (cls : Value) (d : Option Addr) (σ : L2.St) : Prop := σ[i]? = some (some (.ref a)) ∧ d = none ∧ exM mt cls = some true
theorem i_tryA {K : PySem.W.Frag} {D : Ends} {σ : L2.St} {H : Hp} (hm : ExM K C mt) (q : tS K W (sTryA mt i b h) D σ H) : tS K (wAs K (.ref C) i (fun a cls d D σ H => Holds mt i a cls d σ ∧ tS K WF h D σ H) W D) b D σ H := by
  obtain ⟨g, e, rfl, rp, re, p⟩ := q
  refine ⟨g, e, rfl, rp, re, ?_⟩
  unfold sTryA at p
  cases r : b e g.S with
  | nx e1 S1 => rw [r] at p; exact p
  | rt d S1 => rw [r] at p; exact p
  | bk e1 S1 => rw [r] at p; exact p
  | ct e1 S1 => rw [r] at p; exact p
  | bad => rw [r] at p; exact p
  | er y e1 S1 =>
    rw [r] at p
    intro g' σ' cls d x1 hs r1 re1 rx
    have ec : cls = y.cls := rx.1
    dsimp only at p
    cases hq : exM mt y.cls with
    | none => rw [hq] at p; exact False.elim p
    | some k =>
      rw [hq] at p
      refine ⟨k, by rw [ec]; exact exM_ok hm hq, fun hk a na => ?_, fun hk => ?_⟩
      · subst hk
        dsimp only at p
        by_cases hc : y.fs = none ∧ i < e1.length
        · rw [if_pos hc] at p
          have p' := PostS.mono x1 p
          have r2 := rx.2
          rw [hc.1] at r2
          have hd : d = none := by
            cases d with
            | none => rfl
            | some d => exact False.elim r2
          refine ⟨⟨List.getElem?_set_self (by rw [← re1.1]; exact hc.2), hd, by rw [ec]; exact hq⟩, g', e1.set i none, rfl, r1, re1.unset, ?_⟩
          rw [hs]
          cases hr : h (e1.set i none) S1 with
          | nx e2 S2 => rw [hr] at p'; exact fun g2 σ2 a1 a2 a3 a4 => p' g2 _ a1 a2 a3 a4.unset
          | rt d S2 => rw [hr] at p'; exact p'
          | bk e2 S2 => rw [hr] at p'; exact fun g2 σ2 a1 a2 a3 a4 => p' g2 _ a1 a2 a3 a4.unset
          | ct e2 S2 => rw [hr] at p'; exact fun g2 σ2 a1 a2 a3 a4 => p' g2 _ a1 a2 a3 a4.unset
          | bad => rw [hr] at p'; exact p'
          | er y e2 S2 => rw [hr] at p'; exact False.elim p'
        · rw [if_neg hc] at p; exact False.elim p
      · subst hk
        exact p g' σ' cls d x1 hs r1 re1 rx
theorem sm_tryO (hs : X.stack = X.env :: X.outer) (hf : X.env.frame = some X.env.locals) (hg : Gl X x) (hxm : X.mg x = some (.ref C)) (hm : ExM X.K C mt) (tk : Takes X W)
    (hb : ∀ (W' : WX') (pn : List (Addr × Obj)) (xe : Value → Shared → Prop), Takes (X.tr pn xe) W' → PassesOwn (model X.prog X.w) X.A X.env xe → PSs (X.tr pn xe) body (tS X.K W' b))
    (hsu : ∀ (a : Addr) (oe : Obj) (pn : List (Addr × Obj)), PSs (X.suite a ((a, oe) :: pn)) (b₀ :: suite) (tS X.K WF h)) (hdb : (x == ("__debug__" : Str)) = false := by decide) :
    PS X (.Try body [.ExceptHandler (some (.Name x np)) none (b₀ :: suite) pos'] [] [] pos) (tS X.K W (sTryO mt b h)) :=
  PS.imp (ps_try_only (tb := fun W' => tS X.K W' b) hs hf ⟨hg, hdb, .inl hxm⟩ tk hb fun a oe _ _ pn _ _ => hsu a oe pn) fun D σ H => i_tryO hm
theorem sm_tryA (hs : X.stack = X.env :: X.outer) (hf : X.env.frame = some X.env.locals) (hN : X.N.Nodup) (hi : X.N[i]? = some n) (hln : X.env.kindOf n = some .local) (hg : Gl X x) (hxm : X.mg x = some (.ref C)) (hm : ExM X.K C mt) (tk : Takes X W)
    (hb : ∀ (W' : WX') (pn : List (Addr × Obj)) (xe : Value → Shared → Prop), Takes (X.tr pn xe) W' → PassesOwn (model X.prog X.w) X.A X.env xe → PSs (X.tr pn xe) body (tS X.K W' b))
    (hsu : ∀ (a : Addr) (oe : Obj) (cls : Value) (d : Option Addr) (pn : List (Addr × Obj)), Zc cls d oe → (∃ vs, oe.data = .fields vs) → PSs (X.suite a ((a, oe) :: pn)) (b₀ :: suite) fun D σ H => Holds mt i a cls d σ ∧ tS X.K WF h D σ H) (hdb : (x == ("__debug__" : Str)) = false := by decide) :
    PS X (.Try body [.ExceptHandler (some (.Name x np)) (some n) (b₀ :: suite) pos'] [] [] pos) (tS X.K W (sTryA mt i b h)) :=
  PS.imp (ps_try_as (tb := fun W' => tS X.K W' b) (ts := fun a cls d D σ H => Holds mt i a cls d σ ∧ tS X.K WF h D σ H) hs hf hN hi hln ⟨hg, hdb, .inl hxm⟩ tk hb hsu) fun D σ H => i_tryA hm
end

/-! ### isinstance(e, X) of the exception that is held -/
section
variable {X : Cx} {n m y : Str} {D Y a : Addr} {i j k : Nat} {oe : Obj} {cls : Value} {d : Option Addr} {pn : List (Addr × Obj)} {mt : List (Addr × Bool)} {p1 p2 p3 p4 p5 p6 p7 p8 p9 : Pos} {kk : Option Str}
/-- m = None if isinstance(n, Y) else n -/
theorem ss_noneIf {kx} (hall : ∀ D, mt.lookup D = some true → ExcC X.K D ∧ PySem.W.kitOne X.K (.ref D) (.ref Y) = some true) (hz : Zc cls d oe) (hv : ∃ vs, oe.data = .fields vs)
    (hN : X.N.Nodup) (hi : X.N[i]? = some n) (hvi : Vis X.env.scope n) (hj : X.N[j]? = some m) (hx : Loc X.env.scope m) (hg : Gl X "isinstance") (hm : X.mg "isinstance" = none) (hgy : Gl X y) (hmy : X.mg y = some (.ref Y))
    (hnd : (n == ("__debug__" : Str)) = false := by decide) (hnc : (n == ("__classdict__" : Str)) = false := by decide) (hyd : (y == ("__debug__" : Str)) = false := by decide)
    (hf : X.fn m = true ∨ X.env.scope.names.lookup m = some .local := by first | exact .inl rfl | exact .inr rfl | assumption)
    (hs1 : starEach [.Name n p3, .Name y p4] (X.suite a ((a, oe) :: pn)).env = (false, eval (.Name n p3) (X.suite a ((a, oe) :: pn)).env) :: starEach [.Name y p4] (X.suite a ((a, oe) :: pn)).env := by rfl)
    (hs2 : starEach [.Name y p4] (X.suite a ((a, oe) :: pn)).env = (false, eval (.Name y p4) (X.suite a ((a, oe) :: pn)).env) :: starEach [] (X.suite a ((a, oe) :: pn)).env := by rfl)
    (hpl : (backTo p5 (starEach [.Name y p4] (X.suite a ((a, oe) :: pn)).env)).any (·.1) = false := by rfl)
    (hw : swapsWith (.IfExp (.Call (.Name "isinstance" p2) [.Name n p3, .Name y p4] [] p5) (.Constant .none kx p6) (.Name n p7) p8) (some (.Name m p1)) p9.line (X.suite a ((a, oe) :: pn)).env = pure false := by rfl)
    (he : ∀ whole, isTrue (.Call (.Name "isinstance" p2) [.Name n p3, .Name y p4] [] p5) (X.suite a ((a, oe) :: pn)).env whole = (do let v ← whole; standAt (Expr.Call (.Name "isinstance" p2) [.Name n p3, .Name y p4] [] p5).pos; holding [v] (truthy v)) := by intro _; rfl) :
    PSs (X.suite a ((a, oe) :: pn)) [.Assign [.Name m p1] (.IfExp (.Call (.Name "isinstance" p2) [.Name n p3, .Name y p4] [] p5) (.Constant .none kx p6) (.Name n p7) p8) p9] fun D' σ H => Holds mt i a cls d σ ∧ tS X.K WF (sAsg j (mC .non)) D' σ H := by
  by_cases hex : ∃ D0, cls = .ref D0 ∧ d = none ∧ mt.lookup D0 = some true
  · obtain ⟨D0, rfl, rfl, hl⟩ := hex
    obtain ⟨ec, ek⟩ := hall D0 hl
    have c1 : PE (X.suite a ((a, oe) :: pn)) (.Call (.Name "isinstance" p2) [.Name n p3, .Name y p4] [] p5) _ := pe_callB (call_isE ec hz hv) hg hm PyProof.Rows.boot_isinstance (pa_cons (pe_var (i := i) hi hvi hnd hnc) (pa_cons (pe_glob (v := .ref Y) hgy hmy rfl hyd) pa_nil hs2) hs1) (by decide) (by decide) hs1 hpl
    have c2 : PE (X.suite a ((a, oe) :: pn)) (.IfExp (.Call (.Name "isinstance" p2) [.Name n p3, .Name y p4] [] p5) (.Constant .none kx p6) (.Name n p7) p8) _ := pe_ifExp (pt_val c1 he) pe_non (pe_var (i := i) hi hvi hnd hnc)
    refine PSs.imp (pss_cons (ps_set hN hj hx c2 hw hf) pss_nil) fun D' σ H ⟨hh, g, e, hH, rp, re, p⟩ => ?_
    subst hH
    refine ⟨.ref a, hh.1, .ref Y, .ref Y, true, rfl, fun u hu => hu, ek, true, rfl, ?_⟩
    exact p g (σ.set j (some .non)) (Ext.refl g) rfl rp (re.set (by rw [RD]))
  · refine PSs.imp (t := fun _ _ _ => False) ⟨fun _ _ _ _ _ _ z => False.elim z⟩ fun D' σ H ⟨hh, _⟩ => hex ?_
    obtain ⟨_, h2, h3⟩ := hh
    cases cls with
    | ref D0 => exact ⟨D0, rfl, h2, h3⟩
    | _ => cases h3
end
end Mo

namespace Mo
open PySem PySem.Spec PyProof.Rows L2

theorem takesF {X : Cx} : Takes X WF := fun _ _ ⟨_, _, _, _, _, _, _, _, _, _, _, _, _, _, _, _, w⟩ => False.elim w
/-! ### a, b = a list -/
def tgL (n : Nat) (u : Tgs) : Tg := ⟨fun d e => match d with
  | .lst l => if l.length = n then u.f l e else none
  | _ => none, u.sl⟩
section
variable {X : Cx} {pos : Pos}
theorem gm_lst {n k : Nat} {es : List Expr} {u : Tgs} (hc : X.calm = true) (h : PGs X es (tGs X.K u)) (hn : (assignEach es X.env).length = n := by rfl) (hst : (assignEach es X.env).findIdx? (·.1) = none := by rfl) : PG X (.Tuple es k pos) (tG X.K (tgL n u)) :=
  PG.imp (pg_lst (n := n) hc h hn hst) fun v σ H Q ⟨g, e, d, e', hH, rp, re, rd, hf, q⟩ => by
    subst hH
    unfold tgL at hf q
    dsimp only at hf q
    split at hf
    · rename_i l
      by_cases hl : l.length = n
      · rw [if_pos hl] at hf
        rw [RD] at rd
        obtain ⟨a, vs, rfl, h1, h2⟩ := rd
        exact ⟨a, vs, rfl, h1.sq, by rw [← h2.length]; exact hl, g, e, l, e', rfl, rp, re, h2, hf, q⟩
      · rw [if_neg hl] at hf; cases hf
    · cases hf
end

/-! ### o.m(..), m with *values -/
section
variable {X : Cx} {k : Nat} {f C : Addr} {sp : Sp} {W : WX'} {mn : Str} {pos apos : Pos} {o e : Expr} {es : List Expr} {ta : TE} {t : TA} {m : MA} {mo : ME} {np nn : Nat} {b : MS}
theorem pe_methV {pl : Sem Bool} (he : PE X o ta) (c : Cls X.K C) (hm : Meth X.K C mn f) (F : FnV X.prog X.w X.K X.mg X.base CX0 k f sp) (hr : RoomG k X.A) (ha : PA X (e :: es) t)
    (hst : starEach (e :: es) X.env = (false, eval e X.env) :: starEach es X.env := by rfl) (hpl : (backTo pos (starEach es X.env)).any (·.1) = false := by rfl)
    (ht : eval (.Call (.Attribute o mn apos) (e :: es) [] pos) X.env = (do
      let ov ← eval o X.env
      standAt apos.atName
      let (f, first) ← holding [ov] (getMethod ov mn pl)
      callWith pos f first (backTo pos (starEach (e :: es) X.env)) (backToKw pos (keywordEach [] X.env))) := by rfl) :
    PE X (.Call (.Attribute o mn apos) (e :: es) [] pos) (tMethG C mn sp W ta t) := by
  refine ⟨fun pins s σ H Q I h => ?_⟩
  refine PySem.W.methodCall_KW (pl := pl) (thn (he.run pins s σ H _ I h) fun u s1 ⟨x, H1, I1, rx, a, dx, fs, ex, ea, l, q⟩ => ?_) ht
  subst ex
  obtain rfl : u = Value.ref a := rx
  refine getmeth_ok I1 ea c hm l ?_
  refine PySem.W.callWith_K (first := [.ref a]) (h₀ := X.base) I.ok.mod.kin hm.kp (thn (ha.run pos pins s1 σ H1 _ I1 q) fun us s2 ⟨vs, H2, I2, r, q2⟩ => ⟨I2.kIn, ?_⟩) hst hpl
  refine wpAny_call (codeAny_mono (F X.A X.stack s2 H2 (.ref a :: us) (.ref a :: vs) Q _ hr I2.env0 (.cons rfl r) q2) fun r s' hq => ?_)
  cases r with
  | error e => exact False.elim hq
  | ok fl =>
    cases fl with
    | ret u => exact I2.after hq
    | next => exact False.elim hq
    | brk => exact False.elim hq
    | cont => exact False.elim hq
theorem i_methV {K : PySem.W.Frag} {σ : L2.St} {H : Hp} {Q : VK} (h : tE K W (mMeth C mn (nbF (fnS np nn b)) mo m) σ H Q) : tMethG C mn (spS K np nn b) W (tE K W mo) (tA K W m) σ H Q := by
  obtain ⟨g, e, hH, rp, re, p⟩ := h
  subst hH
  refine ⟨g, e, rfl, rp, re, (Post.bind p).imp fun d g1 e1 r1 ⟨_, _, p1⟩ v rv => ?_⟩
  cases q : insD C g1.S d with
  | none => rw [q] at p1; exact False.elim p1
  | some fs =>
    rw [q] at p1
    obtain ⟨a, dx, vs, rfl, h1, h2⟩ := insD_at r1 q rv
    by_cases hn : (fs.lookup mn).isNone = true
    · rw [Option.any_some, if_pos hn] at p1
      refine ⟨a, dx, vs, rfl, h1, (h2.lk (f := mn)).2 (by simpa using hn), g1, e, rfl, r1, re.mono e1, (Post.bind p1).imp fun l g2 e2 r2 ⟨_, _, p2⟩ ws rw' => ?_⟩
      exact ⟨g2, d :: l, rfl, r2, RDs.cons (rv.mono e2) rw', nb_post p2⟩
    · rw [Option.any_some, if_neg hn] at p1; exact False.elim p1
theorem pm_methV {pl : Sem Bool} (he : PE X o (tE X.K W mo)) (c : Cls X.K C) (hm : Meth X.K C mn f) (F : FnV X.prog X.w X.K X.mg X.base CX0 k f (spS X.K np nn b)) (hr : RoomG k X.A) (ha : PA X (e :: es) (tA X.K W m))
    (hst : starEach (e :: es) X.env = (false, eval e X.env) :: starEach es X.env := by rfl) (hpl : (backTo pos (starEach es X.env)).any (·.1) = false := by rfl)
    (ht : eval (.Call (.Attribute o mn apos) (e :: es) [] pos) X.env = (do
      let ov ← eval o X.env
      standAt apos.atName
      let (f, first) ← holding [ov] (getMethod ov mn pl)
      callWith pos f first (backTo pos (starEach (e :: es) X.env)) (backToKw pos (keywordEach [] X.env))) := by rfl) :
    PE X (.Call (.Attribute o mn apos) (e :: es) [] pos) (tE X.K W (mMeth C mn (nbF (fnS np nn b)) mo m)) := PE.imp (pe_methV (pl := pl) he c hm F hr ha hst hpl ht) fun _ _ _ => i_methV
end
end Mo
namespace Mo
theorem lk1 {C D : PySem.Addr} {b : Bool} (h : ([(C, true)] : List (PySem.Addr × Bool)).lookup D = some b) : D = C := by
  rw [List.lookup_cons] at h
  by_cases q : D = C
  · exact q
  · rw [show (D == C) = false by simp [q]] at h
    cases h
end Mo

namespace K70
open PySem PySem.Spec L2 PyProof.Rows Mo
structure Cs where
  Value : Addr
  Maker : Addr
  Traits : Addr
def b__law_deck (c : Cs) : MS :=
  sRet (mNew (mCons (mCB gList (mCons (mSl (mVar 0) moN (moS (mC (.int 63)))) mNil)) (mCons (mC (.int 0)) (mCons (mC (.int 0)) (mCons (mC (.int 0)) mNil)))))
abbrev m__law_deck (c : Cs) : List D → List O → R D := nbF (fnM 1 1 (b__law_deck c))
def b__law_draw (c : Cs) : MS :=
  sSeq (sSet (mBin gAdd (mBin gIx (mVar 0) (mC (.int 3))) (mC (.int 1))) (mVar 0) (mC (.int 3))) (
  sSeq (sIf (mTB (mBin gGt (mBin gIx (mVar 0) (mC (.int 2))) (mC (.int 0)))) (
  sSeq (sAsg 2 (mBin gMod (mCB gInt (mCons (mBin gIx (mVar 0) (mC (.int 2))) mNil)) (mVar 1))) (
  sSeq (sSet (mBin gDiv (mBin gIx (mVar 0) (mC (.int 2))) (mVar 1)) (mVar 0) (mC (.int 2))) (
  sRet (mVar 2)))) (
  sNil)) (
  sSeq (sAsg 3 (mC (.int 31))) (
  sSeq (sIf (mTB (mBin gNe (mBin gIx (mVar 0) (mC (.int 0))) (mLst mNil))) (
  sAsg 3 (mBin gIx (mBin gIx (mVar 0) (mC (.int 0))) (mBin gMod (mCB gInt (mCons (mBin gIx (mVar 0) (mC (.int 1))) mNil)) (mCB gLen (mCons (mBin gIx (mVar 0) (mC (.int 0))) mNil))))) (
  sNil)) (
  sSeq (sSet (mBin gAdd (mBin gIx (mVar 0) (mC (.int 1))) (mC (.int 1))) (mVar 0) (mC (.int 1))) (
  sSeq (sIf (mAnd (mTB (mBin gGe (mCB gAbs (mCons (mVar 3) mNil)) (mBin gPow (mC (.int 10)) (mC (.int 18))))) (mTB (mBin gLe (mBin gIx (mVar 0) (mC (.int 1))) (mCB gLen (mCons (mBin gIx (mVar 0) (mC (.int 0))) mNil))))) (
  sSeq (sSet (mBin gDiv (mCB gAbs (mCons (mVar 3) mNil)) (mVar 1)) (mVar 0) (mC (.int 2))) (
  sRet (mBin gMod (mCB gInt (mCons (mCB gAbs (mCons (mVar 3) mNil)) mNil)) (mVar 1)))) (
  sNil)) (
  sSeq (sAsg 4 (mBin gMod (mBin gPow (mCB gInt (mCons (mBin gAdd (mBin gMod (mCB gInt (mCons (mVar 3) mNil)) (mC (.int 2147483629))) (mBin gMul (mC (.int 104723)) (mBin gIx (mVar 0) (mC (.int 3))))) mNil)) (mC (.int 5))) (mC (.int 2147483647)))) (
  sSeq (sAsg 4 (mBin gMod (mBin gPow (mCB gInt (mCons (mBin gAdd (mBin gMul (mVar 4) (mBin gAdd (mBin gMul (mC (.int 2)) (mBin gIx (mVar 0) (mC (.int 3)))) (mC (.int 3)))) (mC (.int 7907))) mNil)) (mC (.int 3))) (mC (.int 2147483587)))) (
  sRet (mBin gMod (mBin gDiv (mVar 4) (mC (.int 64))) (mVar 1))))))))))
abbrev m__law_draw (c : Cs) : List D → List O → R D := nbF (fnM 2 5 (b__law_draw c))
def b__law_one (c : Cs) : MS :=
  sRet (mBin gIx (mVar 1) (mCall (m__law_draw c) (mCons (mVar 0) (mCons (mCB gLen (mCons (mVar 1) mNil)) mNil))))
abbrev m__law_one (c : Cs) : List D → List O → R D := nbF (fnM 2 2 (b__law_one c))
def b_Value___init__ (c : Cs) : MS :=
  sSeq (sFldS (c.Value) "maker" (mVar 1) (mVar 0)) (
  sSeq (sFldS (c.Value) "rows" (mVar 2) (mVar 0)) (
  sFldS (c.Value) "place" (mVar 3) (mVar 0)))
abbrev m_Value___init__ (c : Cs) : List D → List O → R D := nbF (fnM 4 4 (b_Value___init__ c))
def b_Maker___getitem__ (c : Cs) : MS :=
  sRet (mMakeF (c.Value) (m_Value___init__ c) (mCons (mVar 0) (mCons (mTup mNil) (mCons (mVar 1) mNil))))
abbrev m_Maker___getitem__ (c : Cs) : List D → List O → R D := nbF (fnM 2 2 (b_Maker___getitem__ c))
def b_Traits___init__ (c : Cs) : MS :=
  sSeq (sFor (miSeq (mVar 1)) (tgN 2) (
  sIf (mTB (mBin gNin (mVar 2) (mC (.tup ((["odd", "two", "still", "merge"] : List Str).map .str))))) (
  sBad) (
  sNil))) (
  sSeq (sIf (mAnd (mTB (mBin gIn (mC (.str "merge")) (mVar 1))) (mTB (mBin gIn (mC (.str "two")) (mVar 1)))) (
  sBad) (
  sNil)) (
  sFldS (c.Traits) "held" (mCB gTuple (mCons (mComp (miSeq (mC (.tup ((["odd", "two", "still", "merge"] : List Str).map .str)))) (tgN 2) (mOr (mTB (mBin gIn (mVar 2) (mVar 1))) (mAnd (mTB (mBin gEq (mVar 2) (mC (.str "still")))) (mTB (mBin gIn (mC (.str "merge")) (mVar 1))))) (mVar 2) [2]) mNil)) (mVar 0)))
abbrev m_Traits___init__ (c : Cs) : List D → List O → R D := nbF (fnS 1 3 (b_Traits___init__ c))
def b__law_traits (c : Cs) : MS :=
  sSeq (sAsg 1 (mLst (mCons (mTup mNil) (mCons (mTup (mCons (mC (.str "odd")) mNil)) (mCons (mTup (mCons (mC (.str "two")) mNil)) (mCons (mTup (mCons (mC (.str "still")) mNil)) (mCons (mTup (mCons (mC (.str "odd")) (mCons (mC (.str "two")) mNil))) (mCons (mTup (mCons (mC (.str "odd")) (mCons (mC (.str "still")) mNil))) (mCons (mTup (mCons (mC (.str "two")) (mCons (mC (.str "still")) mNil))) (mCons (mTup (mCons (mC (.str "merge")) mNil)) mNil)))))))))) (
  sSeq (sAsg 1 (mCall (m__law_one c) (mCons (mVar 0) (mCons (mBin gAdd (mVar 1) (mLst (mCons (mTup (mCons (mC (.str "odd")) (mCons (mC (.str "two")) (mCons (mC (.str "still")) mNil)))) (mCons (mTup (mCons (mC (.str "merge")) (mCons (mC (.str "odd")) mNil))) mNil)))) mNil)))) (
  sSeq (sIf (mTB (mBin gEq (mCB gLen (mCons (mVar 1) mNil)) (mC (.int 0)))) (
  sRet (mMakeF (c.Traits) (m_Traits___init__ c) mNil)) (
  sNil)) (
  sSeq (sIf (mTB (mBin gEq (mCB gLen (mCons (mVar 1) mNil)) (mC (.int 1)))) (
  sRet (mMakeF (c.Traits) (m_Traits___init__ c) (mCons (mBin gIx (mVar 1) (mC (.int 0))) mNil))) (
  sNil)) (
  sRet (mIf (mTB (mBin gEq (mCB gLen (mCons (mVar 1) mNil)) (mC (.int 2)))) (mMakeF (c.Traits) (m_Traits___init__ c) (mCons (mBin gIx (mVar 1) (mC (.int 0))) (mCons (mBin gIx (mVar 1) (mC (.int 1))) mNil))) (mMakeF (c.Traits) (m_Traits___init__ c) (mCons (mBin gIx (mVar 1) (mC (.int 0))) (mCons (mBin gIx (mVar 1) (mC (.int 1))) (mCons (mBin gIx (mVar 1) (mC (.int 2))) mNil)))))))))
abbrev m__law_traits (c : Cs) : List D → List O → R D := nbF (fnM 1 2 (b__law_traits c))
def b_Maker___init__ (c : Cs) : MS :=
  sSeq (sFldS (c.Maker) "under" (mVar 1) (mVar 0)) (
  sFldS (c.Maker) "inputs" (mVar 2) (mVar 0))
abbrev m_Maker___init__ (c : Cs) : List D → List O → R D := nbF (fnM 3 3 (b_Maker___init__ c))
def b_put_rows (c : Cs) : MS :=
  sSeq (sAsg 3 (mCBN nList (mCons (mVar 1) mNil))) (
  sSeq (sAsg 4 (mListRN rangeA1 (mCons (mVar 0) mNil))) (
  sSeq (sFor (miSeq (mVar 2)) (tgT 2 (tgsC (tgN 5) (tgsC (tgN 6) tgsN))) (
  sSeq (sAsg 7 (mTup (mCons (mVar 5) (mCons (mCB gTuple (mCons (mComp (miSeq (mVar 6)) (tgT 2 (tgsC (tgN 8) (tgsC (tgN 9) tgsN))) mYes (mTup (mCons (mVar 8) (mCons (mCB gTuple (mCons (mComp (miSeq (mVar 9)) (tgN 10) mYes (mBin gIx (mVar 4) (mVar 10)) [10]) mNil)) mNil))) [8, 9]) mNil)) mNil)))) (
  sSeq (sIf (mTB (mBin gNinP (mVar 7) (mVar 3))) (
  sExpr (mMt isL gAppend (mVar 3) (mCons (mVar 7) mNil))) (
  sNil)) (
  sExpr (mMt isL gAppend (mVar 4) (mCons (mBin gAdd (mVar 0) (mMt isL gIndexP (mVar 3) (mCons (mVar 7) mNil))) mNil)))))) (
  sRet (mTup (mCons (mCB gTuple (mCons (mVar 3) mNil)) (mCons (mVar 4) mNil))))))
abbrev m_put_rows (c : Cs) : List D → List O → R D := nbF (fnM 3 11 (b_put_rows c))
def b_with_row (c : Cs) : MS :=
  sSeq (sUnp (tgT 2 (tgsC (tgN 4) (tgsC (tgN 5) tgsN))) (mCall (m_put_rows c) (mCons (mFld (c.Maker) "inputs" (mVar 0)) (mCons (mVar 1) (mCons (mBin gAdd (mVar 1) (mTup (mCons (mTup (mCons (mVar 2) (mCons (mVar 3) mNil))) mNil))) mNil))))) (
  sSeq (sIf (mTB (mBin gGt (mCB gLen (mCons (mVar 4) mNil)) (mC (.int 12)))) (
  sBad) (
  sNil)) (
  sRet (mMakeF (c.Value) (m_Value___init__ c) (mCons (mVar 0) (mCons (mVar 4) (mCons (mBin gIx (mVar 5) (mUn gNeg (mC (.int 1)))) mNil))))))
abbrev m_with_row (c : Cs) : List D → List O → R D := nbF (fnM 4 6 (b_with_row c))
def b_put_together (c : Cs) : MS :=
  sSeq (sAsg 1 (mFld (c.Value) "maker" (mBin gIx (mVar 0) (mC (.int 0))))) (
  sSeq (sAsg 2 (mTup mNil)) (
  sSeq (sAsg 3 (mNew mNil)) (
  sSeq (sFor (miSeq (mVar 0)) (tgN 4) (
  sSeq (sIf (mTB (mBin (gNeI (c.Maker) gNe) (mFld (c.Value) "maker" (mVar 4)) (mVar 1))) (
  sBad) (
  sNil)) (
  sSeq (sUnp (tgT 2 (tgsC (tgN 2) (tgsC (tgN 5) tgsN))) (mCall (m_put_rows c) (mCons (mFld (c.Maker) "inputs" (mVar 1)) (mCons (mVar 2) (mCons (mFld (c.Value) "rows" (mVar 4)) mNil))))) (
  sExpr (mMt isL gAppend (mVar 3) (mCons (mBin gIx (mVar 5) (mFld (c.Value) "place" (mVar 4))) mNil)))))) (
  sRet (mTup (mCons (mVar 2) (mCons (mCB gTuple (mCons (mVar 3) mNil)) mNil)))))))
abbrev m_put_together (c : Cs) : List D → List O → R D := nbF (fnM 1 6 (b_put_together c))
def b_Value___add__ (c : Cs) : MS :=
  sSeq (sIf (mTB (mCB (gIsiC (c.Value)) (mCons (mVar 1) (mCons (mC (.adr (c.Value))) mNil)))) (
  sSeq (sUnp (tgT 2 (tgsC (tgN 2) (tgsC (tgN 3) tgsN))) (mCall (m_put_together c) (mCons (mTup (mCons (mVar 0) (mCons (mVar 1) mNil))) mNil))) (
  sRet (mCall (m_with_row c) (mCons (mFld (c.Value) "maker" (mVar 0)) (mCons (mVar 2) (mCons (mC (.str "round")) (mCons (mTup (mCons (mTup (mCons (mC (.int 1)) (mCons (mSl (mVar 3) moN (moS (mC (.int 1)))) mNil))) (mCons (mTup (mCons (mC (.int 1)) (mCons (mSl (mVar 3) (moS (mC (.int 1))) moN) mNil))) mNil))) mNil))))))) (
  sNil)) (
  sRet (mCall (m_with_row c) (mCons (mFld (c.Value) "maker" (mVar 0)) (mCons (mFld (c.Value) "rows" (mVar 0)) (mCons (mC (.str "round")) (mCons (mTup (mCons (mTup (mCons (mC (.int 1)) (mCons (mTup (mCons (mFld (c.Value) "place" (mVar 0)) mNil)) mNil))) (mCons (mTup (mCons (mVar 1) (mCons (mTup mNil) mNil))) mNil))) mNil))))))
abbrev m_Value___add__ (c : Cs) : List D → List O → R D := nbF (fnM 2 4 (b_Value___add__ c))
def b_Value___radd__ (c : Cs) : MS :=
  sRet (mCall (m_with_row c) (mCons (mFld (c.Value) "maker" (mVar 0)) (mCons (mFld (c.Value) "rows" (mVar 0)) (mCons (mC (.str "round")) (mCons (mTup (mCons (mTup (mCons (mVar 1) (mCons (mTup mNil) mNil))) (mCons (mTup (mCons (mC (.int 1)) (mCons (mTup (mCons (mFld (c.Value) "place" (mVar 0)) mNil)) mNil))) mNil))) mNil)))))
abbrev m_Value___radd__ (c : Cs) : List D → List O → R D := nbF (fnM 2 2 (b_Value___radd__ c))
def b_Value___mul__ (c : Cs) : MS :=
  sSeq (sIf (mTB (mCB (gIsiC (c.Value)) (mCons (mVar 1) (mCons (mC (.adr (c.Value))) mNil)))) (
  sSeq (sUnp (tgT 2 (tgsC (tgN 2) (tgsC (tgN 3) tgsN))) (mCall (m_put_together c) (mCons (mTup (mCons (mVar 0) (mCons (mVar 1) mNil))) mNil))) (
  sRet (mCall (m_with_row c) (mCons (mFld (c.Value) "maker" (mVar 0)) (mCons (mVar 2) (mCons (mC (.str "round")) (mCons (mTup (mCons (mTup (mCons (mC (.int 1)) (mCons (mVar 3) mNil))) mNil)) mNil))))))) (
  sNil)) (
  sRet (mCall (m_with_row c) (mCons (mFld (c.Value) "maker" (mVar 0)) (mCons (mFld (c.Value) "rows" (mVar 0)) (mCons (mC (.str "round")) (mCons (mTup (mCons (mTup (mCons (mVar 1) (mCons (mTup (mCons (mFld (c.Value) "place" (mVar 0)) mNil)) mNil))) mNil)) mNil))))))
abbrev m_Value___mul__ (c : Cs) : List D → List O → R D := nbF (fnM 2 4 (b_Value___mul__ c))
def b_Value___rmul__ (c : Cs) : MS :=
  sRet (mCall (m_with_row c) (mCons (mFld (c.Value) "maker" (mVar 0)) (mCons (mFld (c.Value) "rows" (mVar 0)) (mCons (mC (.str "round")) (mCons (mTup (mCons (mTup (mCons (mVar 1) (mCons (mTup (mCons (mFld (c.Value) "place" (mVar 0)) mNil)) mNil))) mNil)) mNil)))))
abbrev m_Value___rmul__ (c : Cs) : List D → List O → R D := nbF (fnM 2 2 (b_Value___rmul__ c))
def b_Value___sub__ (c : Cs) : MS :=
  sSeq (sIf (mTB (mCB (gIsiC (c.Value)) (mCons (mVar 1) (mCons (mC (.adr (c.Value))) mNil)))) (
  sSeq (sUnp (tgT 2 (tgsC (tgN 2) (tgsC (tgN 3) tgsN))) (mCall (m_put_together c) (mCons (mTup (mCons (mVar 0) (mCons (mVar 1) mNil))) mNil))) (
  sRet (mCall (m_with_row c) (mCons (mFld (c.Value) "maker" (mVar 0)) (mCons (mVar 2) (mCons (mC (.str "round")) (mCons (mTup (mCons (mTup (mCons (mC (.int 1)) (mCons (mSl (mVar 3) moN (moS (mC (.int 1)))) mNil))) (mCons (mTup (mCons (mUn gNeg (mC (.int 1))) (mCons (mSl (mVar 3) (moS (mC (.int 1))) moN) mNil))) mNil))) mNil))))))) (
  sNil)) (
  sRet (mCall (m_with_row c) (mCons (mFld (c.Value) "maker" (mVar 0)) (mCons (mFld (c.Value) "rows" (mVar 0)) (mCons (mC (.str "round")) (mCons (mTup (mCons (mTup (mCons (mC (.int 1)) (mCons (mTup (mCons (mFld (c.Value) "place" (mVar 0)) mNil)) mNil))) (mCons (mTup (mCons (mBin gSub (mC (.int 0)) (mVar 1)) (mCons (mTup mNil) mNil))) mNil))) mNil))))))
abbrev m_Value___sub__ (c : Cs) : List D → List O → R D := nbF (fnM 2 4 (b_Value___sub__ c))
def b_Value___rsub__ (c : Cs) : MS :=
  sRet (mCall (m_with_row c) (mCons (mFld (c.Value) "maker" (mVar 0)) (mCons (mFld (c.Value) "rows" (mVar 0)) (mCons (mC (.str "round")) (mCons (mTup (mCons (mTup (mCons (mVar 1) (mCons (mTup mNil) mNil))) (mCons (mTup (mCons (mUn gNeg (mC (.int 1))) (mCons (mTup (mCons (mFld (c.Value) "place" (mVar 0)) mNil)) mNil))) mNil))) mNil)))))
abbrev m_Value___rsub__ (c : Cs) : List D → List O → R D := nbF (fnM 2 2 (b_Value___rsub__ c))
def b_Value___neg__ (c : Cs) : MS :=
  sRet (mCall (m_with_row c) (mCons (mFld (c.Value) "maker" (mVar 0)) (mCons (mFld (c.Value) "rows" (mVar 0)) (mCons (mC (.str "exact")) (mCons (mTup (mCons (mTup (mCons (mUn gNeg (mC (.int 1))) (mCons (mTup (mCons (mFld (c.Value) "place" (mVar 0)) mNil)) mNil))) mNil)) mNil)))))
abbrev m_Value___neg__ (c : Cs) : List D → List O → R D := nbF (fnM 1 1 (b_Value___neg__ c))
def b_Value___lshift__ (c : Cs) : MS :=
  sRet (mCall (m_with_row c) (mCons (mFld (c.Value) "maker" (mVar 0)) (mCons (mFld (c.Value) "rows" (mVar 0)) (mCons (mC (.str "exact")) (mCons (mTup (mCons (mTup (mCons (mBin gShl (mC (.int 1)) (mVar 1)) (mCons (mTup (mCons (mFld (c.Value) "place" (mVar 0)) mNil)) mNil))) mNil)) mNil)))))
abbrev m_Value___lshift__ (c : Cs) : List D → List O → R D := nbF (fnM 2 2 (b_Value___lshift__ c))
def b_Value_fused (c : Cs) : MS :=
  sSeq (sUnp (tgT 2 (tgsC (tgN 3) (tgsC (tgN 4) tgsN))) (mCall (m_put_together c) (mCons (mTup (mCons (mVar 0) (mCons (mVar 1) (mCons (mVar 2) mNil)))) mNil))) (
  sRet (mCall (m_with_row c) (mCons (mFld (c.Value) "maker" (mVar 0)) (mCons (mVar 3) (mCons (mC (.str "round")) (mCons (mTup (mCons (mTup (mCons (mC (.int 1)) (mCons (mSl (mVar 4) moN (moS (mC (.int 2)))) mNil))) (mCons (mTup (mCons (mC (.int 1)) (mCons (mSl (mVar 4) (moS (mC (.int 2))) moN) mNil))) mNil))) mNil))))))
abbrev m_Value_fused (c : Cs) : List D → List O → R D := nbF (fnM 3 5 (b_Value_fused c))
def b__law_value (c : Cs) : MS :=
  sSeq (sUnp (tgT 3 (tgsC (tgN 2) (tgsC (tgT 3 (tgsC (tgN 3) (tgsC (tgN 4) (tgsC (tgN 5) tgsN)))) (tgsC (tgN 6) tgsN)))) (mVar 1)) (
  sSeq (sPar 7 8 (mCons (mBin gIx (mVar 0) (mVar 3)) (mCons (mBin gIx (mVar 0) (mVar 4)) mNil))) (
  sSeq (sIf (mTB (mBin gEq (mVar 2) (mC (.str "+=")))) (
  sSeq (sAsg 9 (mVar 7)) (
  sSeq (sAugO 9 (c.Value) (m_Value___add__ c) (mVar 8)) (
  sRet (mVar 9)))) (
  sNil)) (
  sSeq (sIf (mTB (mBin gIn (mVar 2) (mTup (mCons (mC (.str "+")) (mCons (mC (.str "-")) mNil))))) (
  sRet (mIf (mTB (mBin gEq (mVar 2) (mC (.str "+")))) (mBinO (c.Value) (m_Value___add__ c) (m_Value___radd__ c) gAdd (mVar 7) (mVar 8)) (mBinO (c.Value) (m_Value___sub__ c) (m_Value___rsub__ c) gSub (mVar 7) (mVar 8)))) (
  sNil)) (
  sSeq (sIf (mTB (mBin gIn (mVar 2) (mTup (mCons (mC (.str "+c")) (mCons (mC (.str "c+")) mNil))))) (
  sRet (mIf (mTB (mBin gEq (mVar 2) (mC (.str "+c")))) (mBinO (c.Value) (m_Value___add__ c) (m_Value___radd__ c) gAdd (mVar 7) (mVar 6)) (mBinO (c.Value) (m_Value___add__ c) (m_Value___radd__ c) gAdd (mVar 6) (mVar 7)))) (
  sNil)) (
  sSeq (sIf (mTB (mBin gIn (mVar 2) (mTup (mCons (mC (.str "-c")) (mCons (mC (.str "c-")) mNil))))) (
  sRet (mIf (mTB (mBin gEq (mVar 2) (mC (.str "-c")))) (mBinO (c.Value) (m_Value___sub__ c) (m_Value___rsub__ c) gSub (mVar 7) (mVar 6)) (mBinO (c.Value) (m_Value___sub__ c) (m_Value___rsub__ c) gSub (mVar 6) (mVar 7)))) (
  sNil)) (
  sSeq (sIf (mTB (mBin gIn (mVar 2) (mTup (mCons (mC (.str "*c")) (mCons (mC (.str "c*")) mNil))))) (
  sRet (mIf (mTB (mBin gEq (mVar 2) (mC (.str "*c")))) (mBinO (c.Value) (m_Value___mul__ c) (m_Value___rmul__ c) gMul (mVar 7) (mVar 6)) (mBinO (c.Value) (m_Value___mul__ c) (m_Value___rmul__ c) gMul (mVar 6) (mVar 7)))) (
  sNil)) (
  sSeq (sIf (mTB (mBin gIn (mVar 2) (mTup (mCons (mC (.str "n")) (mCons (mC (.str "<")) mNil))))) (
  sRet (mIf (mTB (mBin gEq (mVar 2) (mC (.str "n")))) (mUnO (c.Value) (m_Value___neg__ c) gNeg (mVar 7)) (mBinL (c.Value) (m_Value___lshift__ c) gShl (mVar 7) (mVar 6)))) (
  sNil)) (
  sRet (mIf (mTB (mBin gEq (mVar 2) (mC (.str "*")))) (mBinO (c.Value) (m_Value___mul__ c) (m_Value___rmul__ c) gMul (mVar 7) (mVar 8)) (mCall (m_Value_fused c) (mCons (mVar 7) (mCons (mVar 8) (mCons (mBin gIx (mVar 0) (mVar 5)) mNil)))))))))))))
abbrev m__law_value (c : Cs) : List D → List O → R D := nbF (fnM 2 10 (b__law_value c))
def b__law_row (c : Cs) : MS :=
  sSeq (sIf (mTB (mBin gIn (mVar 0) (mTup (mCons (mC (.str "+")) (mCons (mC (.str "+=")) (mCons (mC (.str "-")) mNil)))))) (
  sRet (mTup (mCons (mC (.str "round")) (mCons (mTup (mCons (mTup (mCons (mC (.int 1)) (mCons (mSl (mVar 1) moN (moS (mC (.int 1)))) mNil))) (mCons (mTup (mCons (mIf (mTB (mBin gEq (mVar 0) (mC (.str "-")))) (mUn gNeg (mC (.int 1))) (mC (.int 1))) (mCons (mSl (mVar 1) (moS (mC (.int 1))) moN) mNil))) mNil))) mNil)))) (
  sNil)) (
  sSeq (sIf (mTB (mBin gIn (mVar 0) (mTup (mCons (mC (.str "+c")) (mCons (mC (.str "-c")) mNil))))) (
  sRet (mTup (mCons (mC (.str "round")) (mCons (mTup (mCons (mTup (mCons (mC (.int 1)) (mCons (mVar 1) mNil))) (mCons (mTup (mCons (mIf (mTB (mBin gEq (mVar 0) (mC (.str "+c")))) (mVar 2) (mBin gSub (mC (.int 0)) (mVar 2))) (mCons (mTup mNil) mNil))) mNil))) mNil)))) (
  sNil)) (
  sSeq (sIf (mTB (mBin gIn (mVar 0) (mTup (mCons (mC (.str "c+")) (mCons (mC (.str "c-")) mNil))))) (
  sRet (mTup (mCons (mC (.str "round")) (mCons (mTup (mCons (mTup (mCons (mVar 2) (mCons (mTup mNil) mNil))) (mCons (mTup (mCons (mIf (mTB (mBin gEq (mVar 0) (mC (.str "c+")))) (mC (.int 1)) (mUn gNeg (mC (.int 1)))) (mCons (mVar 1) mNil))) mNil))) mNil)))) (
  sNil)) (
  sSeq (sIf (mTB (mBin gIn (mVar 0) (mTup (mCons (mC (.str "*c")) (mCons (mC (.str "c*")) mNil))))) (
  sRet (mTup (mCons (mC (.str "round")) (mCons (mTup (mCons (mTup (mCons (mVar 2) (mCons (mVar 1) mNil))) mNil)) mNil)))) (
  sNil)) (
  sSeq (sIf (mTB (mBin gIn (mVar 0) (mTup (mCons (mC (.str "n")) (mCons (mC (.str "<")) mNil))))) (
  sRet (mTup (mCons (mC (.str "exact")) (mCons (mTup (mCons (mTup (mCons (mIf (mTB (mBin gEq (mVar 0) (mC (.str "n")))) (mUn gNeg (mC (.int 1))) (mBin gShl (mC (.int 1)) (mVar 2))) (mCons (mVar 1) mNil))) mNil)) mNil)))) (
  sNil)) (
  sRet (mIf (mTB (mBin gEq (mVar 0) (mC (.str "*")))) (mTup (mCons (mC (.str "round")) (mCons (mTup (mCons (mTup (mCons (mC (.int 1)) (mCons (mVar 1) mNil))) mNil)) mNil))) (mTup (mCons (mC (.str "round")) (mCons (mTup (mCons (mTup (mCons (mC (.int 1)) (mCons (mSl (mVar 1) moN (moS (mC (.int 2)))) mNil))) (mCons (mTup (mCons (mC (.int 1)) (mCons (mSl (mVar 1) (moS (mC (.int 2))) moN) mNil))) mNil))) mNil)))))))))
abbrev m__law_row (c : Cs) : List D → List O → R D := nbF (fnM 3 3 (b__law_row c))
def b__law_same (c : Cs) : Nat → MS
  | 0 => fun _ _ => .bad
  | d + 1 => sSeq (sIf (mTB (mCB gIsi (mCons (mVar 1) (mCons (mC (.ty "tuple")) mNil)))) (
  sSeq (sIf (mOr (mNot (mTB (mCB gIsi (mCons (mVar 0) (mCons (mC (.ty "tuple")) mNil))))) (mTB (mBin gNe (mCB gLen (mCons (mVar 0) mNil)) (mCB gLen (mCons (mVar 1) mNil))))) (
  sRet (mC (.bl false))) (
  sNil)) (
  sRet (mBin gEq (mComp (miZip (mCons (mVar 0) (mCons (mVar 1) mNil))) (tgT 2 (tgsC (tgN 2) (tgsC (tgN 3) tgsN))) (mNot (mTB (mCallP (nbF (fnM 2 4 (b__law_same c d))) (mCons (mVar 2) (mCons (mVar 3) mNil))))) (mC (.int 1)) [2, 3]) (mLst mNil)))) (
  sNil)) (
  sSeq (sIf (mTB (mCB gIsi (mCons (mVar 1) (mCons (mC (.ty "str")) mNil)))) (
  sRet (mAndV (mCB gIsi (mCons (mVar 0) (mCons (mC (.ty "str")) mNil))) (mBin gEq (mVar 0) (mVar 1)))) (
  sNil)) (
  sRet (mAndV (mCB gIsi (mCons (mVar 0) (mCons (mC (.ty "int")) mNil))) (mAndV (mBin gEq (mCB gIsi (mCons (mVar 0) (mCons (mC (.ty "bool")) mNil))) (mCB gIsi (mCons (mVar 1) (mCons (mC (.ty "bool")) mNil)))) (mBin gEq (mVar 0) (mVar 1))))))
abbrev m__law_same (c : Cs) (d : Nat) : List D → List O → R D := nbF (fnM 2 4 (b__law_same c d))
def b_Value_program (c : Cs) : MS :=
  sRet (mTup (mCons (mFld (c.Maker) "inputs" (mFld (c.Value) "maker" (mVar 0))) (mCons (mFld (c.Value) "rows" (mVar 0)) (mCons (mTup (mCons (mFld (c.Value) "place" (mVar 0)) mNil)) mNil))))
abbrev m_Value_program (c : Cs) : List D → List O → R D := nbF (fnM 1 1 (b_Value_program c))
def b_law (c : Cs) : MS :=
  sSeq (sAsg 1 (mCall (m__law_deck c) (mCons (mVar 0) mNil))) (
  sSeq (sFor (miRange rangeA1 (mCons (mC (.int 3)) mNil)) (tgN 2) (
  sSeq (sPar 3 4 (mCons (mBin gAdd (mC (.int 1)) (mCall (m__law_draw c) (mCons (mVar 1) (mCons (mC (.int 4)) mNil)))) (mCons (mCall (m__law_traits c) (mCons (mVar 1) mNil)) mNil))) (
  sSeq (sAsg 5 (mCall (m__law_one c) (mCons (mVar 1) (mCons (mLst (mCons (mMake (c.Maker) (m_Maker___init__ c) (mCons (mVar 4) (mCons (mVar 3) mNil))) (mCons (mMakeKn (c.Maker) 2 [0, 2, 1] (m_Maker___init__ c) (mCons (mVar 3) (mCons (mVar 4) mNil))) mNil))) mNil)))) (
  sSeq (sAsg 6 (mComp (miRange rangeA1 (mCons (mVar 3) mNil)) (tgN 7) mYes (mIxO (c.Maker) (m_Maker___getitem__ c) (mVar 5) (mVar 7)) [7])) (
  sSeq (sFor (miSeq (mLst (mCons (mC (.str "+")) (mCons (mC (.str "-")) (mCons (mC (.str "*")) (mCons (mC (.str "f")) (mCons (mC (.str "+c")) (mCons (mC (.str "c+")) (mCons (mC (.str "-c")) (mCons (mC (.str "c-")) (mCons (mC (.str "*c")) (mCons (mC (.str "c*")) (mCons (mC (.str "n")) (mCons (mC (.str "<")) (mCons (mC (.str "+=")) mNil))))))))))))))) (tgN 8) (
  sSeq (sAsg 9 (mTup (mCons (mCall (m__law_draw c) (mCons (mVar 1) (mCons (mVar 3) mNil))) (mCons (mCall (m__law_draw c) (mCons (mVar 1) (mCons (mVar 3) mNil))) (mCons (mCall (m__law_draw c) (mCons (mVar 1) (mCons (mVar 3) mNil))) mNil))))) (
  sSeq (sAsg 10 (mBin gSub (mCall (m__law_draw c) (mCons (mVar 1) (mCons (mBin gPow (mC (.int 10)) (mC (.int 6))) mNil))) (mBin gMul (mC (.int 5)) (mBin gPow (mC (.int 10)) (mC (.int 5)))))) (
  sSeq (sAsg 10 (mCall (m__law_one c) (mCons (mVar 1) (mCons (mLst (mCons (mC (.int 0)) (mCons (mC (.int 1)) (mCons (mUn gNeg (mC (.int 1))) (mCons (mC (.int 99)) (mCons (mUn gNeg (mC (.int 99))) (mCons (mBin gSub (mBin gPow (mC (.int 10)) (mC (.int 9))) (mC (.int 1))) (mCons (mBin gSub (mC (.int 1)) (mBin gPow (mC (.int 10)) (mC (.int 9)))) (mCons (mVar 10) mNil))))))))) mNil)))) (
  sSeq (sIf (mTB (mBin gEq (mVar 8) (mC (.str "<")))) (
  sAsg 10 (mCall (m__law_draw c) (mCons (mVar 1) (mCons (mC (.int 21)) mNil)))) (
  sNil)) (
  sSeq (sAsg 11 (mIf (mTB (mBin gEq (mVar 8) (mC (.str "f")))) (mC (.int 3)) (mIf (mTB (mBin gIn (mVar 8) (mTup (mCons (mC (.str "+")) (mCons (mC (.str "-")) (mCons (mC (.str "+=")) (mCons (mC (.str "*")) mNil))))))) (mC (.int 2)) (mC (.int 1))))) (
  sSeq (sAsg 12 (mCall (m__law_value c) (mCons (mVar 6) (mCons (mTup (mCons (mVar 8) (mCons (mVar 9) (mCons (mVar 10) mNil)))) mNil)))) (
  sSeq (sAsg 13 (mTup (mCons (mVar 3) (mCons (mTup (mCons (mCallP (m__law_row c) (mCons (mVar 8) (mCons (mSl (mVar 9) moN (moS (mVar 11))) (mCons (mVar 10) mNil)))) mNil)) (mCons (mTup (mCons (mVar 3) mNil)) mNil))))) (
  sIf (mOr (mNot (mTB (mCallP (m__law_same c 8) (mCons (mProp (c.Value) (m_Value_program c) (mVar 12)) (mCons (mVar 13) mNil))))) (mNot (mTB (mCallP (m__law_same c 8) (mCons (mProp (c.Value) (m_Value_program c) (mVar 12)) (mCons (mVar 13) mNil)))))) (
  sRet (mC (.bl false))) (
  sNil)))))))))) (
  sFor (miRange rangeA1 (mCons (mVar 3) mNil)) (tgN 7) (
  sIf (mOr (mNot (mTB (mCallP (m__law_same c 8) (mCons (mProp (c.Value) (m_Value_program c) (mBin gIx (mVar 6) (mVar 7))) (mCons (mTup (mCons (mVar 3) (mCons (mTup mNil) (mCons (mTup (mCons (mVar 7) mNil)) mNil)))) mNil))))) (mNot (mTB (mCallP (m__law_same c 8) (mCons (mProp (c.Value) (m_Value_program c) (mIxO (c.Maker) (m_Maker___getitem__ c) (mVar 5) (mVar 7))) (mCons (mTup (mCons (mVar 3) (mCons (mTup mNil) (mCons (mTup (mCons (mVar 7) mNil)) mNil)))) mNil)))))) (
  sRet (mC (.bl false))) (
  sNil)))))))) (
  sRet (mC (.bl true))))
abbrev m_law (c : Cs) : List D → List O → R D := nbF (fnM 1 14 (b_law c))
end K70

namespace Ev
open PySem PySem.Spec L2 PyProof.Rows Mo
/-! ### rows as data -/
abbrev Rw := Str × List (Int × List Nat)
def termD (t : Int × List Nat) : D := .tup [.int t.1, .tup (t.2.map fun i : Nat => .int i)]
def termsD (ts : List (Int × List Nat)) : D := .tup (ts.map termD)
def rwD (r : Rw) : D := .tup [.str r.1, termsD r.2]
def rowsD (l : List Rw) : D := .tup (l.map rwD)
def pyT (t : Int × List Nat) : PyData := .tuple [.int t.1, .tuple (t.2.map fun i : Nat => .int i)]
def pyR (r : Rw) : PyData := .tuple [.str r.1, .tuple (r.2.map pyT)]
theorem toPys_map {α : Type} {f : α → D} {g : α → PyData} (h : ∀ x, toPy (f x) = some (g x)) : ∀ l : List α, toPys (l.map f) = some (l.map g)
  | [] => rfl
  | x :: l => by rw [List.map_cons, toPys, h x, toPys_map h l]; rfl
theorem toPy_tup {α : Type} {f : α → D} {g : α → PyData} (h : ∀ x, toPy (f x) = some (g x)) (l : List α) : toPy (.tup (l.map f)) = some (.tuple (l.map g)) := by rw [toPy, toPys_map h]
theorem toPy_int (i : Nat) : toPy (.int (i : Nat)) = some (.int (i : Nat)) := by rw [toPy]
theorem toPy_termD (t : Int × List Nat) : toPy (termD t) = some (pyT t) := by
  have h := toPy_tup (f := fun i : Nat => D.int i) (g := fun i : Nat => PyData.int i) toPy_int t.2
  unfold termD pyT
  rw [toPy, toPys, toPys, toPys, h, toPy]
theorem toPy_rwD (r : Rw) : toPy (rwD r) = some (pyR r) := by
  have h := toPy_tup toPy_termD r.2
  unfold rwD pyR termsD
  rw [toPy, toPys, toPys, toPys, h, toPy]
theorem eqv_map {α : Type} [DecidableEq α] {f : α → PyData} (h : ∀ x y, PyData.eqv (f x) (f y) = decide (x = y)) : ∀ xs ys : List α, PyData.eqvAll (xs.map f) (ys.map f) = decide (xs = ys)
  | [], [] => by simp [PyData.eqvAll]
  | [], y :: ys => by simp [PyData.eqvAll]
  | x :: xs, [] => by simp [PyData.eqvAll]
  | x :: xs, y :: ys => by
    rw [List.map_cons, List.map_cons, PyData.eqvAll, h, eqv_map h]
    simp
theorem eqv_nat (i j : Nat) : PyData.eqv (.int (i : Nat)) (.int (j : Nat)) = decide (i = j) := by
  rw [PyData.eqv]
  by_cases h : i = j
  · subst h; simp
  · rw [decide_eq_false h]
    simp
    omega
theorem eqv_T (s t : Int × List Nat) : PyData.eqv (pyT s) (pyT t) = decide (s = t) := by
  unfold pyT
  rw [PyData.eqv, PyData.eqvAll, PyData.eqvAll, PyData.eqvAll, PyData.eqv, PyData.eqv, eqv_map eqv_nat]
  obtain ⟨a, l⟩ := s
  obtain ⟨b, m⟩ := t
  simp only [Bool.and_true]
  by_cases h : a = b
  · subst h; simp
  · simp [h]
theorem eqv_R (s t : Rw) : PyData.eqv (pyR s) (pyR t) = decide (s = t) := by
  unfold pyR
  rw [PyData.eqv, PyData.eqvAll, PyData.eqvAll, PyData.eqvAll, PyData.eqv, PyData.eqv, eqv_map eqv_T]
  obtain ⟨a, l⟩ := s
  obtain ⟨b, m⟩ := t
  simp only [Bool.and_true]
  by_cases h : a = b
  · subst h; simp
  · simp [h]
theorem lay_map {α : Type} {f : α → PyData} : ∀ {l : List α}, (∀ x ∈ l, PyData.canLay0 (f x) = true) → PyData.canLayAll0 (l.map f) = true
  | [], _ => by simp [PyData.canLayAll0]
  | x :: l, h => by rw [List.map_cons, PyData.canLayAll0, h x List.mem_cons_self, lay_map fun y hy => h y (List.mem_cons_of_mem _ hy)]; rfl
theorem depth_map {α : Type} {f : α → PyData} {n : Nat} : ∀ {l : List α}, (∀ x ∈ l, PyData.depth (f x) ≤ n) → PyData.depthAll (l.map f) ≤ n
  | [], _ => by simp [PyData.depthAll]
  | x :: l, h => by
    rw [List.map_cons, PyData.depthAll]
    have h1 := h x List.mem_cons_self
    have h2 := depth_map fun y hy => h y (List.mem_cons_of_mem _ hy)
    omega
theorem lay_T (t : Int × List Nat) : PyData.canLay0 (pyT t) = true ∧ PyData.depth (pyT t) ≤ 2 := by
  have h1 := lay_map (l := t.2) (f := fun i : Nat => PyData.int i) fun _ _ => by rw [PyData.canLay0]
  have h2 := depth_map (n := 0) (l := t.2) (f := fun i : Nat => PyData.int i) fun _ _ => by rw [PyData.depth]; exact Nat.le_refl _
  constructor
  · simp [pyT, PyData.canLay0, PyData.canLayAll0, h1]
  · simp only [pyT, PyData.depth, PyData.depthAll]
    omega
def WordOk (r : Rw) : Prop := PyData.canLay0 (.str r.1) = true
theorem lay_R {r : Rw} (h : WordOk r) : PyData.canLay0 (pyR r) = true ∧ PyData.depth (pyR r) ≤ 4 := by
  have h1 := lay_map (l := r.2) (f := pyT) fun t _ => (lay_T t).1
  have h2 := depth_map (n := 2) (l := r.2) (f := pyT) fun t _ => (lay_T t).2
  unfold WordOk at h
  constructor
  · simp only [pyR, PyData.canLay0, PyData.canLayAll0, h1, Bool.and_true] at h ⊢
    exact h
  · simp only [pyR, PyData.depth, PyData.depthAll]
    omega
theorem shaped_R {r : Rw} (h : WordOk r) : SeqAt.shaped (pyR r) = true := by
  unfold SeqAt.shaped
  rw [(lay_R h).1, decide_eq_true (by have := (lay_R h).2; omega)]
  rfl
theorem shaped_Rs {l : List Rw} (h : ∀ r ∈ l, WordOk r) : SeqAt.shaped (.list (l.map pyR)) = true := by
  have h1 := lay_map (l := l) (f := pyR) fun r hr => (lay_R (h r hr)).1
  have h2 := depth_map (n := 4) (l := l) (f := pyR) fun r hr => (lay_R (h r hr)).2
  unfold SeqAt.shaped
  rw [PyData.canLay0, h1, PyData.depth, decide_eq_true (by omega)]
  rfl
def ixR (r : Rw) : List Rw → Nat
  | [] => 0
  | x :: l => if x = r then 0 else ixR r l + 1
theorem any_R {r : Rw} : ∀ l : List Rw, ((l.map pyR).any fun z => PyData.eqv z (pyR r)) = decide (r ∈ l)
  | [] => rfl
  | x :: l => by
    rw [List.map_cons, List.any_cons, any_R l, eqv_R]
    by_cases h : x = r
    · subst h; simp
    · have : ¬ r = x := fun z => h z.symm
      simp [h, this]
theorem find_R {r : Rw} : ∀ {l : List Rw}, r ∈ l → (l.map pyR).findIdx? (fun z => PyData.eqv z (pyR r)) = some (ixR r l)
  | x :: l, hm => by
    rw [List.map_cons, List.findIdx?_cons, eqv_R, ixR]
    by_cases h : x = r
    · rw [decide_eq_true h, if_pos rfl, if_pos h]
    · have : r ∈ l := by
        rcases List.mem_cons.mp hm with e | e
        · exact absurd e.symm h
        · exact e
      rw [decide_eq_false h, if_neg h, find_R this]
      rfl
theorem toPyS_ref {S : List O} {n : Nat} {l : List Rw} (h : S[n]? = some (.lst (l.map rwD))) : toPyS S (.ref n) = some (.list (l.map pyR)) := by
  show (match S[n]? with | some (.lst l) => (match toPys l with | some m => some (PyData.list m) | none => none) | _ => none) = _
  rw [h]
  dsimp only
  rw [toPys_map toPy_rwD]
theorem x_nin {S : List O} {n : Nat} {l : List Rw} {r : Rw} (h : S[n]? = some (.lst (l.map rwD))) (hw : ∀ r ∈ l, WordOk r) (hr : WordOk r) : gNinP S (rwD r) (.ref n) = some (.bl (!decide (r ∈ l))) := by
  unfold gNinP inP
  rw [toPyS_ref h, show toPyS S (rwD r) = some (pyR r) from toPy_rwD r]
  dsimp only
  rw [if_pos ⟨shaped_R hr, shaped_Rs hw⟩, any_R]
  rfl
theorem x_index {S : List O} {n : Nat} {l : List Rw} {r : Rw} (h : S[n]? = some (.lst (l.map rwD))) (hw : ∀ r ∈ l, WordOk r) (hr : r ∈ l) : gIndexP S (.ref n) [rwD r] = some (.int (ixR r l), S) := by
  unfold gIndexP
  dsimp only
  rw [toPyS_ref h, show toPyS S (rwD r) = some (pyR r) from toPy_rwD r]
  dsimp only
  rw [if_pos ⟨shaped_Rs hw, shaped_R (hw r hr)⟩, find_R hr]
end Ev

namespace Ev
open PySem PySem.Spec L2 PyProof.Rows Mo
/-! ### rows put -/
def mvT (pl : List Nat) (t : Int × List Nat) : Int × List Nat := (t.1, t.2.map fun i => pl.getD i 0)
def mvR (pl : List Nat) (r : Rw) : Rw := (r.1, r.2.map (mvT pl))
def addR (fd : List Rw) (r : Rw) : List Rw := if r ∈ fd then fd else fd ++ [r]
def stepR (n : Nat) (st : List Rw × List Nat) (r : Rw) : List Rw × List Nat := (addR st.1 (mvR st.2 r), st.2 ++ [n + ixR (mvR st.2 r) (addR st.1 (mvR st.2 r))])
def putR (n : Nat) (st : List Rw × List Nat) (more : List Rw) : List Rw × List Nat := more.foldl (stepR n) st
/-- the places of a row are below m -/
def Fit (m : Nat) (r : Rw) : Prop := ∀ t ∈ r.2, ∀ i ∈ t.2, i < m
/-- short rows with right words -/
structure Sh (r : Rw) : Prop where
  w : WordOk r
  l : r.2.length < 1000
  t : ∀ t ∈ r.2, t.2.length < 1000
theorem mem_addR {fd : List Rw} {r : Rw} : r ∈ addR fd r := by
  unfold addR
  split
  · assumption
  · simp
theorem addR_mem {fd : List Rw} {r x : Rw} (h : x ∈ addR fd r) : x ∈ fd ∨ x = r := by
  unfold addR at h
  split at h
  · exact .inl h
  · simpa using h
theorem addR_len {fd : List Rw} {r : Rw} : (addR fd r).length ≤ fd.length + 1 := by
  unfold addR
  split
  · omega
  · simp
theorem Sh.mv {r : Rw} (h : Sh r) (pl : List Nat) : Sh (mvR pl r) := by
  refine ⟨h.w, by simpa [mvR] using h.l, fun t ht => ?_⟩
  obtain ⟨u, hu, rfl⟩ := List.mem_map.mp ht
  simpa [mvT] using h.t u hu
abbrev intsN (pl : List Nat) : List D := pl.map fun i : Nat => .int i
end Ev
namespace K70
open PySem PySem.Spec L2 PyProof.Rows Mo Ev
variable {c : Cs}
def prE : ME := mTup (mCons (mVar 5) (mCons (mCB gTuple (mCons (mComp (miSeq (mVar 6)) (tgT 2 (tgsC (tgN 8) (tgsC (tgN 9) tgsN))) mYes (mTup (mCons (mVar 8) (mCons (mCB gTuple (mCons (mComp (miSeq (mVar 9)) (tgN 10) mYes (mBin gIx (mVar 4) (mVar 10)) [10]) mNil)) mNil))) [8, 9]) mNil)) mNil))
def prB : MS := sSeq (sAsg 7 prE) (
  sSeq (sIf (mTB (mBin gNinP (mVar 7) (mVar 3))) (
  sExpr (mMt isL gAppend (mVar 3) (mCons (mVar 7) mNil))) (
  sNil)) (
  sExpr (mMt isL gAppend (mVar 4) (mCons (mBin gAdd (mVar 0) (mMt isL gIndexP (mVar 3) (mCons (mVar 7) mNil))) mNil))))
theorem row_ok {S : List O} {N : Nat} {pl : List Nat} {r : Rw} {a0 a1 a2 a3 a7 a8 a9 a10 : Option D} (hS : S[N]? = some (.lst (intsN pl))) (hr : Sh r) (hf : Fit pl.length r) :
    prE [a0, a1, a2, a3, some (.ref N), some (.str r.1), some (termsD r.2), a7, a8, a9, a10] S = .ok (rwD (mvR pl r)) S := by
  unfold prE
  refine v_tup (v_cons (v_var rfl) (v_cons (v_cb (l := [.lst ((mvR pl r).2.map termD)]) (v_cons (v_comp (l := r.2.map termD) (v_seqT (v_var rfl)) ?_) v_nil) rfl) v_nil)) (show 2 ≤ 16777216 by decide)
  rw [compL_fn (h := fun t => termD (mvT pl t)) rfl ?_ (by have := hr.l; show 0 + _ ≤ 16777216; omega)]
  · show R.ok _ _ = _
    rw [List.nil_append]
    show R.ok _ _ = R.ok ((r.2.map (mvT pl)).map termD) S
    rw [List.map_map]
    rfl
  · intro t ht
    refine ⟨_, rfl, ?_⟩
    refine v_tup (v_cons (v_var rfl) (v_cons (v_cb (l := [.lst (intsN (mvT pl t).2)]) (v_cons (v_comp (l := intsN t.2) (v_seqT (v_var rfl)) ?_) v_nil) rfl) v_nil)) (show 2 ≤ 16777216 by decide)
    rw [compL_fn (h := fun i : Nat => D.int ((pl.getD i 0 : Nat) : Int)) rfl ?_ (by have := hr.t t ht; show 0 + _ ≤ 16777216; omega)]
    · rw [List.nil_append]
      show R.ok _ _ = R.ok ((t.2.map fun i => pl.getD i 0).map fun i : Nat => D.int i) S
      rw [List.map_map]
      rfl
    · intro i hi
      have hlt := hf t ht i hi
      refine ⟨_, rfl, v_bin (v_var rfl) (v_var rfl) (x_ix hS (Ev.atI_nat ?_))⟩
      rw [List.getElem?_map, List.getElem?_eq_getElem hlt, List.getD_eq_getElem?_getD, List.getElem?_eq_getElem hlt]
      rfl
theorem put_rows_ok {S : List O} {n : Nat} {rows more : List Rw} (hn : n < 1000) (h1 : ∀ r ∈ rows, Sh r) (h2 : ∀ r ∈ more, Sh r) (hf : ∀ k r, more[k]? = some r → Fit (n + k) r) (l1 : rows.length < 1000) (l2 : more.length < 1000) :
    m_put_rows c [.int n, rowsD rows, rowsD more] S = .ok (.tup [rowsD (putR n (rows, List.range n) more).1, .ref (S.length + 1)]) (S ++ [.lst ((putR n (rows, List.range n) more).1.map rwD), .lst (intsN (putR n (rows, List.range n) more).2)]) := by
  let st : Nat → List Rw × List Nat := fun k => putR n (rows, List.range n) (more.take k)
  have hst : ∀ k r, more[k]? = some r → st (k + 1) = stepR n (st k) r := fun k r hk => by
    show putR n _ (more.take (k + 1)) = _
    rw [List.take_add_one, hk]
    unfold putR
    rw [List.foldl_append]
    rfl
  have key := loop_at (t := tgT 2 (tgsC (tgN 5) (tgsC (tgN 6) tgsN))) (b := prB) (l0 := more.map rwD)
    (I := fun k e T => ∃ a5 a6 a7 a8 a9 a10, e = [some (.int n), some (rowsD rows), some (rowsD more), some (.ref S.length), some (.ref (S.length + 1)), a5, a6, a7, a8, a9, a10] ∧ T = S ++ [.lst ((st k).1.map rwD), .lst (intsN (st k).2)] ∧
      (∀ r ∈ (st k).1, Sh r) ∧ (st k).2.length = n + k ∧ (st k).1.length ≤ rows.length + k)
    (fun k d hd e T ⟨a5, a6, a7, a8, a9, a10, he, hT, hw, q1, q2⟩ => by
      subst he hT
      rw [List.getElem?_map] at hd
      cases hr : more[k]? with
      | none => rw [hr] at hd; cases hd
      | some r =>
        rw [hr] at hd
        cases hd
        have hk : k < more.length := (List.getElem?_eq_some_iff.mp hr).1
        have sr := h2 r (List.mem_of_getElem? hr)
        have fr : Fit (st k).2.length r := by rw [q1]; exact hf k r hr
        rw [hst k r hr]
        generalize hg : st k = s at *
        obtain ⟨fd, pl⟩ := s
        dsimp only at hw q1 q2 fr ⊢
        have mw := sr.mv pl
        have e1 := row_ok (N := S.length + 1) (S := S ++ [.lst (fd.map rwD), .lst (intsN pl)]) (pl := pl) (r := r) (a0 := some (.int n)) (a1 := some (rowsD rows)) (a2 := some (rowsD more)) (a3 := some (.ref S.length)) (a7 := a7) (a8 := a8) (a9 := a9) (a10 := a10) at_1 sr fr
        have hw2 : ∀ x ∈ addR fd (mvR pl r), Sh x := fun x hx => by
          rcases addR_mem hx with e | rfl
          · exact hw x e
          · exact mw
        have e2 : sIf (mTB (mBin gNinP (mVar 7) (mVar 3))) (sExpr (mMt isL gAppend (mVar 3) (mCons (mVar 7) mNil))) sNil
            [some (.int n), some (rowsD rows), some (rowsD more), some (.ref S.length), some (.ref (S.length + 1)), some (.str r.1), some (termsD r.2), some (rwD (mvR pl r)), a8, a9, a10] (S ++ [.lst (fd.map rwD), .lst (intsN pl)]) =
            .nx [some (.int n), some (rowsD rows), some (rowsD more), some (.ref S.length), some (.ref (S.length + 1)), some (.str r.1), some (termsD r.2), some (rwD (mvR pl r)), a8, a9, a10] (S ++ [.lst ((addR fd (mvR pl r)).map rwD), .lst (intsN pl)]) := by
          have x0 := x_nin (S := S ++ [.lst (fd.map rwD), .lst (intsN pl)]) (n := S.length) at_0 (fun x hx => (hw x hx).w) mw.w
          unfold addR
          by_cases hm : mvR pl r ∈ fd
          · rw [if_pos hm]
            rw [decide_eq_true hm] at x0
            exact w_ifF (v_tb (v_bin (v_var rfl) (v_var rfl) x0)) rfl
          · rw [if_neg hm]
            rw [decide_eq_false hm] at x0
            refine w_ifT (v_tb (v_bin (v_var rfl) (v_var rfl) x0)) ?_
            refine (w_expr (v_mt (v_var rfl) (x_isL at_0) (v_cons (v_var rfl) v_nil) (x_append at_0 (by rw [List.length_map]; omega)))).trans ?_
            rw [set_0, List.map_append]
            rfl
        refine ⟨_, [some (.int n), some (rowsD rows), some (rowsD more), some (.ref S.length), some (.ref (S.length + 1)), some (.str r.1), some (termsD r.2), some (rwD (mvR pl r)), a8, a9, a10], _, rfl, ?_, _, _, _, _, _, _, rfl, rfl, hw2, by show (pl ++ [_]).length = _; rw [List.length_append, q1]; rfl, Nat.le_trans addR_len (by omega)⟩
        refine w_seq (w_asg e1) (w_seq e2 ?_)
        refine (w_expr (v_mt (v_var rfl) (x_isL at_1) (v_cons (v_bin (v_var rfl) (v_mt (v_var rfl) (x_isL at_0) (v_cons (v_var rfl) v_nil) (x_index at_0 (fun x hx => (hw2 x hx).w) mem_addR)) x_addI) v_nil) (x_append at_1 (by rw [List.length_map]; omega)))).trans ?_
        rw [set_1]
        show RS.nx _ _ = RS.nx _ (S ++ [_, .lst (intsN (pl ++ [n + ixR (mvR pl r) (addR fd (mvR pl r))]))])
        unfold intsN
        rw [List.map_append]
        rfl)
    (l := _) (i := 0) (e := [some (.int n), some (rowsD rows), some (rowsD more), some (.ref S.length), some (.ref (S.length + 1)), none, none, none, none, none, none]) (S := S ++ [.lst (rows.map rwD), .lst (intsN (List.range n))]) rfl (Nat.zero_le _)
    ⟨_, _, _, _, _, _, rfl, by show _ = S ++ [.lst ((putR n (rows, List.range n) (more.take 0)).1.map rwD), .lst (intsN (putR n (rows, List.range n) (more.take 0)).2)]; rfl, h1, by show (List.range n).length = _; simp, Nat.le_refl _⟩
  obtain ⟨e1, T, hl, a5, a6, a7, a8, a9, a10, rfl, rfl, hw, q1, q2⟩ := key
  rw [List.length_map] at hl hw q1 q2
  have est : st more.length = putR n (rows, List.range n) more := by show putR n _ (more.take more.length) = _; rw [List.take_length]
  rw [est] at hl hw q1 q2
  refine nb_ok ((fn_rt (S' := S ++ [.lst ((putR n (rows, List.range n) more).1.map rwD), .lst (intsN (putR n (rows, List.range n) more).2)]) (d := .tup [rowsD (putR n (rows, List.range n) more).1, .ref (S.length + 1)]) rfl ?_).trans ?_)
  · refine w_seq (w_asg (v_cbn (l := [rowsD rows]) (l0 := rows.map rwD) (v_cons (v_var rfl) v_nil) rfl)) ?_
    refine w_seq (w_asg (v_listRN (l0 := intsN (List.range n)) (v_cons (v_var rfl) v_nil) ?_ ?_)) ?_
    · show (if (n : Int).natAbs < 4611686018427387904 then some (rangeD 0 1 (n : Int).toNat) else none) = _
      rw [if_pos (by omega)]
      congr 1
      show (List.range (n : Int).toNat).map _ = (List.range n).map _
      rw [show (n : Int).toNat = n by omega]
      apply List.map_congr_left
      intro i hi
      congr 1
      omega
    · rw [List.length_map, List.length_range]; omega
    · rw [List.length_append, List.append_assoc]
      refine w_seq ((w_for (v_seqT (v_var rfl))).trans hl) ?_
      exact w_ret (v_tup (v_cons (v_cb (l := [.ref S.length]) (v_cons (v_var rfl) v_nil) (show (match seqR _ (.ref S.length) with | some l => some (D.tup l) | none => none) = some (rowsD (putR n (rows, List.range n) more).1) by unfold seqR; simp only [at_0]; rfl)) (v_cons (v_var rfl) v_nil)) (show 2 ≤ 16777216 by decide))
  · have : D.lo S.length (.tup [rowsD (putR n (rows, List.range n) more).1, .ref (S.length + 1)]) = false := by
      simp [D.lo, D.los]
    rw [this]
    rfl
end K70

namespace Ev
open PySem PySem.Spec L2 PyProof.Rows Mo
structure Va where
  rows : List Rw
  place : Nat
def togS (n : Nat) (st : List Rw × List Nat) (v : Va) : List Rw × List Nat := ((putR n (st.1, List.range n) v.rows).1, st.2 ++ [(putR n (st.1, List.range n) v.rows).2.getD v.place 0])
def togR (n : Nat) (st : List Rw × List Nat) (vs : List Va) : List Rw × List Nat := vs.foldl (togS n) st
structure VaOk (n : Nat) (v : Va) : Prop where
  sh : ∀ r ∈ v.rows, Sh r
  fit : ∀ k r, v.rows[k]? = some r → Fit (n + k) r
  pl : v.place < n + v.rows.length
  len : v.rows.length < 100
theorem putR_snoc {n : Nat} {st : List Rw × List Nat} {l : List Rw} {r : Rw} : putR n st (l ++ [r]) = stepR n (putR n st l) r := by unfold putR; rw [List.foldl_append]; rfl
theorem putR_sh {n : Nat} : ∀ {more : List Rw} {st : List Rw × List Nat}, (∀ r ∈ st.1, Sh r) → (∀ r ∈ more, Sh r) → ∀ r ∈ (putR n st more).1, Sh r
  | [], st, h, _ => h
  | x :: more, st, h, h2 => putR_sh (more := more) (st := stepR n st x) (fun r hr => by
      rcases addR_mem hr with e | rfl
      · exact h r e
      · exact (h2 x List.mem_cons_self).mv _) fun r hr => h2 r (List.mem_cons_of_mem _ hr)
theorem putR_len {n : Nat} : ∀ {more : List Rw} {st : List Rw × List Nat}, (putR n st more).2.length = st.2.length + more.length ∧ (putR n st more).1.length ≤ st.1.length + more.length
  | [], st => ⟨rfl, Nat.le_refl _⟩
  | x :: more, st => by
    obtain ⟨a, b⟩ := putR_len (n := n) (more := more) (st := stepR n st x)
    have c : (stepR n st x).2.length = st.2.length + 1 := by show (st.2 ++ [_]).length = _; simp
    have d : (stepR n st x).1.length ≤ st.1.length + 1 := addR_len
    rw [List.length_cons]
    exact ⟨by show (putR n (stepR n st x) more).2.length = _; omega, by show (putR n (stepR n st x) more).1.length ≤ _; omega⟩
theorem trim_put {S T : List O} : trimS true (S ++ T) (S ++ T) = S ++ T := trim_same rfl
end Ev
namespace K70
open PySem PySem.Spec L2 PyProof.Rows Mo Ev
variable {c : Cs}
def valD (c : Cs) (J : Nat) (rows : List Rw) (p : Nat) : D := .fz c.Value ["maker", "rows", "place"] [.ref J, rowsD rows, .int p]
abbrev vaD (c : Cs) (J : Nat) (v : Va) : D := valD c J v.rows v.place
abbrev mkO (c : Cs) (u : D) (n : Nat) : O := .ins c.Maker [("under", u), ("inputs", .int n)]
theorem lo_terms (k : Nat) (ts : List (Int × List Nat)) : D.lo k (termsD ts) = true := by
  have h1 : ∀ l : List Nat, D.los k (l.map fun i : Nat => D.int i) = true := fun l => by
    induction l with
    | nil => rfl
    | cons a l ih => rw [List.map_cons, D.los, ih]; rfl
  have h2 : ∀ l : List (Int × List Nat), D.los k (l.map termD) = true := fun l => by
    induction l with
    | nil => rfl
    | cons a l ih =>
      rw [List.map_cons, D.los, ih]
      unfold termD
      simp [D.lo, D.los, h1]
  unfold termsD
  rw [D.lo, h2]
theorem lo_rowD (k : Nat) (r : Rw) : D.lo k (rwD r) = true := by
  unfold rwD
  simp [D.lo, D.los, lo_terms]
theorem lo_rows (k : Nat) (l : List Rw) : D.lo k (rowsD l) = true := by
  unfold rowsD
  rw [D.lo]
  induction l with
  | nil => rfl
  | cons a l ih => rw [List.map_cons, D.los, ih, lo_rowD]; rfl
theorem lo_ints (k : Nat) (l : List Nat) : D.los k (intsN l) = true := by
  induction l with
  | nil => rfl
  | cons a l ih => show D.los k (D.int a :: intsN l) = true; rw [D.los, ih]; rfl
theorem lo_val {k J : Nat} (h : J < k) (rows : List Rw) (p : Nat) : D.lo k (valD c J rows p) = true := by
  unfold valD
  simp [D.lo, D.los, lo_rows, h]
theorem init_ok {S : List O} {J p : Nat} {rows : D} : m_Value___init__ c [.ref S.length, .ref J, rows, .int p] (S ++ [.ins c.Value []]) = .ok .non (S ++ [.ins c.Value [("maker", .ref J), ("rows", rows), ("place", .int p)]]) := by
  refine nb_ok ((fn_nx (S' := S ++ [.ins c.Value [("maker", .ref J), ("rows", rows), ("place", .int p)]]) (e := [some (.ref S.length), some (.ref J), some rows, some (.int p)]) rfl ?_).trans (by rw [trim_same (by simp)]))
  refine w_seq ((w_fldS (fs := []) (v_var rfl) (v_var rfl) at_0 (by decide)).trans (by rw [set_0])) ?_
  refine w_seq ((w_fldS (v_var rfl) (v_var rfl) at_0 (by show 1 < 1000; decide)).trans (by rw [set_0])) ?_
  exact (w_fldS (v_var rfl) (v_var rfl) at_0 (by show 2 < 1000; decide)).trans (by rw [set_0]; rfl)
theorem make_ok {S S1 : List O} {e : Mo.Env} {J p : Nat} {rows : List Rw} {m : MA} (h : m e S = .ok [.ref J, rowsD rows, .int p] S1) : mMakeF c.Value (m_Value___init__ c) m e S = .ok (valD c J rows p) (S1 ++ [.gone]) := by
  refine (v_makeF h init_ok at_0).trans ?_
  rw [set_0]
  rfl
theorem with_row_ok {S : List O} {J n : Nat} {u : D} {rows : List Rw} {w : Str} {ts : List (Int × List Nat)} (hJ : S[J]? = some (mkO c u n)) (hn : n < 1000) (h1 : ∀ r ∈ rows, Sh r) (hf : ∀ k r, rows[k]? = some r → Fit (n + k) r) (hr : Sh (w, ts)) (fr : Fit (n + rows.length) (w, ts))
    (hl : (putR n (rows, List.range n) (rows ++ [(w, ts)])).1.length ≤ 12) (l1 : rows.length < 100) :
    m_with_row c [.ref J, rowsD rows, .str w, termsD ts] S = .ok (valD c J (putR n (rows, List.range n) (rows ++ [(w, ts)])).1 ((putR n (rows, List.range n) (rows ++ [(w, ts)])).2.getD (n + rows.length) 0)) S := by
  have jl : J < S.length := (List.getElem?_eq_some_iff.mp hJ).1
  have P := put_rows_ok (c := c) (S := S) (n := n) (rows := rows) (more := rows ++ [(w, ts)]) hn h1 (fun r hr' => by
      rcases List.mem_append.mp hr' with e | e
      · exact h1 r e
      · rw [List.mem_singleton.mp e]; exact hr) (fun k r hk => by
      rw [List.getElem?_append] at hk
      split at hk
      · exact hf k r hk
      · rename_i hge
        have : k - rows.length = 0 := by
          have := (List.getElem?_eq_some_iff.mp hk).1
          simp at this
          omega
        rw [this] at hk
        cases hk
        rw [show n + k = n + rows.length by omega]
        exact fr) (by omega) (by rw [List.length_append]; simp; omega)
  obtain ⟨q1, q2⟩ := putR_len (n := n) (st := (rows, List.range n)) (more := rows ++ [(w, ts)])
  generalize hst : putR n (rows, List.range n) (rows ++ [(w, ts)]) = st at *
  obtain ⟨fd, pl⟩ := st
  dsimp only at P q1 q2 hl ⊢
  rw [List.length_append, List.length_range] at q1
  have q1' : pl.length = n + rows.length + 1 := by rw [q1]; simp; omega
  refine fn_lo (T := [.lst (fd.map rwD), .lst (intsN pl), .gone]) rfl ?_ (lo_val jl _ _)
  refine w_seq (w_unp (v_call (v_cons (v_fld (v_var rfl) (x_ins hJ) rfl) (v_cons (v_var rfl) (v_cons (v_bin (d := rowsD (rows ++ [(w, ts)])) (v_var rfl) (v_tup (v_cons (v_tup (v_cons (v_var rfl) (v_cons (v_var rfl) v_nil)) (show 2 ≤ 16777216 by decide)) v_nil) (show 1 ≤ 16777216 by decide)) ?_) v_nil))) P) rfl) ?_
  · show (if (rows.map rwD).length + 1 ≤ sz then some (D.tup (rows.map rwD ++ [.tup [.str w, termsD ts]])) else none) = _
    rw [if_pos (by rw [List.length_map]; show rows.length + 1 ≤ 16777216; omega)]
    unfold rowsD
    rw [List.map_append]
    rfl
  refine w_seq (w_ifF (v_tb (v_bin (v_cb (v_cons (v_var rfl) v_nil) (show gLen _ [rowsD fd] = some (.int ((fd.map rwD).length : Nat)) from rfl)) v_C (by rw [x_gt, decide_eq_false (by rw [List.length_map]; omega)]))) rfl) ?_
  refine (w_ret (make_ok (p := pl.getD (n + rows.length) 0) (v_cons (v_var rfl) (v_cons (v_var rfl) (v_cons (v_bin (v_var rfl) (v_un v_C rfl) (x_ix at_1 ?_)) v_nil))))).trans (by rw [List.append_assoc]; rfl)
  have e : (intsN pl)[n + rows.length]? = some (.int (pl.getD (n + rows.length) 0 : Nat)) := by
    rw [List.getElem?_map, List.getD_eq_getElem?_getD, List.getElem?_eq_getElem (by omega)]
    rfl
  unfold atI ixN
  rw [List.length_map, q1', if_neg (by decide), if_pos (by omega), show ((-1 : Int) + ((n + rows.length + 1 : Nat) : Int)).toNat = n + rows.length by omega]
  exact e
theorem x_neMaker {S : List O} {J : Nat} {fs : List (Str × D)} (h : S[J]? = some (.ins c.Maker fs)) : gNeI c.Maker gNe S (.ref J) (.ref J) = some (.bl false) := by
  show (match S[J]?, S[J]? with
    | some (.ins E _), some (.ins E' _) => if E = c.Maker ∧ E' = c.Maker then some (D.bl (!decide (J = J))) else none
    | _, _ => gNe S (.ref J) (.ref J)) = _
  rw [h]
  dsimp only
  rw [if_pos ⟨rfl, rfl⟩]
  simp
theorem together_ok {S : List O} {J n : Nat} {u : D} {vs : List Va} (hJ : S[J]? = some (mkO c u n)) (hn : n < 100) (hv : ∀ v ∈ vs, VaOk n v) (h0 : vs ≠ []) (hl : vs.length < 8) :
    m_put_together c [.tup (vs.map (vaD c J))] S = .ok (.tup [rowsD (togR n ([], []) vs).1, .tup (intsN (togR n ([], []) vs).2)]) S := by
  let st : Nat → List Rw × List Nat := fun k => togR n ([], []) (vs.take k)
  have hst : ∀ k v, vs[k]? = some v → st (k + 1) = togS n (st k) v := fun k v hk => by
    show togR n _ (vs.take (k + 1)) = _
    rw [List.take_add_one, hk]
    unfold togR
    rw [List.foldl_append]
    rfl
  have jl : J < S.length := (List.getElem?_eq_some_iff.mp hJ).1
  let bB : MS := sSeq (sIf (mTB (mBin (gNeI (c.Maker) gNe) (mFld (c.Value) "maker" (mVar 4)) (mVar 1))) (
  sBad) (
  sNil)) (
  sSeq (sUnp (tgT 2 (tgsC (tgN 2) (tgsC (tgN 5) tgsN))) (mCall (m_put_rows c) (mCons (mFld (c.Maker) "inputs" (mVar 1)) (mCons (mVar 2) (mCons (mFld (c.Value) "rows" (mVar 4)) mNil))))) (
  sExpr (mMt isL gAppend (mVar 3) (mCons (mBin gIx (mVar 5) (mFld (c.Value) "place" (mVar 4))) mNil))))
  have key := loop_at (t := tgN 4) (b := bB) (l0 := vs.map (vaD c J))
    (I := fun k e T => ∃ a4 a5 junk, e = [some (.tup (vs.map (vaD c J))), some (.ref J), some (rowsD (st k).1), some (.ref S.length), a4, a5] ∧ T = S ++ (.lst (intsN (st k).2) :: junk) ∧ (∀ r ∈ (st k).1, Sh r) ∧ (st k).1.length ≤ 100 * k ∧ (st k).2.length = k)
    (fun k d hd e T ⟨a4, a5, junk, he, hT, hw, q1, q2⟩ => by
      subst he hT
      rw [List.getElem?_map] at hd
      cases hr : vs[k]? with
      | none => rw [hr] at hd; cases hd
      | some v =>
        rw [hr] at hd
        cases hd
        have hk : k < vs.length := (List.getElem?_eq_some_iff.mp hr).1
        obtain ⟨v1, v2, v3, v4⟩ := hv v (List.mem_of_getElem? hr)
        rw [hst k v hr]
        generalize hg : st k = s at *
        obtain ⟨rows, fd⟩ := s
        dsimp only at hw q1 q2 ⊢
        have P := put_rows_ok (c := c) (S := S ++ (.lst (intsN fd) :: junk)) (n := n) (rows := rows) (more := v.rows) (by omega) hw v1 v2 (by omega) (by omega)
        obtain ⟨z1, z2⟩ := putR_len (n := n) (st := (rows, List.range n)) (more := v.rows)
        have z3 := putR_sh (n := n) (st := (rows, List.range n)) hw v1
        unfold togS
        dsimp only
        generalize hq : putR n (rows, List.range n) v.rows = q at *
        obtain ⟨rows2, pl⟩ := q
        dsimp only at P z1 z2 z3 ⊢
        rw [List.length_range] at z1
        have gJ : (S ++ (.lst (intsN fd) :: junk))[J]? = some (mkO c u n) := at_l hJ
        refine ⟨_, [some (.tup (vs.map (vaD c J))), some (.ref J), some (rowsD rows2), some (.ref S.length), some (vaD c J v), some (.ref ((S ++ (.lst (intsN fd) :: junk)).length + 1))], S ++ (.lst (intsN (fd ++ [pl.getD v.place 0])) :: (junk ++ [.lst (rows2.map rwD), .lst (intsN pl)])), rfl, ?_, _, _, _, rfl, rfl, z3, by omega, by simp [q2]⟩
        refine w_seq (w_ifF (v_tb (v_bin (v_fld (v_var rfl) x_fz rfl) (v_var rfl) (x_neMaker gJ))) rfl) ?_
        refine w_seq (w_unp (v_call (v_cons (v_fld (v_var rfl) (x_ins gJ) rfl) (v_cons (v_var rfl) (v_cons (v_fld (v_var rfl) x_fz rfl) v_nil))) P) rfl) ?_
        have e : (intsN pl)[v.place]? = some (.int (pl.getD v.place 0 : Nat)) := by
          rw [List.getElem?_map, List.getD_eq_getElem?_getD, List.getElem?_eq_getElem (by omega)]
          rfl
        refine (w_expr (v_mt (v_var rfl) (x_isL (at_l at_0)) (v_cons (v_bin (v_var rfl) (v_fld (v_var rfl) x_fz rfl) (x_ix at_1 (Ev.atI_nat e))) v_nil) (x_append (at_l at_0) (by rw [List.length_map]; omega)))).trans ?_
        rw [List.append_assoc, List.cons_append, set_0]
        unfold intsN
        rw [List.map_append]
        rfl)
    (l := _) (i := 0) (e := [some (.tup (vs.map (vaD c J))), some (.ref J), some (rowsD []), some (.ref S.length), none, none]) (S := S ++ [.lst []]) rfl (Nat.zero_le _)
    ⟨_, _, [], rfl, rfl, fun r hr => (by cases hr), Nat.le_refl _, rfl⟩
  obtain ⟨e1, T, hl', a4, a5, junk, rfl, rfl, hw, q1, q2⟩ := key
  rw [List.length_map] at hl' hw q1 q2
  have est : st vs.length = togR n ([], []) vs := by show togR n _ (vs.take vs.length) = _; rw [List.take_length]
  rw [est] at hl' hw q1 q2
  cases vs with
  | nil => exact absurd rfl h0
  | cons v0 vs0 =>
  refine fn_lo (T := .lst (intsN (togR n ([], []) (v0 :: vs0)).2) :: junk) rfl ?_ (by simp [D.lo, D.los, lo_rows, lo_ints])
  refine w_seq (w_asg (d := .ref J) (v_fld (v_bin (d := vaD c J v0) (v_var rfl) v_C (show atI ((v0 :: vs0).map (vaD c J)) ((0 : Nat) : Int) = _ from Ev.atI_nat rfl)) x_fz rfl)) ?_
  refine w_seq (w_asg (d := rowsD []) (v_tup v_nil (show 0 ≤ 16777216 by decide))) ?_
  refine w_seq (w_asg (v_new v_nil (show 0 ≤ 16777216 by decide))) ?_
  refine w_seq ((w_for (v_seqT (v_var rfl))).trans hl') ?_
  exact w_ret (v_tup (v_cons (v_var rfl) (v_cons (v_cb (l := [.ref S.length]) (d := .tup (intsN (togR n ([], []) (v0 :: vs0)).2)) (v_cons (v_var rfl) v_nil) (show (match seqR _ (.ref S.length) with | some l => some (D.tup l) | none => none) = _ by unfold seqR; simp only [at_0])) v_nil)) (show 2 ≤ 16777216 by decide))
end K70

namespace Ev
open PySem PySem.Spec L2 PyProof.Rows Mo
/-- one row more -/
def wr (n : Nat) (rows : List Rw) (w : Str) (ts : List (Int × List Nat)) : Va := ⟨(putR n (rows, List.range n) (rows ++ [(w, ts)])).1, (putR n (rows, List.range n) (rows ++ [(w, ts)])).2.getD (n + rows.length) 0⟩
structure WrOk (n : Nat) (rows : List Rw) (w : Str) (ts : List (Int × List Nat)) : Prop where
  sh : ∀ r ∈ rows, Sh r
  fit : ∀ k r, rows[k]? = some r → Fit (n + k) r
  new : Sh (w, ts)
  fnew : Fit (n + rows.length) (w, ts)
  le : (wr n rows w ts).rows.length ≤ 12
  len : rows.length < 100
theorem sl2a {T : List O} {a b : D} : gSl T (.tup [a, b]) none (some 1) = some (.tup [a]) := by
  show some (D.tup (Mo.cutD [a, b] none (some ((1 : Nat) : Int)))) = _
  rw [Ev.cut_lo (show 1 ≤ 2 by decide)]
  rfl
theorem cut_hi {α : Type} {l : List α} {i : Nat} (h : i ≤ l.length) : Mo.cutD l (some (i : Nat)) none = l.drop i := by
  unfold Mo.cutD HT.sIx
  have e : (if ((i : Nat) : Int) < 0 then (((i : Nat) : Int) + (l.length : Int)).toNat else min ((i : Nat) : Int).toNat l.length) = i := by rw [if_neg (by omega)]; omega
  simp only [e]
  rw [List.take_of_length_le (by rw [List.length_drop]; omega)]
theorem sl2b {T : List O} {a b : D} : gSl T (.tup [a, b]) (some 1) none = some (.tup [b]) := by
  show some (D.tup (Mo.cutD [a, b] (some ((1 : Nat) : Int)) none)) = _
  rw [Ev.cut_hi (show 1 ≤ 2 by decide)]
  rfl
theorem sl3a {T : List O} {a b d : D} : gSl T (.tup [a, b, d]) none (some 2) = some (.tup [a, b]) := by
  show some (D.tup (Mo.cutD [a, b, d] none (some ((2 : Nat) : Int)))) = _
  rw [Ev.cut_lo (show 2 ≤ 3 by decide)]
  rfl
theorem sl3b {T : List O} {a b d : D} : gSl T (.tup [a, b, d]) (some 2) none = some (.tup [d]) := by
  show some (D.tup (Mo.cutD [a, b, d] (some ((2 : Nat) : Int)) none)) = _
  rw [Ev.cut_hi (show 2 ≤ 3 by decide)]
  rfl
theorem x_subI {S : List O} {i j : Int} : gSub S (.int i) (.int j) = some (.int (i - j)) := rfl
end Ev
namespace K70
open PySem PySem.Spec L2 PyProof.Rows Mo Ev
variable {c : Cs} {S : List O} {J n : Nat} {u : D}
theorem wr_ok {rows : List Rw} {w : Str} {ts : List (Int × List Nat)} (hJ : S[J]? = some (mkO c u n)) (hn : n < 100) (h : WrOk n rows w ts) : m_with_row c [.ref J, rowsD rows, .str w, termsD ts] S = .ok (vaD c J (wr n rows w ts)) S :=
  with_row_ok hJ (by omega) h.sh h.fit h.new h.fnew h.le h.len
section
variable {v w : Va} {R : List Rw} {x y : Nat} (hJ : S[J]? = some (mkO c u n)) (hn : n < 100) (hv : VaOk n v) (hw : VaOk n w)
include hJ hn hv
theorem pair_ok (hw : VaOk n w) (hT : togR n ([], []) [v, w] = (R, [x, y])) : m_put_together c [.tup [vaD c J v, vaD c J w]] S = .ok (.tup [rowsD R, .tup [.int x, .int y]]) S := by
  have h := together_ok (c := c) (vs := [v, w]) hJ hn (fun z hz => by
    rcases List.mem_cons.mp hz with rfl | hz
    · exact hv
    · rw [List.mem_singleton.mp hz]; exact hw) (by simp) (show 2 < 8 by decide)
  rw [hT] at h
  exact h
theorem add_vv (hw : VaOk n w) (hT : togR n ([], []) [v, w] = (R, [x, y])) (k : WrOk n R "round" [(1, [x]), (1, [y])]) : m_Value___add__ c [vaD c J v, vaD c J w] S = .ok (vaD c J (wr n R "round" [(1, [x]), (1, [y])])) S := by
  have jl : J < S.length := (List.getElem?_eq_some_iff.mp hJ).1
  refine fn_lo (T := []) rfl ?_ (lo_val jl _ _)
  rw [List.append_nil]
  refine w_seqR (w_ifT (v_tb (v_cb (v_cons (v_var rfl) (v_cons v_C v_nil)) x_isiF)) ?_)
  refine w_seq (w_unp (v_call (v_cons (v_tup (v_cons (v_var rfl) (v_cons (v_var rfl) v_nil)) (show 2 ≤ 16777216 by decide)) v_nil) (pair_ok hJ hn hv hw hT)) rfl) ?_
  refine w_ret (v_call (l := [.ref J, rowsD R, .str "round", termsD [(1, [x]), (1, [y])]]) (v_cons (v_fld (v_var rfl) x_fz rfl) (v_cons (v_var rfl) (v_cons v_C (v_cons (v_tup (v_cons (v_tup (v_cons v_C (v_cons (v_sl (v_var rfl) v_moN (v_moS v_C) sl2a) v_nil)) (show 2 ≤ 16777216 by decide)) (v_cons (v_tup (v_cons v_C (v_cons (v_sl (v_var rfl) (v_moS v_C) v_moN sl2b) v_nil)) (show 2 ≤ 16777216 by decide)) v_nil)) (show 2 ≤ 16777216 by decide)) v_nil)))) (wr_ok hJ hn k))
theorem sub_vv (hw : VaOk n w) (hT : togR n ([], []) [v, w] = (R, [x, y])) (k : WrOk n R "round" [(1, [x]), (-1, [y])]) : m_Value___sub__ c [vaD c J v, vaD c J w] S = .ok (vaD c J (wr n R "round" [(1, [x]), (-1, [y])])) S := by
  have jl : J < S.length := (List.getElem?_eq_some_iff.mp hJ).1
  refine fn_lo (T := []) rfl ?_ (lo_val jl _ _)
  rw [List.append_nil]
  refine w_seqR (w_ifT (v_tb (v_cb (v_cons (v_var rfl) (v_cons v_C v_nil)) x_isiF)) ?_)
  refine w_seq (w_unp (v_call (v_cons (v_tup (v_cons (v_var rfl) (v_cons (v_var rfl) v_nil)) (show 2 ≤ 16777216 by decide)) v_nil) (pair_ok hJ hn hv hw hT)) rfl) ?_
  refine w_ret (v_call (l := [.ref J, rowsD R, .str "round", termsD [(1, [x]), (-1, [y])]]) (v_cons (v_fld (v_var rfl) x_fz rfl) (v_cons (v_var rfl) (v_cons v_C (v_cons (v_tup (v_cons (v_tup (v_cons v_C (v_cons (v_sl (v_var rfl) v_moN (v_moS v_C) sl2a) v_nil)) (show 2 ≤ 16777216 by decide)) (v_cons (v_tup (v_cons (v_un v_C rfl) (v_cons (v_sl (v_var rfl) (v_moS v_C) v_moN sl2b) v_nil)) (show 2 ≤ 16777216 by decide)) v_nil)) (show 2 ≤ 16777216 by decide)) v_nil)))) (wr_ok hJ hn k))
theorem mul_vv (hw : VaOk n w) (hT : togR n ([], []) [v, w] = (R, [x, y])) (k : WrOk n R "round" [(1, [x, y])]) : m_Value___mul__ c [vaD c J v, vaD c J w] S = .ok (vaD c J (wr n R "round" [(1, [x, y])])) S := by
  have jl : J < S.length := (List.getElem?_eq_some_iff.mp hJ).1
  refine fn_lo (T := []) rfl ?_ (lo_val jl _ _)
  rw [List.append_nil]
  refine w_seqR (w_ifT (v_tb (v_cb (v_cons (v_var rfl) (v_cons v_C v_nil)) x_isiF)) ?_)
  refine w_seq (w_unp (v_call (v_cons (v_tup (v_cons (v_var rfl) (v_cons (v_var rfl) v_nil)) (show 2 ≤ 16777216 by decide)) v_nil) (pair_ok hJ hn hv hw hT)) rfl) ?_
  refine w_ret (v_call (l := [.ref J, rowsD R, .str "round", termsD [(1, [x, y])]]) (v_cons (v_fld (v_var rfl) x_fz rfl) (v_cons (v_var rfl) (v_cons v_C (v_cons (v_tup (v_cons (v_tup (v_cons v_C (v_cons (v_var rfl) v_nil)) (show 2 ≤ 16777216 by decide)) v_nil) (show 1 ≤ 16777216 by decide)) v_nil)))) (wr_ok hJ hn k))
theorem fused_ok {z : Va} {s : Nat} (hw : VaOk n w) (hz : VaOk n z) (hT : togR n ([], []) [v, w, z] = (R, [x, y, s])) (k : WrOk n R "round" [(1, [x, y]), (1, [s])]) : m_Value_fused c [vaD c J v, vaD c J w, vaD c J z] S = .ok (vaD c J (wr n R "round" [(1, [x, y]), (1, [s])])) S := by
  have jl : J < S.length := (List.getElem?_eq_some_iff.mp hJ).1
  have h := together_ok (c := c) (vs := [v, w, z]) hJ hn (fun z' hz' => by
    rcases List.mem_cons.mp hz' with rfl | hz'
    · exact hv
    · rcases List.mem_cons.mp hz' with rfl | hz'
      · exact hw
      · rw [List.mem_singleton.mp hz']; exact hz) (by simp) (show 3 < 8 by decide)
  rw [hT] at h
  refine fn_lo (T := []) rfl ?_ (lo_val jl _ _)
  rw [List.append_nil]
  refine w_seq (w_unp (v_call (v_cons (v_tup (v_cons (v_var rfl) (v_cons (v_var rfl) (v_cons (v_var rfl) v_nil))) (show 3 ≤ 16777216 by decide)) v_nil) h) rfl) ?_
  refine w_ret (v_call (l := [.ref J, rowsD R, .str "round", termsD [(1, [x, y]), (1, [s])]]) (v_cons (v_fld (v_var rfl) x_fz rfl) (v_cons (v_var rfl) (v_cons v_C (v_cons (v_tup (v_cons (v_tup (v_cons v_C (v_cons (v_sl (v_var rfl) v_moN (v_moS v_C) sl3a) v_nil)) (show 2 ≤ 16777216 by decide)) (v_cons (v_tup (v_cons v_C (v_cons (v_sl (v_var rfl) (v_moS v_C) v_moN sl3b) v_nil)) (show 2 ≤ 16777216 by decide)) v_nil)) (show 2 ≤ 16777216 by decide)) v_nil)))) (wr_ok hJ hn k))
variable {i : Int}
theorem add_vi (k : WrOk n v.rows "round" [(1, [v.place]), (i, [])]) : m_Value___add__ c [vaD c J v, .int i] S = .ok (vaD c J (wr n v.rows "round" [(1, [v.place]), (i, [])])) S := by
  have jl : J < S.length := (List.getElem?_eq_some_iff.mp hJ).1
  refine fn_lo (T := []) rfl ?_ (lo_val jl _ _)
  rw [List.append_nil]
  refine w_seq (w_ifF (v_tb (v_cb (v_cons (v_var rfl) (v_cons v_C v_nil)) x_isiI)) w_nil) ?_
  exact w_ret (v_call (l := [.ref J, rowsD v.rows, .str "round", termsD [(1, [v.place]), (i, [])]]) (v_cons (v_fld (v_var rfl) x_fz rfl) (v_cons (v_fld (v_var rfl) x_fz rfl) (v_cons v_C (v_cons (v_tup (v_cons (v_tup (v_cons v_C (v_cons (v_tup (v_cons (v_fld (v_var rfl) x_fz rfl) v_nil) (show 1 ≤ 16777216 by decide)) v_nil)) (show 2 ≤ 16777216 by decide)) (v_cons (v_tup (v_cons (v_var rfl) (v_cons (v_tup v_nil (show 0 ≤ 16777216 by decide)) v_nil)) (show 2 ≤ 16777216 by decide)) v_nil)) (show 2 ≤ 16777216 by decide)) v_nil)))) (wr_ok hJ hn k))
theorem sub_vi (k : WrOk n v.rows "round" [(1, [v.place]), (0 - i, [])]) : m_Value___sub__ c [vaD c J v, .int i] S = .ok (vaD c J (wr n v.rows "round" [(1, [v.place]), (0 - i, [])])) S := by
  have jl : J < S.length := (List.getElem?_eq_some_iff.mp hJ).1
  refine fn_lo (T := []) rfl ?_ (lo_val jl _ _)
  rw [List.append_nil]
  refine w_seq (w_ifF (v_tb (v_cb (v_cons (v_var rfl) (v_cons v_C v_nil)) x_isiI)) w_nil) ?_
  exact w_ret (v_call (l := [.ref J, rowsD v.rows, .str "round", termsD [(1, [v.place]), (0 - i, [])]]) (v_cons (v_fld (v_var rfl) x_fz rfl) (v_cons (v_fld (v_var rfl) x_fz rfl) (v_cons v_C (v_cons (v_tup (v_cons (v_tup (v_cons v_C (v_cons (v_tup (v_cons (v_fld (v_var rfl) x_fz rfl) v_nil) (show 1 ≤ 16777216 by decide)) v_nil)) (show 2 ≤ 16777216 by decide)) (v_cons (v_tup (v_cons (v_bin v_C (v_var rfl) Ev.x_subI) (v_cons (v_tup v_nil (show 0 ≤ 16777216 by decide)) v_nil)) (show 2 ≤ 16777216 by decide)) v_nil)) (show 2 ≤ 16777216 by decide)) v_nil)))) (wr_ok hJ hn k))
theorem mul_vi (k : WrOk n v.rows "round" [(i, [v.place])]) : m_Value___mul__ c [vaD c J v, .int i] S = .ok (vaD c J (wr n v.rows "round" [(i, [v.place])])) S := by
  have jl : J < S.length := (List.getElem?_eq_some_iff.mp hJ).1
  refine fn_lo (T := []) rfl ?_ (lo_val jl _ _)
  rw [List.append_nil]
  refine w_seq (w_ifF (v_tb (v_cb (v_cons (v_var rfl) (v_cons v_C v_nil)) x_isiI)) w_nil) ?_
  exact w_ret (v_call (l := [.ref J, rowsD v.rows, .str "round", termsD [(i, [v.place])]]) (v_cons (v_fld (v_var rfl) x_fz rfl) (v_cons (v_fld (v_var rfl) x_fz rfl) (v_cons v_C (v_cons (v_tup (v_cons (v_tup (v_cons (v_var rfl) (v_cons (v_tup (v_cons (v_fld (v_var rfl) x_fz rfl) v_nil) (show 1 ≤ 16777216 by decide)) v_nil)) (show 2 ≤ 16777216 by decide)) v_nil) (show 1 ≤ 16777216 by decide)) v_nil)))) (wr_ok hJ hn k))
theorem rmul_vi (k : WrOk n v.rows "round" [(i, [v.place])]) : m_Value___rmul__ c [vaD c J v, .int i] S = .ok (vaD c J (wr n v.rows "round" [(i, [v.place])])) S := by
  have jl : J < S.length := (List.getElem?_eq_some_iff.mp hJ).1
  refine fn_lo (T := []) rfl ?_ (lo_val jl _ _)
  rw [List.append_nil]
  exact w_ret (v_call (l := [.ref J, rowsD v.rows, .str "round", termsD [(i, [v.place])]]) (v_cons (v_fld (v_var rfl) x_fz rfl) (v_cons (v_fld (v_var rfl) x_fz rfl) (v_cons v_C (v_cons (v_tup (v_cons (v_tup (v_cons (v_var rfl) (v_cons (v_tup (v_cons (v_fld (v_var rfl) x_fz rfl) v_nil) (show 1 ≤ 16777216 by decide)) v_nil)) (show 2 ≤ 16777216 by decide)) v_nil) (show 1 ≤ 16777216 by decide)) v_nil)))) (wr_ok hJ hn k))
theorem radd_vi (k : WrOk n v.rows "round" [(i, []), (1, [v.place])]) : m_Value___radd__ c [vaD c J v, .int i] S = .ok (vaD c J (wr n v.rows "round" [(i, []), (1, [v.place])])) S := by
  have jl : J < S.length := (List.getElem?_eq_some_iff.mp hJ).1
  refine fn_lo (T := []) rfl ?_ (lo_val jl _ _)
  rw [List.append_nil]
  exact w_ret (v_call (l := [.ref J, rowsD v.rows, .str "round", termsD [(i, []), (1, [v.place])]]) (v_cons (v_fld (v_var rfl) x_fz rfl) (v_cons (v_fld (v_var rfl) x_fz rfl) (v_cons v_C (v_cons (v_tup (v_cons (v_tup (v_cons (v_var rfl) (v_cons (v_tup v_nil (show 0 ≤ 16777216 by decide)) v_nil)) (show 2 ≤ 16777216 by decide)) (v_cons (v_tup (v_cons v_C (v_cons (v_tup (v_cons (v_fld (v_var rfl) x_fz rfl) v_nil) (show 1 ≤ 16777216 by decide)) v_nil)) (show 2 ≤ 16777216 by decide)) v_nil)) (show 2 ≤ 16777216 by decide)) v_nil)))) (wr_ok hJ hn k))
theorem rsub_vi (k : WrOk n v.rows "round" [(i, []), (-1, [v.place])]) : m_Value___rsub__ c [vaD c J v, .int i] S = .ok (vaD c J (wr n v.rows "round" [(i, []), (-1, [v.place])])) S := by
  have jl : J < S.length := (List.getElem?_eq_some_iff.mp hJ).1
  refine fn_lo (T := []) rfl ?_ (lo_val jl _ _)
  rw [List.append_nil]
  exact w_ret (v_call (l := [.ref J, rowsD v.rows, .str "round", termsD [(i, []), (-1, [v.place])]]) (v_cons (v_fld (v_var rfl) x_fz rfl) (v_cons (v_fld (v_var rfl) x_fz rfl) (v_cons v_C (v_cons (v_tup (v_cons (v_tup (v_cons (v_var rfl) (v_cons (v_tup v_nil (show 0 ≤ 16777216 by decide)) v_nil)) (show 2 ≤ 16777216 by decide)) (v_cons (v_tup (v_cons (v_un v_C rfl) (v_cons (v_tup (v_cons (v_fld (v_var rfl) x_fz rfl) v_nil) (show 1 ≤ 16777216 by decide)) v_nil)) (show 2 ≤ 16777216 by decide)) v_nil)) (show 2 ≤ 16777216 by decide)) v_nil)))) (wr_ok hJ hn k))
theorem neg_v (k : WrOk n v.rows "exact" [(-1, [v.place])]) : m_Value___neg__ c [vaD c J v] S = .ok (vaD c J (wr n v.rows "exact" [(-1, [v.place])])) S := by
  have jl : J < S.length := (List.getElem?_eq_some_iff.mp hJ).1
  refine fn_lo (T := []) rfl ?_ (lo_val jl _ _)
  rw [List.append_nil]
  exact w_ret (v_call (l := [.ref J, rowsD v.rows, .str "exact", termsD [(-1, [v.place])]]) (v_cons (v_fld (v_var rfl) x_fz rfl) (v_cons (v_fld (v_var rfl) x_fz rfl) (v_cons v_C (v_cons (v_tup (v_cons (v_tup (v_cons (v_un v_C rfl) (v_cons (v_tup (v_cons (v_fld (v_var rfl) x_fz rfl) v_nil) (show 1 ≤ 16777216 by decide)) v_nil)) (show 2 ≤ 16777216 by decide)) v_nil) (show 1 ≤ 16777216 by decide)) v_nil)))) (wr_ok hJ hn k))
theorem shl_v {j : Int} (hi : ∀ T, gShl T (.int 1) (.int i) = some (.int j)) (k : WrOk n v.rows "exact" [(j, [v.place])]) : m_Value___lshift__ c [vaD c J v, .int i] S = .ok (vaD c J (wr n v.rows "exact" [(j, [v.place])])) S := by
  have jl : J < S.length := (List.getElem?_eq_some_iff.mp hJ).1
  refine fn_lo (T := []) rfl ?_ (lo_val jl _ _)
  rw [List.append_nil]
  exact w_ret (v_call (l := [.ref J, rowsD v.rows, .str "exact", termsD [(j, [v.place])]]) (v_cons (v_fld (v_var rfl) x_fz rfl) (v_cons (v_fld (v_var rfl) x_fz rfl) (v_cons v_C (v_cons (v_tup (v_cons (v_tup (v_cons (v_bin v_C (v_var rfl) (hi _)) (v_cons (v_tup (v_cons (v_fld (v_var rfl) x_fz rfl) v_nil) (show 1 ≤ 16777216 by decide)) v_nil)) (show 2 ≤ 16777216 by decide)) v_nil) (show 1 ≤ 16777216 by decide)) v_nil)))) (wr_ok hJ hn k))
end
end K70

namespace Ev
open PySem PySem.Spec L2 PyProof.Rows Mo
theorem x_shl {S : List O} {i : Int} (h : 0 ≤ i ∧ i ≤ 20) : gShl S (.int 1) (.int i) = some (.int (1 * 2 ^ i.toNat)) := by
  show (if 0 ≤ i ∧ i ≤ 1000000 ∧ (1 : Int).natAbs < 18446744073709551616 then some (D.int (1 * 2 ^ i.toNat)) else none) = _
  rw [if_pos ⟨h.1, by omega, by decide⟩]
end Ev
namespace K70
open PySem PySem.Spec L2 PyProof.Rows Mo Ev
variable {c : Cs} {S : List O}
section
variable {l : List D} {p q s i : Int} {a b f d : D}
theorem lv_0 (gp : atI l p = some a) (gq : atI l q = some b) (gs : atI l s = some f) (ia : isI c.Value S a = true) (ib : isI c.Value S b = true) (h : m_Value___add__ c [a, b] S = .ok d S) (hd : D.lo S.length d = true) : m__law_value c [.lst l, .tup [.str "+", .tup [.int p, .int q, .int s], .int i]] S = .ok d S := by
  refine fn_lo (T := []) rfl ?_ hd
  rw [List.append_nil]
  refine w_seq (w_unp (e' := [some (.lst l), some (.tup [.str "+", .tup [.int p, .int q, .int s], .int i]), some (.str "+"), some (.int p), some (.int q), some (.int s), some (.int i), none, none, none]) (v_var rfl) rfl) ?_
  refine w_seq (e1 := [some (.lst l), some (.tup [.str "+", .tup [.int p, .int q, .int s], .int i]), some (.str "+"), some (.int p), some (.int q), some (.int s), some (.int i), some a, some b, none]) (S1 := S) (w_par (v_cons (v_bin (v_var rfl) (v_var rfl) (x_ixl gp)) (v_cons (v_bin (v_var rfl) (v_var rfl) (x_ixl gq)) v_nil))) ?_
  refine w_seq (w_ifF (S1 := S) (by kernel_rfl) w_nil) ?_
  exact w_seqR (w_ifT (S1 := S) (by kernel_rfl) (w_ret (v_ifT (S1 := S) (by kernel_rfl) (v_binOO (v_var rfl) (v_var rfl) ia ib h))))
theorem lv_1 (gp : atI l p = some a) (gq : atI l q = some b) (gs : atI l s = some f) (ia : isI c.Value S a = true) (ib : isI c.Value S b = true) (h : m_Value___sub__ c [a, b] S = .ok d S) (hd : D.lo S.length d = true) : m__law_value c [.lst l, .tup [.str "-", .tup [.int p, .int q, .int s], .int i]] S = .ok d S := by
  refine fn_lo (T := []) rfl ?_ hd
  rw [List.append_nil]
  refine w_seq (w_unp (e' := [some (.lst l), some (.tup [.str "-", .tup [.int p, .int q, .int s], .int i]), some (.str "-"), some (.int p), some (.int q), some (.int s), some (.int i), none, none, none]) (v_var rfl) rfl) ?_
  refine w_seq (e1 := [some (.lst l), some (.tup [.str "-", .tup [.int p, .int q, .int s], .int i]), some (.str "-"), some (.int p), some (.int q), some (.int s), some (.int i), some a, some b, none]) (S1 := S) (w_par (v_cons (v_bin (v_var rfl) (v_var rfl) (x_ixl gp)) (v_cons (v_bin (v_var rfl) (v_var rfl) (x_ixl gq)) v_nil))) ?_
  refine w_seq (w_ifF (S1 := S) (by kernel_rfl) w_nil) ?_
  exact w_seqR (w_ifT (S1 := S) (by kernel_rfl) (w_ret (v_ifF (S1 := S) (by kernel_rfl) (v_binOO (v_var rfl) (v_var rfl) ia ib h))))
theorem lv_2 (gp : atI l p = some a) (gq : atI l q = some b) (gs : atI l s = some f) (ia : isI c.Value S a = true) (ib : isI c.Value S b = true) (h : m_Value___mul__ c [a, b] S = .ok d S) (hd : D.lo S.length d = true) : m__law_value c [.lst l, .tup [.str "*", .tup [.int p, .int q, .int s], .int i]] S = .ok d S := by
  refine fn_lo (T := []) rfl ?_ hd
  rw [List.append_nil]
  refine w_seq (w_unp (e' := [some (.lst l), some (.tup [.str "*", .tup [.int p, .int q, .int s], .int i]), some (.str "*"), some (.int p), some (.int q), some (.int s), some (.int i), none, none, none]) (v_var rfl) rfl) ?_
  refine w_seq (e1 := [some (.lst l), some (.tup [.str "*", .tup [.int p, .int q, .int s], .int i]), some (.str "*"), some (.int p), some (.int q), some (.int s), some (.int i), some a, some b, none]) (S1 := S) (w_par (v_cons (v_bin (v_var rfl) (v_var rfl) (x_ixl gp)) (v_cons (v_bin (v_var rfl) (v_var rfl) (x_ixl gq)) v_nil))) ?_
  refine w_seq (w_ifF (S1 := S) (by kernel_rfl) w_nil) ?_
  refine w_seq (w_ifF (S1 := S) (by kernel_rfl) w_nil) ?_
  refine w_seq (w_ifF (S1 := S) (by kernel_rfl) w_nil) ?_
  refine w_seq (w_ifF (S1 := S) (by kernel_rfl) w_nil) ?_
  refine w_seq (w_ifF (S1 := S) (by kernel_rfl) w_nil) ?_
  refine w_seq (w_ifF (S1 := S) (by kernel_rfl) w_nil) ?_
  exact w_ret (v_ifT (S1 := S) (by kernel_rfl) (v_binOO (v_var rfl) (v_var rfl) ia ib h))
theorem lv_3 (gp : atI l p = some a) (gq : atI l q = some b) (gs : atI l s = some f) (ia : isI c.Value S a = true) (ib : isI c.Value S b = true) (h : m_Value_fused c [a, b, f] S = .ok d S) (hd : D.lo S.length d = true) : m__law_value c [.lst l, .tup [.str "f", .tup [.int p, .int q, .int s], .int i]] S = .ok d S := by
  refine fn_lo (T := []) rfl ?_ hd
  rw [List.append_nil]
  refine w_seq (w_unp (e' := [some (.lst l), some (.tup [.str "f", .tup [.int p, .int q, .int s], .int i]), some (.str "f"), some (.int p), some (.int q), some (.int s), some (.int i), none, none, none]) (v_var rfl) rfl) ?_
  refine w_seq (e1 := [some (.lst l), some (.tup [.str "f", .tup [.int p, .int q, .int s], .int i]), some (.str "f"), some (.int p), some (.int q), some (.int s), some (.int i), some a, some b, none]) (S1 := S) (w_par (v_cons (v_bin (v_var rfl) (v_var rfl) (x_ixl gp)) (v_cons (v_bin (v_var rfl) (v_var rfl) (x_ixl gq)) v_nil))) ?_
  refine w_seq (w_ifF (S1 := S) (by kernel_rfl) w_nil) ?_
  refine w_seq (w_ifF (S1 := S) (by kernel_rfl) w_nil) ?_
  refine w_seq (w_ifF (S1 := S) (by kernel_rfl) w_nil) ?_
  refine w_seq (w_ifF (S1 := S) (by kernel_rfl) w_nil) ?_
  refine w_seq (w_ifF (S1 := S) (by kernel_rfl) w_nil) ?_
  refine w_seq (w_ifF (S1 := S) (by kernel_rfl) w_nil) ?_
  exact w_ret (v_ifF (S1 := S) (by kernel_rfl) (v_call (l := [a, b, f]) (v_cons (v_var rfl) (v_cons (v_var rfl) (v_cons (v_bin (v_var rfl) (v_var rfl) (x_ixl gs)) v_nil))) h))
theorem lv_4 (gp : atI l p = some a) (gq : atI l q = some b) (gs : atI l s = some f) (ia : isI c.Value S a = true) (ib : isI c.Value S b = true) (h : m_Value___add__ c [a, .int i] S = .ok d S) (hd : D.lo S.length d = true) : m__law_value c [.lst l, .tup [.str "+c", .tup [.int p, .int q, .int s], .int i]] S = .ok d S := by
  refine fn_lo (T := []) rfl ?_ hd
  rw [List.append_nil]
  refine w_seq (w_unp (e' := [some (.lst l), some (.tup [.str "+c", .tup [.int p, .int q, .int s], .int i]), some (.str "+c"), some (.int p), some (.int q), some (.int s), some (.int i), none, none, none]) (v_var rfl) rfl) ?_
  refine w_seq (e1 := [some (.lst l), some (.tup [.str "+c", .tup [.int p, .int q, .int s], .int i]), some (.str "+c"), some (.int p), some (.int q), some (.int s), some (.int i), some a, some b, none]) (S1 := S) (w_par (v_cons (v_bin (v_var rfl) (v_var rfl) (x_ixl gp)) (v_cons (v_bin (v_var rfl) (v_var rfl) (x_ixl gq)) v_nil))) ?_
  refine w_seq (w_ifF (S1 := S) (by kernel_rfl) w_nil) ?_
  refine w_seq (w_ifF (S1 := S) (by kernel_rfl) w_nil) ?_
  exact w_seqR (w_ifT (S1 := S) (by kernel_rfl) (w_ret (v_ifT (S1 := S) (by kernel_rfl) (v_binOI (v_var rfl) (v_var rfl) ia h))))
theorem lv_5 (gp : atI l p = some a) (gq : atI l q = some b) (gs : atI l s = some f) (ia : isI c.Value S a = true) (ib : isI c.Value S b = true) (h : m_Value___radd__ c [a, .int i] S = .ok d S) (hd : D.lo S.length d = true) : m__law_value c [.lst l, .tup [.str "c+", .tup [.int p, .int q, .int s], .int i]] S = .ok d S := by
  refine fn_lo (T := []) rfl ?_ hd
  rw [List.append_nil]
  refine w_seq (w_unp (e' := [some (.lst l), some (.tup [.str "c+", .tup [.int p, .int q, .int s], .int i]), some (.str "c+"), some (.int p), some (.int q), some (.int s), some (.int i), none, none, none]) (v_var rfl) rfl) ?_
  refine w_seq (e1 := [some (.lst l), some (.tup [.str "c+", .tup [.int p, .int q, .int s], .int i]), some (.str "c+"), some (.int p), some (.int q), some (.int s), some (.int i), some a, some b, none]) (S1 := S) (w_par (v_cons (v_bin (v_var rfl) (v_var rfl) (x_ixl gp)) (v_cons (v_bin (v_var rfl) (v_var rfl) (x_ixl gq)) v_nil))) ?_
  refine w_seq (w_ifF (S1 := S) (by kernel_rfl) w_nil) ?_
  refine w_seq (w_ifF (S1 := S) (by kernel_rfl) w_nil) ?_
  exact w_seqR (w_ifT (S1 := S) (by kernel_rfl) (w_ret (v_ifF (S1 := S) (by kernel_rfl) (v_binIO (v_var rfl) (v_var rfl) ia h))))
theorem lv_6 (gp : atI l p = some a) (gq : atI l q = some b) (gs : atI l s = some f) (ia : isI c.Value S a = true) (ib : isI c.Value S b = true) (h : m_Value___sub__ c [a, .int i] S = .ok d S) (hd : D.lo S.length d = true) : m__law_value c [.lst l, .tup [.str "-c", .tup [.int p, .int q, .int s], .int i]] S = .ok d S := by
  refine fn_lo (T := []) rfl ?_ hd
  rw [List.append_nil]
  refine w_seq (w_unp (e' := [some (.lst l), some (.tup [.str "-c", .tup [.int p, .int q, .int s], .int i]), some (.str "-c"), some (.int p), some (.int q), some (.int s), some (.int i), none, none, none]) (v_var rfl) rfl) ?_
  refine w_seq (e1 := [some (.lst l), some (.tup [.str "-c", .tup [.int p, .int q, .int s], .int i]), some (.str "-c"), some (.int p), some (.int q), some (.int s), some (.int i), some a, some b, none]) (S1 := S) (w_par (v_cons (v_bin (v_var rfl) (v_var rfl) (x_ixl gp)) (v_cons (v_bin (v_var rfl) (v_var rfl) (x_ixl gq)) v_nil))) ?_
  refine w_seq (w_ifF (S1 := S) (by kernel_rfl) w_nil) ?_
  refine w_seq (w_ifF (S1 := S) (by kernel_rfl) w_nil) ?_
  refine w_seq (w_ifF (S1 := S) (by kernel_rfl) w_nil) ?_
  exact w_seqR (w_ifT (S1 := S) (by kernel_rfl) (w_ret (v_ifT (S1 := S) (by kernel_rfl) (v_binOI (v_var rfl) (v_var rfl) ia h))))
theorem lv_7 (gp : atI l p = some a) (gq : atI l q = some b) (gs : atI l s = some f) (ia : isI c.Value S a = true) (ib : isI c.Value S b = true) (h : m_Value___rsub__ c [a, .int i] S = .ok d S) (hd : D.lo S.length d = true) : m__law_value c [.lst l, .tup [.str "c-", .tup [.int p, .int q, .int s], .int i]] S = .ok d S := by
  refine fn_lo (T := []) rfl ?_ hd
  rw [List.append_nil]
  refine w_seq (w_unp (e' := [some (.lst l), some (.tup [.str "c-", .tup [.int p, .int q, .int s], .int i]), some (.str "c-"), some (.int p), some (.int q), some (.int s), some (.int i), none, none, none]) (v_var rfl) rfl) ?_
  refine w_seq (e1 := [some (.lst l), some (.tup [.str "c-", .tup [.int p, .int q, .int s], .int i]), some (.str "c-"), some (.int p), some (.int q), some (.int s), some (.int i), some a, some b, none]) (S1 := S) (w_par (v_cons (v_bin (v_var rfl) (v_var rfl) (x_ixl gp)) (v_cons (v_bin (v_var rfl) (v_var rfl) (x_ixl gq)) v_nil))) ?_
  refine w_seq (w_ifF (S1 := S) (by kernel_rfl) w_nil) ?_
  refine w_seq (w_ifF (S1 := S) (by kernel_rfl) w_nil) ?_
  refine w_seq (w_ifF (S1 := S) (by kernel_rfl) w_nil) ?_
  exact w_seqR (w_ifT (S1 := S) (by kernel_rfl) (w_ret (v_ifF (S1 := S) (by kernel_rfl) (v_binIO (v_var rfl) (v_var rfl) ia h))))
theorem lv_8 (gp : atI l p = some a) (gq : atI l q = some b) (gs : atI l s = some f) (ia : isI c.Value S a = true) (ib : isI c.Value S b = true) (h : m_Value___mul__ c [a, .int i] S = .ok d S) (hd : D.lo S.length d = true) : m__law_value c [.lst l, .tup [.str "*c", .tup [.int p, .int q, .int s], .int i]] S = .ok d S := by
  refine fn_lo (T := []) rfl ?_ hd
  rw [List.append_nil]
  refine w_seq (w_unp (e' := [some (.lst l), some (.tup [.str "*c", .tup [.int p, .int q, .int s], .int i]), some (.str "*c"), some (.int p), some (.int q), some (.int s), some (.int i), none, none, none]) (v_var rfl) rfl) ?_
  refine w_seq (e1 := [some (.lst l), some (.tup [.str "*c", .tup [.int p, .int q, .int s], .int i]), some (.str "*c"), some (.int p), some (.int q), some (.int s), some (.int i), some a, some b, none]) (S1 := S) (w_par (v_cons (v_bin (v_var rfl) (v_var rfl) (x_ixl gp)) (v_cons (v_bin (v_var rfl) (v_var rfl) (x_ixl gq)) v_nil))) ?_
  refine w_seq (w_ifF (S1 := S) (by kernel_rfl) w_nil) ?_
  refine w_seq (w_ifF (S1 := S) (by kernel_rfl) w_nil) ?_
  refine w_seq (w_ifF (S1 := S) (by kernel_rfl) w_nil) ?_
  refine w_seq (w_ifF (S1 := S) (by kernel_rfl) w_nil) ?_
  exact w_seqR (w_ifT (S1 := S) (by kernel_rfl) (w_ret (v_ifT (S1 := S) (by kernel_rfl) (v_binOI (v_var rfl) (v_var rfl) ia h))))
theorem lv_9 (gp : atI l p = some a) (gq : atI l q = some b) (gs : atI l s = some f) (ia : isI c.Value S a = true) (ib : isI c.Value S b = true) (h : m_Value___rmul__ c [a, .int i] S = .ok d S) (hd : D.lo S.length d = true) : m__law_value c [.lst l, .tup [.str "c*", .tup [.int p, .int q, .int s], .int i]] S = .ok d S := by
  refine fn_lo (T := []) rfl ?_ hd
  rw [List.append_nil]
  refine w_seq (w_unp (e' := [some (.lst l), some (.tup [.str "c*", .tup [.int p, .int q, .int s], .int i]), some (.str "c*"), some (.int p), some (.int q), some (.int s), some (.int i), none, none, none]) (v_var rfl) rfl) ?_
  refine w_seq (e1 := [some (.lst l), some (.tup [.str "c*", .tup [.int p, .int q, .int s], .int i]), some (.str "c*"), some (.int p), some (.int q), some (.int s), some (.int i), some a, some b, none]) (S1 := S) (w_par (v_cons (v_bin (v_var rfl) (v_var rfl) (x_ixl gp)) (v_cons (v_bin (v_var rfl) (v_var rfl) (x_ixl gq)) v_nil))) ?_
  refine w_seq (w_ifF (S1 := S) (by kernel_rfl) w_nil) ?_
  refine w_seq (w_ifF (S1 := S) (by kernel_rfl) w_nil) ?_
  refine w_seq (w_ifF (S1 := S) (by kernel_rfl) w_nil) ?_
  refine w_seq (w_ifF (S1 := S) (by kernel_rfl) w_nil) ?_
  exact w_seqR (w_ifT (S1 := S) (by kernel_rfl) (w_ret (v_ifF (S1 := S) (by kernel_rfl) (v_binIO (v_var rfl) (v_var rfl) ia h))))
theorem lv_10 (gp : atI l p = some a) (gq : atI l q = some b) (gs : atI l s = some f) (ia : isI c.Value S a = true) (ib : isI c.Value S b = true) (h : m_Value___neg__ c [a] S = .ok d S) (hd : D.lo S.length d = true) : m__law_value c [.lst l, .tup [.str "n", .tup [.int p, .int q, .int s], .int i]] S = .ok d S := by
  refine fn_lo (T := []) rfl ?_ hd
  rw [List.append_nil]
  refine w_seq (w_unp (e' := [some (.lst l), some (.tup [.str "n", .tup [.int p, .int q, .int s], .int i]), some (.str "n"), some (.int p), some (.int q), some (.int s), some (.int i), none, none, none]) (v_var rfl) rfl) ?_
  refine w_seq (e1 := [some (.lst l), some (.tup [.str "n", .tup [.int p, .int q, .int s], .int i]), some (.str "n"), some (.int p), some (.int q), some (.int s), some (.int i), some a, some b, none]) (S1 := S) (w_par (v_cons (v_bin (v_var rfl) (v_var rfl) (x_ixl gp)) (v_cons (v_bin (v_var rfl) (v_var rfl) (x_ixl gq)) v_nil))) ?_
  refine w_seq (w_ifF (S1 := S) (by kernel_rfl) w_nil) ?_
  refine w_seq (w_ifF (S1 := S) (by kernel_rfl) w_nil) ?_
  refine w_seq (w_ifF (S1 := S) (by kernel_rfl) w_nil) ?_
  refine w_seq (w_ifF (S1 := S) (by kernel_rfl) w_nil) ?_
  refine w_seq (w_ifF (S1 := S) (by kernel_rfl) w_nil) ?_
  exact w_seqR (w_ifT (S1 := S) (by kernel_rfl) (w_ret (v_ifT (S1 := S) (by kernel_rfl) (v_unO (v_var rfl) ia h))))
theorem lv_11 (gp : atI l p = some a) (gq : atI l q = some b) (gs : atI l s = some f) (ia : isI c.Value S a = true) (ib : isI c.Value S b = true) (h : m_Value___lshift__ c [a, .int i] S = .ok d S) (hd : D.lo S.length d = true) : m__law_value c [.lst l, .tup [.str "<", .tup [.int p, .int q, .int s], .int i]] S = .ok d S := by
  refine fn_lo (T := []) rfl ?_ hd
  rw [List.append_nil]
  refine w_seq (w_unp (e' := [some (.lst l), some (.tup [.str "<", .tup [.int p, .int q, .int s], .int i]), some (.str "<"), some (.int p), some (.int q), some (.int s), some (.int i), none, none, none]) (v_var rfl) rfl) ?_
  refine w_seq (e1 := [some (.lst l), some (.tup [.str "<", .tup [.int p, .int q, .int s], .int i]), some (.str "<"), some (.int p), some (.int q), some (.int s), some (.int i), some a, some b, none]) (S1 := S) (w_par (v_cons (v_bin (v_var rfl) (v_var rfl) (x_ixl gp)) (v_cons (v_bin (v_var rfl) (v_var rfl) (x_ixl gq)) v_nil))) ?_
  refine w_seq (w_ifF (S1 := S) (by kernel_rfl) w_nil) ?_
  refine w_seq (w_ifF (S1 := S) (by kernel_rfl) w_nil) ?_
  refine w_seq (w_ifF (S1 := S) (by kernel_rfl) w_nil) ?_
  refine w_seq (w_ifF (S1 := S) (by kernel_rfl) w_nil) ?_
  refine w_seq (w_ifF (S1 := S) (by kernel_rfl) w_nil) ?_
  exact w_seqR (w_ifT (S1 := S) (by kernel_rfl) (w_ret (v_ifF (S1 := S) (by kernel_rfl) (v_binLI (v_var rfl) (v_var rfl) ia h))))
theorem lv_12 (gp : atI l p = some a) (gq : atI l q = some b) (gs : atI l s = some f) (ia : isI c.Value S a = true) (ib : isI c.Value S b = true) (h : m_Value___add__ c [a, b] S = .ok d S) (hd : D.lo S.length d = true) : m__law_value c [.lst l, .tup [.str "+=", .tup [.int p, .int q, .int s], .int i]] S = .ok d S := by
  refine fn_lo (T := []) rfl ?_ hd
  rw [List.append_nil]
  refine w_seq (w_unp (e' := [some (.lst l), some (.tup [.str "+=", .tup [.int p, .int q, .int s], .int i]), some (.str "+="), some (.int p), some (.int q), some (.int s), some (.int i), none, none, none]) (v_var rfl) rfl) ?_
  refine w_seq (e1 := [some (.lst l), some (.tup [.str "+=", .tup [.int p, .int q, .int s], .int i]), some (.str "+="), some (.int p), some (.int q), some (.int s), some (.int i), some a, some b, none]) (S1 := S) (w_par (v_cons (v_bin (v_var rfl) (v_var rfl) (x_ixl gp)) (v_cons (v_bin (v_var rfl) (v_var rfl) (x_ixl gq)) v_nil))) ?_
  refine w_seqR (w_ifT (S1 := S) (by kernel_rfl) ?_)
  refine w_seq (e1 := [some (.lst l), some (.tup [.str "+=", .tup [.int p, .int q, .int s], .int i]), some (.str "+="), some (.int p), some (.int q), some (.int s), some (.int i), some a, some b, some a]) (S1 := S) (w_asg (v_var rfl)) ?_
  refine w_seq (w_augO (a := a) (b := b) (d := d) (S1 := S) (S2 := S) rfl (v_var rfl) ia ib h) ?_
  exact w_ret (v_var rfl)
end
theorem lr_0 {p q s : Nat} {i : Int} : m__law_row c [.str "+", .tup [.int (p : Nat), .int (q : Nat)], .int i] [] = .ok (rwD ("round", [(1, [p]), (1, [q])])) [] := by
  refine fn_lo (S := []) (T := []) rfl ?_ (lo_rowD _ _)
  exact w_seqR (w_ifT (S1 := []) (by kernel_rfl) (w_ret (v_tup (l := [.str "round", termsD [(1, [p]), (1, [q])]]) (v_cons v_C (v_cons (v_tup (l := [termD (1, [p]), termD (1, [q])]) (v_cons (a := termD (1, [p])) (v_tup (l := [.int (1), .tup [.int (p : Nat)]]) (v_cons (v_C) (v_cons (v_sl (v_var rfl) v_moN (v_moS v_C) sl2a) v_nil)) (show 2 ≤ 16777216 by decide)) (v_cons (a := termD (1, [q])) (v_tup (l := [.int (1), .tup [.int (q : Nat)]]) (v_cons (v_ifF (S1 := []) (by kernel_rfl) v_C) (v_cons (v_sl (v_var rfl) (v_moS v_C) v_moN sl2b) v_nil)) (show 2 ≤ 16777216 by decide)) v_nil)) (show 2 ≤ 16777216 by decide)) v_nil)) (show 2 ≤ 16777216 by decide))))
theorem lr_1 {p q s : Nat} {i : Int} : m__law_row c [.str "-", .tup [.int (p : Nat), .int (q : Nat)], .int i] [] = .ok (rwD ("round", [(1, [p]), (-1, [q])])) [] := by
  refine fn_lo (S := []) (T := []) rfl ?_ (lo_rowD _ _)
  exact w_seqR (w_ifT (S1 := []) (by kernel_rfl) (w_ret (v_tup (l := [.str "round", termsD [(1, [p]), (-1, [q])]]) (v_cons v_C (v_cons (v_tup (l := [termD (1, [p]), termD (-1, [q])]) (v_cons (a := termD (1, [p])) (v_tup (l := [.int (1), .tup [.int (p : Nat)]]) (v_cons (v_C) (v_cons (v_sl (v_var rfl) v_moN (v_moS v_C) sl2a) v_nil)) (show 2 ≤ 16777216 by decide)) (v_cons (a := termD (-1, [q])) (v_tup (l := [.int (-1), .tup [.int (q : Nat)]]) (v_cons (v_ifT (S1 := []) (by kernel_rfl) (v_un v_C rfl)) (v_cons (v_sl (v_var rfl) (v_moS v_C) v_moN sl2b) v_nil)) (show 2 ≤ 16777216 by decide)) v_nil)) (show 2 ≤ 16777216 by decide)) v_nil)) (show 2 ≤ 16777216 by decide))))
theorem lr_2 {p q s : Nat} {i : Int} : m__law_row c [.str "*", .tup [.int (p : Nat), .int (q : Nat)], .int i] [] = .ok (rwD ("round", [(1, [p, q])])) [] := by
  refine fn_lo (S := []) (T := []) rfl ?_ (lo_rowD _ _)
  refine w_seq (w_ifF (S1 := []) (by kernel_rfl) w_nil) ?_
  refine w_seq (w_ifF (S1 := []) (by kernel_rfl) w_nil) ?_
  refine w_seq (w_ifF (S1 := []) (by kernel_rfl) w_nil) ?_
  refine w_seq (w_ifF (S1 := []) (by kernel_rfl) w_nil) ?_
  refine w_seq (w_ifF (S1 := []) (by kernel_rfl) w_nil) ?_
  exact w_ret (v_ifT (S1 := []) (by kernel_rfl) (v_tup (l := [.str "round", termsD [(1, [p, q])]]) (v_cons v_C (v_cons (v_tup (l := [termD (1, [p, q])]) (v_cons (a := termD (1, [p, q])) (v_tup (l := [.int (1), .tup [.int (p : Nat), .int (q : Nat)]]) (v_cons (v_C) (v_cons (v_var rfl) v_nil)) (show 2 ≤ 16777216 by decide)) v_nil) (show 1 ≤ 16777216 by decide)) v_nil)) (show 2 ≤ 16777216 by decide)))
theorem lr_3 {p q s : Nat} {i : Int} : m__law_row c [.str "f", .tup [.int (p : Nat), .int (q : Nat), .int (s : Nat)], .int i] [] = .ok (rwD ("round", [(1, [p, q]), (1, [s])])) [] := by
  refine fn_lo (S := []) (T := []) rfl ?_ (lo_rowD _ _)
  refine w_seq (w_ifF (S1 := []) (by kernel_rfl) w_nil) ?_
  refine w_seq (w_ifF (S1 := []) (by kernel_rfl) w_nil) ?_
  refine w_seq (w_ifF (S1 := []) (by kernel_rfl) w_nil) ?_
  refine w_seq (w_ifF (S1 := []) (by kernel_rfl) w_nil) ?_
  refine w_seq (w_ifF (S1 := []) (by kernel_rfl) w_nil) ?_
  exact w_ret (v_ifF (S1 := []) (by kernel_rfl) (v_tup (l := [.str "round", termsD [(1, [p, q]), (1, [s])]]) (v_cons v_C (v_cons (v_tup (l := [termD (1, [p, q]), termD (1, [s])]) (v_cons (a := termD (1, [p, q])) (v_tup (l := [.int (1), .tup [.int (p : Nat), .int (q : Nat)]]) (v_cons (v_C) (v_cons (v_sl (v_var rfl) v_moN (v_moS v_C) sl3a) v_nil)) (show 2 ≤ 16777216 by decide)) (v_cons (a := termD (1, [s])) (v_tup (l := [.int (1), .tup [.int (s : Nat)]]) (v_cons (v_C) (v_cons (v_sl (v_var rfl) (v_moS v_C) v_moN sl3b) v_nil)) (show 2 ≤ 16777216 by decide)) v_nil)) (show 2 ≤ 16777216 by decide)) v_nil)) (show 2 ≤ 16777216 by decide)))
theorem lr_4 {p q s : Nat} {i : Int} : m__law_row c [.str "+c", .tup [.int (p : Nat)], .int i] [] = .ok (rwD ("round", [(1, [p]), (i, [])])) [] := by
  refine fn_lo (S := []) (T := []) rfl ?_ (lo_rowD _ _)
  refine w_seq (w_ifF (S1 := []) (by kernel_rfl) w_nil) ?_
  exact w_seqR (w_ifT (S1 := []) (by kernel_rfl) (w_ret (v_tup (l := [.str "round", termsD [(1, [p]), (i, [])]]) (v_cons v_C (v_cons (v_tup (l := [termD (1, [p]), termD (i, [])]) (v_cons (a := termD (1, [p])) (v_tup (l := [.int (1), .tup [.int (p : Nat)]]) (v_cons (v_C) (v_cons (v_var rfl) v_nil)) (show 2 ≤ 16777216 by decide)) (v_cons (a := termD (i, [])) (v_tup (l := [.int (i), .tup []]) (v_cons (v_ifT (S1 := []) (by kernel_rfl) (v_var rfl)) (v_cons (v_tup v_nil (show 0 ≤ 16777216 by decide)) v_nil)) (show 2 ≤ 16777216 by decide)) v_nil)) (show 2 ≤ 16777216 by decide)) v_nil)) (show 2 ≤ 16777216 by decide))))
theorem lr_5 {p q s : Nat} {i : Int} : m__law_row c [.str "c+", .tup [.int (p : Nat)], .int i] [] = .ok (rwD ("round", [(i, []), (1, [p])])) [] := by
  refine fn_lo (S := []) (T := []) rfl ?_ (lo_rowD _ _)
  refine w_seq (w_ifF (S1 := []) (by kernel_rfl) w_nil) ?_
  refine w_seq (w_ifF (S1 := []) (by kernel_rfl) w_nil) ?_
  exact w_seqR (w_ifT (S1 := []) (by kernel_rfl) (w_ret (v_tup (l := [.str "round", termsD [(i, []), (1, [p])]]) (v_cons v_C (v_cons (v_tup (l := [termD (i, []), termD (1, [p])]) (v_cons (a := termD (i, [])) (v_tup (l := [.int (i), .tup []]) (v_cons (v_var rfl) (v_cons (v_tup v_nil (show 0 ≤ 16777216 by decide)) v_nil)) (show 2 ≤ 16777216 by decide)) (v_cons (a := termD (1, [p])) (v_tup (l := [.int (1), .tup [.int (p : Nat)]]) (v_cons (v_ifT (S1 := []) (by kernel_rfl) v_C) (v_cons (v_var rfl) v_nil)) (show 2 ≤ 16777216 by decide)) v_nil)) (show 2 ≤ 16777216 by decide)) v_nil)) (show 2 ≤ 16777216 by decide))))
theorem lr_6 {p q s : Nat} {i : Int} : m__law_row c [.str "-c", .tup [.int (p : Nat)], .int i] [] = .ok (rwD ("round", [(1, [p]), (0 - i, [])])) [] := by
  refine fn_lo (S := []) (T := []) rfl ?_ (lo_rowD _ _)
  refine w_seq (w_ifF (S1 := []) (by kernel_rfl) w_nil) ?_
  exact w_seqR (w_ifT (S1 := []) (by kernel_rfl) (w_ret (v_tup (l := [.str "round", termsD [(1, [p]), (0 - i, [])]]) (v_cons v_C (v_cons (v_tup (l := [termD (1, [p]), termD (0 - i, [])]) (v_cons (a := termD (1, [p])) (v_tup (l := [.int (1), .tup [.int (p : Nat)]]) (v_cons (v_C) (v_cons (v_var rfl) v_nil)) (show 2 ≤ 16777216 by decide)) (v_cons (a := termD (0 - i, [])) (v_tup (l := [.int (0 - i), .tup []]) (v_cons (v_ifF (S1 := []) (by kernel_rfl) (v_bin v_C (v_var rfl) Ev.x_subI)) (v_cons (v_tup v_nil (show 0 ≤ 16777216 by decide)) v_nil)) (show 2 ≤ 16777216 by decide)) v_nil)) (show 2 ≤ 16777216 by decide)) v_nil)) (show 2 ≤ 16777216 by decide))))
theorem lr_7 {p q s : Nat} {i : Int} : m__law_row c [.str "c-", .tup [.int (p : Nat)], .int i] [] = .ok (rwD ("round", [(i, []), (-1, [p])])) [] := by
  refine fn_lo (S := []) (T := []) rfl ?_ (lo_rowD _ _)
  refine w_seq (w_ifF (S1 := []) (by kernel_rfl) w_nil) ?_
  refine w_seq (w_ifF (S1 := []) (by kernel_rfl) w_nil) ?_
  exact w_seqR (w_ifT (S1 := []) (by kernel_rfl) (w_ret (v_tup (l := [.str "round", termsD [(i, []), (-1, [p])]]) (v_cons v_C (v_cons (v_tup (l := [termD (i, []), termD (-1, [p])]) (v_cons (a := termD (i, [])) (v_tup (l := [.int (i), .tup []]) (v_cons (v_var rfl) (v_cons (v_tup v_nil (show 0 ≤ 16777216 by decide)) v_nil)) (show 2 ≤ 16777216 by decide)) (v_cons (a := termD (-1, [p])) (v_tup (l := [.int (-1), .tup [.int (p : Nat)]]) (v_cons (v_ifF (S1 := []) (by kernel_rfl) (v_un v_C rfl)) (v_cons (v_var rfl) v_nil)) (show 2 ≤ 16777216 by decide)) v_nil)) (show 2 ≤ 16777216 by decide)) v_nil)) (show 2 ≤ 16777216 by decide))))
theorem lr_8 {p q s : Nat} {i : Int} : m__law_row c [.str "*c", .tup [.int (p : Nat)], .int i] [] = .ok (rwD ("round", [(i, [p])])) [] := by
  refine fn_lo (S := []) (T := []) rfl ?_ (lo_rowD _ _)
  refine w_seq (w_ifF (S1 := []) (by kernel_rfl) w_nil) ?_
  refine w_seq (w_ifF (S1 := []) (by kernel_rfl) w_nil) ?_
  refine w_seq (w_ifF (S1 := []) (by kernel_rfl) w_nil) ?_
  exact w_seqR (w_ifT (S1 := []) (by kernel_rfl) (w_ret (v_tup (l := [.str "round", termsD [(i, [p])]]) (v_cons v_C (v_cons (v_tup (l := [termD (i, [p])]) (v_cons (a := termD (i, [p])) (v_tup (l := [.int (i), .tup [.int (p : Nat)]]) (v_cons (v_var rfl) (v_cons (v_var rfl) v_nil)) (show 2 ≤ 16777216 by decide)) v_nil) (show 1 ≤ 16777216 by decide)) v_nil)) (show 2 ≤ 16777216 by decide))))
theorem lr_9 {p q s : Nat} {i : Int} : m__law_row c [.str "c*", .tup [.int (p : Nat)], .int i] [] = .ok (rwD ("round", [(i, [p])])) [] := by
  refine fn_lo (S := []) (T := []) rfl ?_ (lo_rowD _ _)
  refine w_seq (w_ifF (S1 := []) (by kernel_rfl) w_nil) ?_
  refine w_seq (w_ifF (S1 := []) (by kernel_rfl) w_nil) ?_
  refine w_seq (w_ifF (S1 := []) (by kernel_rfl) w_nil) ?_
  exact w_seqR (w_ifT (S1 := []) (by kernel_rfl) (w_ret (v_tup (l := [.str "round", termsD [(i, [p])]]) (v_cons v_C (v_cons (v_tup (l := [termD (i, [p])]) (v_cons (a := termD (i, [p])) (v_tup (l := [.int (i), .tup [.int (p : Nat)]]) (v_cons (v_var rfl) (v_cons (v_var rfl) v_nil)) (show 2 ≤ 16777216 by decide)) v_nil) (show 1 ≤ 16777216 by decide)) v_nil)) (show 2 ≤ 16777216 by decide))))
theorem lr_10 {p q s : Nat} {i : Int} : m__law_row c [.str "n", .tup [.int (p : Nat)], .int i] [] = .ok (rwD ("exact", [(-1, [p])])) [] := by
  refine fn_lo (S := []) (T := []) rfl ?_ (lo_rowD _ _)
  refine w_seq (w_ifF (S1 := []) (by kernel_rfl) w_nil) ?_
  refine w_seq (w_ifF (S1 := []) (by kernel_rfl) w_nil) ?_
  refine w_seq (w_ifF (S1 := []) (by kernel_rfl) w_nil) ?_
  refine w_seq (w_ifF (S1 := []) (by kernel_rfl) w_nil) ?_
  exact w_seqR (w_ifT (S1 := []) (by kernel_rfl) (w_ret (v_tup (l := [.str "exact", termsD [(-1, [p])]]) (v_cons v_C (v_cons (v_tup (l := [termD (-1, [p])]) (v_cons (a := termD (-1, [p])) (v_tup (l := [.int (-1), .tup [.int (p : Nat)]]) (v_cons (v_ifT (S1 := []) (by kernel_rfl) (v_un v_C rfl)) (v_cons (v_var rfl) v_nil)) (show 2 ≤ 16777216 by decide)) v_nil) (show 1 ≤ 16777216 by decide)) v_nil)) (show 2 ≤ 16777216 by decide))))
theorem lr_11 {p q s : Nat} {i : Int} (hi : 0 ≤ i ∧ i ≤ 20) : m__law_row c [.str "<", .tup [.int (p : Nat)], .int i] [] = .ok (rwD ("exact", [(1 * 2 ^ i.toNat, [p])])) [] := by
  refine fn_lo (S := []) (T := []) rfl ?_ (lo_rowD _ _)
  refine w_seq (w_ifF (S1 := []) (by kernel_rfl) w_nil) ?_
  refine w_seq (w_ifF (S1 := []) (by kernel_rfl) w_nil) ?_
  refine w_seq (w_ifF (S1 := []) (by kernel_rfl) w_nil) ?_
  refine w_seq (w_ifF (S1 := []) (by kernel_rfl) w_nil) ?_
  exact w_seqR (w_ifT (S1 := []) (by kernel_rfl) (w_ret (v_tup (l := [.str "exact", termsD [(1 * 2 ^ i.toNat, [p])]]) (v_cons v_C (v_cons (v_tup (l := [termD (1 * 2 ^ i.toNat, [p])]) (v_cons (a := termD (1 * 2 ^ i.toNat, [p])) (v_tup (l := [.int (1 * 2 ^ i.toNat), .tup [.int (p : Nat)]]) (v_cons (v_ifF (S1 := []) (by kernel_rfl) (v_bin v_C (v_var rfl) (x_shl hi))) (v_cons (v_var rfl) v_nil)) (show 2 ≤ 16777216 by decide)) v_nil) (show 1 ≤ 16777216 by decide)) v_nil)) (show 2 ≤ 16777216 by decide))))
theorem lr_12 {p q s : Nat} {i : Int} : m__law_row c [.str "+=", .tup [.int (p : Nat), .int (q : Nat)], .int i] [] = .ok (rwD ("round", [(1, [p]), (1, [q])])) [] := by
  refine fn_lo (S := []) (T := []) rfl ?_ (lo_rowD _ _)
  exact w_seqR (w_ifT (S1 := []) (by kernel_rfl) (w_ret (v_tup (l := [.str "round", termsD [(1, [p]), (1, [q])]]) (v_cons v_C (v_cons (v_tup (l := [termD (1, [p]), termD (1, [q])]) (v_cons (a := termD (1, [p])) (v_tup (l := [.int (1), .tup [.int (p : Nat)]]) (v_cons (v_C) (v_cons (v_sl (v_var rfl) v_moN (v_moS v_C) sl2a) v_nil)) (show 2 ≤ 16777216 by decide)) (v_cons (a := termD (1, [q])) (v_tup (l := [.int (1), .tup [.int (q : Nat)]]) (v_cons (v_ifF (S1 := []) (by kernel_rfl) v_C) (v_cons (v_sl (v_var rfl) (v_moS v_C) v_moN sl2b) v_nil)) (show 2 ≤ 16777216 by decide)) v_nil)) (show 2 ≤ 16777216 by decide)) v_nil)) (show 2 ≤ 16777216 by decide))))
end K70

namespace Ev
open PySem PySem.Spec L2 PyProof.Rows Mo
/-! ### data that are the same as themselves -/
def Pl : Nat → D → Prop
  | d + 1, .tup l => l.length ≤ 1000 ∧ ∀ x ∈ l, Pl d x
  | _ + 1, .int _ => True
  | _ + 1, .str _ => True
  | _, _ => False
theorem Pl.lo : ∀ {d : Nat} {x : D}, Pl d x → ∀ k, D.lo k x = true
  | d + 1, .tup l, h, k => by
    rw [D.lo]
    have : ∀ m : List D, (∀ x ∈ m, x ∈ l) → D.los k m = true := fun m hm => by
      induction m with
      | nil => rfl
      | cons a m ih => rw [D.los, Pl.lo (h.2 a (hm a List.mem_cons_self)) k, ih fun x hx => hm x (List.mem_cons_of_mem _ hx)]; rfl
    exact this l fun x hx => hx
  | _ + 1, .int _, _, _ => rfl
  | _ + 1, .str _, _, _ => rfl
theorem x_eqI {S : List O} {i : Int} : gEq S (.int i) (.int i) = some (.bl true) := by
  show some (D.bl (decide (i = i))) = _
  rw [decide_eq_true rfl]
theorem x_eqS {S : List O} {x : Str} : gEq S (.str x) (.str x) = some (.bl true) := by
  show some (D.bl (decide (x.cps.toList = x.cps.toList))) = _
  rw [decide_eq_true rfl]
theorem zip_self (l : List D) : zipD l l = l.map fun x => .tup [x, x] := by
  unfold zipD
  induction l with
  | nil => rfl
  | cons a l ih => rw [List.zip_cons_cons, List.map_cons, List.map_cons, ih]
theorem compL_none {α : Type} {chk : List O → Bool} {t : Tg} {tt : MT} {te : ME} {e : Mo.Env} {S : List O} {g : α → D} (hc : chk S = true) : ∀ {ws : List α} {acc : List D}, (∀ q ∈ ws, ∃ e', t.f (g q) e = some e' ∧ tt e' S = .ok false S) → compL chk t tt te e acc (ws.map g) S = .ok acc S
  | [], acc, _ => compL_nil hc
  | q :: ws, acc, h => by
    obtain ⟨e', h1, h2⟩ := h q List.mem_cons_self
    rw [List.map_cons, compL, if_pos hc, h1]
    dsimp only
    rw [h2]
    show compL chk t tt te e acc (ws.map g) S = _
    exact compL_none hc fun x hx => h x (List.mem_cons_of_mem _ hx)
theorem deckO_lo (cs : List Int) (p l c : Int) (n : Nat) : O.lo n (deckO cs p l c) = true := by
  have : D.los n (cs.map D.int) = true := by
    induction cs with
    | nil => rfl
    | cons c cs ih => rw [List.map_cons, D.los, ih]; rfl
  show D.los n [D.lst (cs.map .int), .int p, .int l, .int c] = true
  simp [D.los, D.lo, this]
theorem trim_dk {S S' : List O} {m : Nat} (hl : S.length ≤ S'.length) (h0 : ∀ i, i < S.length → i ≠ 0 → S'[i]? = S[i]?) (hF : Dk S' m) : trimS true S S' = S'.take S.length := by
  unfold trimS
  rw [if_pos]
  rw [Bool.true_and, List.all_eq_true]
  intro p hp
  obtain ⟨i, hi⟩ := List.mem_iff_getElem?.mp hp
  rw [List.getElem?_zip_eq_some] at hi
  obtain ⟨k1, k2⟩ := hi
  have hlt : i < S.length := (List.getElem?_eq_some_iff.mp k2).1
  rw [List.getElem?_take_of_lt hlt] at k1
  rw [Bool.or_eq_true]
  by_cases e : i = 0
  · subst e
    obtain ⟨cs, q, l, c, F, hc⟩ := hF
    rw [F.at_] at k1
    right
    rw [← Option.some.inj k1]
    exact deckO_lo _ _ _ _ _
  · left
    rw [h0 i hlt e, k2] at k1
    simp [Option.some.inj k1]
end Ev
namespace K70
open PySem PySem.Spec L2 PyProof.Rows Mo Ev
variable {c : Cs}
theorem same_ok : ∀ {d : Nat} {x : D}, Pl d x → m__law_same c d [x, x] [] = .ok (.bl true) []
  | d + 1, .int i, _ => by
    refine fn_lo (S := []) (T := []) rfl ?_ rfl
    refine w_seq (w_ifF (S1 := []) (by kernel_rfl) w_nil) ?_
    refine w_seq (w_ifF (S1 := []) (by kernel_rfl) w_nil) ?_
    exact w_ret (v_andVT (S1 := []) (by kernel_rfl) (v_andVT (S1 := []) (by kernel_rfl) (v_bin (v_var rfl) (v_var rfl) x_eqI)))
  | d + 1, .str x, _ => by
    refine fn_lo (S := []) (T := []) rfl ?_ rfl
    refine w_seq (w_ifF (S1 := []) (by kernel_rfl) w_nil) ?_
    exact w_seqR (w_ifT (S1 := []) (by kernel_rfl) (w_ret (v_andVT (S1 := []) (by kernel_rfl) (v_bin (v_var rfl) (v_var rfl) x_eqS))))
  | d + 1, .tup l, h => by
    refine fn_lo (S := []) (T := []) rfl ?_ rfl
    refine w_seqR (w_ifT (S1 := []) (by kernel_rfl) ?_)
    refine w_seq (w_ifF (S1 := []) (v_orF (S1 := []) (by kernel_rfl) (v_tb (v_bin (v_cb (v_cons (v_var rfl) v_nil) rfl) (v_cb (v_cons (v_var rfl) v_nil) rfl) (show gNe [] (.int l.length) (.int l.length) = some (.bl false) by show some (D.bl (!decide _)) = _; rw [decide_eq_true rfl]; rfl)))) w_nil) ?_
    refine w_ret (v_bin (a := .lst []) (b := .lst []) (v_comp (l := l.map fun x => .tup [x, x]) (S1 := []) (chk := anyS) ?_ ?_) (v_lst v_nil (by decide)) (by kernel_rfl))
    · show R.ok (zipD l l, anyS) [] = _
      rw [zip_self]
    · refine compL_none rfl fun x hx => ⟨[some (.tup l), some (.tup l), some x, some x], rfl, ?_⟩
      have hp := h.2 x hx
      exact v_not (k := true) (v_tb (v_callP (v_cons (v_var rfl) (v_cons (v_var rfl) v_nil)) (by simp [D.los, hp.lo]) (same_ok hp) rfl))
def progD (n : Nat) (v : Va) : D := .tup [.int n, rowsD v.rows, .tup [.int v.place]]
theorem pl_rows {d : Nat} {rows : List Rw} (h : ∀ r ∈ rows, Sh r) (hl : rows.length ≤ 100) : Pl (d + 6) (rowsD rows) := by
  refine ⟨by rw [List.length_map]; omega, fun x hx => ?_⟩
  obtain ⟨r, hr, rfl⟩ := List.mem_map.mp hx
  have hs := h r hr
  refine ⟨by show 2 ≤ 1000; decide, fun y hy => ?_⟩
  rcases List.mem_cons.mp hy with rfl | hy
  · trivial
  rw [List.mem_singleton.mp hy]
  refine ⟨by rw [List.length_map]; exact Nat.le_of_lt hs.l, fun z hz => ?_⟩
  obtain ⟨t, ht, rfl⟩ := List.mem_map.mp hz
  refine ⟨by show 2 ≤ 1000; decide, fun y hy => ?_⟩
  rcases List.mem_cons.mp hy with rfl | hy
  · trivial
  rw [List.mem_singleton.mp hy]
  refine ⟨by rw [List.length_map]; exact Nat.le_of_lt (hs.t t ht), fun y hy => ?_⟩
  obtain ⟨i, _, rfl⟩ := List.mem_map.mp hy
  trivial
theorem pl_prog {d n : Nat} {v : Va} (h : ∀ r ∈ v.rows, Sh r) (hl : v.rows.length ≤ 100) : Pl (d + 7) (progD n v) := by
  refine ⟨by show 3 ≤ 1000; decide, fun x hx => ?_⟩
  rcases List.mem_cons.mp hx with rfl | hx
  · trivial
  rcases List.mem_cons.mp hx with rfl | hx
  · exact pl_rows h hl
  rw [List.mem_singleton.mp hx]
  refine ⟨by show 1 ≤ 1000; decide, fun y hy => ?_⟩
  rw [List.mem_singleton.mp hy]
  trivial
theorem program_ok {S : List O} {J n : Nat} {u : D} {v : Va} (hJ : S[J]? = some (mkO c u n)) : m_Value_program c [vaD c J v] S = .ok (progD n v) S := by
  refine fn_lo (T := []) (d := progD n v) rfl ?_ (by simp [progD, D.lo, D.los, lo_rows])
  rw [List.append_nil]
  exact w_ret (v_tup (l := [.int n, rowsD v.rows, .tup [.int v.place]]) (v_cons (v_fld (v_fld (v_var rfl) x_fz rfl) (x_ins hJ) rfl) (v_cons (v_fld (v_var rfl) x_fz rfl) (v_cons (v_tup (l := [.int v.place]) (v_cons (v_fld (v_var rfl) x_fz rfl) v_nil) (show 1 ≤ 16777216 by decide)) v_nil))) (show 3 ≤ 16777216 by decide))
/-- a Maker -/
theorem maker_init {S : List O} {u : D} {n : Nat} : m_Maker___init__ c [.ref S.length, u, .int n] (S ++ [.ins c.Maker []]) = .ok .non (S ++ [mkO c u n]) := by
  refine nb_ok ((fn_nx (S' := S ++ [mkO c u n]) (e := [some (.ref S.length), some u, some (.int n)]) rfl ?_).trans (by rw [trim_same (by simp)]))
  refine w_seq ((w_fldS (fs := []) (v_var rfl) (v_var rfl) at_0 (by decide)).trans (by rw [set_0])) ?_
  exact (w_fldS (v_var rfl) (v_var rfl) at_0 (by show 1 < 1000; decide)).trans (by rw [set_0]; rfl)
theorem item_ok {S : List O} {J n i : Nat} {u : D} (hJ : S[J]? = some (mkO c u n)) : m_Maker___getitem__ c [.ref J, .int i] S = .ok (vaD c J ⟨[], i⟩) S := by
  have jl : J < S.length := (List.getElem?_eq_some_iff.mp hJ).1
  refine fn_lo (T := [.gone]) rfl ?_ (lo_val jl _ _)
  exact w_ret (make_ok (rows := []) (p := i) (v_cons (v_var rfl) (v_cons (v_tup v_nil (show 0 ≤ 16777216 by decide)) (v_cons (v_var rfl) v_nil))))
/-! one row over no rows -/
theorem mv_fit {n : Nat} {r : Rw} (h : Fit n r) : mvR (List.range n) r = r := by
  obtain ⟨w, ts⟩ := r
  unfold mvR
  congr 1
  show ts.map (mvT (List.range n)) = ts
  conv => rhs; rw [← List.map_id ts]
  apply List.map_congr_left
  intro t ht
  obtain ⟨f, ps⟩ := t
  unfold mvT
  show (f, _) = (f, ps)
  congr 1
  show ps.map _ = ps
  conv => rhs; rw [← List.map_id ps]
  apply List.map_congr_left
  intro i hi
  have : i < n := h (f, ps) ht i hi
  rw [List.getD_eq_getElem?_getD, List.getElem?_range this]
  rfl
theorem wr_nil {n : Nat} {w : Str} {ts : List (Int × List Nat)} (h : Fit n (w, ts)) : wr n [] w ts = ⟨[(w, ts)], n⟩ := by
  have e : putR n ([], List.range n) ([] ++ [(w, ts)]) = ([(w, ts)], List.range n ++ [n]) := by
    show stepR n ([], List.range n) (w, ts) = _
    unfold stepR
    dsimp only
    rw [mv_fit h]
    have : addR [] (w, ts) = [(w, ts)] := by unfold addR; simp
    rw [this]
    unfold ixR
    rw [if_pos rfl]
    rfl
  unfold wr
  rw [e]
  congr 1
  show (List.range n ++ [n]).getD (n + 0) 0 = n
  rw [List.getD_eq_getElem?_getD, List.getElem?_append_right (by simp)]
  simp
theorem wrok_nil {n : Nat} {w : Str} {ts : List (Int × List Nat)} (h : Fit n (w, ts)) (s : Sh (w, ts)) : WrOk n [] w ts :=
  ⟨fun r hr => by (cases hr), fun k r hr => by (cases hr), s, h, by rw [wr_nil h]; show 1 ≤ 12; decide, by decide⟩
theorem inp_ok {n i : Nat} (h : i < n) : VaOk n ⟨[], i⟩ := ⟨fun r hr => by (cases hr), fun k r hr => by (cases hr), h, show 0 < 100 by decide⟩
theorem getR {n i : Nat} (h : i < n) : (List.range n).getD i 0 = i := by rw [List.getD_eq_getElem?_getD, List.getElem?_range h]; rfl
theorem tog2 {n p q : Nat} (hp : p < n) (hq : q < n) : togR n ([], []) [⟨[], p⟩, ⟨[], q⟩] = ([], [p, q]) := by
  show (([] : List Rw), [(List.range n).getD p 0, (List.range n).getD q 0]) = _
  rw [getR hp, getR hq]
theorem tog3 {n p q s : Nat} (hp : p < n) (hq : q < n) (hs : s < n) : togR n ([], []) [⟨[], p⟩, ⟨[], q⟩, ⟨[], s⟩] = ([], [p, q, s]) := by
  show (([] : List Rw), [(List.range n).getD p 0, (List.range n).getD q 0, (List.range n).getD s 0]) = _
  rw [getR hp, getR hq, getR hs]
end K70

namespace K70
open PySem PySem.Spec L2 PyProof.Rows Mo Ev
variable {c : Cs}
/-! ### Traits -/
def heldD (ws : List Str) : List D := ((["odd", "two", "still", "merge"] : List Str).filter fun w => decide (w ∈ ws) || (decide (w = ("still" : Str)) && decide (("merge" : Str) ∈ ws))).map .str
abbrev wsAll : List (List Str) := [[], ["odd"], ["two"], ["still"], ["odd", "two"], ["odd", "still"], ["two", "still"], ["merge"], ["odd", "two", "still"], ["merge", "odd"]]
abbrev trO (c : Cs) (ws : List Str) : O := .ins c.Traits [("held", .tup (heldD ws))]
theorem traits_init {S : List O} {ws : List Str} (hw : ws ∈ wsAll) : m_Traits___init__ c (.ref S.length :: ws.map .str) (S ++ [.ins c.Traits []]) = .ok .non (S ++ [trO c ws]) := by
  have hl : ws.length ≤ 3 := by
    simp only [wsAll, List.mem_cons, List.not_mem_nil, or_false] at hw
    rcases hw with rfl | rfl | rfl | rfl | rfl | rfl | rfl | rfl | rfl | rfl <;> decide
  refine nb_ok ?_
  show fnS 1 3 (b_Traits___init__ c) (.ref S.length :: ws.map .str) _ = _
  unfold fnS
  rw [if_pos ⟨by simp, by simp [sz]; have : (3 : Nat) ≤ 16777216 := by decide
                          omega⟩]
  show fnM 2 3 (b_Traits___init__ c) [.ref S.length, .tup (ws.map .str)] (S ++ [.ins c.Traits []]) = _
  generalize hT : S ++ [O.ins c.Traits []] = T
  have key : ∃ z, b_Traits___init__ c [some (.ref S.length), some (.tup (ws.map .str)), none] T = sFldS (c.Traits) "held" (mC (.tup (heldD ws))) (mVar 0) [some (.ref S.length), some (.tup (ws.map .str)), z] T := by
    simp only [wsAll, List.mem_cons, List.not_mem_nil, or_false] at hw
    rcases hw with rfl | rfl | rfl | rfl | rfl | rfl | rfl | rfl | rfl | rfl
    · exact ⟨none, by kernel_rfl⟩
    · exact ⟨some (.str "odd"), by kernel_rfl⟩
    · exact ⟨some (.str "two"), by kernel_rfl⟩
    · exact ⟨some (.str "still"), by kernel_rfl⟩
    · exact ⟨some (.str "two"), by kernel_rfl⟩
    · exact ⟨some (.str "still"), by kernel_rfl⟩
    · exact ⟨some (.str "still"), by kernel_rfl⟩
    · exact ⟨some (.str "merge"), by kernel_rfl⟩
    · exact ⟨some (.str "still"), by kernel_rfl⟩
    · exact ⟨some (.str "odd"), by kernel_rfl⟩
  obtain ⟨z, hz⟩ := key
  refine (fn_nx (S' := S ++ [trO c ws]) (e := [some (.ref S.length), some (.tup (ws.map .str)), z]) rfl ?_).trans ?_
  · refine hz.trans ?_
    rw [← hT]
    exact (w_fldS (fs := []) v_C (v_var rfl) at_0 (by decide)).trans (by rw [set_0]; rfl)
  · rw [trim_same (by rw [← hT]; simp)]
theorem traits_ok {S : List O} {m : Nat} (F : Dk S m) (hm : m < 1000000) : ∃ ws ∈ wsAll, ∃ S', m__law_traits c [.ref 0] S = .ok (.fz c.Traits ["held"] [.tup (heldD ws)]) S' ∧ Dk S' (m + 1) ∧ Ag S S' := by
  let items : List D := wsAll.map fun ws => .tup (ws.map .str)
  obtain ⟨d, hd, S1, r1, F1, A1⟩ := one (items := items) F (by omega) (by simp [items]) (by simp [items])
  obtain ⟨ws, hw, rfl⟩ := List.mem_map.mp hd
  refine ⟨ws, hw, S1, ?_, F1, A1⟩
  let items0 : List D := (wsAll.take 8).map fun ws => .tup (ws.map .str)
  have lo : D.lo S.length (.fz c.Traits ["held"] [.tup (heldD ws)]) = true := by
    have q : ∀ l : List Str, D.los S.length (l.map .str) = true := fun l => by
      induction l with
      | nil => rfl
      | cons a l ih => rw [List.map_cons, D.los, ih]; rfl
    have : D.los S.length (heldD ws) = true := q _
    simp [D.lo, D.los, this]
  have mk : ∀ (e : Mo.Env) (m : MA), m e S1 = .ok (ws.map .str) S1 → mMakeF (c.Traits) (m_Traits___init__ c) m e S1 = .ok (.fz c.Traits ["held"] [.tup (heldD ws)]) (S1 ++ [.gone]) := fun e m hm => by
    refine (v_makeF hm (traits_init hw) at_0).trans ?_
    rw [set_0]
    rfl
  refine nb_ok ((fn_rt (S' := S1 ++ [.gone]) (d := .fz c.Traits ["held"] [.tup (heldD ws)]) rfl ?_).trans ?_)
  · refine w_seq (e1 := [some (.ref 0), some (.lst items0)]) (S1 := S) (by kernel_rfl) ?_
    refine w_seq (e1 := [some (.ref 0), some (.tup (ws.map .str))]) (S1 := S1) (w_asg (v_call (l := [.ref 0, .lst items]) (S1 := S) (by kernel_rfl) r1)) ?_
    simp only [wsAll, List.mem_cons, List.not_mem_nil, or_false] at hw
    rcases hw with rfl | rfl | rfl | rfl | rfl | rfl | rfl | rfl | rfl | rfl
    · exact w_seqR (w_ifT (S1 := S1) (by kernel_rfl) (w_ret (mk _ _ (by kernel_rfl))))
    all_goals refine w_seq (w_ifF (S1 := S1) (by kernel_rfl) w_nil) ?_
    · exact w_seqR (w_ifT (S1 := S1) (by kernel_rfl) (w_ret (mk _ _ (by kernel_rfl))))
    · exact w_seqR (w_ifT (S1 := S1) (by kernel_rfl) (w_ret (mk _ _ (by kernel_rfl))))
    · exact w_seqR (w_ifT (S1 := S1) (by kernel_rfl) (w_ret (mk _ _ (by kernel_rfl))))
    · exact w_seq (w_ifF (S1 := S1) (by kernel_rfl) w_nil) (w_ret (v_ifT (S1 := S1) (by kernel_rfl) (mk _ _ (by kernel_rfl))))
    · exact w_seq (w_ifF (S1 := S1) (by kernel_rfl) w_nil) (w_ret (v_ifT (S1 := S1) (by kernel_rfl) (mk _ _ (by kernel_rfl))))
    · exact w_seq (w_ifF (S1 := S1) (by kernel_rfl) w_nil) (w_ret (v_ifT (S1 := S1) (by kernel_rfl) (mk _ _ (by kernel_rfl))))
    · exact w_seqR (w_ifT (S1 := S1) (by kernel_rfl) (w_ret (mk _ _ (by kernel_rfl))))
    · exact w_seq (w_ifF (S1 := S1) (by kernel_rfl) w_nil) (w_ret (v_ifF (S1 := S1) (by kernel_rfl) (mk _ _ (by kernel_rfl))))
    · exact w_seq (w_ifF (S1 := S1) (by kernel_rfl) w_nil) (w_ret (v_ifT (S1 := S1) (by kernel_rfl) (mk _ _ (by kernel_rfl))))
  · rw [lo, trim_dk (m := m + 1) (by rw [List.length_append, A1.1]; simp) (fun i h1 h2 => by rw [List.getElem?_append_left (by rw [A1.1]; exact h1)]; exact A1.2 i h2) F1.app, ← A1.1, List.take_left]
end K70

namespace K70
open PySem PySem.Spec L2 PyProof.Rows Mo Ev
abbrev valsD (c : Cs) (J n : Nat) : List D := (List.range n).map fun i => vaD c J ⟨[], i⟩
theorem gv {c : Cs} {J n p : Nat} (h : p < n) : atI (valsD c J n) (p : Int) = some (vaD c J ⟨[], p⟩) := Ev.atI_nat (by rw [List.getElem?_map, List.getElem?_range h]; rfl)
theorem sh_mk {w : Str} {ts : List (Int × List Nat)} (hw : PyData.canLay0 (.str w) = true) (h1 : ts.length ≤ 3) (h2 : ∀ t ∈ ts, t.2.length ≤ 3) : Sh (w, ts) :=
  ⟨hw, by show ts.length < 1000; omega, fun t ht => by have := h2 t ht; omega⟩
def sdE : ME := mIf (mTB (mBin gEq (mVar 8) (mC (.str "f")))) (mC (.int 3)) (mIf (mTB (mBin gIn (mVar 8) (mTup (mCons (mC (.str "+")) (mCons (mC (.str "-")) (mCons (mC (.str "+=")) (mCons (mC (.str "*")) mNil))))))) (mC (.int 2)) (mC (.int 1)))
structure Sg (c : Cs) (σ : Str) (rf : Nat → Nat → Nat → Int → Rw) (sd : Nat) : Prop where
  val : ∀ {S : List O} {J n : Nat} {u : D} {p q s : Nat} {i : Int}, S[J]? = some (mkO c u n) → n < 100 → p < n → q < n → s < n → (σ = "<" → 0 ≤ i ∧ i ≤ 20) → m__law_value c [.lst (valsD c J n), .tup [.str σ, .tup [.int p, .int q, .int s], .int i]] S = .ok (vaD c J ⟨[rf p q s i], n⟩) S
  row : ∀ {p q s : Nat} {i : Int}, (σ = "<" → 0 ≤ i ∧ i ≤ 20) → m__law_row c [.str σ, .tup (([.int p, .int q, .int s] : List D).take sd), .int i] [] = .ok (rwD (rf p q s i)) []
  sh : ∀ p q s i, Sh (rf p q s i)
  sd3 : sd ≤ 3
  sides : ∀ (e : Mo.Env) (S : List O), e[8]? = some (some (.str σ)) → sdE e S = .ok (.int sd) S
  lt : ∀ (e : Mo.Env) (S : List O), e[8]? = some (some (.str σ)) → mTB (mBin gEq (mVar 8) (mC (.str "<"))) e S = .ok (decide (σ = "<")) S
theorem fit2 {n : Nat} {w : Str} {f g : Int} {ps qs : List Nat} (h1 : ∀ i ∈ ps, i < n) (h2 : ∀ i ∈ qs, i < n) : Fit n (w, [(f, ps), (g, qs)]) := by
  intro t ht
  rcases List.mem_cons.mp ht with rfl | ht
  · exact h1
  · rw [List.mem_singleton.mp ht]; exact h2
theorem fit1 {n : Nat} {w : Str} {f : Int} {ps : List Nat} (h1 : ∀ i ∈ ps, i < n) : Fit n (w, [(f, ps)]) := by
  intro t ht
  rw [List.mem_singleton.mp ht]; exact h1
theorem sh2 {f g : Int} {ps qs : List Nat} (h1 : ps.length ≤ 3) (h2 : qs.length ≤ 3) : ∀ t ∈ [(f, ps), (g, qs)], t.2.length ≤ 3 := by
  intro t ht
  rcases List.mem_cons.mp ht with rfl | ht
  · exact h1
  · rw [List.mem_singleton.mp ht]; exact h2
theorem sh1 {f : Int} {ps : List Nat} (h1 : ps.length ≤ 3) : ∀ t ∈ [(f, ps)], t.2.length ≤ 3 := by
  intro t ht
  rw [List.mem_singleton.mp ht]; exact h1
theorem in0 {n : Nat} : ∀ i ∈ ([] : List Nat), i < n := fun i h => by cases h
theorem in1 {n p : Nat} (h : p < n) : ∀ i ∈ [p], i < n := fun i hi => by rw [List.mem_singleton.mp hi]; exact h
theorem in2 {n p q : Nat} (h : p < n) (h2 : q < n) : ∀ i ∈ [p, q], i < n := fun i hi => by
  rcases List.mem_cons.mp hi with rfl | hi
  · exact h
  · rw [List.mem_singleton.mp hi]; exact h2
variable {c : Cs}
theorem sg_0 : Sg c "+" (fun p q s i => ("round", [(1, [p]), (1, [q])])) 2 where
  val := fun {S J n u p q s i} hJ hn hp hq hs hi => by
    have f : Fit n ("round", [(1, [p]), (1, [q])]) := fit2 (in1 hp) (in1 hq)
    have h := add_vv hJ hn (inp_ok hp) (inp_ok hq) (tog2 hp hq) (wrok_nil f (sh_mk (by kernel_rfl) (show 2 ≤ 3 by decide) (sh2 (show 1 ≤ 3 by decide) (show 1 ≤ 3 by decide))))
    rw [wr_nil f] at h
    exact lv_0 (gv hp) (gv hq) (gv hs) (x_isI x_fz) (x_isI x_fz) h (lo_val (List.getElem?_eq_some_iff.mp hJ).1 _ _)
  row := fun {p q s i} hi => lr_0 (p := p) (q := q) (s := s)
  sh := fun p q s i => sh_mk (by kernel_rfl) (show 2 ≤ 3 by decide) (sh2 (show 1 ≤ 3 by decide) (show 1 ≤ 3 by decide))
  sd3 := by decide
  sides := fun e S h => by
    have t1 : mTB (mBin gEq (mVar 8) (mC (.str "f"))) e S = .ok false S := v_tb (v_bin (v_var h) v_C (by kernel_rfl))
    have t2 : mTB (mBin gIn (mVar 8) (mTup (mCons (mC (.str "+")) (mCons (mC (.str "-")) (mCons (mC (.str "+=")) (mCons (mC (.str "*")) mNil)))))) e S = .ok true S := v_tb (v_bin (v_var h) (v_tup (v_cons v_C (v_cons v_C (v_cons v_C (v_cons v_C v_nil)))) (show 4 ≤ 16777216 by decide)) (by kernel_rfl))
    exact v_ifF t1 (v_ifT t2 v_C)
  lt := fun e S h => v_tb (v_bin (v_var h) v_C (by kernel_rfl))
theorem sg_1 : Sg c "-" (fun p q s i => ("round", [(1, [p]), (-1, [q])])) 2 where
  val := fun {S J n u p q s i} hJ hn hp hq hs hi => by
    have f : Fit n ("round", [(1, [p]), (-1, [q])]) := fit2 (in1 hp) (in1 hq)
    have h := sub_vv hJ hn (inp_ok hp) (inp_ok hq) (tog2 hp hq) (wrok_nil f (sh_mk (by kernel_rfl) (show 2 ≤ 3 by decide) (sh2 (show 1 ≤ 3 by decide) (show 1 ≤ 3 by decide))))
    rw [wr_nil f] at h
    exact lv_1 (gv hp) (gv hq) (gv hs) (x_isI x_fz) (x_isI x_fz) h (lo_val (List.getElem?_eq_some_iff.mp hJ).1 _ _)
  row := fun {p q s i} hi => lr_1 (p := p) (q := q) (s := s)
  sh := fun p q s i => sh_mk (by kernel_rfl) (show 2 ≤ 3 by decide) (sh2 (show 1 ≤ 3 by decide) (show 1 ≤ 3 by decide))
  sd3 := by decide
  sides := fun e S h => by
    have t1 : mTB (mBin gEq (mVar 8) (mC (.str "f"))) e S = .ok false S := v_tb (v_bin (v_var h) v_C (by kernel_rfl))
    have t2 : mTB (mBin gIn (mVar 8) (mTup (mCons (mC (.str "+")) (mCons (mC (.str "-")) (mCons (mC (.str "+=")) (mCons (mC (.str "*")) mNil)))))) e S = .ok true S := v_tb (v_bin (v_var h) (v_tup (v_cons v_C (v_cons v_C (v_cons v_C (v_cons v_C v_nil)))) (show 4 ≤ 16777216 by decide)) (by kernel_rfl))
    exact v_ifF t1 (v_ifT t2 v_C)
  lt := fun e S h => v_tb (v_bin (v_var h) v_C (by kernel_rfl))
theorem sg_2 : Sg c "*" (fun p q s i => ("round", [(1, [p, q])])) 2 where
  val := fun {S J n u p q s i} hJ hn hp hq hs hi => by
    have f : Fit n ("round", [(1, [p, q])]) := fit1 (in2 hp hq)
    have h := mul_vv hJ hn (inp_ok hp) (inp_ok hq) (tog2 hp hq) (wrok_nil f (sh_mk (by kernel_rfl) (show 1 ≤ 3 by decide) (sh1 (show 2 ≤ 3 by decide))))
    rw [wr_nil f] at h
    exact lv_2 (gv hp) (gv hq) (gv hs) (x_isI x_fz) (x_isI x_fz) h (lo_val (List.getElem?_eq_some_iff.mp hJ).1 _ _)
  row := fun {p q s i} hi => lr_2 (p := p) (q := q) (s := s)
  sh := fun p q s i => sh_mk (by kernel_rfl) (show 1 ≤ 3 by decide) (sh1 (show 2 ≤ 3 by decide))
  sd3 := by decide
  sides := fun e S h => by
    have t1 : mTB (mBin gEq (mVar 8) (mC (.str "f"))) e S = .ok false S := v_tb (v_bin (v_var h) v_C (by kernel_rfl))
    have t2 : mTB (mBin gIn (mVar 8) (mTup (mCons (mC (.str "+")) (mCons (mC (.str "-")) (mCons (mC (.str "+=")) (mCons (mC (.str "*")) mNil)))))) e S = .ok true S := v_tb (v_bin (v_var h) (v_tup (v_cons v_C (v_cons v_C (v_cons v_C (v_cons v_C v_nil)))) (show 4 ≤ 16777216 by decide)) (by kernel_rfl))
    exact v_ifF t1 (v_ifT t2 v_C)
  lt := fun e S h => v_tb (v_bin (v_var h) v_C (by kernel_rfl))
theorem sg_3 : Sg c "f" (fun p q s i => ("round", [(1, [p, q]), (1, [s])])) 3 where
  val := fun {S J n u p q s i} hJ hn hp hq hs hi => by
    have f : Fit n ("round", [(1, [p, q]), (1, [s])]) := fit2 (in2 hp hq) (in1 hs)
    have h := fused_ok hJ hn (inp_ok hp) (inp_ok hq) (inp_ok hs) (tog3 hp hq hs) (wrok_nil f (sh_mk (by kernel_rfl) (show 2 ≤ 3 by decide) (sh2 (show 2 ≤ 3 by decide) (show 1 ≤ 3 by decide))))
    rw [wr_nil f] at h
    exact lv_3 (gv hp) (gv hq) (gv hs) (x_isI x_fz) (x_isI x_fz) h (lo_val (List.getElem?_eq_some_iff.mp hJ).1 _ _)
  row := fun {p q s i} hi => lr_3 (p := p) (q := q) (s := s)
  sh := fun p q s i => sh_mk (by kernel_rfl) (show 2 ≤ 3 by decide) (sh2 (show 2 ≤ 3 by decide) (show 1 ≤ 3 by decide))
  sd3 := by decide
  sides := fun e S h => by
    have t1 : mTB (mBin gEq (mVar 8) (mC (.str "f"))) e S = .ok true S := v_tb (v_bin (v_var h) v_C (by kernel_rfl))
    exact v_ifT t1 v_C
  lt := fun e S h => v_tb (v_bin (v_var h) v_C (by kernel_rfl))
theorem sg_4 : Sg c "+c" (fun p q s i => ("round", [(1, [p]), (i, [])])) 1 where
  val := fun {S J n u p q s i} hJ hn hp hq hs hi => by
    have f : Fit n ("round", [(1, [p]), (i, [])]) := fit2 (in1 hp) (in0)
    have h := add_vi hJ hn (inp_ok hp) (wrok_nil f (sh_mk (by kernel_rfl) (show 2 ≤ 3 by decide) (sh2 (show 1 ≤ 3 by decide) (show 0 ≤ 3 by decide))))
    rw [wr_nil f] at h
    exact lv_4 (gv hp) (gv hq) (gv hs) (x_isI x_fz) (x_isI x_fz) h (lo_val (List.getElem?_eq_some_iff.mp hJ).1 _ _)
  row := fun {p q s i} hi => lr_4 (p := p) (q := q) (s := s)
  sh := fun p q s i => sh_mk (by kernel_rfl) (show 2 ≤ 3 by decide) (sh2 (show 1 ≤ 3 by decide) (show 0 ≤ 3 by decide))
  sd3 := by decide
  sides := fun e S h => by
    have t1 : mTB (mBin gEq (mVar 8) (mC (.str "f"))) e S = .ok false S := v_tb (v_bin (v_var h) v_C (by kernel_rfl))
    have t2 : mTB (mBin gIn (mVar 8) (mTup (mCons (mC (.str "+")) (mCons (mC (.str "-")) (mCons (mC (.str "+=")) (mCons (mC (.str "*")) mNil)))))) e S = .ok false S := v_tb (v_bin (v_var h) (v_tup (v_cons v_C (v_cons v_C (v_cons v_C (v_cons v_C v_nil)))) (show 4 ≤ 16777216 by decide)) (by kernel_rfl))
    exact v_ifF t1 (v_ifF t2 v_C)
  lt := fun e S h => v_tb (v_bin (v_var h) v_C (by kernel_rfl))
theorem sg_5 : Sg c "c+" (fun p q s i => ("round", [(i, []), (1, [p])])) 1 where
  val := fun {S J n u p q s i} hJ hn hp hq hs hi => by
    have f : Fit n ("round", [(i, []), (1, [p])]) := fit2 (in0) (in1 hp)
    have h := radd_vi hJ hn (inp_ok hp) (wrok_nil f (sh_mk (by kernel_rfl) (show 2 ≤ 3 by decide) (sh2 (show 0 ≤ 3 by decide) (show 1 ≤ 3 by decide))))
    rw [wr_nil f] at h
    exact lv_5 (gv hp) (gv hq) (gv hs) (x_isI x_fz) (x_isI x_fz) h (lo_val (List.getElem?_eq_some_iff.mp hJ).1 _ _)
  row := fun {p q s i} hi => lr_5 (p := p) (q := q) (s := s)
  sh := fun p q s i => sh_mk (by kernel_rfl) (show 2 ≤ 3 by decide) (sh2 (show 0 ≤ 3 by decide) (show 1 ≤ 3 by decide))
  sd3 := by decide
  sides := fun e S h => by
    have t1 : mTB (mBin gEq (mVar 8) (mC (.str "f"))) e S = .ok false S := v_tb (v_bin (v_var h) v_C (by kernel_rfl))
    have t2 : mTB (mBin gIn (mVar 8) (mTup (mCons (mC (.str "+")) (mCons (mC (.str "-")) (mCons (mC (.str "+=")) (mCons (mC (.str "*")) mNil)))))) e S = .ok false S := v_tb (v_bin (v_var h) (v_tup (v_cons v_C (v_cons v_C (v_cons v_C (v_cons v_C v_nil)))) (show 4 ≤ 16777216 by decide)) (by kernel_rfl))
    exact v_ifF t1 (v_ifF t2 v_C)
  lt := fun e S h => v_tb (v_bin (v_var h) v_C (by kernel_rfl))
theorem sg_6 : Sg c "-c" (fun p q s i => ("round", [(1, [p]), (0 - i, [])])) 1 where
  val := fun {S J n u p q s i} hJ hn hp hq hs hi => by
    have f : Fit n ("round", [(1, [p]), (0 - i, [])]) := fit2 (in1 hp) (in0)
    have h := sub_vi hJ hn (inp_ok hp) (wrok_nil f (sh_mk (by kernel_rfl) (show 2 ≤ 3 by decide) (sh2 (show 1 ≤ 3 by decide) (show 0 ≤ 3 by decide))))
    rw [wr_nil f] at h
    exact lv_6 (gv hp) (gv hq) (gv hs) (x_isI x_fz) (x_isI x_fz) h (lo_val (List.getElem?_eq_some_iff.mp hJ).1 _ _)
  row := fun {p q s i} hi => lr_6 (p := p) (q := q) (s := s)
  sh := fun p q s i => sh_mk (by kernel_rfl) (show 2 ≤ 3 by decide) (sh2 (show 1 ≤ 3 by decide) (show 0 ≤ 3 by decide))
  sd3 := by decide
  sides := fun e S h => by
    have t1 : mTB (mBin gEq (mVar 8) (mC (.str "f"))) e S = .ok false S := v_tb (v_bin (v_var h) v_C (by kernel_rfl))
    have t2 : mTB (mBin gIn (mVar 8) (mTup (mCons (mC (.str "+")) (mCons (mC (.str "-")) (mCons (mC (.str "+=")) (mCons (mC (.str "*")) mNil)))))) e S = .ok false S := v_tb (v_bin (v_var h) (v_tup (v_cons v_C (v_cons v_C (v_cons v_C (v_cons v_C v_nil)))) (show 4 ≤ 16777216 by decide)) (by kernel_rfl))
    exact v_ifF t1 (v_ifF t2 v_C)
  lt := fun e S h => v_tb (v_bin (v_var h) v_C (by kernel_rfl))
theorem sg_7 : Sg c "c-" (fun p q s i => ("round", [(i, []), (-1, [p])])) 1 where
  val := fun {S J n u p q s i} hJ hn hp hq hs hi => by
    have f : Fit n ("round", [(i, []), (-1, [p])]) := fit2 (in0) (in1 hp)
    have h := rsub_vi hJ hn (inp_ok hp) (wrok_nil f (sh_mk (by kernel_rfl) (show 2 ≤ 3 by decide) (sh2 (show 0 ≤ 3 by decide) (show 1 ≤ 3 by decide))))
    rw [wr_nil f] at h
    exact lv_7 (gv hp) (gv hq) (gv hs) (x_isI x_fz) (x_isI x_fz) h (lo_val (List.getElem?_eq_some_iff.mp hJ).1 _ _)
  row := fun {p q s i} hi => lr_7 (p := p) (q := q) (s := s)
  sh := fun p q s i => sh_mk (by kernel_rfl) (show 2 ≤ 3 by decide) (sh2 (show 0 ≤ 3 by decide) (show 1 ≤ 3 by decide))
  sd3 := by decide
  sides := fun e S h => by
    have t1 : mTB (mBin gEq (mVar 8) (mC (.str "f"))) e S = .ok false S := v_tb (v_bin (v_var h) v_C (by kernel_rfl))
    have t2 : mTB (mBin gIn (mVar 8) (mTup (mCons (mC (.str "+")) (mCons (mC (.str "-")) (mCons (mC (.str "+=")) (mCons (mC (.str "*")) mNil)))))) e S = .ok false S := v_tb (v_bin (v_var h) (v_tup (v_cons v_C (v_cons v_C (v_cons v_C (v_cons v_C v_nil)))) (show 4 ≤ 16777216 by decide)) (by kernel_rfl))
    exact v_ifF t1 (v_ifF t2 v_C)
  lt := fun e S h => v_tb (v_bin (v_var h) v_C (by kernel_rfl))
theorem sg_8 : Sg c "*c" (fun p q s i => ("round", [(i, [p])])) 1 where
  val := fun {S J n u p q s i} hJ hn hp hq hs hi => by
    have f : Fit n ("round", [(i, [p])]) := fit1 (in1 hp)
    have h := mul_vi hJ hn (inp_ok hp) (wrok_nil f (sh_mk (by kernel_rfl) (show 1 ≤ 3 by decide) (sh1 (show 1 ≤ 3 by decide))))
    rw [wr_nil f] at h
    exact lv_8 (gv hp) (gv hq) (gv hs) (x_isI x_fz) (x_isI x_fz) h (lo_val (List.getElem?_eq_some_iff.mp hJ).1 _ _)
  row := fun {p q s i} hi => lr_8 (p := p) (q := q) (s := s)
  sh := fun p q s i => sh_mk (by kernel_rfl) (show 1 ≤ 3 by decide) (sh1 (show 1 ≤ 3 by decide))
  sd3 := by decide
  sides := fun e S h => by
    have t1 : mTB (mBin gEq (mVar 8) (mC (.str "f"))) e S = .ok false S := v_tb (v_bin (v_var h) v_C (by kernel_rfl))
    have t2 : mTB (mBin gIn (mVar 8) (mTup (mCons (mC (.str "+")) (mCons (mC (.str "-")) (mCons (mC (.str "+=")) (mCons (mC (.str "*")) mNil)))))) e S = .ok false S := v_tb (v_bin (v_var h) (v_tup (v_cons v_C (v_cons v_C (v_cons v_C (v_cons v_C v_nil)))) (show 4 ≤ 16777216 by decide)) (by kernel_rfl))
    exact v_ifF t1 (v_ifF t2 v_C)
  lt := fun e S h => v_tb (v_bin (v_var h) v_C (by kernel_rfl))
theorem sg_9 : Sg c "c*" (fun p q s i => ("round", [(i, [p])])) 1 where
  val := fun {S J n u p q s i} hJ hn hp hq hs hi => by
    have f : Fit n ("round", [(i, [p])]) := fit1 (in1 hp)
    have h := rmul_vi hJ hn (inp_ok hp) (wrok_nil f (sh_mk (by kernel_rfl) (show 1 ≤ 3 by decide) (sh1 (show 1 ≤ 3 by decide))))
    rw [wr_nil f] at h
    exact lv_9 (gv hp) (gv hq) (gv hs) (x_isI x_fz) (x_isI x_fz) h (lo_val (List.getElem?_eq_some_iff.mp hJ).1 _ _)
  row := fun {p q s i} hi => lr_9 (p := p) (q := q) (s := s)
  sh := fun p q s i => sh_mk (by kernel_rfl) (show 1 ≤ 3 by decide) (sh1 (show 1 ≤ 3 by decide))
  sd3 := by decide
  sides := fun e S h => by
    have t1 : mTB (mBin gEq (mVar 8) (mC (.str "f"))) e S = .ok false S := v_tb (v_bin (v_var h) v_C (by kernel_rfl))
    have t2 : mTB (mBin gIn (mVar 8) (mTup (mCons (mC (.str "+")) (mCons (mC (.str "-")) (mCons (mC (.str "+=")) (mCons (mC (.str "*")) mNil)))))) e S = .ok false S := v_tb (v_bin (v_var h) (v_tup (v_cons v_C (v_cons v_C (v_cons v_C (v_cons v_C v_nil)))) (show 4 ≤ 16777216 by decide)) (by kernel_rfl))
    exact v_ifF t1 (v_ifF t2 v_C)
  lt := fun e S h => v_tb (v_bin (v_var h) v_C (by kernel_rfl))
theorem sg_10 : Sg c "n" (fun p q s i => ("exact", [(-1, [p])])) 1 where
  val := fun {S J n u p q s i} hJ hn hp hq hs hi => by
    have f : Fit n ("exact", [(-1, [p])]) := fit1 (in1 hp)
    have h := neg_v hJ hn (inp_ok hp) (wrok_nil f (sh_mk (by kernel_rfl) (show 1 ≤ 3 by decide) (sh1 (show 1 ≤ 3 by decide))))
    rw [wr_nil f] at h
    exact lv_10 (gv hp) (gv hq) (gv hs) (x_isI x_fz) (x_isI x_fz) h (lo_val (List.getElem?_eq_some_iff.mp hJ).1 _ _)
  row := fun {p q s i} hi => lr_10 (p := p) (q := q) (s := s)
  sh := fun p q s i => sh_mk (by kernel_rfl) (show 1 ≤ 3 by decide) (sh1 (show 1 ≤ 3 by decide))
  sd3 := by decide
  sides := fun e S h => by
    have t1 : mTB (mBin gEq (mVar 8) (mC (.str "f"))) e S = .ok false S := v_tb (v_bin (v_var h) v_C (by kernel_rfl))
    have t2 : mTB (mBin gIn (mVar 8) (mTup (mCons (mC (.str "+")) (mCons (mC (.str "-")) (mCons (mC (.str "+=")) (mCons (mC (.str "*")) mNil)))))) e S = .ok false S := v_tb (v_bin (v_var h) (v_tup (v_cons v_C (v_cons v_C (v_cons v_C (v_cons v_C v_nil)))) (show 4 ≤ 16777216 by decide)) (by kernel_rfl))
    exact v_ifF t1 (v_ifF t2 v_C)
  lt := fun e S h => v_tb (v_bin (v_var h) v_C (by kernel_rfl))
theorem sg_11 : Sg c "<" (fun p q s i => ("exact", [(1 * 2 ^ i.toNat, [p])])) 1 where
  val := fun {S J n u p q s i} hJ hn hp hq hs hi => by
    have f : Fit n ("exact", [(1 * 2 ^ i.toNat, [p])]) := fit1 (in1 hp)
    have h := shl_v hJ hn (inp_ok hp) (fun T => x_shl (hi rfl)) (wrok_nil f (sh_mk (by kernel_rfl) (show 1 ≤ 3 by decide) (sh1 (show 1 ≤ 3 by decide))))
    rw [wr_nil f] at h
    exact lv_11 (gv hp) (gv hq) (gv hs) (x_isI x_fz) (x_isI x_fz) h (lo_val (List.getElem?_eq_some_iff.mp hJ).1 _ _)
  row := fun {p q s i} hi => lr_11 (p := p) (q := q) (s := s) (hi rfl)
  sh := fun p q s i => sh_mk (by kernel_rfl) (show 1 ≤ 3 by decide) (sh1 (show 1 ≤ 3 by decide))
  sd3 := by decide
  sides := fun e S h => by
    have t1 : mTB (mBin gEq (mVar 8) (mC (.str "f"))) e S = .ok false S := v_tb (v_bin (v_var h) v_C (by kernel_rfl))
    have t2 : mTB (mBin gIn (mVar 8) (mTup (mCons (mC (.str "+")) (mCons (mC (.str "-")) (mCons (mC (.str "+=")) (mCons (mC (.str "*")) mNil)))))) e S = .ok false S := v_tb (v_bin (v_var h) (v_tup (v_cons v_C (v_cons v_C (v_cons v_C (v_cons v_C v_nil)))) (show 4 ≤ 16777216 by decide)) (by kernel_rfl))
    exact v_ifF t1 (v_ifF t2 v_C)
  lt := fun e S h => v_tb (v_bin (v_var h) v_C (by kernel_rfl))
theorem sg_12 : Sg c "+=" (fun p q s i => ("round", [(1, [p]), (1, [q])])) 2 where
  val := fun {S J n u p q s i} hJ hn hp hq hs hi => by
    have f : Fit n ("round", [(1, [p]), (1, [q])]) := fit2 (in1 hp) (in1 hq)
    have h := add_vv hJ hn (inp_ok hp) (inp_ok hq) (tog2 hp hq) (wrok_nil f (sh_mk (by kernel_rfl) (show 2 ≤ 3 by decide) (sh2 (show 1 ≤ 3 by decide) (show 1 ≤ 3 by decide))))
    rw [wr_nil f] at h
    exact lv_12 (gv hp) (gv hq) (gv hs) (x_isI x_fz) (x_isI x_fz) h (lo_val (List.getElem?_eq_some_iff.mp hJ).1 _ _)
  row := fun {p q s i} hi => lr_12 (p := p) (q := q) (s := s)
  sh := fun p q s i => sh_mk (by kernel_rfl) (show 2 ≤ 3 by decide) (sh2 (show 1 ≤ 3 by decide) (show 1 ≤ 3 by decide))
  sd3 := by decide
  sides := fun e S h => by
    have t1 : mTB (mBin gEq (mVar 8) (mC (.str "f"))) e S = .ok false S := v_tb (v_bin (v_var h) v_C (by kernel_rfl))
    have t2 : mTB (mBin gIn (mVar 8) (mTup (mCons (mC (.str "+")) (mCons (mC (.str "-")) (mCons (mC (.str "+=")) (mCons (mC (.str "*")) mNil)))))) e S = .ok true S := v_tb (v_bin (v_var h) (v_tup (v_cons v_C (v_cons v_C (v_cons v_C (v_cons v_C v_nil)))) (show 4 ≤ 16777216 by decide)) (by kernel_rfl))
    exact v_ifF t1 (v_ifT t2 v_C)
  lt := fun e S h => v_tb (v_bin (v_var h) v_C (by kernel_rfl))
end K70

namespace K71
open PySem PySem.Spec L2 PyProof.Rows Mo
structure Cs where
  RoundError : Addr
  TooLong : Addr
  Value : Addr
  Maker : Addr
  Traits : Addr
def b__law_deck (c : Cs) : MS :=
  sRet (mNew (mCons (mCB gList (mCons (mSl (mVar 0) moN (moS (mC (.int 63)))) mNil)) (mCons (mC (.int 0)) (mCons (mC (.int 0)) (mCons (mC (.int 0)) mNil)))))
abbrev m__law_deck (c : Cs) : List D → List O → R D := nbF (fnM 1 1 (b__law_deck c))
def b_Maker___init__ (c : Cs) : MS :=
  sSeq (sFldS (c.Maker) "under" (mVar 1) (mVar 0)) (
  sFldS (c.Maker) "inputs" (mVar 2) (mVar 0))
abbrev m_Maker___init__ (c : Cs) : List D → List O → R D := nbF (fnM 3 3 (b_Maker___init__ c))
def b__law_draw (c : Cs) : MS :=
  sSeq (sSet (mBin gAdd (mBin gIx (mVar 0) (mC (.int 3))) (mC (.int 1))) (mVar 0) (mC (.int 3))) (
  sSeq (sIf (mTB (mBin gGt (mBin gIx (mVar 0) (mC (.int 2))) (mC (.int 0)))) (
  sSeq (sAsg 2 (mBin gMod (mCB gInt (mCons (mBin gIx (mVar 0) (mC (.int 2))) mNil)) (mVar 1))) (
  sSeq (sSet (mBin gDiv (mBin gIx (mVar 0) (mC (.int 2))) (mVar 1)) (mVar 0) (mC (.int 2))) (
  sRet (mVar 2)))) (
  sNil)) (
  sSeq (sAsg 3 (mC (.int 31))) (
  sSeq (sIf (mTB (mBin gNe (mBin gIx (mVar 0) (mC (.int 0))) (mLst mNil))) (
  sAsg 3 (mBin gIx (mBin gIx (mVar 0) (mC (.int 0))) (mBin gMod (mCB gInt (mCons (mBin gIx (mVar 0) (mC (.int 1))) mNil)) (mCB gLen (mCons (mBin gIx (mVar 0) (mC (.int 0))) mNil))))) (
  sNil)) (
  sSeq (sSet (mBin gAdd (mBin gIx (mVar 0) (mC (.int 1))) (mC (.int 1))) (mVar 0) (mC (.int 1))) (
  sSeq (sIf (mAnd (mTB (mBin gGe (mCB gAbs (mCons (mVar 3) mNil)) (mBin gPow (mC (.int 10)) (mC (.int 18))))) (mTB (mBin gLe (mBin gIx (mVar 0) (mC (.int 1))) (mCB gLen (mCons (mBin gIx (mVar 0) (mC (.int 0))) mNil))))) (
  sSeq (sSet (mBin gDiv (mCB gAbs (mCons (mVar 3) mNil)) (mVar 1)) (mVar 0) (mC (.int 2))) (
  sRet (mBin gMod (mCB gInt (mCons (mCB gAbs (mCons (mVar 3) mNil)) mNil)) (mVar 1)))) (
  sNil)) (
  sSeq (sAsg 4 (mBin gMod (mBin gPow (mCB gInt (mCons (mBin gAdd (mBin gMod (mCB gInt (mCons (mVar 3) mNil)) (mC (.int 2147483629))) (mBin gMul (mC (.int 104723)) (mBin gIx (mVar 0) (mC (.int 3))))) mNil)) (mC (.int 5))) (mC (.int 2147483647)))) (
  sSeq (sAsg 4 (mBin gMod (mBin gPow (mCB gInt (mCons (mBin gAdd (mBin gMul (mVar 4) (mBin gAdd (mBin gMul (mC (.int 2)) (mBin gIx (mVar 0) (mC (.int 3)))) (mC (.int 3)))) (mC (.int 7907))) mNil)) (mC (.int 3))) (mC (.int 2147483587)))) (
  sRet (mBin gMod (mBin gDiv (mVar 4) (mC (.int 64))) (mVar 1))))))))))
abbrev m__law_draw (c : Cs) : List D → List O → R D := nbF (fnM 2 5 (b__law_draw c))
def b__law_one (c : Cs) : MS :=
  sRet (mBin gIx (mVar 1) (mCall (m__law_draw c) (mCons (mVar 0) (mCons (mCB gLen (mCons (mVar 1) mNil)) mNil))))
abbrev m__law_one (c : Cs) : List D → List O → R D := nbF (fnM 2 2 (b__law_one c))
def b__law_nodes (c : Cs) : MS :=
  sSeq (sPar 4 5 (mCons (mNew mNil) (mCons (mC (.int 0)) mNil))) (
  sSeq (sFor (miRange rangeA2 (mCons (mVar 1) (mCons (mBin gAdd (mVar 1) (mVar 2)) mNil))) (tgN 6) (
  sSeq (sAsg 7 (mLst (mCons (mC (.str "+")) (mCons (mC (.str "-")) (mCons (mC (.str "+c")) (mCons (mC (.str "c+")) (mCons (mC (.str "-c")) (mCons (mC (.str "c-")) (mCons (mC (.str "n")) (mCons (mC (.str "<")) (mCons (mC (.str "+=")) mNil))))))))))) (
  sSeq (sAsg 7 (mBin gAdd (mVar 7) (mBin gMul (mLst (mCons (mC (.str "*")) (mCons (mC (.str "*c")) (mCons (mC (.str "c*")) (mCons (mC (.str "f")) mNil))))) (mCB gInt (mCons (mBin gLt (mVar 5) (mC (.int 3))) mNil))))) (
  sSeq (sAsg 8 (mCall (m__law_one c) (mCons (mVar 0) (mCons (mVar 7) mNil)))) (
  sSeq (sAsg 5 (mBin gAdd (mVar 5) (mCB gInt (mCons (mBin gIn (mVar 8) (mTup (mCons (mC (.str "*")) (mCons (mC (.str "f")) mNil)))) mNil)))) (
  sSeq (sAsg 9 (mLst (mCons (mCall (m__law_one c) (mCons (mVar 0) (mCons (mLst (mCons (mBin gSub (mVar 6) (mC (.int 1))) (mCons (mCall (m__law_draw c) (mCons (mVar 0) (mCons (mVar 6) mNil))) mNil))) mNil))) (mCons (mCall (m__law_draw c) (mCons (mVar 0) (mCons (mVar 6) mNil))) (mCons (mCall (m__law_draw c) (mCons (mVar 0) (mCons (mVar 6) mNil))) mNil))))) (
  sSeq (sAsg 10 (mCall (m__law_one c) (mCons (mVar 0) (mCons (mBin gAdd (mLst (mCons (mC (.int 0)) (mCons (mC (.int 1)) (mCons (mUn gNeg (mC (.int 1))) (mCons (mBin gSub (mCall (m__law_draw c) (mCons (mVar 0) (mCons (mC (.int 19)) mNil))) (mC (.int 9))) mNil))))) (mBin gMul (mLst (mCons (mBin gSub (mBin gMul (mCall (m__law_draw c) (mCons (mVar 0) (mCons (mBin gPow (mC (.int 10)) (mC (.int 6))) mNil))) (mC (.int 999))) (mBin gPow (mC (.int 10)) (mC (.int 8)))) mNil)) (mVar 3))) mNil)))) (
  sSeq (sIf (mTB (mBin gEq (mVar 8) (mC (.str "<")))) (
  sAsg 10 (mCall (m__law_draw c) (mCons (mVar 0) (mCons (mBin gAdd (mC (.int 3)) (mBin gMul (mC (.int 18)) (mVar 3))) mNil)))) (
  sNil)) (
  sExpr (mMt isL gAppend (mVar 4) (mCons (mTup (mCons (mVar 8) (mCons (mVar 9) (mCons (mVar 10) mNil)))) mNil))))))))))) (
  sRet (mVar 4)))
abbrev m__law_nodes (c : Cs) : List D → List O → R D := nbF (fnM 4 11 (b__law_nodes c))
def b_Traits___init__ (c : Cs) : MS :=
  sSeq (sFor (miSeq (mVar 1)) (tgN 2) (
  sIf (mTB (mBin gNin (mVar 2) (mC (.tup ((["odd", "two", "still", "merge"] : List Str).map .str))))) (
  sBad) (
  sNil))) (
  sSeq (sIf (mAnd (mTB (mBin gIn (mC (.str "merge")) (mVar 1))) (mTB (mBin gIn (mC (.str "two")) (mVar 1)))) (
  sBad) (
  sNil)) (
  sFldS (c.Traits) "held" (mCB gTuple (mCons (mComp (miSeq (mC (.tup ((["odd", "two", "still", "merge"] : List Str).map .str)))) (tgN 2) (mOr (mTB (mBin gIn (mVar 2) (mVar 1))) (mAnd (mTB (mBin gEq (mVar 2) (mC (.str "still")))) (mTB (mBin gIn (mC (.str "merge")) (mVar 1))))) (mVar 2) [2]) mNil)) (mVar 0)))
abbrev m_Traits___init__ (c : Cs) : List D → List O → R D := nbF (fnS 1 3 (b_Traits___init__ c))
def b__law_traits (c : Cs) : MS :=
  sSeq (sAsg 1 (mLst (mCons (mTup mNil) (mCons (mTup (mCons (mC (.str "odd")) mNil)) (mCons (mTup (mCons (mC (.str "two")) mNil)) (mCons (mTup (mCons (mC (.str "still")) mNil)) (mCons (mTup (mCons (mC (.str "odd")) (mCons (mC (.str "two")) mNil))) (mCons (mTup (mCons (mC (.str "odd")) (mCons (mC (.str "still")) mNil))) (mCons (mTup (mCons (mC (.str "two")) (mCons (mC (.str "still")) mNil))) (mCons (mTup (mCons (mC (.str "merge")) mNil)) mNil)))))))))) (
  sSeq (sAsg 1 (mCall (m__law_one c) (mCons (mVar 0) (mCons (mBin gAdd (mVar 1) (mLst (mCons (mTup (mCons (mC (.str "odd")) (mCons (mC (.str "two")) (mCons (mC (.str "still")) mNil)))) (mCons (mTup (mCons (mC (.str "merge")) (mCons (mC (.str "odd")) mNil))) mNil)))) mNil)))) (
  sSeq (sIf (mTB (mBin gEq (mCB gLen (mCons (mVar 1) mNil)) (mC (.int 0)))) (
  sRet (mMakeF (c.Traits) (m_Traits___init__ c) mNil)) (
  sNil)) (
  sSeq (sIf (mTB (mBin gEq (mCB gLen (mCons (mVar 1) mNil)) (mC (.int 1)))) (
  sRet (mMakeF (c.Traits) (m_Traits___init__ c) (mCons (mBin gIx (mVar 1) (mC (.int 0))) mNil))) (
  sNil)) (
  sRet (mIf (mTB (mBin gEq (mCB gLen (mCons (mVar 1) mNil)) (mC (.int 2)))) (mMakeF (c.Traits) (m_Traits___init__ c) (mCons (mBin gIx (mVar 1) (mC (.int 0))) (mCons (mBin gIx (mVar 1) (mC (.int 1))) mNil))) (mMakeF (c.Traits) (m_Traits___init__ c) (mCons (mBin gIx (mVar 1) (mC (.int 0))) (mCons (mBin gIx (mVar 1) (mC (.int 1))) (mCons (mBin gIx (mVar 1) (mC (.int 2))) mNil)))))))))
abbrev m__law_traits (c : Cs) : List D → List O → R D := nbF (fnM 1 2 (b__law_traits c))
def b_Value___init__ (c : Cs) : MS :=
  sSeq (sFldS (c.Value) "maker" (mVar 1) (mVar 0)) (
  sSeq (sFldS (c.Value) "rows" (mVar 2) (mVar 0)) (
  sFldS (c.Value) "place" (mVar 3) (mVar 0)))
abbrev m_Value___init__ (c : Cs) : List D → List O → R D := nbF (fnM 4 4 (b_Value___init__ c))
def b_Maker___getitem__ (c : Cs) : MS :=
  sRet (mMakeF (c.Value) (m_Value___init__ c) (mCons (mVar 0) (mCons (mTup mNil) (mCons (mVar 1) mNil))))
abbrev m_Maker___getitem__ (c : Cs) : List D → List O → R D := nbF (fnM 2 2 (b_Maker___getitem__ c))
def b__law_put (c : Cs) : MS :=
  sSeq (sUnp (tgT 2 (tgsC (tgN 3) (tgsC (tgN 4) tgsN))) (mTup (mCons (mCBN nList (mCons (mVar 1) mNil)) (mCons (mListRN rangeA1 (mCons (mVar 0) mNil)) mNil)))) (
  sSeq (sFor (miSeq (mVar 2)) (tgT 2 (tgsC (tgN 5) (tgsC (tgN 6) tgsN))) (
  sSeq (sAsg 7 (mTup (mCons (mVar 5) (mCons (mCB gTuple (mCons (mComp (miSeq (mVar 6)) (tgT 2 (tgsC (tgN 8) (tgsC (tgN 9) tgsN))) mYes (mTup (mCons (mVar 8) (mCons (mCB gTuple (mCons (mComp (miSeq (mVar 9)) (tgN 10) mYes (mBin gIx (mVar 4) (mVar 10)) [10]) mNil)) mNil))) [8, 9]) mNil)) mNil)))) (
  sSeq (sIf (mTB (mBin gNinP (mVar 7) (mVar 3))) (
  sExpr (mMt isL gAppend (mVar 3) (mCons (mVar 7) mNil))) (
  sNil)) (
  sExpr (mMt isL gAppend (mVar 4) (mCons (mBin gAdd (mVar 0) (mMt isL gIndexP (mVar 3) (mCons (mVar 7) mNil))) mNil)))))) (
  sRet (mTup (mCons (mCB gTuple (mCons (mVar 3) mNil)) (mCons (mVar 4) mNil)))))
abbrev m__law_put (c : Cs) : List D → List O → R D := nbF (fnM 3 11 (b__law_put c))
def b__law_together (c : Cs) : MS :=
  sSeq (sUnp (tgT 2 (tgsC (tgN 2) (tgsC (tgN 3) tgsN))) (mTup (mCons (mTup mNil) (mCons (mTup mNil) mNil)))) (
  sSeq (sFor (miSeq (mVar 1)) (tgT 2 (tgsC (tgN 4) (tgsC (tgN 5) tgsN))) (
  sSeq (sUnp (tgT 2 (tgsC (tgN 2) (tgsC (tgN 6) tgsN))) (mCall (m__law_put c) (mCons (mVar 0) (mCons (mVar 2) (mCons (mVar 4) mNil))))) (
  sAsg 3 (mBin gAdd (mVar 3) (mTup (mCons (mBin gIx (mVar 6) (mVar 5)) mNil)))))) (
  sRet (mTup (mCons (mVar 2) (mCons (mVar 3) mNil)))))
abbrev m__law_together (c : Cs) : List D → List O → R D := nbF (fnM 2 7 (b__law_together c))
def b_put_rows (c : Cs) : MS :=
  sSeq (sAsg 3 (mCBN nList (mCons (mVar 1) mNil))) (
  sSeq (sAsg 4 (mListRN rangeA1 (mCons (mVar 0) mNil))) (
  sSeq (sFor (miSeq (mVar 2)) (tgT 2 (tgsC (tgN 5) (tgsC (tgN 6) tgsN))) (
  sSeq (sAsg 7 (mTup (mCons (mVar 5) (mCons (mCB gTuple (mCons (mComp (miSeq (mVar 6)) (tgT 2 (tgsC (tgN 8) (tgsC (tgN 9) tgsN))) mYes (mTup (mCons (mVar 8) (mCons (mCB gTuple (mCons (mComp (miSeq (mVar 9)) (tgN 10) mYes (mBin gIx (mVar 4) (mVar 10)) [10]) mNil)) mNil))) [8, 9]) mNil)) mNil)))) (
  sSeq (sIf (mTB (mBin gNinP (mVar 7) (mVar 3))) (
  sExpr (mMt isL gAppend (mVar 3) (mCons (mVar 7) mNil))) (
  sNil)) (
  sExpr (mMt isL gAppend (mVar 4) (mCons (mBin gAdd (mVar 0) (mMt isL gIndexP (mVar 3) (mCons (mVar 7) mNil))) mNil)))))) (
  sRet (mTup (mCons (mCB gTuple (mCons (mVar 3) mNil)) (mCons (mVar 4) mNil))))))
abbrev m_put_rows (c : Cs) : List D → List O → R D := nbF (fnM 3 11 (b_put_rows c))
def b_put_together (c : Cs) : MS :=
  sSeq (sAsg 1 (mFld (c.Value) "maker" (mBin gIx (mVar 0) (mC (.int 0))))) (
  sSeq (sAsg 2 (mTup mNil)) (
  sSeq (sAsg 3 (mNew mNil)) (
  sSeq (sFor (miSeq (mVar 0)) (tgN 4) (
  sSeq (sIf (mTB (mBin (gNeI (c.Maker) gNe) (mFld (c.Value) "maker" (mVar 4)) (mVar 1))) (
  sBad) (
  sNil)) (
  sSeq (sUnp (tgT 2 (tgsC (tgN 2) (tgsC (tgN 5) tgsN))) (mCall (m_put_rows c) (mCons (mFld (c.Maker) "inputs" (mVar 1)) (mCons (mVar 2) (mCons (mFld (c.Value) "rows" (mVar 4)) mNil))))) (
  sExpr (mMt isL gAppend (mVar 3) (mCons (mBin gIx (mVar 5) (mFld (c.Value) "place" (mVar 4))) mNil)))))) (
  sRet (mTup (mCons (mVar 2) (mCons (mCB gTuple (mCons (mVar 3) mNil)) mNil)))))))
abbrev m_put_together (c : Cs) : List D → List O → R D := nbF (fnM 1 6 (b_put_together c))
def b_Maker_joined (c : Cs) : MS :=
  sSeq (sIf (mTB (mBin (gNeI (c.Maker) gNe) (mFld (c.Value) "maker" (mBin gIx (mVar 1) (mC (.int 0)))) (mVar 0))) (
  sBad) (
  sNil)) (
  sSeq (sUnp (tgT 2 (tgsC (tgN 2) (tgsC (tgN 3) tgsN))) (mCall (m_put_together c) (mCons (mVar 1) mNil))) (
  sRet (mTup (mCons (mFld (c.Maker) "inputs" (mVar 0)) (mCons (mVar 2) (mCons (mVar 3) mNil))))))
abbrev m_Maker_joined (c : Cs) : List D → List O → R D := nbF (fnS 1 4 (b_Maker_joined c))
def b__law_joined (c : Cs) : MS :=
  sSeq (sIf (mTB (mBin gEq (mCB gLen (mCons (mVar 1) mNil)) (mC (.int 1)))) (
  sRet (mMeth (c.Maker) "joined" (m_Maker_joined c) (mVar 0) (mCons (mBin gIx (mVar 1) (mC (.int 0))) mNil))) (
  sNil)) (
  sSeq (sIf (mTB (mBin gEq (mCB gLen (mCons (mVar 1) mNil)) (mC (.int 2)))) (
  sRet (mMeth (c.Maker) "joined" (m_Maker_joined c) (mVar 0) (mCons (mBin gIx (mVar 1) (mC (.int 0))) (mCons (mBin gIx (mVar 1) (mC (.int 1))) mNil)))) (
  sNil)) (
  sSeq (sIf (mTB (mBin gEq (mCB gLen (mCons (mVar 1) mNil)) (mC (.int 3)))) (
  sRet (mMeth (c.Maker) "joined" (m_Maker_joined c) (mVar 0) (mCons (mBin gIx (mVar 1) (mC (.int 0))) (mCons (mBin gIx (mVar 1) (mC (.int 1))) (mCons (mBin gIx (mVar 1) (mC (.int 2))) mNil))))) (
  sNil)) (
  sRet (mMeth (c.Maker) "joined" (m_Maker_joined c) (mVar 0) (mCons (mBin gIx (mVar 1) (mC (.int 0))) (mCons (mBin gIx (mVar 1) (mC (.int 1))) (mCons (mBin gIx (mVar 1) (mC (.int 2))) (mCons (mBin gIx (mVar 1) (mC (.int 3))) mNil))))))))
abbrev m__law_joined (c : Cs) : List D → List O → R D := nbF (fnM 2 2 (b__law_joined c))
def b__law_same (c : Cs) : Nat → MS
  | 0 => fun _ _ => .bad
  | d + 1 => sSeq (sIf (mTB (mCB gIsi (mCons (mVar 1) (mCons (mC (.ty "tuple")) mNil)))) (
  sSeq (sIf (mOr (mNot (mTB (mCB gIsi (mCons (mVar 0) (mCons (mC (.ty "tuple")) mNil))))) (mTB (mBin gNe (mCB gLen (mCons (mVar 0) mNil)) (mCB gLen (mCons (mVar 1) mNil))))) (
  sRet (mC (.bl false))) (
  sNil)) (
  sRet (mBin gEq (mComp (miZip (mCons (mVar 0) (mCons (mVar 1) mNil))) (tgT 2 (tgsC (tgN 2) (tgsC (tgN 3) tgsN))) (mNot (mTB (mCallP (nbF (fnM 2 4 (b__law_same c d))) (mCons (mVar 2) (mCons (mVar 3) mNil))))) (mC (.int 1)) [2, 3]) (mLst mNil)))) (
  sNil)) (
  sSeq (sIf (mTB (mCB gIsi (mCons (mVar 1) (mCons (mC (.ty "str")) mNil)))) (
  sRet (mAndV (mCB gIsi (mCons (mVar 0) (mCons (mC (.ty "str")) mNil))) (mBin gEq (mVar 0) (mVar 1)))) (
  sNil)) (
  sRet (mAndV (mCB gIsi (mCons (mVar 0) (mCons (mC (.ty "int")) mNil))) (mAndV (mBin gEq (mCB gIsi (mCons (mVar 0) (mCons (mC (.ty "bool")) mNil))) (mCB gIsi (mCons (mVar 1) (mCons (mC (.ty "bool")) mNil)))) (mBin gEq (mVar 0) (mVar 1))))))
abbrev m__law_same (c : Cs) (d : Nat) : List D → List O → R D := nbF (fnM 2 4 (b__law_same c d))
def b__law_joined_right (c : Cs) : MS :=
  sSeq (sFor (miRange rangeA1 (mCons (mC (.int 3)) mNil)) (tgN 5) (
  sSeq (sAsg 6 (mComp (miRange rangeA1 (mCons (mBin gAdd (mC (.int 1)) (mCall (m__law_draw c) (mCons (mVar 0) (mCons (mC (.int 4)) mNil)))) mNil)) (tgN 7) mYes (mCall (m__law_draw c) (mCons (mVar 0) (mCons (mCB gLen (mCons (mVar 3) mNil)) mNil))) [7])) (
  sSeq (sUnp (tgT 2 (tgsC (tgN 8) (tgsC (tgN 9) tgsN))) (mCall (m__law_together c) (mCons (mVar 2) (mCons (mComp (miSeq (mVar 6)) (tgN 7) mYes (mBin gIx (mVar 4) (mVar 7)) [7]) mNil)))) (
  sFor (miRange rangeA1 (mCons (mC (.int 2)) mNil)) (tgN 10) (
  sSeq (sAsg 11 (mCall (m__law_joined c) (mCons (mVar 1) (mCons (mComp (miSeq (mVar 6)) (tgN 7) mYes (mBin gIx (mVar 3) (mVar 7)) [7]) mNil)))) (
  sIf (mNot (mTB (mCallP (m__law_same c 8) (mCons (mVar 11) (mCons (mTup (mCons (mVar 2) (mCons (mVar 8) (mCons (mVar 9) mNil)))) mNil))))) (
  sRet (mC (.bl false))) (
  sNil))))))) (
  sRet (mC (.bl true)))
abbrev m__law_joined_right (c : Cs) : List D → List O → R D := nbF (fnM 5 12 (b__law_joined_right c))
def b__law_row (c : Cs) : MS :=
  sSeq (sIf (mTB (mBin gIn (mVar 0) (mTup (mCons (mC (.str "+")) (mCons (mC (.str "+=")) (mCons (mC (.str "-")) mNil)))))) (
  sRet (mTup (mCons (mC (.str "round")) (mCons (mTup (mCons (mTup (mCons (mC (.int 1)) (mCons (mSl (mVar 1) moN (moS (mC (.int 1)))) mNil))) (mCons (mTup (mCons (mIf (mTB (mBin gEq (mVar 0) (mC (.str "-")))) (mUn gNeg (mC (.int 1))) (mC (.int 1))) (mCons (mSl (mVar 1) (moS (mC (.int 1))) moN) mNil))) mNil))) mNil)))) (
  sNil)) (
  sSeq (sIf (mTB (mBin gIn (mVar 0) (mTup (mCons (mC (.str "+c")) (mCons (mC (.str "-c")) mNil))))) (
  sRet (mTup (mCons (mC (.str "round")) (mCons (mTup (mCons (mTup (mCons (mC (.int 1)) (mCons (mVar 1) mNil))) (mCons (mTup (mCons (mIf (mTB (mBin gEq (mVar 0) (mC (.str "+c")))) (mVar 2) (mBin gSub (mC (.int 0)) (mVar 2))) (mCons (mTup mNil) mNil))) mNil))) mNil)))) (
  sNil)) (
  sSeq (sIf (mTB (mBin gIn (mVar 0) (mTup (mCons (mC (.str "c+")) (mCons (mC (.str "c-")) mNil))))) (
  sRet (mTup (mCons (mC (.str "round")) (mCons (mTup (mCons (mTup (mCons (mVar 2) (mCons (mTup mNil) mNil))) (mCons (mTup (mCons (mIf (mTB (mBin gEq (mVar 0) (mC (.str "c+")))) (mC (.int 1)) (mUn gNeg (mC (.int 1)))) (mCons (mVar 1) mNil))) mNil))) mNil)))) (
  sNil)) (
  sSeq (sIf (mTB (mBin gIn (mVar 0) (mTup (mCons (mC (.str "*c")) (mCons (mC (.str "c*")) mNil))))) (
  sRet (mTup (mCons (mC (.str "round")) (mCons (mTup (mCons (mTup (mCons (mVar 2) (mCons (mVar 1) mNil))) mNil)) mNil)))) (
  sNil)) (
  sSeq (sIf (mTB (mBin gIn (mVar 0) (mTup (mCons (mC (.str "n")) (mCons (mC (.str "<")) mNil))))) (
  sRet (mTup (mCons (mC (.str "exact")) (mCons (mTup (mCons (mTup (mCons (mIf (mTB (mBin gEq (mVar 0) (mC (.str "n")))) (mUn gNeg (mC (.int 1))) (mBin gShl (mC (.int 1)) (mVar 2))) (mCons (mVar 1) mNil))) mNil)) mNil)))) (
  sNil)) (
  sRet (mIf (mTB (mBin gEq (mVar 0) (mC (.str "*")))) (mTup (mCons (mC (.str "round")) (mCons (mTup (mCons (mTup (mCons (mC (.int 1)) (mCons (mVar 1) mNil))) mNil)) mNil))) (mTup (mCons (mC (.str "round")) (mCons (mTup (mCons (mTup (mCons (mC (.int 1)) (mCons (mSl (mVar 1) moN (moS (mC (.int 2)))) mNil))) (mCons (mTup (mCons (mC (.int 1)) (mCons (mSl (mVar 1) (moS (mC (.int 2))) moN) mNil))) mNil))) mNil)))))))))
abbrev m__law_row (c : Cs) : List D → List O → R D := nbF (fnM 3 3 (b__law_row c))
def b__law_model (c : Cs) : MS :=
  sSeq (sUnp (tgT 3 (tgsC (tgN 3) (tgsC (tgN 4) (tgsC (tgN 5) tgsN)))) (mVar 2)) (
  sSeq (sAsg 6 (mIf (mTB (mBin gEq (mVar 3) (mC (.str "f")))) (mC (.int 3)) (mIf (mTB (mBin gIn (mVar 3) (mTup (mCons (mC (.str "+")) (mCons (mC (.str "-")) (mCons (mC (.str "+=")) (mCons (mC (.str "*")) mNil))))))) (mC (.int 2)) (mC (.int 1))))) (
  sSeq (sUnp (tgT 2 (tgsC (tgN 7) (tgsC (tgN 8) tgsN))) (mCall (m__law_together c) (mCons (mVar 0) (mCons (mComp (miSeq (mSl (mVar 4) moN (moS (mVar 6)))) (tgN 9) mYes (mBin gIx (mVar 1) (mVar 9)) [9]) mNil)))) (
  sSeq (sUnp (tgT 2 (tgsC (tgN 7) (tgsC (tgN 10) tgsN))) (mCall (m__law_put c) (mCons (mVar 0) (mCons (mVar 7) (mCons (mBin gAdd (mVar 7) (mTup (mCons (mCallP (m__law_row c) (mCons (mVar 3) (mCons (mVar 8) (mCons (mVar 5) mNil)))) mNil))) mNil))))) (
  sRet (mTup (mCons (mVar 7) (mCons (mBin gIx (mVar 10) (mUn gNeg (mC (.int 1)))) mNil)))))))
abbrev m__law_model (c : Cs) : List D → List O → R D := nbF (fnM 3 11 (b__law_model c))
def b_with_row (c : Cs) : MS :=
  sSeq (sUnp (tgT 2 (tgsC (tgN 4) (tgsC (tgN 5) tgsN))) (mCall (m_put_rows c) (mCons (mFld (c.Maker) "inputs" (mVar 0)) (mCons (mVar 1) (mCons (mBin gAdd (mVar 1) (mTup (mCons (mTup (mCons (mVar 2) (mCons (mVar 3) mNil))) mNil))) mNil))))) (
  sSeq (sIf (mTB (mBin gGt (mCB gLen (mCons (mVar 4) mNil)) (mC (.int 12)))) (
  sRaise (c.TooLong)) (
  sNil)) (
  sRet (mMakeF (c.Value) (m_Value___init__ c) (mCons (mVar 0) (mCons (mVar 4) (mCons (mBin gIx (mVar 5) (mUn gNeg (mC (.int 1)))) mNil))))))
abbrev m_with_row (c : Cs) : List D → List O → R D := fnM 4 6 (b_with_row c)
def b_Value___add__ (c : Cs) : MS :=
  sSeq (sIf (mTB (mCB (gIsiC (c.Value)) (mCons (mVar 1) (mCons (mC (.adr (c.Value))) mNil)))) (
  sSeq (sUnp (tgT 2 (tgsC (tgN 2) (tgsC (tgN 3) tgsN))) (mCall (m_put_together c) (mCons (mTup (mCons (mVar 0) (mCons (mVar 1) mNil))) mNil))) (
  sRet (mCall (m_with_row c) (mCons (mFld (c.Value) "maker" (mVar 0)) (mCons (mVar 2) (mCons (mC (.str "round")) (mCons (mTup (mCons (mTup (mCons (mC (.int 1)) (mCons (mSl (mVar 3) moN (moS (mC (.int 1)))) mNil))) (mCons (mTup (mCons (mC (.int 1)) (mCons (mSl (mVar 3) (moS (mC (.int 1))) moN) mNil))) mNil))) mNil))))))) (
  sNil)) (
  sRet (mCall (m_with_row c) (mCons (mFld (c.Value) "maker" (mVar 0)) (mCons (mFld (c.Value) "rows" (mVar 0)) (mCons (mC (.str "round")) (mCons (mTup (mCons (mTup (mCons (mC (.int 1)) (mCons (mTup (mCons (mFld (c.Value) "place" (mVar 0)) mNil)) mNil))) (mCons (mTup (mCons (mVar 1) (mCons (mTup mNil) mNil))) mNil))) mNil))))))
abbrev m_Value___add__ (c : Cs) : List D → List O → R D := fnM 2 4 (b_Value___add__ c)
def b_Value___radd__ (c : Cs) : MS :=
  sRet (mCall (m_with_row c) (mCons (mFld (c.Value) "maker" (mVar 0)) (mCons (mFld (c.Value) "rows" (mVar 0)) (mCons (mC (.str "round")) (mCons (mTup (mCons (mTup (mCons (mVar 1) (mCons (mTup mNil) mNil))) (mCons (mTup (mCons (mC (.int 1)) (mCons (mTup (mCons (mFld (c.Value) "place" (mVar 0)) mNil)) mNil))) mNil))) mNil)))))
abbrev m_Value___radd__ (c : Cs) : List D → List O → R D := fnM 2 2 (b_Value___radd__ c)
def b_Value___mul__ (c : Cs) : MS :=
  sSeq (sIf (mTB (mCB (gIsiC (c.Value)) (mCons (mVar 1) (mCons (mC (.adr (c.Value))) mNil)))) (
  sSeq (sUnp (tgT 2 (tgsC (tgN 2) (tgsC (tgN 3) tgsN))) (mCall (m_put_together c) (mCons (mTup (mCons (mVar 0) (mCons (mVar 1) mNil))) mNil))) (
  sRet (mCall (m_with_row c) (mCons (mFld (c.Value) "maker" (mVar 0)) (mCons (mVar 2) (mCons (mC (.str "round")) (mCons (mTup (mCons (mTup (mCons (mC (.int 1)) (mCons (mVar 3) mNil))) mNil)) mNil))))))) (
  sNil)) (
  sRet (mCall (m_with_row c) (mCons (mFld (c.Value) "maker" (mVar 0)) (mCons (mFld (c.Value) "rows" (mVar 0)) (mCons (mC (.str "round")) (mCons (mTup (mCons (mTup (mCons (mVar 1) (mCons (mTup (mCons (mFld (c.Value) "place" (mVar 0)) mNil)) mNil))) mNil)) mNil))))))
abbrev m_Value___mul__ (c : Cs) : List D → List O → R D := fnM 2 4 (b_Value___mul__ c)
def b_Value___rmul__ (c : Cs) : MS :=
  sRet (mCall (m_with_row c) (mCons (mFld (c.Value) "maker" (mVar 0)) (mCons (mFld (c.Value) "rows" (mVar 0)) (mCons (mC (.str "round")) (mCons (mTup (mCons (mTup (mCons (mVar 1) (mCons (mTup (mCons (mFld (c.Value) "place" (mVar 0)) mNil)) mNil))) mNil)) mNil)))))
abbrev m_Value___rmul__ (c : Cs) : List D → List O → R D := fnM 2 2 (b_Value___rmul__ c)
def b_Value___sub__ (c : Cs) : MS :=
  sSeq (sIf (mTB (mCB (gIsiC (c.Value)) (mCons (mVar 1) (mCons (mC (.adr (c.Value))) mNil)))) (
  sSeq (sUnp (tgT 2 (tgsC (tgN 2) (tgsC (tgN 3) tgsN))) (mCall (m_put_together c) (mCons (mTup (mCons (mVar 0) (mCons (mVar 1) mNil))) mNil))) (
  sRet (mCall (m_with_row c) (mCons (mFld (c.Value) "maker" (mVar 0)) (mCons (mVar 2) (mCons (mC (.str "round")) (mCons (mTup (mCons (mTup (mCons (mC (.int 1)) (mCons (mSl (mVar 3) moN (moS (mC (.int 1)))) mNil))) (mCons (mTup (mCons (mUn gNeg (mC (.int 1))) (mCons (mSl (mVar 3) (moS (mC (.int 1))) moN) mNil))) mNil))) mNil))))))) (
  sNil)) (
  sRet (mCall (m_with_row c) (mCons (mFld (c.Value) "maker" (mVar 0)) (mCons (mFld (c.Value) "rows" (mVar 0)) (mCons (mC (.str "round")) (mCons (mTup (mCons (mTup (mCons (mC (.int 1)) (mCons (mTup (mCons (mFld (c.Value) "place" (mVar 0)) mNil)) mNil))) (mCons (mTup (mCons (mBin gSub (mC (.int 0)) (mVar 1)) (mCons (mTup mNil) mNil))) mNil))) mNil))))))
abbrev m_Value___sub__ (c : Cs) : List D → List O → R D := fnM 2 4 (b_Value___sub__ c)
def b_Value___rsub__ (c : Cs) : MS :=
  sRet (mCall (m_with_row c) (mCons (mFld (c.Value) "maker" (mVar 0)) (mCons (mFld (c.Value) "rows" (mVar 0)) (mCons (mC (.str "round")) (mCons (mTup (mCons (mTup (mCons (mVar 1) (mCons (mTup mNil) mNil))) (mCons (mTup (mCons (mUn gNeg (mC (.int 1))) (mCons (mTup (mCons (mFld (c.Value) "place" (mVar 0)) mNil)) mNil))) mNil))) mNil)))))
abbrev m_Value___rsub__ (c : Cs) : List D → List O → R D := fnM 2 2 (b_Value___rsub__ c)
def b_Value___neg__ (c : Cs) : MS :=
  sRet (mCall (m_with_row c) (mCons (mFld (c.Value) "maker" (mVar 0)) (mCons (mFld (c.Value) "rows" (mVar 0)) (mCons (mC (.str "exact")) (mCons (mTup (mCons (mTup (mCons (mUn gNeg (mC (.int 1))) (mCons (mTup (mCons (mFld (c.Value) "place" (mVar 0)) mNil)) mNil))) mNil)) mNil)))))
abbrev m_Value___neg__ (c : Cs) : List D → List O → R D := fnM 1 1 (b_Value___neg__ c)
def b_Value___lshift__ (c : Cs) : MS :=
  sRet (mCall (m_with_row c) (mCons (mFld (c.Value) "maker" (mVar 0)) (mCons (mFld (c.Value) "rows" (mVar 0)) (mCons (mC (.str "exact")) (mCons (mTup (mCons (mTup (mCons (mBin gShl (mC (.int 1)) (mVar 1)) (mCons (mTup (mCons (mFld (c.Value) "place" (mVar 0)) mNil)) mNil))) mNil)) mNil)))))
abbrev m_Value___lshift__ (c : Cs) : List D → List O → R D := fnM 2 2 (b_Value___lshift__ c)
def b_Value_fused (c : Cs) : MS :=
  sSeq (sUnp (tgT 2 (tgsC (tgN 3) (tgsC (tgN 4) tgsN))) (mCall (m_put_together c) (mCons (mTup (mCons (mVar 0) (mCons (mVar 1) (mCons (mVar 2) mNil)))) mNil))) (
  sRet (mCall (m_with_row c) (mCons (mFld (c.Value) "maker" (mVar 0)) (mCons (mVar 3) (mCons (mC (.str "round")) (mCons (mTup (mCons (mTup (mCons (mC (.int 1)) (mCons (mSl (mVar 4) moN (moS (mC (.int 2)))) mNil))) (mCons (mTup (mCons (mC (.int 1)) (mCons (mSl (mVar 4) (moS (mC (.int 2))) moN) mNil))) mNil))) mNil))))))
abbrev m_Value_fused (c : Cs) : List D → List O → R D := fnM 3 5 (b_Value_fused c)
def b__law_value (c : Cs) : MS :=
  sSeq (sUnp (tgT 3 (tgsC (tgN 2) (tgsC (tgL 3 (tgsC (tgN 3) (tgsC (tgN 4) (tgsC (tgN 5) tgsN)))) (tgsC (tgN 6) tgsN)))) (mVar 1)) (
  sSeq (sPar 7 8 (mCons (mBin gIx (mVar 0) (mVar 3)) (mCons (mBin gIx (mVar 0) (mVar 4)) mNil))) (
  sSeq (sIf (mTB (mBin gEq (mVar 2) (mC (.str "+=")))) (
  sSeq (sAsg 9 (mVar 7)) (
  sSeq (sAugO 9 (c.Value) (m_Value___add__ c) (mVar 8)) (
  sRet (mVar 9)))) (
  sNil)) (
  sSeq (sIf (mTB (mBin gIn (mVar 2) (mTup (mCons (mC (.str "+")) (mCons (mC (.str "-")) mNil))))) (
  sRet (mIf (mTB (mBin gEq (mVar 2) (mC (.str "+")))) (mBinO (c.Value) (m_Value___add__ c) (m_Value___radd__ c) gAdd (mVar 7) (mVar 8)) (mBinO (c.Value) (m_Value___sub__ c) (m_Value___rsub__ c) gSub (mVar 7) (mVar 8)))) (
  sNil)) (
  sSeq (sIf (mTB (mBin gIn (mVar 2) (mTup (mCons (mC (.str "+c")) (mCons (mC (.str "c+")) mNil))))) (
  sRet (mIf (mTB (mBin gEq (mVar 2) (mC (.str "+c")))) (mBinO (c.Value) (m_Value___add__ c) (m_Value___radd__ c) gAdd (mVar 7) (mVar 6)) (mBinO (c.Value) (m_Value___add__ c) (m_Value___radd__ c) gAdd (mVar 6) (mVar 7)))) (
  sNil)) (
  sSeq (sIf (mTB (mBin gIn (mVar 2) (mTup (mCons (mC (.str "-c")) (mCons (mC (.str "c-")) mNil))))) (
  sRet (mIf (mTB (mBin gEq (mVar 2) (mC (.str "-c")))) (mBinO (c.Value) (m_Value___sub__ c) (m_Value___rsub__ c) gSub (mVar 7) (mVar 6)) (mBinO (c.Value) (m_Value___sub__ c) (m_Value___rsub__ c) gSub (mVar 6) (mVar 7)))) (
  sNil)) (
  sSeq (sIf (mTB (mBin gIn (mVar 2) (mTup (mCons (mC (.str "*c")) (mCons (mC (.str "c*")) mNil))))) (
  sRet (mIf (mTB (mBin gEq (mVar 2) (mC (.str "*c")))) (mBinO (c.Value) (m_Value___mul__ c) (m_Value___rmul__ c) gMul (mVar 7) (mVar 6)) (mBinO (c.Value) (m_Value___mul__ c) (m_Value___rmul__ c) gMul (mVar 6) (mVar 7)))) (
  sNil)) (
  sSeq (sIf (mTB (mBin gIn (mVar 2) (mTup (mCons (mC (.str "n")) (mCons (mC (.str "<")) mNil))))) (
  sRet (mIf (mTB (mBin gEq (mVar 2) (mC (.str "n")))) (mUnO (c.Value) (m_Value___neg__ c) gNeg (mVar 7)) (mBinL (c.Value) (m_Value___lshift__ c) gShl (mVar 7) (mVar 6)))) (
  sNil)) (
  sRet (mIf (mTB (mBin gEq (mVar 2) (mC (.str "*")))) (mBinO (c.Value) (m_Value___mul__ c) (m_Value___rmul__ c) gMul (mVar 7) (mVar 8)) (mCall (m_Value_fused c) (mCons (mVar 7) (mCons (mVar 8) (mCons (mBin gIx (mVar 0) (mVar 5)) mNil)))))))))))))
abbrev m__law_value (c : Cs) : List D → List O → R D := fnM 2 10 (b__law_value c)
def b__law_made (c : Cs) : MS :=
  sSeq (sAsg 2 (mC .non)) (
  sSeq (sTryA [((c.TooLong), true)] 3 (
  sAsg 2 (mCall (m__law_value c) (mCons (mVar 0) (mCons (mVar 1) mNil)))) (sAsg 2 (mC .non))) (
  sRet (mVar 2)))
abbrev m__law_made (c : Cs) : List D → List O → R D := nbF (fnM 2 4 (b__law_made c))
def b_Value_program (c : Cs) : MS :=
  sRet (mTup (mCons (mFld (c.Maker) "inputs" (mFld (c.Value) "maker" (mVar 0))) (mCons (mFld (c.Value) "rows" (mVar 0)) (mCons (mTup (mCons (mFld (c.Value) "place" (mVar 0)) mNil)) mNil))))
abbrev m_Value_program (c : Cs) : List D → List O → R D := nbF (fnM 1 1 (b_Value_program c))
def b_law (c : Cs) : MS :=
  sSeq (sAsg 1 (mCall (m__law_deck c) (mCons (mVar 0) mNil))) (
  sSeq (sFor (miRange rangeA1 (mCons (mC (.int 3)) mNil)) (tgN 2) (
  sSeq (sAsg 3 (mBin gAdd (mC (.int 1)) (mCall (m__law_draw c) (mCons (mVar 1) (mCons (mC (.int 4)) mNil))))) (
  sSeq (sAsg 4 (mMake (c.Maker) (m_Maker___init__ c) (mCons (mCall (m__law_traits c) (mCons (mVar 1) mNil)) (mCons (mVar 3) mNil)))) (
  sSeq (sPar 5 6 (mCons (mCompN (miRange rangeA1 (mCons (mVar 3) mNil)) (tgN 7) mYes (mIxO (c.Maker) (m_Maker___getitem__ c) (mVar 4) (mVar 7)) [7]) (mCons (mCompN (miRange rangeA1 (mCons (mVar 3) mNil)) (tgN 7) mYes (mTup (mCons (mTup mNil) (mCons (mVar 7) mNil))) [7]) mNil))) (
  sSeq (sFor (miSeq (mCall (m__law_nodes c) (mCons (mVar 1) (mCons (mVar 3) (mCons (mCall (m__law_one c) (mCons (mVar 1) (mCons (mLst (mCons (mC (.int 3)) (mCons (mC (.int 8)) (mCons (mC (.int 16)) mNil)))) mNil))) (mCons (mC (.int 1)) mNil)))))) (tgN 8) (
  sSeq (sPar 9 10 (mCons (mCall (m__law_model c) (mCons (mVar 3) (mCons (mVar 6) (mCons (mVar 8) mNil)))) (mCons (mCall (m__law_made c) (mCons (mVar 5) (mCons (mVar 8) mNil))) mNil))) (
  sSeq (sIf (mTB (mBin gNe (mBin gIsN (mVar 10) (mC .non)) (mBin gGt (mCB gLen (mCons (mBin gIx (mVar 9) (mC (.int 0))) mNil)) (mC (.int 12))))) (
  sRet (mC (.bl false))) (
  sNil)) (
  sSeq (sExpr (mMt isL gAppend (mVar 5) (mCons (mIf (mTB (mBin gIsN (mVar 10) (mC .non))) (mBin gIx (mVar 5) (mC (.int 0))) (mVar 10)) mNil))) (
  sExpr (mMt isL gAppend (mVar 6) (mCons (mIf (mTB (mBin gIsN (mVar 10) (mC .non))) (mBin gIx (mVar 6) (mC (.int 0))) (mVar 9)) mNil))))))) (
  sSeq (sIf (mNot (mTB (mCall (m__law_joined_right c) (mCons (mVar 1) (mCons (mVar 4) (mCons (mVar 3) (mCons (mVar 5) (mCons (mVar 6) mNil)))))))) (
  sRet (mC (.bl false))) (
  sNil)) (
  sFor (miZip (mCons (mVar 5) (mCons (mVar 6) mNil))) (tgT 2 (tgsC (tgN 11) (tgsC (tgN 9) tgsN))) (
  sIf (mNot (mTB (mCallP (m__law_same c 8) (mCons (mProp (c.Value) (m_Value_program c) (mVar 11)) (mCons (mTup (mCons (mVar 3) (mCons (mBin gIx (mVar 9) (mC (.int 0))) (mCons (mTup (mCons (mBin gIx (mVar 9) (mC (.int 1))) mNil)) mNil)))) mNil))))) (
  sRet (mC (.bl false))) (
  sNil))))))))) (
  sRet (mC (.bl true))))
abbrev m_law (c : Cs) : List D → List O → R D := nbF (fnM 1 12 (b_law c))
end K71

namespace Ev
open PySem PySem.Spec L2 PyProof.Rows Mo
/-! ### rows in order: each row's places lie before it, none twice -/
structure Canon (n : Nat) (rows : List Rw) : Prop where
  nd : rows.Nodup
  fit : ∀ k r, rows[k]? = some r → Fit (n + k) r
  sh : ∀ r ∈ rows, Sh r
theorem Canon.nil {n : Nat} : Canon n [] := ⟨List.nodup_nil, fun k r h => by (cases h), fun r h => by (cases h)⟩
theorem Fit.mono {m k : Nat} {r : Rw} (h : Fit m r) (le : m ≤ k) : Fit k r := fun t ht i hi => Nat.lt_of_lt_of_le (h t ht i hi) le
theorem Canon.add {n : Nat} {rows : List Rw} {r : Rw} (h : Canon n rows) (f : Fit (n + rows.length) r) (s : Sh r) : Canon n (addR rows r) := by
  unfold addR
  split
  · exact h
  · rename_i hn
    refine ⟨List.nodup_append.mpr ⟨h.nd, by simp, fun a ha b hb => ?_⟩, fun k x hx => ?_, fun x hx => ?_⟩
    · rw [List.mem_singleton.mp hb]
      exact fun e => hn (e ▸ ha)
    · rw [List.getElem?_append] at hx
      split at hx
      · exact h.fit k x hx
      · rename_i hge
        have : k - rows.length = 0 := by
          have := (List.getElem?_eq_some_iff.mp hx).1
          simp at this
          omega
        rw [this] at hx
        cases hx
        exact f.mono (by omega)
    · rcases List.mem_append.mp hx with e | e
      · exact h.sh x e
      · rw [List.mem_singleton.mp e]; exact s
theorem ixR_lt {r : Rw} : ∀ {l : List Rw}, r ∈ l → ixR r l < l.length
  | x :: l, h => by
    unfold ixR
    by_cases e : x = r
    · rw [if_pos e]; simp
    · rw [if_neg e, List.length_cons]
      rcases List.mem_cons.mp h with z | z
      · exact absurd z.symm e
      · have := ixR_lt z; omega
theorem ixR_at {r : Rw} : ∀ {l : List Rw} {k : Nat}, l.Nodup → l[k]? = some r → ixR r l = k
  | x :: l, 0, _, h => by
    rw [List.getElem?_cons_zero] at h
    cases h
    unfold ixR
    rw [if_pos rfl]
  | x :: l, k + 1, nd, h => by
    rw [List.getElem?_cons_succ] at h
    unfold ixR
    have hm := List.mem_of_getElem? h
    have ne : x ≠ r := fun e => (List.nodup_cons.mp nd).1 (e ▸ hm)
    rw [if_neg ne, ixR_at (List.nodup_cons.mp nd).2 h]
/-- what stands between two rows put -/
structure Pt (n : Nat) (st : List Rw × List Nat) : Prop where
  c : Canon n st.1
  p : ∀ i ∈ st.2, i < n + st.1.length
theorem fit_mv {n m : Nat} {pl : List Nat} {r : Rw} (h : ∀ i ∈ pl, i < m) (f : Fit pl.length r) : Fit m (mvR pl r) := by
  intro t ht i hi
  obtain ⟨u, hu, rfl⟩ := List.mem_map.mp ht
  obtain ⟨j, hj, rfl⟩ := List.mem_map.mp hi
  have hl := f u hu j hj
  rw [List.getD_eq_getElem?_getD, List.getElem?_eq_getElem hl]
  exact h _ (List.getElem_mem hl)
theorem addR_ge {fd : List Rw} {r : Rw} : fd.length ≤ (addR fd r).length := by
  unfold addR
  split
  · omega
  · simp
theorem Pt.step {n : Nat} {st : List Rw × List Nat} {r : Rw} (h : Pt n st) (f : Fit st.2.length r) (s : Sh r) : Pt n (stepR n st r) := by
  refine ⟨h.c.add (fit_mv (n := n) h.p f) (s.mv _), fun i hi => ?_⟩
  rcases List.mem_append.mp hi with e | e
  · have := h.p i e
    have := addR_ge (fd := st.1) (r := mvR st.2 r)
    show i < n + (addR st.1 (mvR st.2 r)).length
    omega
  · rw [List.mem_singleton.mp e]
    have := ixR_lt (mem_addR (fd := st.1) (r := mvR st.2 r))
    show n + ixR _ _ < n + (addR st.1 (mvR st.2 r)).length
    omega
theorem Pt.put {n : Nat} : ∀ {more : List Rw} {st : List Rw × List Nat}, Pt n st → (∀ k r, more[k]? = some r → Fit (st.2.length + k) r) → (∀ r ∈ more, Sh r) → Pt n (putR n st more) ∧ (putR n st more).2.length = st.2.length + more.length ∧ st.1.length ≤ (putR n st more).1.length
  | [], st, h, _, _ => ⟨h, rfl, Nat.le_refl _⟩
  | x :: more, st, h, hf, hs => by
    have l1 : (stepR n st x).2.length = st.2.length + 1 := by show (st.2 ++ [_]).length = _; simp
    obtain ⟨a, b, d⟩ := Pt.put (n := n) (more := more) (st := stepR n st x) (h.step (hf 0 x rfl) (hs x List.mem_cons_self)) (fun k r hk => by rw [l1, Nat.add_assoc, Nat.add_comm 1]; exact hf (k + 1) r hk) fun r hr => hs r (List.mem_cons_of_mem _ hr)
    have := addR_ge (fd := st.1) (r := mvR st.2 x)
    refine ⟨a, ?_, Nat.le_trans this d⟩
    show (putR n (stepR n st x) more).2.length = _
    rw [b, l1, List.length_cons]
    omega
theorem Pt.start {n : Nat} {rows : List Rw} (h : Canon n rows) : Pt n (rows, List.range n) := ⟨h, fun i hi => by have := List.mem_range.mp hi; show i < n + rows.length; omega⟩
/-- rows put over themselves -/
theorem put_self {n : Nat} {rows : List Rw} (h : Canon n rows) {fd : List Rw} : ∀ k, k ≤ rows.length → (∀ j, j < k → fd[j]? = rows[j]?) → (fd = rows.take k ∨ fd = rows) → ∃ fd', putR n (fd, List.range (n + k)) (rows.drop k) = (fd', List.range (n + rows.length)) ∧ (fd' = rows) := by
  intro k
  induction hk : rows.length - k generalizing k fd with
  | zero =>
    intro hle hj ho
    have e : k = rows.length := by omega
    subst e
    rw [List.drop_length]
    refine ⟨fd, rfl, ?_⟩
    rcases ho with e | e
    · rw [e, List.take_length]
    · exact e
  | succ d ih =>
    intro hle hj ho
    have hlt : k < rows.length := by omega
    rw [List.drop_eq_getElem_cons hlt]
    have hr : rows[k]? = some rows[k] := List.getElem?_eq_getElem hlt
    have e1 : mvR (List.range (n + k)) rows[k] = rows[k] := K70.mv_fit (h.fit k _ hr)
    have e2 : ∃ fd2, addR fd rows[k] = fd2 ∧ (∀ j, j < k + 1 → fd2[j]? = rows[j]?) ∧ (fd2 = rows.take (k + 1) ∨ fd2 = rows) ∧ ixR rows[k] fd2 = k := by
      rcases ho with e | e
      · have hn : rows[k] ∉ fd := by
          rw [e]
          intro hm
          obtain ⟨j, hj⟩ := List.mem_iff_getElem?.mp hm
          have hjk : j < k := by have := (List.getElem?_eq_some_iff.mp hj).1; simp at this; omega
          rw [List.getElem?_take_of_lt hjk] at hj
          have := (List.getElem?_inj (by omega) h.nd).mp (hj.trans hr.symm)
          omega
        have e3 : addR fd rows[k] = rows.take (k + 1) := by
          unfold addR
          rw [if_neg hn, e, List.take_add_one, hr]
          rfl
        refine ⟨_, e3, fun j hj => by rw [List.getElem?_take_of_lt hj], .inl rfl, ?_⟩
        refine ixR_at ?_ ?_
        · exact h.nd.sublist (List.take_sublist _ _)
        · rw [List.getElem?_take_of_lt (by omega)]; exact hr
      · have e3 : addR fd rows[k] = rows := by
          unfold addR
          rw [if_pos (by rw [e]; exact List.getElem_mem hlt), e]
        exact ⟨_, e3, fun j hj => rfl, .inr rfl, ixR_at h.nd hr⟩
    obtain ⟨fd2, a1, a2, a3, a4⟩ := e2
    obtain ⟨fd', b1, b2⟩ := ih (fd := fd2) (k + 1) (by omega) (by omega) a2 a3
    refine ⟨fd', ?_, b2⟩
    show putR n (stepR n (fd, List.range (n + k)) rows[k]) (rows.drop (k + 1)) = _
    unfold stepR
    dsimp only
    rw [e1, a1, a4, ← List.range_succ]
    exact b1
theorem put_new {n : Nat} {rows : List Rw} (h : Canon n rows) : putR n ([], List.range n) rows = (rows, List.range (n + rows.length)) := by
  obtain ⟨fd, h1, rfl⟩ := put_self h (fd := []) 0 (Nat.zero_le _) (fun j hj => by omega) (.inl rfl)
  exact h1
theorem put_old {n : Nat} {rows : List Rw} (h : Canon n rows) : putR n (rows, List.range n) rows = (rows, List.range (n + rows.length)) := by
  obtain ⟨fd, h1, e⟩ := put_self h (fd := rows) 0 (Nat.zero_le _) (fun j hj => by omega) (.inr rfl)
  rw [e] at h1
  exact h1
/-- a value in order -/
structure VaC (n : Nat) (v : Va) : Prop where
  c : Canon n v.rows
  p : v.place < n + v.rows.length
theorem wr_eq {n : Nat} {rows : List Rw} {w : Str} {ts : List (Int × List Nat)} (h : Canon n rows) (f : Fit (n + rows.length) (w, ts)) : wr n rows w ts = ⟨addR rows (w, ts), n + ixR (w, ts) (addR rows (w, ts))⟩ := by
  have e : putR n (rows, List.range n) (rows ++ [(w, ts)]) = (addR rows (w, ts), List.range (n + rows.length) ++ [n + ixR (w, ts) (addR rows (w, ts))]) := by
    rw [putR_snoc, put_old h]
    unfold stepR
    dsimp only
    have : mvR (List.range (n + rows.length)) (w, ts) = (w, ts) := K70.mv_fit f
    rw [this]
  unfold wr
  rw [e]
  congr 1
  show (List.range (n + rows.length) ++ [_]).getD (n + rows.length) 0 = _
  rw [List.getD_eq_getElem?_getD, List.getElem?_append_right (by simp)]
  simp
theorem wr_c {n : Nat} {rows : List Rw} {w : Str} {ts : List (Int × List Nat)} (h : Canon n rows) (f : Fit (n + rows.length) (w, ts)) (s : Sh (w, ts)) : VaC n (wr n rows w ts) ∧ (wr n rows w ts).rows.length ≤ rows.length + 1 := by
  rw [wr_eq h f]
  refine ⟨⟨h.add f s, ?_⟩, addR_len⟩
  have := ixR_lt (mem_addR (fd := rows) (r := (w, ts)))
  show n + ixR (w, ts) (addR rows (w, ts)) < n + (addR rows (w, ts)).length
  omega
theorem tog1 {n : Nat} {v : Va} (h : VaC n v) : togR n ([], []) [v] = (v.rows, [v.place]) := by
  show ((putR n ([], List.range n) v.rows).1, ([] : List Nat) ++ [(putR n ([], List.range n) v.rows).2.getD v.place 0]) = _
  rw [put_new h.c]
  show (v.rows, [(List.range (n + v.rows.length)).getD v.place 0]) = _
  rw [K70.getR h.p]
theorem tog_c {n : Nat} : ∀ {vs : List Va} {st : List Rw × List Nat}, Pt n st → (∀ v ∈ vs, VaC n v) → Pt n (togR n st vs) ∧ (togR n st vs).2.length = st.2.length + vs.length
  | [], st, h, _ => ⟨h, rfl⟩
  | v :: vs, st, h, hv => by
    have hv0 := hv v List.mem_cons_self
    obtain ⟨a, b, d⟩ := Pt.put (n := n) (more := v.rows) (st := (st.1, List.range n)) (Pt.start h.c) (fun k r hk => by show Fit ((List.range n).length + k) r; rw [List.length_range]; exact hv0.c.fit k r hk) hv0.c.sh
    have s1 : Pt n (togS n st v) := by
      refine ⟨a.c, fun i hi => ?_⟩
      rcases List.mem_append.mp hi with e | e
      · have := h.p i e
        show i < n + (putR n (st.1, List.range n) v.rows).1.length
        have d' : st.1.length ≤ (putR n (st.1, List.range n) v.rows).1.length := d
        omega
      · rw [List.mem_singleton.mp e]
        have hl : v.place < (putR n (st.1, List.range n) v.rows).2.length := by
          rw [b]
          show v.place < (List.range n).length + v.rows.length
          rw [List.length_range]
          exact hv0.p
        rw [List.getD_eq_getElem?_getD, List.getElem?_eq_getElem hl]
        exact a.p _ (List.getElem_mem hl)
    obtain ⟨e1, e2⟩ := tog_c (vs := vs) (st := togS n st v) s1 fun u hu => hv u (List.mem_cons_of_mem _ hu)
    refine ⟨e1, ?_⟩
    show (togR n (togS n st v) vs).2.length = _
    rw [e2]
    show (st.2 ++ [_]).length + vs.length = _
    simp
    omega
end Ev

namespace Ev
open PySem PySem.Spec L2 PyProof.Rows Mo
/-! ### bodies that answer or raise -/
def Is (r : RS) (q : R D) : Prop := match r with
  | .rt d S => q = .ok d S
  | .er x _ S => q = .er x S
  | _ => False
section
variable {e e1 : Mo.Env} {S S1 : List O} {m : ME} {q : R D} {x y : MS} {t : MT}
theorem i_ret (h : m e S = q) (hq : q ≠ .bad) : Is (sRet m e S) q := by
  unfold sRet
  rw [h]
  cases q with
  | ok d S => exact rfl
  | er x S => exact rfl
  | bad => exact absurd rfl hq
theorem i_seq (h1 : x e S = .nx e1 S1) (h2 : Is (y e1 S1) q) : Is (sSeq x y e S) q := by rw [w_seq h1 rfl]; exact h2
theorem i_seqO (h : Is (x e S) q) : Is (sSeq x y e S) q := by
  unfold sSeq
  cases r : x e S with
  | rt d S => rw [r] at h; exact h
  | er z e' S => rw [r] at h; exact h
  | nx e' S => rw [r] at h; exact False.elim h
  | bk e' S => rw [r] at h; exact False.elim h
  | ct e' S => rw [r] at h; exact False.elim h
  | bad => rw [r] at h; exact False.elim h
theorem i_ifT (h1 : t e S = .ok true S1) (h2 : Is (x e S1) q) : Is (sIf t x y e S) q := by rw [w_ifT h1 rfl]; exact h2
theorem i_aug {n : Nat} {C : Addr} {fa : List D → List O → R D} {a b : D} (hn : n < e.length) (h0 : e[n]? = some (some a)) (h1 : m e S = .ok b S1) (h3 : isI C S1 a = true) (h4 : isI C S1 b = true) (h5 : fa [a, b] S1 = q) (hq : q ≠ .bad) : Is (sSeq (sAugO n C fa m) (sRet (mVar n)) e S) q := by
  cases q with
  | ok d S2 =>
    refine i_seq (w_augO h0 h1 h3 h4 h5) (i_ret (v_var (List.getElem?_set_self hn)) hq)
  | er z S2 =>
    refine i_seqO ?_
    unfold sAugO
    rw [h0]
    show Is (R.st (m e S) _ _) _
    rw [h1]
    show Is (if (isI C S1 a && isI C S1 b) = true then _ else _) _
    rw [h3, h4]
    show Is (R.st (fa [a, b] S1) _ _) _
    rw [h5]
    exact rfl
  | bad => exact absurd rfl hq
theorem fn_er {np n : Nat} {b : MS} {ds : List D} {S S' : List O} {x : Xc} {e : Mo.Env} (hl : ds.length = np) (h : b (ds.map some ++ List.replicate (n - ds.length) none) S = .er x e S') : fnM np n b ds S = .er x (trimS (x.lo S.length) S S') := by
  unfold fnM
  rw [if_pos hl, h]
theorem fn_is {np n : Nat} {b : MS} {ds : List D} (hl : ds.length = np) (h : Is (b (ds.map some ++ List.replicate (n - ds.length) none) S) q) (hq : (∃ d, q = .ok d S) ∨ ∃ x, q = .er x S) : fnM np n b ds S = q := by
  unfold fnM
  rw [if_pos hl]
  cases r : b (ds.map some ++ List.replicate (n - ds.length) none) S with
  | rt d S2 =>
    rw [r] at h
    have h : q = .ok d S2 := h
    rcases hq with ⟨d', e⟩ | ⟨x', e⟩
    · rw [h] at e
      cases e
      dsimp only
      rw [h, trim_same rfl]
    · rw [h] at e; cases e
  | er z e' S2 =>
    rw [r] at h
    have h : q = .er z S2 := h
    rcases hq with ⟨d', e⟩ | ⟨x', e⟩
    · rw [h] at e; cases e
    · rw [h] at e
      cases e
      dsimp only
      rw [h, trim_same rfl]
  | nx e' S2 => rw [r] at h; exact False.elim h
  | bk e' S2 => rw [r] at h; exact False.elim h
  | ct e' S2 => rw [r] at h; exact False.elim h
  | bad => rw [r] at h; exact False.elim h
end
structure WrX (n : Nat) (rows : List Rw) (w : Str) (ts : List (Int × List Nat)) : Prop where
  c : Canon n rows
  new : Sh (w, ts)
  fnew : Fit (n + rows.length) (w, ts)
  len : rows.length < 100
end Ev
namespace K71
open PySem PySem.Spec L2 PyProof.Rows Mo Ev
abbrev c7 (c : Cs) : K70.Cs := ⟨c.Value, c.Maker, c.Traits⟩
variable {c : Cs} {S : List O} {J n : Nat} {u : D}
abbrev vaD (c : Cs) (J : Nat) (v : Va) : D := K70.valD (c7 c) J v.rows v.place
abbrev mkO (c : Cs) (u : D) (n : Nat) : O := .ins c.Maker [("under", u), ("inputs", .int n)]
/-- the value, or too long -/
def resX (c : Cs) (J : Nat) (v : Va) (S : List O) : R D := if v.rows.length ≤ 12 then .ok (vaD c J v) S else .er ⟨.ref c.TooLong, none⟩ S
theorem res_ne {v : Va} : resX c J v S ≠ .bad := by unfold resX; split <;> (intro h; cases h)
theorem res_S {v : Va} : (∃ d, resX c J v S = .ok d S) ∨ ∃ x, resX c J v S = .er x S := by
  unfold resX
  split
  · exact .inl ⟨_, rfl⟩
  · exact .inr ⟨_, rfl⟩
theorem make_ok {S1 : List O} {e : Mo.Env} {p : Nat} {rows : List Rw} {m : MA} (h : m e S = .ok [.ref J, rowsD rows, .int p] S1) : mMakeF c.Value (m_Value___init__ c) m e S = .ok (K70.valD (c7 c) J rows p) (S1 ++ [.gone]) := K70.make_ok (c := c7 c) h
theorem put_ok {rows more : List Rw} (hn : n < 1000) (h1 : ∀ r ∈ rows, Sh r) (h2 : ∀ r ∈ more, Sh r) (hf : ∀ k r, more[k]? = some r → Fit (n + k) r) (l1 : rows.length < 1000) (l2 : more.length < 1000) :
    m_put_rows c [.int n, rowsD rows, rowsD more] S = .ok (.tup [rowsD (putR n (rows, List.range n) more).1, .ref (S.length + 1)]) (S ++ [.lst ((putR n (rows, List.range n) more).1.map rwD), .lst (intsN (putR n (rows, List.range n) more).2)]) := K70.put_rows_ok (c := c7 c) hn h1 h2 hf l1 l2
theorem wr_okX {rows : List Rw} {w : Str} {ts : List (Int × List Nat)} (hJ : S[J]? = some (mkO c u n)) (hn : n < 100) (k : WrX n rows w ts) : m_with_row c [.ref J, rowsD rows, .str w, termsD ts] S = resX c J (wr n rows w ts) S := by
  have jl : J < S.length := (List.getElem?_eq_some_iff.mp hJ).1
  have P := put_ok (c := c) (S := S) (n := n) (rows := rows) (more := rows ++ [(w, ts)]) (by omega) k.c.sh (fun r hr' => by
      rcases List.mem_append.mp hr' with e | e
      · exact k.c.sh r e
      · rw [List.mem_singleton.mp e]; exact k.new) (fun i r hk => by
      rw [List.getElem?_append] at hk
      split at hk
      · exact k.c.fit i r hk
      · rename_i hge
        have : i - rows.length = 0 := by
          have := (List.getElem?_eq_some_iff.mp hk).1
          simp at this
          omega
        rw [this] at hk
        cases hk
        rw [show n + i = n + rows.length by omega]
        exact k.fnew) (by have := k.len; omega) (by rw [List.length_append]; have := k.len; simp; omega)
  obtain ⟨q1, q2⟩ := putR_len (n := n) (st := (rows, List.range n)) (more := rows ++ [(w, ts)])
  have hw : wr n rows w ts = ⟨(putR n (rows, List.range n) (rows ++ [(w, ts)])).1, (putR n (rows, List.range n) (rows ++ [(w, ts)])).2.getD (n + rows.length) 0⟩ := rfl
  rw [hw]
  generalize hst : putR n (rows, List.range n) (rows ++ [(w, ts)]) = st at *
  obtain ⟨fd, pl⟩ := st
  dsimp only at P q1 q2 ⊢
  rw [List.length_append, List.length_range] at q1
  have q1' : pl.length = n + rows.length + 1 := by rw [q1]; simp; omega
  have kl := k.len
  let E : Mo.Env := [some (.ref J), some (rowsD rows), some (.str w), some (termsD ts), some (rowsD fd), some (.ref (S.length + 1))]
  let S' : List O := S ++ [.lst (fd.map rwD), .lst (intsN pl)]
  have e1 : sUnp (tgT 2 (tgsC (tgN 4) (tgsC (tgN 5) tgsN))) (mCall (m_put_rows c) (mCons (mFld (c.Maker) "inputs" (mVar 0)) (mCons (mVar 1) (mCons (mBin gAdd (mVar 1) (mTup (mCons (mTup (mCons (mVar 2) (mCons (mVar 3) mNil))) mNil))) mNil)))) [some (.ref J), some (rowsD rows), some (.str w), some (termsD ts), none, none] S = .nx E S' := by
    refine w_unp (v_call (l := [.int n, rowsD rows, rowsD (rows ++ [(w, ts)])]) (v_cons (v_fld (v_var rfl) (x_ins hJ) rfl) (v_cons (v_var rfl) (v_cons (v_bin (d := rowsD (rows ++ [(w, ts)])) (v_var rfl) (v_tup (v_cons (v_tup (v_cons (v_var rfl) (v_cons (v_var rfl) v_nil)) (show 2 ≤ 16777216 by decide)) v_nil) (show 1 ≤ 16777216 by decide)) ?_) v_nil))) P) rfl
    show (if (rows.map rwD).length + 1 ≤ sz then some (D.tup (rows.map rwD ++ [.tup [.str w, termsD ts]])) else none) = _
    rw [if_pos (by rw [List.length_map]; show rows.length + 1 ≤ 16777216; omega)]
    unfold rowsD
    rw [List.map_append]
    rfl
  have t1 : mTB (mBin gGt (mCB gLen (mCons (mVar 4) mNil)) (mC (.int 12))) E S' = .ok (decide ((12 : Int) < (fd.map rwD).length)) S' := v_tb (v_bin (v_cb (v_cons (v_var rfl) v_nil) (show gLen _ [rowsD fd] = some (.int ((fd.map rwD).length : Nat)) from rfl)) v_C x_gt)
  unfold resX
  dsimp only
  by_cases hl : fd.length ≤ 12
  · rw [if_pos hl]
    refine (fn_rt (S' := S ++ [.lst (fd.map rwD), .lst (intsN pl), .gone]) (d := K70.valD (c7 c) J fd (pl.getD (n + rows.length) 0)) rfl ?_).trans (by rw [K70.lo_val jl, trim_app])
    refine w_seq e1 ?_
    refine w_seq (w_ifF (t1.trans (by rw [decide_eq_false (by rw [List.length_map]; omega)])) w_nil) ?_
    refine (w_ret (make_ok (p := pl.getD (n + rows.length) 0) (v_cons (v_var rfl) (v_cons (v_var rfl) (v_cons (v_bin (v_var rfl) (v_un v_C rfl) (x_ix at_1 ?_)) v_nil))))).trans (by rw [List.append_assoc]; rfl)
    have e : (intsN pl)[n + rows.length]? = some (.int (pl.getD (n + rows.length) 0 : Nat)) := by
      rw [List.getElem?_map, List.getD_eq_getElem?_getD, List.getElem?_eq_getElem (by omega)]
      rfl
    unfold atI ixN
    rw [List.length_map, q1', if_neg (by decide), if_pos (by omega), show ((-1 : Int) + ((n + rows.length + 1 : Nat) : Int)).toNat = n + rows.length by omega]
    exact e
  · rw [if_neg hl]
    have hb : b_with_row c [some (.ref J), some (rowsD rows), some (.str w), some (termsD ts), none, none] S = .er ⟨.ref c.TooLong, none⟩ E S' := by
      refine w_seq e1 ?_
      unfold sSeq
      rw [w_ifT (t1.trans (by rw [decide_eq_true (by rw [List.length_map]; omega)])) rfl]
      rfl
    refine (fn_er (np := 4) (n := 6) (b := b_with_row c) (ds := [.ref J, rowsD rows, .str w, termsD ts]) rfl hb).trans ?_
    show R.er _ (trimS true S (S ++ _)) = _
    rw [trim_app]
section
variable {v w : Va} {R : List Rw} {x y : Nat} (hJ : S[J]? = some (mkO c u n)) (hn : n < 100) (hv : VaOk n v) (hw : VaOk n w)
include hJ hn hv
theorem pair_ok (hw : VaOk n w) (hT : togR n ([], []) [v, w] = (R, [x, y])) : m_put_together c [.tup [vaD c J v, vaD c J w]] S = .ok (.tup [rowsD R, .tup [.int x, .int y]]) S := by
  have h := K70.together_ok (c := c7 c) (vs := [v, w]) hJ hn (fun z hz => by
    rcases List.mem_cons.mp hz with rfl | hz
    · exact hv
    · rw [List.mem_singleton.mp hz]; exact hw) (by simp) (show 2 < 8 by decide)
  rw [hT] at h
  exact h
theorem add_vv (hw : VaOk n w) (hT : togR n ([], []) [v, w] = (R, [x, y])) (k : WrX n R "round" [(1, [x]), (1, [y])]) : m_Value___add__ c [vaD c J v, vaD c J w] S = resX c J (wr n R "round" [(1, [x]), (1, [y])]) S := by
  have jl : J < S.length := (List.getElem?_eq_some_iff.mp hJ).1
  refine fn_is rfl ?_ res_S
  refine i_seqO (i_ifT (v_tb (v_cb (v_cons (v_var rfl) (v_cons v_C v_nil)) x_isiF)) ?_)
  refine i_seq (w_unp (v_call (v_cons (v_tup (v_cons (v_var rfl) (v_cons (v_var rfl) v_nil)) (show 2 ≤ 16777216 by decide)) v_nil) (pair_ok hJ hn hv hw hT)) rfl) ?_
  refine i_ret (v_call (l := [.ref J, rowsD R, .str "round", termsD [(1, [x]), (1, [y])]]) (v_cons (v_fld (v_var rfl) x_fz rfl) (v_cons (v_var rfl) (v_cons v_C (v_cons (v_tup (v_cons (v_tup (v_cons v_C (v_cons (v_sl (v_var rfl) v_moN (v_moS v_C) sl2a) v_nil)) (show 2 ≤ 16777216 by decide)) (v_cons (v_tup (v_cons v_C (v_cons (v_sl (v_var rfl) (v_moS v_C) v_moN sl2b) v_nil)) (show 2 ≤ 16777216 by decide)) v_nil)) (show 2 ≤ 16777216 by decide)) v_nil)))) (wr_okX hJ hn k)) res_ne
theorem sub_vv (hw : VaOk n w) (hT : togR n ([], []) [v, w] = (R, [x, y])) (k : WrX n R "round" [(1, [x]), (-1, [y])]) : m_Value___sub__ c [vaD c J v, vaD c J w] S = resX c J (wr n R "round" [(1, [x]), (-1, [y])]) S := by
  have jl : J < S.length := (List.getElem?_eq_some_iff.mp hJ).1
  refine fn_is rfl ?_ res_S
  refine i_seqO (i_ifT (v_tb (v_cb (v_cons (v_var rfl) (v_cons v_C v_nil)) x_isiF)) ?_)
  refine i_seq (w_unp (v_call (v_cons (v_tup (v_cons (v_var rfl) (v_cons (v_var rfl) v_nil)) (show 2 ≤ 16777216 by decide)) v_nil) (pair_ok hJ hn hv hw hT)) rfl) ?_
  refine i_ret (v_call (l := [.ref J, rowsD R, .str "round", termsD [(1, [x]), (-1, [y])]]) (v_cons (v_fld (v_var rfl) x_fz rfl) (v_cons (v_var rfl) (v_cons v_C (v_cons (v_tup (v_cons (v_tup (v_cons v_C (v_cons (v_sl (v_var rfl) v_moN (v_moS v_C) sl2a) v_nil)) (show 2 ≤ 16777216 by decide)) (v_cons (v_tup (v_cons (v_un v_C rfl) (v_cons (v_sl (v_var rfl) (v_moS v_C) v_moN sl2b) v_nil)) (show 2 ≤ 16777216 by decide)) v_nil)) (show 2 ≤ 16777216 by decide)) v_nil)))) (wr_okX hJ hn k)) res_ne
theorem mul_vv (hw : VaOk n w) (hT : togR n ([], []) [v, w] = (R, [x, y])) (k : WrX n R "round" [(1, [x, y])]) : m_Value___mul__ c [vaD c J v, vaD c J w] S = resX c J (wr n R "round" [(1, [x, y])]) S := by
  have jl : J < S.length := (List.getElem?_eq_some_iff.mp hJ).1
  refine fn_is rfl ?_ res_S
  refine i_seqO (i_ifT (v_tb (v_cb (v_cons (v_var rfl) (v_cons v_C v_nil)) x_isiF)) ?_)
  refine i_seq (w_unp (v_call (v_cons (v_tup (v_cons (v_var rfl) (v_cons (v_var rfl) v_nil)) (show 2 ≤ 16777216 by decide)) v_nil) (pair_ok hJ hn hv hw hT)) rfl) ?_
  refine i_ret (v_call (l := [.ref J, rowsD R, .str "round", termsD [(1, [x, y])]]) (v_cons (v_fld (v_var rfl) x_fz rfl) (v_cons (v_var rfl) (v_cons v_C (v_cons (v_tup (v_cons (v_tup (v_cons v_C (v_cons (v_var rfl) v_nil)) (show 2 ≤ 16777216 by decide)) v_nil) (show 1 ≤ 16777216 by decide)) v_nil)))) (wr_okX hJ hn k)) res_ne
theorem fused_ok {z : Va} {s : Nat} (hw : VaOk n w) (hz : VaOk n z) (hT : togR n ([], []) [v, w, z] = (R, [x, y, s])) (k : WrX n R "round" [(1, [x, y]), (1, [s])]) : m_Value_fused c [vaD c J v, vaD c J w, vaD c J z] S = resX c J (wr n R "round" [(1, [x, y]), (1, [s])]) S := by
  have jl : J < S.length := (List.getElem?_eq_some_iff.mp hJ).1
  have h := K70.together_ok (c := c7 c) (vs := [v, w, z]) hJ hn (fun z' hz' => by
    rcases List.mem_cons.mp hz' with rfl | hz'
    · exact hv
    · rcases List.mem_cons.mp hz' with rfl | hz'
      · exact hw
      · rw [List.mem_singleton.mp hz']; exact hz) (by simp) (show 3 < 8 by decide)
  rw [hT] at h
  refine fn_is rfl ?_ res_S
  refine i_seq (w_unp (v_call (v_cons (v_tup (v_cons (v_var rfl) (v_cons (v_var rfl) (v_cons (v_var rfl) v_nil))) (show 3 ≤ 16777216 by decide)) v_nil) h) rfl) ?_
  refine i_ret (v_call (l := [.ref J, rowsD R, .str "round", termsD [(1, [x, y]), (1, [s])]]) (v_cons (v_fld (v_var rfl) x_fz rfl) (v_cons (v_var rfl) (v_cons v_C (v_cons (v_tup (v_cons (v_tup (v_cons v_C (v_cons (v_sl (v_var rfl) v_moN (v_moS v_C) sl3a) v_nil)) (show 2 ≤ 16777216 by decide)) (v_cons (v_tup (v_cons v_C (v_cons (v_sl (v_var rfl) (v_moS v_C) v_moN sl3b) v_nil)) (show 2 ≤ 16777216 by decide)) v_nil)) (show 2 ≤ 16777216 by decide)) v_nil)))) (wr_okX hJ hn k)) res_ne
variable {i : Int}
theorem add_vi (k : WrX n v.rows "round" [(1, [v.place]), (i, [])]) : m_Value___add__ c [vaD c J v, .int i] S = resX c J (wr n v.rows "round" [(1, [v.place]), (i, [])]) S := by
  have jl : J < S.length := (List.getElem?_eq_some_iff.mp hJ).1
  refine fn_is rfl ?_ res_S
  refine i_seq (w_ifF (v_tb (v_cb (v_cons (v_var rfl) (v_cons v_C v_nil)) x_isiI)) w_nil) ?_
  exact i_ret (v_call (l := [.ref J, rowsD v.rows, .str "round", termsD [(1, [v.place]), (i, [])]]) (v_cons (v_fld (v_var rfl) x_fz rfl) (v_cons (v_fld (v_var rfl) x_fz rfl) (v_cons v_C (v_cons (v_tup (v_cons (v_tup (v_cons v_C (v_cons (v_tup (v_cons (v_fld (v_var rfl) x_fz rfl) v_nil) (show 1 ≤ 16777216 by decide)) v_nil)) (show 2 ≤ 16777216 by decide)) (v_cons (v_tup (v_cons (v_var rfl) (v_cons (v_tup v_nil (show 0 ≤ 16777216 by decide)) v_nil)) (show 2 ≤ 16777216 by decide)) v_nil)) (show 2 ≤ 16777216 by decide)) v_nil)))) (wr_okX hJ hn k)) res_ne
theorem sub_vi (k : WrX n v.rows "round" [(1, [v.place]), (0 - i, [])]) : m_Value___sub__ c [vaD c J v, .int i] S = resX c J (wr n v.rows "round" [(1, [v.place]), (0 - i, [])]) S := by
  have jl : J < S.length := (List.getElem?_eq_some_iff.mp hJ).1
  refine fn_is rfl ?_ res_S
  refine i_seq (w_ifF (v_tb (v_cb (v_cons (v_var rfl) (v_cons v_C v_nil)) x_isiI)) w_nil) ?_
  exact i_ret (v_call (l := [.ref J, rowsD v.rows, .str "round", termsD [(1, [v.place]), (0 - i, [])]]) (v_cons (v_fld (v_var rfl) x_fz rfl) (v_cons (v_fld (v_var rfl) x_fz rfl) (v_cons v_C (v_cons (v_tup (v_cons (v_tup (v_cons v_C (v_cons (v_tup (v_cons (v_fld (v_var rfl) x_fz rfl) v_nil) (show 1 ≤ 16777216 by decide)) v_nil)) (show 2 ≤ 16777216 by decide)) (v_cons (v_tup (v_cons (v_bin v_C (v_var rfl) Ev.x_subI) (v_cons (v_tup v_nil (show 0 ≤ 16777216 by decide)) v_nil)) (show 2 ≤ 16777216 by decide)) v_nil)) (show 2 ≤ 16777216 by decide)) v_nil)))) (wr_okX hJ hn k)) res_ne
theorem mul_vi (k : WrX n v.rows "round" [(i, [v.place])]) : m_Value___mul__ c [vaD c J v, .int i] S = resX c J (wr n v.rows "round" [(i, [v.place])]) S := by
  have jl : J < S.length := (List.getElem?_eq_some_iff.mp hJ).1
  refine fn_is rfl ?_ res_S
  refine i_seq (w_ifF (v_tb (v_cb (v_cons (v_var rfl) (v_cons v_C v_nil)) x_isiI)) w_nil) ?_
  exact i_ret (v_call (l := [.ref J, rowsD v.rows, .str "round", termsD [(i, [v.place])]]) (v_cons (v_fld (v_var rfl) x_fz rfl) (v_cons (v_fld (v_var rfl) x_fz rfl) (v_cons v_C (v_cons (v_tup (v_cons (v_tup (v_cons (v_var rfl) (v_cons (v_tup (v_cons (v_fld (v_var rfl) x_fz rfl) v_nil) (show 1 ≤ 16777216 by decide)) v_nil)) (show 2 ≤ 16777216 by decide)) v_nil) (show 1 ≤ 16777216 by decide)) v_nil)))) (wr_okX hJ hn k)) res_ne
theorem rmul_vi (k : WrX n v.rows "round" [(i, [v.place])]) : m_Value___rmul__ c [vaD c J v, .int i] S = resX c J (wr n v.rows "round" [(i, [v.place])]) S := by
  have jl : J < S.length := (List.getElem?_eq_some_iff.mp hJ).1
  refine fn_is rfl ?_ res_S
  exact i_ret (v_call (l := [.ref J, rowsD v.rows, .str "round", termsD [(i, [v.place])]]) (v_cons (v_fld (v_var rfl) x_fz rfl) (v_cons (v_fld (v_var rfl) x_fz rfl) (v_cons v_C (v_cons (v_tup (v_cons (v_tup (v_cons (v_var rfl) (v_cons (v_tup (v_cons (v_fld (v_var rfl) x_fz rfl) v_nil) (show 1 ≤ 16777216 by decide)) v_nil)) (show 2 ≤ 16777216 by decide)) v_nil) (show 1 ≤ 16777216 by decide)) v_nil)))) (wr_okX hJ hn k)) res_ne
theorem radd_vi (k : WrX n v.rows "round" [(i, []), (1, [v.place])]) : m_Value___radd__ c [vaD c J v, .int i] S = resX c J (wr n v.rows "round" [(i, []), (1, [v.place])]) S := by
  have jl : J < S.length := (List.getElem?_eq_some_iff.mp hJ).1
  refine fn_is rfl ?_ res_S
  exact i_ret (v_call (l := [.ref J, rowsD v.rows, .str "round", termsD [(i, []), (1, [v.place])]]) (v_cons (v_fld (v_var rfl) x_fz rfl) (v_cons (v_fld (v_var rfl) x_fz rfl) (v_cons v_C (v_cons (v_tup (v_cons (v_tup (v_cons (v_var rfl) (v_cons (v_tup v_nil (show 0 ≤ 16777216 by decide)) v_nil)) (show 2 ≤ 16777216 by decide)) (v_cons (v_tup (v_cons v_C (v_cons (v_tup (v_cons (v_fld (v_var rfl) x_fz rfl) v_nil) (show 1 ≤ 16777216 by decide)) v_nil)) (show 2 ≤ 16777216 by decide)) v_nil)) (show 2 ≤ 16777216 by decide)) v_nil)))) (wr_okX hJ hn k)) res_ne
theorem rsub_vi (k : WrX n v.rows "round" [(i, []), (-1, [v.place])]) : m_Value___rsub__ c [vaD c J v, .int i] S = resX c J (wr n v.rows "round" [(i, []), (-1, [v.place])]) S := by
  have jl : J < S.length := (List.getElem?_eq_some_iff.mp hJ).1
  refine fn_is rfl ?_ res_S
  exact i_ret (v_call (l := [.ref J, rowsD v.rows, .str "round", termsD [(i, []), (-1, [v.place])]]) (v_cons (v_fld (v_var rfl) x_fz rfl) (v_cons (v_fld (v_var rfl) x_fz rfl) (v_cons v_C (v_cons (v_tup (v_cons (v_tup (v_cons (v_var rfl) (v_cons (v_tup v_nil (show 0 ≤ 16777216 by decide)) v_nil)) (show 2 ≤ 16777216 by decide)) (v_cons (v_tup (v_cons (v_un v_C rfl) (v_cons (v_tup (v_cons (v_fld (v_var rfl) x_fz rfl) v_nil) (show 1 ≤ 16777216 by decide)) v_nil)) (show 2 ≤ 16777216 by decide)) v_nil)) (show 2 ≤ 16777216 by decide)) v_nil)))) (wr_okX hJ hn k)) res_ne
theorem neg_v (k : WrX n v.rows "exact" [(-1, [v.place])]) : m_Value___neg__ c [vaD c J v] S = resX c J (wr n v.rows "exact" [(-1, [v.place])]) S := by
  have jl : J < S.length := (List.getElem?_eq_some_iff.mp hJ).1
  refine fn_is rfl ?_ res_S
  exact i_ret (v_call (l := [.ref J, rowsD v.rows, .str "exact", termsD [(-1, [v.place])]]) (v_cons (v_fld (v_var rfl) x_fz rfl) (v_cons (v_fld (v_var rfl) x_fz rfl) (v_cons v_C (v_cons (v_tup (v_cons (v_tup (v_cons (v_un v_C rfl) (v_cons (v_tup (v_cons (v_fld (v_var rfl) x_fz rfl) v_nil) (show 1 ≤ 16777216 by decide)) v_nil)) (show 2 ≤ 16777216 by decide)) v_nil) (show 1 ≤ 16777216 by decide)) v_nil)))) (wr_okX hJ hn k)) res_ne
theorem shl_v {j : Int} (hi : ∀ T, gShl T (.int 1) (.int i) = some (.int j)) (k : WrX n v.rows "exact" [(j, [v.place])]) : m_Value___lshift__ c [vaD c J v, .int i] S = resX c J (wr n v.rows "exact" [(j, [v.place])]) S := by
  have jl : J < S.length := (List.getElem?_eq_some_iff.mp hJ).1
  refine fn_is rfl ?_ res_S
  exact i_ret (v_call (l := [.ref J, rowsD v.rows, .str "exact", termsD [(j, [v.place])]]) (v_cons (v_fld (v_var rfl) x_fz rfl) (v_cons (v_fld (v_var rfl) x_fz rfl) (v_cons v_C (v_cons (v_tup (v_cons (v_tup (v_cons (v_bin v_C (v_var rfl) (hi _)) (v_cons (v_tup (v_cons (v_fld (v_var rfl) x_fz rfl) v_nil) (show 1 ≤ 16777216 by decide)) v_nil)) (show 2 ≤ 16777216 by decide)) v_nil) (show 1 ≤ 16777216 by decide)) v_nil)))) (wr_okX hJ hn k)) res_ne
end
section
variable {V : Nat} {l : List D} {p q s i : Int} {a b f : D} {q0 : R D}
theorem lv_0 (hV : S[V]? = some (.lst l)) (gp : atI l p = some a) (gq : atI l q = some b) (gs : atI l s = some f) (ia : isI c.Value S a = true) (ib : isI c.Value S b = true) (h : m_Value___add__ c [a, b] S = q0) (hq : q0 ≠ .bad) (hS : (∃ d, q0 = .ok d S) ∨ ∃ x, q0 = .er x S) : m__law_value c [.ref V, .tup [.str "+", .lst [.int p, .int q, .int s], .int i]] S = q0 := by
  refine fn_is rfl ?_ hS
  refine i_seq (w_unp (e' := [some (.ref V), some (.tup [.str "+", .lst [.int p, .int q, .int s], .int i]), some (.str "+"), some (.int p), some (.int q), some (.int s), some (.int i), none, none, none]) (v_var rfl) rfl) ?_
  refine i_seq (e1 := [some (.ref V), some (.tup [.str "+", .lst [.int p, .int q, .int s], .int i]), some (.str "+"), some (.int p), some (.int q), some (.int s), some (.int i), some a, some b, none]) (S1 := S) (w_par (v_cons (v_bin (v_var rfl) (v_var rfl) (x_ix hV gp)) (v_cons (v_bin (v_var rfl) (v_var rfl) (x_ix hV gq)) v_nil))) ?_
  refine i_seq (w_ifF (S1 := S) (by kernel_rfl) w_nil) ?_
  exact i_seqO (i_ifT (S1 := S) (by kernel_rfl) (i_ret (v_ifT (S1 := S) (by kernel_rfl) (v_binOO (v_var rfl) (v_var rfl) ia ib h)) hq))
theorem lv_1 (hV : S[V]? = some (.lst l)) (gp : atI l p = some a) (gq : atI l q = some b) (gs : atI l s = some f) (ia : isI c.Value S a = true) (ib : isI c.Value S b = true) (h : m_Value___sub__ c [a, b] S = q0) (hq : q0 ≠ .bad) (hS : (∃ d, q0 = .ok d S) ∨ ∃ x, q0 = .er x S) : m__law_value c [.ref V, .tup [.str "-", .lst [.int p, .int q, .int s], .int i]] S = q0 := by
  refine fn_is rfl ?_ hS
  refine i_seq (w_unp (e' := [some (.ref V), some (.tup [.str "-", .lst [.int p, .int q, .int s], .int i]), some (.str "-"), some (.int p), some (.int q), some (.int s), some (.int i), none, none, none]) (v_var rfl) rfl) ?_
  refine i_seq (e1 := [some (.ref V), some (.tup [.str "-", .lst [.int p, .int q, .int s], .int i]), some (.str "-"), some (.int p), some (.int q), some (.int s), some (.int i), some a, some b, none]) (S1 := S) (w_par (v_cons (v_bin (v_var rfl) (v_var rfl) (x_ix hV gp)) (v_cons (v_bin (v_var rfl) (v_var rfl) (x_ix hV gq)) v_nil))) ?_
  refine i_seq (w_ifF (S1 := S) (by kernel_rfl) w_nil) ?_
  exact i_seqO (i_ifT (S1 := S) (by kernel_rfl) (i_ret (v_ifF (S1 := S) (by kernel_rfl) (v_binOO (v_var rfl) (v_var rfl) ia ib h)) hq))
theorem lv_2 (hV : S[V]? = some (.lst l)) (gp : atI l p = some a) (gq : atI l q = some b) (gs : atI l s = some f) (ia : isI c.Value S a = true) (ib : isI c.Value S b = true) (h : m_Value___mul__ c [a, b] S = q0) (hq : q0 ≠ .bad) (hS : (∃ d, q0 = .ok d S) ∨ ∃ x, q0 = .er x S) : m__law_value c [.ref V, .tup [.str "*", .lst [.int p, .int q, .int s], .int i]] S = q0 := by
  refine fn_is rfl ?_ hS
  refine i_seq (w_unp (e' := [some (.ref V), some (.tup [.str "*", .lst [.int p, .int q, .int s], .int i]), some (.str "*"), some (.int p), some (.int q), some (.int s), some (.int i), none, none, none]) (v_var rfl) rfl) ?_
  refine i_seq (e1 := [some (.ref V), some (.tup [.str "*", .lst [.int p, .int q, .int s], .int i]), some (.str "*"), some (.int p), some (.int q), some (.int s), some (.int i), some a, some b, none]) (S1 := S) (w_par (v_cons (v_bin (v_var rfl) (v_var rfl) (x_ix hV gp)) (v_cons (v_bin (v_var rfl) (v_var rfl) (x_ix hV gq)) v_nil))) ?_
  refine i_seq (w_ifF (S1 := S) (by kernel_rfl) w_nil) ?_
  refine i_seq (w_ifF (S1 := S) (by kernel_rfl) w_nil) ?_
  refine i_seq (w_ifF (S1 := S) (by kernel_rfl) w_nil) ?_
  refine i_seq (w_ifF (S1 := S) (by kernel_rfl) w_nil) ?_
  refine i_seq (w_ifF (S1 := S) (by kernel_rfl) w_nil) ?_
  refine i_seq (w_ifF (S1 := S) (by kernel_rfl) w_nil) ?_
  exact i_ret (v_ifT (S1 := S) (by kernel_rfl) (v_binOO (v_var rfl) (v_var rfl) ia ib h)) hq
theorem lv_3 (hV : S[V]? = some (.lst l)) (gp : atI l p = some a) (gq : atI l q = some b) (gs : atI l s = some f) (ia : isI c.Value S a = true) (ib : isI c.Value S b = true) (h : m_Value_fused c [a, b, f] S = q0) (hq : q0 ≠ .bad) (hS : (∃ d, q0 = .ok d S) ∨ ∃ x, q0 = .er x S) : m__law_value c [.ref V, .tup [.str "f", .lst [.int p, .int q, .int s], .int i]] S = q0 := by
  refine fn_is rfl ?_ hS
  refine i_seq (w_unp (e' := [some (.ref V), some (.tup [.str "f", .lst [.int p, .int q, .int s], .int i]), some (.str "f"), some (.int p), some (.int q), some (.int s), some (.int i), none, none, none]) (v_var rfl) rfl) ?_
  refine i_seq (e1 := [some (.ref V), some (.tup [.str "f", .lst [.int p, .int q, .int s], .int i]), some (.str "f"), some (.int p), some (.int q), some (.int s), some (.int i), some a, some b, none]) (S1 := S) (w_par (v_cons (v_bin (v_var rfl) (v_var rfl) (x_ix hV gp)) (v_cons (v_bin (v_var rfl) (v_var rfl) (x_ix hV gq)) v_nil))) ?_
  refine i_seq (w_ifF (S1 := S) (by kernel_rfl) w_nil) ?_
  refine i_seq (w_ifF (S1 := S) (by kernel_rfl) w_nil) ?_
  refine i_seq (w_ifF (S1 := S) (by kernel_rfl) w_nil) ?_
  refine i_seq (w_ifF (S1 := S) (by kernel_rfl) w_nil) ?_
  refine i_seq (w_ifF (S1 := S) (by kernel_rfl) w_nil) ?_
  refine i_seq (w_ifF (S1 := S) (by kernel_rfl) w_nil) ?_
  exact i_ret (v_ifF (S1 := S) (by kernel_rfl) (v_call (l := [a, b, f]) (v_cons (v_var rfl) (v_cons (v_var rfl) (v_cons (v_bin (v_var rfl) (v_var rfl) (x_ix hV gs)) v_nil))) h)) hq
theorem lv_4 (hV : S[V]? = some (.lst l)) (gp : atI l p = some a) (gq : atI l q = some b) (gs : atI l s = some f) (ia : isI c.Value S a = true) (ib : isI c.Value S b = true) (h : m_Value___add__ c [a, .int i] S = q0) (hq : q0 ≠ .bad) (hS : (∃ d, q0 = .ok d S) ∨ ∃ x, q0 = .er x S) : m__law_value c [.ref V, .tup [.str "+c", .lst [.int p, .int q, .int s], .int i]] S = q0 := by
  refine fn_is rfl ?_ hS
  refine i_seq (w_unp (e' := [some (.ref V), some (.tup [.str "+c", .lst [.int p, .int q, .int s], .int i]), some (.str "+c"), some (.int p), some (.int q), some (.int s), some (.int i), none, none, none]) (v_var rfl) rfl) ?_
  refine i_seq (e1 := [some (.ref V), some (.tup [.str "+c", .lst [.int p, .int q, .int s], .int i]), some (.str "+c"), some (.int p), some (.int q), some (.int s), some (.int i), some a, some b, none]) (S1 := S) (w_par (v_cons (v_bin (v_var rfl) (v_var rfl) (x_ix hV gp)) (v_cons (v_bin (v_var rfl) (v_var rfl) (x_ix hV gq)) v_nil))) ?_
  refine i_seq (w_ifF (S1 := S) (by kernel_rfl) w_nil) ?_
  refine i_seq (w_ifF (S1 := S) (by kernel_rfl) w_nil) ?_
  exact i_seqO (i_ifT (S1 := S) (by kernel_rfl) (i_ret (v_ifT (S1 := S) (by kernel_rfl) (v_binOI (v_var rfl) (v_var rfl) ia h)) hq))
theorem lv_5 (hV : S[V]? = some (.lst l)) (gp : atI l p = some a) (gq : atI l q = some b) (gs : atI l s = some f) (ia : isI c.Value S a = true) (ib : isI c.Value S b = true) (h : m_Value___radd__ c [a, .int i] S = q0) (hq : q0 ≠ .bad) (hS : (∃ d, q0 = .ok d S) ∨ ∃ x, q0 = .er x S) : m__law_value c [.ref V, .tup [.str "c+", .lst [.int p, .int q, .int s], .int i]] S = q0 := by
  refine fn_is rfl ?_ hS
  refine i_seq (w_unp (e' := [some (.ref V), some (.tup [.str "c+", .lst [.int p, .int q, .int s], .int i]), some (.str "c+"), some (.int p), some (.int q), some (.int s), some (.int i), none, none, none]) (v_var rfl) rfl) ?_
  refine i_seq (e1 := [some (.ref V), some (.tup [.str "c+", .lst [.int p, .int q, .int s], .int i]), some (.str "c+"), some (.int p), some (.int q), some (.int s), some (.int i), some a, some b, none]) (S1 := S) (w_par (v_cons (v_bin (v_var rfl) (v_var rfl) (x_ix hV gp)) (v_cons (v_bin (v_var rfl) (v_var rfl) (x_ix hV gq)) v_nil))) ?_
  refine i_seq (w_ifF (S1 := S) (by kernel_rfl) w_nil) ?_
  refine i_seq (w_ifF (S1 := S) (by kernel_rfl) w_nil) ?_
  exact i_seqO (i_ifT (S1 := S) (by kernel_rfl) (i_ret (v_ifF (S1 := S) (by kernel_rfl) (v_binIO (v_var rfl) (v_var rfl) ia h)) hq))
theorem lv_6 (hV : S[V]? = some (.lst l)) (gp : atI l p = some a) (gq : atI l q = some b) (gs : atI l s = some f) (ia : isI c.Value S a = true) (ib : isI c.Value S b = true) (h : m_Value___sub__ c [a, .int i] S = q0) (hq : q0 ≠ .bad) (hS : (∃ d, q0 = .ok d S) ∨ ∃ x, q0 = .er x S) : m__law_value c [.ref V, .tup [.str "-c", .lst [.int p, .int q, .int s], .int i]] S = q0 := by
  refine fn_is rfl ?_ hS
  refine i_seq (w_unp (e' := [some (.ref V), some (.tup [.str "-c", .lst [.int p, .int q, .int s], .int i]), some (.str "-c"), some (.int p), some (.int q), some (.int s), some (.int i), none, none, none]) (v_var rfl) rfl) ?_
  refine i_seq (e1 := [some (.ref V), some (.tup [.str "-c", .lst [.int p, .int q, .int s], .int i]), some (.str "-c"), some (.int p), some (.int q), some (.int s), some (.int i), some a, some b, none]) (S1 := S) (w_par (v_cons (v_bin (v_var rfl) (v_var rfl) (x_ix hV gp)) (v_cons (v_bin (v_var rfl) (v_var rfl) (x_ix hV gq)) v_nil))) ?_
  refine i_seq (w_ifF (S1 := S) (by kernel_rfl) w_nil) ?_
  refine i_seq (w_ifF (S1 := S) (by kernel_rfl) w_nil) ?_
  refine i_seq (w_ifF (S1 := S) (by kernel_rfl) w_nil) ?_
  exact i_seqO (i_ifT (S1 := S) (by kernel_rfl) (i_ret (v_ifT (S1 := S) (by kernel_rfl) (v_binOI (v_var rfl) (v_var rfl) ia h)) hq))
theorem lv_7 (hV : S[V]? = some (.lst l)) (gp : atI l p = some a) (gq : atI l q = some b) (gs : atI l s = some f) (ia : isI c.Value S a = true) (ib : isI c.Value S b = true) (h : m_Value___rsub__ c [a, .int i] S = q0) (hq : q0 ≠ .bad) (hS : (∃ d, q0 = .ok d S) ∨ ∃ x, q0 = .er x S) : m__law_value c [.ref V, .tup [.str "c-", .lst [.int p, .int q, .int s], .int i]] S = q0 := by
  refine fn_is rfl ?_ hS
  refine i_seq (w_unp (e' := [some (.ref V), some (.tup [.str "c-", .lst [.int p, .int q, .int s], .int i]), some (.str "c-"), some (.int p), some (.int q), some (.int s), some (.int i), none, none, none]) (v_var rfl) rfl) ?_
  refine i_seq (e1 := [some (.ref V), some (.tup [.str "c-", .lst [.int p, .int q, .int s], .int i]), some (.str "c-"), some (.int p), some (.int q), some (.int s), some (.int i), some a, some b, none]) (S1 := S) (w_par (v_cons (v_bin (v_var rfl) (v_var rfl) (x_ix hV gp)) (v_cons (v_bin (v_var rfl) (v_var rfl) (x_ix hV gq)) v_nil))) ?_
  refine i_seq (w_ifF (S1 := S) (by kernel_rfl) w_nil) ?_
  refine i_seq (w_ifF (S1 := S) (by kernel_rfl) w_nil) ?_
  refine i_seq (w_ifF (S1 := S) (by kernel_rfl) w_nil) ?_
  exact i_seqO (i_ifT (S1 := S) (by kernel_rfl) (i_ret (v_ifF (S1 := S) (by kernel_rfl) (v_binIO (v_var rfl) (v_var rfl) ia h)) hq))
theorem lv_8 (hV : S[V]? = some (.lst l)) (gp : atI l p = some a) (gq : atI l q = some b) (gs : atI l s = some f) (ia : isI c.Value S a = true) (ib : isI c.Value S b = true) (h : m_Value___mul__ c [a, .int i] S = q0) (hq : q0 ≠ .bad) (hS : (∃ d, q0 = .ok d S) ∨ ∃ x, q0 = .er x S) : m__law_value c [.ref V, .tup [.str "*c", .lst [.int p, .int q, .int s], .int i]] S = q0 := by
  refine fn_is rfl ?_ hS
  refine i_seq (w_unp (e' := [some (.ref V), some (.tup [.str "*c", .lst [.int p, .int q, .int s], .int i]), some (.str "*c"), some (.int p), some (.int q), some (.int s), some (.int i), none, none, none]) (v_var rfl) rfl) ?_
  refine i_seq (e1 := [some (.ref V), some (.tup [.str "*c", .lst [.int p, .int q, .int s], .int i]), some (.str "*c"), some (.int p), some (.int q), some (.int s), some (.int i), some a, some b, none]) (S1 := S) (w_par (v_cons (v_bin (v_var rfl) (v_var rfl) (x_ix hV gp)) (v_cons (v_bin (v_var rfl) (v_var rfl) (x_ix hV gq)) v_nil))) ?_
  refine i_seq (w_ifF (S1 := S) (by kernel_rfl) w_nil) ?_
  refine i_seq (w_ifF (S1 := S) (by kernel_rfl) w_nil) ?_
  refine i_seq (w_ifF (S1 := S) (by kernel_rfl) w_nil) ?_
  refine i_seq (w_ifF (S1 := S) (by kernel_rfl) w_nil) ?_
  exact i_seqO (i_ifT (S1 := S) (by kernel_rfl) (i_ret (v_ifT (S1 := S) (by kernel_rfl) (v_binOI (v_var rfl) (v_var rfl) ia h)) hq))
theorem lv_9 (hV : S[V]? = some (.lst l)) (gp : atI l p = some a) (gq : atI l q = some b) (gs : atI l s = some f) (ia : isI c.Value S a = true) (ib : isI c.Value S b = true) (h : m_Value___rmul__ c [a, .int i] S = q0) (hq : q0 ≠ .bad) (hS : (∃ d, q0 = .ok d S) ∨ ∃ x, q0 = .er x S) : m__law_value c [.ref V, .tup [.str "c*", .lst [.int p, .int q, .int s], .int i]] S = q0 := by
  refine fn_is rfl ?_ hS
  refine i_seq (w_unp (e' := [some (.ref V), some (.tup [.str "c*", .lst [.int p, .int q, .int s], .int i]), some (.str "c*"), some (.int p), some (.int q), some (.int s), some (.int i), none, none, none]) (v_var rfl) rfl) ?_
  refine i_seq (e1 := [some (.ref V), some (.tup [.str "c*", .lst [.int p, .int q, .int s], .int i]), some (.str "c*"), some (.int p), some (.int q), some (.int s), some (.int i), some a, some b, none]) (S1 := S) (w_par (v_cons (v_bin (v_var rfl) (v_var rfl) (x_ix hV gp)) (v_cons (v_bin (v_var rfl) (v_var rfl) (x_ix hV gq)) v_nil))) ?_
  refine i_seq (w_ifF (S1 := S) (by kernel_rfl) w_nil) ?_
  refine i_seq (w_ifF (S1 := S) (by kernel_rfl) w_nil) ?_
  refine i_seq (w_ifF (S1 := S) (by kernel_rfl) w_nil) ?_
  refine i_seq (w_ifF (S1 := S) (by kernel_rfl) w_nil) ?_
  exact i_seqO (i_ifT (S1 := S) (by kernel_rfl) (i_ret (v_ifF (S1 := S) (by kernel_rfl) (v_binIO (v_var rfl) (v_var rfl) ia h)) hq))
theorem lv_10 (hV : S[V]? = some (.lst l)) (gp : atI l p = some a) (gq : atI l q = some b) (gs : atI l s = some f) (ia : isI c.Value S a = true) (ib : isI c.Value S b = true) (h : m_Value___neg__ c [a] S = q0) (hq : q0 ≠ .bad) (hS : (∃ d, q0 = .ok d S) ∨ ∃ x, q0 = .er x S) : m__law_value c [.ref V, .tup [.str "n", .lst [.int p, .int q, .int s], .int i]] S = q0 := by
  refine fn_is rfl ?_ hS
  refine i_seq (w_unp (e' := [some (.ref V), some (.tup [.str "n", .lst [.int p, .int q, .int s], .int i]), some (.str "n"), some (.int p), some (.int q), some (.int s), some (.int i), none, none, none]) (v_var rfl) rfl) ?_
  refine i_seq (e1 := [some (.ref V), some (.tup [.str "n", .lst [.int p, .int q, .int s], .int i]), some (.str "n"), some (.int p), some (.int q), some (.int s), some (.int i), some a, some b, none]) (S1 := S) (w_par (v_cons (v_bin (v_var rfl) (v_var rfl) (x_ix hV gp)) (v_cons (v_bin (v_var rfl) (v_var rfl) (x_ix hV gq)) v_nil))) ?_
  refine i_seq (w_ifF (S1 := S) (by kernel_rfl) w_nil) ?_
  refine i_seq (w_ifF (S1 := S) (by kernel_rfl) w_nil) ?_
  refine i_seq (w_ifF (S1 := S) (by kernel_rfl) w_nil) ?_
  refine i_seq (w_ifF (S1 := S) (by kernel_rfl) w_nil) ?_
  refine i_seq (w_ifF (S1 := S) (by kernel_rfl) w_nil) ?_
  exact i_seqO (i_ifT (S1 := S) (by kernel_rfl) (i_ret (v_ifT (S1 := S) (by kernel_rfl) (v_unO (v_var rfl) ia h)) hq))
theorem lv_11 (hV : S[V]? = some (.lst l)) (gp : atI l p = some a) (gq : atI l q = some b) (gs : atI l s = some f) (ia : isI c.Value S a = true) (ib : isI c.Value S b = true) (h : m_Value___lshift__ c [a, .int i] S = q0) (hq : q0 ≠ .bad) (hS : (∃ d, q0 = .ok d S) ∨ ∃ x, q0 = .er x S) : m__law_value c [.ref V, .tup [.str "<", .lst [.int p, .int q, .int s], .int i]] S = q0 := by
  refine fn_is rfl ?_ hS
  refine i_seq (w_unp (e' := [some (.ref V), some (.tup [.str "<", .lst [.int p, .int q, .int s], .int i]), some (.str "<"), some (.int p), some (.int q), some (.int s), some (.int i), none, none, none]) (v_var rfl) rfl) ?_
  refine i_seq (e1 := [some (.ref V), some (.tup [.str "<", .lst [.int p, .int q, .int s], .int i]), some (.str "<"), some (.int p), some (.int q), some (.int s), some (.int i), some a, some b, none]) (S1 := S) (w_par (v_cons (v_bin (v_var rfl) (v_var rfl) (x_ix hV gp)) (v_cons (v_bin (v_var rfl) (v_var rfl) (x_ix hV gq)) v_nil))) ?_
  refine i_seq (w_ifF (S1 := S) (by kernel_rfl) w_nil) ?_
  refine i_seq (w_ifF (S1 := S) (by kernel_rfl) w_nil) ?_
  refine i_seq (w_ifF (S1 := S) (by kernel_rfl) w_nil) ?_
  refine i_seq (w_ifF (S1 := S) (by kernel_rfl) w_nil) ?_
  refine i_seq (w_ifF (S1 := S) (by kernel_rfl) w_nil) ?_
  exact i_seqO (i_ifT (S1 := S) (by kernel_rfl) (i_ret (v_ifF (S1 := S) (by kernel_rfl) (v_binLI (v_var rfl) (v_var rfl) ia h)) hq))
theorem lv_12 (hV : S[V]? = some (.lst l)) (gp : atI l p = some a) (gq : atI l q = some b) (gs : atI l s = some f) (ia : isI c.Value S a = true) (ib : isI c.Value S b = true) (h : m_Value___add__ c [a, b] S = q0) (hq : q0 ≠ .bad) (hS : (∃ d, q0 = .ok d S) ∨ ∃ x, q0 = .er x S) : m__law_value c [.ref V, .tup [.str "+=", .lst [.int p, .int q, .int s], .int i]] S = q0 := by
  refine fn_is rfl ?_ hS
  refine i_seq (w_unp (e' := [some (.ref V), some (.tup [.str "+=", .lst [.int p, .int q, .int s], .int i]), some (.str "+="), some (.int p), some (.int q), some (.int s), some (.int i), none, none, none]) (v_var rfl) rfl) ?_
  refine i_seq (e1 := [some (.ref V), some (.tup [.str "+=", .lst [.int p, .int q, .int s], .int i]), some (.str "+="), some (.int p), some (.int q), some (.int s), some (.int i), some a, some b, none]) (S1 := S) (w_par (v_cons (v_bin (v_var rfl) (v_var rfl) (x_ix hV gp)) (v_cons (v_bin (v_var rfl) (v_var rfl) (x_ix hV gq)) v_nil))) ?_
  refine i_seqO (i_ifT (S1 := S) (by kernel_rfl) ?_)
  refine i_seq (e1 := [some (.ref V), some (.tup [.str "+=", .lst [.int p, .int q, .int s], .int i]), some (.str "+="), some (.int p), some (.int q), some (.int s), some (.int i), some a, some b, some a]) (S1 := S) (w_asg (v_var rfl)) ?_
  exact i_aug (a := a) (b := b) (S1 := S) (show 9 < 10 by decide) rfl (v_var rfl) ia ib h hq


end
end K71

namespace Ev
open PySem PySem.Spec L2 PyProof.Rows Mo
theorem fnM_congr {np n : Nat} {b b' : MS} {ds : List D} {S : List O} (h : b (ds.map some ++ List.replicate (n - ds.length) none) S = b' (ds.map some ++ List.replicate (n - ds.length) none) S) : fnM np n b ds S = fnM np n b' ds S := by unfold fnM; rw [h]
section
variable {e e1 e2 : Mo.Env} {S S1 S2 : List O} {b h : MS} {mt : List (Addr × Bool)} {i : Nat} {x : Xc}
theorem w_tryN (h1 : b e S = .nx e1 S1) : sTryA mt i b h e S = .nx e1 S1 := by unfold sTryA; rw [h1]
theorem w_tryX (h1 : b e S = .er x e1 S1) (h2 : exM mt x.cls = some true) (h3 : x.fs = none) (h4 : i < e1.length) (h5 : h (e1.set i none) S1 = .nx e2 S2) : sTryA mt i b h e S = .nx (e2.set i none) S2 := by
  unfold sTryA
  rw [h1]
  dsimp only
  rw [h2]
  dsimp only
  rw [if_pos ⟨h3, h4⟩, h5]
end
end Ev
namespace K71
open PySem PySem.Spec L2 PyProof.Rows Mo Ev
variable {c : Cs} {S : List O} {J n : Nat} {u : D}
theorem made_ok {V : Nat} {node : D} {v : Va} (jl : J < S.length) (hl : m__law_value c [.ref V, node] S = resX c J v S) : m__law_made c [.ref V, node] S = .ok (if v.rows.length ≤ 12 then vaD c J v else .non) S := by
  unfold resX at hl
  by_cases h : v.rows.length ≤ 12
  · rw [if_pos h] at hl ⊢
    refine fn_lo (T := []) rfl ?_ (K70.lo_val jl _ _)
    rw [List.append_nil]
    refine w_seq (e1 := [some (.ref V), some node, some .non, none]) (S1 := S) rfl ?_
    refine w_seq (e1 := [some (.ref V), some node, some (vaD c J v), none]) (S1 := S) (w_tryN (w_asg (v_call (l := [.ref V, node]) (v_cons (v_var rfl) (v_cons (v_var rfl) v_nil)) hl))) ?_
    exact w_ret (v_var rfl)
  · rw [if_neg h] at hl ⊢
    refine fn_lo (T := []) rfl ?_ rfl
    rw [List.append_nil]
    refine w_seq (e1 := [some (.ref V), some node, some .non, none]) (S1 := S) rfl ?_
    have hb : sAsg 2 (mCall (m__law_value c) (mCons (mVar 0) (mCons (mVar 1) mNil))) [some (.ref V), some node, some .non, none] S = .er ⟨.ref c.TooLong, none⟩ [some (.ref V), some node, some .non, none] S := by
      unfold sAsg
      rw [v_call (l := [.ref V, node]) (v_cons (v_var rfl) (v_cons (v_var rfl) v_nil)) hl]
      rfl
    refine w_seq (e1 := [some (.ref V), some node, some .non, none]) (S1 := S) (w_tryX (e2 := [some (.ref V), some node, some .non, none]) hb (by simp [exM, List.lookup]) rfl (show 3 < 4 by decide) rfl) ?_
    exact w_ret (v_var rfl)
theorem lput_eq {rows more : List Rw} (hn : n < 1000) : m__law_put c [.int n, rowsD rows, rowsD more] S = m_put_rows c [.int n, rowsD rows, rowsD more] S := by
  let eB : Mo.Env := [some (.int n), some (rowsD rows), some (rowsD more), some (.ref S.length), some (.ref (S.length + 1)), none, none, none, none, none, none]
  let SB : List O := S ++ [.lst (rows.map rwD), .lst (intsN (List.range n))]
  have hr : rangeA1 [.int n] = some (intsN (List.range n)) := by
    show (if (n : Int).natAbs < 4611686018427387904 then some (rangeD 0 1 (n : Int).toNat) else none) = _
    rw [if_pos (by omega)]
    congr 1
    show (List.range (n : Int).toNat).map _ = (List.range n).map _
    rw [show (n : Int).toNat = n by omega]
    apply List.map_congr_left
    intro i hi
    congr 1
    omega
  have hl : (intsN (List.range n)).length ≤ 16777216 := by rw [List.length_map, List.length_range]; omega
  have h1 : ∀ rest : MS, sSeq (sAsg 3 (mCBN nList (mCons (mVar 1) mNil))) (sSeq (sAsg 4 (mListRN rangeA1 (mCons (mVar 0) mNil))) rest) [some (.int n), some (rowsD rows), some (rowsD more), none, none, none, none, none, none, none, none] S = rest eB SB := fun rest => by
    refine w_seq (w_asg (v_cbn (l := [rowsD rows]) (l0 := rows.map rwD) (v_cons (v_var rfl) v_nil) rfl)) ?_
    refine w_seq (w_asg (v_listRN (l := [.int n]) (l0 := intsN (List.range n)) (v_cons (v_var rfl) v_nil) hr hl)) ?_
    rw [List.length_append, List.append_assoc]
    rfl
  have h2 : ∀ rest : MS, sSeq (sUnp (tgT 2 (tgsC (tgN 3) (tgsC (tgN 4) tgsN))) (mTup (mCons (mCBN nList (mCons (mVar 1) mNil)) (mCons (mListRN rangeA1 (mCons (mVar 0) mNil)) mNil)))) rest [some (.int n), some (rowsD rows), some (rowsD more), none, none, none, none, none, none, none, none] S = rest eB SB := fun rest => by
    have hd : mTup (mCons (mCBN nList (mCons (mVar 1) mNil)) (mCons (mListRN rangeA1 (mCons (mVar 0) mNil)) mNil)) [some (.int n), some (rowsD rows), some (rowsD more), none, none, none, none, none, none, none, none] S = .ok (.tup [.ref S.length, .ref (S.length + 1)]) SB := by
      refine (v_tup (v_cons (v_cbn (l := [rowsD rows]) (l0 := rows.map rwD) (v_cons (v_var rfl) v_nil) rfl) (v_cons (v_listRN (l := [.int n]) (l0 := intsN (List.range n)) (v_cons (v_var rfl) v_nil) hr hl) v_nil)) (show 2 ≤ 16777216 by decide)).trans ?_
      rw [List.length_append, List.append_assoc]
      rfl
    exact w_seq (w_unp (e' := eB) hd rfl) rfl
  show nbF (fnM 3 11 (b__law_put c)) _ S = nbF (fnM 3 11 (b_put_rows c)) _ S
  have e3 : b__law_put c [some (.int n), some (rowsD rows), some (rowsD more), none, none, none, none, none, none, none, none] S = b_put_rows c [some (.int n), some (rowsD rows), some (rowsD more), none, none, none, none, none, none, none, none] S := (h2 _).trans (h1 _).symm
  have e4 : fnM 3 11 (b__law_put c) [.int n, rowsD rows, rowsD more] S = fnM 3 11 (b_put_rows c) [.int n, rowsD rows, rowsD more] S := fnM_congr e3
  unfold nbF
  rw [e4]
theorem lput_ok {rows more : List Rw} (hn : n < 1000) (h1 : ∀ r ∈ rows, Sh r) (h2 : ∀ r ∈ more, Sh r) (hf : ∀ k r, more[k]? = some r → Fit (n + k) r) (l1 : rows.length < 1000) (l2 : more.length < 1000) :
    m__law_put c [.int n, rowsD rows, rowsD more] S = .ok (.tup [rowsD (putR n (rows, List.range n) more).1, .ref (S.length + 1)]) (S ++ [.lst ((putR n (rows, List.range n) more).1.map rwD), .lst (intsN (putR n (rows, List.range n) more).2)]) := (lput_eq hn).trans (put_ok hn h1 h2 hf l1 l2)
def toldD (v : Va) : D := .tup [rowsD v.rows, .int v.place]
theorem ltog_ok {vs : List Va} (hn : n < 100) (hv : ∀ v ∈ vs, VaOk n v) (hl : vs.length < 8) :
    m__law_together c [.int n, .lst (vs.map toldD)] S = .ok (.tup [rowsD (togR n ([], []) vs).1, .tup (intsN (togR n ([], []) vs).2)]) S := by
  let st : Nat → List Rw × List Nat := fun k => togR n ([], []) (vs.take k)
  have hst : ∀ k v, vs[k]? = some v → st (k + 1) = togS n (st k) v := fun k v hk => by
    show togR n _ (vs.take (k + 1)) = _
    rw [List.take_add_one, hk]
    unfold togR
    rw [List.foldl_append]
    rfl
  let bB : MS := sSeq (sUnp (tgT 2 (tgsC (tgN 2) (tgsC (tgN 6) tgsN))) (mCall (m__law_put c) (mCons (mVar 0) (mCons (mVar 2) (mCons (mVar 4) mNil))))) (
  sAsg 3 (mBin gAdd (mVar 3) (mTup (mCons (mBin gIx (mVar 6) (mVar 5)) mNil))))
  have key := loop_at (t := tgT 2 (tgsC (tgN 4) (tgsC (tgN 5) tgsN))) (b := bB) (l0 := vs.map toldD)
    (I := fun k e T => ∃ a4 a5 a6 junk, e = [some (.int n), some (.lst (vs.map toldD)), some (rowsD (st k).1), some (.tup (intsN (st k).2)), a4, a5, a6] ∧ T = S ++ junk ∧ (∀ r ∈ (st k).1, Sh r) ∧ (st k).1.length ≤ 100 * k ∧ (st k).2.length = k)
    (fun k d hd e T ⟨a4, a5, a6, junk, he, hT, hw, q1, q2⟩ => by
      subst he hT
      rw [List.getElem?_map] at hd
      cases hr : vs[k]? with
      | none => rw [hr] at hd; cases hd
      | some v =>
        rw [hr] at hd
        cases hd
        have hk : k < vs.length := (List.getElem?_eq_some_iff.mp hr).1
        obtain ⟨v1, v2, v3, v4⟩ := hv v (List.mem_of_getElem? hr)
        rw [hst k v hr]
        generalize hg : st k = s at *
        obtain ⟨rows, fd⟩ := s
        dsimp only at hw q1 q2 ⊢
        have P := lput_ok (c := c) (S := S ++ junk) (n := n) (rows := rows) (more := v.rows) (by omega) hw v1 v2 (by omega) (by omega)
        obtain ⟨z1, z2⟩ := putR_len (n := n) (st := (rows, List.range n)) (more := v.rows)
        have z3 := putR_sh (n := n) (st := (rows, List.range n)) hw v1
        unfold togS
        dsimp only
        generalize hq : putR n (rows, List.range n) v.rows = q at *
        obtain ⟨rows2, pl⟩ := q
        dsimp only at P z1 z2 z3 ⊢
        rw [List.length_range] at z1
        have e : (intsN pl)[v.place]? = some (.int (pl.getD v.place 0 : Nat)) := by
          rw [List.getElem?_map, List.getD_eq_getElem?_getD, List.getElem?_eq_getElem (by omega)]
          rfl
        let S2 : List O := (S ++ junk) ++ [.lst (rows2.map rwD), .lst (intsN pl)]
        refine ⟨[some (.int n), some (.lst (vs.map toldD)), some (rowsD rows), some (.tup (intsN fd)), some (rowsD v.rows), some (.int v.place), a6], [some (.int n), some (.lst (vs.map toldD)), some (rowsD rows2), some (.tup (intsN (fd ++ [pl.getD v.place 0]))), some (rowsD v.rows), some (.int v.place), some (.ref ((S ++ junk).length + 1))], S2, rfl, ?_, _, _, _, junk ++ [.lst (rows2.map rwD), .lst (intsN pl)], rfl, List.append_assoc _ _ _, z3, by omega, by simp [q2]⟩
        refine w_seq (e1 := [some (.int n), some (.lst (vs.map toldD)), some (rowsD rows2), some (.tup (intsN fd)), some (rowsD v.rows), some (.int v.place), some (.ref ((S ++ junk).length + 1))]) (S1 := S2) (w_unp (v_call (l := [.int n, rowsD rows, rowsD v.rows]) (v_cons (v_var rfl) (v_cons (v_var rfl) (v_cons (v_var rfl) v_nil))) P) rfl) ?_
        refine w_asg (v_bin (a := .tup (intsN fd)) (b := .tup [.int (pl.getD v.place 0 : Nat)]) (v_var rfl) (v_tup (l := [.int (pl.getD v.place 0 : Nat)]) (v_cons (v_bin (v_var rfl) (v_var rfl) (x_ix at_1 (Ev.atI_nat e))) v_nil) (show 1 ≤ 16777216 by decide)) ?_)
        show (if (intsN fd).length + 1 ≤ sz then some (D.tup (intsN fd ++ [.int (pl.getD v.place 0 : Nat)])) else none) = _
        rw [if_pos (by rw [List.length_map]; show fd.length + 1 ≤ 16777216; omega)]
        unfold intsN
        rw [List.map_append]
        rfl)
    (l := _) (i := 0) (e := [some (.int n), some (.lst (vs.map toldD)), some (rowsD []), some (.tup []), none, none, none]) (S := S) rfl (Nat.zero_le _)
    ⟨_, _, _, [], rfl, (List.append_nil S).symm, fun r hr => (by cases hr), Nat.le_refl _, rfl⟩
  obtain ⟨e1, T, hl', a4, a5, a6, junk, rfl, rfl, hw, q1, q2⟩ := key
  rw [List.length_map] at hl' hw q1 q2
  have est : st vs.length = togR n ([], []) vs := by show togR n _ (vs.take vs.length) = _; rw [List.take_length]
  rw [est] at hl' hw q1 q2
  refine fn_lo (T := junk) rfl ?_ (by simp [D.lo, D.los, K70.lo_rows, K70.lo_ints])
  refine w_seq (e1 := [some (.int n), some (.lst (vs.map toldD)), some (rowsD []), some (.tup []), none, none, none]) (S1 := S) (w_unp (d := .tup [rowsD [], .tup []]) (v_tup (v_cons (v_tup v_nil (show 0 ≤ 16777216 by decide)) (v_cons (v_tup v_nil (show 0 ≤ 16777216 by decide)) v_nil)) (show 2 ≤ 16777216 by decide)) rfl) ?_
  refine w_seq ((w_for (v_seqL (v_var rfl))).trans hl') ?_
  exact w_ret (v_tup (v_cons (v_var rfl) (v_cons (v_var rfl) v_nil)) (show 2 ≤ 16777216 by decide))
end K71

namespace Ev
open PySem PySem.Spec L2 PyProof.Rows Mo
theorem len1 {l : List Nat} (h : l.length = 1) : ∃ x, l = [x] := match l, h with | [x], _ => ⟨x, rfl⟩
theorem len2 {l : List Nat} (h : l.length = 2) : ∃ x y, l = [x, y] := match l, h with | [x, y], _ => ⟨x, y, rfl⟩
theorem len3 {l : List Nat} (h : l.length = 3) : ∃ x y z, l = [x, y, z] := match l, h with | [x, y, z], _ => ⟨x, y, z, rfl⟩
theorem VaC.ok {n : Nat} {v : Va} (h : VaC n v) (l : v.rows.length ≤ 12) : VaOk n v := ⟨h.c.sh, h.c.fit, h.p, by omega⟩
theorem tog_len {n : Nat} : ∀ {vs : List Va} {st : List Rw × List Nat}, (∀ v ∈ vs, v.rows.length ≤ 12) → (togR n st vs).1.length ≤ st.1.length + 12 * vs.length
  | [], st, _ => Nat.le_refl _
  | v :: vs, st, h => by
    have a := tog_len (n := n) (vs := vs) (st := togS n st v) fun x hx => h x (List.mem_cons_of_mem _ hx)
    have b := (putR_len (n := n) (st := (st.1, List.range n)) (more := v.rows)).2
    have d := h v List.mem_cons_self
    have e : (togS n st v).1.length ≤ st.1.length + v.rows.length := b
    show (togR n (togS n st v) vs).1.length ≤ _
    rw [List.length_cons]
    omega
theorem pt0 {n : Nat} : Pt n ([], []) := ⟨Canon.nil, fun i h => by cases h⟩
theorem togs {n : Nat} {vs : List Va} (h : ∀ v ∈ vs, VaC n v) (l : ∀ v ∈ vs, v.rows.length ≤ 12) (hl : vs.length ≤ 4) : Canon n (togR n ([], []) vs).1 ∧ (∀ i ∈ (togR n ([], []) vs).2, i < n + (togR n ([], []) vs).1.length) ∧ (togR n ([], []) vs).2.length = vs.length ∧ (togR n ([], []) vs).1.length < 100 := by
  obtain ⟨a, b⟩ := tog_c (n := n) (vs := vs) pt0 h
  have d := tog_len (n := n) (vs := vs) (st := ([], [])) l
  refine ⟨a.c, a.p, by rw [b]; simp, ?_⟩
  have e : ([] : List Rw).length = 0 := rfl
  show (togR n ([], []) vs).1.length < 100
  have : (([], []) : List Rw × List Nat).1.length = 0 := rfl
  omega
theorem tog2s {n : Nat} {v w : Va} (c1 : VaC n v) (l1 : v.rows.length ≤ 12) (c2 : VaC n w) (l2 : w.rows.length ≤ 12) : ∃ R x y, togR n ([], []) [v, w] = (R, [x, y]) ∧ Canon n R ∧ x < n + R.length ∧ y < n + R.length ∧ R.length < 100 := by
  obtain ⟨a, b, d, e⟩ := togs (n := n) (vs := [v, w]) (by intro z hz; simp at hz; rcases hz with rfl | rfl <;> assumption) (by intro z hz; simp at hz; rcases hz with rfl | rfl <;> assumption) (show 2 ≤ 4 by decide)
  obtain ⟨x, y, h⟩ := len2 d
  exact ⟨_, x, y, by rw [← h], a, b x (by rw [h]; simp), b y (by rw [h]; simp), e⟩
theorem tog3s {n : Nat} {v w z : Va} (c1 : VaC n v) (l1 : v.rows.length ≤ 12) (c2 : VaC n w) (l2 : w.rows.length ≤ 12) (c3 : VaC n z) (l3 : z.rows.length ≤ 12) : ∃ R x y t, togR n ([], []) [v, w, z] = (R, [x, y, t]) ∧ Canon n R ∧ x < n + R.length ∧ y < n + R.length ∧ t < n + R.length ∧ R.length < 100 := by
  obtain ⟨a, b, d, e⟩ := togs (n := n) (vs := [v, w, z]) (by intro t ht; simp at ht; rcases ht with rfl | rfl | rfl <;> assumption) (by intro t ht; simp at ht; rcases ht with rfl | rfl | rfl <;> assumption) (show 3 ≤ 4 by decide)
  obtain ⟨x, y, t, h⟩ := len3 d
  exact ⟨_, x, y, t, by rw [← h], a, b x (by rw [h]; simp), b y (by rw [h]; simp), b t (by rw [h]; simp), e⟩
/-- the value of a node -/
def due (n : Nat) (rf : Nat → Nat → Nat → Int → Rw) (sd : Nat) (v1 v2 v3 : Va) (i : Int) : Va :=
  wr n (togR n ([], []) ([v1, v2, v3].take sd)).1 (rf ((togR n ([], []) ([v1, v2, v3].take sd)).2.getD 0 0) ((togR n ([], []) ([v1, v2, v3].take sd)).2.getD 1 0) ((togR n ([], []) ([v1, v2, v3].take sd)).2.getD 2 0) i).1
    (rf ((togR n ([], []) ([v1, v2, v3].take sd)).2.getD 0 0) ((togR n ([], []) ([v1, v2, v3].take sd)).2.getD 1 0) ((togR n ([], []) ([v1, v2, v3].take sd)).2.getD 2 0) i).2
theorem due_eq {n sd : Nat} {rf : Nat → Nat → Nat → Int → Rw} {v1 v2 v3 : Va} {i : Int} {R : List Rw} {l : List Nat} (h : togR n ([], []) ([v1, v2, v3].take sd) = (R, l)) : due n rf sd v1 v2 v3 i = wr n R (rf (l.getD 0 0) (l.getD 1 0) (l.getD 2 0) i).1 (rf (l.getD 0 0) (l.getD 1 0) (l.getD 2 0) i).2 := by
  unfold due
  rw [h]
end Ev
namespace K71
open PySem PySem.Spec L2 PyProof.Rows Mo Ev
variable {c : Cs}
def sd3E : ME := mIf (mTB (mBin gEq (mVar 3) (mC (.str "f")))) (mC (.int 3)) (mIf (mTB (mBin gIn (mVar 3) (mTup (mCons (mC (.str "+")) (mCons (mC (.str "-")) (mCons (mC (.str "+=")) (mCons (mC (.str "*")) mNil))))))) (mC (.int 2)) (mC (.int 1)))
structure S7 (c : Cs) (σ : Str) (rf : Nat → Nat → Nat → Int → Rw) (sd : Nat) : Prop where
  g : K70.Sg (c7 c) σ rf sd
  sd1 : 1 ≤ sd
  fit : ∀ {m : Nat} {at_ : List Nat} {i : Int}, (∀ x ∈ at_, x < m) → at_.length = sd → Fit m (rf (at_.getD 0 0) (at_.getD 1 0) (at_.getD 2 0) i)
  val : ∀ {S : List O} {J n : Nat} {u : D} {V : Nat} {l : List D} {p q s i : Int} {v1 v2 v3 : Va}, S[J]? = some (mkO c u n) → n < 100 → S[V]? = some (.lst l) → atI l p = some (vaD c J v1) → atI l q = some (vaD c J v2) → atI l s = some (vaD c J v3) →
    VaC n v1 → v1.rows.length ≤ 12 → VaC n v2 → v2.rows.length ≤ 12 → VaC n v3 → v3.rows.length ≤ 12 → (σ = "<" → 0 ≤ i ∧ i ≤ 20) → m__law_value c [.ref V, .tup [.str σ, .lst [.int p, .int q, .int s], .int i]] S = resX c J (due n rf sd v1 v2 v3 i) S
  sides : ∀ (e : Mo.Env) (S : List O), e[3]? = some (some (.str σ)) → sd3E e S = .ok (.int sd) S
theorem s7_0 : S7 c "+" (fun x y z i => ("round", [(1, [x]), (1, [y])])) 2 where
  g := K70.sg_0
  sd1 := by decide
  fit := fun {m at_ i} h hl => by
    obtain ⟨x, y, rfl⟩ := len2 hl
    have hx : x < m := h x (by simp)
    have hy : y < m := h y (by simp)
    exact K70.fit2 (K70.in1 hx) (K70.in1 hy)
  val := fun {S J n u V l p q s i v1 v2 v3} hJ hn hV gp gq gs c1 l1 c2 l2 c3 l3 hi => by
    have hv := c1.ok l1
    have hw := c2.ok l2
    have hz := c3.ok l3
    obtain ⟨R, x, y, hT, hR, hx, hy, hl⟩ := tog2s c1 l1 c2 l2
    have hd : due n (fun x y z i => ("round", [(1, [x]), (1, [y])])) 2 v1 v2 v3 i = wr n R "round" [(1, [x]), (1, [y])] := due_eq (sd := 2) hT
    rw [hd]
    have h := add_vv hJ hn hv hw hT ⟨hR, K70.sh_mk (by kernel_rfl) (show 2 ≤ 3 by decide) (K70.sh2 (show 1 ≤ 3 by decide) (show 1 ≤ 3 by decide)), K70.fit2 (K70.in1 hx) (K70.in1 hy), hl⟩
    exact lv_0 hV gp gq gs (x_isI x_fz) (x_isI x_fz) h res_ne res_S
  sides := fun e S h => by
    have t1 : mTB (mBin gEq (mVar 3) (mC (.str "f"))) e S = .ok false S := v_tb (v_bin (v_var h) v_C (by kernel_rfl))
    have t2 : mTB (mBin gIn (mVar 3) (mTup (mCons (mC (.str "+")) (mCons (mC (.str "-")) (mCons (mC (.str "+=")) (mCons (mC (.str "*")) mNil)))))) e S = .ok true S := v_tb (v_bin (v_var h) (v_tup (v_cons v_C (v_cons v_C (v_cons v_C (v_cons v_C v_nil)))) (show 4 ≤ 16777216 by decide)) (by kernel_rfl))
    exact v_ifF t1 (v_ifT t2 v_C)
theorem s7_1 : S7 c "-" (fun x y z i => ("round", [(1, [x]), (-1, [y])])) 2 where
  g := K70.sg_1
  sd1 := by decide
  fit := fun {m at_ i} h hl => by
    obtain ⟨x, y, rfl⟩ := len2 hl
    have hx : x < m := h x (by simp)
    have hy : y < m := h y (by simp)
    exact K70.fit2 (K70.in1 hx) (K70.in1 hy)
  val := fun {S J n u V l p q s i v1 v2 v3} hJ hn hV gp gq gs c1 l1 c2 l2 c3 l3 hi => by
    have hv := c1.ok l1
    have hw := c2.ok l2
    have hz := c3.ok l3
    obtain ⟨R, x, y, hT, hR, hx, hy, hl⟩ := tog2s c1 l1 c2 l2
    have hd : due n (fun x y z i => ("round", [(1, [x]), (-1, [y])])) 2 v1 v2 v3 i = wr n R "round" [(1, [x]), (-1, [y])] := due_eq (sd := 2) hT
    rw [hd]
    have h := sub_vv hJ hn hv hw hT ⟨hR, K70.sh_mk (by kernel_rfl) (show 2 ≤ 3 by decide) (K70.sh2 (show 1 ≤ 3 by decide) (show 1 ≤ 3 by decide)), K70.fit2 (K70.in1 hx) (K70.in1 hy), hl⟩
    exact lv_1 hV gp gq gs (x_isI x_fz) (x_isI x_fz) h res_ne res_S
  sides := fun e S h => by
    have t1 : mTB (mBin gEq (mVar 3) (mC (.str "f"))) e S = .ok false S := v_tb (v_bin (v_var h) v_C (by kernel_rfl))
    have t2 : mTB (mBin gIn (mVar 3) (mTup (mCons (mC (.str "+")) (mCons (mC (.str "-")) (mCons (mC (.str "+=")) (mCons (mC (.str "*")) mNil)))))) e S = .ok true S := v_tb (v_bin (v_var h) (v_tup (v_cons v_C (v_cons v_C (v_cons v_C (v_cons v_C v_nil)))) (show 4 ≤ 16777216 by decide)) (by kernel_rfl))
    exact v_ifF t1 (v_ifT t2 v_C)
theorem s7_2 : S7 c "*" (fun x y z i => ("round", [(1, [x, y])])) 2 where
  g := K70.sg_2
  sd1 := by decide
  fit := fun {m at_ i} h hl => by
    obtain ⟨x, y, rfl⟩ := len2 hl
    have hx : x < m := h x (by simp)
    have hy : y < m := h y (by simp)
    exact K70.fit1 (K70.in2 hx hy)
  val := fun {S J n u V l p q s i v1 v2 v3} hJ hn hV gp gq gs c1 l1 c2 l2 c3 l3 hi => by
    have hv := c1.ok l1
    have hw := c2.ok l2
    have hz := c3.ok l3
    obtain ⟨R, x, y, hT, hR, hx, hy, hl⟩ := tog2s c1 l1 c2 l2
    have hd : due n (fun x y z i => ("round", [(1, [x, y])])) 2 v1 v2 v3 i = wr n R "round" [(1, [x, y])] := due_eq (sd := 2) hT
    rw [hd]
    have h := mul_vv hJ hn hv hw hT ⟨hR, K70.sh_mk (by kernel_rfl) (show 1 ≤ 3 by decide) (K70.sh1 (show 2 ≤ 3 by decide)), K70.fit1 (K70.in2 hx hy), hl⟩
    exact lv_2 hV gp gq gs (x_isI x_fz) (x_isI x_fz) h res_ne res_S
  sides := fun e S h => by
    have t1 : mTB (mBin gEq (mVar 3) (mC (.str "f"))) e S = .ok false S := v_tb (v_bin (v_var h) v_C (by kernel_rfl))
    have t2 : mTB (mBin gIn (mVar 3) (mTup (mCons (mC (.str "+")) (mCons (mC (.str "-")) (mCons (mC (.str "+=")) (mCons (mC (.str "*")) mNil)))))) e S = .ok true S := v_tb (v_bin (v_var h) (v_tup (v_cons v_C (v_cons v_C (v_cons v_C (v_cons v_C v_nil)))) (show 4 ≤ 16777216 by decide)) (by kernel_rfl))
    exact v_ifF t1 (v_ifT t2 v_C)
theorem s7_3 : S7 c "f" (fun x y z i => ("round", [(1, [x, y]), (1, [z])])) 3 where
  g := K70.sg_3
  sd1 := by decide
  fit := fun {m at_ i} h hl => by
    obtain ⟨x, y, z, rfl⟩ := len3 hl
    have hx : x < m := h x (by simp)
    have hy : y < m := h y (by simp)
    have hz : z < m := h z (by simp)
    exact K70.fit2 (K70.in2 hx hy) (K70.in1 hz)
  val := fun {S J n u V l p q s i v1 v2 v3} hJ hn hV gp gq gs c1 l1 c2 l2 c3 l3 hi => by
    have hv := c1.ok l1
    have hw := c2.ok l2
    have hz := c3.ok l3
    obtain ⟨R, x, y, z, hT, hR, hx, hy, hz, hl⟩ := tog3s c1 l1 c2 l2 c3 l3
    have hd : due n (fun x y z i => ("round", [(1, [x, y]), (1, [z])])) 3 v1 v2 v3 i = wr n R "round" [(1, [x, y]), (1, [z])] := due_eq (sd := 3) hT
    rw [hd]
    have hz0 := c3.ok l3
    have h := fused_ok hJ hn hv hw hz0 hT ⟨hR, K70.sh_mk (by kernel_rfl) (show 2 ≤ 3 by decide) (K70.sh2 (show 2 ≤ 3 by decide) (show 1 ≤ 3 by decide)), K70.fit2 (K70.in2 hx hy) (K70.in1 hz), hl⟩
    exact lv_3 hV gp gq gs (x_isI x_fz) (x_isI x_fz) h res_ne res_S
  sides := fun e S h => by
    have t1 : mTB (mBin gEq (mVar 3) (mC (.str "f"))) e S = .ok true S := v_tb (v_bin (v_var h) v_C (by kernel_rfl))
    exact v_ifT t1 v_C
theorem s7_4 : S7 c "+c" (fun x y z i => ("round", [(1, [x]), (i, [])])) 1 where
  g := K70.sg_4
  sd1 := by decide
  fit := fun {m at_ i} h hl => by
    obtain ⟨x, rfl⟩ := len1 hl
    have hx : x < m := h x (by simp)
    exact K70.fit2 (K70.in1 hx) (K70.in0)
  val := fun {S J n u V l p q s i v1 v2 v3} hJ hn hV gp gq gs c1 l1 c2 l2 c3 l3 hi => by
    have hv := c1.ok l1
    have hw := c2.ok l2
    have hz := c3.ok l3
    have hT := tog1 c1
    have hd : due n (fun x y z i => ("round", [(1, [x]), (i, [])])) 1 v1 v2 v3 i = wr n v1.rows "round" [(1, [v1.place]), (i, [])] := due_eq (sd := 1) hT
    have hx := c1.p
    rw [hd]
    have h := add_vi (i := i) hJ hn hv  ⟨c1.c, K70.sh_mk (by kernel_rfl) (show 2 ≤ 3 by decide) (K70.sh2 (show 1 ≤ 3 by decide) (show 0 ≤ 3 by decide)), K70.fit2 (K70.in1 hx) (K70.in0), by omega⟩
    exact lv_4 hV gp gq gs (x_isI x_fz) (x_isI x_fz) h res_ne res_S
  sides := fun e S h => by
    have t1 : mTB (mBin gEq (mVar 3) (mC (.str "f"))) e S = .ok false S := v_tb (v_bin (v_var h) v_C (by kernel_rfl))
    have t2 : mTB (mBin gIn (mVar 3) (mTup (mCons (mC (.str "+")) (mCons (mC (.str "-")) (mCons (mC (.str "+=")) (mCons (mC (.str "*")) mNil)))))) e S = .ok false S := v_tb (v_bin (v_var h) (v_tup (v_cons v_C (v_cons v_C (v_cons v_C (v_cons v_C v_nil)))) (show 4 ≤ 16777216 by decide)) (by kernel_rfl))
    exact v_ifF t1 (v_ifF t2 v_C)
theorem s7_5 : S7 c "c+" (fun x y z i => ("round", [(i, []), (1, [x])])) 1 where
  g := K70.sg_5
  sd1 := by decide
  fit := fun {m at_ i} h hl => by
    obtain ⟨x, rfl⟩ := len1 hl
    have hx : x < m := h x (by simp)
    exact K70.fit2 (K70.in0) (K70.in1 hx)
  val := fun {S J n u V l p q s i v1 v2 v3} hJ hn hV gp gq gs c1 l1 c2 l2 c3 l3 hi => by
    have hv := c1.ok l1
    have hw := c2.ok l2
    have hz := c3.ok l3
    have hT := tog1 c1
    have hd : due n (fun x y z i => ("round", [(i, []), (1, [x])])) 1 v1 v2 v3 i = wr n v1.rows "round" [(i, []), (1, [v1.place])] := due_eq (sd := 1) hT
    have hx := c1.p
    rw [hd]
    have h := radd_vi (i := i) hJ hn hv  ⟨c1.c, K70.sh_mk (by kernel_rfl) (show 2 ≤ 3 by decide) (K70.sh2 (show 0 ≤ 3 by decide) (show 1 ≤ 3 by decide)), K70.fit2 (K70.in0) (K70.in1 hx), by omega⟩
    exact lv_5 hV gp gq gs (x_isI x_fz) (x_isI x_fz) h res_ne res_S
  sides := fun e S h => by
    have t1 : mTB (mBin gEq (mVar 3) (mC (.str "f"))) e S = .ok false S := v_tb (v_bin (v_var h) v_C (by kernel_rfl))
    have t2 : mTB (mBin gIn (mVar 3) (mTup (mCons (mC (.str "+")) (mCons (mC (.str "-")) (mCons (mC (.str "+=")) (mCons (mC (.str "*")) mNil)))))) e S = .ok false S := v_tb (v_bin (v_var h) (v_tup (v_cons v_C (v_cons v_C (v_cons v_C (v_cons v_C v_nil)))) (show 4 ≤ 16777216 by decide)) (by kernel_rfl))
    exact v_ifF t1 (v_ifF t2 v_C)
theorem s7_6 : S7 c "-c" (fun x y z i => ("round", [(1, [x]), (0 - i, [])])) 1 where
  g := K70.sg_6
  sd1 := by decide
  fit := fun {m at_ i} h hl => by
    obtain ⟨x, rfl⟩ := len1 hl
    have hx : x < m := h x (by simp)
    exact K70.fit2 (K70.in1 hx) (K70.in0)
  val := fun {S J n u V l p q s i v1 v2 v3} hJ hn hV gp gq gs c1 l1 c2 l2 c3 l3 hi => by
    have hv := c1.ok l1
    have hw := c2.ok l2
    have hz := c3.ok l3
    have hT := tog1 c1
    have hd : due n (fun x y z i => ("round", [(1, [x]), (0 - i, [])])) 1 v1 v2 v3 i = wr n v1.rows "round" [(1, [v1.place]), (0 - i, [])] := due_eq (sd := 1) hT
    have hx := c1.p
    rw [hd]
    have h := sub_vi (i := i) hJ hn hv  ⟨c1.c, K70.sh_mk (by kernel_rfl) (show 2 ≤ 3 by decide) (K70.sh2 (show 1 ≤ 3 by decide) (show 0 ≤ 3 by decide)), K70.fit2 (K70.in1 hx) (K70.in0), by omega⟩
    exact lv_6 hV gp gq gs (x_isI x_fz) (x_isI x_fz) h res_ne res_S
  sides := fun e S h => by
    have t1 : mTB (mBin gEq (mVar 3) (mC (.str "f"))) e S = .ok false S := v_tb (v_bin (v_var h) v_C (by kernel_rfl))
    have t2 : mTB (mBin gIn (mVar 3) (mTup (mCons (mC (.str "+")) (mCons (mC (.str "-")) (mCons (mC (.str "+=")) (mCons (mC (.str "*")) mNil)))))) e S = .ok false S := v_tb (v_bin (v_var h) (v_tup (v_cons v_C (v_cons v_C (v_cons v_C (v_cons v_C v_nil)))) (show 4 ≤ 16777216 by decide)) (by kernel_rfl))
    exact v_ifF t1 (v_ifF t2 v_C)
theorem s7_7 : S7 c "c-" (fun x y z i => ("round", [(i, []), (-1, [x])])) 1 where
  g := K70.sg_7
  sd1 := by decide
  fit := fun {m at_ i} h hl => by
    obtain ⟨x, rfl⟩ := len1 hl
    have hx : x < m := h x (by simp)
    exact K70.fit2 (K70.in0) (K70.in1 hx)
  val := fun {S J n u V l p q s i v1 v2 v3} hJ hn hV gp gq gs c1 l1 c2 l2 c3 l3 hi => by
    have hv := c1.ok l1
    have hw := c2.ok l2
    have hz := c3.ok l3
    have hT := tog1 c1
    have hd : due n (fun x y z i => ("round", [(i, []), (-1, [x])])) 1 v1 v2 v3 i = wr n v1.rows "round" [(i, []), (-1, [v1.place])] := due_eq (sd := 1) hT
    have hx := c1.p
    rw [hd]
    have h := rsub_vi (i := i) hJ hn hv  ⟨c1.c, K70.sh_mk (by kernel_rfl) (show 2 ≤ 3 by decide) (K70.sh2 (show 0 ≤ 3 by decide) (show 1 ≤ 3 by decide)), K70.fit2 (K70.in0) (K70.in1 hx), by omega⟩
    exact lv_7 hV gp gq gs (x_isI x_fz) (x_isI x_fz) h res_ne res_S
  sides := fun e S h => by
    have t1 : mTB (mBin gEq (mVar 3) (mC (.str "f"))) e S = .ok false S := v_tb (v_bin (v_var h) v_C (by kernel_rfl))
    have t2 : mTB (mBin gIn (mVar 3) (mTup (mCons (mC (.str "+")) (mCons (mC (.str "-")) (mCons (mC (.str "+=")) (mCons (mC (.str "*")) mNil)))))) e S = .ok false S := v_tb (v_bin (v_var h) (v_tup (v_cons v_C (v_cons v_C (v_cons v_C (v_cons v_C v_nil)))) (show 4 ≤ 16777216 by decide)) (by kernel_rfl))
    exact v_ifF t1 (v_ifF t2 v_C)
theorem s7_8 : S7 c "*c" (fun x y z i => ("round", [(i, [x])])) 1 where
  g := K70.sg_8
  sd1 := by decide
  fit := fun {m at_ i} h hl => by
    obtain ⟨x, rfl⟩ := len1 hl
    have hx : x < m := h x (by simp)
    exact K70.fit1 (K70.in1 hx)
  val := fun {S J n u V l p q s i v1 v2 v3} hJ hn hV gp gq gs c1 l1 c2 l2 c3 l3 hi => by
    have hv := c1.ok l1
    have hw := c2.ok l2
    have hz := c3.ok l3
    have hT := tog1 c1
    have hd : due n (fun x y z i => ("round", [(i, [x])])) 1 v1 v2 v3 i = wr n v1.rows "round" [(i, [v1.place])] := due_eq (sd := 1) hT
    have hx := c1.p
    rw [hd]
    have h := mul_vi (i := i) hJ hn hv  ⟨c1.c, K70.sh_mk (by kernel_rfl) (show 1 ≤ 3 by decide) (K70.sh1 (show 1 ≤ 3 by decide)), K70.fit1 (K70.in1 hx), by omega⟩
    exact lv_8 hV gp gq gs (x_isI x_fz) (x_isI x_fz) h res_ne res_S
  sides := fun e S h => by
    have t1 : mTB (mBin gEq (mVar 3) (mC (.str "f"))) e S = .ok false S := v_tb (v_bin (v_var h) v_C (by kernel_rfl))
    have t2 : mTB (mBin gIn (mVar 3) (mTup (mCons (mC (.str "+")) (mCons (mC (.str "-")) (mCons (mC (.str "+=")) (mCons (mC (.str "*")) mNil)))))) e S = .ok false S := v_tb (v_bin (v_var h) (v_tup (v_cons v_C (v_cons v_C (v_cons v_C (v_cons v_C v_nil)))) (show 4 ≤ 16777216 by decide)) (by kernel_rfl))
    exact v_ifF t1 (v_ifF t2 v_C)
theorem s7_9 : S7 c "c*" (fun x y z i => ("round", [(i, [x])])) 1 where
  g := K70.sg_9
  sd1 := by decide
  fit := fun {m at_ i} h hl => by
    obtain ⟨x, rfl⟩ := len1 hl
    have hx : x < m := h x (by simp)
    exact K70.fit1 (K70.in1 hx)
  val := fun {S J n u V l p q s i v1 v2 v3} hJ hn hV gp gq gs c1 l1 c2 l2 c3 l3 hi => by
    have hv := c1.ok l1
    have hw := c2.ok l2
    have hz := c3.ok l3
    have hT := tog1 c1
    have hd : due n (fun x y z i => ("round", [(i, [x])])) 1 v1 v2 v3 i = wr n v1.rows "round" [(i, [v1.place])] := due_eq (sd := 1) hT
    have hx := c1.p
    rw [hd]
    have h := rmul_vi (i := i) hJ hn hv  ⟨c1.c, K70.sh_mk (by kernel_rfl) (show 1 ≤ 3 by decide) (K70.sh1 (show 1 ≤ 3 by decide)), K70.fit1 (K70.in1 hx), by omega⟩
    exact lv_9 hV gp gq gs (x_isI x_fz) (x_isI x_fz) h res_ne res_S
  sides := fun e S h => by
    have t1 : mTB (mBin gEq (mVar 3) (mC (.str "f"))) e S = .ok false S := v_tb (v_bin (v_var h) v_C (by kernel_rfl))
    have t2 : mTB (mBin gIn (mVar 3) (mTup (mCons (mC (.str "+")) (mCons (mC (.str "-")) (mCons (mC (.str "+=")) (mCons (mC (.str "*")) mNil)))))) e S = .ok false S := v_tb (v_bin (v_var h) (v_tup (v_cons v_C (v_cons v_C (v_cons v_C (v_cons v_C v_nil)))) (show 4 ≤ 16777216 by decide)) (by kernel_rfl))
    exact v_ifF t1 (v_ifF t2 v_C)
theorem s7_10 : S7 c "n" (fun x y z i => ("exact", [(-1, [x])])) 1 where
  g := K70.sg_10
  sd1 := by decide
  fit := fun {m at_ i} h hl => by
    obtain ⟨x, rfl⟩ := len1 hl
    have hx : x < m := h x (by simp)
    exact K70.fit1 (K70.in1 hx)
  val := fun {S J n u V l p q s i v1 v2 v3} hJ hn hV gp gq gs c1 l1 c2 l2 c3 l3 hi => by
    have hv := c1.ok l1
    have hw := c2.ok l2
    have hz := c3.ok l3
    have hT := tog1 c1
    have hd : due n (fun x y z i => ("exact", [(-1, [x])])) 1 v1 v2 v3 i = wr n v1.rows "exact" [(-1, [v1.place])] := due_eq (sd := 1) hT
    have hx := c1.p
    rw [hd]
    have h := neg_v hJ hn hv  ⟨c1.c, K70.sh_mk (by kernel_rfl) (show 1 ≤ 3 by decide) (K70.sh1 (show 1 ≤ 3 by decide)), K70.fit1 (K70.in1 hx), by omega⟩
    exact lv_10 hV gp gq gs (x_isI x_fz) (x_isI x_fz) h res_ne res_S
  sides := fun e S h => by
    have t1 : mTB (mBin gEq (mVar 3) (mC (.str "f"))) e S = .ok false S := v_tb (v_bin (v_var h) v_C (by kernel_rfl))
    have t2 : mTB (mBin gIn (mVar 3) (mTup (mCons (mC (.str "+")) (mCons (mC (.str "-")) (mCons (mC (.str "+=")) (mCons (mC (.str "*")) mNil)))))) e S = .ok false S := v_tb (v_bin (v_var h) (v_tup (v_cons v_C (v_cons v_C (v_cons v_C (v_cons v_C v_nil)))) (show 4 ≤ 16777216 by decide)) (by kernel_rfl))
    exact v_ifF t1 (v_ifF t2 v_C)
theorem s7_11 : S7 c "<" (fun x y z i => ("exact", [(1 * 2 ^ i.toNat, [x])])) 1 where
  g := K70.sg_11
  sd1 := by decide
  fit := fun {m at_ i} h hl => by
    obtain ⟨x, rfl⟩ := len1 hl
    have hx : x < m := h x (by simp)
    exact K70.fit1 (K70.in1 hx)
  val := fun {S J n u V l p q s i v1 v2 v3} hJ hn hV gp gq gs c1 l1 c2 l2 c3 l3 hi => by
    have hv := c1.ok l1
    have hw := c2.ok l2
    have hz := c3.ok l3
    have hT := tog1 c1
    have hd : due n (fun x y z i => ("exact", [(1 * 2 ^ i.toNat, [x])])) 1 v1 v2 v3 i = wr n v1.rows "exact" [(1 * 2 ^ i.toNat, [v1.place])] := due_eq (sd := 1) hT
    have hx := c1.p
    rw [hd]
    have h := shl_v (i := i) hJ hn hv (fun T => x_shl (hi rfl)) ⟨c1.c, K70.sh_mk (by kernel_rfl) (show 1 ≤ 3 by decide) (K70.sh1 (show 1 ≤ 3 by decide)), K70.fit1 (K70.in1 hx), by omega⟩
    exact lv_11 hV gp gq gs (x_isI x_fz) (x_isI x_fz) h res_ne res_S
  sides := fun e S h => by
    have t1 : mTB (mBin gEq (mVar 3) (mC (.str "f"))) e S = .ok false S := v_tb (v_bin (v_var h) v_C (by kernel_rfl))
    have t2 : mTB (mBin gIn (mVar 3) (mTup (mCons (mC (.str "+")) (mCons (mC (.str "-")) (mCons (mC (.str "+=")) (mCons (mC (.str "*")) mNil)))))) e S = .ok false S := v_tb (v_bin (v_var h) (v_tup (v_cons v_C (v_cons v_C (v_cons v_C (v_cons v_C v_nil)))) (show 4 ≤ 16777216 by decide)) (by kernel_rfl))
    exact v_ifF t1 (v_ifF t2 v_C)
theorem s7_12 : S7 c "+=" (fun x y z i => ("round", [(1, [x]), (1, [y])])) 2 where
  g := K70.sg_12
  sd1 := by decide
  fit := fun {m at_ i} h hl => by
    obtain ⟨x, y, rfl⟩ := len2 hl
    have hx : x < m := h x (by simp)
    have hy : y < m := h y (by simp)
    exact K70.fit2 (K70.in1 hx) (K70.in1 hy)
  val := fun {S J n u V l p q s i v1 v2 v3} hJ hn hV gp gq gs c1 l1 c2 l2 c3 l3 hi => by
    have hv := c1.ok l1
    have hw := c2.ok l2
    have hz := c3.ok l3
    obtain ⟨R, x, y, hT, hR, hx, hy, hl⟩ := tog2s c1 l1 c2 l2
    have hd : due n (fun x y z i => ("round", [(1, [x]), (1, [y])])) 2 v1 v2 v3 i = wr n R "round" [(1, [x]), (1, [y])] := due_eq (sd := 2) hT
    rw [hd]
    have h := add_vv hJ hn hv hw hT ⟨hR, K70.sh_mk (by kernel_rfl) (show 2 ≤ 3 by decide) (K70.sh2 (show 1 ≤ 3 by decide) (show 1 ≤ 3 by decide)), K70.fit2 (K70.in1 hx) (K70.in1 hy), hl⟩
    exact lv_12 hV gp gq gs (x_isI x_fz) (x_isI x_fz) h res_ne res_S
  sides := fun e S h => by
    have t1 : mTB (mBin gEq (mVar 3) (mC (.str "f"))) e S = .ok false S := v_tb (v_bin (v_var h) v_C (by kernel_rfl))
    have t2 : mTB (mBin gIn (mVar 3) (mTup (mCons (mC (.str "+")) (mCons (mC (.str "-")) (mCons (mC (.str "+=")) (mCons (mC (.str "*")) mNil)))))) e S = .ok true S := v_tb (v_bin (v_var h) (v_tup (v_cons v_C (v_cons v_C (v_cons v_C (v_cons v_C v_nil)))) (show 4 ≤ 16777216 by decide)) (by kernel_rfl))
    exact v_ifF t1 (v_ifT t2 v_C)
end K71

namespace K71
open PySem PySem.Spec L2 PyProof.Rows Mo Ev
variable {c : Cs} {S : List O} {J n : Nat} {u : D}
theorem mem3 {α : Type} {a b d x : α} {k : Nat} (h : x ∈ [a, b, d].take k) : x = a ∨ x = b ∨ x = d := by simpa using List.mem_of_mem_take h
theorem ints_take {at_ : List Nat} {sd : Nat} (h1 : 1 ≤ sd) (h3 : sd ≤ 3) (hl : at_.length = sd) : intsN at_ = ([.int (at_.getD 0 0 : Nat), .int (at_.getD 1 0 : Nat), .int (at_.getD 2 0 : Nat)] : List D).take sd := by
  have : sd = 1 ∨ sd = 2 ∨ sd = 3 := by omega
  rcases this with rfl | rfl | rfl
  · obtain ⟨x, rfl⟩ := len1 hl; rfl
  · obtain ⟨x, y, rfl⟩ := len2 hl; rfl
  · obtain ⟨x, y, z, rfl⟩ := len3 hl; rfl
theorem model_ok {σ : Str} {rf : Nat → Nat → Nat → Int → Rw} {sd T : Nat} (g : S7 c σ rf sd) {told : List D} {p q s i : Int} {v1 v2 v3 : Va} (hT : S[T]? = some (.lst told)) (gp : atI told p = some (toldD v1)) (gq : atI told q = some (toldD v2)) (gs : atI told s = some (toldD v3))
    (c1 : VaC n v1) (l1 : v1.rows.length ≤ 12) (c2 : VaC n v2) (l2 : v2.rows.length ≤ 12) (c3 : VaC n v3) (l3 : v3.rows.length ≤ 12) (hn : n < 100) (hi : σ = "<" → 0 ≤ i ∧ i ≤ 20) :
    m__law_model c [.int n, .ref T, .tup [.str σ, .lst [.int p, .int q, .int s], .int i]] S = .ok (toldD (due n rf sd v1 v2 v3 i)) S ∧ VaC n (due n rf sd v1 v2 v3 i) := by
  have s3 := g.g.sd3
  have s1 := g.sd1
  let vs := [v1, v2, v3].take sd
  have hvl : vs.length = sd := by show ([v1, v2, v3].take sd).length = sd; rw [List.length_take]; show min sd 3 = sd; omega
  have hc : ∀ v ∈ vs, VaC n v := fun v hv => by rcases mem3 hv with rfl | rfl | rfl <;> assumption
  have hl : ∀ v ∈ vs, v.rows.length ≤ 12 := fun v hv => by rcases mem3 hv with rfl | rfl | rfl <;> assumption
  obtain ⟨hR, hp, hlen, h100⟩ := togs hc hl (by rw [hvl]; omega)
  have lt := ltog_ok (c := c) (S := S) (vs := vs) hn (fun v hv => (hc v hv).ok (hl v hv)) (by rw [hvl]; omega)
  have dq : due n rf sd v1 v2 v3 i = wr n (togR n ([], []) vs).1 (rf ((togR n ([], []) vs).2.getD 0 0) ((togR n ([], []) vs).2.getD 1 0) ((togR n ([], []) vs).2.getD 2 0) i).1 (rf ((togR n ([], []) vs).2.getD 0 0) ((togR n ([], []) vs).2.getD 1 0) ((togR n ([], []) vs).2.getD 2 0) i).2 := rfl
  rw [dq]
  generalize togR n ([], []) vs = Tg at *
  obtain ⟨R, at_⟩ := Tg
  dsimp only at hR hp hlen h100 lt ⊢
  rw [hvl] at hlen
  have hfit := g.fit (i := i) hp hlen
  have hsh := g.g.sh (at_.getD 0 0) (at_.getD 1 0) (at_.getD 2 0) i
  have hrow := g.g.row (p := at_.getD 0 0) (q := at_.getD 1 0) (s := at_.getD 2 0) (i := i) hi
  rw [← ints_take s1 s3 hlen] at hrow
  generalize rf (at_.getD 0 0) (at_.getD 1 0) (at_.getD 2 0) i = row at *
  obtain ⟨w, ts⟩ := row
  dsimp only
  refine ⟨?_, (wr_c hR hfit hsh).1⟩
  have P := lput_ok (c := c) (S := S) (n := n) (rows := R) (more := R ++ [(w, ts)]) (by omega) hR.sh (fun r hr' => by
      rcases List.mem_append.mp hr' with e | e
      · exact hR.sh r e
      · rw [List.mem_singleton.mp e]; exact hsh) (fun j r hk => by
      rw [List.getElem?_append] at hk
      split at hk
      · exact hR.fit j r hk
      · rename_i hge
        have : j - R.length = 0 := by
          have := (List.getElem?_eq_some_iff.mp hk).1
          simp at this
          omega
        rw [this] at hk
        cases hk
        rw [show n + j = n + R.length by omega]
        exact hfit) (by omega) (by rw [List.length_append]; simp; omega)
  obtain ⟨q1, q2⟩ := putR_len (n := n) (st := (R, List.range n)) (more := R ++ [(w, ts)])
  have hw : wr n R w ts = ⟨(putR n (R, List.range n) (R ++ [(w, ts)])).1, (putR n (R, List.range n) (R ++ [(w, ts)])).2.getD (n + R.length) 0⟩ := rfl
  rw [hw]
  generalize putR n (R, List.range n) (R ++ [(w, ts)]) = st at *
  obtain ⟨fd, pl⟩ := st
  dsimp only at P q1 q2 ⊢
  rw [List.length_append, List.length_range] at q1
  have q1' : pl.length = n + R.length + 1 := by rw [q1]; simp; omega
  let node : D := .tup [.str σ, .lst [.int p, .int q, .int s], .int i]
  let E (a6 a7 a8 a10 : Option D) : Mo.Env := [some (.int n), some (.ref T), some node, some (.str σ), some (.lst [.int p, .int q, .int s]), some (.int i), a6, a7, a8, none, a10]
  let ws : List (Int × Va) := [(p, v1), (q, v2), (s, v3)].take sd
  have hws : ws.map (fun w => toldD w.2) = vs.map toldD := by show (List.take sd _).map _ = (List.take sd _).map _; rw [List.map_take, List.map_take]; rfl
  have hcomp : mComp (miSeq (mSl (mVar 4) moN (moS (mVar 6)))) (tgN 9) mYes (mBin gIx (mVar 1) (mVar 9)) [9] (E (some (.int sd)) none none none) S = .ok (.lst (vs.map toldD)) S := by
    refine v_comp (l := ws.map fun w => .int w.1) (S1 := S) (v_seqL (v_sl (v_var rfl) v_moN (v_moS (v_var rfl)) ?_)) ?_
    · show some (D.lst (Mo.cutD [D.int p, .int q, .int s] none (some ((sd : Nat) : Int)))) = _
      rw [Ev.cut_lo (show sd ≤ 3 from s3)]
      show _ = some (D.lst ((List.take sd _).map _))
      rw [List.map_take]
      rfl
    · rw [compL_fn (h := fun w : Int × Va => toldD w.2) rfl ?_ ?_, List.nil_append, hws]
      · intro w hw
        refine ⟨_, rfl, v_bin (v_var rfl) (v_var rfl) (x_ix hT ?_)⟩
        rcases mem3 hw with rfl | rfl | rfl <;> assumption
      · have : ws.length ≤ 3 := by show (List.take sd _).length ≤ 3; rw [List.length_take]; exact Nat.min_le_right _ _
        show 0 + ws.length ≤ 16777216
        omega
  refine fn_lo (T := [.lst (fd.map rwD), .lst (intsN pl)]) rfl ?_ (by simp [toldD, D.lo, D.los, K70.lo_rows])
  refine w_seq (e1 := E none none none none) (S1 := S) (w_unp (v_var rfl) rfl) ?_
  refine w_seq (e1 := E (some (.int sd)) none none none) (S1 := S) (w_asg (g.sides _ _ rfl)) ?_
  refine w_seq (e1 := E (some (.int sd)) (some (rowsD R)) (some (.tup (intsN at_))) none) (S1 := S) (w_unp (v_call (l := [.int n, .lst (vs.map toldD)]) (v_cons (v_var rfl) (v_cons hcomp v_nil)) lt) rfl) ?_
  refine w_seq (e1 := E (some (.int sd)) (some (rowsD fd)) (some (.tup (intsN at_))) (some (.ref (S.length + 1)))) (S1 := S ++ [.lst (fd.map rwD), .lst (intsN pl)]) (w_unp (v_call (l := [.int n, rowsD R, rowsD (R ++ [(w, ts)])]) (v_cons (v_var rfl) (v_cons (v_var rfl) (v_cons (v_bin (a := rowsD R) (b := .tup [rwD (w, ts)]) (d := rowsD (R ++ [(w, ts)])) (v_var rfl) (v_tup (l := [rwD (w, ts)]) (v_cons (v_callP (l := [.str σ, .tup (intsN at_), .int i]) (v_cons (v_var rfl) (v_cons (v_var rfl) (v_cons (v_var rfl) v_nil))) (by simp [D.los, D.lo, K70.lo_ints]) hrow (K70.lo_rowD _ _)) v_nil) (show 1 ≤ 16777216 by decide)) ?_) v_nil))) P) rfl) ?_
  · show (if (R.map rwD).length + 1 ≤ sz then some (D.tup (R.map rwD ++ [rwD (w, ts)])) else none) = _
    rw [if_pos (by rw [List.length_map]; show R.length + 1 ≤ 16777216; omega)]
    unfold rowsD
    rw [List.map_append]
    rfl
  · refine w_ret (v_tup (l := [rowsD fd, .int (pl.getD (n + R.length) 0 : Nat)]) (v_cons (v_var rfl) (v_cons (v_bin (v_var rfl) (v_un v_C rfl) (x_ix at_1 ?_)) v_nil)) (show 2 ≤ 16777216 by decide))
    have e : (intsN pl)[n + R.length]? = some (.int (pl.getD (n + R.length) 0 : Nat)) := by
      rw [List.getElem?_map, List.getD_eq_getElem?_getD, List.getElem?_eq_getElem (by omega)]
      rfl
    unfold atI ixN
    rw [List.length_map, q1', if_neg (by decide), if_pos (by omega), show ((-1 : Int) + ((n + R.length + 1 : Nat) : Int)).toNat = n + R.length by omega]
    exact e
/-- a node that may be asked: its places lie below m -/
def NodeOk (c : Cs) (m : Nat) (d : D) : Prop := ∃ (σ : Str) (rf : Nat → Nat → Nat → Int → Rw) (sd p q s : Nat) (i : Int), S7 c σ rf sd ∧ d = .tup [.str σ, .lst [.int p, .int q, .int s], .int i] ∧ p < m ∧ q < m ∧ s < m ∧ (σ = "<" → 0 ≤ i ∧ i ≤ 20)
abbrev s9 : List Str := ["+", "-", "+c", "c+", "-c", "c-", "n", "<", "+="]
abbrev s4 : List Str := ["*", "*c", "c*", "f"]
theorem s7_all {σ : Str} (h : σ ∈ s9 ++ s4) : ∃ rf sd, S7 c σ rf sd := by
  simp only [s9, s4, List.cons_append, List.nil_append, List.mem_cons, List.not_mem_nil, or_false] at h
  rcases h with rfl | rfl | rfl | rfl | rfl | rfl | rfl | rfl | rfl | rfl | rfl | rfl | rfl
  · exact ⟨_, _, s7_0⟩
  · exact ⟨_, _, s7_1⟩
  · exact ⟨_, _, s7_4⟩
  · exact ⟨_, _, s7_5⟩
  · exact ⟨_, _, s7_6⟩
  · exact ⟨_, _, s7_7⟩
  · exact ⟨_, _, s7_10⟩
  · exact ⟨_, _, s7_11⟩
  · exact ⟨_, _, s7_12⟩
  · exact ⟨_, _, s7_2⟩
  · exact ⟨_, _, s7_8⟩
  · exact ⟨_, _, s7_9⟩
  · exact ⟨_, _, s7_3⟩
def nB (c : Cs) : MS := sSeq (sAsg 7 (mLst (mCons (mC (.str "+")) (mCons (mC (.str "-")) (mCons (mC (.str "+c")) (mCons (mC (.str "c+")) (mCons (mC (.str "-c")) (mCons (mC (.str "c-")) (mCons (mC (.str "n")) (mCons (mC (.str "<")) (mCons (mC (.str "+=")) mNil))))))))))) (
  sSeq (sAsg 7 (mBin gAdd (mVar 7) (mBin gMul (mLst (mCons (mC (.str "*")) (mCons (mC (.str "*c")) (mCons (mC (.str "c*")) (mCons (mC (.str "f")) mNil))))) (mCB gInt (mCons (mBin gLt (mVar 5) (mC (.int 3))) mNil))))) (
  sSeq (sAsg 8 (mCall (m__law_one c) (mCons (mVar 0) (mCons (mVar 7) mNil)))) (
  sSeq (sAsg 5 (mBin gAdd (mVar 5) (mCB gInt (mCons (mBin gIn (mVar 8) (mTup (mCons (mC (.str "*")) (mCons (mC (.str "f")) mNil)))) mNil)))) (
  sSeq (sAsg 9 (mLst (mCons (mCall (m__law_one c) (mCons (mVar 0) (mCons (mLst (mCons (mBin gSub (mVar 6) (mC (.int 1))) (mCons (mCall (m__law_draw c) (mCons (mVar 0) (mCons (mVar 6) mNil))) mNil))) mNil))) (mCons (mCall (m__law_draw c) (mCons (mVar 0) (mCons (mVar 6) mNil))) (mCons (mCall (m__law_draw c) (mCons (mVar 0) (mCons (mVar 6) mNil))) mNil))))) (
  sSeq (sAsg 10 (mCall (m__law_one c) (mCons (mVar 0) (mCons (mBin gAdd (mLst (mCons (mC (.int 0)) (mCons (mC (.int 1)) (mCons (mUn gNeg (mC (.int 1))) (mCons (mBin gSub (mCall (m__law_draw c) (mCons (mVar 0) (mCons (mC (.int 19)) mNil))) (mC (.int 9))) mNil))))) (mBin gMul (mLst (mCons (mBin gSub (mBin gMul (mCall (m__law_draw c) (mCons (mVar 0) (mCons (mBin gPow (mC (.int 10)) (mC (.int 6))) mNil))) (mC (.int 999))) (mBin gPow (mC (.int 10)) (mC (.int 8)))) mNil)) (mVar 3))) mNil)))) (
  sSeq (sIf (mTB (mBin gEq (mVar 8) (mC (.str "<")))) (
  sAsg 10 (mCall (m__law_draw c) (mCons (mVar 0) (mCons (mBin gAdd (mC (.int 3)) (mBin gMul (mC (.int 18)) (mVar 3))) mNil)))) (
  sNil)) (
  sExpr (mMt isL gAppend (mVar 4) (mCons (mTup (mCons (mVar 8) (mCons (mVar 9) (mCons (mVar 10) mNil)))) mNil)))))))))
theorem x_ltI {S : List O} {i j : Int} : gLt S (.int i) (.int j) = some (.bl (decide (i < j))) := rfl
theorem node_turn {S : List O} {n many m N top : Nat} {pr : Int} {l : List D} {a7 a8 a9 a10 : Option D} (h1 : 1 ≤ top) (h2 : top < 1000) (F : Dk S m) (hm : m < 100000) (hN : N ≠ 0) (hS : S[N]? = some (.lst l)) (hl : l.length < 1000) :
    ∃ d pr' b7 b8 b9 b10 S', nB c [some (.ref 0), some (.int n), some (.int many), some (.int 1), some (.ref N), some (.int pr), some (.int top), a7, a8, a9, a10] S = .nx [some (.ref 0), some (.int n), some (.int many), some (.int 1), some (.ref N), some (.int pr'), some (.int top), b7, b8, b9, b10] S' ∧
      NodeOk c top d ∧ S'[N]? = some (.lst (l ++ [d])) ∧ Dk S' (m + 10) ∧ S'.length = S.length ∧ ∀ i, i ≠ 0 → i ≠ N → S'[i]? = S[i]? := by
  let E (a5 : Int) (a7 a8 a9 a10 : Option D) : Mo.Env := [some (.ref 0), some (.int n), some (.int many), some (.int 1), some (.ref N), some (.int a5), some (.int top), a7, a8, a9, a10]
  -- the signs
  obtain ⟨sg, hsg, hmem, hne, hlen⟩ : ∃ sg : List Str, mBin gAdd (mVar 7) (mBin gMul (mLst (mCons (mC (.str "*")) (mCons (mC (.str "*c")) (mCons (mC (.str "c*")) (mCons (mC (.str "f")) mNil))))) (mCB gInt (mCons (mBin gLt (mVar 5) (mC (.int 3))) mNil))) (E pr (some (.lst (s9.map .str))) a8 a9 a10) S = .ok (.lst (sg.map .str)) S ∧ (∀ x ∈ sg, x ∈ s9 ++ s4) ∧ sg ≠ [] ∧ sg.length < 1000 := by
    by_cases hp : pr < 3
    · refine ⟨s9 ++ s4, v_bin (a := .lst (s9.map .str)) (b := .lst (s4.map .str)) (v_var rfl) (v_bin (a := .lst (s4.map .str)) (b := .int 1) (S1 := S) (by kernel_rfl) (v_cb (v_cons (v_bin (v_var rfl) v_C x_ltI) v_nil) (by rw [decide_eq_true hp]; rfl)) (by kernel_rfl)) (by kernel_rfl), fun x hx => hx, by simp, by decide⟩
    · refine ⟨s9, v_bin (a := .lst (s9.map .str)) (b := .lst []) (v_var rfl) (v_bin (a := .lst (s4.map .str)) (b := .int 0) (S1 := S) (by kernel_rfl) (v_cb (v_cons (v_bin (v_var rfl) v_C x_ltI) v_nil) (by rw [decide_eq_false hp]; rfl)) (by kernel_rfl)) (by kernel_rfl), fun x hx => List.mem_append_left _ hx, by simp, by decide⟩
  obtain ⟨d0, hd0, S1, r1, F1, A1⟩ := one (items := sg.map .str) F (by omega) (by simpa using hne) (by simpa using hlen)
  obtain ⟨σ, hσ, rfl⟩ := List.mem_map.mp hd0
  obtain ⟨rf, sd, g⟩ := s7_all (c := c) (hmem σ hσ)
  let pr' : Int := pr + (if inD (.str σ) [.str "*", .str "f"] then 1 else 0)
  -- the places
  obtain ⟨x0, S2, r2, x0a, x0b, F2, A2⟩ := drw (many := top) F1 (by omega) (by omega) (by omega)
  obtain ⟨d1, hd1, S3, r3, F3, A3⟩ := one (items := [.int ((top : Int) - 1), .int x0]) F2 (by omega) (by simp) (by simp)
  obtain ⟨p, rfl, hp⟩ : ∃ p : Nat, d1 = .int p ∧ p < top := by
    rcases List.mem_cons.mp hd1 with rfl | hd1
    · exact ⟨top - 1, by congr 1; omega, by omega⟩
    · rw [List.mem_singleton.mp hd1]
      exact ⟨x0.toNat, by congr 1; omega, by omega⟩
  obtain ⟨q', S4, r4, q0, q1, F4, A4⟩ := drw (many := top) F3 (by omega) (by omega) (by omega)
  obtain ⟨s', S5, r5, s0, s1, F5, A5⟩ := drw (many := top) F4 (by omega) (by omega) (by omega)
  obtain ⟨q, rfl⟩ : ∃ q : Nat, q' = q := ⟨q'.toNat, by omega⟩
  obtain ⟨s, rfl⟩ : ∃ s : Nat, s' = s := ⟨s'.toNat, by omega⟩
  -- the number
  obtain ⟨y, S6, r6, y0, y1, F6, A6⟩ := drw (many := 19) F5 (by omega) (by decide) (by decide)
  obtain ⟨z, S7', r7, z0, z1, F7, A7⟩ := drw (many := 1000000) F6 (by omega) (by decide) (by decide)
  let items : List D := [.int 0, .int 1, .int (-1), .int (y - 9), .int (z * 999 - 100000000)]
  obtain ⟨d2, hd2, S8, r8, F8, A8⟩ := one (items := items) F7 (by omega) (by simp [items]) (by simp [items])
  obtain ⟨i0, rfl⟩ : ∃ i : Int, d2 = .int i := by
    simp only [items, List.mem_cons, List.not_mem_nil, or_false] at hd2
    rcases hd2 with rfl | rfl | rfl | rfl | rfl <;> exact ⟨_, rfl⟩
  let P : D := .lst [.int p, .int q, .int s]
  obtain ⟨i, S9, r9, hi, F9, A9⟩ : ∃ (i : Int) (S9 : List O), sIf (mTB (mBin gEq (mVar 8) (mC (.str "<")))) (sAsg 10 (mCall (m__law_draw c) (mCons (mVar 0) (mCons (mBin gAdd (mC (.int 3)) (mBin gMul (mC (.int 18)) (mVar 3))) mNil)))) sNil (E pr' (some (.lst (sg.map .str))) (some (.str σ)) (some P) (some (.int i0))) S8 = .nx (E pr' (some (.lst (sg.map .str))) (some (.str σ)) (some P) (some (.int i))) S9 ∧ (σ = "<" → 0 ≤ i ∧ i ≤ 20) ∧ Dk S9 (m + 10) ∧ Ag S8 S9 := by
    have t := g.g.lt (E pr' (some (.lst (sg.map .str))) (some (.str σ)) (some P) (some (.int i0))) S8 rfl
    by_cases hs : σ = "<"
    · rw [decide_eq_true hs] at t
      obtain ⟨y, S9, r9, y0, y1, F9, A9⟩ := drw (many := 21) F8 (by omega) (by decide) (by decide)
      exact ⟨y, S9, w_ifT t (w_asg (v_call (l := [.ref 0, .int 21]) (S1 := S8) (by kernel_rfl) r9)), fun _ => ⟨y0, by omega⟩, F9.mono (by omega), A9⟩
    · rw [decide_eq_false hs] at t
      exact ⟨i0, S8, w_ifF t w_nil, fun z => absurd z hs, F8.mono (by omega), Ag.refl _⟩
  have AA : Ag S S9 := (((((((A1.trans A2).trans A3).trans A4).trans A5).trans A6).trans A7).trans A8).trans A9
  have g9 : S9[N]? = some (.lst l) := (AA.2 N hN).trans hS
  have hlt : N < S9.length := (List.getElem?_eq_some_iff.mp g9).1
  let d : D := .tup [.str σ, P, .int i]
  refine ⟨d, pr', some (.lst (sg.map .str)), some (.str σ), some P, some (.int i), S9.set N (.lst (l ++ [d])), ?_, ⟨σ, rf, sd, p, q, s, i, g, rfl, hp, by omega, by omega, hi⟩, List.getElem?_set_self hlt, F9.of_get (List.getElem?_set_ne hN), by rw [List.length_set]; exact AA.1, fun j j0 jN => by rw [List.getElem?_set_ne (Ne.symm jN)]; exact AA.2 j j0⟩
  refine w_seq (e1 := E pr (some (.lst (s9.map .str))) a8 a9 a10) (S1 := S) (by kernel_rfl) ?_
  refine w_seq (e1 := E pr (some (.lst (sg.map .str))) a8 a9 a10) (S1 := S) (w_asg hsg) ?_
  refine w_seq (e1 := E pr (some (.lst (sg.map .str))) (some (.str σ)) a9 a10) (S1 := S1) (w_asg (v_call (l := [.ref 0, .lst (sg.map .str)]) (v_cons (v_var rfl) (v_cons (v_var rfl) v_nil)) r1)) ?_
  refine w_seq (e1 := E pr' (some (.lst (sg.map .str))) (some (.str σ)) a9 a10) (S1 := S1) (w_asg (v_bin (a := .int pr) (b := .int (if inD (.str σ) [.str "*", .str "f"] then 1 else 0)) (v_var rfl) (v_cb (l := [.bl (inD (.str σ) [.str "*", .str "f"])]) (v_cons (v_bin (a := .str σ) (b := .tup [.str "*", .str "f"]) (v_var rfl) (v_tup (v_cons v_C (v_cons v_C v_nil)) (show 2 ≤ 16777216 by decide)) (by kernel_rfl)) v_nil) x_intB) x_addI)) ?_
  refine w_seq (e1 := E pr' (some (.lst (sg.map .str))) (some (.str σ)) (some P) a10) (S1 := S5) (w_asg (v_lst (l := [.int p, .int q, .int s]) (v_cons (v_call (l := [.ref 0, .lst [.int ((top : Int) - 1), .int x0]]) (v_cons (v_var rfl) (v_cons (v_lst (l := [.int ((top : Int) - 1), .int x0]) (v_cons (v_bin (v_var rfl) v_C Ev.x_subI) (v_cons (v_call (l := [.ref 0, .int top]) (v_cons (v_var rfl) (v_cons (v_var rfl) v_nil)) r2) v_nil)) (show 2 ≤ 16777216 by decide)) v_nil)) r3) (v_cons (v_call (l := [.ref 0, .int top]) (v_cons (v_var rfl) (v_cons (v_var rfl) v_nil)) r4) (v_cons (v_call (l := [.ref 0, .int top]) (v_cons (v_var rfl) (v_cons (v_var rfl) v_nil)) r5) v_nil))) (show 3 ≤ 16777216 by decide))) ?_
  refine w_seq (e1 := E pr' (some (.lst (sg.map .str))) (some (.str σ)) (some P) (some (.int i0))) (S1 := S8) (w_asg (v_call (l := [.ref 0, .lst items]) (S1 := S7') (v_cons (v_var rfl) (v_cons (v_bin (a := .lst [.int 0, .int 1, .int (-1), .int (y - 9)]) (b := .lst [.int (z * 999 - 100000000)]) (S1 := S6) (S2 := S7') (v_lst (l := [.int 0, .int 1, .int (-1), .int (y - 9)]) (v_cons v_C (v_cons v_C (v_cons (v_un v_C rfl) (v_cons (v_bin (v_call (l := [.ref 0, .int 19]) (v_cons (v_var rfl) (v_cons v_C v_nil)) r6) v_C Ev.x_subI) v_nil)))) (show 4 ≤ 16777216 by decide)) (v_bin (a := .lst [.int (z * 999 - 100000000)]) (b := .int 1) (S1 := S7') (v_lst (l := [.int (z * 999 - 100000000)]) (v_cons (v_bin (a := .int (z * 999)) (b := .int 100000000) (v_bin (v_call (l := [.ref 0, .int 1000000]) (S1 := S6) (by kernel_rfl) r7) v_C (x_mul (by omega))) (by kernel_rfl) Ev.x_subI) v_nil) (show 1 ≤ 16777216 by decide)) (v_var rfl) (by kernel_rfl)) (by kernel_rfl)) v_nil)) r8)) ?_
  refine w_seq r9 ?_
  exact w_expr (v_mt (v_var rfl) (x_isL g9) (v_cons (v_tup (l := [.str σ, P, .int i]) (v_cons (v_var rfl) (v_cons (v_var rfl) (v_cons (v_var rfl) v_nil))) (show 3 ≤ 16777216 by decide)) v_nil) (x_append g9 (by omega)))
end K71

namespace Ev
open PySem PySem.Spec L2 PyProof.Rows Mo
theorem loop_atC {chk : List O → Bool} {t : Tg} {b : MS} {I : Nat → Mo.Env → List O → Prop} {l0 : List D} (hI0 : ∀ i e S, I i e S → chk S = true) (h : ∀ (i : Nat) (d : D), l0[i]? = some d → ∀ (e : Mo.Env) (S : List O), I i e S → ∃ e' e1 S1, t.f d e = some e' ∧ b e' S = .nx e1 S1 ∧ I (i + 1) e1 S1) :
    ∀ {l : List D} {i : Nat} {e : Mo.Env} {S : List O}, l0.drop i = l → i ≤ l0.length → I i e S → ∃ e1 S1, loopL chk t b l e S = .nx e1 S1 ∧ I l0.length e1 S1
  | [], i, e, S, hl, hi, hI => by
    have : i = l0.length := by
      have := congrArg List.length hl
      simp at this
      omega
    subst this
    exact ⟨e, S, loopL_nil (hI0 _ _ _ hI), hI⟩
  | d :: l, i, e, S, hl, hi, hI => by
    have hd : l0[i]? = some d := by
      have := congrArg (·[0]?) hl
      simpa using this
    obtain ⟨e', e1, S1, h1, h2, h3⟩ := h i d hd e S hI
    have hlt : i < l0.length := (List.getElem?_eq_some_iff.mp hd).1
    have hl' : l0.drop (i + 1) = l := by
      have := congrArg List.tail hl
      simpa using this
    obtain ⟨e2, S2, h4, h5⟩ := loop_atC hI0 h hl' hlt h3
    exact ⟨e2, S2, (loopL_step (hI0 _ _ _ hI) h1 h2).trans h4, h5⟩
theorem v_meth {C : Addr} {mn : Str} {f : List D → List O → R D} {mo : ME} {m : MA} {e : Mo.Env} {S S1 S2 : List O} {d : D} {fs : List (Str × D)} {l : List D} {r : R D} (h1 : mo e S = .ok d S1) (h2 : insD C S1 d = some fs) (h3 : (fs.lookup mn).isNone = true) (h4 : m e S1 = .ok l S2) (h5 : f (d :: l) S2 = r) : mMeth C mn f mo m e S = r := by
  unfold mMeth
  rw [h1]
  show (if ((insD C S1 d).any fun fs => (fs.lookup mn).isNone) = true then _ else _) = _
  rw [h2, Option.any_some, if_pos h3, h4]
  exact h5
theorem range2_at {n many : Nat} (hn : n < 1000) (hm : many < 1000) : rangeA2 [.int n, .int ((n : Int) + many)] = some (rangeD n 1 many) := by
  show (if (n : Int).natAbs < 4611686018427387904 ∧ ((n : Int) + many).natAbs < 4611686018427387904 then some (rangeD n 1 (((n : Int) + many) - n).toNat) else none) = _
  rw [if_pos ⟨by omega, by omega⟩, show (((n : Int) + many) - n).toNat = many by omega]
theorem rangeD_get {a c : Int} {n i : Nat} {d : D} (h : (rangeD a c n)[i]? = some d) : i < n ∧ d = .int (a + (i : Nat) * c) := by
  unfold rangeD at h
  rw [List.getElem?_map] at h
  cases q : (List.range n)[i]? with
  | none => rw [q] at h; cases h
  | some j =>
    rw [q] at h
    obtain ⟨h1, h2⟩ := List.getElem?_eq_some_iff.mp q
    rw [List.getElem_range] at h2
    subst h2
    rw [List.length_range] at h1
    exact ⟨h1, (Option.some.inj h).symm⟩
theorem rangeA1_at {n : Nat} (hn : n < 1000) : rangeA1 [.int n] = some (intsN (List.range n)) := by
  show (if (n : Int).natAbs < 4611686018427387904 then some (rangeD 0 1 (n : Int).toNat) else none) = _
  rw [if_pos (by omega)]
  congr 1
  show (List.range (n : Int).toNat).map _ = (List.range n).map _
  rw [show (n : Int).toNat = n by omega]
  apply List.map_congr_left
  intro i hi
  congr 1
  omega
end Ev
namespace K71
open PySem PySem.Spec L2 PyProof.Rows Mo Ev
variable {c : Cs} {S : List O} {J n : Nat} {u : D}
theorem nodes_ok {many m : Nat} (h1 : 1 ≤ n) (h2 : n < 100) (hm : many < 100) (F : Dk S m) (hmm : m < 50000) :
    ∃ l S', m__law_nodes c [.ref 0, .int n, .int many, .int 1] S = .ok (.ref S.length) S' ∧ S'[S.length]? = some (.lst l) ∧ l.length = many ∧ (∀ j d, l[j]? = some d → NodeOk c (n + j) d) ∧ S'.length = S.length + 1 ∧ (∀ i, i < S.length → i ≠ 0 → S'[i]? = S[i]?) ∧ Dk S' (m + 10 * many) := by
  have p0 := F.pos
  have key := loop_at (t := tgN 6) (b := nB c) (l0 := rangeD n 1 many)
    (I := fun k e T => ∃ pr a6 a7 a8 a9 a10 l, e = [some (.ref 0), some (.int n), some (.int many), some (.int 1), some (.ref S.length), some (.int pr), a6, a7, a8, a9, a10] ∧ T[S.length]? = some (.lst l) ∧ l.length = k ∧ (∀ j d, l[j]? = some d → NodeOk c (n + j) d) ∧ T.length = S.length + 1 ∧ (∀ i, i < S.length → i ≠ 0 → T[i]? = S[i]?) ∧ Dk T (m + 10 * k))
    (fun k d hd e T ⟨pr, a6, a7, a8, a9, a10, l, he, hT, hl, hk, hTl, hTs, hTF⟩ => by
      subst he
      obtain ⟨hki, rfl⟩ := rangeD_get hd
      obtain ⟨d, pr', b7, b8, b9, b10, S', r, q1, q2, q3, q4, q5⟩ := node_turn (c := c) (n := n) (many := many) (N := S.length) (top := n + k) (pr := pr) (a7 := a7) (a8 := a8) (a9 := a9) (a10 := a10) (by omega) (by omega) hTF (by omega) (by omega) hT (by omega)
      rw [show ((n : Nat) : Int) + (k : Nat) * 1 = ((n + k : Nat) : Int) by omega]
      refine ⟨_, _, S', rfl, r, pr', _, b7, b8, b9, b10, l ++ [d], rfl, q2, by simp [hl], fun j x hx => ?_, by rw [q4, hTl], fun i i1 i2 => (q5 i i2 (by omega)).trans (hTs i i1 i2), q3.mono (by omega)⟩
      rw [List.getElem?_append] at hx
      split at hx
      · exact hk j x hx
      · rename_i hge
        have : j - l.length = 0 := by
          have := (List.getElem?_eq_some_iff.mp hx).1
          simp at this
          omega
        rw [this] at hx
        cases hx
        rw [show n + j = n + k by omega]
        exact q1)
    (l := _) (i := 0) (e := [some (.ref 0), some (.int n), some (.int many), some (.int 1), some (.ref S.length), some (.int 0), none, none, none, none, none]) (S := S ++ [.lst []]) rfl (Nat.zero_le _)
    ⟨0, none, none, none, none, none, [], rfl, at_0, rfl, fun j d h => (by simp at h), by rw [List.length_append]; rfl, fun i i1 i2 => List.getElem?_append_left i1, F.app⟩
  obtain ⟨e1, T, hl, pr, a6, a7, a8, a9, a10, l, rfl, q1, q2, q3, q4, q5, q6⟩ := key
  have hlen : (rangeD (n : Int) 1 many).length = many := by unfold rangeD; rw [List.length_map, List.length_range]
  rw [hlen] at q2 q6
  refine ⟨l, T, nb_ok ((fn_rt (S' := T) (d := .ref S.length) rfl ?_).trans ?_), q1, q2, q3, q4, q5, q6⟩
  · refine w_seq (e1 := [some (.ref 0), some (.int n), some (.int many), some (.int 1), some (.ref S.length), some (.int 0), none, none, none, none, none]) (S1 := S ++ [.lst []]) (w_par (a := .ref S.length) (b := .int 0) (v_cons (v_new v_nil (show 0 ≤ 16777216 by decide)) (v_cons v_C v_nil))) ?_
    refine w_seq ((w_for (v_mir (l := [.int n, .int ((n : Int) + many)]) (v_cons (v_var rfl) (v_cons (v_bin (v_var rfl) (v_var rfl) x_addI) v_nil)) (range2_at (by omega) (by omega)))).trans hl) ?_
    exact w_ret (v_var rfl)
  · have : D.lo S.length (.ref S.length) = false := by simp [D.lo]
    rw [this]
    rfl
theorem same_ok : ∀ {d : Nat} {x : D}, Pl d x → m__law_same c d [x, x] [] = .ok (.bl true) []
  | d + 1, .int i, _ => by
    refine fn_lo (S := []) (T := []) rfl ?_ rfl
    refine w_seq (w_ifF (S1 := []) (by kernel_rfl) w_nil) ?_
    refine w_seq (w_ifF (S1 := []) (by kernel_rfl) w_nil) ?_
    exact w_ret (v_andVT (S1 := []) (by kernel_rfl) (v_andVT (S1 := []) (by kernel_rfl) (v_bin (v_var rfl) (v_var rfl) x_eqI)))
  | d + 1, .str x, _ => by
    refine fn_lo (S := []) (T := []) rfl ?_ rfl
    refine w_seq (w_ifF (S1 := []) (by kernel_rfl) w_nil) ?_
    exact w_seqR (w_ifT (S1 := []) (by kernel_rfl) (w_ret (v_andVT (S1 := []) (by kernel_rfl) (v_bin (v_var rfl) (v_var rfl) x_eqS))))
  | d + 1, .tup l, h => by
    refine fn_lo (S := []) (T := []) rfl ?_ rfl
    refine w_seqR (w_ifT (S1 := []) (by kernel_rfl) ?_)
    refine w_seq (w_ifF (S1 := []) (v_orF (S1 := []) (by kernel_rfl) (v_tb (v_bin (v_cb (v_cons (v_var rfl) v_nil) rfl) (v_cb (v_cons (v_var rfl) v_nil) rfl) (show gNe [] (.int l.length) (.int l.length) = some (.bl false) by show some (D.bl (!decide _)) = _; rw [decide_eq_true rfl]; rfl)))) w_nil) ?_
    refine w_ret (v_bin (a := .lst []) (b := .lst []) (v_comp (l := l.map fun x => .tup [x, x]) (S1 := []) (chk := anyS) ?_ ?_) (v_lst v_nil (by decide)) (by kernel_rfl))
    · show R.ok (zipD l l, anyS) [] = _
      rw [zip_self]
    · refine compL_none rfl fun x hx => ⟨[some (.tup l), some (.tup l), some x, some x], rfl, ?_⟩
      have hp := h.2 x hx
      exact v_not (k := true) (v_tb (v_callP (v_cons (v_var rfl) (v_cons (v_var rfl) v_nil)) (by simp [D.los, hp.lo]) (same_ok hp) rfl))
theorem pl_joined {d : Nat} {R : List Rw} {at_ : List Nat} (h : ∀ r ∈ R, Sh r) (hl : R.length ≤ 100) (h2 : at_.length ≤ 100) : Pl (d + 7) (.tup [.int n, rowsD R, .tup (intsN at_)]) := by
  refine ⟨by show 3 ≤ 1000; decide, fun x hx => ?_⟩
  rcases List.mem_cons.mp hx with rfl | hx
  · trivial
  rcases List.mem_cons.mp hx with rfl | hx
  · exact K70.pl_rows h hl
  rw [List.mem_singleton.mp hx]
  refine ⟨by rw [List.length_map]; omega, fun y hy => ?_⟩
  obtain ⟨i, _, rfl⟩ := List.mem_map.mp hy
  trivial
abbrev joinD (n : Nat) (vs : List Va) : D := .tup [.int n, rowsD (togR n ([], []) vs).1, .tup (intsN (togR n ([], []) vs).2)]
theorem mjoin {vs : List Va} (hJ : S[J]? = some (mkO c u n)) (hn : n < 100) (hv : ∀ v ∈ vs, VaOk n v) (h0 : vs ≠ []) (hl : vs.length < 8) : m_Maker_joined c (.ref J :: vs.map (vaD c J)) S = .ok (joinD n vs) S := by
  have P : m_put_together c [.tup (vs.map (vaD c J))] S = .ok (.tup [rowsD (togR n ([], []) vs).1, .tup (intsN (togR n ([], []) vs).2)]) S := K70.together_ok (c := c7 c) hJ hn hv h0 hl
  have neq : gNeI c.Maker gNe S (.ref J) (.ref J) = some (.bl false) := K70.x_neMaker (c := c7 c) hJ
  show nbF (fnS 1 4 (b_Maker_joined c)) _ S = _
  have key : nbF (fnM 2 4 (b_Maker_joined c)) [.ref J, .tup (vs.map (vaD c J))] S = .ok (joinD n vs) S := by
    cases vs with
    | nil => exact absurd rfl h0
    | cons v0 vs0 =>
    refine fn_lo (T := []) rfl ?_ (by simp [D.lo, D.los, K70.lo_rows, K70.lo_ints])
    rw [List.append_nil]
    refine w_seq (w_ifF (v_tb (v_bin (a := .ref J) (v_fld (v_bin (d := vaD c J v0) (v_var rfl) v_C (show atI ((v0 :: vs0).map (vaD c J)) ((0 : Nat) : Int) = _ from Ev.atI_nat rfl)) x_fz rfl) (v_var rfl) neq)) w_nil) ?_
    refine w_seq (e1 := [some (.ref J), some (.tup ((v0 :: vs0).map (vaD c J))), some (rowsD (togR n ([], []) (v0 :: vs0)).1), some (.tup (intsN (togR n ([], []) (v0 :: vs0)).2))]) (S1 := S) (w_unp (v_call (l := [.tup ((v0 :: vs0).map (vaD c J))]) (v_cons (v_var rfl) v_nil) P) rfl) ?_
    exact w_ret (v_tup (l := [.int n, rowsD (togR n ([], []) (v0 :: vs0)).1, .tup (intsN (togR n ([], []) (v0 :: vs0)).2)]) (v_cons (v_fld (v_var rfl) (x_ins hJ) rfl) (v_cons (v_var rfl) (v_cons (v_var rfl) v_nil))) (show 3 ≤ 16777216 by decide))
  have e : fnS 1 4 (b_Maker_joined c) (.ref J :: vs.map (vaD c J)) S = fnM 2 4 (b_Maker_joined c) [.ref J, .tup (vs.map (vaD c J))] S := by
    unfold fnS
    rw [if_pos ⟨by simp, by simp [sz]; have : (8 : Nat) ≤ 16777216 := by decide
                            omega⟩]
    rfl
  unfold nbF at key ⊢
  rw [e]
  exact key
theorem joined_ok {vs : List Va} (hJ : S[J]? = some (mkO c u n)) (hn : n < 100) (hv : ∀ v ∈ vs, VaOk n v) (h0 : vs ≠ []) (hl : vs.length ≤ 4) : m__law_joined c [.ref J, .lst (vs.map (vaD c J))] S = .ok (joinD n vs) S := by
  have M := mjoin hJ hn hv h0 (by omega)
  refine fn_lo (T := []) rfl ?_ (by simp [D.lo, D.los, K70.lo_rows, K70.lo_ints])
  rw [List.append_nil]
  have ln : ([("under", u), ("inputs", .int n)] : List (Str × D)).lookup ("joined" : Str) = none := by kernel_rfl
  match vs, h0, hl with
  | [a], _, _ => exact w_seqR (w_ifT (S1 := S) (by kernel_rfl) (w_ret (v_meth (v_var rfl) (x_ins hJ) (by rw [ln]; rfl) (v_cons (v_bin (d := vaD c J a) (v_var rfl) v_C (by kernel_rfl)) v_nil) M)))
  | [a, b], _, _ =>
    refine w_seq (w_ifF (S1 := S) (by kernel_rfl) w_nil) ?_
    exact w_seqR (w_ifT (S1 := S) (by kernel_rfl) (w_ret (v_meth (v_var rfl) (x_ins hJ) (by rw [ln]; rfl) (v_cons (v_bin (d := vaD c J a) (v_var rfl) v_C (by kernel_rfl)) (v_cons (v_bin (d := vaD c J b) (v_var rfl) v_C (by kernel_rfl)) v_nil)) M)))
  | [a, b, d], _, _ =>
    refine w_seq (w_ifF (S1 := S) (by kernel_rfl) w_nil) ?_
    refine w_seq (w_ifF (S1 := S) (by kernel_rfl) w_nil) ?_
    exact w_seqR (w_ifT (S1 := S) (by kernel_rfl) (w_ret (v_meth (v_var rfl) (x_ins hJ) (by rw [ln]; rfl) (v_cons (v_bin (d := vaD c J a) (v_var rfl) v_C (by kernel_rfl)) (v_cons (v_bin (d := vaD c J b) (v_var rfl) v_C (by kernel_rfl)) (v_cons (v_bin (d := vaD c J d) (v_var rfl) v_C (by kernel_rfl)) v_nil))) M)))
  | [a, b, d, f], _, _ =>
    refine w_seq (w_ifF (S1 := S) (by kernel_rfl) w_nil) ?_
    refine w_seq (w_ifF (S1 := S) (by kernel_rfl) w_nil) ?_
    refine w_seq (w_ifF (S1 := S) (by kernel_rfl) w_nil) ?_
    exact w_ret (v_meth (v_var rfl) (x_ins hJ) (by rw [ln]; rfl) (v_cons (v_bin (d := vaD c J a) (v_var rfl) v_C (by kernel_rfl)) (v_cons (v_bin (d := vaD c J b) (v_var rfl) v_C (by kernel_rfl)) (v_cons (v_bin (d := vaD c J d) (v_var rfl) v_C (by kernel_rfl)) (v_cons (v_bin (d := vaD c J f) (v_var rfl) v_C (by kernel_rfl)) v_nil)))) M)
end K71

namespace K71
open PySem PySem.Spec L2 PyProof.Rows Mo Ev
variable {c : Cs} {S : List O} {J n : Nat} {u : D}
/-- the values so far -/
structure Vs (c : Cs) (S : List O) (J V T n : Nat) (u : D) (vs : List Va) : Prop where
  J0 : J ≠ 0
  V0 : V ≠ 0
  T0 : T ≠ 0
  gJ : S[J]? = some (mkO c u n)
  gV : S[V]? = some (.lst (vs.map (vaD c J)))
  gT : S[T]? = some (.lst (vs.map toldD))
  c : ∀ v ∈ vs, VaC n v
  l : ∀ v ∈ vs, v.rows.length ≤ 12
theorem Vs.ag {S S' : List O} {J V T n : Nat} {u : D} {vs : List Va} (h : Vs c S J V T n u vs) (A : Ag S S') : Vs c S' J V T n u vs := ⟨h.J0, h.V0, h.T0, (A.2 _ h.J0).trans h.gJ, (A.2 _ h.V0).trans h.gV, (A.2 _ h.T0).trans h.gT, h.c, h.l⟩
abbrev pv (vs : List Va) (x : Nat) : Va := vs.getD x ⟨[], 0⟩
theorem pv_mem {vs : List Va} {x : Nat} (h : x < vs.length) : pv vs x ∈ vs := by
  unfold pv
  rw [List.getD_eq_getElem?_getD, List.getElem?_eq_getElem h]
  exact List.getElem_mem h
theorem pv_at {vs : List Va} {x : Nat} {f : Va → D} (h : x < vs.length) : atI (vs.map f) (x : Int) = some (f (pv vs x)) := by
  refine Ev.atI_nat ?_
  unfold pv
  rw [List.getElem?_map, List.getD_eq_getElem?_getD, List.getElem?_eq_getElem h]
  rfl
theorem comp_draws {e : Mo.Env} {V L : Nat} {lv : List D} (h0 : (wipeE e [7])[0]? = some (some (.ref 0))) (h3 : (wipeE e [7])[3]? = some (some (.ref V))) (h07 : ∀ d, ((tgN 7).f d (wipeE e [7])).isSome = true) (hV0 : V ≠ 0) (hlv : lv.length = L) (hL : 1 ≤ L) (hL2 : L < 1000)
    (he0 : ∀ d, ((wipeE e [7]).set 7 (some d))[0]? = some (some (.ref 0))) (he3 : ∀ d, ((wipeE e [7]).set 7 (some d))[3]? = some (some (.ref V))) :
    ∀ {ws : List D} {acc : List Nat} {S : List O} {m : Nat}, Dk S m → m + ws.length < 1000000 → S[V]? = some (.lst lv) → (∀ x ∈ acc, x < L) → acc.length + ws.length < 1000 →
      ∃ (ps : List Nat) (S' : List O), compL anyS (tgN 7) mYes (mCall (m__law_draw c) (mCons (mVar 0) (mCons (mCB gLen (mCons (mVar 3) mNil)) mNil))) (wipeE e [7]) (intsN acc) ws S = .ok (intsN ps) S' ∧ (∀ x ∈ ps, x < L) ∧ ps.length = acc.length + ws.length ∧ Dk S' (m + ws.length) ∧ Ag S S'
  | [], acc, S, m, F, _, _, ha, _ => ⟨acc, S, compL_nil rfl, ha, rfl, F, Ag.refl S⟩
  | w :: ws, acc, S, m, F, hm, hS, ha, hl => by
    rw [List.length_cons] at hm hl
    obtain ⟨d, S1, r1, d0, d1, F1, A1⟩ := drw (many := L) F (by omega) (by omega) (by omega)
    obtain ⟨x, rfl⟩ : ∃ x : Nat, d = x := ⟨d.toNat, by omega⟩
    have hx : x < L := by omega
    obtain ⟨ps, S2, r2, p1, p2, F2, A2⟩ := comp_draws h0 h3 h07 hV0 hlv hL hL2 he0 he3 (ws := ws) (acc := acc ++ [x]) F1 (by omega) ((A1.2 V hV0).trans hS) (fun y hy => by
      rcases List.mem_append.mp hy with e | e
      · exact ha y e
      · rw [List.mem_singleton.mp e]; exact hx) (by rw [List.length_append]; simp; omega)
    refine ⟨ps, S2, ?_, p1, by rw [p2, List.length_append, List.length_cons]; simp; omega, F2.mono (by rw [List.length_cons]; omega), A1.trans A2⟩
    have hgl : gLen S [.ref V] = some (.int L) := by
      show (match seqR S (.ref V) with | some l => some (D.int l.length) | none => none) = _
      unfold seqR
      simp only [hS, hlv]
    refine (compL_one (e' := (wipeE e [7]).set 7 (some w)) (y := .int x) (S2 := S1) rfl rfl (v_call (l := [.ref 0, .int L]) (v_cons (v_var (he0 w)) (v_cons (v_cb (v_cons (v_var (he3 w)) v_nil) hgl) v_nil)) r1) (by rw [List.length_map]; show acc.length < 16777216; omega)).trans ?_
    have : intsN acc ++ [.int x] = intsN (acc ++ [x]) := by unfold intsN; rw [List.map_append]; rfl
    rw [this]
    exact r2
theorem right_ok {V T m : Nat} {vs : List Va} (h : Vs c S J V T n u vs) (hn : n < 100) (h1 : 1 ≤ vs.length) (h2 : vs.length < 100) (F : Dk S m) (hm : m < 50000) :
    ∃ S', m__law_joined_right c [.ref 0, .ref J, .int n, .ref V, .ref T] S = .ok (.bl true) S' ∧ Dk S' (m + 30) ∧ Ag S S' := by
  let inB : MS := sSeq (sAsg 11 (mCall (m__law_joined c) (mCons (mVar 1) (mCons (mComp (miSeq (mVar 6)) (tgN 7) mYes (mBin gIx (mVar 3) (mVar 7)) [7]) mNil)))) (
  sIf (mNot (mTB (mCallP (m__law_same c 8) (mCons (mVar 11) (mCons (mTup (mCons (mVar 2) (mCons (mVar 8) (mCons (mVar 9) mNil)))) mNil))))) (
  sRet (mC (.bl false))) (
  sNil))
  let oB : MS := sSeq (sAsg 6 (mComp (miRange rangeA1 (mCons (mBin gAdd (mC (.int 1)) (mCall (m__law_draw c) (mCons (mVar 0) (mCons (mC (.int 4)) mNil)))) mNil)) (tgN 7) mYes (mCall (m__law_draw c) (mCons (mVar 0) (mCons (mCB gLen (mCons (mVar 3) mNil)) mNil))) [7])) (
  sSeq (sUnp (tgT 2 (tgsC (tgN 8) (tgsC (tgN 9) tgsN))) (mCall (m__law_together c) (mCons (mVar 2) (mCons (mComp (miSeq (mVar 6)) (tgN 7) mYes (mBin gIx (mVar 4) (mVar 7)) [7]) mNil)))) (
  sFor (miRange rangeA1 (mCons (mC (.int 2)) mNil)) (tgN 10) inB))
  let E (a5 a6 a7 a8 a9 a10 a11 : Option D) : Mo.Env := [some (.ref 0), some (.ref J), some (.int n), some (.ref V), some (.ref T), a5, a6, a7, a8, a9, a10, a11]
  have key := loop_at (t := tgN 5) (b := oB) (l0 := intsN (List.range 3))
    (I := fun k e Tt => ∃ a5 a6 a7 a8 a9 a10 a11, e = E a5 a6 a7 a8 a9 a10 a11 ∧ Dk Tt (m + 6 * k) ∧ Ag S Tt)
    (fun k d hd e Tt ⟨a5, a6, a7, a8, a9, a10, a11, he, hF, hA⟩ => by
      subst he
      have hk : k < 3 := (List.getElem?_eq_some_iff.mp hd).1
      have hv := h.ag hA
      obtain ⟨x, S1, r1, x0, x1, F1, A1⟩ := drw (many := 4) hF (by omega) (by decide) (by decide)
      obtain ⟨cnt, rfl⟩ : ∃ cnt : Nat, x = (cnt : Int) - 1 := ⟨(x + 1).toNat, by omega⟩
      obtain ⟨ps, S2, r2, p1, p2, F2, A2⟩ := comp_draws (c := c) (e := E (some d) a6 a7 a8 a9 a10 a11) (V := V) (L := vs.length) (lv := vs.map (vaD c J)) rfl rfl (fun _ => rfl) hv.V0 (by rw [List.length_map]) h1 (by omega) (fun _ => rfl) (fun _ => rfl) (ws := intsN (List.range cnt)) (acc := []) F1 (by rw [List.length_map, List.length_range]; omega) ((hv.ag A1).gV) (fun x hx => by cases hx) (by rw [List.length_map, List.length_range]; simp; omega)
      rw [List.length_map, List.length_range] at p2 F2
      have hpl : ps.length = cnt := by rw [p2]; simp
      have hv2 := (hv.ag A1).ag A2
      let ws : List Va := ps.map (pv vs)
      have wc : ∀ v ∈ ws, VaC n v := fun v hv' => by
        obtain ⟨x, hx, rfl⟩ := List.mem_map.mp hv'
        exact h.c _ (pv_mem (p1 x hx))
      have wl : ∀ v ∈ ws, v.rows.length ≤ 12 := fun v hv' => by
        obtain ⟨x, hx, rfl⟩ := List.mem_map.mp hv'
        exact h.l _ (pv_mem (p1 x hx))
      have wlen : ws.length = cnt := by show (ps.map _).length = _; rw [List.length_map, hpl]
      have wne : ws ≠ [] := by intro z; rw [z] at wlen; simp at wlen; omega
      have wok : ∀ v ∈ ws, VaOk n v := fun v hv' => (wc v hv').ok (wl v hv')
      obtain ⟨t1, t2, t3, t4⟩ := togs wc wl (by omega)
      have lt := ltog_ok (c := c) (S := S2) (vs := ws) hn wok (by omega)
      have jt := joined_ok (c := c) (S := S2) (vs := ws) hv2.gJ hn wok wne (by omega)
      have pl : Pl 8 (joinD n ws) := pl_joined (d := 1) t1.sh (by omega) (by rw [t3]; omega)
      have comp1 : ∀ a8 a9 a10 a11, mComp (miSeq (mVar 6)) (tgN 7) mYes (mBin gIx (mVar 4) (mVar 7)) [7] (E (some d) (some (.lst (intsN ps))) a7 a8 a9 a10 a11) S2 = .ok (.lst (ws.map toldD)) S2 := fun a8 a9 a10 a11 => by
        refine v_comp (l := intsN ps) (S1 := S2) (v_seqL (v_var rfl)) ?_
        rw [compL_fn (h := fun x : Nat => toldD (pv vs x)) rfl (fun x hx => ⟨_, rfl, v_bin (v_var rfl) (v_var rfl) (x_ix hv2.gT (pv_at (p1 x hx)))⟩) (by show 0 + ps.length ≤ 16777216; omega), List.nil_append]
        show R.ok _ _ = R.ok ((ps.map (pv vs)).map toldD) S2
        rw [List.map_map]
        rfl
      have comp2 : ∀ a8 a9 a10 a11, mComp (miSeq (mVar 6)) (tgN 7) mYes (mBin gIx (mVar 3) (mVar 7)) [7] (E (some d) (some (.lst (intsN ps))) a7 a8 a9 a10 a11) S2 = .ok (.lst (ws.map (vaD c J))) S2 := fun a8 a9 a10 a11 => by
        refine v_comp (l := intsN ps) (S1 := S2) (v_seqL (v_var rfl)) ?_
        rw [compL_fn (h := fun x : Nat => vaD c J (pv vs x)) rfl (fun x hx => ⟨_, rfl, v_bin (v_var rfl) (v_var rfl) (x_ix hv2.gV (pv_at (p1 x hx)))⟩) (by show 0 + ps.length ≤ 16777216; omega), List.nil_append]
        show R.ok _ _ = R.ok ((ps.map (pv vs)).map (vaD c J)) S2
        rw [List.map_map]
        rfl
      let Rw_ : D := rowsD (togR n ([], []) ws).1
      let At : D := .tup (intsN (togR n ([], []) ws).2)
      have turn2 : ∀ a10 a11, inB (E (some d) (some (.lst (intsN ps))) a7 (some Rw_) (some At) a10 a11) S2 = .nx (E (some d) (some (.lst (intsN ps))) a7 (some Rw_) (some At) a10 (some (joinD n ws))) S2 := fun a10 a11 => by
        refine w_seq (e1 := E (some d) (some (.lst (intsN ps))) a7 (some Rw_) (some At) a10 (some (joinD n ws))) (S1 := S2) (w_asg (v_call (l := [.ref J, .lst (ws.map (vaD c J))]) (v_cons (v_var rfl) (v_cons (comp2 _ _ _ _) v_nil)) jt)) ?_
        refine w_ifF (v_not (k := true) (v_tb (v_callP (l := [joinD n ws, joinD n ws]) (v_cons (v_var rfl) (v_cons (v_tup (l := [.int n, Rw_, At]) (v_cons (v_var rfl) (v_cons (v_var rfl) (v_cons (v_var rfl) v_nil))) (show 3 ≤ 16777216 by decide)) v_nil)) (by simp [D.los, pl.lo]) (same_ok pl) rfl))) w_nil
      refine ⟨E (some d) a6 a7 a8 a9 a10 a11, E (some d) (some (.lst (intsN ps))) a7 (some Rw_) (some At) (some (.int 1)) (some (joinD n ws)), S2, rfl, ?_, ⟨_, _, _, _, _, _, _, rfl, F2.mono (by omega), (hA.trans A1).trans A2⟩⟩
      refine w_seq (e1 := E (some d) (some (.lst (intsN ps))) a7 a8 a9 a10 a11) (S1 := S2) (w_asg (v_comp (l := intsN (List.range cnt)) (S1 := S1) (chk := anyS) (v_mir (l := [.int cnt]) (v_cons (v_bin (a := .int 1) (b := .int ((cnt : Int) - 1)) v_C (v_call (l := [.ref 0, .int 4]) (v_cons (v_var rfl) (v_cons v_C v_nil)) r1) ?_) v_nil) (rangeA1_at (by omega))) r2)) ?_
      · rw [x_addI]
        congr 2
        omega
      refine w_seq (e1 := E (some d) (some (.lst (intsN ps))) a7 (some Rw_) (some At) a10 a11) (S1 := S2) (w_unp (v_call (l := [.int n, .lst (ws.map toldD)]) (v_cons (v_var rfl) (v_cons (comp1 _ _ _ _) v_nil)) lt) rfl) ?_
      refine (w_for (l := [.int 0, .int 1]) (chk := anyS) (S1 := S2) rfl).trans ?_
      exact (loopL_step rfl rfl (turn2 (some (.int 0)) a11)).trans ((loopL_step rfl rfl (turn2 (some (.int 1)) _)).trans (loopL_nil rfl)))
    (l := _) (i := 0) (e := E none none none none none none none) (S := S) rfl (Nat.zero_le _) ⟨_, _, _, _, _, _, _, rfl, F, Ag.refl S⟩
  obtain ⟨e1, Tt, hl, a5, a6, a7, a8, a9, a10, a11, rfl, hF, hA⟩ := key
  refine ⟨Tt, nb_ok ((fn_rt (S' := Tt) (d := .bl true) rfl ?_).trans (by rw [trim_same hA.1])), hF.mono (by show m + 6 * 3 ≤ _; omega), hA⟩
  refine w_seq ((w_for (l := intsN (List.range 3)) (chk := anyS) (S1 := S) rfl).trans hl) ?_
  exact w_ret v_C
def gB (c : Cs) : MS := sSeq (sPar 9 10 (mCons (mCall (m__law_model c) (mCons (mVar 3) (mCons (mVar 6) (mCons (mVar 8) mNil)))) (mCons (mCall (m__law_made c) (mCons (mVar 5) (mCons (mVar 8) mNil))) mNil))) (
  sSeq (sIf (mTB (mBin gNe (mBin gIsN (mVar 10) (mC .non)) (mBin gGt (mCB gLen (mCons (mBin gIx (mVar 9) (mC (.int 0))) mNil)) (mC (.int 12))))) (
  sRet (mC (.bl false))) (
  sNil)) (
  sSeq (sExpr (mMt isL gAppend (mVar 5) (mCons (mIf (mTB (mBin gIsN (mVar 10) (mC .non))) (mBin gIx (mVar 5) (mC (.int 0))) (mVar 10)) mNil))) (
  sExpr (mMt isL gAppend (mVar 6) (mCons (mIf (mTB (mBin gIsN (mVar 10) (mC .non))) (mBin gIx (mVar 6) (mC (.int 0))) (mVar 9)) mNil)))))
theorem grow {S : List O} {J V T n m : Nat} {u d : D} {vs : List Va} {a0 a2 a4 a7 a9 a10 a11 : Option D} (h : Vs c S J V T n u vs) (hVT : V ≠ T) (hJV : J ≠ V) (hJT : J ≠ T) (hn : n < 100) (h1 : 1 ≤ vs.length) (h2 : vs.length < 1000) (hd : NodeOk c vs.length d) (F : Dk S m) :
    ∃ b9 b10 S' v, gB c [a0, some (.ref 0), a2, some (.int n), a4, some (.ref V), some (.ref T), a7, some d, a9, a10, a11] S = .nx [a0, some (.ref 0), a2, some (.int n), a4, some (.ref V), some (.ref T), a7, some d, b9, b10, a11] S' ∧ Vs c S' J V T n u (vs ++ [v]) ∧ Dk S' m ∧ S'.length = S.length ∧ ∀ i, i ≠ V → i ≠ T → S'[i]? = S[i]? := by
  obtain ⟨σ, rf, sd, p, q, s, i, g, rfl, hp, hq, hs, hi⟩ := hd
  have jl : J < S.length := (List.getElem?_eq_some_iff.mp h.gJ).1
  obtain ⟨mo, vc⟩ := model_ok (c := c) (S := S) (n := n) (i := i) g h.gT (pv_at hp) (pv_at hq) (pv_at hs) (h.c _ (pv_mem hp)) (h.l _ (pv_mem hp)) (h.c _ (pv_mem hq)) (h.l _ (pv_mem hq)) (h.c _ (pv_mem hs)) (h.l _ (pv_mem hs)) hn hi
  have va := g.val (i := i) h.gJ hn h.gV (pv_at hp) (pv_at hq) (pv_at hs) (h.c _ (pv_mem hp)) (h.l _ (pv_mem hp)) (h.c _ (pv_mem hq)) (h.l _ (pv_mem hq)) (h.c _ (pv_mem hs)) (h.l _ (pv_mem hs)) hi
  have ma := made_ok jl va
  generalize due n rf sd (pv vs p) (pv vs q) (pv vs s) i = v at *
  let node : D := .tup [.str σ, .lst [.int p, .int q, .int s], .int i]
  have hVl : V < S.length := (List.getElem?_eq_some_iff.mp h.gV).1
  have hTl : T < S.length := (List.getElem?_eq_some_iff.mp h.gT).1
  obtain ⟨fd, hfd⟩ : ∃ fd : D, fd = if v.rows.length ≤ 12 then vaD c J v else .non := ⟨_, rfl⟩
  rw [← hfd] at ma
  let v' : Va := if v.rows.length ≤ 12 then v else pv vs 0
  let E (a9 a10 : Option D) : Mo.Env := [a0, some (.ref 0), a2, some (.int n), a4, some (.ref V), some (.ref T), a7, some node, a9, a10, a11]
  have isn : ∀ S, gIsN S fd .non = some (.bl (decide (¬ v.rows.length ≤ 12))) := fun S => by
    show some (D.bl (decide (fd = .non))) = _
    rw [hfd]
    by_cases hl : v.rows.length ≤ 12
    · rw [if_pos hl, decide_eq_false (by intro z; cases z), decide_eq_false (by omega)]
    · rw [if_neg hl, decide_eq_true rfl, decide_eq_true hl]
  let S1 : List O := S.set V (.lst (vs.map (vaD c J) ++ [vaD c J v']))
  let S2 : List O := S1.set T (.lst (vs.map toldD ++ [toldD v']))
  have gT1 : S1[T]? = some (.lst (vs.map toldD)) := (List.getElem?_set_ne hVT).trans h.gT
  have hv' : VaC n v' ∧ v'.rows.length ≤ 12 := by
    show VaC n (if _ then _ else _) ∧ (if _ then _ else _ : Va).rows.length ≤ 12
    by_cases hl : v.rows.length ≤ 12
    · rw [if_pos hl]; exact ⟨vc, hl⟩
    · rw [if_neg hl]; exact ⟨h.c _ (pv_mem (by omega)), h.l _ (pv_mem (by omega))⟩
  have a1 : mIf (mTB (mBin gIsN (mVar 10) (mC .non))) (mBin gIx (mVar 5) (mC (.int 0))) (mVar 10) (E (some (toldD v)) (some fd)) S = .ok (vaD c J v') S := by
    have t : mTB (mBin gIsN (mVar 10) (mC .non)) (E (some (toldD v)) (some fd)) S = .ok (decide (¬ v.rows.length ≤ 12)) S := v_tb (v_bin (v_var rfl) v_C (isn S))
    by_cases hl : v.rows.length ≤ 12
    · rw [decide_eq_false (by omega)] at t
      refine v_ifF t ((Mo.v_var rfl).trans ?_)
      show R.ok fd S = R.ok (vaD c J (if _ then _ else _)) S
      rw [if_pos hl, hfd, if_pos hl]
    · rw [decide_eq_true hl] at t
      refine v_ifT t ((v_bin (v_var rfl) v_C (x_ix h.gV (pv_at (x := 0) (by omega)))).trans ?_)
      show _ = R.ok (vaD c J (if _ then _ else _)) S
      rw [if_neg hl]
  have a2' : mIf (mTB (mBin gIsN (mVar 10) (mC .non))) (mBin gIx (mVar 6) (mC (.int 0))) (mVar 9) (E (some (toldD v)) (some fd)) S1 = .ok (toldD v') S1 := by
    have t : mTB (mBin gIsN (mVar 10) (mC .non)) (E (some (toldD v)) (some fd)) S1 = .ok (decide (¬ v.rows.length ≤ 12)) S1 := v_tb (v_bin (v_var rfl) v_C (isn S1))
    by_cases hl : v.rows.length ≤ 12
    · rw [decide_eq_false (by omega)] at t
      refine v_ifF t ((Mo.v_var rfl).trans ?_)
      show R.ok (toldD v) S1 = R.ok (toldD (if _ then _ else _)) S1
      rw [if_pos hl]
    · rw [decide_eq_true hl] at t
      refine v_ifT t ((v_bin (v_var rfl) v_C (x_ix gT1 (pv_at (x := 0) (by omega)))).trans ?_)
      show _ = R.ok (toldD (if _ then _ else _)) S1
      rw [if_neg hl]
  have hS2 : S2.length = S.length := by show ((S.set _ _).set _ _).length = _; rw [List.length_set, List.length_set]
  have oth : ∀ i, i ≠ V → i ≠ T → S2[i]? = S[i]? := fun i iV iT => by
    show ((S.set _ _).set _ _)[i]? = _
    rw [List.getElem?_set_ne (Ne.symm iT), List.getElem?_set_ne (Ne.symm iV)]
  refine ⟨some (toldD v), some fd, S2, v', ?_, ⟨h.J0, h.V0, h.T0, (oth J hJV hJT).trans h.gJ, ?_, ?_, ?_, ?_⟩, F.of_get (oth 0 (Ne.symm h.V0) (Ne.symm h.T0)), hS2, oth⟩
  · refine w_seq (e1 := E (some (toldD v)) (some fd)) (S1 := S) (w_par (a := toldD v) (b := fd) (v_cons (v_call (l := [.int n, .ref T, node]) (v_cons (v_var rfl) (v_cons (v_var rfl) (v_cons (v_var rfl) v_nil))) mo) (v_cons (v_call (l := [.ref V, node]) (v_cons (v_var rfl) (v_cons (v_var rfl) v_nil)) ma) v_nil))) ?_
    refine w_seq (e1 := E (some (toldD v)) (some fd)) (S1 := S) (w_ifF (v_tb (v_bin (a := .bl (decide (¬ v.rows.length ≤ 12))) (b := .bl (decide ((12 : Int) < (v.rows.map rwD).length))) (v_bin (v_var rfl) v_C (isn S)) (v_bin (v_cb (l := [rowsD v.rows]) (v_cons (v_bin (v_var rfl) v_C (by kernel_rfl)) v_nil) (show gLen _ [rowsD v.rows] = some (.int ((v.rows.map rwD).length : Nat)) from rfl)) v_C x_gt) ?_)) w_nil) ?_
    · show some (D.bl (!(decide (¬ v.rows.length ≤ 12) == decide ((12 : Int) < (v.rows.map rwD).length)))) = _
      rw [List.length_map]
      have : decide (¬ v.rows.length ≤ 12) = decide ((12 : Int) < (v.rows.length : Nat)) := by rw [decide_eq_decide]; omega
      rw [this]
      simp
    refine w_seq (e1 := E (some (toldD v)) (some fd)) (S1 := S1) (w_expr (v_mt (v_var rfl) (x_isL h.gV) (v_cons a1 v_nil) (x_append h.gV (by rw [List.length_map]; omega)))) ?_
    exact w_expr (v_mt (v_var rfl) (x_isL gT1) (v_cons a2' v_nil) (x_append gT1 (by rw [List.length_map]; omega)))
  · show ((S.set _ _).set _ _)[V]? = _
    rw [List.getElem?_set_ne (Ne.symm hVT), List.getElem?_set_self hVl, List.map_append]
    rfl
  · show ((S.set _ _).set _ _)[T]? = _
    rw [List.getElem?_set_self (by rw [List.length_set]; exact hTl), List.map_append]
    rfl
  · intro x hx
    rcases List.mem_append.mp hx with e | e
    · exact h.c x e
    · rw [List.mem_singleton.mp e]; exact hv'.1
  · intro x hx
    rcases List.mem_append.mp hx with e | e
    · exact h.l x e
    · rw [List.mem_singleton.mp e]; exact hv'.2
end K71

namespace Ev
open PySem PySem.Spec L2 PyProof.Rows Mo
theorem v_compN {m : MI} {t : Tg} {tt : MT} {te : ME} {vs : List Nat} {e : Mo.Env} {S S1 S2 : List O} {l r : List D} {chk : List O → Bool} (h1 : m e S = .ok (l, chk) S1) (h2 : compL chk t tt te (wipeE e vs) [] l S1 = .ok r S2) : mCompN m t tt te vs e S = .ok (.ref S2.length) (S2 ++ [.lst r]) := by
  unfold mCompN
  rw [h1]
  show (compL chk t tt te (wipeE e vs) [] l S1).bind _ = _
  rw [h2]
  rfl
theorem v_srcC {m : ME} {e : Mo.Env} {S S1 : List O} {n : Nat} {l : List D} (h : m e S = .ok (.ref n) S1) (h2 : S1[n]? = some (.lst l)) : miSeq m e S = .ok (l, fun S => decide (S[n]? = some (.lst l))) S1 := by
  unfold miSeq
  rw [h]
  show (match srcD S1 (.ref n) with | some r => R.ok r S1 | none => .bad) = _
  unfold srcD
  simp only [h2]
theorem v_zipR {m : MA} {e : Mo.Env} {S S1 : List O} {n k : Nat} {r q : List D} (h : m e S = .ok [.ref n, .ref k] S1) (h1 : S1[n]? = some (.lst r)) (h2 : S1[k]? = some (.lst q)) : miZip m e S = .ok (zipD r q, fun S => decide (S[n]? = some (.lst r)) && decide (S[k]? = some (.lst q))) S1 := by
  unfold miZip
  rw [h]
  show (match S1[n]?, S1[k]? with
    | some (.lst r), some (.lst q) => R.ok (zipD r q, fun S : List O => decide (S[n]? = some (O.lst r)) && decide (S[k]? = some (O.lst q))) S1
    | _, _ => .bad) = _
  simp only [h1, h2]
end Ev
namespace K71
open PySem PySem.Spec L2 PyProof.Rows Mo Ev
variable {c : Cs}
theorem Vs.get {S S' : List O} {J V T n : Nat} {u : D} {vs : List Va} (h : Vs c S J V T n u vs) (e1 : S'[J]? = S[J]?) (e2 : S'[V]? = S[V]?) (e3 : S'[T]? = S[T]?) : Vs c S' J V T n u vs := ⟨h.J0, h.V0, h.T0, e1.trans h.gJ, e2.trans h.gV, e3.trans h.gT, h.c, h.l⟩
def zB (c : Cs) : MS := sIf (mNot (mTB (mCallP (m__law_same c 8) (mCons (mProp (c.Value) (m_Value_program c) (mVar 11)) (mCons (mTup (mCons (mVar 3) (mCons (mBin gIx (mVar 9) (mC (.int 0))) (mCons (mTup (mCons (mBin gIx (mVar 9) (mC (.int 1))) mNil)) mNil)))) mNil))))) (
  sRet (mC (.bl false))) (
  sNil)
def lB (c : Cs) : MS := sSeq (sAsg 3 (mBin gAdd (mC (.int 1)) (mCall (m__law_draw c) (mCons (mVar 1) (mCons (mC (.int 4)) mNil))))) (
  sSeq (sAsg 4 (mMake (c.Maker) (m_Maker___init__ c) (mCons (mCall (m__law_traits c) (mCons (mVar 1) mNil)) (mCons (mVar 3) mNil)))) (
  sSeq (sPar 5 6 (mCons (mCompN (miRange rangeA1 (mCons (mVar 3) mNil)) (tgN 7) mYes (mIxO (c.Maker) (m_Maker___getitem__ c) (mVar 4) (mVar 7)) [7]) (mCons (mCompN (miRange rangeA1 (mCons (mVar 3) mNil)) (tgN 7) mYes (mTup (mCons (mTup mNil) (mCons (mVar 7) mNil))) [7]) mNil))) (
  sSeq (sFor (miSeq (mCall (m__law_nodes c) (mCons (mVar 1) (mCons (mVar 3) (mCons (mCall (m__law_one c) (mCons (mVar 1) (mCons (mLst (mCons (mC (.int 3)) (mCons (mC (.int 8)) (mCons (mC (.int 16)) mNil)))) mNil))) (mCons (mC (.int 1)) mNil)))))) (tgN 8) (gB c)) (
  sSeq (sIf (mNot (mTB (mCall (m__law_joined_right c) (mCons (mVar 1) (mCons (mVar 4) (mCons (mVar 3) (mCons (mVar 5) (mCons (mVar 6) mNil)))))))) (
  sRet (mC (.bl false))) (
  sNil)) (
  sFor (miZip (mCons (mVar 5) (mCons (mVar 6) mNil))) (tgT 2 (tgsC (tgN 11) (tgsC (tgN 9) tgsN))) (zB c))))))
def Iv (i : Nat) (e : Mo.Env) (S : List O) : Prop := ∃ a0 a2 a3 a4 a5 a6 a7 a8 a9 a10 a11, e = [a0, some (.ref 0), a2, a3, a4, a5, a6, a7, a8, a9, a10, a11] ∧ Dk S (400 * i)
theorem turn (i : Nat) (hi : i < 3) (d : D) (e : Mo.Env) (S : List O) (h : Iv i e S) : ∃ e' e1 S1, (tgN 2).f d e = some e' ∧ lB c e' S = .nx e1 S1 ∧ Iv (i + 1) e1 S1 := by
  obtain ⟨a0, a2, a3, a4, a5, a6, a7, a8, a9, a10, a11, rfl, F⟩ := h
  obtain ⟨nn, S1, r1, n0, n1, F1, A1⟩ := drw (many := 4) F (by omega) (by decide) (by decide)
  obtain ⟨n, rfl⟩ : ∃ n : Nat, nn = (n : Int) - 1 := ⟨(nn + 1).toNat, by omega⟩
  have h1 : 1 ≤ n := by omega
  have hn : n ≤ 4 := by omega
  obtain ⟨ws, hw, S2, r2, F2, A2⟩ := K70.traits_ok (c := c7 c) F1 (by omega)
  let u : D := .fz c.Traits ["held"] [.tup (K70.heldD ws)]
  have p2 := F2.pos
  let J := S2.length
  let S3 : List O := S2 ++ [mkO c u n]
  let v0 : List Va := (List.range n).map fun i => ⟨[], i⟩
  let V := S3.length
  let S4 : List O := S3 ++ [.lst (v0.map (vaD c J))]
  let T := S4.length
  let S5 : List O := S4 ++ [.lst (v0.map toldD)]
  have lV : V = J + 1 := by show (S2 ++ [_]).length = _; rw [List.length_append]; rfl
  have lT : T = J + 2 := by show (S3 ++ [_]).length = _; rw [List.length_append]; show V + 1 = _; omega
  have gJ3 : S3[J]? = some (mkO c u n) := at_0
  have gJ4 : S4[J]? = some (mkO c u n) := at_l gJ3
  have vs5 : Vs c S5 J V T n u v0 := ⟨by show S2.length ≠ 0; omega, by omega, by omega, at_l gJ4, at_l at_0, at_0, fun v hv => by
      obtain ⟨i, hi, rfl⟩ := List.mem_map.mp hv
      exact ⟨Canon.nil, by show i < n + 0; have := List.mem_range.mp hi; omega⟩, fun v hv => by
      obtain ⟨i, hi, rfl⟩ := List.mem_map.mp hv
      exact Nat.zero_le _⟩
  have F5 : Dk S5 (400 * i + 2) := F2.app.app.app
  obtain ⟨dm, hdm, S6, r6, F6, A6⟩ := one (items := [.int 3, .int 8, .int 16]) F5 (by omega) (by simp) (by simp)
  obtain ⟨many, rfl, hmany⟩ : ∃ many : Nat, dm = .int many ∧ many ≤ 16 := by
    simp only [List.mem_cons, List.not_mem_nil, or_false] at hdm
    rcases hdm with rfl | rfl | rfl
    · exact ⟨3, rfl, by decide⟩
    · exact ⟨8, rfl, by decide⟩
    · exact ⟨16, rfl, by decide⟩
  obtain ⟨l, S7, r7, gN, hl, hnode, l7, s7, F7⟩ := nodes_ok (c := c) (n := n) (many := many) h1 (by omega) (by omega) F6 (by omega)
  have vs6 := vs5.ag A6
  have bJ : J < S6.length := (List.getElem?_eq_some_iff.mp vs6.gJ).1
  have bV : V < S6.length := (List.getElem?_eq_some_iff.mp vs6.gV).1
  have bT : T < S6.length := (List.getElem?_eq_some_iff.mp vs6.gT).1
  have vs7 : Vs c S7 J V T n u v0 := vs6.get (s7 J bJ vs6.J0) (s7 V bV vs6.V0) (s7 T bT vs6.T0)
  let N := S6.length
  let E (a5 a6 a7 a8 a9 a10 a11 : Option D) : Mo.Env := [a0, some (.ref 0), some d, some (.int n), some (.ref J), a5, a6, a7, a8, a9, a10, a11]
  have key := loop_atC (chk := fun S => decide (S[N]? = some (.lst l))) (t := tgN 8) (b := gB c) (l0 := l)
    (I := fun k e Tt => ∃ vs b7 b8 b9 b10 b11, e = E (some (.ref V)) (some (.ref T)) b7 b8 b9 b10 b11 ∧ Vs c Tt J V T n u vs ∧ vs.length = n + k ∧ Tt[N]? = some (.lst l) ∧ Dk Tt (400 * i + 3 + 10 * many))
    (fun k e Tt ⟨_, _, _, _, _, _, _, _, _, h, _⟩ => decide_eq_true h)
    (fun k x hx e Tt ⟨vs, b7, b8, b9, b10, b11, he, hv, hlen, hN, hF⟩ => by
      subst he
      have hk : k < l.length := (List.getElem?_eq_some_iff.mp hx).1
      obtain ⟨q9, q10, S', v, r, g1, g2, g3, g4⟩ := grow (c := c) (d := x) (a0 := a0) (a2 := some d) (a4 := some (.ref J)) (a7 := b7) (a9 := b9) (a10 := b10) (a11 := b11) hv (by omega) (by omega) (by omega) (by omega) (by omega) (by omega) (by rw [hlen]; exact hnode k x hx) hF
      exact ⟨_, _, S', rfl, r, vs ++ [v], _, _, _, _, _, rfl, g1, by rw [List.length_append, hlen]; show n + k + 1 = _; omega, (g4 N (by show S6.length ≠ V; omega) (by show S6.length ≠ T; omega)).trans hN, g2⟩)
    (l := _) (i := 0) (e := E (some (.ref V)) (some (.ref T)) a7 a8 a9 a10 a11) (S := S7) rfl (Nat.zero_le _) ⟨v0, _, _, _, _, _, rfl, vs7, by show ((List.range n).map _).length = _; rw [List.length_map, List.length_range]; rfl, gN, F7⟩
  obtain ⟨e8, S8, hl8, vs, b7, b8, b9, b10, b11, rfl, vs8, hlen8, _, F8⟩ := key
  obtain ⟨S9, r9, F9, A9⟩ := right_ok (c := c) vs8 (by omega) (by omega) (by omega) F8 (by omega)
  have vs9 := vs8.ag A9
  have key2 := loop_atC (chk := fun S => decide (S[V]? = some (.lst (vs.map (vaD c J)))) && decide (S[T]? = some (.lst (vs.map toldD)))) (t := tgT 2 (tgsC (tgN 11) (tgsC (tgN 9) tgsN))) (b := zB c) (l0 := zipD (vs.map (vaD c J)) (vs.map toldD))
    (I := fun k e Tt => ∃ b7 b8 b9 b10 b11, e = E (some (.ref V)) (some (.ref T)) b7 b8 b9 b10 b11 ∧ Tt = S9)
    (fun k e Tt ⟨_, _, _, _, _, _, h⟩ => by
      subst h
      rw [decide_eq_true vs9.gV, decide_eq_true vs9.gT]
      rfl)
    (fun k x hx e Tt ⟨b7, b8, b9, b10, b11, he, hT⟩ => by
      subst he hT
      obtain ⟨x1, x2, y1, y2, rfl⟩ := zipD_get hx
      rw [List.getElem?_map] at y1 y2
      cases hv : vs[k]? with
      | none => rw [hv] at y1; cases y1
      | some v =>
        rw [hv] at y1 y2
        cases y1; cases y2
        have hm := List.mem_of_getElem? hv
        have pl : Pl 8 (K70.progD n v) := K70.pl_prog (d := 1) (vs9.c v hm).c.sh (by have := vs9.l v hm; omega)
        have prog : m_Value_program c [vaD c J v] Tt = .ok (K70.progD n v) Tt := K70.program_ok (c := c7 c) vs9.gJ
        refine ⟨E (some (.ref V)) (some (.ref T)) b7 b8 (some (toldD v)) b10 (some (vaD c J v)), E (some (.ref V)) (some (.ref T)) b7 b8 (some (toldD v)) b10 (some (vaD c J v)), Tt, rfl, ?_, _, _, _, _, _, rfl, rfl⟩
        exact w_ifF (v_not (k := true) (v_tb (v_callP (l := [K70.progD n v, K70.progD n v]) (v_cons (v_prop (v_var rfl) x_fz prog) (v_cons (v_tup (l := [.int n, rowsD v.rows, .tup [.int v.place]]) (v_cons (v_var rfl) (v_cons (v_bin (v_var rfl) v_C (by kernel_rfl)) (v_cons (v_tup (l := [.int v.place]) (v_cons (v_bin (v_var rfl) v_C (by kernel_rfl)) v_nil) (show 1 ≤ 16777216 by decide)) v_nil))) (show 3 ≤ 16777216 by decide)) v_nil)) (by simp [D.los, pl.lo]) (same_ok pl) rfl))) w_nil)
    (l := _) (i := 0) (e := E (some (.ref V)) (some (.ref T)) b7 b8 b9 b10 b11) (S := S9) rfl (Nat.zero_le _) ⟨_, _, _, _, _, rfl, rfl⟩
  obtain ⟨e10, S10, hl10, b7', b8', b9', b10', b11', rfl, rfl⟩ := key2
  refine ⟨_, E (some (.ref V)) (some (.ref T)) b7' b8' b9' b10' b11', S10, rfl, ?_, _, _, _, _, _, _, _, _, _, _, _, rfl, F9.mono (by omega)⟩
  have ra : rangeA1 [.int n] = some (intsN (List.range n)) := rangeA1_at (by omega)
  refine w_seq (e1 := [a0, some (.ref 0), some d, some (.int n), a4, a5, a6, a7, a8, a9, a10, a11]) (S1 := S1) (w_asg (v_bin (a := .int 1) (b := .int ((n : Int) - 1)) v_C (v_call (l := [.ref 0, .int 4]) (v_cons (v_var rfl) (v_cons v_C v_nil)) r1) ?_)) ?_
  · rw [x_addI]
    congr 2
    omega
  refine w_seq (e1 := E a5 a6 a7 a8 a9 a10 a11) (S1 := S3) (w_asg (v_make (l := [u, .int n]) (S1 := S2) (v_cons (v_call (l := [.ref 0]) (v_cons (v_var rfl) v_nil) r2) (v_cons (v_var rfl) v_nil)) (K70.maker_init (c := c7 c)))) ?_
  have c1 : mCompN (miRange rangeA1 (mCons (mVar 3) mNil)) (tgN 7) mYes (mIxO (c.Maker) (m_Maker___getitem__ c) (mVar 4) (mVar 7)) [7] (E a5 a6 a7 a8 a9 a10 a11) S3 = .ok (.ref V) S4 := by
    refine v_compN (l := intsN (List.range n)) (chk := anyS) (v_mir (l := [.int n]) (v_cons (v_var rfl) v_nil) ra) ?_
    have gi : ∀ i : Nat, m_Maker___getitem__ c [.ref J, .int i] S3 = .ok (vaD c J ⟨[], i⟩) S3 := fun i => K70.item_ok (c := c7 c) gJ3
    refine (compL_fn (ws := List.range n) (g := fun i : Nat => D.int i) (h := fun i : Nat => vaD c J ⟨[], i⟩) rfl (fun i hi => ⟨_, rfl, v_ixO (v_var rfl) (v_var rfl) (x_isI (x_ins gJ3)) (gi i)⟩) (by rw [List.length_range]; show 0 + n ≤ 16777216; omega)).trans ?_
    rw [List.nil_append]
    show R.ok _ _ = R.ok (((List.range n).map fun i => (⟨[], i⟩ : Va)).map (vaD c J)) S3
    rw [List.map_map]
    rfl
  have c2 : mCompN (miRange rangeA1 (mCons (mVar 3) mNil)) (tgN 7) mYes (mTup (mCons (mTup mNil) (mCons (mVar 7) mNil))) [7] (E a5 a6 a7 a8 a9 a10 a11) S4 = .ok (.ref T) S5 := by
    refine v_compN (l := intsN (List.range n)) (chk := anyS) (v_mir (l := [.int n]) (v_cons (v_var rfl) v_nil) ra) ?_
    rw [compL_fn (h := fun i : Nat => toldD ⟨[], i⟩) rfl (fun i hi => ⟨_, rfl, v_tup (l := [.tup [], .int i]) (v_cons (v_tup v_nil (show 0 ≤ 16777216 by decide)) (v_cons (v_var rfl) v_nil)) (show 2 ≤ 16777216 by decide)⟩) (by rw [List.length_range]; show 0 + n ≤ 16777216; omega), List.nil_append]
    show R.ok _ _ = R.ok (((List.range n).map fun i => (⟨[], i⟩ : Va)).map toldD) S4
    rw [List.map_map]
    rfl
  refine w_seq (e1 := E (some (.ref V)) (some (.ref T)) a7 a8 a9 a10 a11) (S1 := S5) (w_par (a := .ref V) (b := .ref T) (v_cons c1 (v_cons c2 v_nil))) ?_
  refine w_seq ((w_for (v_srcC (S1 := S7) (v_call (l := [.ref 0, .int n, .int many, .int 1]) (S1 := S6) (v_cons (v_var rfl) (v_cons (v_var rfl) (v_cons (v_call (l := [.ref 0, .lst [.int 3, .int 8, .int 16]]) (S1 := S5) (v_cons (v_var rfl) (v_cons (v_lst (v_cons v_C (v_cons v_C (v_cons v_C v_nil))) (show 3 ≤ 16777216 by decide)) v_nil)) r6) (v_cons v_C v_nil)))) r7) gN)).trans hl8) ?_
  refine w_seq (e1 := E (some (.ref V)) (some (.ref T)) b7 b8 b9 b10 b11) (S1 := S10) (w_ifF (v_not (k := true) (v_tb (v_call (l := [.ref 0, .ref J, .int n, .ref V, .ref T]) (S1 := S8) (v_cons (v_var rfl) (v_cons (v_var rfl) (v_cons (v_var rfl) (v_cons (v_var rfl) (v_cons (v_var rfl) v_nil))))) r9))) w_nil) ?_
  exact (w_for (v_zipR (v_cons (v_var rfl) (v_cons (v_var rfl) v_nil)) vs9.gV vs9.gT)).trans hl10
theorem law_true : ∀ c : Cs, ∀ ns : List Int, ns.length ≤ 63 → ∃ S, fnM 1 12 (b_law c) [.kl (ns.map D.int)] [] = .ok (.bl true) S := by
  intro c ns _
  obtain ⟨S0, hf, F, hl0⟩ := deck_call ns
  obtain ⟨e1, S1, hl, _⟩ := loop_inv (t := tgN 2) (b := lB c) (I := Iv) (n := 3) turn (i := 0) (l := rangeD 0 1 3) rfl (e := [some (.kl (ns.map .int)), some (.ref 0), none, none, none, none, none, none, none, none, none, none]) (S := S0) ⟨_, _, _, _, _, _, _, _, _, _, _, rfl, F⟩
  refine ⟨_, fn_rt (S' := S1) (d := .bl true) rfl ?_⟩
  refine w_seq (w_asg (v_call (v_cons (v_var rfl) v_nil) hf)) ?_
  refine w_seq (e1 := e1) (S1 := S1) ?_ (w_ret v_C)
  exact (w_for (l := rangeD 0 1 3) (S1 := S0) rfl).trans hl
end K71

namespace K71
open PySem PySem.Spec L2 PyProof.Rows Mo
def top (i : Nat) : Stmt := PySem.Challenge.pw_everyround_k71_rows_of_values.main.body.getD i (.Pass ⟨0, 0, 0, 0⟩)
def cls (i : Nat) : List Stmt := match top i with
  | .ClassDef _ _ _ b _ _ _ _ _ _ _ => b
  | _ => []
abbrev s__law_deck : Stmt := top 17
abbrev N__law_deck : List Str := ["_law_script"]
abbrev P__law_deck : List Str := ["_law_script"]
theorem sc__law_deck : FnScope N__law_deck P__law_deck (defScope s__law_deck) := ⟨rfl, rfl, rfl, by decide +kernel, rfl, by decide +kernel, by decide +kernel⟩
abbrev s_Maker___init__ : Stmt := (cls 12).getD 0 (.Pass ⟨0, 0, 0, 0⟩)
abbrev N_Maker___init__ : List Str := ["self", "traits", "inputs"]
abbrev P_Maker___init__ : List Str := ["self", "traits", "inputs"]
theorem sc_Maker___init__ : FnScope N_Maker___init__ P_Maker___init__ (defScope s_Maker___init__) := ⟨rfl, rfl, rfl, by decide +kernel, rfl, by decide +kernel, by decide +kernel⟩
abbrev s__law_draw : Stmt := top 18
abbrev N__law_draw : List Str := ["_law_deck_here", "_law_many", "_law_found", "_law_cell", "_law_mixed"]
abbrev P__law_draw : List Str := ["_law_deck_here", "_law_many"]
theorem sc__law_draw : FnScope N__law_draw P__law_draw (defScope s__law_draw) := ⟨rfl, rfl, rfl, by decide +kernel, rfl, by decide +kernel, by decide +kernel⟩
abbrev s__law_one : Stmt := top 19
abbrev N__law_one : List Str := ["_law_deck_here", "_law_items"]
abbrev P__law_one : List Str := ["_law_deck_here", "_law_items"]
theorem sc__law_one : FnScope N__law_one P__law_one (defScope s__law_one) := ⟨rfl, rfl, rfl, by decide +kernel, rfl, by decide +kernel, by decide +kernel⟩
abbrev s__law_nodes : Stmt := top 20
abbrev N__law_nodes : List Str := ["_law_deck_here", "_law_inputs", "_law_many", "_law_far", "_law_found", "_law_products", "_law_top", "_law_signs", "_law_sign", "_law_places", "_law_number"]
abbrev P__law_nodes : List Str := ["_law_deck_here", "_law_inputs", "_law_many", "_law_far"]
theorem sc__law_nodes : FnScope N__law_nodes P__law_nodes (defScope s__law_nodes) := ⟨rfl, rfl, rfl, by decide +kernel, rfl, by decide +kernel, by decide +kernel⟩
abbrev s_Traits___init__ : Stmt := (cls 15).getD 0 (.Pass ⟨0, 0, 0, 0⟩)
abbrev N_Traits___init__ : List Str := ["self", "words", "word"]
abbrev P_Traits___init__ : List Str := ["self"]
theorem sc_Traits___init__ : FnScope N_Traits___init__ (P_Traits___init__ ++ (["words"] : List Str)) (defScope s_Traits___init__) := ⟨rfl, rfl, rfl, by decide +kernel, rfl, by decide +kernel, by decide +kernel⟩
abbrev s__law_traits : Stmt := top 27
abbrev N__law_traits : List Str := ["_law_deck_here", "_law_words"]
abbrev P__law_traits : List Str := ["_law_deck_here"]
theorem sc__law_traits : FnScope N__law_traits P__law_traits (defScope s__law_traits) := ⟨rfl, rfl, rfl, by decide +kernel, rfl, by decide +kernel, by decide +kernel⟩
abbrev s_Value___init__ : Stmt := (cls 11).getD 0 (.Pass ⟨0, 0, 0, 0⟩)
abbrev N_Value___init__ : List Str := ["self", "maker", "rows", "place"]
abbrev P_Value___init__ : List Str := ["self", "maker", "rows", "place"]
theorem sc_Value___init__ : FnScope N_Value___init__ P_Value___init__ (defScope s_Value___init__) := ⟨rfl, rfl, rfl, by decide +kernel, rfl, by decide +kernel, by decide +kernel⟩
abbrev s_Maker___getitem__ : Stmt := (cls 12).getD 1 (.Pass ⟨0, 0, 0, 0⟩)
abbrev N_Maker___getitem__ : List Str := ["self", "at"]
abbrev P_Maker___getitem__ : List Str := ["self", "at"]
theorem sc_Maker___getitem__ : FnScope N_Maker___getitem__ P_Maker___getitem__ (defScope s_Maker___getitem__) := ⟨rfl, rfl, rfl, by decide +kernel, rfl, by decide +kernel, by decide +kernel⟩
abbrev s__law_put : Stmt := top 23
abbrev N__law_put : List Str := ["_law_inputs", "_law_rows", "_law_more", "_law_found", "_law_places", "_law_word", "_law_terms", "_law_row_here", "_law_factor", "_law_some", "_law_place"]
abbrev P__law_put : List Str := ["_law_inputs", "_law_rows", "_law_more"]
theorem sc__law_put : FnScope N__law_put P__law_put (defScope s__law_put) := ⟨rfl, rfl, rfl, by decide +kernel, rfl, by decide +kernel, by decide +kernel⟩
abbrev s__law_together : Stmt := top 24
abbrev N__law_together : List Str := ["_law_inputs", "_law_sides", "_law_rows", "_law_at", "_law_more", "_law_place", "_law_places"]
abbrev P__law_together : List Str := ["_law_inputs", "_law_sides"]
theorem sc__law_together : FnScope N__law_together P__law_together (defScope s__law_together) := ⟨rfl, rfl, rfl, by decide +kernel, rfl, by decide +kernel, by decide +kernel⟩
abbrev s_put_rows : Stmt := top 8
abbrev N_put_rows : List Str := ["inputs", "rows", "more", "found", "places", "word", "terms", "row", "factor", "some", "place"]
abbrev P_put_rows : List Str := ["inputs", "rows", "more"]
theorem sc_put_rows : FnScope N_put_rows P_put_rows (defScope s_put_rows) := ⟨rfl, rfl, rfl, by decide +kernel, rfl, by decide +kernel, by decide +kernel⟩
abbrev s_put_together : Stmt := top 9
abbrev N_put_together : List Str := ["values", "maker", "rows", "found", "value", "places"]
abbrev P_put_together : List Str := ["values"]
theorem sc_put_together : FnScope N_put_together P_put_together (defScope s_put_together) := ⟨rfl, rfl, rfl, by decide +kernel, rfl, by decide +kernel, by decide +kernel⟩
abbrev s_Maker_joined : Stmt := (cls 12).getD 3 (.Pass ⟨0, 0, 0, 0⟩)
abbrev N_Maker_joined : List Str := ["self", "values", "rows", "places"]
abbrev P_Maker_joined : List Str := ["self"]
theorem sc_Maker_joined : FnScope N_Maker_joined (P_Maker_joined ++ (["values"] : List Str)) (defScope s_Maker_joined) := ⟨rfl, rfl, rfl, by decide +kernel, rfl, by decide +kernel, by decide +kernel⟩
abbrev s__law_joined : Stmt := top 29
abbrev N__law_joined : List Str := ["_law_maker", "_law_some"]
abbrev P__law_joined : List Str := ["_law_maker", "_law_some"]
theorem sc__law_joined : FnScope N__law_joined P__law_joined (defScope s__law_joined) := ⟨rfl, rfl, rfl, by decide +kernel, rfl, by decide +kernel, by decide +kernel⟩
abbrev s__law_same : Stmt := top 26
abbrev N__law_same : List Str := ["_law_found", "_law_due", "_law_one_here", "_law_other"]
abbrev P__law_same : List Str := ["_law_found", "_law_due"]
theorem sc__law_same : FnScope N__law_same P__law_same (defScope s__law_same) := ⟨rfl, rfl, rfl, by decide +kernel, rfl, by decide +kernel, by decide +kernel⟩
abbrev s__law_joined_right : Stmt := top 30
abbrev N__law_joined_right : List Str := ["_law_deck_here", "_law_maker", "_law_inputs", "_law_values", "_law_told", "_law_k", "_law_picks", "_law_pick", "_law_rows", "_law_places", "_law_again", "_law_found"]
abbrev P__law_joined_right : List Str := ["_law_deck_here", "_law_maker", "_law_inputs", "_law_values", "_law_told"]
theorem sc__law_joined_right : FnScope N__law_joined_right P__law_joined_right (defScope s__law_joined_right) := ⟨rfl, rfl, rfl, by decide +kernel, rfl, by decide +kernel, by decide +kernel⟩
abbrev s__law_row : Stmt := top 22
abbrev N__law_row : List Str := ["_law_sign", "_law_at", "_law_number"]
abbrev P__law_row : List Str := ["_law_sign", "_law_at", "_law_number"]
theorem sc__law_row : FnScope N__law_row P__law_row (defScope s__law_row) := ⟨rfl, rfl, rfl, by decide +kernel, rfl, by decide +kernel, by decide +kernel⟩
abbrev s__law_model : Stmt := top 25
abbrev N__law_model : List Str := ["_law_inputs", "_law_told", "_law_node", "_law_sign", "_law_places", "_law_number", "_law_many", "_law_rows", "_law_at", "_law_place", "_law_spots"]
abbrev P__law_model : List Str := ["_law_inputs", "_law_told", "_law_node"]
theorem sc__law_model : FnScope N__law_model P__law_model (defScope s__law_model) := ⟨rfl, rfl, rfl, by decide +kernel, rfl, by decide +kernel, by decide +kernel⟩
abbrev s_with_row : Stmt := top 10
abbrev N_with_row : List Str := ["maker", "rows", "word", "terms", "found", "places"]
abbrev P_with_row : List Str := ["maker", "rows", "word", "terms"]
theorem sc_with_row : FnScope N_with_row P_with_row (defScope s_with_row) := ⟨rfl, rfl, rfl, by decide +kernel, rfl, by decide +kernel, by decide +kernel⟩
abbrev s_Value___add__ : Stmt := (cls 11).getD 3 (.Pass ⟨0, 0, 0, 0⟩)
abbrev N_Value___add__ : List Str := ["self", "other", "rows", "places"]
abbrev P_Value___add__ : List Str := ["self", "other"]
theorem sc_Value___add__ : FnScope N_Value___add__ P_Value___add__ (defScope s_Value___add__) := ⟨rfl, rfl, rfl, by decide +kernel, rfl, by decide +kernel, by decide +kernel⟩
abbrev s_Value___radd__ : Stmt := (cls 11).getD 4 (.Pass ⟨0, 0, 0, 0⟩)
abbrev N_Value___radd__ : List Str := ["self", "other"]
abbrev P_Value___radd__ : List Str := ["self", "other"]
theorem sc_Value___radd__ : FnScope N_Value___radd__ P_Value___radd__ (defScope s_Value___radd__) := ⟨rfl, rfl, rfl, by decide +kernel, rfl, by decide +kernel, by decide +kernel⟩
abbrev s_Value___mul__ : Stmt := (cls 11).getD 7 (.Pass ⟨0, 0, 0, 0⟩)
abbrev N_Value___mul__ : List Str := ["self", "other", "rows", "places"]
abbrev P_Value___mul__ : List Str := ["self", "other"]
theorem sc_Value___mul__ : FnScope N_Value___mul__ P_Value___mul__ (defScope s_Value___mul__) := ⟨rfl, rfl, rfl, by decide +kernel, rfl, by decide +kernel, by decide +kernel⟩
abbrev s_Value___rmul__ : Stmt := (cls 11).getD 8 (.Pass ⟨0, 0, 0, 0⟩)
abbrev N_Value___rmul__ : List Str := ["self", "other"]
abbrev P_Value___rmul__ : List Str := ["self", "other"]
theorem sc_Value___rmul__ : FnScope N_Value___rmul__ P_Value___rmul__ (defScope s_Value___rmul__) := ⟨rfl, rfl, rfl, by decide +kernel, rfl, by decide +kernel, by decide +kernel⟩
abbrev s_Value___sub__ : Stmt := (cls 11).getD 5 (.Pass ⟨0, 0, 0, 0⟩)
abbrev N_Value___sub__ : List Str := ["self", "other", "rows", "places"]
abbrev P_Value___sub__ : List Str := ["self", "other"]
theorem sc_Value___sub__ : FnScope N_Value___sub__ P_Value___sub__ (defScope s_Value___sub__) := ⟨rfl, rfl, rfl, by decide +kernel, rfl, by decide +kernel, by decide +kernel⟩
abbrev s_Value___rsub__ : Stmt := (cls 11).getD 6 (.Pass ⟨0, 0, 0, 0⟩)
abbrev N_Value___rsub__ : List Str := ["self", "other"]
abbrev P_Value___rsub__ : List Str := ["self", "other"]
theorem sc_Value___rsub__ : FnScope N_Value___rsub__ P_Value___rsub__ (defScope s_Value___rsub__) := ⟨rfl, rfl, rfl, by decide +kernel, rfl, by decide +kernel, by decide +kernel⟩
abbrev s_Value___neg__ : Stmt := (cls 11).getD 9 (.Pass ⟨0, 0, 0, 0⟩)
abbrev N_Value___neg__ : List Str := ["self"]
abbrev P_Value___neg__ : List Str := ["self"]
theorem sc_Value___neg__ : FnScope N_Value___neg__ P_Value___neg__ (defScope s_Value___neg__) := ⟨rfl, rfl, rfl, by decide +kernel, rfl, by decide +kernel, by decide +kernel⟩
abbrev s_Value___lshift__ : Stmt := (cls 11).getD 10 (.Pass ⟨0, 0, 0, 0⟩)
abbrev N_Value___lshift__ : List Str := ["self", "other"]
abbrev P_Value___lshift__ : List Str := ["self", "other"]
theorem sc_Value___lshift__ : FnScope N_Value___lshift__ P_Value___lshift__ (defScope s_Value___lshift__) := ⟨rfl, rfl, rfl, by decide +kernel, rfl, by decide +kernel, by decide +kernel⟩
abbrev s_Value_fused : Stmt := (cls 11).getD 2 (.Pass ⟨0, 0, 0, 0⟩)
abbrev N_Value_fused : List Str := ["a", "b", "c", "rows", "places"]
abbrev P_Value_fused : List Str := ["a", "b", "c"]
theorem sc_Value_fused : FnScope N_Value_fused P_Value_fused (defScope s_Value_fused) := ⟨rfl, rfl, rfl, by decide +kernel, rfl, by decide +kernel, by decide +kernel⟩
abbrev s__law_value : Stmt := top 21
abbrev N__law_value : List Str := ["_law_values", "_law_node", "_law_sign", "_law_p", "_law_q", "_law_s", "_law_number", "_law_one_here", "_law_other", "_law_held"]
abbrev P__law_value : List Str := ["_law_values", "_law_node"]
theorem sc__law_value : FnScope N__law_value P__law_value (defScope s__law_value) := ⟨rfl, rfl, rfl, by decide +kernel, rfl, by decide +kernel, by decide +kernel⟩
abbrev s__law_made : Stmt := top 28
abbrev N__law_made : List Str := ["_law_values", "_law_node", "_law_found", "e"]
abbrev P__law_made : List Str := ["_law_values", "_law_node"]
theorem sc__law_made : FnScope N__law_made P__law_made (defScope s__law_made) := ⟨rfl, rfl, rfl, by decide +kernel, rfl, by decide +kernel, by decide +kernel⟩
abbrev s_Value_program : Stmt := (cls 11).getD 1 (.Pass ⟨0, 0, 0, 0⟩)
abbrev N_Value_program : List Str := ["self"]
abbrev P_Value_program : List Str := ["self"]
theorem sc_Value_program : FnScope N_Value_program P_Value_program (defScope s_Value_program) := ⟨rfl, rfl, rfl, by decide +kernel, rfl, by decide +kernel, by decide +kernel⟩
abbrev s_law : Stmt := top 31
abbrev N_law : List Str := ["_law_script", "_law_deck_here", "_law_turn", "_law_inputs", "_law_maker", "_law_values", "_law_told", "_law_i", "_law_node", "_law_due", "_law_found", "_law_value_here"]
abbrev P_law : List Str := ["_law_script"]
theorem sc_law : FnScope N_law P_law (defScope s_law) := ⟨rfl, rfl, rfl, by decide +kernel, rfl, by decide +kernel, by decide +kernel⟩
structure Fa (K : PySem.W.Frag) (mg : Str → Option Value) (x : Str) (st : Stmt) (ps : List Str) (f : Addr) (fd : FuncData) : Prop where
  F : Fun K x x st f fd
  mg : mg x = some (.ref f)
  kp : PySem.W.keepIn K (.ref f) = true
  bi : Binds K fd ps []
structure Fm (K : PySem.W.Frag) (x q : Str) (st : Stmt) (ps : List Str) (f : Addr) (fd : FuncData) : Prop where
  F : Fun K x q st f fd
  bi : Binds K fd ps []
structure Fs (K : PySem.W.Frag) (x q : Str) (st : Stmt) (ps : List Str) (pv : Str) (f : Addr) (fd : FuncData) : Prop where
  F : Fun K x q st f fd
  sb : ∀ us rest : List Value, us.length = ps.length → bindArgs fd ⟨us ++ rest, []⟩ = (newTuple rest >>= fun t => pure (ps.zip us ++ [(pv, t)]))
structure Ad where
  a__law_deck : Addr
  d__law_deck : FuncData
  a_Maker___init__ : Addr
  d_Maker___init__ : FuncData
  a__law_draw : Addr
  d__law_draw : FuncData
  a__law_one : Addr
  d__law_one : FuncData
  a__law_nodes : Addr
  d__law_nodes : FuncData
  a_Traits___init__ : Addr
  d_Traits___init__ : FuncData
  a__law_traits : Addr
  d__law_traits : FuncData
  a_Value___init__ : Addr
  d_Value___init__ : FuncData
  a_Maker___getitem__ : Addr
  d_Maker___getitem__ : FuncData
  a__law_put : Addr
  d__law_put : FuncData
  a__law_together : Addr
  d__law_together : FuncData
  a_put_rows : Addr
  d_put_rows : FuncData
  a_put_together : Addr
  d_put_together : FuncData
  a_Maker_joined : Addr
  d_Maker_joined : FuncData
  a__law_joined : Addr
  d__law_joined : FuncData
  a__law_same : Addr
  d__law_same : FuncData
  a__law_joined_right : Addr
  d__law_joined_right : FuncData
  a__law_row : Addr
  d__law_row : FuncData
  a__law_model : Addr
  d__law_model : FuncData
  a_with_row : Addr
  d_with_row : FuncData
  a_Value___add__ : Addr
  d_Value___add__ : FuncData
  a_Value___radd__ : Addr
  d_Value___radd__ : FuncData
  a_Value___mul__ : Addr
  d_Value___mul__ : FuncData
  a_Value___rmul__ : Addr
  d_Value___rmul__ : FuncData
  a_Value___sub__ : Addr
  d_Value___sub__ : FuncData
  a_Value___rsub__ : Addr
  d_Value___rsub__ : FuncData
  a_Value___neg__ : Addr
  d_Value___neg__ : FuncData
  a_Value___lshift__ : Addr
  d_Value___lshift__ : FuncData
  a_Value_fused : Addr
  d_Value_fused : FuncData
  a__law_value : Addr
  d__law_value : FuncData
  a__law_made : Addr
  d__law_made : FuncData
  a_Value_program : Addr
  d_Value_program : FuncData
  a_law : Addr
  d_law : FuncData
  c : Cs
  t_ci_MOST_ROWS : Tok
  v0_ct_WORDS : Addr
  v1_ct_WORDS : Option Addr
  v2_ct_WORDS : Array Value
  v3_ct_WORDS : Nat
  v4_ct_WORDS : Array (Option Value)
  fo_op_Value_Add : Option Value
  ro_op_Value_Add : Option Value
  rc_op_Value_Add : Option Value
  fo_op_Value_LShift : Option Value
  ro_op_Value_LShift : Option Value
  rc_op_Value_LShift : Option Value
  fo_op_Value_Mult : Option Value
  ro_op_Value_Mult : Option Value
  rc_op_Value_Mult : Option Value
  fo_op_Value_Sub : Option Value
  ro_op_Value_Sub : Option Value
  rc_op_Value_Sub : Option Value
  p_pr_Value_program : Addr
  p_st_Value_fused : Addr
structure Txt (K : PySem.W.Frag) (mg : Str → Option Value) (A : Ad) : Prop where
  F__law_deck : Fa K mg "_law_deck" s__law_deck P__law_deck A.a__law_deck A.d__law_deck
  F_Maker___init__ : Fm K "__init__" "Maker.__init__" s_Maker___init__ P_Maker___init__ A.a_Maker___init__ A.d_Maker___init__
  F__law_draw : Fa K mg "_law_draw" s__law_draw P__law_draw A.a__law_draw A.d__law_draw
  F__law_one : Fa K mg "_law_one" s__law_one P__law_one A.a__law_one A.d__law_one
  F__law_nodes : Fa K mg "_law_nodes" s__law_nodes P__law_nodes A.a__law_nodes A.d__law_nodes
  F_Traits___init__ : Fs K "__init__" "Traits.__init__" s_Traits___init__ P_Traits___init__ "words" A.a_Traits___init__ A.d_Traits___init__
  F__law_traits : Fa K mg "_law_traits" s__law_traits P__law_traits A.a__law_traits A.d__law_traits
  F_Value___init__ : Fm K "__init__" "Value.__init__" s_Value___init__ P_Value___init__ A.a_Value___init__ A.d_Value___init__
  F_Maker___getitem__ : Fm K "__getitem__" "Maker.__getitem__" s_Maker___getitem__ P_Maker___getitem__ A.a_Maker___getitem__ A.d_Maker___getitem__
  F__law_put : Fa K mg "_law_put" s__law_put P__law_put A.a__law_put A.d__law_put
  F__law_together : Fa K mg "_law_together" s__law_together P__law_together A.a__law_together A.d__law_together
  F_put_rows : Fa K mg "put_rows" s_put_rows P_put_rows A.a_put_rows A.d_put_rows
  F_put_together : Fa K mg "put_together" s_put_together P_put_together A.a_put_together A.d_put_together
  F_Maker_joined : Fs K "joined" "Maker.joined" s_Maker_joined P_Maker_joined "values" A.a_Maker_joined A.d_Maker_joined
  F__law_joined : Fa K mg "_law_joined" s__law_joined P__law_joined A.a__law_joined A.d__law_joined
  F__law_same : Fa K mg "_law_same" s__law_same P__law_same A.a__law_same A.d__law_same
  F__law_joined_right : Fa K mg "_law_joined_right" s__law_joined_right P__law_joined_right A.a__law_joined_right A.d__law_joined_right
  F__law_row : Fa K mg "_law_row" s__law_row P__law_row A.a__law_row A.d__law_row
  F__law_model : Fa K mg "_law_model" s__law_model P__law_model A.a__law_model A.d__law_model
  F_with_row : Fa K mg "with_row" s_with_row P_with_row A.a_with_row A.d_with_row
  F_Value___add__ : Fm K "__add__" "Value.__add__" s_Value___add__ P_Value___add__ A.a_Value___add__ A.d_Value___add__
  F_Value___radd__ : Fm K "__radd__" "Value.__radd__" s_Value___radd__ P_Value___radd__ A.a_Value___radd__ A.d_Value___radd__
  F_Value___mul__ : Fm K "__mul__" "Value.__mul__" s_Value___mul__ P_Value___mul__ A.a_Value___mul__ A.d_Value___mul__
  F_Value___rmul__ : Fm K "__rmul__" "Value.__rmul__" s_Value___rmul__ P_Value___rmul__ A.a_Value___rmul__ A.d_Value___rmul__
  F_Value___sub__ : Fm K "__sub__" "Value.__sub__" s_Value___sub__ P_Value___sub__ A.a_Value___sub__ A.d_Value___sub__
  F_Value___rsub__ : Fm K "__rsub__" "Value.__rsub__" s_Value___rsub__ P_Value___rsub__ A.a_Value___rsub__ A.d_Value___rsub__
  F_Value___neg__ : Fm K "__neg__" "Value.__neg__" s_Value___neg__ P_Value___neg__ A.a_Value___neg__ A.d_Value___neg__
  F_Value___lshift__ : Fm K "__lshift__" "Value.__lshift__" s_Value___lshift__ P_Value___lshift__ A.a_Value___lshift__ A.d_Value___lshift__
  F_Value_fused : Fm K "fused" "Value.fused" s_Value_fused P_Value_fused A.a_Value_fused A.d_Value_fused
  F__law_value : Fa K mg "_law_value" s__law_value P__law_value A.a__law_value A.d__law_value
  F__law_made : Fa K mg "_law_made" s__law_made P__law_made A.a__law_made A.d__law_made
  F_Value_program : Fm K "program" "Value.program" s_Value_program P_Value_program A.a_Value_program A.d_Value_program
  F_law : Fa K mg "law" s_law P_law A.a_law A.d_law
  n_abs : mg "abs" = none
  n_bool : mg "bool" = none
  n_int : mg "int" = none
  n_isinstance : mg "isinstance" = none
  n_len : mg "len" = none
  n_list : mg "list" = none
  n_range : mg "range" = none
  n_str : mg "str" = none
  n_tuple : mg "tuple" = none
  n_zip : mg "zip" = none
  mg_Maker : mg "Maker" = some (.ref A.c.Maker)
  mg_RoundError : mg "RoundError" = some (.ref A.c.RoundError)
  mg_TooLong : mg "TooLong" = some (.ref A.c.TooLong)
  mg_Traits : mg "Traits" = some (.ref A.c.Traits)
  mg_Value : mg "Value" = some (.ref A.c.Value)
  ci_MOST_ROWS : mg "MOST_ROWS" = some (.int 12 A.t_ci_MOST_ROWS)
  cl_Maker : Cls K A.c.Maker
  cl_Traits : Cls K A.c.Traits
  cl_Value : Cls K A.c.Value
  ct_WORDS : mg "WORDS" = some (.ref A.v0_ct_WORDS) ∧ K.lookup A.v0_ct_WORDS = some ⟨.type "tuple", A.v1_ct_WORDS, .seq A.v2_ct_WORDS A.v3_ct_WORDS, A.v4_ct_WORDS⟩ ∧ strsV A.v2_ct_WORDS.toList = some (["odd", "two", "still", "merge"] : List Str) ∧ A.v2_ct_WORDS.size ≤ sz
  eqf_Maker : EqF K A.c.Maker
  ex_TooLong : ExcF K A.c.TooLong
  exm_TooLong : ExM K A.c.TooLong [(A.c.TooLong, true)]
  isi_Value : IsiF K A.c.Value
  isx_TooLong_RoundError : ∀ D : Addr, ([(A.c.TooLong, true)] : List (Addr × Bool)).lookup D = some true → ExcC K D ∧ PySem.W.kitOne K (.ref D) (.ref A.c.RoundError) = some true
  me_Maker_joined : Meth K A.c.Maker "joined" A.a_Maker_joined
  mk_Maker : Mk K A.c.Maker A.a_Maker___init__
  mk_Traits : Mk K A.c.Traits A.a_Traits___init__
  mk_Value : Mk K A.c.Value A.a_Value___init__
  na_Maker_inputs : NoAttr K A.c.Maker "inputs"
  na_Maker_under : NoAttr K A.c.Maker "under"
  na_Traits_held : NoAttr K A.c.Traits "held"
  na_Value_maker : NoAttr K A.c.Value "maker"
  na_Value_place : NoAttr K A.c.Value "place"
  na_Value_rows : NoAttr K A.c.Value "rows"
  noi_Value_Add : NoI K A.c.Value .Add
  om_Maker___getitem__ : OwnM K A.c.Maker "__getitem__" A.a_Maker___getitem__
  om_Value___neg__ : OwnM K A.c.Value "__neg__" A.a_Value___neg__
  op_Value_Add : OwnOp K A.c.Value .Add A.a_Value___add__ A.fo_op_Value_Add A.ro_op_Value_Add A.rc_op_Value_Add
  op_Value_LShift : OwnOp K A.c.Value .LShift A.a_Value___lshift__ A.fo_op_Value_LShift A.ro_op_Value_LShift A.rc_op_Value_LShift
  op_Value_Mult : OwnOp K A.c.Value .Mult A.a_Value___mul__ A.fo_op_Value_Mult A.ro_op_Value_Mult A.rc_op_Value_Mult
  op_Value_Sub : OwnOp K A.c.Value .Sub A.a_Value___sub__ A.fo_op_Value_Sub A.ro_op_Value_Sub A.rc_op_Value_Sub
  opr_Value_Add : OwnR K A.c.Value .Add A.a_Value___radd__
  opr_Value_Mult : OwnR K A.c.Value .Mult A.a_Value___rmul__
  opr_Value_Sub : OwnR K A.c.Value .Sub A.a_Value___rsub__
  pr_Value_program : PropOf K A.c.Value "program" A.p_pr_Value_program A.a_Value_program
  st_Value_fused : StatM K A.c.Value "fused" (.type "type") A.p_st_Value_fused A.a_Value_fused
  fi_Maker___getitem__ : PySem.W.fnIn K A.a_Maker___getitem__ = true
section
variable {P : Program} {w : World} {K : PySem.W.Frag} {mg : Str → Option Value} {base : Heap} {A : Ad}
theorem ok__law_deck (T : Txt K mg A) : FnG P w K mg base CX0 1 A.a__law_deck A.d__law_deck P__law_deck fun vs H Q _ => spM K 1 (fnM 1 1 (b__law_deck A.c)) vs H Q E0 :=
  fn_m T.F__law_deck.F sc__law_deck rfl rfl fun cdv A outer s H E hr => 
  sm_one (sm_ret (pm_new (am_cons (pm_cty c_list (by rfl) T.n_list (by first | exact PySem.boot_list | exact PyProof.Rows.boot_list | exact boot_list | decide +kernel) (am_cons (pm_sl (pm_var 0) po_n (po_s pm_int)) am_nil)) (am_cons pm_int (am_cons pm_int (am_cons pm_int am_nil))))))
theorem ok_Maker___init__ (T : Txt K mg A) : FnG P w K mg base CX0 1 A.a_Maker___init__ A.d_Maker___init__ P_Maker___init__ fun vs H Q _ => spM K 3 (fnM 3 3 (b_Maker___init__ A.c)) vs H Q E0 :=
  fn_m T.F_Maker___init__.F sc_Maker___init__ rfl rfl fun cdv A outer s H E hr => 
  sm_cons (sm_fld T.cl_Maker T.na_Maker_under (pm_var 1) (pm_var 0)) (
  sm_one (sm_fld T.cl_Maker T.na_Maker_inputs (pm_var 2) (pm_var 0)))
theorem ok__law_draw (T : Txt K mg A) : FnG P w K mg base CX0 1 A.a__law_draw A.d__law_draw P__law_draw fun vs H Q _ => spM K 2 (fnM 2 5 (b__law_draw A.c)) vs H Q E0 :=
  fn_m T.F__law_draw.F sc__law_draw rfl rfl fun cdv A outer s H E hr => 
  sm_cons (sm_item (pm_bin o_add (pm_ix (pm_var 0) pm_int) pm_int) (pm_var 0) pm_int) (
  sm_cons (sm_if (qm_cmp o_gt (pm_ix (pm_var 0) pm_int) pm_int) (
  sm_cons (sm_set sc__law_draw.nd rfl (.inl rfl) (pm_bin o_mod (pm_cty c_int (by rfl) T.n_int (by first | exact PySem.boot_int | exact PyProof.Rows.boot_int | exact boot_int | decide +kernel) (am_cons (pm_ix (pm_var 0) pm_int) am_nil)) (pm_var 1))) (
  sm_cons (sm_item (pm_bin o_div (pm_ix (pm_var 0) pm_int) (pm_var 1)) (pm_var 0) pm_int) (
  sm_one (sm_ret (pm_var 2))))) (
  sm_nil)) (
  sm_cons (sm_set sc__law_draw.nd rfl (.inl rfl) pm_int) (
  sm_cons (sm_if (qm_cmp (o_ne hr.u64) (pm_ix (pm_var 0) pm_int) (pm_lst am_nil)) (
  sm_one (sm_set sc__law_draw.nd rfl (.inl rfl) (pm_ix (pm_ix (pm_var 0) pm_int) (pm_bin o_mod (pm_cty c_int (by rfl) T.n_int (by first | exact PySem.boot_int | exact PyProof.Rows.boot_int | exact boot_int | decide +kernel) (am_cons (pm_ix (pm_var 0) pm_int) am_nil)) (pm_cb c_len (by rfl) T.n_len (by first | exact PySem.boot_len | exact PyProof.Rows.boot_len | exact boot_len | decide +kernel) (am_cons (pm_ix (pm_var 0) pm_int) am_nil)))))) (
  sm_nil)) (
  sm_cons (sm_item (pm_bin o_add (pm_ix (pm_var 0) pm_int) pm_int) (pm_var 0) pm_int) (
  sm_cons (sm_if (qm_w (qm_and (qm_cmp o_ge (pm_cb c_abs (by rfl) T.n_abs (by first | exact PySem.boot_abs | exact PyProof.Rows.boot_abs | exact boot_abs | decide +kernel) (am_cons (pm_var 3) am_nil)) (pm_bin o_pow pm_int pm_int)) (qm_and1 (qm_cmp o_le (pm_ix (pm_var 0) pm_int) (pm_cb c_len (by rfl) T.n_len (by first | exact PySem.boot_len | exact PyProof.Rows.boot_len | exact boot_len | decide +kernel) (am_cons (pm_ix (pm_var 0) pm_int) am_nil)))))) (
  sm_cons (sm_item (pm_bin o_div (pm_cb c_abs (by rfl) T.n_abs (by first | exact PySem.boot_abs | exact PyProof.Rows.boot_abs | exact boot_abs | decide +kernel) (am_cons (pm_var 3) am_nil)) (pm_var 1)) (pm_var 0) pm_int) (
  sm_one (sm_ret (pm_bin o_mod (pm_cty c_int (by rfl) T.n_int (by first | exact PySem.boot_int | exact PyProof.Rows.boot_int | exact boot_int | decide +kernel) (am_cons (pm_cb c_abs (by rfl) T.n_abs (by first | exact PySem.boot_abs | exact PyProof.Rows.boot_abs | exact boot_abs | decide +kernel) (am_cons (pm_var 3) am_nil)) am_nil)) (pm_var 1))))) (
  sm_nil)) (
  sm_cons (sm_set sc__law_draw.nd rfl (.inl rfl) (pm_bin o_mod (pm_bin o_pow (pm_cty c_int (by rfl) T.n_int (by first | exact PySem.boot_int | exact PyProof.Rows.boot_int | exact boot_int | decide +kernel) (am_cons (pm_bin o_add (pm_bin o_mod (pm_cty c_int (by rfl) T.n_int (by first | exact PySem.boot_int | exact PyProof.Rows.boot_int | exact boot_int | decide +kernel) (am_cons (pm_var 3) am_nil)) pm_int) (pm_bin o_mul pm_int (pm_ix (pm_var 0) pm_int))) am_nil)) pm_int) pm_int)) (
  sm_cons (sm_set sc__law_draw.nd rfl (.inl rfl) (pm_bin o_mod (pm_bin o_pow (pm_cty c_int (by rfl) T.n_int (by first | exact PySem.boot_int | exact PyProof.Rows.boot_int | exact boot_int | decide +kernel) (am_cons (pm_bin o_add (pm_bin o_mul (pm_var 4) (pm_bin o_add (pm_bin o_mul pm_int (pm_ix (pm_var 0) pm_int)) pm_int)) pm_int) am_nil)) pm_int) pm_int)) (
  sm_one (sm_ret (pm_bin o_mod (pm_bin o_div (pm_var 4) pm_int) (pm_var 1)))))))))))
theorem ok__law_one (T : Txt K mg A) : FnG P w K mg base CX0 2 A.a__law_one A.d__law_one P__law_one fun vs H Q _ => spM K 2 (fnM 2 2 (b__law_one A.c)) vs H Q E0 :=
  fn_m T.F__law_one.F sc__law_one rfl rfl fun cdv A outer s H E hr => 
  sm_one (sm_ret (pm_ix (pm_var 1) (pm_call (ok__law_draw T) hr (by rfl) T.F__law_draw.mg T.F__law_draw.kp T.F__law_draw.bi (am_cons (pm_var 0) (am_cons (pm_cb c_len (by rfl) T.n_len (by first | exact PySem.boot_len | exact PyProof.Rows.boot_len | exact boot_len | decide +kernel) (am_cons (pm_var 1) am_nil)) am_nil)))))
theorem ok__law_nodes (T : Txt K mg A) : FnG P w K mg base CX0 3 A.a__law_nodes A.d__law_nodes P__law_nodes fun vs H Q _ => spM K 4 (fnM 4 11 (b__law_nodes A.c)) vs H Q E0 :=
  fn_m T.F__law_nodes.F sc__law_nodes rfl rfl fun cdv A outer s H E hr => 
  sm_cons (sm_par rfl sc__law_nodes.nd rfl rfl (by decide) rfl rfl (am_cons (pm_new am_nil) (am_cons pm_int am_nil)) (by rfl)) (
  sm_cons (sm_for PassesOwn.never rfl (im_range2 (by rfl) T.n_range (am_cons (pm_var 1) (am_cons (pm_bin o_add (pm_var 1) (pm_var 2)) am_nil))) (gm_name sc__law_nodes.nd rfl (.inl rfl)) (
  sm_cons (sm_set sc__law_nodes.nd rfl (.inl rfl) (pm_lst (am_cons pm_str (am_cons pm_str (am_cons pm_str (am_cons pm_str (am_cons pm_str (am_cons pm_str (am_cons pm_str (am_cons pm_str (am_cons pm_str am_nil))))))))))) (
  sm_cons (sm_set sc__law_nodes.nd rfl (.inl rfl) (pm_bin o_add (pm_var 7) (pm_bin o_mul (pm_lst (am_cons pm_str (am_cons pm_str (am_cons pm_str (am_cons pm_str am_nil))))) (pm_cty c_int (by rfl) T.n_int (by first | exact PySem.boot_int | exact PyProof.Rows.boot_int | exact boot_int | decide +kernel) (am_cons (pm_cmp o_lt (pm_var 5) pm_int) am_nil))))) (
  sm_cons (sm_set sc__law_nodes.nd rfl (.inl rfl) (pm_call (ok__law_one T) hr (by rfl) T.F__law_one.mg T.F__law_one.kp T.F__law_one.bi (am_cons (pm_var 0) (am_cons (pm_var 7) am_nil)))) (
  sm_cons (sm_set sc__law_nodes.nd rfl (.inl rfl) (pm_bin o_add (pm_var 5) (pm_cty c_int (by rfl) T.n_int (by first | exact PySem.boot_int | exact PyProof.Rows.boot_int | exact boot_int | decide +kernel) (am_cons (pm_cmp o_in (pm_var 8) (pm_tup (am_cons pm_str (am_cons pm_str am_nil)))) am_nil)))) (
  sm_cons (sm_set sc__law_nodes.nd rfl (.inl rfl) (pm_lst (am_cons (pm_call (ok__law_one T) hr (by rfl) T.F__law_one.mg T.F__law_one.kp T.F__law_one.bi (am_cons (pm_var 0) (am_cons (pm_lst (am_cons (pm_bin o_sub (pm_var 6) pm_int) (am_cons (pm_call (ok__law_draw T) (hr.mono (by decide)) (by rfl) T.F__law_draw.mg T.F__law_draw.kp T.F__law_draw.bi (am_cons (pm_var 0) (am_cons (pm_var 6) am_nil))) am_nil))) am_nil))) (am_cons (pm_call (ok__law_draw T) (hr.mono (by decide)) (by rfl) T.F__law_draw.mg T.F__law_draw.kp T.F__law_draw.bi (am_cons (pm_var 0) (am_cons (pm_var 6) am_nil))) (am_cons (pm_call (ok__law_draw T) (hr.mono (by decide)) (by rfl) T.F__law_draw.mg T.F__law_draw.kp T.F__law_draw.bi (am_cons (pm_var 0) (am_cons (pm_var 6) am_nil))) am_nil))))) (
  sm_cons (sm_set sc__law_nodes.nd rfl (.inl rfl) (pm_call (ok__law_one T) hr (by rfl) T.F__law_one.mg T.F__law_one.kp T.F__law_one.bi (am_cons (pm_var 0) (am_cons (pm_bin o_add (pm_lst (am_cons pm_int (am_cons pm_int (am_cons (pm_un o_neg pm_int) (am_cons (pm_bin o_sub (pm_call (ok__law_draw T) (hr.mono (by decide)) (by rfl) T.F__law_draw.mg T.F__law_draw.kp T.F__law_draw.bi (am_cons (pm_var 0) (am_cons pm_int am_nil))) pm_int) am_nil))))) (pm_bin o_mul (pm_lst (am_cons (pm_bin o_sub (pm_bin o_mul (pm_call (ok__law_draw T) (hr.mono (by decide)) (by rfl) T.F__law_draw.mg T.F__law_draw.kp T.F__law_draw.bi (am_cons (pm_var 0) (am_cons (pm_bin o_pow pm_int pm_int) am_nil))) pm_int) (pm_bin o_pow pm_int pm_int)) am_nil)) (pm_var 3))) am_nil)))) (
  sm_cons (sm_if (qm_cmp (o_eq hr.u64) (pm_var 8) pm_str) (
  sm_one (sm_set sc__law_nodes.nd rfl (.inl rfl) (pm_call (ok__law_draw T) (hr.mono (by decide)) (by rfl) T.F__law_draw.mg T.F__law_draw.kp T.F__law_draw.bi (am_cons (pm_var 0) (am_cons (pm_bin o_add pm_int (pm_bin o_mul pm_int (pm_var 3))) am_nil))))) (
  sm_nil)) (
  sm_one (sm_expr (pm_mt PySem.F.plainAttrs_list PySem.F.slot_list_append PySem.F.type_list_append t_append isL_ok (pm_var 4) (am_cons (pm_tup (am_cons (pm_var 8) (am_cons (pm_var 9) (am_cons (pm_var 10) am_nil)))) am_nil)))))))))))) (
  sm_one (sm_ret (pm_var 4))))
theorem ok_Traits___init__ (T : Txt K mg A) : FnV P w K mg base CX0 1 A.a_Traits___init__ (spS K 1 3 (b_Traits___init__ A.c)) :=
  fn_starG T.F_Traits___init__.F sc_Traits___init__ rfl rfl T.F_Traits___init__.sb fun cdv A outer s H E hr => 
  sm_cons (sm_for PassesOwn.never rfl (im_seq (pm_var 1)) (gm_name sc_Traits___init__.nd rfl (.inl rfl)) (
  sm_one (sm_if (qm_cmp o_nin (pm_var 2) ((pm_ctup (by rfl) T.ct_WORDS.1 T.ct_WORDS.2.1 T.ct_WORDS.2.2.1 T.ct_WORDS.2.2.2))) (
  sm_one sm_bad) (
  sm_nil)))) (
  sm_cons (sm_if (qm_w (qm_and (qm_cmp o_in pm_str (pm_var 1)) (qm_and1 (qm_cmp o_in pm_str (pm_var 1))))) (
  sm_one sm_bad) (
  sm_nil)) (
  sm_one (sm_fld T.cl_Traits T.na_Traits_held (pm_cty c_tuple (by rfl) T.n_tuple (by first | exact PySem.boot_tuple | exact PyProof.Rows.boot_tuple | exact boot_tuple | decide +kernel) (am_cons (pm_comp (own := [("word", 2)]) rfl sc_Traits___init__.nd (im_seq ((pm_ctup (by rfl) T.ct_WORDS.1 T.ct_WORDS.2.1 T.ct_WORDS.2.2.1 T.ct_WORDS.2.2.2))) (blkOk_by (N := N_Traits___init__) (sc := defScope s_Traits___init__) (by decide +kernel)) (fun _ _ _ _ _ => gm_name sc_Traits___init__.nd rfl (.inl rfl)) (fun _ _ _ _ _ => qms_one (qm_w (qm_or (qm_cmp o_in (pm_var 2) (pm_var 1)) (qm_or1 (qm_w (qm_and (qm_cmp (o_eq hr.u64) (pm_var 2) pm_str) (qm_and1 (qm_cmp o_in pm_str (pm_var 1))))))))) (fun _ _ _ _ _ => pm_var 2)) am_nil)) (pm_var 0))))
theorem ok__law_traits (T : Txt K mg A) : FnG P w K mg base CX0 3 A.a__law_traits A.d__law_traits P__law_traits fun vs H Q _ => spM K 1 (fnM 1 2 (b__law_traits A.c)) vs H Q E0 :=
  fn_m T.F__law_traits.F sc__law_traits rfl rfl fun cdv A outer s H E hr => 
  sm_cons (sm_set sc__law_traits.nd rfl (.inl rfl) (pm_lst (am_cons (pm_tup am_nil) (am_cons (pm_tup (am_cons pm_str am_nil)) (am_cons (pm_tup (am_cons pm_str am_nil)) (am_cons (pm_tup (am_cons pm_str am_nil)) (am_cons (pm_tup (am_cons pm_str (am_cons pm_str am_nil))) (am_cons (pm_tup (am_cons pm_str (am_cons pm_str am_nil))) (am_cons (pm_tup (am_cons pm_str (am_cons pm_str am_nil))) (am_cons (pm_tup (am_cons pm_str am_nil)) am_nil)))))))))) (
  sm_cons (sm_set sc__law_traits.nd rfl (.inl rfl) (pm_call (ok__law_one T) hr (by rfl) T.F__law_one.mg T.F__law_one.kp T.F__law_one.bi (am_cons (pm_var 0) (am_cons (pm_bin o_add (pm_var 1) (pm_lst (am_cons (pm_tup (am_cons pm_str (am_cons pm_str (am_cons pm_str am_nil)))) (am_cons (pm_tup (am_cons pm_str (am_cons pm_str am_nil))) am_nil)))) am_nil)))) (
  sm_cons (sm_if (qm_cmp (o_eq hr.u64) (pm_cb c_len (by rfl) T.n_len (by first | exact PySem.boot_len | exact PyProof.Rows.boot_len | exact boot_len | decide +kernel) (am_cons (pm_var 1) am_nil)) pm_int) (
  sm_one (sm_ret (pm_makeFS0 T.mk_Traits (ok_Traits___init__ T) hr (by rfl) T.mg_Traits))) (
  sm_nil)) (
  sm_cons (sm_if (qm_cmp (o_eq hr.u64) (pm_cb c_len (by rfl) T.n_len (by first | exact PySem.boot_len | exact PyProof.Rows.boot_len | exact boot_len | decide +kernel) (am_cons (pm_var 1) am_nil)) pm_int) (
  sm_one (sm_ret (pm_makeFS T.mk_Traits (ok_Traits___init__ T) hr (by rfl) T.mg_Traits (am_cons (pm_ix (pm_var 1) pm_int) am_nil)))) (
  sm_nil)) (
  sm_one (sm_ret (pm_if (qm_cmp (o_eq hr.u64) (pm_cb c_len (by rfl) T.n_len (by first | exact PySem.boot_len | exact PyProof.Rows.boot_len | exact boot_len | decide +kernel) (am_cons (pm_var 1) am_nil)) pm_int) (pm_makeFS T.mk_Traits (ok_Traits___init__ T) hr (by rfl) T.mg_Traits (am_cons (pm_ix (pm_var 1) pm_int) (am_cons (pm_ix (pm_var 1) pm_int) am_nil))) (pm_makeFS T.mk_Traits (ok_Traits___init__ T) hr (by rfl) T.mg_Traits (am_cons (pm_ix (pm_var 1) pm_int) (am_cons (pm_ix (pm_var 1) pm_int) (am_cons (pm_ix (pm_var 1) pm_int) am_nil))))))))))
theorem ok_Value___init__ (T : Txt K mg A) : FnG P w K mg base CX0 1 A.a_Value___init__ A.d_Value___init__ P_Value___init__ fun vs H Q _ => spM K 4 (fnM 4 4 (b_Value___init__ A.c)) vs H Q E0 :=
  fn_m T.F_Value___init__.F sc_Value___init__ rfl rfl fun cdv A outer s H E hr => 
  sm_cons (sm_fld T.cl_Value T.na_Value_maker (pm_var 1) (pm_var 0)) (
  sm_cons (sm_fld T.cl_Value T.na_Value_rows (pm_var 2) (pm_var 0)) (
  sm_one (sm_fld T.cl_Value T.na_Value_place (pm_var 3) (pm_var 0))))
theorem ok_Maker___getitem__ (T : Txt K mg A) : FnG P w K mg base CX0 3 A.a_Maker___getitem__ A.d_Maker___getitem__ P_Maker___getitem__ fun vs H Q _ => spM K 2 (fnM 2 2 (b_Maker___getitem__ A.c)) vs H Q E0 :=
  fn_m T.F_Maker___getitem__.F sc_Maker___getitem__ rfl rfl fun cdv A outer s H E hr => 
  sm_one (sm_ret (pm_makeF T.mk_Value (ok_Value___init__ T) hr (by rfl) T.mg_Value T.F_Value___init__.bi (am_cons (pm_var 0) (am_cons (pm_tup am_nil) (am_cons (pm_var 1) am_nil)))))
theorem ok__law_put (T : Txt K mg A) : FnG P w K mg base CX0 1 A.a__law_put A.d__law_put P__law_put fun vs H Q _ => spM K 3 (fnM 3 11 (b__law_put A.c)) vs H Q E0 :=
  fn_m T.F__law_put.F sc__law_put rfl rfl fun cdv A outer s H E hr => 
  sm_cons (sm_unp (pm_tup (am_cons (pm_ctyN c_listN (by rfl) T.n_list (by first | exact PySem.boot_list | exact PyProof.Rows.boot_list | exact boot_list | decide +kernel) (am_cons (pm_var 1) am_nil)) (am_cons (pm_listRN1 rfl (by rfl) T.n_list (by rfl) T.n_range (am_cons (pm_var 0) am_nil)) am_nil))) (gm_tup rfl (gms_cons (gm_name sc__law_put.nd rfl (.inl rfl)) (gms_cons (gm_name sc__law_put.nd rfl (.inr rfl)) gms_nil)))) (
  sm_cons (sm_for PassesOwn.never rfl (im_seq (pm_var 2)) (gm_tup rfl (gms_cons (gm_name sc__law_put.nd rfl (.inl rfl)) (gms_cons (gm_name sc__law_put.nd rfl (.inl rfl)) gms_nil))) (
  sm_cons (sm_set sc__law_put.nd rfl (.inl rfl) (pm_tup (am_cons (pm_var 5) (am_cons (pm_cty c_tuple (by rfl) T.n_tuple (by first | exact PySem.boot_tuple | exact PyProof.Rows.boot_tuple | exact boot_tuple | decide +kernel) (am_cons (pm_comp (own := [("_law_factor", 8), ("_law_some", 9)]) rfl sc__law_put.nd (im_seq (pm_var 6)) (blkOk_by (N := N__law_put) (sc := defScope s__law_put) (by decide +kernel)) (fun _ _ _ _ _ => gm_tup rfl (gms_cons (gm_name sc__law_put.nd rfl (.inl rfl)) (gms_cons (gm_name sc__law_put.nd rfl (.inl rfl)) gms_nil))) (fun _ _ _ _ _ => qms_nil) (fun _ _ _ _ _ => pm_tup (am_cons (pm_var 8) (am_cons (pm_cty c_tuple (by rfl) T.n_tuple (by first | exact PySem.boot_tuple | exact PyProof.Rows.boot_tuple | exact boot_tuple | decide +kernel) (am_cons (pm_comp (own := [("_law_place", 10)]) rfl sc__law_put.nd (im_seq (pm_var 9)) (blkOk_by (N := N__law_put) (sc := { kind := .function, names := [(".0", .local), ("_law_factor", .local), ("_law_some", .local), ("tuple", .globalImplicit), ("_law_places", .cell)], isGenerator := false, isCoroutine := false }) (by decide +kernel)) (fun _ _ _ _ _ => gm_name sc__law_put.nd rfl (.inl rfl)) (fun _ _ _ _ _ => qms_nil) (fun _ _ _ _ _ => pm_ix (pm_var 4) (pm_var 10))) am_nil)) am_nil)))) am_nil)) am_nil)))) (
  sm_cons (sm_if (qm_cmp (o_ninP hr.u65) (pm_var 7) (pm_var 3)) (
  sm_one (sm_expr (pm_mt PySem.F.plainAttrs_list PySem.F.slot_list_append PySem.F.type_list_append t_append isL_ok (pm_var 3) (am_cons (pm_var 7) am_nil)))) (
  sm_nil)) (
  sm_one (sm_expr (pm_mt PySem.F.plainAttrs_list PySem.F.slot_list_append PySem.F.type_list_append t_append isL_ok (pm_var 4) (am_cons (pm_bin o_add (pm_var 0) (pm_mt PySem.F.plainAttrs_list PySem.F.slot_list_index PySem.F.type_list_index (t_indexP hr.u65) isL_ok (pm_var 3) (am_cons (pm_var 7) am_nil))) am_nil))))))) (
  sm_one (sm_ret (pm_tup (am_cons (pm_cty c_tuple (by rfl) T.n_tuple (by first | exact PySem.boot_tuple | exact PyProof.Rows.boot_tuple | exact boot_tuple | decide +kernel) (am_cons (pm_var 3) am_nil)) (am_cons (pm_var 4) am_nil))))))
theorem ok__law_together (T : Txt K mg A) : FnG P w K mg base CX0 2 A.a__law_together A.d__law_together P__law_together fun vs H Q _ => spM K 2 (fnM 2 7 (b__law_together A.c)) vs H Q E0 :=
  fn_m T.F__law_together.F sc__law_together rfl rfl fun cdv A outer s H E hr => 
  sm_cons (sm_unp (pm_tup (am_cons (pm_tup am_nil) (am_cons (pm_tup am_nil) am_nil))) (gm_tup rfl (gms_cons (gm_name sc__law_together.nd rfl (.inl rfl)) (gms_cons (gm_name sc__law_together.nd rfl (.inl rfl)) gms_nil)))) (
  sm_cons (sm_for PassesOwn.never rfl (im_seq (pm_var 1)) (gm_tup rfl (gms_cons (gm_name sc__law_together.nd rfl (.inl rfl)) (gms_cons (gm_name sc__law_together.nd rfl (.inl rfl)) gms_nil))) (
  sm_cons (sm_unp (pm_call (ok__law_put T) hr (by rfl) T.F__law_put.mg T.F__law_put.kp T.F__law_put.bi (am_cons (pm_var 0) (am_cons (pm_var 2) (am_cons (pm_var 4) am_nil)))) (gm_tup rfl (gms_cons (gm_name sc__law_together.nd rfl (.inl rfl)) (gms_cons (gm_name sc__law_together.nd rfl (.inl rfl)) gms_nil)))) (
  sm_one (sm_set sc__law_together.nd rfl (.inl rfl) (pm_bin o_add (pm_var 3) (pm_tup (am_cons (pm_ix (pm_var 6) (pm_var 5)) am_nil))))))) (
  sm_one (sm_ret (pm_tup (am_cons (pm_var 2) (am_cons (pm_var 3) am_nil))))))
theorem ok_put_rows (T : Txt K mg A) : FnG P w K mg base CX0 1 A.a_put_rows A.d_put_rows P_put_rows fun vs H Q _ => spM K 3 (fnM 3 11 (b_put_rows A.c)) vs H Q E0 :=
  fn_m T.F_put_rows.F sc_put_rows rfl rfl fun cdv A outer s H E hr => 
  sm_cons (sm_set sc_put_rows.nd rfl (.inl rfl) (pm_ctyN c_listN (by rfl) T.n_list (by first | exact PySem.boot_list | exact PyProof.Rows.boot_list | exact boot_list | decide +kernel) (am_cons (pm_var 1) am_nil))) (
  sm_cons (sm_set sc_put_rows.nd rfl (.inr rfl) (pm_listRN1 rfl (by rfl) T.n_list (by rfl) T.n_range (am_cons (pm_var 0) am_nil))) (
  sm_cons (sm_for PassesOwn.never rfl (im_seq (pm_var 2)) (gm_tup rfl (gms_cons (gm_name sc_put_rows.nd rfl (.inl rfl)) (gms_cons (gm_name sc_put_rows.nd rfl (.inl rfl)) gms_nil))) (
  sm_cons (sm_set sc_put_rows.nd rfl (.inl rfl) (pm_tup (am_cons (pm_var 5) (am_cons (pm_cty c_tuple (by rfl) T.n_tuple (by first | exact PySem.boot_tuple | exact PyProof.Rows.boot_tuple | exact boot_tuple | decide +kernel) (am_cons (pm_comp (own := [("factor", 8), ("some", 9)]) rfl sc_put_rows.nd (im_seq (pm_var 6)) (blkOk_by (N := N_put_rows) (sc := defScope s_put_rows) (by decide +kernel)) (fun _ _ _ _ _ => gm_tup rfl (gms_cons (gm_name sc_put_rows.nd rfl (.inl rfl)) (gms_cons (gm_name sc_put_rows.nd rfl (.inl rfl)) gms_nil))) (fun _ _ _ _ _ => qms_nil) (fun _ _ _ _ _ => pm_tup (am_cons (pm_var 8) (am_cons (pm_cty c_tuple (by rfl) T.n_tuple (by first | exact PySem.boot_tuple | exact PyProof.Rows.boot_tuple | exact boot_tuple | decide +kernel) (am_cons (pm_comp (own := [("place", 10)]) rfl sc_put_rows.nd (im_seq (pm_var 9)) (blkOk_by (N := N_put_rows) (sc := { kind := .function, names := [(".0", .local), ("factor", .local), ("some", .local), ("tuple", .globalImplicit), ("places", .cell)], isGenerator := false, isCoroutine := false }) (by decide +kernel)) (fun _ _ _ _ _ => gm_name sc_put_rows.nd rfl (.inl rfl)) (fun _ _ _ _ _ => qms_nil) (fun _ _ _ _ _ => pm_ix (pm_var 4) (pm_var 10))) am_nil)) am_nil)))) am_nil)) am_nil)))) (
  sm_cons (sm_if (qm_cmp (o_ninP hr.u65) (pm_var 7) (pm_var 3)) (
  sm_one (sm_expr (pm_mt PySem.F.plainAttrs_list PySem.F.slot_list_append PySem.F.type_list_append t_append isL_ok (pm_var 3) (am_cons (pm_var 7) am_nil)))) (
  sm_nil)) (
  sm_one (sm_expr (pm_mt PySem.F.plainAttrs_list PySem.F.slot_list_append PySem.F.type_list_append t_append isL_ok (pm_var 4) (am_cons (pm_bin o_add (pm_var 0) (pm_mt PySem.F.plainAttrs_list PySem.F.slot_list_index PySem.F.type_list_index (t_indexP hr.u65) isL_ok (pm_var 3) (am_cons (pm_var 7) am_nil))) am_nil))))))) (
  sm_one (sm_ret (pm_tup (am_cons (pm_cty c_tuple (by rfl) T.n_tuple (by first | exact PySem.boot_tuple | exact PyProof.Rows.boot_tuple | exact boot_tuple | decide +kernel) (am_cons (pm_var 3) am_nil)) (am_cons (pm_var 4) am_nil)))))))
theorem ok_put_together (T : Txt K mg A) : FnG P w K mg base CX0 2 A.a_put_together A.d_put_together P_put_together fun vs H Q _ => spM K 1 (fnM 1 6 (b_put_together A.c)) vs H Q E0 :=
  fn_m T.F_put_together.F sc_put_together rfl rfl fun cdv A outer s H E hr => 
  sm_cons (sm_set sc_put_together.nd rfl (.inl rfl) (pm_fld T.cl_Value T.na_Value_maker (pm_ix (pm_var 0) pm_int))) (
  sm_cons (sm_set sc_put_together.nd rfl (.inl rfl) (pm_tup am_nil)) (
  sm_cons (sm_set sc_put_together.nd rfl (.inl rfl) (pm_new am_nil)) (
  sm_cons (sm_for PassesOwn.never rfl (im_seq (pm_var 0)) (gm_name sc_put_together.nd rfl (.inl rfl)) (
  sm_cons (sm_if (qm_cmp (o_neI T.eqf_Maker hr.u64 (o_ne hr.u64)) (pm_fld T.cl_Value T.na_Value_maker (pm_var 4)) (pm_var 1)) (
  sm_one sm_bad) (
  sm_nil)) (
  sm_cons (sm_unp (pm_call (ok_put_rows T) hr (by rfl) T.F_put_rows.mg T.F_put_rows.kp T.F_put_rows.bi (am_cons (pm_fld T.cl_Maker T.na_Maker_inputs (pm_var 1)) (am_cons (pm_var 2) (am_cons (pm_fld T.cl_Value T.na_Value_rows (pm_var 4)) am_nil)))) (gm_tup rfl (gms_cons (gm_name sc_put_together.nd rfl (.inl rfl)) (gms_cons (gm_name sc_put_together.nd rfl (.inl rfl)) gms_nil)))) (
  sm_one (sm_expr (pm_mt PySem.F.plainAttrs_list PySem.F.slot_list_append PySem.F.type_list_append t_append isL_ok (pm_var 3) (am_cons (pm_ix (pm_var 5) (pm_fld T.cl_Value T.na_Value_place (pm_var 4))) am_nil))))))) (
  sm_one (sm_ret (pm_tup (am_cons (pm_var 2) (am_cons (pm_cty c_tuple (by rfl) T.n_tuple (by first | exact PySem.boot_tuple | exact PyProof.Rows.boot_tuple | exact boot_tuple | decide +kernel) (am_cons (pm_var 3) am_nil)) am_nil))))))))
theorem ok_Maker_joined (T : Txt K mg A) : FnV P w K mg base CX0 3 A.a_Maker_joined (spS K 1 4 (b_Maker_joined A.c)) :=
  fn_starG T.F_Maker_joined.F sc_Maker_joined rfl rfl T.F_Maker_joined.sb fun cdv A outer s H E hr => 
  sm_cons (sm_if (qm_cmp (o_neI T.eqf_Maker hr.u64 (o_ne hr.u64)) (pm_fld T.cl_Value T.na_Value_maker (pm_ix (pm_var 1) pm_int)) (pm_var 0)) (
  sm_one sm_bad) (
  sm_nil)) (
  sm_cons (sm_unp (pm_call (ok_put_together T) hr (by rfl) T.F_put_together.mg T.F_put_together.kp T.F_put_together.bi (am_cons (pm_var 1) am_nil)) (gm_tup rfl (gms_cons (gm_name sc_Maker_joined.nd rfl (.inl rfl)) (gms_cons (gm_name sc_Maker_joined.nd rfl (.inl rfl)) gms_nil)))) (
  sm_one (sm_ret (pm_tup (am_cons (pm_fld T.cl_Maker T.na_Maker_inputs (pm_var 0)) (am_cons (pm_var 2) (am_cons (pm_var 3) am_nil)))))))
theorem ok__law_joined (T : Txt K mg A) : FnG P w K mg base CX0 4 A.a__law_joined A.d__law_joined P__law_joined fun vs H Q _ => spM K 2 (fnM 2 2 (b__law_joined A.c)) vs H Q E0 :=
  fn_m T.F__law_joined.F sc__law_joined rfl rfl fun cdv A outer s H E hr => 
  sm_cons (sm_if (qm_cmp (o_eq hr.u64) (pm_cb c_len (by rfl) T.n_len (by first | exact PySem.boot_len | exact PyProof.Rows.boot_len | exact boot_len | decide +kernel) (am_cons (pm_var 1) am_nil)) pm_int) (
  sm_one (sm_ret (pm_methV (pm_var 0) T.cl_Maker T.me_Maker_joined (ok_Maker_joined T) hr (am_cons (pm_ix (pm_var 1) pm_int) am_nil)))) (
  sm_nil)) (
  sm_cons (sm_if (qm_cmp (o_eq hr.u64) (pm_cb c_len (by rfl) T.n_len (by first | exact PySem.boot_len | exact PyProof.Rows.boot_len | exact boot_len | decide +kernel) (am_cons (pm_var 1) am_nil)) pm_int) (
  sm_one (sm_ret (pm_methV (pm_var 0) T.cl_Maker T.me_Maker_joined (ok_Maker_joined T) hr (am_cons (pm_ix (pm_var 1) pm_int) (am_cons (pm_ix (pm_var 1) pm_int) am_nil))))) (
  sm_nil)) (
  sm_cons (sm_if (qm_cmp (o_eq hr.u64) (pm_cb c_len (by rfl) T.n_len (by first | exact PySem.boot_len | exact PyProof.Rows.boot_len | exact boot_len | decide +kernel) (am_cons (pm_var 1) am_nil)) pm_int) (
  sm_one (sm_ret (pm_methV (pm_var 0) T.cl_Maker T.me_Maker_joined (ok_Maker_joined T) hr (am_cons (pm_ix (pm_var 1) pm_int) (am_cons (pm_ix (pm_var 1) pm_int) (am_cons (pm_ix (pm_var 1) pm_int) am_nil)))))) (
  sm_nil)) (
  sm_one (sm_ret (pm_methV (pm_var 0) T.cl_Maker T.me_Maker_joined (ok_Maker_joined T) hr (am_cons (pm_ix (pm_var 1) pm_int) (am_cons (pm_ix (pm_var 1) pm_int) (am_cons (pm_ix (pm_var 1) pm_int) (am_cons (pm_ix (pm_var 1) pm_int) am_nil)))))))))
theorem ok__law_same (T : Txt K mg A) : ∀ d : Nat, FnG P w K mg base CX0 (1 + d) A.a__law_same A.d__law_same P__law_same fun vs H Q _ => spM K 2 (fnM 2 4 (b__law_same A.c d)) vs H Q E0
  | 0 => fnG_bad rfl
  | d + 1 => fn_m T.F__law_same.F sc__law_same rfl rfl fun cdv A outer s H E hr => 
  sm_cons (sm_if (qm_val (pm_cb c_isi (by rfl) T.n_isinstance (by first | exact PySem.boot_isinstance | exact PyProof.Rows.boot_isinstance | exact boot_isinstance | decide +kernel) (am_cons (pm_var 1) (am_cons (pm_bltn (by rfl) T.n_tuple (by first | exact PySem.boot_tuple | exact PyProof.Rows.boot_tuple | exact boot_tuple | decide +kernel)) am_nil)))) (
  sm_cons (sm_if (qm_w (qm_or (qm_not (qm_val (pm_cb c_isi (by rfl) T.n_isinstance (by first | exact PySem.boot_isinstance | exact PyProof.Rows.boot_isinstance | exact boot_isinstance | decide +kernel) (am_cons (pm_var 0) (am_cons (pm_bltn (by rfl) T.n_tuple (by first | exact PySem.boot_tuple | exact PyProof.Rows.boot_tuple | exact boot_tuple | decide +kernel)) am_nil))))) (qm_or1 (qm_cmp (o_ne hr.u64) (pm_cb c_len (by rfl) T.n_len (by first | exact PySem.boot_len | exact PyProof.Rows.boot_len | exact boot_len | decide +kernel) (am_cons (pm_var 0) am_nil)) (pm_cb c_len (by rfl) T.n_len (by first | exact PySem.boot_len | exact PyProof.Rows.boot_len | exact boot_len | decide +kernel) (am_cons (pm_var 1) am_nil)))))) (
  sm_one (sm_ret pm_bl)) (
  sm_nil)) (
  sm_one (sm_ret (pm_cmp (o_eq hr.u64) (pm_comp (own := [("_law_one_here", 2), ("_law_other", 3)]) rfl sc__law_same.nd (im_zip (by rfl) T.n_zip (am_cons (pm_var 0) (am_cons (pm_var 1) am_nil))) (blkOk_by (N := N__law_same) (sc := defScope s__law_same) (by decide +kernel)) (fun _ _ _ _ _ => gm_tup rfl (gms_cons (gm_name sc__law_same.nd rfl (.inl rfl)) (gms_cons (gm_name sc__law_same.nd rfl (.inl rfl)) gms_nil))) (fun _ _ _ _ _ => qms_one (qm_not (qm_val (pm_callP (ok__law_same T d) hr (by rfl) T.F__law_same.mg T.F__law_same.kp T.F__law_same.bi (am_cons (pm_var 2) (am_cons (pm_var 3) am_nil)))))) (fun _ _ _ _ _ => pm_int)) (pm_lst am_nil))))) (
  sm_nil)) (
  sm_cons (sm_if (qm_val (pm_cb c_isi (by rfl) T.n_isinstance (by first | exact PySem.boot_isinstance | exact PyProof.Rows.boot_isinstance | exact boot_isinstance | decide +kernel) (am_cons (pm_var 1) (am_cons (pm_bltn (by rfl) T.n_str (by first | exact PySem.boot_str | exact PyProof.Rows.boot_str | exact boot_str | decide +kernel)) am_nil)))) (
  sm_one (sm_ret (pm_and (pm_cb c_isi (by rfl) T.n_isinstance (by first | exact PySem.boot_isinstance | exact PyProof.Rows.boot_isinstance | exact boot_isinstance | decide +kernel) (am_cons (pm_var 0) (am_cons (pm_bltn (by rfl) T.n_str (by first | exact PySem.boot_str | exact PyProof.Rows.boot_str | exact boot_str | decide +kernel)) am_nil))) (pm_one (pm_cmp (o_eq hr.u64) (pm_var 0) (pm_var 1)))))) (
  sm_nil)) (
  sm_one (sm_ret (pm_and (pm_cb c_isi (by rfl) T.n_isinstance (by first | exact PySem.boot_isinstance | exact PyProof.Rows.boot_isinstance | exact boot_isinstance | decide +kernel) (am_cons (pm_var 0) (am_cons (pm_bltn (by rfl) T.n_int (by first | exact PySem.boot_int | exact PyProof.Rows.boot_int | exact boot_int | decide +kernel)) am_nil))) (pm_and (pm_cmp (o_eq hr.u64) (pm_cb c_isi (by rfl) T.n_isinstance (by first | exact PySem.boot_isinstance | exact PyProof.Rows.boot_isinstance | exact boot_isinstance | decide +kernel) (am_cons (pm_var 0) (am_cons (pm_bltn (by rfl) T.n_bool (by first | exact PySem.boot_bool | exact PyProof.Rows.boot_bool | exact boot_bool | decide +kernel)) am_nil))) (pm_cb c_isi (by rfl) T.n_isinstance (by first | exact PySem.boot_isinstance | exact PyProof.Rows.boot_isinstance | exact boot_isinstance | decide +kernel) (am_cons (pm_var 1) (am_cons (pm_bltn (by rfl) T.n_bool (by first | exact PySem.boot_bool | exact PyProof.Rows.boot_bool | exact boot_bool | decide +kernel)) am_nil)))) (pm_one (pm_cmp (o_eq hr.u64) (pm_var 0) (pm_var 1))))))))
theorem ok__law_joined_right (T : Txt K mg A) : FnG P w K mg base CX0 10 A.a__law_joined_right A.d__law_joined_right P__law_joined_right fun vs H Q _ => spM K 5 (fnM 5 12 (b__law_joined_right A.c)) vs H Q E0 :=
  fn_m T.F__law_joined_right.F sc__law_joined_right rfl rfl fun cdv A outer s H E hr => 
  sm_cons (sm_for PassesOwn.never rfl (im_range1 (by rfl) T.n_range (am_cons pm_int am_nil)) (gm_name sc__law_joined_right.nd rfl (.inl rfl)) (
  sm_cons (sm_comp (own := [("_law_pick", 7)]) rfl sc__law_joined_right.nd rfl rfl (sw_true rfl rfl rfl (by decide +kernel)) (im_range1 (by rfl) T.n_range (am_cons (pm_bin o_add pm_int (pm_call (ok__law_draw T) (hr.mono (by decide)) (by rfl) T.F__law_draw.mg T.F__law_draw.kp T.F__law_draw.bi (am_cons (pm_var 0) (am_cons pm_int am_nil)))) am_nil)) (blkOk_by (N := N__law_joined_right) (sc := defScope s__law_joined_right) (by decide +kernel)) (fun _ _ _ _ _ => gm_name sc__law_joined_right.nd rfl (.inl rfl)) (fun _ _ _ _ _ => qms_nil) (fun _ _ _ _ _ => pm_call (ok__law_draw T) (hr.mono (by decide)) (by rfl) T.F__law_draw.mg T.F__law_draw.kp T.F__law_draw.bi (am_cons (pm_var 0) (am_cons (pm_cb c_len (by rfl) T.n_len (by first | exact PySem.boot_len | exact PyProof.Rows.boot_len | exact boot_len | decide +kernel) (am_cons (pm_var 3) am_nil)) am_nil)))) (
  sm_cons (sm_unp (pm_call (ok__law_together T) (hr.mono (by decide)) (by rfl) T.F__law_together.mg T.F__law_together.kp T.F__law_together.bi (am_cons (pm_var 2) (am_cons (pm_comp (own := [("_law_pick", 7)]) rfl sc__law_joined_right.nd (im_seq (pm_var 6)) (blkOk_by (N := N__law_joined_right) (sc := defScope s__law_joined_right) (by decide +kernel)) (fun _ _ _ _ _ => gm_name sc__law_joined_right.nd rfl (.inl rfl)) (fun _ _ _ _ _ => qms_nil) (fun _ _ _ _ _ => pm_ix (pm_var 4) (pm_var 7))) am_nil))) (gm_tup rfl (gms_cons (gm_name sc__law_joined_right.nd rfl (.inl rfl)) (gms_cons (gm_name sc__law_joined_right.nd rfl (.inl rfl)) gms_nil)))) (
  sm_one (sm_for PassesOwn.never rfl (im_range1 (by rfl) T.n_range (am_cons pm_int am_nil)) (gm_name sc__law_joined_right.nd rfl (.inl rfl)) (
  sm_cons (sm_set sc__law_joined_right.nd rfl (.inl rfl) (pm_call (ok__law_joined T) (hr.mono (by decide)) (by rfl) T.F__law_joined.mg T.F__law_joined.kp T.F__law_joined.bi (am_cons (pm_var 1) (am_cons (pm_comp (own := [("_law_pick", 7)]) rfl sc__law_joined_right.nd (im_seq (pm_var 6)) (blkOk_by (N := N__law_joined_right) (sc := defScope s__law_joined_right) (by decide +kernel)) (fun _ _ _ _ _ => gm_name sc__law_joined_right.nd rfl (.inl rfl)) (fun _ _ _ _ _ => qms_nil) (fun _ _ _ _ _ => pm_ix (pm_var 3) (pm_var 7))) am_nil)))) (
  sm_one (sm_if (qm_not (qm_val (pm_callP (ok__law_same T 8) hr (by rfl) T.F__law_same.mg T.F__law_same.kp T.F__law_same.bi (am_cons (pm_var 11) (am_cons (pm_tup (am_cons (pm_var 2) (am_cons (pm_var 8) (am_cons (pm_var 9) am_nil)))) am_nil))))) (
  sm_one (sm_ret pm_bl)) (
  sm_nil))))))))) (
  sm_one (sm_ret pm_bl))
theorem ok__law_row (T : Txt K mg A) : FnG P w K mg base CX0 1 A.a__law_row A.d__law_row P__law_row fun vs H Q _ => spM K 3 (fnM 3 3 (b__law_row A.c)) vs H Q E0 :=
  fn_m T.F__law_row.F sc__law_row rfl rfl fun cdv A outer s H E hr => 
  sm_cons (sm_if (qm_cmp o_in (pm_var 0) (pm_tup (am_cons pm_str (am_cons pm_str (am_cons pm_str am_nil))))) (
  sm_one (sm_ret (pm_tup (am_cons pm_str (am_cons (pm_tup (am_cons (pm_tup (am_cons pm_int (am_cons (pm_sl (pm_var 1) po_n (po_s pm_int)) am_nil))) (am_cons (pm_tup (am_cons (pm_if (qm_cmp (o_eq hr.u64) (pm_var 0) pm_str) (pm_un o_neg pm_int) pm_int) (am_cons (pm_sl (pm_var 1) (po_s pm_int) po_n) am_nil))) am_nil))) am_nil))))) (
  sm_nil)) (
  sm_cons (sm_if (qm_cmp o_in (pm_var 0) (pm_tup (am_cons pm_str (am_cons pm_str am_nil)))) (
  sm_one (sm_ret (pm_tup (am_cons pm_str (am_cons (pm_tup (am_cons (pm_tup (am_cons pm_int (am_cons (pm_var 1) am_nil))) (am_cons (pm_tup (am_cons (pm_if (qm_cmp (o_eq hr.u64) (pm_var 0) pm_str) (pm_var 2) (pm_bin o_sub pm_int (pm_var 2))) (am_cons (pm_tup am_nil) am_nil))) am_nil))) am_nil))))) (
  sm_nil)) (
  sm_cons (sm_if (qm_cmp o_in (pm_var 0) (pm_tup (am_cons pm_str (am_cons pm_str am_nil)))) (
  sm_one (sm_ret (pm_tup (am_cons pm_str (am_cons (pm_tup (am_cons (pm_tup (am_cons (pm_var 2) (am_cons (pm_tup am_nil) am_nil))) (am_cons (pm_tup (am_cons (pm_if (qm_cmp (o_eq hr.u64) (pm_var 0) pm_str) pm_int (pm_un o_neg pm_int)) (am_cons (pm_var 1) am_nil))) am_nil))) am_nil))))) (
  sm_nil)) (
  sm_cons (sm_if (qm_cmp o_in (pm_var 0) (pm_tup (am_cons pm_str (am_cons pm_str am_nil)))) (
  sm_one (sm_ret (pm_tup (am_cons pm_str (am_cons (pm_tup (am_cons (pm_tup (am_cons (pm_var 2) (am_cons (pm_var 1) am_nil))) am_nil)) am_nil))))) (
  sm_nil)) (
  sm_cons (sm_if (qm_cmp o_in (pm_var 0) (pm_tup (am_cons pm_str (am_cons pm_str am_nil)))) (
  sm_one (sm_ret (pm_tup (am_cons pm_str (am_cons (pm_tup (am_cons (pm_tup (am_cons (pm_if (qm_cmp (o_eq hr.u64) (pm_var 0) pm_str) (pm_un o_neg pm_int) (pm_bin o_shl pm_int (pm_var 2))) (am_cons (pm_var 1) am_nil))) am_nil)) am_nil))))) (
  sm_nil)) (
  sm_one (sm_ret (pm_if (qm_cmp (o_eq hr.u64) (pm_var 0) pm_str) (pm_tup (am_cons pm_str (am_cons (pm_tup (am_cons (pm_tup (am_cons pm_int (am_cons (pm_var 1) am_nil))) am_nil)) am_nil))) (pm_tup (am_cons pm_str (am_cons (pm_tup (am_cons (pm_tup (am_cons pm_int (am_cons (pm_sl (pm_var 1) po_n (po_s pm_int)) am_nil))) (am_cons (pm_tup (am_cons pm_int (am_cons (pm_sl (pm_var 1) (po_s pm_int) po_n) am_nil))) am_nil))) am_nil))))))))))
theorem ok__law_model (T : Txt K mg A) : FnG P w K mg base CX0 3 A.a__law_model A.d__law_model P__law_model fun vs H Q _ => spM K 3 (fnM 3 11 (b__law_model A.c)) vs H Q E0 :=
  fn_m T.F__law_model.F sc__law_model rfl rfl fun cdv A outer s H E hr => 
  sm_cons (sm_unp (pm_var 2) (gm_tup rfl (gms_cons (gm_name sc__law_model.nd rfl (.inl rfl)) (gms_cons (gm_name sc__law_model.nd rfl (.inl rfl)) (gms_cons (gm_name sc__law_model.nd rfl (.inl rfl)) gms_nil))))) (
  sm_cons (sm_set sc__law_model.nd rfl (.inl rfl) (pm_if (qm_cmp (o_eq hr.u64) (pm_var 3) pm_str) pm_int (pm_if (qm_cmp o_in (pm_var 3) (pm_tup (am_cons pm_str (am_cons pm_str (am_cons pm_str (am_cons pm_str am_nil)))))) pm_int pm_int))) (
  sm_cons (sm_unp (pm_call (ok__law_together T) hr (by rfl) T.F__law_together.mg T.F__law_together.kp T.F__law_together.bi (am_cons (pm_var 0) (am_cons (pm_comp (own := [("_law_place", 9)]) rfl sc__law_model.nd (im_seq (pm_sl (pm_var 4) po_n (po_s (pm_var 6)))) (blkOk_by (N := N__law_model) (sc := defScope s__law_model) (by decide +kernel)) (fun _ _ _ _ _ => gm_name sc__law_model.nd rfl (.inl rfl)) (fun _ _ _ _ _ => qms_nil) (fun _ _ _ _ _ => pm_ix (pm_var 1) (pm_var 9))) am_nil))) (gm_tup rfl (gms_cons (gm_name sc__law_model.nd rfl (.inl rfl)) (gms_cons (gm_name sc__law_model.nd rfl (.inl rfl)) gms_nil)))) (
  sm_cons (sm_unp (pm_call (ok__law_put T) (hr.mono (by decide)) (by rfl) T.F__law_put.mg T.F__law_put.kp T.F__law_put.bi (am_cons (pm_var 0) (am_cons (pm_var 7) (am_cons (pm_bin o_add (pm_var 7) (pm_tup (am_cons (pm_callP (ok__law_row T) (hr.mono (by decide)) (by rfl) T.F__law_row.mg T.F__law_row.kp T.F__law_row.bi (am_cons (pm_var 3) (am_cons (pm_var 8) (am_cons (pm_var 5) am_nil)))) am_nil))) am_nil)))) (gm_tup rfl (gms_cons (gm_name sc__law_model.nd rfl (.inl rfl)) (gms_cons (gm_name sc__law_model.nd rfl (.inl rfl)) gms_nil)))) (
  sm_one (sm_ret (pm_tup (am_cons (pm_var 7) (am_cons (pm_ix (pm_var 10) (pm_un o_neg pm_int)) am_nil))))))))
theorem ok_with_row (T : Txt K mg A) : FnG P w K mg base (CXx P w) 3 A.a_with_row A.d_with_row P_with_row (spX K 4 6 (b_with_row A.c)) :=
  fn_mX T.F_with_row.F sc_with_row rfl rfl fun cdv A outer s H E hr => 
  sm_cons (sm_unp (pm_call (ok_put_rows T) (hr.mono (by decide)) (by rfl) T.F_put_rows.mg T.F_put_rows.kp T.F_put_rows.bi (am_cons (pm_fld T.cl_Maker T.na_Maker_inputs (pm_var 0)) (am_cons (pm_var 1) (am_cons (pm_bin o_add (pm_var 1) (pm_tup (am_cons (pm_tup (am_cons (pm_var 2) (am_cons (pm_var 3) am_nil))) am_nil))) am_nil)))) (gm_tup rfl (gms_cons (gm_name sc_with_row.nd rfl (.inl rfl)) (gms_cons (gm_name sc_with_row.nd rfl (.inl rfl)) gms_nil)))) (
  sm_cons (sm_if (qm_cmp o_gt (pm_cb c_len (by rfl) T.n_len (by first | exact PySem.boot_len | exact PyProof.Rows.boot_len | exact boot_len | decide +kernel) (am_cons (pm_var 4) am_nil)) (pm_cint (by rfl) T.ci_MOST_ROWS)) (
  sm_one (sm_raise T.ex_TooLong rfl (takes_of rfl rfl rfl rfl) (by rfl) T.mg_TooLong)) (
  sm_nil)) (
  sm_one (sm_ret (pm_makeF T.mk_Value (ok_Value___init__ T) hr (by rfl) T.mg_Value T.F_Value___init__.bi (am_cons (pm_var 0) (am_cons (pm_var 4) (am_cons (pm_ix (pm_var 5) (pm_un o_neg pm_int)) am_nil)))))))
theorem ok_Value___add__ (T : Txt K mg A) : FnG P w K mg base (CXx P w) 4 A.a_Value___add__ A.d_Value___add__ P_Value___add__ (spX K 2 4 (b_Value___add__ A.c)) :=
  fn_mX T.F_Value___add__.F sc_Value___add__ rfl rfl fun cdv A outer s H E hr => 
  sm_cons (sm_if (qm_val (pm_cb (c_isiC T.isi_Value) (by rfl) T.n_isinstance (by first | exact PySem.boot_isinstance | exact PyProof.Rows.boot_isinstance | exact boot_isinstance | decide +kernel) (am_cons (pm_var 1) (am_cons (pm_glob (by rfl) T.mg_Value) am_nil)))) (
  sm_cons (sm_unp (pm_call (ok_put_together T) (hr.mono (by decide)) (by rfl) T.F_put_together.mg T.F_put_together.kp T.F_put_together.bi (am_cons (pm_tup (am_cons (pm_var 0) (am_cons (pm_var 1) am_nil))) am_nil)) (gm_tup rfl (gms_cons (gm_name sc_Value___add__.nd rfl (.inl rfl)) (gms_cons (gm_name sc_Value___add__.nd rfl (.inl rfl)) gms_nil)))) (
  sm_one (sm_ret (pm_callX (takes_of rfl rfl rfl rfl) (ok_with_row T) hr (by rfl) T.F_with_row.mg T.F_with_row.kp T.F_with_row.bi (am_cons (pm_fld T.cl_Value T.na_Value_maker (pm_var 0)) (am_cons (pm_var 2) (am_cons pm_str (am_cons (pm_tup (am_cons (pm_tup (am_cons pm_int (am_cons (pm_sl (pm_var 3) po_n (po_s pm_int)) am_nil))) (am_cons (pm_tup (am_cons pm_int (am_cons (pm_sl (pm_var 3) (po_s pm_int) po_n) am_nil))) am_nil))) am_nil)))))))) (
  sm_nil)) (
  sm_one (sm_ret (pm_callX (takes_of rfl rfl rfl rfl) (ok_with_row T) hr (by rfl) T.F_with_row.mg T.F_with_row.kp T.F_with_row.bi (am_cons (pm_fld T.cl_Value T.na_Value_maker (pm_var 0)) (am_cons (pm_fld T.cl_Value T.na_Value_rows (pm_var 0)) (am_cons pm_str (am_cons (pm_tup (am_cons (pm_tup (am_cons pm_int (am_cons (pm_tup (am_cons (pm_fld T.cl_Value T.na_Value_place (pm_var 0)) am_nil)) am_nil))) (am_cons (pm_tup (am_cons (pm_var 1) (am_cons (pm_tup am_nil) am_nil))) am_nil))) am_nil)))))))
theorem ok_Value___radd__ (T : Txt K mg A) : FnG P w K mg base (CXx P w) 4 A.a_Value___radd__ A.d_Value___radd__ P_Value___radd__ (spX K 2 2 (b_Value___radd__ A.c)) :=
  fn_mX T.F_Value___radd__.F sc_Value___radd__ rfl rfl fun cdv A outer s H E hr => 
  sm_one (sm_ret (pm_callX (takes_of rfl rfl rfl rfl) (ok_with_row T) hr (by rfl) T.F_with_row.mg T.F_with_row.kp T.F_with_row.bi (am_cons (pm_fld T.cl_Value T.na_Value_maker (pm_var 0)) (am_cons (pm_fld T.cl_Value T.na_Value_rows (pm_var 0)) (am_cons pm_str (am_cons (pm_tup (am_cons (pm_tup (am_cons (pm_var 1) (am_cons (pm_tup am_nil) am_nil))) (am_cons (pm_tup (am_cons pm_int (am_cons (pm_tup (am_cons (pm_fld T.cl_Value T.na_Value_place (pm_var 0)) am_nil)) am_nil))) am_nil))) am_nil))))))
theorem ok_Value___mul__ (T : Txt K mg A) : FnG P w K mg base (CXx P w) 4 A.a_Value___mul__ A.d_Value___mul__ P_Value___mul__ (spX K 2 4 (b_Value___mul__ A.c)) :=
  fn_mX T.F_Value___mul__.F sc_Value___mul__ rfl rfl fun cdv A outer s H E hr => 
  sm_cons (sm_if (qm_val (pm_cb (c_isiC T.isi_Value) (by rfl) T.n_isinstance (by first | exact PySem.boot_isinstance | exact PyProof.Rows.boot_isinstance | exact boot_isinstance | decide +kernel) (am_cons (pm_var 1) (am_cons (pm_glob (by rfl) T.mg_Value) am_nil)))) (
  sm_cons (sm_unp (pm_call (ok_put_together T) (hr.mono (by decide)) (by rfl) T.F_put_together.mg T.F_put_together.kp T.F_put_together.bi (am_cons (pm_tup (am_cons (pm_var 0) (am_cons (pm_var 1) am_nil))) am_nil)) (gm_tup rfl (gms_cons (gm_name sc_Value___mul__.nd rfl (.inl rfl)) (gms_cons (gm_name sc_Value___mul__.nd rfl (.inl rfl)) gms_nil)))) (
  sm_one (sm_ret (pm_callX (takes_of rfl rfl rfl rfl) (ok_with_row T) hr (by rfl) T.F_with_row.mg T.F_with_row.kp T.F_with_row.bi (am_cons (pm_fld T.cl_Value T.na_Value_maker (pm_var 0)) (am_cons (pm_var 2) (am_cons pm_str (am_cons (pm_tup (am_cons (pm_tup (am_cons pm_int (am_cons (pm_var 3) am_nil))) am_nil)) am_nil)))))))) (
  sm_nil)) (
  sm_one (sm_ret (pm_callX (takes_of rfl rfl rfl rfl) (ok_with_row T) hr (by rfl) T.F_with_row.mg T.F_with_row.kp T.F_with_row.bi (am_cons (pm_fld T.cl_Value T.na_Value_maker (pm_var 0)) (am_cons (pm_fld T.cl_Value T.na_Value_rows (pm_var 0)) (am_cons pm_str (am_cons (pm_tup (am_cons (pm_tup (am_cons (pm_var 1) (am_cons (pm_tup (am_cons (pm_fld T.cl_Value T.na_Value_place (pm_var 0)) am_nil)) am_nil))) am_nil)) am_nil)))))))
theorem ok_Value___rmul__ (T : Txt K mg A) : FnG P w K mg base (CXx P w) 4 A.a_Value___rmul__ A.d_Value___rmul__ P_Value___rmul__ (spX K 2 2 (b_Value___rmul__ A.c)) :=
  fn_mX T.F_Value___rmul__.F sc_Value___rmul__ rfl rfl fun cdv A outer s H E hr => 
  sm_one (sm_ret (pm_callX (takes_of rfl rfl rfl rfl) (ok_with_row T) hr (by rfl) T.F_with_row.mg T.F_with_row.kp T.F_with_row.bi (am_cons (pm_fld T.cl_Value T.na_Value_maker (pm_var 0)) (am_cons (pm_fld T.cl_Value T.na_Value_rows (pm_var 0)) (am_cons pm_str (am_cons (pm_tup (am_cons (pm_tup (am_cons (pm_var 1) (am_cons (pm_tup (am_cons (pm_fld T.cl_Value T.na_Value_place (pm_var 0)) am_nil)) am_nil))) am_nil)) am_nil))))))
theorem ok_Value___sub__ (T : Txt K mg A) : FnG P w K mg base (CXx P w) 4 A.a_Value___sub__ A.d_Value___sub__ P_Value___sub__ (spX K 2 4 (b_Value___sub__ A.c)) :=
  fn_mX T.F_Value___sub__.F sc_Value___sub__ rfl rfl fun cdv A outer s H E hr => 
  sm_cons (sm_if (qm_val (pm_cb (c_isiC T.isi_Value) (by rfl) T.n_isinstance (by first | exact PySem.boot_isinstance | exact PyProof.Rows.boot_isinstance | exact boot_isinstance | decide +kernel) (am_cons (pm_var 1) (am_cons (pm_glob (by rfl) T.mg_Value) am_nil)))) (
  sm_cons (sm_unp (pm_call (ok_put_together T) (hr.mono (by decide)) (by rfl) T.F_put_together.mg T.F_put_together.kp T.F_put_together.bi (am_cons (pm_tup (am_cons (pm_var 0) (am_cons (pm_var 1) am_nil))) am_nil)) (gm_tup rfl (gms_cons (gm_name sc_Value___sub__.nd rfl (.inl rfl)) (gms_cons (gm_name sc_Value___sub__.nd rfl (.inl rfl)) gms_nil)))) (
  sm_one (sm_ret (pm_callX (takes_of rfl rfl rfl rfl) (ok_with_row T) hr (by rfl) T.F_with_row.mg T.F_with_row.kp T.F_with_row.bi (am_cons (pm_fld T.cl_Value T.na_Value_maker (pm_var 0)) (am_cons (pm_var 2) (am_cons pm_str (am_cons (pm_tup (am_cons (pm_tup (am_cons pm_int (am_cons (pm_sl (pm_var 3) po_n (po_s pm_int)) am_nil))) (am_cons (pm_tup (am_cons (pm_un o_neg pm_int) (am_cons (pm_sl (pm_var 3) (po_s pm_int) po_n) am_nil))) am_nil))) am_nil)))))))) (
  sm_nil)) (
  sm_one (sm_ret (pm_callX (takes_of rfl rfl rfl rfl) (ok_with_row T) hr (by rfl) T.F_with_row.mg T.F_with_row.kp T.F_with_row.bi (am_cons (pm_fld T.cl_Value T.na_Value_maker (pm_var 0)) (am_cons (pm_fld T.cl_Value T.na_Value_rows (pm_var 0)) (am_cons pm_str (am_cons (pm_tup (am_cons (pm_tup (am_cons pm_int (am_cons (pm_tup (am_cons (pm_fld T.cl_Value T.na_Value_place (pm_var 0)) am_nil)) am_nil))) (am_cons (pm_tup (am_cons (pm_bin o_sub pm_int (pm_var 1)) (am_cons (pm_tup am_nil) am_nil))) am_nil))) am_nil)))))))
theorem ok_Value___rsub__ (T : Txt K mg A) : FnG P w K mg base (CXx P w) 4 A.a_Value___rsub__ A.d_Value___rsub__ P_Value___rsub__ (spX K 2 2 (b_Value___rsub__ A.c)) :=
  fn_mX T.F_Value___rsub__.F sc_Value___rsub__ rfl rfl fun cdv A outer s H E hr => 
  sm_one (sm_ret (pm_callX (takes_of rfl rfl rfl rfl) (ok_with_row T) hr (by rfl) T.F_with_row.mg T.F_with_row.kp T.F_with_row.bi (am_cons (pm_fld T.cl_Value T.na_Value_maker (pm_var 0)) (am_cons (pm_fld T.cl_Value T.na_Value_rows (pm_var 0)) (am_cons pm_str (am_cons (pm_tup (am_cons (pm_tup (am_cons (pm_var 1) (am_cons (pm_tup am_nil) am_nil))) (am_cons (pm_tup (am_cons (pm_un o_neg pm_int) (am_cons (pm_tup (am_cons (pm_fld T.cl_Value T.na_Value_place (pm_var 0)) am_nil)) am_nil))) am_nil))) am_nil))))))
theorem ok_Value___neg__ (T : Txt K mg A) : FnG P w K mg base (CXx P w) 4 A.a_Value___neg__ A.d_Value___neg__ P_Value___neg__ (spX K 1 1 (b_Value___neg__ A.c)) :=
  fn_mX T.F_Value___neg__.F sc_Value___neg__ rfl rfl fun cdv A outer s H E hr => 
  sm_one (sm_ret (pm_callX (takes_of rfl rfl rfl rfl) (ok_with_row T) hr (by rfl) T.F_with_row.mg T.F_with_row.kp T.F_with_row.bi (am_cons (pm_fld T.cl_Value T.na_Value_maker (pm_var 0)) (am_cons (pm_fld T.cl_Value T.na_Value_rows (pm_var 0)) (am_cons pm_str (am_cons (pm_tup (am_cons (pm_tup (am_cons (pm_un o_neg pm_int) (am_cons (pm_tup (am_cons (pm_fld T.cl_Value T.na_Value_place (pm_var 0)) am_nil)) am_nil))) am_nil)) am_nil))))))
theorem ok_Value___lshift__ (T : Txt K mg A) : FnG P w K mg base (CXx P w) 4 A.a_Value___lshift__ A.d_Value___lshift__ P_Value___lshift__ (spX K 2 2 (b_Value___lshift__ A.c)) :=
  fn_mX T.F_Value___lshift__.F sc_Value___lshift__ rfl rfl fun cdv A outer s H E hr => 
  sm_one (sm_ret (pm_callX (takes_of rfl rfl rfl rfl) (ok_with_row T) hr (by rfl) T.F_with_row.mg T.F_with_row.kp T.F_with_row.bi (am_cons (pm_fld T.cl_Value T.na_Value_maker (pm_var 0)) (am_cons (pm_fld T.cl_Value T.na_Value_rows (pm_var 0)) (am_cons pm_str (am_cons (pm_tup (am_cons (pm_tup (am_cons (pm_bin o_shl pm_int (pm_var 1)) (am_cons (pm_tup (am_cons (pm_fld T.cl_Value T.na_Value_place (pm_var 0)) am_nil)) am_nil))) am_nil)) am_nil))))))
theorem ok_Value_fused (T : Txt K mg A) : FnG P w K mg base (CXx P w) 4 A.a_Value_fused A.d_Value_fused P_Value_fused (spX K 3 5 (b_Value_fused A.c)) :=
  fn_mX T.F_Value_fused.F sc_Value_fused rfl rfl fun cdv A outer s H E hr => 
  sm_cons (sm_unp (pm_call (ok_put_together T) (hr.mono (by decide)) (by rfl) T.F_put_together.mg T.F_put_together.kp T.F_put_together.bi (am_cons (pm_tup (am_cons (pm_var 0) (am_cons (pm_var 1) (am_cons (pm_var 2) am_nil)))) am_nil)) (gm_tup rfl (gms_cons (gm_name sc_Value_fused.nd rfl (.inl rfl)) (gms_cons (gm_name sc_Value_fused.nd rfl (.inl rfl)) gms_nil)))) (
  sm_one (sm_ret (pm_callX (takes_of rfl rfl rfl rfl) (ok_with_row T) hr (by rfl) T.F_with_row.mg T.F_with_row.kp T.F_with_row.bi (am_cons (pm_fld T.cl_Value T.na_Value_maker (pm_var 0)) (am_cons (pm_var 3) (am_cons pm_str (am_cons (pm_tup (am_cons (pm_tup (am_cons pm_int (am_cons (pm_sl (pm_var 4) po_n (po_s pm_int)) am_nil))) (am_cons (pm_tup (am_cons pm_int (am_cons (pm_sl (pm_var 4) (po_s pm_int) po_n) am_nil))) am_nil))) am_nil)))))))
theorem ok__law_value (T : Txt K mg A) : FnG P w K mg base (CXx P w) 5 A.a__law_value A.d__law_value P__law_value (spX K 2 10 (b__law_value A.c)) :=
  fn_mX T.F__law_value.F sc__law_value rfl rfl fun cdv A outer s H E hr => 
  sm_cons (sm_unp (pm_var 1) (gm_tup rfl (gms_cons (gm_name sc__law_value.nd rfl (.inl rfl)) (gms_cons (gm_lst rfl (gms_cons (gm_name sc__law_value.nd rfl (.inl rfl)) (gms_cons (gm_name sc__law_value.nd rfl (.inl rfl)) (gms_cons (gm_name sc__law_value.nd rfl (.inl rfl)) gms_nil)))) (gms_cons (gm_name sc__law_value.nd rfl (.inl rfl)) gms_nil))))) (
  sm_cons (sm_par rfl sc__law_value.nd rfl rfl (by decide) rfl rfl (am_cons (pm_ix (pm_var 0) (pm_var 3)) (am_cons (pm_ix (pm_var 0) (pm_var 4)) am_nil)) (by rfl)) (
  sm_cons (sm_if (qm_cmp (o_eq hr.u64) (pm_var 2) pm_str) (
  sm_cons (sm_set sc__law_value.nd rfl (.inl rfl) (pm_var 7)) (
  sm_cons (sm_augX (takes_of rfl rfl rfl rfl) (ok_Value___add__ T) hr T.F_Value___add__.bi T.op_Value_Add T.noi_Value_Add sc__law_value.nd rfl (.inl rfl) (pm_var 8)) (
  sm_one (sm_ret (pm_var 9))))) (
  sm_nil)) (
  sm_cons (sm_if (qm_cmp o_in (pm_var 2) (pm_tup (am_cons pm_str (am_cons pm_str am_nil)))) (
  sm_one (sm_ret (pm_if (qm_cmp (o_eq hr.u64) (pm_var 2) pm_str) (pm_binX (takes_of rfl rfl rfl rfl) ((ok_Value___add__ T).mono (by decide)) ((ok_Value___radd__ T).mono (by decide)) hr T.F_Value___add__.bi T.F_Value___radd__.bi T.op_Value_Add T.opr_Value_Add int_add o_add (pm_var 7) (pm_var 8)) (pm_binX (takes_of rfl rfl rfl rfl) ((ok_Value___sub__ T).mono (by decide)) ((ok_Value___rsub__ T).mono (by decide)) hr T.F_Value___sub__.bi T.F_Value___rsub__.bi T.op_Value_Sub T.opr_Value_Sub int_sub o_sub (pm_var 7) (pm_var 8))))) (
  sm_nil)) (
  sm_cons (sm_if (qm_cmp o_in (pm_var 2) (pm_tup (am_cons pm_str (am_cons pm_str am_nil)))) (
  sm_one (sm_ret (pm_if (qm_cmp (o_eq hr.u64) (pm_var 2) pm_str) (pm_binX (takes_of rfl rfl rfl rfl) ((ok_Value___add__ T).mono (by decide)) ((ok_Value___radd__ T).mono (by decide)) hr T.F_Value___add__.bi T.F_Value___radd__.bi T.op_Value_Add T.opr_Value_Add int_add o_add (pm_var 7) (pm_var 6)) (pm_binX (takes_of rfl rfl rfl rfl) ((ok_Value___add__ T).mono (by decide)) ((ok_Value___radd__ T).mono (by decide)) hr T.F_Value___add__.bi T.F_Value___radd__.bi T.op_Value_Add T.opr_Value_Add int_add o_add (pm_var 6) (pm_var 7))))) (
  sm_nil)) (
  sm_cons (sm_if (qm_cmp o_in (pm_var 2) (pm_tup (am_cons pm_str (am_cons pm_str am_nil)))) (
  sm_one (sm_ret (pm_if (qm_cmp (o_eq hr.u64) (pm_var 2) pm_str) (pm_binX (takes_of rfl rfl rfl rfl) ((ok_Value___sub__ T).mono (by decide)) ((ok_Value___rsub__ T).mono (by decide)) hr T.F_Value___sub__.bi T.F_Value___rsub__.bi T.op_Value_Sub T.opr_Value_Sub int_sub o_sub (pm_var 7) (pm_var 6)) (pm_binX (takes_of rfl rfl rfl rfl) ((ok_Value___sub__ T).mono (by decide)) ((ok_Value___rsub__ T).mono (by decide)) hr T.F_Value___sub__.bi T.F_Value___rsub__.bi T.op_Value_Sub T.opr_Value_Sub int_sub o_sub (pm_var 6) (pm_var 7))))) (
  sm_nil)) (
  sm_cons (sm_if (qm_cmp o_in (pm_var 2) (pm_tup (am_cons pm_str (am_cons pm_str am_nil)))) (
  sm_one (sm_ret (pm_if (qm_cmp (o_eq hr.u64) (pm_var 2) pm_str) (pm_binX (takes_of rfl rfl rfl rfl) ((ok_Value___mul__ T).mono (by decide)) ((ok_Value___rmul__ T).mono (by decide)) hr T.F_Value___mul__.bi T.F_Value___rmul__.bi T.op_Value_Mult T.opr_Value_Mult int_mul o_mul (pm_var 7) (pm_var 6)) (pm_binX (takes_of rfl rfl rfl rfl) ((ok_Value___mul__ T).mono (by decide)) ((ok_Value___rmul__ T).mono (by decide)) hr T.F_Value___mul__.bi T.F_Value___rmul__.bi T.op_Value_Mult T.opr_Value_Mult int_mul o_mul (pm_var 6) (pm_var 7))))) (
  sm_nil)) (
  sm_cons (sm_if (qm_cmp o_in (pm_var 2) (pm_tup (am_cons pm_str (am_cons pm_str am_nil)))) (
  sm_one (sm_ret (pm_if (qm_cmp (o_eq hr.u64) (pm_var 2) pm_str) (pm_negX (takes_of rfl rfl rfl rfl) (ok_Value___neg__ T) hr T.F_Value___neg__.bi T.om_Value___neg__ (pm_var 7)) (pm_binLX (takes_of rfl rfl rfl rfl) (ok_Value___lshift__ T) hr T.F_Value___lshift__.bi T.op_Value_LShift o_shl (pm_var 7) (pm_var 6))))) (
  sm_nil)) (
  sm_one (sm_ret (pm_if (qm_cmp (o_eq hr.u64) (pm_var 2) pm_str) (pm_binX (takes_of rfl rfl rfl rfl) ((ok_Value___mul__ T).mono (by decide)) ((ok_Value___rmul__ T).mono (by decide)) hr T.F_Value___mul__.bi T.F_Value___rmul__.bi T.op_Value_Mult T.opr_Value_Mult int_mul o_mul (pm_var 7) (pm_var 8)) (pm_callSX (takes_of rfl rfl rfl rfl) T.st_Value_fused (ok_Value_fused T) hr (by rfl) T.mg_Value T.F_Value_fused.bi (am_cons (pm_var 7) (am_cons (pm_var 8) (am_cons (pm_ix (pm_var 0) (pm_var 5)) am_nil))))))))))))))
theorem ok__law_made (T : Txt K mg A) : FnG P w K mg base CX0 6 A.a__law_made A.d__law_made P__law_made fun vs H Q _ => spM K 2 (fnM 2 4 (b__law_made A.c)) vs H Q E0 :=
  fn_m T.F__law_made.F sc__law_made rfl rfl fun cdv A outer s H E hr => 
  sm_cons (sm_set sc__law_made.nd rfl (.inl rfl) pm_non) (
  sm_cons (sm_tryA (i := 3) rfl rfl sc__law_made.nd rfl rfl (by rfl) T.mg_TooLong T.exm_TooLong takesF (fun _ pn xe tk _ => 
  sm_one (sm_set sc__law_made.nd rfl (.inl rfl) (pm_callX tk (ok__law_value T) hr (by rfl) T.F__law_value.mg T.F__law_value.kp T.F__law_value.bi (am_cons (pm_var 0) (am_cons (pm_var 1) am_nil))))) (fun a oe cls d pn hz hv => 
  ss_noneIf (i := 3) (j := 2) T.isx_TooLong_RoundError hz hv sc__law_made.nd rfl (.inl rfl) rfl (.inl rfl) (by rfl) T.n_isinstance (by rfl) T.mg_RoundError)) (
  sm_one (sm_ret (pm_var 2))))
theorem ok_Value_program (T : Txt K mg A) : FnG P w K mg base CX0 1 A.a_Value_program A.d_Value_program P_Value_program fun vs H Q _ => spM K 1 (fnM 1 1 (b_Value_program A.c)) vs H Q E0 :=
  fn_m T.F_Value_program.F sc_Value_program rfl rfl fun cdv A outer s H E hr => 
  sm_one (sm_ret (pm_tup (am_cons (pm_fld T.cl_Maker T.na_Maker_inputs (pm_fld T.cl_Value T.na_Value_maker (pm_var 0))) (am_cons (pm_fld T.cl_Value T.na_Value_rows (pm_var 0)) (am_cons (pm_tup (am_cons (pm_fld T.cl_Value T.na_Value_place (pm_var 0)) am_nil)) am_nil)))))
theorem ok_law (T : Txt K mg A) : FnG P w K mg base CX0 11 A.a_law A.d_law P_law fun vs H Q _ => spM K 1 (fnM 1 12 (b_law A.c)) vs H Q E0 :=
  fn_m T.F_law.F sc_law rfl rfl fun cdv A outer s H E hr => 
  sm_cons (sm_set sc_law.nd rfl (.inl rfl) (pm_call (ok__law_deck T) (hr.mono (by decide)) (by rfl) T.F__law_deck.mg T.F__law_deck.kp T.F__law_deck.bi (am_cons (pm_var 0) am_nil))) (
  sm_cons (sm_for PassesOwn.never rfl (im_range1 (by rfl) T.n_range (am_cons pm_int am_nil)) (gm_name sc_law.nd rfl (.inl rfl)) (
  sm_cons (sm_set sc_law.nd rfl (.inl rfl) (pm_bin o_add pm_int (pm_call (ok__law_draw T) (hr.mono (by decide)) (by rfl) T.F__law_draw.mg T.F__law_draw.kp T.F__law_draw.bi (am_cons (pm_var 1) (am_cons pm_int am_nil))))) (
  sm_cons (sm_set sc_law.nd rfl (.inr rfl) (pm_make T.mk_Maker (ok_Maker___init__ T) (hr.mono (by decide)) (by rfl) T.mg_Maker T.F_Maker___init__.bi (am_cons (pm_call (ok__law_traits T) (hr.mono (by decide)) (by rfl) T.F__law_traits.mg T.F__law_traits.kp T.F__law_traits.bi (am_cons (pm_var 1) am_nil)) (am_cons (pm_var 3) am_nil)))) (
  sm_cons (sm_par rfl sc_law.nd rfl rfl (by decide) rfl rfl (am_cons (pm_compN (own := [("_law_i", 7)]) rfl sc_law.nd (im_range1 (by rfl) T.n_range (am_cons (pm_var 3) am_nil)) (blkOk_by (N := N_law) (sc := defScope s_law) (by decide +kernel)) (fun _ _ _ _ _ => gm_name sc_law.nd rfl (.inl rfl)) (fun _ _ _ _ _ => qms_nil) (fun _ _ _ _ _ => pm_ixO (ok_Maker___getitem__ T) (hr.mono (by decide)) T.F_Maker___getitem__.bi T.om_Maker___getitem__ T.fi_Maker___getitem__ (pm_var 4) (pm_var 7))) (am_cons (pm_compN (own := [("_law_i", 7)]) rfl sc_law.nd (im_range1 (by rfl) T.n_range (am_cons (pm_var 3) am_nil)) (blkOk_by (N := N_law) (sc := defScope s_law) (by decide +kernel)) (fun _ _ _ _ _ => gm_name sc_law.nd rfl (.inl rfl)) (fun _ _ _ _ _ => qms_nil) (fun _ _ _ _ _ => pm_tup (am_cons (pm_tup am_nil) (am_cons (pm_var 7) am_nil)))) am_nil)) (by rfl)) (
  sm_cons (sm_for PassesOwn.never rfl (im_seq (pm_call (ok__law_nodes T) (hr.mono (by decide)) (by rfl) T.F__law_nodes.mg T.F__law_nodes.kp T.F__law_nodes.bi (am_cons (pm_var 1) (am_cons (pm_var 3) (am_cons (pm_call (ok__law_one T) (hr.mono (by decide)) (by rfl) T.F__law_one.mg T.F__law_one.kp T.F__law_one.bi (am_cons (pm_var 1) (am_cons (pm_lst (am_cons pm_int (am_cons pm_int (am_cons pm_int am_nil)))) am_nil))) (am_cons pm_int am_nil)))))) (gm_name sc_law.nd rfl (.inl rfl)) (
  sm_cons (sm_par rfl sc_law.nd rfl rfl (by decide) rfl rfl (am_cons (pm_call (ok__law_model T) (hr.mono (by decide)) (by rfl) T.F__law_model.mg T.F__law_model.kp T.F__law_model.bi (am_cons (pm_var 3) (am_cons (pm_var 6) (am_cons (pm_var 8) am_nil)))) (am_cons (pm_call (ok__law_made T) (hr.mono (by decide)) (by rfl) T.F__law_made.mg T.F__law_made.kp T.F__law_made.bi (am_cons (pm_var 5) (am_cons (pm_var 8) am_nil))) am_nil)) (by rfl)) (
  sm_cons (sm_if (qm_cmp (o_ne hr.u64) (pm_cmp o_isN (pm_var 10) pm_non) (pm_cmp o_gt (pm_cb c_len (by rfl) T.n_len (by first | exact PySem.boot_len | exact PyProof.Rows.boot_len | exact boot_len | decide +kernel) (am_cons (pm_ix (pm_var 9) pm_int) am_nil)) pm_int)) (
  sm_one (sm_ret pm_bl)) (
  sm_nil)) (
  sm_cons (sm_expr (pm_mt PySem.F.plainAttrs_list PySem.F.slot_list_append PySem.F.type_list_append t_append isL_ok (pm_var 5) (am_cons (pm_if (qm_cmp o_isN (pm_var 10) pm_non) (pm_ix (pm_var 5) pm_int) (pm_var 10)) am_nil))) (
  sm_one (sm_expr (pm_mt PySem.F.plainAttrs_list PySem.F.slot_list_append PySem.F.type_list_append t_append isL_ok (pm_var 6) (am_cons (pm_if (qm_cmp o_isN (pm_var 10) pm_non) (pm_ix (pm_var 6) pm_int) (pm_var 9)) am_nil)))))))) (
  sm_cons (sm_if (qm_not (qm_val (pm_call (ok__law_joined_right T) hr (by rfl) T.F__law_joined_right.mg T.F__law_joined_right.kp T.F__law_joined_right.bi (am_cons (pm_var 1) (am_cons (pm_var 4) (am_cons (pm_var 3) (am_cons (pm_var 5) (am_cons (pm_var 6) am_nil)))))))) (
  sm_one (sm_ret pm_bl)) (
  sm_nil)) (
  sm_one (sm_for PassesOwn.never rfl (im_zip (by rfl) T.n_zip (am_cons (pm_var 5) (am_cons (pm_var 6) am_nil))) (gm_tup rfl (gms_cons (gm_name sc_law.nd rfl (.inl rfl)) (gms_cons (gm_name sc_law.nd rfl (.inl rfl)) gms_nil))) (
  sm_one (sm_if (qm_not (qm_val (pm_callP (ok__law_same T 8) (hr.mono (by decide)) (by rfl) T.F__law_same.mg T.F__law_same.kp T.F__law_same.bi (am_cons (pm_prop T.cl_Value T.pr_Value_program (ok_Value_program T) (hr.mono (by decide)) T.F_Value_program.bi (pm_var 11)) (am_cons (pm_tup (am_cons (pm_var 3) (am_cons (pm_ix (pm_var 9) pm_int) (am_cons (pm_tup (am_cons (pm_ix (pm_var 9) pm_int) am_nil)) am_nil)))) am_nil))))) (
  sm_one (sm_ret pm_bl)) (
  sm_nil))))))))))) (
  sm_one (sm_ret pm_bl)))
end
theorem all_mk {l : PySem.W.OpenLaw} {w : World} {K : PySem.W.Frag} {h : Heap} {mg : Str → Option Value} {fa : Addr} (X : K.In h) (G : h.Ns mainGlobals mg) (hfa : mg "law" = some (.ref fa))
    {f_Maker___init__ : Addr}
    {f_Traits___init__ : Addr}
    {f_Value___init__ : Addr}
    {f_Maker___getitem__ : Addr}
    {f_Maker_joined : Addr}
    {f_Value___add__ : Addr}
    {f_Value___radd__ : Addr}
    {f_Value___mul__ : Addr}
    {f_Value___rmul__ : Addr}
    {f_Value___sub__ : Addr}
    {f_Value___rsub__ : Addr}
    {f_Value___neg__ : Addr}
    {f_Value___lshift__ : Addr}
    {f_Value_fused : Addr}
    {f_Value_program : Addr}
    {C_Maker : Addr}
    (h_mg_Maker : PySem.W.nsIn K mainGlobals "Maker" = some (some (.ref C_Maker)))
    {C_RoundError : Addr}
    (h_mg_RoundError : PySem.W.nsIn K mainGlobals "RoundError" = some (some (.ref C_RoundError)))
    {C_TooLong : Addr}
    (h_mg_TooLong : PySem.W.nsIn K mainGlobals "TooLong" = some (some (.ref C_TooLong)))
    {C_Traits : Addr}
    (h_mg_Traits : PySem.W.nsIn K mainGlobals "Traits" = some (some (.ref C_Traits)))
    {C_Value : Addr}
    (h_mg_Value : PySem.W.nsIn K mainGlobals "Value" = some (some (.ref C_Value)))
    {t_ci_MOST_ROWS : Tok}
    (h_ci_MOST_ROWS : PySem.W.nsIn K mainGlobals "MOST_ROWS" = some (some (.int 12 t_ci_MOST_ROWS)))
    (h1_cl_Maker : PySem.W.plainGet K C_Maker Str.empty = true)
    (h2_cl_Maker : PySem.W.hasDictIn K C_Maker = true)
    (h3_cl_Maker : PySem.W.plainOver K C_Maker = true)
    (h4_cl_Maker : PySem.W.findIn K (.ref C_Maker) "__setattr__" = some (some (.builtin "object.__setattr__")))
    (h1_cl_Traits : PySem.W.plainGet K C_Traits Str.empty = true)
    (h2_cl_Traits : PySem.W.hasDictIn K C_Traits = true)
    (h3_cl_Traits : PySem.W.plainOver K C_Traits = true)
    (h4_cl_Traits : PySem.W.findIn K (.ref C_Traits) "__setattr__" = some (some (.builtin "object.__setattr__")))
    (h1_cl_Value : PySem.W.plainGet K C_Value Str.empty = true)
    (h2_cl_Value : PySem.W.hasDictIn K C_Value = true)
    (h3_cl_Value : PySem.W.plainOver K C_Value = true)
    (h4_cl_Value : PySem.W.findIn K (.ref C_Value) "__setattr__" = some (some (.builtin "object.__setattr__")))
    {v0_ct_WORDS : Addr}
    {v1_ct_WORDS : Option Addr}
    {v2_ct_WORDS : Array Value}
    {v3_ct_WORDS : Nat}
    {v4_ct_WORDS : Array (Option Value)}
    (h1_ct_WORDS : PySem.W.nsIn K mainGlobals "WORDS" = some (some (.ref v0_ct_WORDS)))
    (h2_ct_WORDS : K.lookup v0_ct_WORDS = some ⟨.type "tuple", v1_ct_WORDS, .seq v2_ct_WORDS v3_ct_WORDS, v4_ct_WORDS⟩)
    (h3_ct_WORDS : strsV v2_ct_WORDS.toList = some (["odd", "two", "still", "merge"] : List Str))
    (h4_ct_WORDS : v2_ct_WORDS.size ≤ sz)
    (h1_eqf_Maker : PySem.W.findIn K (.ref C_Maker) "__eq__" = some (some (.builtin "object.__eq__")))
    (h2_eqf_Maker : PySem.W.findIn K (.ref C_Maker) "__ne__" = some (some (.builtin "object.__ne__")))
    (h3_eqf_Maker : PySem.W.mroIn K C_Maker (.type "object") = some true)
    (h1_ex_TooLong : PySem.W.excIn K C_TooLong [.type "ValueError", .type "Exception", .type "BaseException", .type "object"] "ValueError.__new__" = true)
    (h2_ex_TooLong : PySem.W.keepIn K (.ref C_TooLong) = true)
    (h3_ex_TooLong : PySem.W.subIn K (.ref C_TooLong) (.type "BaseException") = some true)
    (h4_ex_TooLong : PySem.W.typeIn K (.ref C_TooLong) = some (.type "type"))
    (h1_exm_TooLong : PySem.W.subIn K (.ref C_TooLong) (.type "BaseException") = some true)
    (h2_exm_TooLong : PySem.W.hasDictIn K C_TooLong = true)
    (h3_exm_TooLong : PySem.W.typeIn K (.ref C_TooLong) = some (.type "type"))
    (h4_exm_TooLong : PySem.W.subIn K (.ref C_TooLong) (.ref C_TooLong) = some true)
    (p1_isi_Value : PySem.W.plainGet K C_Value Str.empty = true)
    (p2_isi_Value : PySem.W.hasDictIn K C_Value = true)
    (p3_isi_Value : PySem.W.plainOver K C_Value = true)
    (p4_isi_Value : PySem.W.findIn K (.ref C_Value) "__setattr__" = some (some (.builtin "object.__setattr__")))
    (h1_isi_Value : PySem.W.findIn K (.ref C_Value) "__class__" = some (some (.builtin "object.__class__")))
    (h2_isi_Value : PySem.W.specialIn K (.builtin "object.__class__") "__get__" = some (some (.builtin "getset_descriptor.__get__")))
    (h3_isi_Value : PySem.W.takesIn K (.builtin "object.__class__") = some true)
    (h4_isi_Value : PySem.W.mroIn K C_Value (.type "object") = some true)
    (h5_isi_Value : PySem.W.kitOne K (.ref C_Value) (.ref C_Value) = some true)
    (h6_isi_Value : PySem.W.kitOne K (.type "NoneType") (.ref C_Value) = some false)
    (h7_isi_Value : PySem.W.kitOne K (.type "bool") (.ref C_Value) = some false)
    (h8_isi_Value : PySem.W.kitOne K (.type "int") (.ref C_Value) = some false)
    (h9_isi_Value : PySem.W.kitOne K (.type "str") (.ref C_Value) = some false)
    (h10_isi_Value : PySem.W.kitOne K (.type "tuple") (.ref C_Value) = some false)
    (h11_isi_Value : PySem.W.kitOne K (.type "list") (.ref C_Value) = some false)
    (h12_isi_Value : PySem.W.kitOne K (.type "dict") (.ref C_Value) = some false)
    (h1_isx_TooLong_RoundError : PySem.W.findIn K (.ref C_TooLong) "__getattribute__" = some (some (.builtin "BaseException.__getattribute__")))
    (h2_isx_TooLong_RoundError : PySem.W.findIn K (.ref C_TooLong) "__getattr__" = some none)
    (h3_isx_TooLong_RoundError : PySem.W.subIn K (.ref C_TooLong) (.type "BaseException") = some true)
    (h4_isx_TooLong_RoundError : PySem.W.hasDictIn K C_TooLong = true)
    (h5_isx_TooLong_RoundError : PySem.W.findIn K (.ref C_TooLong) "__class__" = some (some (.builtin "object.__class__")))
    (h6_isx_TooLong_RoundError : PySem.W.specialIn K (.builtin "object.__class__") "__get__" = some (some (.builtin "getset_descriptor.__get__")))
    (h7_isx_TooLong_RoundError : PySem.W.takesIn K (.builtin "object.__class__") = some true)
    (h8_isx_TooLong_RoundError : PySem.W.mroIn K C_TooLong (.type "object") = some true)
    (h9_isx_TooLong_RoundError : PySem.W.kitOne K (.ref C_TooLong) (.ref C_RoundError) = some true)
    (h1_me_Maker_joined : PySem.W.findIn K (.ref C_Maker) "joined" = some (some (.ref f_Maker_joined)))
    (h2_me_Maker_joined : PySem.W.isFn K (.ref f_Maker_joined) = true)
    (h3_me_Maker_joined : PySem.W.keepIn K (.ref f_Maker_joined) = true)
    (h1_mk_Maker : PySem.W.makesIn K C_Maker = true)
    (h2_mk_Maker : PySem.W.findIn K (.ref C_Maker) "__init__" = some (some (.ref f_Maker___init__)))
    (h3_mk_Maker : PySem.W.isFn K (.ref f_Maker___init__) = true)
    (h4_mk_Maker : PySem.W.keepIn K (.ref C_Maker) = true)
    (h1_mk_Traits : PySem.W.makesIn K C_Traits = true)
    (h2_mk_Traits : PySem.W.findIn K (.ref C_Traits) "__init__" = some (some (.ref f_Traits___init__)))
    (h3_mk_Traits : PySem.W.isFn K (.ref f_Traits___init__) = true)
    (h4_mk_Traits : PySem.W.keepIn K (.ref C_Traits) = true)
    (h1_mk_Value : PySem.W.makesIn K C_Value = true)
    (h2_mk_Value : PySem.W.findIn K (.ref C_Value) "__init__" = some (some (.ref f_Value___init__)))
    (h3_mk_Value : PySem.W.isFn K (.ref f_Value___init__) = true)
    (h4_mk_Value : PySem.W.keepIn K (.ref C_Value) = true)
    (h1_na_Maker_inputs : PySem.W.findIn K (.ref C_Maker) "inputs" = some none)
    (h1_na_Maker_under : PySem.W.findIn K (.ref C_Maker) "under" = some none)
    (h1_na_Traits_held : PySem.W.findIn K (.ref C_Traits) "held" = some none)
    (h1_na_Value_maker : PySem.W.findIn K (.ref C_Value) "maker" = some none)
    (h1_na_Value_place : PySem.W.findIn K (.ref C_Value) "place" = some none)
    (h1_na_Value_rows : PySem.W.findIn K (.ref C_Value) "rows" = some none)
    {cd_noi_Value_Add : ClassData}
    (h0_noi_Value_Add : PySem.W.clsIn K C_Value = some cd_noi_Value_Add)
    (h1_noi_Value_Add : cd_noi_Value_Add.mro = [.ref C_Value, .type "object"])
    (h2_noi_Value_Add : PySem.W.findIn K (.ref C_Value) (dunderI (Operator.info .Add).2) = some none)
    (h3_noi_Value_Add : PySem.W.findIn K (.type "object") (dunderI (Operator.info .Add).2) = some none)
    (h1_om_Maker___getitem__ : PySem.W.findIn K (.ref C_Maker) "__getitem__" = some (some (.ref f_Maker___getitem__)))
    (h2_om_Maker___getitem__ : PySem.W.isFn K (.ref f_Maker___getitem__) = true)
    (h1_om_Value___neg__ : PySem.W.findIn K (.ref C_Value) "__neg__" = some (some (.ref f_Value___neg__)))
    (h2_om_Value___neg__ : PySem.W.isFn K (.ref f_Value___neg__) = true)
    {fo_op_Value_Add ro_op_Value_Add rc_op_Value_Add : Option Value}
    (h1_op_Value_Add : PySem.W.selfFirst K C_Value = true)
    (h2_op_Value_Add : PySem.W.findIn K (.ref C_Value) (PySem.dunder (Operator.info .Add).2) = some (some (.ref f_Value___add__)))
    (h3_op_Value_Add : PySem.W.isFn K (.ref f_Value___add__) = true)
    (h4_op_Value_Add : PySem.W.findIn K (.ref C_Value) (dunderR (Operator.info .Add).2) = some rc_op_Value_Add)
    (h5_op_Value_Add : rc_op_Value_Add = none ∨ ∃ g : Addr, rc_op_Value_Add = some (.ref g))
    (h6_op_Value_Add : PySem.W.findIn K (.type "int") (PySem.dunder (Operator.info .Add).2) = some fo_op_Value_Add)
    (h7_op_Value_Add : PySem.W.findIn K (.type "int") (dunderR (Operator.info .Add).2) = some ro_op_Value_Add)
    (h8_op_Value_Add : PySem.W.subIn K (.type "int") (.ref C_Value) = some false)
    {fo_op_Value_LShift ro_op_Value_LShift rc_op_Value_LShift : Option Value}
    (h1_op_Value_LShift : PySem.W.selfFirst K C_Value = true)
    (h2_op_Value_LShift : PySem.W.findIn K (.ref C_Value) (PySem.dunder (Operator.info .LShift).2) = some (some (.ref f_Value___lshift__)))
    (h3_op_Value_LShift : PySem.W.isFn K (.ref f_Value___lshift__) = true)
    (h4_op_Value_LShift : PySem.W.findIn K (.ref C_Value) (dunderR (Operator.info .LShift).2) = some rc_op_Value_LShift)
    (h5_op_Value_LShift : rc_op_Value_LShift = none ∨ ∃ g : Addr, rc_op_Value_LShift = some (.ref g))
    (h6_op_Value_LShift : PySem.W.findIn K (.type "int") (PySem.dunder (Operator.info .LShift).2) = some fo_op_Value_LShift)
    (h7_op_Value_LShift : PySem.W.findIn K (.type "int") (dunderR (Operator.info .LShift).2) = some ro_op_Value_LShift)
    (h8_op_Value_LShift : PySem.W.subIn K (.type "int") (.ref C_Value) = some false)
    {fo_op_Value_Mult ro_op_Value_Mult rc_op_Value_Mult : Option Value}
    (h1_op_Value_Mult : PySem.W.selfFirst K C_Value = true)
    (h2_op_Value_Mult : PySem.W.findIn K (.ref C_Value) (PySem.dunder (Operator.info .Mult).2) = some (some (.ref f_Value___mul__)))
    (h3_op_Value_Mult : PySem.W.isFn K (.ref f_Value___mul__) = true)
    (h4_op_Value_Mult : PySem.W.findIn K (.ref C_Value) (dunderR (Operator.info .Mult).2) = some rc_op_Value_Mult)
    (h5_op_Value_Mult : rc_op_Value_Mult = none ∨ ∃ g : Addr, rc_op_Value_Mult = some (.ref g))
    (h6_op_Value_Mult : PySem.W.findIn K (.type "int") (PySem.dunder (Operator.info .Mult).2) = some fo_op_Value_Mult)
    (h7_op_Value_Mult : PySem.W.findIn K (.type "int") (dunderR (Operator.info .Mult).2) = some ro_op_Value_Mult)
    (h8_op_Value_Mult : PySem.W.subIn K (.type "int") (.ref C_Value) = some false)
    {fo_op_Value_Sub ro_op_Value_Sub rc_op_Value_Sub : Option Value}
    (h1_op_Value_Sub : PySem.W.selfFirst K C_Value = true)
    (h2_op_Value_Sub : PySem.W.findIn K (.ref C_Value) (PySem.dunder (Operator.info .Sub).2) = some (some (.ref f_Value___sub__)))
    (h3_op_Value_Sub : PySem.W.isFn K (.ref f_Value___sub__) = true)
    (h4_op_Value_Sub : PySem.W.findIn K (.ref C_Value) (dunderR (Operator.info .Sub).2) = some rc_op_Value_Sub)
    (h5_op_Value_Sub : rc_op_Value_Sub = none ∨ ∃ g : Addr, rc_op_Value_Sub = some (.ref g))
    (h6_op_Value_Sub : PySem.W.findIn K (.type "int") (PySem.dunder (Operator.info .Sub).2) = some fo_op_Value_Sub)
    (h7_op_Value_Sub : PySem.W.findIn K (.type "int") (dunderR (Operator.info .Sub).2) = some ro_op_Value_Sub)
    (h8_op_Value_Sub : PySem.W.subIn K (.type "int") (.ref C_Value) = some false)
    (h1_opr_Value_Add : PySem.W.findIn K (.ref C_Value) (dunderR (Operator.info .Add).2) = some (some (.ref f_Value___radd__)))
    (h2_opr_Value_Add : PySem.W.isFn K (.ref f_Value___radd__) = true)
    (h3_opr_Value_Add : PySem.W.subIn K (.ref C_Value) (.type "int") = some false)
    (h1_opr_Value_Mult : PySem.W.findIn K (.ref C_Value) (dunderR (Operator.info .Mult).2) = some (some (.ref f_Value___rmul__)))
    (h2_opr_Value_Mult : PySem.W.isFn K (.ref f_Value___rmul__) = true)
    (h3_opr_Value_Mult : PySem.W.subIn K (.ref C_Value) (.type "int") = some false)
    (h1_opr_Value_Sub : PySem.W.findIn K (.ref C_Value) (dunderR (Operator.info .Sub).2) = some (some (.ref f_Value___rsub__)))
    (h2_opr_Value_Sub : PySem.W.isFn K (.ref f_Value___rsub__) = true)
    (h3_opr_Value_Sub : PySem.W.subIn K (.ref C_Value) (.type "int") = some false)
    {p_pr_Value_program : Addr} {r_pr_Value_program : List Value}
    (h1_pr_Value_program : PySem.W.findIn K (.ref C_Value) "program" = some (some (.ref p_pr_Value_program)))
    (h2_pr_Value_program : PySem.W.specialIn K (.ref p_pr_Value_program) "__get__" = some (some (.builtin "property.__get__")))
    (h3_pr_Value_program : PySem.W.takesIn K (.ref p_pr_Value_program) = some true)
    (h4_pr_Value_program : PySem.W.recIn K p_pr_Value_program "property" = some (.ref f_Value_program :: r_pr_Value_program))
    {p_st_Value_fused : Addr} {r_st_Value_fused : List Value}
    (h1_st_Value_fused : PySem.W.readsIn K C_Value (.type "type") = true)
    (h2_st_Value_fused : PySem.W.specialIn K (.ref C_Value) "__getattribute__" = some (some (.builtin "type.__getattribute__")))
    (h3_st_Value_fused : PySem.W.findCls K (.ref C_Value) (.type "type") "fused" = some (.get (.builtin "staticmethod.__get__") (.ref p_st_Value_fused) .none (.ref C_Value)))
    (h4_st_Value_fused : PySem.W.recIn K p_st_Value_fused "staticmethod" = some (.ref f_Value_fused :: r_st_Value_fused))
    (h5_st_Value_fused : PySem.W.keepIn K (.ref f_Value_fused) = true)
    (h1_fi_Maker___getitem__ : PySem.W.fnIn K f_Maker___getitem__ = true)
    {f0 : Addr}
    {od0 an0 : Option Addr} {sl0 : Array (Option Value)} {oc0 kV0 dc0 pm0 cd0 ct0 : Value}
    (a0 : PySem.W.nsIn K mainGlobals "_law_deck" = some (some (.ref f0)))
    (l0 : K.lookup f0 = some ⟨oc0, od0, .func (PySem.W.fnOf "_law_deck" "_law_deck" (defArgs s__law_deck) (defBody s__law_deck) (defScope s__law_deck) .none kV0 dc0 pm0 an0 cd0 ct0), sl0⟩) (c0 : PySem.W.codeIn K cd0 "_law_deck" = true) (k0 : PySem.W.keepIn K (.ref f0) = true)
    {od1 an1 : Option Addr} {sl1 : Array (Option Value)} {oc1 kV1 dc1 pm1 cd1 ct1 : Value}
    (l1 : K.lookup f_Maker___init__ = some ⟨oc1, od1, .func (PySem.W.fnOf "__init__" "Maker.__init__" (defArgs s_Maker___init__) (defBody s_Maker___init__) (defScope s_Maker___init__) .none kV1 dc1 pm1 an1 cd1 ct1), sl1⟩) (c1 : PySem.W.codeIn K cd1 "Maker.__init__" = true) (k1 : PySem.W.keepIn K (.ref f_Maker___init__) = true)
    {f2 : Addr}
    {od2 an2 : Option Addr} {sl2 : Array (Option Value)} {oc2 kV2 dc2 pm2 cd2 ct2 : Value}
    (a2 : PySem.W.nsIn K mainGlobals "_law_draw" = some (some (.ref f2)))
    (l2 : K.lookup f2 = some ⟨oc2, od2, .func (PySem.W.fnOf "_law_draw" "_law_draw" (defArgs s__law_draw) (defBody s__law_draw) (defScope s__law_draw) .none kV2 dc2 pm2 an2 cd2 ct2), sl2⟩) (c2 : PySem.W.codeIn K cd2 "_law_draw" = true) (k2 : PySem.W.keepIn K (.ref f2) = true)
    {f3 : Addr}
    {od3 an3 : Option Addr} {sl3 : Array (Option Value)} {oc3 kV3 dc3 pm3 cd3 ct3 : Value}
    (a3 : PySem.W.nsIn K mainGlobals "_law_one" = some (some (.ref f3)))
    (l3 : K.lookup f3 = some ⟨oc3, od3, .func (PySem.W.fnOf "_law_one" "_law_one" (defArgs s__law_one) (defBody s__law_one) (defScope s__law_one) .none kV3 dc3 pm3 an3 cd3 ct3), sl3⟩) (c3 : PySem.W.codeIn K cd3 "_law_one" = true) (k3 : PySem.W.keepIn K (.ref f3) = true)
    {f4 : Addr}
    {od4 an4 : Option Addr} {sl4 : Array (Option Value)} {oc4 kV4 dc4 pm4 cd4 ct4 : Value}
    (a4 : PySem.W.nsIn K mainGlobals "_law_nodes" = some (some (.ref f4)))
    (l4 : K.lookup f4 = some ⟨oc4, od4, .func (PySem.W.fnOf "_law_nodes" "_law_nodes" (defArgs s__law_nodes) (defBody s__law_nodes) (defScope s__law_nodes) .none kV4 dc4 pm4 an4 cd4 ct4), sl4⟩) (c4 : PySem.W.codeIn K cd4 "_law_nodes" = true) (k4 : PySem.W.keepIn K (.ref f4) = true)
    {od5 an5 : Option Addr} {sl5 : Array (Option Value)} {oc5 kV5 dc5 pm5 cd5 ct5 : Value}
    (l5 : K.lookup f_Traits___init__ = some ⟨oc5, od5, .func (PySem.W.fnOf "__init__" "Traits.__init__" (defArgs s_Traits___init__) (defBody s_Traits___init__) (defScope s_Traits___init__) .none kV5 dc5 pm5 an5 cd5 ct5), sl5⟩) (c5 : PySem.W.codeIn K cd5 "Traits.__init__" = true) (k5 : PySem.W.keepIn K (.ref f_Traits___init__) = true)
    {f6 : Addr}
    {od6 an6 : Option Addr} {sl6 : Array (Option Value)} {oc6 kV6 dc6 pm6 cd6 ct6 : Value}
    (a6 : PySem.W.nsIn K mainGlobals "_law_traits" = some (some (.ref f6)))
    (l6 : K.lookup f6 = some ⟨oc6, od6, .func (PySem.W.fnOf "_law_traits" "_law_traits" (defArgs s__law_traits) (defBody s__law_traits) (defScope s__law_traits) .none kV6 dc6 pm6 an6 cd6 ct6), sl6⟩) (c6 : PySem.W.codeIn K cd6 "_law_traits" = true) (k6 : PySem.W.keepIn K (.ref f6) = true)
    {od7 an7 : Option Addr} {sl7 : Array (Option Value)} {oc7 kV7 dc7 pm7 cd7 ct7 : Value}
    (l7 : K.lookup f_Value___init__ = some ⟨oc7, od7, .func (PySem.W.fnOf "__init__" "Value.__init__" (defArgs s_Value___init__) (defBody s_Value___init__) (defScope s_Value___init__) .none kV7 dc7 pm7 an7 cd7 ct7), sl7⟩) (c7 : PySem.W.codeIn K cd7 "Value.__init__" = true) (k7 : PySem.W.keepIn K (.ref f_Value___init__) = true)
    {od8 an8 : Option Addr} {sl8 : Array (Option Value)} {oc8 kV8 dc8 pm8 cd8 ct8 : Value}
    (l8 : K.lookup f_Maker___getitem__ = some ⟨oc8, od8, .func (PySem.W.fnOf "__getitem__" "Maker.__getitem__" (defArgs s_Maker___getitem__) (defBody s_Maker___getitem__) (defScope s_Maker___getitem__) .none kV8 dc8 pm8 an8 cd8 ct8), sl8⟩) (c8 : PySem.W.codeIn K cd8 "Maker.__getitem__" = true) (k8 : PySem.W.keepIn K (.ref f_Maker___getitem__) = true)
    {f9 : Addr}
    {od9 an9 : Option Addr} {sl9 : Array (Option Value)} {oc9 kV9 dc9 pm9 cd9 ct9 : Value}
    (a9 : PySem.W.nsIn K mainGlobals "_law_put" = some (some (.ref f9)))
    (l9 : K.lookup f9 = some ⟨oc9, od9, .func (PySem.W.fnOf "_law_put" "_law_put" (defArgs s__law_put) (defBody s__law_put) (defScope s__law_put) .none kV9 dc9 pm9 an9 cd9 ct9), sl9⟩) (c9 : PySem.W.codeIn K cd9 "_law_put" = true) (k9 : PySem.W.keepIn K (.ref f9) = true)
    {f10 : Addr}
    {od10 an10 : Option Addr} {sl10 : Array (Option Value)} {oc10 kV10 dc10 pm10 cd10 ct10 : Value}
    (a10 : PySem.W.nsIn K mainGlobals "_law_together" = some (some (.ref f10)))
    (l10 : K.lookup f10 = some ⟨oc10, od10, .func (PySem.W.fnOf "_law_together" "_law_together" (defArgs s__law_together) (defBody s__law_together) (defScope s__law_together) .none kV10 dc10 pm10 an10 cd10 ct10), sl10⟩) (c10 : PySem.W.codeIn K cd10 "_law_together" = true) (k10 : PySem.W.keepIn K (.ref f10) = true)
    {f11 : Addr}
    {od11 an11 : Option Addr} {sl11 : Array (Option Value)} {oc11 kV11 dc11 pm11 cd11 ct11 : Value}
    (a11 : PySem.W.nsIn K mainGlobals "put_rows" = some (some (.ref f11)))
    (l11 : K.lookup f11 = some ⟨oc11, od11, .func (PySem.W.fnOf "put_rows" "put_rows" (defArgs s_put_rows) (defBody s_put_rows) (defScope s_put_rows) .none kV11 dc11 pm11 an11 cd11 ct11), sl11⟩) (c11 : PySem.W.codeIn K cd11 "put_rows" = true) (k11 : PySem.W.keepIn K (.ref f11) = true)
    {f12 : Addr}
    {od12 an12 : Option Addr} {sl12 : Array (Option Value)} {oc12 kV12 dc12 pm12 cd12 ct12 : Value}
    (a12 : PySem.W.nsIn K mainGlobals "put_together" = some (some (.ref f12)))
    (l12 : K.lookup f12 = some ⟨oc12, od12, .func (PySem.W.fnOf "put_together" "put_together" (defArgs s_put_together) (defBody s_put_together) (defScope s_put_together) .none kV12 dc12 pm12 an12 cd12 ct12), sl12⟩) (c12 : PySem.W.codeIn K cd12 "put_together" = true) (k12 : PySem.W.keepIn K (.ref f12) = true)
    {od13 an13 : Option Addr} {sl13 : Array (Option Value)} {oc13 kV13 dc13 pm13 cd13 ct13 : Value}
    (l13 : K.lookup f_Maker_joined = some ⟨oc13, od13, .func (PySem.W.fnOf "joined" "Maker.joined" (defArgs s_Maker_joined) (defBody s_Maker_joined) (defScope s_Maker_joined) .none kV13 dc13 pm13 an13 cd13 ct13), sl13⟩) (c13 : PySem.W.codeIn K cd13 "Maker.joined" = true) (k13 : PySem.W.keepIn K (.ref f_Maker_joined) = true)
    {f14 : Addr}
    {od14 an14 : Option Addr} {sl14 : Array (Option Value)} {oc14 kV14 dc14 pm14 cd14 ct14 : Value}
    (a14 : PySem.W.nsIn K mainGlobals "_law_joined" = some (some (.ref f14)))
    (l14 : K.lookup f14 = some ⟨oc14, od14, .func (PySem.W.fnOf "_law_joined" "_law_joined" (defArgs s__law_joined) (defBody s__law_joined) (defScope s__law_joined) .none kV14 dc14 pm14 an14 cd14 ct14), sl14⟩) (c14 : PySem.W.codeIn K cd14 "_law_joined" = true) (k14 : PySem.W.keepIn K (.ref f14) = true)
    {f15 : Addr}
    {od15 an15 : Option Addr} {sl15 : Array (Option Value)} {oc15 kV15 dc15 pm15 cd15 ct15 : Value}
    (a15 : PySem.W.nsIn K mainGlobals "_law_same" = some (some (.ref f15)))
    (l15 : K.lookup f15 = some ⟨oc15, od15, .func (PySem.W.fnOf "_law_same" "_law_same" (defArgs s__law_same) (defBody s__law_same) (defScope s__law_same) .none kV15 dc15 pm15 an15 cd15 ct15), sl15⟩) (c15 : PySem.W.codeIn K cd15 "_law_same" = true) (k15 : PySem.W.keepIn K (.ref f15) = true)
    {f16 : Addr}
    {od16 an16 : Option Addr} {sl16 : Array (Option Value)} {oc16 kV16 dc16 pm16 cd16 ct16 : Value}
    (a16 : PySem.W.nsIn K mainGlobals "_law_joined_right" = some (some (.ref f16)))
    (l16 : K.lookup f16 = some ⟨oc16, od16, .func (PySem.W.fnOf "_law_joined_right" "_law_joined_right" (defArgs s__law_joined_right) (defBody s__law_joined_right) (defScope s__law_joined_right) .none kV16 dc16 pm16 an16 cd16 ct16), sl16⟩) (c16 : PySem.W.codeIn K cd16 "_law_joined_right" = true) (k16 : PySem.W.keepIn K (.ref f16) = true)
    {f17 : Addr}
    {od17 an17 : Option Addr} {sl17 : Array (Option Value)} {oc17 kV17 dc17 pm17 cd17 ct17 : Value}
    (a17 : PySem.W.nsIn K mainGlobals "_law_row" = some (some (.ref f17)))
    (l17 : K.lookup f17 = some ⟨oc17, od17, .func (PySem.W.fnOf "_law_row" "_law_row" (defArgs s__law_row) (defBody s__law_row) (defScope s__law_row) .none kV17 dc17 pm17 an17 cd17 ct17), sl17⟩) (c17 : PySem.W.codeIn K cd17 "_law_row" = true) (k17 : PySem.W.keepIn K (.ref f17) = true)
    {f18 : Addr}
    {od18 an18 : Option Addr} {sl18 : Array (Option Value)} {oc18 kV18 dc18 pm18 cd18 ct18 : Value}
    (a18 : PySem.W.nsIn K mainGlobals "_law_model" = some (some (.ref f18)))
    (l18 : K.lookup f18 = some ⟨oc18, od18, .func (PySem.W.fnOf "_law_model" "_law_model" (defArgs s__law_model) (defBody s__law_model) (defScope s__law_model) .none kV18 dc18 pm18 an18 cd18 ct18), sl18⟩) (c18 : PySem.W.codeIn K cd18 "_law_model" = true) (k18 : PySem.W.keepIn K (.ref f18) = true)
    {f19 : Addr}
    {od19 an19 : Option Addr} {sl19 : Array (Option Value)} {oc19 kV19 dc19 pm19 cd19 ct19 : Value}
    (a19 : PySem.W.nsIn K mainGlobals "with_row" = some (some (.ref f19)))
    (l19 : K.lookup f19 = some ⟨oc19, od19, .func (PySem.W.fnOf "with_row" "with_row" (defArgs s_with_row) (defBody s_with_row) (defScope s_with_row) .none kV19 dc19 pm19 an19 cd19 ct19), sl19⟩) (c19 : PySem.W.codeIn K cd19 "with_row" = true) (k19 : PySem.W.keepIn K (.ref f19) = true)
    {od20 an20 : Option Addr} {sl20 : Array (Option Value)} {oc20 kV20 dc20 pm20 cd20 ct20 : Value}
    (l20 : K.lookup f_Value___add__ = some ⟨oc20, od20, .func (PySem.W.fnOf "__add__" "Value.__add__" (defArgs s_Value___add__) (defBody s_Value___add__) (defScope s_Value___add__) .none kV20 dc20 pm20 an20 cd20 ct20), sl20⟩) (c20 : PySem.W.codeIn K cd20 "Value.__add__" = true) (k20 : PySem.W.keepIn K (.ref f_Value___add__) = true)
    {od21 an21 : Option Addr} {sl21 : Array (Option Value)} {oc21 kV21 dc21 pm21 cd21 ct21 : Value}
    (l21 : K.lookup f_Value___radd__ = some ⟨oc21, od21, .func (PySem.W.fnOf "__radd__" "Value.__radd__" (defArgs s_Value___radd__) (defBody s_Value___radd__) (defScope s_Value___radd__) .none kV21 dc21 pm21 an21 cd21 ct21), sl21⟩) (c21 : PySem.W.codeIn K cd21 "Value.__radd__" = true) (k21 : PySem.W.keepIn K (.ref f_Value___radd__) = true)
    {od22 an22 : Option Addr} {sl22 : Array (Option Value)} {oc22 kV22 dc22 pm22 cd22 ct22 : Value}
    (l22 : K.lookup f_Value___mul__ = some ⟨oc22, od22, .func (PySem.W.fnOf "__mul__" "Value.__mul__" (defArgs s_Value___mul__) (defBody s_Value___mul__) (defScope s_Value___mul__) .none kV22 dc22 pm22 an22 cd22 ct22), sl22⟩) (c22 : PySem.W.codeIn K cd22 "Value.__mul__" = true) (k22 : PySem.W.keepIn K (.ref f_Value___mul__) = true)
    {od23 an23 : Option Addr} {sl23 : Array (Option Value)} {oc23 kV23 dc23 pm23 cd23 ct23 : Value}
    (l23 : K.lookup f_Value___rmul__ = some ⟨oc23, od23, .func (PySem.W.fnOf "__rmul__" "Value.__rmul__" (defArgs s_Value___rmul__) (defBody s_Value___rmul__) (defScope s_Value___rmul__) .none kV23 dc23 pm23 an23 cd23 ct23), sl23⟩) (c23 : PySem.W.codeIn K cd23 "Value.__rmul__" = true) (k23 : PySem.W.keepIn K (.ref f_Value___rmul__) = true)
    {od24 an24 : Option Addr} {sl24 : Array (Option Value)} {oc24 kV24 dc24 pm24 cd24 ct24 : Value}
    (l24 : K.lookup f_Value___sub__ = some ⟨oc24, od24, .func (PySem.W.fnOf "__sub__" "Value.__sub__" (defArgs s_Value___sub__) (defBody s_Value___sub__) (defScope s_Value___sub__) .none kV24 dc24 pm24 an24 cd24 ct24), sl24⟩) (c24 : PySem.W.codeIn K cd24 "Value.__sub__" = true) (k24 : PySem.W.keepIn K (.ref f_Value___sub__) = true)
    {od25 an25 : Option Addr} {sl25 : Array (Option Value)} {oc25 kV25 dc25 pm25 cd25 ct25 : Value}
    (l25 : K.lookup f_Value___rsub__ = some ⟨oc25, od25, .func (PySem.W.fnOf "__rsub__" "Value.__rsub__" (defArgs s_Value___rsub__) (defBody s_Value___rsub__) (defScope s_Value___rsub__) .none kV25 dc25 pm25 an25 cd25 ct25), sl25⟩) (c25 : PySem.W.codeIn K cd25 "Value.__rsub__" = true) (k25 : PySem.W.keepIn K (.ref f_Value___rsub__) = true)
    {od26 an26 : Option Addr} {sl26 : Array (Option Value)} {oc26 kV26 dc26 pm26 cd26 ct26 : Value}
    (l26 : K.lookup f_Value___neg__ = some ⟨oc26, od26, .func (PySem.W.fnOf "__neg__" "Value.__neg__" (defArgs s_Value___neg__) (defBody s_Value___neg__) (defScope s_Value___neg__) .none kV26 dc26 pm26 an26 cd26 ct26), sl26⟩) (c26 : PySem.W.codeIn K cd26 "Value.__neg__" = true) (k26 : PySem.W.keepIn K (.ref f_Value___neg__) = true)
    {od27 an27 : Option Addr} {sl27 : Array (Option Value)} {oc27 kV27 dc27 pm27 cd27 ct27 : Value}
    (l27 : K.lookup f_Value___lshift__ = some ⟨oc27, od27, .func (PySem.W.fnOf "__lshift__" "Value.__lshift__" (defArgs s_Value___lshift__) (defBody s_Value___lshift__) (defScope s_Value___lshift__) .none kV27 dc27 pm27 an27 cd27 ct27), sl27⟩) (c27 : PySem.W.codeIn K cd27 "Value.__lshift__" = true) (k27 : PySem.W.keepIn K (.ref f_Value___lshift__) = true)
    {od28 an28 : Option Addr} {sl28 : Array (Option Value)} {oc28 kV28 dc28 pm28 cd28 ct28 : Value}
    (l28 : K.lookup f_Value_fused = some ⟨oc28, od28, .func (PySem.W.fnOf "fused" "Value.fused" (defArgs s_Value_fused) (defBody s_Value_fused) (defScope s_Value_fused) .none kV28 dc28 pm28 an28 cd28 ct28), sl28⟩) (c28 : PySem.W.codeIn K cd28 "Value.fused" = true) (k28 : PySem.W.keepIn K (.ref f_Value_fused) = true)
    {f29 : Addr}
    {od29 an29 : Option Addr} {sl29 : Array (Option Value)} {oc29 kV29 dc29 pm29 cd29 ct29 : Value}
    (a29 : PySem.W.nsIn K mainGlobals "_law_value" = some (some (.ref f29)))
    (l29 : K.lookup f29 = some ⟨oc29, od29, .func (PySem.W.fnOf "_law_value" "_law_value" (defArgs s__law_value) (defBody s__law_value) (defScope s__law_value) .none kV29 dc29 pm29 an29 cd29 ct29), sl29⟩) (c29 : PySem.W.codeIn K cd29 "_law_value" = true) (k29 : PySem.W.keepIn K (.ref f29) = true)
    {f30 : Addr}
    {od30 an30 : Option Addr} {sl30 : Array (Option Value)} {oc30 kV30 dc30 pm30 cd30 ct30 : Value}
    (a30 : PySem.W.nsIn K mainGlobals "_law_made" = some (some (.ref f30)))
    (l30 : K.lookup f30 = some ⟨oc30, od30, .func (PySem.W.fnOf "_law_made" "_law_made" (defArgs s__law_made) (defBody s__law_made) (defScope s__law_made) .none kV30 dc30 pm30 an30 cd30 ct30), sl30⟩) (c30 : PySem.W.codeIn K cd30 "_law_made" = true) (k30 : PySem.W.keepIn K (.ref f30) = true)
    {od31 an31 : Option Addr} {sl31 : Array (Option Value)} {oc31 kV31 dc31 pm31 cd31 ct31 : Value}
    (l31 : K.lookup f_Value_program = some ⟨oc31, od31, .func (PySem.W.fnOf "program" "Value.program" (defArgs s_Value_program) (defBody s_Value_program) (defScope s_Value_program) .none kV31 dc31 pm31 an31 cd31 ct31), sl31⟩) (c31 : PySem.W.codeIn K cd31 "Value.program" = true) (k31 : PySem.W.keepIn K (.ref f_Value_program) = true)
    {f32 : Addr}
    {od32 an32 : Option Addr} {sl32 : Array (Option Value)} {oc32 kV32 dc32 pm32 cd32 ct32 : Value}
    (a32 : PySem.W.nsIn K mainGlobals "law" = some (some (.ref f32)))
    (l32 : K.lookup f32 = some ⟨oc32, od32, .func (PySem.W.fnOf "law" "law" (defArgs s_law) (defBody s_law) (defScope s_law) .none kV32 dc32 pm32 an32 cd32 ct32), sl32⟩) (c32 : PySem.W.codeIn K cd32 "law" = true) (k32 : PySem.W.keepIn K (.ref f32) = true)
    (z_abs : PySem.W.nsIn K mainGlobals "abs" = some none)
    (z_bool : PySem.W.nsIn K mainGlobals "bool" = some none)
    (z_int : PySem.W.nsIn K mainGlobals "int" = some none)
    (z_isinstance : PySem.W.nsIn K mainGlobals "isinstance" = some none)
    (z_len : PySem.W.nsIn K mainGlobals "len" = some none)
    (z_list : PySem.W.nsIn K mainGlobals "list" = some none)
    (z_range : PySem.W.nsIn K mainGlobals "range" = some none)
    (z_str : PySem.W.nsIn K mainGlobals "str" = some none)
    (z_tuple : PySem.W.nsIn K mainGlobals "tuple" = some none)
    (z_zip : PySem.W.nsIn K mainGlobals "zip" = some none)
    : ∃ (fd : FuncData) (c : Cs), (∀ (s : Shared) (u : Value), BindsTo s fd ⟨[u], []⟩ [("_law_script", u)]) ∧ ∀ base : Heap, K.In base → base.Ns mainGlobals mg → FnG l.prog w K mg base CX0 11 fa fd ["_law_script"] fun vs H Q _ => spM K 1 (fnM 1 12 (b_law c)) vs H Q E0 := by
  have e := hfa.symm.trans (PySem.W.mg_of X G a32)
  cases e
  have F0 := fun_mk (st := s__law_deck) l0 c0 k0
  have b0 := F0.binds (ps := P__law_deck) fun _ _ _ _ _ _ us hl => match us, hl with | [_], _ => rfl
  have F1 := fun_mk (st := s_Maker___init__) l1 c1 k1
  have b1 := F1.binds (ps := P_Maker___init__) fun _ _ _ _ _ _ us hl => match us, hl with | [_, _, _], _ => rfl
  have F2 := fun_mk (st := s__law_draw) l2 c2 k2
  have b2 := F2.binds (ps := P__law_draw) fun _ _ _ _ _ _ us hl => match us, hl with | [_, _], _ => rfl
  have F3 := fun_mk (st := s__law_one) l3 c3 k3
  have b3 := F3.binds (ps := P__law_one) fun _ _ _ _ _ _ us hl => match us, hl with | [_, _], _ => rfl
  have F4 := fun_mk (st := s__law_nodes) l4 c4 k4
  have b4 := F4.binds (ps := P__law_nodes) fun _ _ _ _ _ _ us hl => match us, hl with | [_, _, _, _], _ => rfl
  have F5 := fun_mk (st := s_Traits___init__) l5 c5 k5
  have b5 := StX.bind_star1 (B := fun us => bindArgs (PySem.W.fnOf "__init__" "Traits.__init__" (defArgs s_Traits___init__) (defBody s_Traits___init__) (defScope s_Traits___init__) .none kV5 dc5 pm5 an5 cd5 ct5) ⟨us, []⟩) (p1 := "self") (pv := "words") (fun a => rfl) (fun a r rs => rfl)
  have F6 := fun_mk (st := s__law_traits) l6 c6 k6
  have b6 := F6.binds (ps := P__law_traits) fun _ _ _ _ _ _ us hl => match us, hl with | [_], _ => rfl
  have F7 := fun_mk (st := s_Value___init__) l7 c7 k7
  have b7 := F7.binds (ps := P_Value___init__) fun _ _ _ _ _ _ us hl => match us, hl with | [_, _, _, _], _ => rfl
  have F8 := fun_mk (st := s_Maker___getitem__) l8 c8 k8
  have b8 := F8.binds (ps := P_Maker___getitem__) fun _ _ _ _ _ _ us hl => match us, hl with | [_, _], _ => rfl
  have F9 := fun_mk (st := s__law_put) l9 c9 k9
  have b9 := F9.binds (ps := P__law_put) fun _ _ _ _ _ _ us hl => match us, hl with | [_, _, _], _ => rfl
  have F10 := fun_mk (st := s__law_together) l10 c10 k10
  have b10 := F10.binds (ps := P__law_together) fun _ _ _ _ _ _ us hl => match us, hl with | [_, _], _ => rfl
  have F11 := fun_mk (st := s_put_rows) l11 c11 k11
  have b11 := F11.binds (ps := P_put_rows) fun _ _ _ _ _ _ us hl => match us, hl with | [_, _, _], _ => rfl
  have F12 := fun_mk (st := s_put_together) l12 c12 k12
  have b12 := F12.binds (ps := P_put_together) fun _ _ _ _ _ _ us hl => match us, hl with | [_], _ => rfl
  have F13 := fun_mk (st := s_Maker_joined) l13 c13 k13
  have b13 := StX.bind_star1 (B := fun us => bindArgs (PySem.W.fnOf "joined" "Maker.joined" (defArgs s_Maker_joined) (defBody s_Maker_joined) (defScope s_Maker_joined) .none kV13 dc13 pm13 an13 cd13 ct13) ⟨us, []⟩) (p1 := "self") (pv := "values") (fun a => rfl) (fun a r rs => rfl)
  have F14 := fun_mk (st := s__law_joined) l14 c14 k14
  have b14 := F14.binds (ps := P__law_joined) fun _ _ _ _ _ _ us hl => match us, hl with | [_, _], _ => rfl
  have F15 := fun_mk (st := s__law_same) l15 c15 k15
  have b15 := F15.binds (ps := P__law_same) fun _ _ _ _ _ _ us hl => match us, hl with | [_, _], _ => rfl
  have F16 := fun_mk (st := s__law_joined_right) l16 c16 k16
  have b16 := F16.binds (ps := P__law_joined_right) fun _ _ _ _ _ _ us hl => match us, hl with | [_, _, _, _, _], _ => rfl
  have F17 := fun_mk (st := s__law_row) l17 c17 k17
  have b17 := F17.binds (ps := P__law_row) fun _ _ _ _ _ _ us hl => match us, hl with | [_, _, _], _ => rfl
  have F18 := fun_mk (st := s__law_model) l18 c18 k18
  have b18 := F18.binds (ps := P__law_model) fun _ _ _ _ _ _ us hl => match us, hl with | [_, _, _], _ => rfl
  have F19 := fun_mk (st := s_with_row) l19 c19 k19
  have b19 := F19.binds (ps := P_with_row) fun _ _ _ _ _ _ us hl => match us, hl with | [_, _, _, _], _ => rfl
  have F20 := fun_mk (st := s_Value___add__) l20 c20 k20
  have b20 := F20.binds (ps := P_Value___add__) fun _ _ _ _ _ _ us hl => match us, hl with | [_, _], _ => rfl
  have F21 := fun_mk (st := s_Value___radd__) l21 c21 k21
  have b21 := F21.binds (ps := P_Value___radd__) fun _ _ _ _ _ _ us hl => match us, hl with | [_, _], _ => rfl
  have F22 := fun_mk (st := s_Value___mul__) l22 c22 k22
  have b22 := F22.binds (ps := P_Value___mul__) fun _ _ _ _ _ _ us hl => match us, hl with | [_, _], _ => rfl
  have F23 := fun_mk (st := s_Value___rmul__) l23 c23 k23
  have b23 := F23.binds (ps := P_Value___rmul__) fun _ _ _ _ _ _ us hl => match us, hl with | [_, _], _ => rfl
  have F24 := fun_mk (st := s_Value___sub__) l24 c24 k24
  have b24 := F24.binds (ps := P_Value___sub__) fun _ _ _ _ _ _ us hl => match us, hl with | [_, _], _ => rfl
  have F25 := fun_mk (st := s_Value___rsub__) l25 c25 k25
  have b25 := F25.binds (ps := P_Value___rsub__) fun _ _ _ _ _ _ us hl => match us, hl with | [_, _], _ => rfl
  have F26 := fun_mk (st := s_Value___neg__) l26 c26 k26
  have b26 := F26.binds (ps := P_Value___neg__) fun _ _ _ _ _ _ us hl => match us, hl with | [_], _ => rfl
  have F27 := fun_mk (st := s_Value___lshift__) l27 c27 k27
  have b27 := F27.binds (ps := P_Value___lshift__) fun _ _ _ _ _ _ us hl => match us, hl with | [_, _], _ => rfl
  have F28 := fun_mk (st := s_Value_fused) l28 c28 k28
  have b28 := F28.binds (ps := P_Value_fused) fun _ _ _ _ _ _ us hl => match us, hl with | [_, _, _], _ => rfl
  have F29 := fun_mk (st := s__law_value) l29 c29 k29
  have b29 := F29.binds (ps := P__law_value) fun _ _ _ _ _ _ us hl => match us, hl with | [_, _], _ => rfl
  have F30 := fun_mk (st := s__law_made) l30 c30 k30
  have b30 := F30.binds (ps := P__law_made) fun _ _ _ _ _ _ us hl => match us, hl with | [_, _], _ => rfl
  have F31 := fun_mk (st := s_Value_program) l31 c31 k31
  have b31 := F31.binds (ps := P_Value_program) fun _ _ _ _ _ _ us hl => match us, hl with | [_], _ => rfl
  have F32 := fun_mk (st := s_law) l32 c32 k32
  have b32 := F32.binds (ps := P_law) fun _ _ _ _ _ _ us hl => match us, hl with | [_], _ => rfl
  let A : Ad := ⟨f0, PySem.W.fnOf "_law_deck" "_law_deck" (defArgs s__law_deck) (defBody s__law_deck) (defScope s__law_deck) .none kV0 dc0 pm0 an0 cd0 ct0, f_Maker___init__, PySem.W.fnOf "__init__" "Maker.__init__" (defArgs s_Maker___init__) (defBody s_Maker___init__) (defScope s_Maker___init__) .none kV1 dc1 pm1 an1 cd1 ct1, f2, PySem.W.fnOf "_law_draw" "_law_draw" (defArgs s__law_draw) (defBody s__law_draw) (defScope s__law_draw) .none kV2 dc2 pm2 an2 cd2 ct2, f3, PySem.W.fnOf "_law_one" "_law_one" (defArgs s__law_one) (defBody s__law_one) (defScope s__law_one) .none kV3 dc3 pm3 an3 cd3 ct3, f4, PySem.W.fnOf "_law_nodes" "_law_nodes" (defArgs s__law_nodes) (defBody s__law_nodes) (defScope s__law_nodes) .none kV4 dc4 pm4 an4 cd4 ct4, f_Traits___init__, PySem.W.fnOf "__init__" "Traits.__init__" (defArgs s_Traits___init__) (defBody s_Traits___init__) (defScope s_Traits___init__) .none kV5 dc5 pm5 an5 cd5 ct5, f6, PySem.W.fnOf "_law_traits" "_law_traits" (defArgs s__law_traits) (defBody s__law_traits) (defScope s__law_traits) .none kV6 dc6 pm6 an6 cd6 ct6, f_Value___init__, PySem.W.fnOf "__init__" "Value.__init__" (defArgs s_Value___init__) (defBody s_Value___init__) (defScope s_Value___init__) .none kV7 dc7 pm7 an7 cd7 ct7, f_Maker___getitem__, PySem.W.fnOf "__getitem__" "Maker.__getitem__" (defArgs s_Maker___getitem__) (defBody s_Maker___getitem__) (defScope s_Maker___getitem__) .none kV8 dc8 pm8 an8 cd8 ct8, f9, PySem.W.fnOf "_law_put" "_law_put" (defArgs s__law_put) (defBody s__law_put) (defScope s__law_put) .none kV9 dc9 pm9 an9 cd9 ct9, f10, PySem.W.fnOf "_law_together" "_law_together" (defArgs s__law_together) (defBody s__law_together) (defScope s__law_together) .none kV10 dc10 pm10 an10 cd10 ct10, f11, PySem.W.fnOf "put_rows" "put_rows" (defArgs s_put_rows) (defBody s_put_rows) (defScope s_put_rows) .none kV11 dc11 pm11 an11 cd11 ct11, f12, PySem.W.fnOf "put_together" "put_together" (defArgs s_put_together) (defBody s_put_together) (defScope s_put_together) .none kV12 dc12 pm12 an12 cd12 ct12, f_Maker_joined, PySem.W.fnOf "joined" "Maker.joined" (defArgs s_Maker_joined) (defBody s_Maker_joined) (defScope s_Maker_joined) .none kV13 dc13 pm13 an13 cd13 ct13, f14, PySem.W.fnOf "_law_joined" "_law_joined" (defArgs s__law_joined) (defBody s__law_joined) (defScope s__law_joined) .none kV14 dc14 pm14 an14 cd14 ct14, f15, PySem.W.fnOf "_law_same" "_law_same" (defArgs s__law_same) (defBody s__law_same) (defScope s__law_same) .none kV15 dc15 pm15 an15 cd15 ct15, f16, PySem.W.fnOf "_law_joined_right" "_law_joined_right" (defArgs s__law_joined_right) (defBody s__law_joined_right) (defScope s__law_joined_right) .none kV16 dc16 pm16 an16 cd16 ct16, f17, PySem.W.fnOf "_law_row" "_law_row" (defArgs s__law_row) (defBody s__law_row) (defScope s__law_row) .none kV17 dc17 pm17 an17 cd17 ct17, f18, PySem.W.fnOf "_law_model" "_law_model" (defArgs s__law_model) (defBody s__law_model) (defScope s__law_model) .none kV18 dc18 pm18 an18 cd18 ct18, f19, PySem.W.fnOf "with_row" "with_row" (defArgs s_with_row) (defBody s_with_row) (defScope s_with_row) .none kV19 dc19 pm19 an19 cd19 ct19, f_Value___add__, PySem.W.fnOf "__add__" "Value.__add__" (defArgs s_Value___add__) (defBody s_Value___add__) (defScope s_Value___add__) .none kV20 dc20 pm20 an20 cd20 ct20, f_Value___radd__, PySem.W.fnOf "__radd__" "Value.__radd__" (defArgs s_Value___radd__) (defBody s_Value___radd__) (defScope s_Value___radd__) .none kV21 dc21 pm21 an21 cd21 ct21, f_Value___mul__, PySem.W.fnOf "__mul__" "Value.__mul__" (defArgs s_Value___mul__) (defBody s_Value___mul__) (defScope s_Value___mul__) .none kV22 dc22 pm22 an22 cd22 ct22, f_Value___rmul__, PySem.W.fnOf "__rmul__" "Value.__rmul__" (defArgs s_Value___rmul__) (defBody s_Value___rmul__) (defScope s_Value___rmul__) .none kV23 dc23 pm23 an23 cd23 ct23, f_Value___sub__, PySem.W.fnOf "__sub__" "Value.__sub__" (defArgs s_Value___sub__) (defBody s_Value___sub__) (defScope s_Value___sub__) .none kV24 dc24 pm24 an24 cd24 ct24, f_Value___rsub__, PySem.W.fnOf "__rsub__" "Value.__rsub__" (defArgs s_Value___rsub__) (defBody s_Value___rsub__) (defScope s_Value___rsub__) .none kV25 dc25 pm25 an25 cd25 ct25, f_Value___neg__, PySem.W.fnOf "__neg__" "Value.__neg__" (defArgs s_Value___neg__) (defBody s_Value___neg__) (defScope s_Value___neg__) .none kV26 dc26 pm26 an26 cd26 ct26, f_Value___lshift__, PySem.W.fnOf "__lshift__" "Value.__lshift__" (defArgs s_Value___lshift__) (defBody s_Value___lshift__) (defScope s_Value___lshift__) .none kV27 dc27 pm27 an27 cd27 ct27, f_Value_fused, PySem.W.fnOf "fused" "Value.fused" (defArgs s_Value_fused) (defBody s_Value_fused) (defScope s_Value_fused) .none kV28 dc28 pm28 an28 cd28 ct28, f29, PySem.W.fnOf "_law_value" "_law_value" (defArgs s__law_value) (defBody s__law_value) (defScope s__law_value) .none kV29 dc29 pm29 an29 cd29 ct29, f30, PySem.W.fnOf "_law_made" "_law_made" (defArgs s__law_made) (defBody s__law_made) (defScope s__law_made) .none kV30 dc30 pm30 an30 cd30 ct30, f_Value_program, PySem.W.fnOf "program" "Value.program" (defArgs s_Value_program) (defBody s_Value_program) (defScope s_Value_program) .none kV31 dc31 pm31 an31 cd31 ct31, fa, PySem.W.fnOf "law" "law" (defArgs s_law) (defBody s_law) (defScope s_law) .none kV32 dc32 pm32 an32 cd32 ct32, ⟨C_RoundError, C_TooLong, C_Value, C_Maker, C_Traits⟩, t_ci_MOST_ROWS, v0_ct_WORDS, v1_ct_WORDS, v2_ct_WORDS, v3_ct_WORDS, v4_ct_WORDS, fo_op_Value_Add, ro_op_Value_Add, rc_op_Value_Add, fo_op_Value_LShift, ro_op_Value_LShift, rc_op_Value_LShift, fo_op_Value_Mult, ro_op_Value_Mult, rc_op_Value_Mult, fo_op_Value_Sub, ro_op_Value_Sub, rc_op_Value_Sub, p_pr_Value_program, p_st_Value_fused⟩
  have T : Txt K mg A := ⟨⟨F0, PySem.W.mg_of X G a0, k0, b0⟩, ⟨F1, b1⟩, ⟨F2, PySem.W.mg_of X G a2, k2, b2⟩, ⟨F3, PySem.W.mg_of X G a3, k3, b3⟩, ⟨F4, PySem.W.mg_of X G a4, k4, b4⟩, ⟨F5, b5⟩, ⟨F6, PySem.W.mg_of X G a6, k6, b6⟩, ⟨F7, b7⟩, ⟨F8, b8⟩, ⟨F9, PySem.W.mg_of X G a9, k9, b9⟩, ⟨F10, PySem.W.mg_of X G a10, k10, b10⟩, ⟨F11, PySem.W.mg_of X G a11, k11, b11⟩, ⟨F12, PySem.W.mg_of X G a12, k12, b12⟩, ⟨F13, b13⟩, ⟨F14, PySem.W.mg_of X G a14, k14, b14⟩, ⟨F15, PySem.W.mg_of X G a15, k15, b15⟩, ⟨F16, PySem.W.mg_of X G a16, k16, b16⟩, ⟨F17, PySem.W.mg_of X G a17, k17, b17⟩, ⟨F18, PySem.W.mg_of X G a18, k18, b18⟩, ⟨F19, PySem.W.mg_of X G a19, k19, b19⟩, ⟨F20, b20⟩, ⟨F21, b21⟩, ⟨F22, b22⟩, ⟨F23, b23⟩, ⟨F24, b24⟩, ⟨F25, b25⟩, ⟨F26, b26⟩, ⟨F27, b27⟩, ⟨F28, b28⟩, ⟨F29, PySem.W.mg_of X G a29, k29, b29⟩, ⟨F30, PySem.W.mg_of X G a30, k30, b30⟩, ⟨F31, b31⟩, ⟨F32, PySem.W.mg_of X G a32, k32, b32⟩, PySem.W.mg_none_of X G z_abs, PySem.W.mg_none_of X G z_bool, PySem.W.mg_none_of X G z_int, PySem.W.mg_none_of X G z_isinstance, PySem.W.mg_none_of X G z_len, PySem.W.mg_none_of X G z_list, PySem.W.mg_none_of X G z_range, PySem.W.mg_none_of X G z_str, PySem.W.mg_none_of X G z_tuple, PySem.W.mg_none_of X G z_zip, PySem.W.mg_of X G h_mg_Maker, PySem.W.mg_of X G h_mg_RoundError, PySem.W.mg_of X G h_mg_TooLong, PySem.W.mg_of X G h_mg_Traits, PySem.W.mg_of X G h_mg_Value, PySem.W.mg_of X G h_ci_MOST_ROWS, ⟨h1_cl_Maker, h2_cl_Maker, h3_cl_Maker, h4_cl_Maker⟩, ⟨h1_cl_Traits, h2_cl_Traits, h3_cl_Traits, h4_cl_Traits⟩, ⟨h1_cl_Value, h2_cl_Value, h3_cl_Value, h4_cl_Value⟩, ⟨PySem.W.mg_of X G h1_ct_WORDS, h2_ct_WORDS, h3_ct_WORDS, h4_ct_WORDS⟩, ⟨h1_eqf_Maker, h2_eqf_Maker, h3_eqf_Maker⟩, ⟨h1_ex_TooLong, h2_ex_TooLong, h3_ex_TooLong, h4_ex_TooLong⟩, (ExM.cons (PySem.W.exm_ref h1_exm_TooLong h2_exm_TooLong h3_exm_TooLong h4_exm_TooLong) ExM.nil), ⟨⟨p1_isi_Value, p2_isi_Value, p3_isi_Value, p4_isi_Value⟩, h1_isi_Value, h2_isi_Value, h3_isi_Value, h4_isi_Value, h5_isi_Value, h6_isi_Value, h7_isi_Value, h8_isi_Value, h9_isi_Value, h10_isi_Value, h11_isi_Value, h12_isi_Value⟩, (fun D hD => by cases lk1 hD; exact ⟨⟨h1_isx_TooLong_RoundError, h2_isx_TooLong_RoundError, h3_isx_TooLong_RoundError, h4_isx_TooLong_RoundError, h5_isx_TooLong_RoundError, h6_isx_TooLong_RoundError, h7_isx_TooLong_RoundError, h8_isx_TooLong_RoundError⟩, h9_isx_TooLong_RoundError⟩), ⟨h1_me_Maker_joined, h2_me_Maker_joined, h3_me_Maker_joined⟩, ⟨h1_mk_Maker, h2_mk_Maker, h3_mk_Maker, h4_mk_Maker⟩, ⟨h1_mk_Traits, h2_mk_Traits, h3_mk_Traits, h4_mk_Traits⟩, ⟨h1_mk_Value, h2_mk_Value, h3_mk_Value, h4_mk_Value⟩, h1_na_Maker_inputs, h1_na_Maker_under, h1_na_Traits_held, h1_na_Value_maker, h1_na_Value_place, h1_na_Value_rows, ⟨by rw [h0_noi_Value_Add]; exact congrArg some h1_noi_Value_Add, h2_noi_Value_Add, h3_noi_Value_Add⟩, ⟨h1_om_Maker___getitem__, h2_om_Maker___getitem__⟩, ⟨h1_om_Value___neg__, h2_om_Value___neg__⟩, ⟨h1_op_Value_Add, h2_op_Value_Add, h3_op_Value_Add, h4_op_Value_Add, h5_op_Value_Add, h6_op_Value_Add, h7_op_Value_Add, h8_op_Value_Add⟩, ⟨h1_op_Value_LShift, h2_op_Value_LShift, h3_op_Value_LShift, h4_op_Value_LShift, h5_op_Value_LShift, h6_op_Value_LShift, h7_op_Value_LShift, h8_op_Value_LShift⟩, ⟨h1_op_Value_Mult, h2_op_Value_Mult, h3_op_Value_Mult, h4_op_Value_Mult, h5_op_Value_Mult, h6_op_Value_Mult, h7_op_Value_Mult, h8_op_Value_Mult⟩, ⟨h1_op_Value_Sub, h2_op_Value_Sub, h3_op_Value_Sub, h4_op_Value_Sub, h5_op_Value_Sub, h6_op_Value_Sub, h7_op_Value_Sub, h8_op_Value_Sub⟩, ⟨h1_opr_Value_Add, h2_opr_Value_Add, h3_opr_Value_Add⟩, ⟨h1_opr_Value_Mult, h2_opr_Value_Mult, h3_opr_Value_Mult⟩, ⟨h1_opr_Value_Sub, h2_opr_Value_Sub, h3_opr_Value_Sub⟩, ⟨h1_pr_Value_program, h2_pr_Value_program, h3_pr_Value_program, _, h4_pr_Value_program⟩, ⟨h1_st_Value_fused, h2_st_Value_fused, h3_st_Value_fused, ⟨_, h4_st_Value_fused⟩, h5_st_Value_fused⟩, h1_fi_Maker___getitem__⟩
  exact ⟨A.d_law, A.c, fun s v => .of_eq rfl, fun base _ _ => ok_law T⟩
theorem fin {l : PySem.W.OpenLaw} {w : World} {K : PySem.W.Frag} {mg : Str → Option Value} {fa : Addr} (hlaw : ∀ c : Cs, ∀ ns : List Int, ns.length ≤ 63 → ∃ S, fnM 1 12 (b_law c) [.kl (ns.map D.int)] [] = .ok (.bl true) S)
    (hh : ∃ (fd : FuncData) (c : Cs), (∀ (s : Shared) (u : Value), BindsTo s fd ⟨[u], []⟩ [("_law_script", u)]) ∧ ∀ base : Heap, K.In base → base.Ns mainGlobals mg → FnG l.prog w K mg base CX0 11 fa fd ["_law_script"] fun vs H Q _ => spM K 1 (fnM 1 12 (b_law c)) vs H Q E0) :
    ∃ fd : FuncData, (∀ (s : Shared) (u : Value), BindsTo s fd ⟨[u], []⟩ [("_law_script", u)]) ∧ ∃ b : MS, (∀ ns : List Int, ns.length ≤ 63 → ∃ S, fnM 1 12 b [.kl (ns.map D.int)] [] = .ok (.bl true) S) ∧
        ∀ base : Heap, K.In base → base.Ns mainGlobals mg → FnG l.prog w K mg base CX0 11 fa fd ["_law_script"] fun vs H Q _ => spM K 1 (fnM 1 12 b) vs H Q E0 :=
  let ⟨fd, c, h1, h2⟩ := hh
  ⟨fd, h1, (b_law c), hlaw c, h2⟩
end K71

open PySem PySem.W PyProof.Rows
set_option maxRecDepth 100000 in
set_option maxHeartbeats 0 in
theorem PySem.Challenge.cw_everyround_k71_rows_of_values_holds : PySem.Challenge.rw_everyround_k71_rows_of_values.Holds := by
  w_on; o_law; k_head; (case hw => w_witness2)
  k_fill
  refine Mo.walk_G (l := PySem.Challenge.rw_everyround_k71_rows_of_values) (k := 11) (np := 1) (nn := 12) (x := "_law_script") rfl rfl ⟨rfl, by decide, by decide⟩ (fun w h Y => PySem.W.kIn_of Y) ?F
  case F =>
    intro w mg fa h KX G hmg
    refine K71.fin (l := PySem.Challenge.rw_everyround_k71_rows_of_values) (w := w) K71.law_true ?_
    refine' K71.all_mk KX G hmg ?h_mg_Maker ?h_mg_RoundError ?h_mg_TooLong ?h_mg_Traits ?h_mg_Value ?h_ci_MOST_ROWS ?h1_cl_Maker ?h2_cl_Maker ?h3_cl_Maker ?h4_cl_Maker ?h1_cl_Traits ?h2_cl_Traits ?h3_cl_Traits ?h4_cl_Traits ?h1_cl_Value ?h2_cl_Value ?h3_cl_Value ?h4_cl_Value ?h1_ct_WORDS ?h2_ct_WORDS ?h3_ct_WORDS ?h4_ct_WORDS ?h1_eqf_Maker ?h2_eqf_Maker ?h3_eqf_Maker ?h1_ex_TooLong ?h2_ex_TooLong ?h3_ex_TooLong ?h4_ex_TooLong ?h1_exm_TooLong ?h2_exm_TooLong ?h3_exm_TooLong ?h4_exm_TooLong ?p1_isi_Value ?p2_isi_Value ?p3_isi_Value ?p4_isi_Value ?h1_isi_Value ?h2_isi_Value ?h3_isi_Value ?h4_isi_Value ?h5_isi_Value ?h6_isi_Value ?h7_isi_Value ?h8_isi_Value ?h9_isi_Value ?h10_isi_Value ?h11_isi_Value ?h12_isi_Value ?h1_isx_TooLong_RoundError ?h2_isx_TooLong_RoundError ?h3_isx_TooLong_RoundError ?h4_isx_TooLong_RoundError ?h5_isx_TooLong_RoundError ?h6_isx_TooLong_RoundError ?h7_isx_TooLong_RoundError ?h8_isx_TooLong_RoundError ?h9_isx_TooLong_RoundError ?h1_me_Maker_joined ?h2_me_Maker_joined ?h3_me_Maker_joined ?h1_mk_Maker ?h2_mk_Maker ?h3_mk_Maker ?h4_mk_Maker ?h1_mk_Traits ?h2_mk_Traits ?h3_mk_Traits ?h4_mk_Traits ?h1_mk_Value ?h2_mk_Value ?h3_mk_Value ?h4_mk_Value ?h1_na_Maker_inputs ?h1_na_Maker_under ?h1_na_Traits_held ?h1_na_Value_maker ?h1_na_Value_place ?h1_na_Value_rows ?h0_noi_Value_Add ?h1_noi_Value_Add ?h2_noi_Value_Add ?h3_noi_Value_Add ?h1_om_Maker___getitem__ ?h2_om_Maker___getitem__ ?h1_om_Value___neg__ ?h2_om_Value___neg__ ?h1_op_Value_Add ?h2_op_Value_Add ?h3_op_Value_Add ?h4_op_Value_Add ?h5_op_Value_Add ?h6_op_Value_Add ?h7_op_Value_Add ?h8_op_Value_Add ?h1_op_Value_LShift ?h2_op_Value_LShift ?h3_op_Value_LShift ?h4_op_Value_LShift ?h5_op_Value_LShift ?h6_op_Value_LShift ?h7_op_Value_LShift ?h8_op_Value_LShift ?h1_op_Value_Mult ?h2_op_Value_Mult ?h3_op_Value_Mult ?h4_op_Value_Mult ?h5_op_Value_Mult ?h6_op_Value_Mult ?h7_op_Value_Mult ?h8_op_Value_Mult ?h1_op_Value_Sub ?h2_op_Value_Sub ?h3_op_Value_Sub ?h4_op_Value_Sub ?h5_op_Value_Sub ?h6_op_Value_Sub ?h7_op_Value_Sub ?h8_op_Value_Sub ?h1_opr_Value_Add ?h2_opr_Value_Add ?h3_opr_Value_Add ?h1_opr_Value_Mult ?h2_opr_Value_Mult ?h3_opr_Value_Mult ?h1_opr_Value_Sub ?h2_opr_Value_Sub ?h3_opr_Value_Sub ?h1_pr_Value_program ?h2_pr_Value_program ?h3_pr_Value_program ?h4_pr_Value_program ?h1_st_Value_fused ?h2_st_Value_fused ?h3_st_Value_fused ?h4_st_Value_fused ?h5_st_Value_fused ?h1_fi_Maker___getitem__ ?a0 ?l0 ?c0 ?k0 ?l1 ?c1 ?k1 ?a2 ?l2 ?c2 ?k2 ?a3 ?l3 ?c3 ?k3 ?a4 ?l4 ?c4 ?k4 ?l5 ?c5 ?k5 ?a6 ?l6 ?c6 ?k6 ?l7 ?c7 ?k7 ?l8 ?c8 ?k8 ?a9 ?l9 ?c9 ?k9 ?a10 ?l10 ?c10 ?k10 ?a11 ?l11 ?c11 ?k11 ?a12 ?l12 ?c12 ?k12 ?l13 ?c13 ?k13 ?a14 ?l14 ?c14 ?k14 ?a15 ?l15 ?c15 ?k15 ?a16 ?l16 ?c16 ?k16 ?a17 ?l17 ?c17 ?k17 ?a18 ?l18 ?c18 ?k18 ?a19 ?l19 ?c19 ?k19 ?l20 ?c20 ?k20 ?l21 ?c21 ?k21 ?l22 ?c22 ?k22 ?l23 ?c23 ?k23 ?l24 ?c24 ?k24 ?l25 ?c25 ?k25 ?l26 ?c26 ?k26 ?l27 ?c27 ?k27 ?l28 ?c28 ?k28 ?a29 ?l29 ?c29 ?k29 ?a30 ?l30 ?c30 ?k30 ?l31 ?c31 ?k31 ?a32 ?l32 ?c32 ?k32 ?z_abs ?z_bool ?z_int ?z_isinstance ?z_len ?z_list ?z_range ?z_str ?z_tuple ?z_zip
    (case h_mg_Maker => k_is)
    (case h_mg_RoundError => k_is)
    (case h_mg_TooLong => k_is)
    (case h_mg_Traits => k_is)
    (case h_mg_Value => k_is)
    (case h_ci_MOST_ROWS => k_is)
    (case h1_cl_Maker => k_is)
    (case h2_cl_Maker => k_is)
    (case h3_cl_Maker => k_is)
    (case h4_cl_Maker => k_is)
    (case h1_cl_Traits => k_is)
    (case h2_cl_Traits => k_is)
    (case h3_cl_Traits => k_is)
    (case h4_cl_Traits => k_is)
    (case h1_cl_Value => k_is)
    (case h2_cl_Value => k_is)
    (case h3_cl_Value => k_is)
    (case h4_cl_Value => k_is)
    (case h1_ct_WORDS => k_is)
    (case h2_ct_WORDS => k_is)
    (case h3_ct_WORDS => rfl)
    (case h4_ct_WORDS => decide +kernel)
    (case h1_eqf_Maker => k_is)
    (case h2_eqf_Maker => k_is)
    (case h3_eqf_Maker => k_is)
    (case h1_ex_TooLong => k_exc)
    (case h2_ex_TooLong => k_is)
    (case h3_ex_TooLong => k_is)
    (case h4_ex_TooLong => k_is)
    (case h1_exm_TooLong => k_is)
    (case h2_exm_TooLong => k_is)
    (case h3_exm_TooLong => k_is)
    (case h4_exm_TooLong => k_is)
    (case p1_isi_Value => k_is)
    (case p2_isi_Value => k_is)
    (case p3_isi_Value => k_is)
    (case p4_isi_Value => k_is)
    (case h1_isi_Value => k_is)
    (case h2_isi_Value => k_is)
    (case h3_isi_Value => k_is)
    (case h4_isi_Value => k_is)
    (case h5_isi_Value => kit_is)
    (case h6_isi_Value => kit_is)
    (case h7_isi_Value => kit_is)
    (case h8_isi_Value => kit_is)
    (case h9_isi_Value => kit_is)
    (case h10_isi_Value => kit_is)
    (case h11_isi_Value => kit_is)
    (case h12_isi_Value => kit_is)
    (case h1_isx_TooLong_RoundError => k_is)
    (case h2_isx_TooLong_RoundError => k_is)
    (case h3_isx_TooLong_RoundError => k_is)
    (case h4_isx_TooLong_RoundError => k_is)
    (case h5_isx_TooLong_RoundError => k_is)
    (case h6_isx_TooLong_RoundError => k_is)
    (case h7_isx_TooLong_RoundError => k_is)
    (case h8_isx_TooLong_RoundError => k_is)
    (case h9_isx_TooLong_RoundError => kit_is)
    (case h1_me_Maker_joined => k_is)
    (case h2_me_Maker_joined => k_is)
    (case h3_me_Maker_joined => k_is)
    (case h1_mk_Maker => k_is)
    (case h2_mk_Maker => k_is)
    (case h3_mk_Maker => k_is)
    (case h4_mk_Maker => k_is)
    (case h1_mk_Traits => k_is)
    (case h2_mk_Traits => k_is)
    (case h3_mk_Traits => k_is)
    (case h4_mk_Traits => k_is)
    (case h1_mk_Value => k_is)
    (case h2_mk_Value => k_is)
    (case h3_mk_Value => k_is)
    (case h4_mk_Value => k_is)
    (case h1_na_Maker_inputs => k_is)
    (case h1_na_Maker_under => k_is)
    (case h1_na_Traits_held => k_is)
    (case h1_na_Value_maker => k_is)
    (case h1_na_Value_place => k_is)
    (case h1_na_Value_rows => k_is)
    (case h0_noi_Value_Add => k_is)
    (case h1_noi_Value_Add => rfl)
    (case h2_noi_Value_Add => k_is)
    (case h3_noi_Value_Add => k_is)
    (case h1_om_Maker___getitem__ => k_is)
    (case h2_om_Maker___getitem__ => k_is)
    (case h1_om_Value___neg__ => k_is)
    (case h2_om_Value___neg__ => k_is)
    (case h1_op_Value_Add => k_is)
    (case h2_op_Value_Add => k_is)
    (case h3_op_Value_Add => k_is)
    (case h4_op_Value_Add => k_is)
    (case h5_op_Value_Add => first | exact .inl rfl | exact .inr ⟨_, rfl⟩)
    (case h6_op_Value_Add => k_is)
    (case h7_op_Value_Add => k_is)
    (case h8_op_Value_Add => k_is)
    (case h1_op_Value_LShift => k_is)
    (case h2_op_Value_LShift => k_is)
    (case h3_op_Value_LShift => k_is)
    (case h4_op_Value_LShift => k_is)
    (case h5_op_Value_LShift => first | exact .inl rfl | exact .inr ⟨_, rfl⟩)
    (case h6_op_Value_LShift => k_is)
    (case h7_op_Value_LShift => k_is)
    (case h8_op_Value_LShift => k_is)
    (case h1_op_Value_Mult => k_is)
    (case h2_op_Value_Mult => k_is)
    (case h3_op_Value_Mult => k_is)
    (case h4_op_Value_Mult => k_is)
    (case h5_op_Value_Mult => first | exact .inl rfl | exact .inr ⟨_, rfl⟩)
    (case h6_op_Value_Mult => k_is)
    (case h7_op_Value_Mult => k_is)
    (case h8_op_Value_Mult => k_is)
    (case h1_op_Value_Sub => k_is)
    (case h2_op_Value_Sub => k_is)
    (case h3_op_Value_Sub => k_is)
    (case h4_op_Value_Sub => k_is)
    (case h5_op_Value_Sub => first | exact .inl rfl | exact .inr ⟨_, rfl⟩)
    (case h6_op_Value_Sub => k_is)
    (case h7_op_Value_Sub => k_is)
    (case h8_op_Value_Sub => k_is)
    (case h1_opr_Value_Add => k_is)
    (case h2_opr_Value_Add => k_is)
    (case h3_opr_Value_Add => k_is)
    (case h1_opr_Value_Mult => k_is)
    (case h2_opr_Value_Mult => k_is)
    (case h3_opr_Value_Mult => k_is)
    (case h1_opr_Value_Sub => k_is)
    (case h2_opr_Value_Sub => k_is)
    (case h3_opr_Value_Sub => k_is)
    (case h1_pr_Value_program => k_is)
    (case h2_pr_Value_program => k_is)
    (case h3_pr_Value_program => k_is)
    (case h4_pr_Value_program => k_is)
    (case h1_st_Value_fused => k_is)
    (case h2_st_Value_fused => k_is)
    (case h3_st_Value_fused => k_is)
    (case h4_st_Value_fused => k_is)
    (case h5_st_Value_fused => k_is)
    (case h1_fi_Maker___getitem__ => k_is)
    (case a0 => k_is)
    (case l0 => k_is)
    (case c0 => k_is)
    (case k0 => k_is)
    (case l1 => k_is)
    (case c1 => k_is)
    (case k1 => k_is)
    (case a2 => k_is)
    (case l2 => k_is)
    (case c2 => k_is)
    (case k2 => k_is)
    (case a3 => k_is)
    (case l3 => k_is)
    (case c3 => k_is)
    (case k3 => k_is)
    (case a4 => k_is)
    (case l4 => k_is)
    (case c4 => k_is)
    (case k4 => k_is)
    (case l5 => k_is)
    (case c5 => k_is)
    (case k5 => k_is)
    (case a6 => k_is)
    (case l6 => k_is)
    (case c6 => k_is)
    (case k6 => k_is)
    (case l7 => k_is)
    (case c7 => k_is)
    (case k7 => k_is)
    (case l8 => k_is)
    (case c8 => k_is)
    (case k8 => k_is)
    (case a9 => k_is)
    (case l9 => k_is)
    (case c9 => k_is)
    (case k9 => k_is)
    (case a10 => k_is)
    (case l10 => k_is)
    (case c10 => k_is)
    (case k10 => k_is)
    (case a11 => k_is)
    (case l11 => k_is)
    (case c11 => k_is)
    (case k11 => k_is)
    (case a12 => k_is)
    (case l12 => k_is)
    (case c12 => k_is)
    (case k12 => k_is)
    (case l13 => k_is)
    (case c13 => k_is)
    (case k13 => k_is)
    (case a14 => k_is)
    (case l14 => k_is)
    (case c14 => k_is)
    (case k14 => k_is)
    (case a15 => k_is)
    (case l15 => k_is)
    (case c15 => k_is)
    (case k15 => k_is)
    (case a16 => k_is)
    (case l16 => k_is)
    (case c16 => k_is)
    (case k16 => k_is)
    (case a17 => k_is)
    (case l17 => k_is)
    (case c17 => k_is)
    (case k17 => k_is)
    (case a18 => k_is)
    (case l18 => k_is)
    (case c18 => k_is)
    (case k18 => k_is)
    (case a19 => k_is)
    (case l19 => k_is)
    (case c19 => k_is)
    (case k19 => k_is)
    (case l20 => k_is)
    (case c20 => k_is)
    (case k20 => k_is)
    (case l21 => k_is)
    (case c21 => k_is)
    (case k21 => k_is)
    (case l22 => k_is)
    (case c22 => k_is)
    (case k22 => k_is)
    (case l23 => k_is)
    (case c23 => k_is)
    (case k23 => k_is)
    (case l24 => k_is)
    (case c24 => k_is)
    (case k24 => k_is)
    (case l25 => k_is)
    (case c25 => k_is)
    (case k25 => k_is)
    (case l26 => k_is)
    (case c26 => k_is)
    (case k26 => k_is)
    (case l27 => k_is)
    (case c27 => k_is)
    (case k27 => k_is)
    (case l28 => k_is)
    (case c28 => k_is)
    (case k28 => k_is)
    (case a29 => k_is)
    (case l29 => k_is)
    (case c29 => k_is)
    (case k29 => k_is)
    (case a30 => k_is)
    (case l30 => k_is)
    (case c30 => k_is)
    (case k30 => k_is)
    (case l31 => k_is)
    (case c31 => k_is)
    (case k31 => k_is)
    (case a32 => k_is)
    (case l32 => k_is)
    (case c32 => k_is)
    (case k32 => k_is)
    (case z_abs => k_is)
    (case z_bool => k_is)
    (case z_int => k_is)
    (case z_isinstance => k_is)
    (case z_len => k_is)
    (case z_list => k_is)
    (case z_range => k_is)
    (case z_str => k_is)
    (case z_tuple => k_is)
    (case z_zip => k_is)

