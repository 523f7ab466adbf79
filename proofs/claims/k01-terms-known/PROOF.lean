import PyProof.Rows.All
import Wide.All
import OpenK.AllK
import Wide.FinOn
import HandS.ForMost
import HandS.ForExc
import HandS.IsInst
import HandS.TupAny
import HandS.Wide
import HandS.Flow
import HandS.Small
import HandS.CallSlots
import HandS.WideBits
import HandS.TupMul
import HandS.CallLocal
import HandS.More
import PySem.Challenge.RW_plainshown_k01_terms_known
set_option Elab.async false
set_option linter.all false
set_option maxRecDepth 100000
set_option maxHeartbeats 4000000
/-! Qa: data as values, a mirror's monad, what a piece of Python text does to them. -/
namespace Q
open PySem L2

/-- built-in types -/
inductive Ty where
  | non | bool | int | str | tuple | list | dict
  deriving DecidableEq
def Ty.name : Ty → String
  | .non => "NoneType" | .bool => "bool" | .int => "int" | .str => "str" | .tuple => "tuple" | .list => "list" | .dict => "dict"
/-- data, as values -/
inductive D where
  | non | bl (b : Bool) | int (i : Int) | str (x : Str)
  | tup (ds : List D) | lst (ds : List D) | dct (ks : List Key) (ds : List D)
  | pot | fn (a : Addr) | ty (t : Ty)

/-- the pot: a list of three ints that calls may change -/
structure MS where
  a : Int
  b : Int
  c : Int

inductive R (α : Type) where
  | ok (x : α) (ms : MS)
  | ex (c : Str) (ms : MS)
  | bad
abbrev M (α : Type) := MS → R α
def R.bind {α β : Type} (r : R α) (f : α → M β) : R β := match r with
  | .ok x ms => f x ms
  | .ex c ms => .ex c ms
  | .bad => .bad
def R.map {α β : Type} (f : α → β) (r : R α) : R β := match r with
  | .ok x ms => .ok (f x) ms
  | .ex c ms => .ex c ms
  | .bad => .bad
@[simp] theorem R.bind_ok {α β : Type} (x : α) (ms : MS) (f : α → M β) : (R.ok x ms).bind f = f x ms := rfl
@[simp] theorem R.bind_ex {α β : Type} (c : Str) (ms : MS) (f : α → M β) : (R.ex (α := α) c ms).bind f = .ex c ms := rfl
@[simp] theorem R.bind_bad {α β : Type} (f : α → M β) : (R.bad (α := α)).bind f = .bad := rfl
@[simp] theorem R.map_ok {α β : Type} (x : α) (ms : MS) (f : α → β) : (R.ok x ms).map f = .ok (f x) ms := rfl
@[simp] theorem R.map_ex {α β : Type} (c : Str) (ms : MS) (f : α → β) : (R.ex (α := α) c ms).map f = .ex c ms := rfl
@[simp] theorem R.map_bad {α β : Type} (f : α → β) : (R.bad (α := α)).map f = .bad := rfl

inductive SV where
  | dat (d : D)
  | own (ds : List D)
abbrev SS := List (Option SV)

/-! ### values in the heap -/
mutual
inductive Dt (K : PySem.W.Frag) (p : Option Addr) (F : Hp) : V → D → Prop
  | non : Dt K p F .non .non
  | bl (b : Bool) : Dt K p F (.bl b) (.bl b)
  | int (i : Int) : Dt K p F (.int i) (.int i)
  | str (x : Str) : Dt K p F (.str x) (.str x)
  | tup {a : Addr} {xs : List V} {ds : List D} : SqT K F a xs → Dts K p F xs ds → Dt K p F (.ref a) (.tup ds)
  | lst {a : Addr} {xs : List V} {ds : List D} : SqL K F a xs → Dts K p F xs ds → Dt K p F (.ref a) (.lst ds)
  | dct {a : Addr} {ks : List Key} {xs : List V} {ds : List D} : Rd F a (.dK (ks.zip xs)) → ks.length = xs.length → Dts K p F xs ds → Dt K p F (.ref a) (.dct ks ds)
  | pot {a : Addr} : p = some a → Dt K p F (.ref a) .pot
  | fn {a : Addr} : Dt K p F (.ref a) (.fn a)
  | ty {t : Ty} : Dt K p F (.ty t.name) (.ty t)
inductive Dts (K : PySem.W.Frag) (p : Option Addr) (F : Hp) : List V → List D → Prop
  | nil : Dts K p F [] []
  | cons {v : V} {vs : List V} {d : D} {ds : List D} : Dt K p F v d → Dts K p F vs ds → Dts K p F (v :: vs) (d :: ds)
end

theorem same_rd {H H' : Hp} {a : Addr} {u : HO} (e : Same H H') (h : Rd H a u) : Rd H' a u := by
  rcases h with h | ⟨o, h⟩
  · exact Or.inl (e a _ h)
  · exact Or.inr ⟨o, e a _ h⟩
theorem same_t {K : PySem.W.Frag} {H H' : Hp} {a : Addr} {xs : List V} (e : Same H H') (h : SqT K H a xs) : SqT K H' a xs := by
  rcases h with h | h
  · exact Or.inl (same_rd e h)
  · exact Or.inr h
theorem same_l {K : PySem.W.Frag} {H H' : Hp} {a : Addr} {xs : List V} (e : Same H H') (h : SqL K H a xs) : SqL K H' a xs := by
  rcases h with h | h
  · exact Or.inl (same_rd e h)
  · exact Or.inr h

section
variable {K : PySem.W.Frag} {p : Option Addr} {F F' : Hp}
mutual
theorem Dt.mono (e : Same F F') : ∀ {v : V} {d : D}, Dt K p F v d → Dt K p F' v d
  | _, _, .non => .non
  | _, _, .bl b => .bl b
  | _, _, .int i => .int i
  | _, _, .str x => .str x
  | _, _, .tup h r => .tup (same_t e h) (Dts.mono e r)
  | _, _, .lst h r => .lst (same_l e h) (Dts.mono e r)
  | _, _, .dct h l r => .dct (same_rd e h) l (Dts.mono e r)
  | _, _, .pot h => .pot h
  | _, _, .fn => .fn
  | _, _, .ty => .ty
theorem Dts.mono (e : Same F F') : ∀ {vs : List V} {ds : List D}, Dts K p F vs ds → Dts K p F' vs ds
  | _, _, .nil => .nil
  | _, _, .cons h r => .cons (Dt.mono e h) (Dts.mono e r)
end
theorem Dts.length : ∀ {vs : List V} {ds : List D}, Dts K p F vs ds → vs.length = ds.length
  | _, _, .nil => rfl
  | _, _, .cons _ r => congrArg (· + 1) (Dts.length r)
theorem Dts.get : ∀ {vs : List V} {ds : List D} {i : Nat} {d : D}, Dts K p F vs ds → ds[i]? = some d → ∃ v, vs[i]? = some v ∧ Dt K p F v d
  | _, _, _, _, .nil, e => by simp at e
  | _, _, 0, _, .cons h _, e => by
    simp at e
    subst e
    exact ⟨_, rfl, h⟩
  | _, _, i + 1, d, .cons _ r, e => by
    obtain ⟨u, h1, h2⟩ := Dts.get (i := i) (d := d) r (by simpa using e)
    exact ⟨u, by simpa using h1, h2⟩
theorem Dts.append : ∀ {vs us : List V} {ds es : List D}, Dts K p F vs ds → Dts K p F us es → Dts K p F (vs ++ us) (ds ++ es)
  | _, _, _, _, .nil, s => s
  | _, _, _, _, .cons h r, s => .cons h (Dts.append r s)
theorem Dts.take : ∀ {vs : List V} {ds : List D} (n : Nat), Dts K p F vs ds → Dts K p F (vs.take n) (ds.take n)
  | _, _, 0, _ => .nil
  | _, _, _ + 1, .nil => .nil
  | _, _, n + 1, .cons h r => .cons h (Dts.take n r)
theorem Dts.drop : ∀ {vs : List V} {ds : List D} (n : Nat), Dts K p F vs ds → Dts K p F (vs.drop n) (ds.drop n)
  | _, _, 0, r => r
  | _, _, _ + 1, .nil => .nil
  | _, _, n + 1, .cons _ r => Dts.drop n r
theorem Dts.set {v : V} {d : D} (q : Dt K p F v d) : ∀ {vs : List V} {ds : List D} (n : Nat), Dts K p F vs ds → Dts K p F (vs.set n v) (ds.set n d)
  | _, _, _, .nil => .nil
  | _, _, 0, .cons _ r => .cons q r
  | _, _, n + 1, .cons h r => .cons h (Dts.set q n r)
theorem Dts.snoc {v : V} {d : D} {vs : List V} {ds : List D} (r : Dts K p F vs ds) (q : Dt K p F v d) : Dts K p F (vs ++ [v]) (ds ++ [d]) := r.append (.cons q .nil)
end

def PotAt (H : Hp) (p : Option Addr) (ms : MS) : Prop := ∀ a, p = some a → H a = some (.lst [.int ms.a, .int ms.b, .int ms.c])

/-- how the heap H over the frozen part F stands -/
structure Hs (p : Option Addr) (F H : Hp) (ms : MS) : Prop where
  fh : Same F H
  pot : PotAt H p ms
  pf : ∀ a, p = some a → F a = none

/-- a step from (H, F) to (H', F') : the frozen part grows by new things alone, all but the pot stays -/
structure Ext (p : Option Addr) (H F H' F' : Hp) (ms' : MS) : Prop where
  ff : Same F F'
  nf : ∀ b o, H b = some o → F b = none → F' b = none
  kp : ∀ b o, H b = some o → p ≠ some b → H' b = some o
  hs : Hs p F' H' ms'

theorem Ext.refl {p : Option Addr} {F H : Hp} {ms : MS} (h : Hs p F H ms) : Ext p H F H F ms := ⟨Same.refl F, fun _ _ _ q => q, fun _ _ q _ => q, h⟩
theorem Ext.trans {p : Option Addr} {H F H1 F1 H2 F2 : Hp} {ms1 ms2 : MS} (a : Ext p H F H1 F1 ms1) (b : Ext p H1 F1 H2 F2 ms2) : Ext p H F H2 F2 ms2 :=
  ⟨a.ff.trans b.ff, fun c o h q => by
    have q1 := a.nf c o h q
    by_cases e : p = some c
    · exact b.nf c _ (a.hs.pot c e) q1
    · exact b.nf c o (a.kp c o h e) q1, fun c o h e => b.kp c o (a.kp c o h e) e, b.hs⟩
/-- a new object, frozen -/
theorem Ext.new {p : Option Addr} {F H : Hp} {ms : MS} {q : Addr} {o : HO} (h : Hs p F H ms) (hq : H q = none) : Ext p H F (upd H q o) (upd F q o) ms := by
  have fq : F q = none := by
    cases e : F q with
    | none => rfl
    | some u => rw [h.fh q u e] at hq; cases hq
  have np : ∀ a, p = some a → a ≠ q := fun a e z => by
    have := h.pot a e
    rw [z, hq] at this
    cases this
  refine ⟨fun b u e => by rw [upd_ne (ne_of_none e fq)]; exact e, fun b u hb hf => by rw [upd_ne (ne_of_none hb hq)]; exact hf, fun b u hb _ => by rw [upd_ne (ne_of_none hb hq)]; exact hb, ?_, ?_, ?_⟩
  · intro b u e
    by_cases z : b = q
    · subst z
      rw [upd_same] at e ⊢
      exact e
    · rw [upd_ne z] at e ⊢
      exact h.fh b u e
  · intro a e
    rw [upd_ne (np a e)]
    exact h.pot a e
  · intro a e
    rw [upd_ne (np a e)]
    exact h.pf a e

/-- a value read for the moment: frozen, or a list of frozen things that stands in H -/
inductive Bw (K : PySem.W.Frag) (p : Option Addr) (F H : Hp) : V → D → Prop
  | fz {v : V} {d : D} : Dt K p F v d → Bw K p F H v d
  | own {a : Addr} {xs : List V} {ds : List D} : H a = some (.lst xs) → p ≠ some a → Dts K p F xs ds → Bw K p F H (.ref a) (.lst ds)
theorem Bw.ext {K : PySem.W.Frag} {p : Option Addr} {H F H' F' : Hp} {ms' : MS} {v : V} {d : D} (e : Ext p H F H' F' ms') (b : Bw K p F H v d) : Bw K p F' H' v d := by
  cases b with
  | fz h => exact .fz (h.mono e.ff)
  | own h n r => exact .own (e.kp _ _ h n) n (r.mono e.ff)

/-! ### slots -/
def SlOk (K : PySem.W.Frag) (p : Option Addr) (B F H : Hp) (v : Option V) : Option SV → Prop
  | none => True
  | some (.dat d) => ∃ u, v = some u ∧ Dt K p F u d
  | some (.own ds) => ∃ a xs, v = some (.ref a) ∧ H a = some (.lst xs) ∧ F a = none ∧ B a = none ∧ p ≠ some a ∧ Dts K p F xs ds
structure Sl (K : PySem.W.Frag) (p : Option Addr) (B F H : Hp) (σ : L2.St) (ss : SS) : Prop where
  len : σ.length = ss.length
  ok : ∀ (i : Nat) (s : Option SV) (v : Option V), ss[i]? = some s → σ[i]? = some v → SlOk K p B F H v s
  ap : ∀ (i j : Nat) (a : Addr) (ds es : List D), ss[i]? = some (some (.own ds)) → ss[j]? = some (some (.own es)) → σ[i]? = some (some (.ref a)) → σ[j]? = some (some (.ref a)) → i = j
theorem Sl.ext {K : PySem.W.Frag} {p : Option Addr} {B H F H' F' : Hp} {ms' : MS} {σ : L2.St} {ss : SS} (e : Ext p H F H' F' ms') (s : Sl K p B F H σ ss) : Sl K p B F' H' σ ss := by
  refine ⟨s.len, fun i sv v h1 h2 => ?_, s.ap⟩
  have q := s.ok i sv v h1 h2
  match sv, q with
  | none, _ => trivial
  | some (.dat d), ⟨u, e1, q⟩ => exact ⟨u, e1, q.mono e.ff⟩
  | some (.own ds), ⟨a, xs, e1, h, hf, hb, n, r⟩ => exact ⟨a, xs, e1, e.kp _ _ h n, e.nf _ _ h hf, hb, n, r.mono e.ff⟩
end Q

set_option Elab.async false
set_option linter.all false
set_option maxRecDepth 100000
set_option maxHeartbeats 4000000
/-! Qb: judgements of expressions over data. -/
namespace Q
open PySem L2

section
variable {α β γ δ : Type}
/-- what is wanted behind a mirror's answer -/
def Po (mg : Str → Option Value) (W : WX) (p : Option Addr) (σ : L2.St) (H F : Hp) (rel : Hp → Hp → β → α → Prop) (r : R α) (Q : β → Hp → Prop) : Prop := match r with
  | .ok x ms' => ∀ v H' F', Ext p H F H' F' ms' → rel F' H' v x → Q v H'
  | .ex c ms' => ∀ u, mg c = some u → ∀ H' F', Ext p H F H' F' ms' → W u none σ H'
  | .bad => False
variable {mg : Str → Option Value} {W : WX} {p : Option Addr} {σ : L2.St} {H F H1 F1 : Hp} {ms1 : MS}
theorem Po.ext {rel : Hp → Hp → β → α → Prop} {r : R α} {Q : β → Hp → Prop} (e : Ext p H F H1 F1 ms1) (h : Po mg W p σ H F rel r Q) : Po mg W p σ H1 F1 rel r Q := by
  cases r with
  | ok x ms' => exact fun v H' F' e' q => h v H' F' (e.trans e') q
  | ex c ms' => exact fun u hu H' F' e' => h u hu H' F' (e.trans e')
  | bad => exact h
theorem Po.bind {rel1 : Hp → Hp → γ → δ → Prop} {rel2 : Hp → Hp → β → α → Prop} {r : R δ} {f : δ → M α} {Q : β → Hp → Prop} {C : γ → Hp → Prop} (h : Po mg W p σ H F rel2 (r.bind f) Q)
    (k : ∀ x ms1 v H1 F1, Ext p H F H1 F1 ms1 → rel1 F1 H1 v x → Po mg W p σ H1 F1 rel2 (f x ms1) Q → C v H1) : Po mg W p σ H F rel1 r C := by
  cases r with
  | ok x ms' => exact fun v H' F' e q => k x ms' v H' F' e q (Po.ext e h)
  | ex c ms' => exact h
  | bad => exact h
theorem Po.mono {rel : Hp → Hp → β → α → Prop} {r : R α} {Q Q' : β → Hp → Prop} (h : Po mg W p σ H F rel r Q) (k : ∀ v H', Q v H' → Q' v H') : Po mg W p σ H F rel r Q' := by
  cases r with
  | ok x ms' => exact fun v H' F' e q => k _ _ (h v H' F' e q)
  | ex c ms' => exact h
  | bad => exact h
theorem Po.ok {rel : Hp → Hp → β → α → Prop} {x : α} {ms : MS} {Q : β → Hp → Prop} {v : β} (h : Po mg W p σ H F rel (.ok x ms) Q) (hs : Hs p F H ms) (q : rel F H v x) : Q v H := h v H F (Ext.refl hs) q
theorem Po.new {rel : Hp → Hp → β → α → Prop} {x : α} {ms : MS} {Q : β → Hp → Prop} {v : β} {a : Addr} {o : HO} (h : Po mg W p σ H F rel (.ok x ms) Q) (hs : Hs p F H ms) (ha : H a = none) (q : rel (upd F a o) (upd H a o) v x) : Q v (upd H a o) :=
  h v _ _ (Ext.new hs ha) q
end

abbrev relD (K : PySem.W.Frag) (p : Option Addr) : Hp → Hp → V → D → Prop := fun F _ v d => Dt K p F v d
abbrev relB (K : PySem.W.Frag) (p : Option Addr) : Hp → Hp → V → D → Prop := fun F H v d => Bw K p F H v d
abbrev relA (K : PySem.W.Frag) (p : Option Addr) : Hp → Hp → List V → List D → Prop := fun F _ vs ds => Dts K p F vs ds
abbrev relT : Hp → Hp → Bool → Bool → Prop := fun _ _ a b => a = b

/-- an expression gives what the mirror gives -/
def JE (X : Cx) (W : WX) (e : Expr) (m : SS → M D) : Prop := ∃ t, PE X e t ∧ ∀ (p : Option Addr) (B : Hp) (σ : L2.St) (ss : SS) (H F : Hp) (ms : MS) (Q : VK),
  Sl X.K p B F H σ ss → Hs p F H ms → Po X.mg W p σ H F (relD X.K p) (m ss ms) Q → t σ H Q
/-- .. for the moment -/
def JB (X : Cx) (W : WX) (e : Expr) (m : SS → M D) : Prop := ∃ t, PE X e t ∧ ∀ (p : Option Addr) (B : Hp) (σ : L2.St) (ss : SS) (H F : Hp) (ms : MS) (Q : VK),
  Sl X.K p B F H σ ss → Hs p F H ms → Po X.mg W p σ H F (relB X.K p) (m ss ms) Q → t σ H Q
/-- a test -/
def JT (X : Cx) (W : WX) (e : Expr) (m : SS → M Bool) : Prop := ∃ t, PT X e t ∧ ∀ (p : Option Addr) (B : Hp) (σ : L2.St) (ss : SS) (H F : Hp) (ms : MS) (Q : Bool → Hp → Prop),
  Sl X.K p B F H σ ss → Hs p F H ms → Po X.mg W p σ H F relT (m ss ms) Q → t σ H Q
def JW (X : Cx) (W : WX) (e : Expr) (m : SS → M Bool) : Prop := ∃ t, PW X e t ∧ ∀ (p : Option Addr) (B : Hp) (σ : L2.St) (ss : SS) (H F : Hp) (ms : MS) (Q : Bool → Hp → Prop),
  Sl X.K p B F H σ ss → Hs p F H ms → Po X.mg W p σ H F relT (m ss ms) Q → t σ H Q
/-- arguments -/
def JA (X : Cx) (W : WX) (es : List Expr) (m : SS → M (List D)) : Prop := ∃ t, PA X es t ∧ ∀ (p : Option Addr) (B : Hp) (σ : L2.St) (ss : SS) (H F : Hp) (ms : MS) (Q : List V → Hp → Prop),
  Sl X.K p B F H σ ss → Hs p F H ms → Po X.mg W p σ H F (relA X.K p) (m ss ms) Q → t σ H Q

/-! ### the mirror's words -/
namespace E
def var (i : Nat) : SS → M D := fun ss ms => match ss[i]? with
  | some (some (.dat d)) => .ok d ms
  | _ => .bad
def bor (i : Nat) : SS → M D := fun ss ms => match ss[i]? with
  | some (some (.dat d)) => .ok d ms
  | some (some (.own ds)) => .ok (.lst ds) ms
  | _ => .bad
def c (d : D) : SS → M D := fun _ ms => .ok d ms
def op2 (g : D → D → M D) (a b : SS → M D) : SS → M D := fun ss ms => (a ss ms).bind fun x ms1 => (b ss ms1).bind fun y ms2 => g x y ms2
def op1 (g : D → M D) (a : SS → M D) : SS → M D := fun ss ms => (a ss ms).bind fun x ms1 => g x ms1
def nil : SS → M (List D) := fun _ ms => .ok [] ms
def cons (a : SS → M D) (r : SS → M (List D)) : SS → M (List D) := fun ss ms => (a ss ms).bind fun x ms1 => (r ss ms1).bind fun xs ms2 => .ok (x :: xs) ms2
def fnA (f : List D → M D) (a : SS → M (List D)) : SS → M D := fun ss ms => (a ss ms).bind fun xs ms1 => f xs ms1
def toB : D → M Bool
  | .bl b => fun ms => .ok b ms
  | _ => fun _ => .bad
def test (a : SS → M D) : SS → M Bool := fun ss ms => (a ss ms).bind toB
def truD : D → M Bool
  | .bl b => fun ms => .ok b ms
  | .non => fun ms => .ok false ms
  | .int i => fun ms => .ok (i != 0) ms
  | .tup ds => fun ms => .ok (!ds.isEmpty) ms
  | .lst ds => fun ms => .ok (!ds.isEmpty) ms
  | .str x => fun ms => if x.length ≤ 100000 then .ok ((x.length : Int) != 0) ms else .bad
  | _ => fun _ => .bad
def tru (a : SS → M D) : SS → M Bool := fun ss ms => (a ss ms).bind truD
def tand (a b : SS → M Bool) : SS → M Bool := fun ss ms => (a ss ms).bind fun c ms1 => if c = true then b ss ms1 else .ok false ms1
def tor (a b : SS → M Bool) : SS → M Bool := fun ss ms => (a ss ms).bind fun c ms1 => if c = true then .ok true ms1 else b ss ms1
def tnot (a : SS → M Bool) : SS → M Bool := fun ss ms => (a ss ms).bind fun c ms1 => .ok (!c) ms1
def vand (a b : SS → M D) : SS → M D := fun ss ms => (a ss ms).bind fun x ms1 => (toB x ms1).bind fun c ms2 => if c = true then b ss ms2 else .ok (.bl false) ms2
def vor (a b : SS → M D) : SS → M D := fun ss ms => (a ss ms).bind fun x ms1 => (toB x ms1).bind fun c ms2 => if c = true then .ok (.bl true) ms2 else b ss ms2
def vnot (a : SS → M D) : SS → M D := fun ss ms => (a ss ms).bind fun x ms1 => (toB x ms1).bind fun c ms2 => .ok (.bl (!c)) ms2
def ife (t : SS → M Bool) (a b : SS → M D) : SS → M D := fun ss ms => (t ss ms).bind fun c ms1 => if c = true then a ss ms1 else b ss ms1
def chain (g g' : D → D → M D) (a b c : SS → M D) : SS → M D := fun ss ms => (a ss ms).bind fun x ms1 => (b ss ms1).bind fun y ms2 => (g x y ms2).bind fun z ms3 => (toB z ms3).bind fun k ms4 =>
  if k = true then (c ss ms4).bind fun w ms5 => g' y w ms5 else .ok (.bl false) ms4
def tup (a : SS → M (List D)) : SS → M D := fun ss ms => (a ss ms).bind fun xs ms1 => if xs.length ≤ 100000 then .ok (.tup xs) ms1 else .bad
def lst (a : SS → M (List D)) : SS → M D := fun ss ms => (a ss ms).bind fun xs ms1 => if xs.length ≤ 100000 then .ok (.lst xs) ms1 else .bad
end E

theorem sz5 {n : Nat} (h : n ≤ 100000) : n ≤ sizeLine := Nat.le_trans h (by decide)
theorem sz5lt {n : Nat} (h : n < 100000) : n < sizeLine := Nat.lt_of_lt_of_le h (by decide)

section
variable {X : Cx} {W : WX} {a b c e : Expr} {es rest : List Expr} {ma mb mc : SS → M D} {pos : Pos} {ta tb : SS → M Bool}

theorem JE.jb (h : JE X W e ma) : JB X W e ma := by
  obtain ⟨t, h1, h2⟩ := h
  refine ⟨t, h1, fun p B σ ss H F ms Q s hs po => h2 p B σ ss H F ms Q s hs ?_⟩
  cases r : ma ss ms with
  | ok x ms' => rw [r] at po; exact fun v H' F' e q => po v H' F' e (.fz q)
  | ex c ms' => rw [r] at po; exact po
  | bad => rw [r] at po; exact po

theorem je_var {i : Nat} (h : PE X e (tVar i)) : JE X W e (E.var i) := by
  refine ⟨_, h, fun p B σ ss H F ms Q s hs po => ?_⟩
  unfold E.var at po
  split at po
  next d hd =>
    have hi : i < σ.length := by
      rw [s.len]
      exact (List.getElem?_eq_some_iff.mp hd).1
    have q := s.ok i _ _ hd (List.getElem?_eq_getElem hi)
    obtain ⟨u, e1, q⟩ := q
    exact ⟨u, by rw [List.getElem?_eq_getElem hi, e1], po.ok hs q⟩
  next => exact po.elim
theorem jb_var {i : Nat} (h : PE X e (tVar i)) : JB X W e (E.bor i) := by
  refine ⟨_, h, fun p B σ ss H F ms Q s hs po => ?_⟩
  unfold E.bor at po
  split at po
  next d hd =>
    have hi : i < σ.length := by
      rw [s.len]
      exact (List.getElem?_eq_some_iff.mp hd).1
    have q := s.ok i _ _ hd (List.getElem?_eq_getElem hi)
    obtain ⟨u, e1, q⟩ := q
    exact ⟨u, by rw [List.getElem?_eq_getElem hi, e1], po.ok hs (.fz q)⟩
  next ds hd =>
    have hi : i < σ.length := by
      rw [s.len]
      exact (List.getElem?_eq_some_iff.mp hd).1
    have q := s.ok i _ _ hd (List.getElem?_eq_getElem hi)
    obtain ⟨a, xs, e1, h1, h2, h3, h4, h5⟩ := q
    exact ⟨.ref a, by rw [List.getElem?_eq_getElem hi, e1], po.ok hs (.own h1 h4 h5)⟩
  next => exact po.elim
theorem je_c {v : V} {d : D} (h : PE X e (tC v)) (hd : ∀ p F, Dt X.K p F v d) : JE X W e (E.c d) := ⟨_, h, fun p B σ ss H F ms Q s hs po => po.ok hs (hd p F)⟩
theorem je_int {i j pos} : JE X W (.Constant (.int i) j pos) (E.c (.int i)) := je_c pe_int fun _ _ => .int i
theorem je_str {x j pos} : JE X W (.Constant (.str x) j pos) (E.c (.str x)) := je_c pe_str fun _ _ => .str x
theorem je_bl {x j pos} : JE X W (.Constant (.bool x) j pos) (E.c (.bl x)) := je_c pe_bl fun _ _ => .bl x
theorem je_non {j pos} : JE X W (.Constant .none j pos) (E.c .non) := je_c pe_non fun _ _ => .non

theorem ja_nil : JA X W [] E.nil := ⟨_, pa_nil, fun p B σ ss H F ms Q s hs po => po.ok hs .nil⟩
theorem ja_cons {mr : SS → M (List D)} (ha : JE X W e ma) (hr : JA X W es mr) (hs : starEach (e :: es) X.env = (false, eval e X.env) :: starEach es X.env := by rfl) : JA X W (e :: es) (E.cons ma mr) := by
  obtain ⟨t, h1, h2⟩ := ha
  obtain ⟨u, h3, h4⟩ := hr
  refine ⟨_, pa_cons h1 h3 hs, fun p B σ ss H F ms Q s hs po => ?_⟩
  refine h2 p B σ ss H F ms _ s hs (po.bind fun x ms1 v H1 F1 e1 q1 po1 => ?_)
  refine h4 p B σ ss H1 F1 ms1 _ (s.ext e1) e1.hs (po1.bind fun xs ms2 vs H2 F2 e2 q2 po2 => ?_)
  exact po2.ok e2.hs (.cons (q1.mono e2.ff) q2)

theorem je_tup {mr : SS → M (List D)} {x1} (h : JA X W es mr) : JE X W (.Tuple es x1 pos) (E.tup mr) := by
  obtain ⟨t, h1, h2⟩ := h
  refine ⟨_, pe_tup h1, fun p B σ ss H F ms Q s hs po => ?_⟩
  refine h2 p B σ ss H F ms _ s hs (po.bind fun xs ms1 vs H1 F1 e1 q1 po1 => ?_)
  by_cases hz : xs.length ≤ 100000
  · rw [if_pos hz] at po1
    exact ⟨by rw [q1.length]; exact sz5 hz, fun a ha => po1.new e1.hs ha (.tup (SqT.of upd_same) (q1.mono (Ext.new (p := p) (ms := ms1) e1.hs ha).ff))⟩
  · rw [if_neg hz] at po1
    exact po1.elim
/-- a new list, not frozen yet -/
def relN (K : PySem.W.Frag) (p : Option Addr) (H : Hp) : Hp → Hp → V → D → Prop := fun F' H' v d => ∃ a xs ds, v = .ref a ∧ d = .lst ds ∧ H a = none ∧ p ≠ some a ∧ H' a = some (.lst xs) ∧ F' a = none ∧ Dts K p F' xs ds
def JN (X : Cx) (W : WX) (e : Expr) (m : SS → M D) : Prop := ∃ t, PE X e t ∧ ∀ (p : Option Addr) (B : Hp) (σ : L2.St) (ss : SS) (H F : Hp) (ms : MS) (Q : VK),
  Sl X.K p B F H σ ss → Hs p F H ms → Po X.mg W p σ H F (relN X.K p H) (m ss ms) Q → t σ H Q
/-- a thing that stands in H' and was not in H is frozen -/
theorem Ext.frz {p : Option Addr} {H F H' F' : Hp} {ms' : MS} {a : Addr} {o : HO} (e : Ext p H F H' F' ms') (ha : H a = none) (h' : H' a = some o) (f' : F' a = none) (n : p ≠ some a) : Ext p H F H' (upd F' a o) ms' := by
  refine ⟨fun b u q => by rw [upd_ne (ne_of_none (e.ff b u q) f')]; exact e.ff b u q, fun b u hb hf => by rw [upd_ne (ne_of_none hb ha)]; exact e.nf b u hb hf, e.kp, ?_, e.hs.pot, ?_⟩
  · intro b u q
    by_cases z : b = a
    · subst z
      rw [upd_same] at q
      rw [h']
      exact q
    · rw [upd_ne z] at q
      exact e.hs.fh b u q
  · intro b q
    have z : b ≠ a := fun z => n (z ▸ q)
    rw [upd_ne z]
    exact e.hs.pf b q
theorem same_upd {F : Hp} {a : Addr} {o : HO} (f : F a = none) : Same F (upd F a o) := fun b u q => by rw [upd_ne (ne_of_none q f)]; exact q
theorem JN.je (h : JN X W e ma) : JE X W e ma := by
  obtain ⟨t, h1, h2⟩ := h
  refine ⟨t, h1, fun p B σ ss H F ms Q s hs po => h2 p B σ ss H F ms Q s hs ?_⟩
  cases r : ma ss ms with
  | ok x ms' =>
    rw [r] at po
    intro v H' F' e q
    obtain ⟨a, xs, ds, rfl, rfl, ha, n, h', f', q⟩ := q
    exact po _ H' _ (e.frz ha h' f' n) (.lst (SqL.of upd_same) (q.mono (same_upd f')))
  | ex c ms' => rw [r] at po; exact po
  | bad => rw [r] at po; exact po
/-- laying a new list -/
theorem Ext.lay {p : Option Addr} {F H : Hp} {ms : MS} {q : Addr} {o : HO} (h : Hs p F H ms) (hq : H q = none) : Ext p H F (upd H q o) F ms ∧ F q = none ∧ p ≠ some q := by
  have fq : F q = none := by
    cases e : F q with
    | none => rfl
    | some u => rw [h.fh q u e] at hq; cases hq
  have np : ∀ a, p = some a → a ≠ q := fun a e z => by
    have := h.pot a e
    rw [z, hq] at this
    cases this
  refine ⟨⟨Same.refl F, fun b u hb hf => hf, fun b u hb _ => by rw [upd_ne (ne_of_none hb hq)]; exact hb, ?_, ?_, h.pf⟩, fq, fun e => np q e rfl⟩
  · intro b u e
    rw [upd_ne (ne_of_none e fq)]
    exact h.fh b u e
  · intro a e
    rw [upd_ne (np a e)]
    exact h.pot a e
/-- a new list at the end of a reading that began at H0 -/
theorem Po.layL {mg : Str → Option Value} {p : Option Addr} {σ : L2.St} {H0 H F : Hp} {K : PySem.W.Frag} {ds : List D} {ms : MS} {Q : VK} {a : Addr} {xs : List V} (h : Po mg W p σ H F (relN K p H0) (.ok (.lst ds) ms) Q) (hs : Hs p F H ms) (h0 : ∀ b, H b = none → H0 b = none) (ha : H a = none)
    (q : Dts K p F xs ds) : Q (.ref a) (upd H a (.lst xs)) := by
  obtain ⟨e, fq, np⟩ := Ext.lay (o := .lst xs) hs ha
  exact h _ _ _ e ⟨a, xs, ds, rfl, rfl, h0 a ha, np, upd_same, fq, q⟩
/-- new behind a step is new ahead of it -/
theorem Ext.back {p : Option Addr} {H F H1 F1 : Hp} {ms1 : MS} (e : Ext p H F H1 F1 ms1) {b : Addr} (h : H1 b = none) : H b = none := by
  cases q : H b with
  | none => rfl
  | some o =>
    by_cases z : p = some b
    · rw [e.hs.pot b z] at h; cases h
    · rw [e.kp b o q z] at h; cases h
theorem jn_lst {mr : SS → M (List D)} (h : JA X W es mr) : JN X W (.List es pos) (E.lst mr) := by
  obtain ⟨t, h1, h2⟩ := h
  refine ⟨_, pe_lst h1, fun p B σ ss H F ms Q s hs po => ?_⟩
  refine h2 p B σ ss H F ms _ s hs (po.bind fun xs ms1 vs H1 F1 e1 q1 po1 => ?_)
  by_cases hz : xs.length ≤ 100000
  · rw [if_pos hz] at po1
    exact ⟨by rw [q1.length]; exact sz5 hz, fun a ha => po1.layL e1.hs (fun _ => e1.back) ha q1⟩
  · rw [if_neg hz] at po1
    exact po1.elim
theorem je_lst {mr : SS → M (List D)} (h : JA X W es mr) : JE X W (.List es pos) (E.lst mr) := (jn_lst h).je

/-! ### operators -/
/-- a two-place operation on values keeps to g on data -/
def OpOk (X : Cx) (f : Value → Value → Sem Value) (g : D → D → M D) : Prop := ∃ r, OpR X f r ∧ ∀ (W : WX) (p : Option Addr) (σ : L2.St) (H F : Hp) (ms : MS) (x y : V) (dx dy : D) (Q : VK), Hs p F H ms →
  Bw X.K p F H x dx → Bw X.K p F H y dy → Po X.mg W p σ H F (relD X.K p) (g dx dy ms) Q → r x y H Q
/-- either of two -/
def orG (g g' : D → D → M D) : D → D → M D := fun x y ms => match g x y ms with
  | .bad => g' x y ms
  | r => r
theorem OpOk.or {f : Value → Value → Sem Value} {g g' : D → D → M D} (h : OpOk X f g) (h' : OpOk X f g') : OpOk X f (orG g g') := by
  obtain ⟨r, h1, h2⟩ := h
  obtain ⟨r', h3, h4⟩ := h'
  refine ⟨_, OpR.or h1 h3, fun W p σ H F ms x y dx dy Q hs bx bY po => ?_⟩
  unfold orG at po
  cases q : g dx dy ms with
  | ok x ms' => rw [q] at po; exact .inl (h2 W p σ H F ms _ _ dx dy Q hs bx bY (by rw [q]; exact po))
  | ex c ms' => rw [q] at po; exact .inl (h2 W p σ H F ms _ _ dx dy Q hs bx bY (by rw [q]; exact po))
  | bad => rw [q] at po; exact .inr (h4 W p σ H F ms _ _ dx dy Q hs bx bY po)
theorem op2_ok {r : R2} {g : D → D → M D} {ta tb : TE} (h2 : ∀ (p : Option Addr) (B : Hp) (σ : L2.St) (ss : SS) (H F : Hp) (ms : MS) (Q : VK), Sl X.K p B F H σ ss → Hs p F H ms → Po X.mg W p σ H F (relB X.K p) (ma ss ms) Q → ta σ H Q)
    (h4 : ∀ (p : Option Addr) (B : Hp) (σ : L2.St) (ss : SS) (H F : Hp) (ms : MS) (Q : VK), Sl X.K p B F H σ ss → Hs p F H ms → Po X.mg W p σ H F (relB X.K p) (mb ss ms) Q → tb σ H Q)
    (h6 : ∀ (W : WX) (p : Option Addr) (σ : L2.St) (H F : Hp) (ms : MS) (x y : V) (dx dy : D) (Q : VK), Hs p F H ms → Bw X.K p F H x dx → Bw X.K p F H y dy → Po X.mg W p σ H F (relD X.K p) (g dx dy ms) Q → r x y H Q) :
    ∀ (p : Option Addr) (B : Hp) (σ : L2.St) (ss : SS) (H F : Hp) (ms : MS) (Q : VK), Sl X.K p B F H σ ss → Hs p F H ms → Po X.mg W p σ H F (relD X.K p) (E.op2 g ma mb ss ms) Q → tOp r ta tb σ H Q := by
  intro p B σ ss H F ms Q s hs po
  refine h2 p B σ ss H F ms _ s hs (po.bind fun x ms1 v H1 F1 e1 q1 po1 => ?_)
  refine h4 p B σ ss H1 F1 ms1 _ (s.ext e1) e1.hs (po1.bind fun y ms2 u H2 F2 e2 q2 po2 => ?_)
  exact h6 W p σ H2 F2 ms2 v u x y Q e2.hs (q1.ext e2) q2 po2
theorem je_bin {op : Operator} {g : D → D → M D} (ho : OpOk X (binaryOp op) g) (ha : JB X W a ma) (hb : JB X W b mb) : JE X W (.BinOp a op b pos) (E.op2 g ma mb) := by
  obtain ⟨t, h1, h2⟩ := ha
  obtain ⟨u, h3, h4⟩ := hb
  obtain ⟨r, h5, h6⟩ := ho
  exact ⟨_, pe_op h5 h1 h3, op2_ok h2 h4 h6⟩
theorem je_cmp {op : CmpOp} {g : D → D → M D} (ho : OpOk X (compareOp op) g) (ha : JB X W a ma) (hb : JB X W b mb) (hm : behindInMarks op b = false := by first | exact nomark _ | rfl) : JE X W (.Compare a [op] [b] pos) (E.op2 g ma mb) := by
  obtain ⟨t, h1, h2⟩ := ha
  obtain ⟨u, h3, h4⟩ := hb
  obtain ⟨r, h5, h6⟩ := ho
  exact ⟨_, pe_cmpR h5 h1 h3 hm, op2_ok h2 h4 h6⟩
/-- from a value's reading to a test's -/
theorem test_ok {t : TE} (h2 : ∀ (p : Option Addr) (B : Hp) (σ : L2.St) (ss : SS) (H F : Hp) (ms : MS) (Q : VK), Sl X.K p B F H σ ss → Hs p F H ms → Po X.mg W p σ H F (relD X.K p) (ma ss ms) Q → t σ H Q) :
    ∀ (p : Option Addr) (B : Hp) (σ : L2.St) (ss : SS) (H F : Hp) (ms : MS) (Q : Bool → Hp → Prop), Sl X.K p B F H σ ss → Hs p F H ms → Po X.mg W p σ H F relT (E.test ma ss ms) Q → tTest t σ H Q := by
  intro p B σ ss H F ms Q s hs po
  refine h2 p B σ ss H F ms _ s hs (po.bind fun x ms1 v H1 F1 e1 q1 po1 => ?_)
  cases x with
  | bl k =>
    cases q1
    exact ⟨k, rfl, po1.ok e1.hs rfl⟩
  | _ => exact po1.elim
theorem jt_cmp {op : CmpOp} {g : D → D → M D} (ho : OpOk X (compareOp op) g) (ha : JB X W a ma) (hb : JB X W b mb) (hm : behindInMarks op b = false := by first | exact nomark _ | rfl) : JT X W (.Compare a [op] [b] pos) (E.test (E.op2 g ma mb)) := by
  obtain ⟨t, h1, h2⟩ := ha
  obtain ⟨u, h3, h4⟩ := hb
  obtain ⟨r, h5, h6⟩ := ho
  exact ⟨_, pt_cmpR h5 h1 h3 hm, test_ok (op2_ok h2 h4 h6)⟩
theorem chain_ok {r r' : R2} {g g' : D → D → M D} {ta tb tc : TE} (h2 : ∀ (p : Option Addr) (B : Hp) (σ : L2.St) (ss : SS) (H F : Hp) (ms : MS) (Q : VK), Sl X.K p B F H σ ss → Hs p F H ms → Po X.mg W p σ H F (relB X.K p) (ma ss ms) Q → ta σ H Q)
    (h4 : ∀ (p : Option Addr) (B : Hp) (σ : L2.St) (ss : SS) (H F : Hp) (ms : MS) (Q : VK), Sl X.K p B F H σ ss → Hs p F H ms → Po X.mg W p σ H F (relB X.K p) (mb ss ms) Q → tb σ H Q)
    (h8 : ∀ (p : Option Addr) (B : Hp) (σ : L2.St) (ss : SS) (H F : Hp) (ms : MS) (Q : VK), Sl X.K p B F H σ ss → Hs p F H ms → Po X.mg W p σ H F (relB X.K p) (mc ss ms) Q → tc σ H Q)
    (h6 : ∀ (W : WX) (p : Option Addr) (σ : L2.St) (H F : Hp) (ms : MS) (x y : V) (dx dy : D) (Q : VK), Hs p F H ms → Bw X.K p F H x dx → Bw X.K p F H y dy → Po X.mg W p σ H F (relD X.K p) (g dx dy ms) Q → r x y H Q)
    (h7 : ∀ (W : WX) (p : Option Addr) (σ : L2.St) (H F : Hp) (ms : MS) (x y : V) (dx dy : D) (Q : VK), Hs p F H ms → Bw X.K p F H x dx → Bw X.K p F H y dy → Po X.mg W p σ H F (relD X.K p) (g' dx dy ms) Q → r' x y H Q) :
    ∀ (p : Option Addr) (B : Hp) (σ : L2.St) (ss : SS) (H F : Hp) (ms : MS) (Q : VK), Sl X.K p B F H σ ss → Hs p F H ms → Po X.mg W p σ H F (relD X.K p) (E.chain g g' ma mb mc ss ms) Q → tChain r r' ta tb tc σ H Q := by
  intro p B σ ss H F ms Q s hs po
  refine h2 p B σ ss H F ms _ s hs (po.bind fun x ms1 v H1 F1 e1 q1 po1 => ?_)
  refine h4 p B σ ss H1 F1 ms1 _ (s.ext e1) e1.hs (po1.bind fun y ms2 u H2 F2 e2 q2 po2 => ?_)
  refine h6 W p σ H2 F2 ms2 v u x y _ e2.hs (q1.ext e2) q2 (po2.bind fun z ms3 w H3 F3 e3 q3 po3 => ?_)
  cases z with
  | bl k =>
    cases q3
    refine ⟨k, rfl, ?_⟩
    cases k with
    | false =>
      rw [if_neg Bool.false_ne_true]
      exact po3.ok e3.hs (.bl false)
    | true =>
      rw [if_pos rfl]
      have po3' : Po X.mg W p σ H3 F3 (relD X.K p) ((mc ss ms3).bind fun w ms5 => g' y w ms5) Q := po3
      refine h8 p B σ ss H3 F3 ms3 _ (((s.ext e1).ext e2).ext e3) e3.hs (po3'.bind fun w ms4 u4 H4 F4 e4 q4 po4 => ?_)
      exact h7 W p σ H4 F4 ms4 u u4 y w Q e4.hs ((q2.ext e3).ext e4) q4 po4
  | _ => exact po3.elim
theorem je_chain {op op' : CmpOp} {g g' : D → D → M D} (ho : OpOk X (compareOp op) g) (ho' : OpOk X (compareOp op') g') (ha : JB X W a ma) (hb : JB X W b mb) (hc : JB X W c mc) (hm : lastMarks [op, op'] [b, c] = false := by rfl) : JE X W (.Compare a [op, op'] [b, c] pos) (E.chain g g' ma mb mc) := by
  obtain ⟨t, h1, h2⟩ := ha
  obtain ⟨u, h3, h4⟩ := hb
  obtain ⟨v, h7, h8⟩ := hc
  obtain ⟨r, h5, h6⟩ := ho
  obtain ⟨r', h9, h10⟩ := ho'
  exact ⟨_, pe_chain h5 h9 h1 h3 h7 hm, chain_ok h2 h4 h8 h6 h10⟩
theorem jt_chain {op op' : CmpOp} {g g' : D → D → M D} (ho : OpOk X (compareOp op) g) (ho' : OpOk X (compareOp op') g') (ha : JB X W a ma) (hb : JB X W b mb) (hc : JB X W c mc) (hm : lastMarks [op, op'] [b, c] = false := by rfl) : JT X W (.Compare a [op, op'] [b, c] pos) (E.test (E.chain g g' ma mb mc)) := by
  obtain ⟨t, h1, h2⟩ := ha
  obtain ⟨u, h3, h4⟩ := hb
  obtain ⟨v, h7, h8⟩ := hc
  obtain ⟨r, h5, h6⟩ := ho
  obtain ⟨r', h9, h10⟩ := ho'
  exact ⟨_, pt_chain h5 h9 h1 h3 h7 hm, test_ok (chain_ok h2 h4 h8 h6 h10)⟩

/-! ### tests, and, or, not -/
theorem jt_val (h : JE X W e ma) (he : ∀ whole, isTrue e X.env whole = (do let v ← whole; standAt e.pos; holding [v] (truthy v)) := by intro _; rfl) : JT X W e (E.test ma) := by
  obtain ⟨t, h1, h2⟩ := h
  exact ⟨_, pt_val h1 he, test_ok h2⟩
theorem jt_tru (h : JB X W e ma) (he : ∀ whole, isTrue e X.env whole = (do let v ← whole; standAt e.pos; holding [v] (truthy v)) := by intro _; rfl) : JT X W e (E.tru ma) := by
  obtain ⟨t, h1, h2⟩ := h
  refine ⟨_, pt_truth h1 he, fun p B σ ss H F ms Q s hs po => ?_⟩
  refine h2 p B σ ss H F ms _ s hs (po.bind fun x ms1 v H1 F1 e1 q1 po1 => ?_)
  cases q1 with
  | fz q1 =>
    cases q1 with
    | non => exact ⟨false, rfl, po1.ok e1.hs rfl⟩
    | bl b => exact ⟨b, rfl, po1.ok e1.hs rfl⟩
    | int i => exact ⟨_, rfl, po1.ok e1.hs rfl⟩
    | str x =>
      have po2 : Po X.mg W p σ H1 F1 relT (if x.length ≤ 100000 then R.ok ((x.length : Int) != 0) ms1 else .bad) Q := po1
      by_cases hz : x.length ≤ 100000
      · rw [if_pos hz] at po2
        exact ⟨_, ⟨sz5 hz, rfl⟩, po2.ok e1.hs rfl⟩
      · rw [if_neg hz] at po2
        exact po2.elim
    | tup h r =>
      refine ⟨_, .inr (.inl ⟨_, same_t e1.hs.fh h, rfl⟩), po1.ok e1.hs ?_⟩
      show (!List.isEmpty _) = (!List.isEmpty _)
      cases r <;> rfl
    | lst h r =>
      refine ⟨_, .inl ⟨_, same_l e1.hs.fh h, rfl⟩, po1.ok e1.hs ?_⟩
      show (!List.isEmpty _) = (!List.isEmpty _)
      cases r <;> rfl
    | dct h l r => exact po1.elim
    | pot h => exact po1.elim
    | fn => exact po1.elim
    | ty => exact po1.elim
  | own h n r =>
    refine ⟨_, .inl ⟨_, .inl (.inl h), rfl⟩, po1.ok e1.hs ?_⟩
    show (!List.isEmpty _) = (!List.isEmpty _)
    cases r <;> rfl
theorem jt_not (h : JT X W a ta) : JT X W (.UnaryOp .Not a pos) (E.tnot ta) := by
  obtain ⟨t, h1, h2⟩ := h
  refine ⟨_, pt_not h1, fun p B σ ss H F ms Q s hs po => ?_⟩
  refine h2 p B σ ss H F ms _ s hs (po.bind fun x ms1 v H1 F1 e1 q1 po1 => ?_)
  cases q1
  exact po1.ok e1.hs rfl
theorem jw_and1 (h : JT X W a ta) : JW X W (.BoolOp .And [a] pos) ta := by
  obtain ⟨t, h1, h2⟩ := h
  exact ⟨_, pw_and1 h1, h2⟩
theorem jw_or1 (h : JT X W a ta) : JW X W (.BoolOp .Or [a] pos) ta := by
  obtain ⟨t, h1, h2⟩ := h
  exact ⟨_, pw_or1 h1, h2⟩
theorem jw_and (h : JT X W a ta) (h' : JW X W (.BoolOp .And (b :: rest) pos) tb) : JW X W (.BoolOp .And (a :: b :: rest) pos) (E.tand ta tb) := by
  obtain ⟨t, h1, h2⟩ := h
  obtain ⟨u, h3, h4⟩ := h'
  refine ⟨_, pw_and h1 h3, fun p B σ ss H F ms Q s hs po => ?_⟩
  refine h2 p B σ ss H F ms _ s hs (po.bind fun x ms1 v H1 F1 e1 q1 po1 => ?_)
  cases q1
  cases x with
  | true => rw [if_pos rfl] at po1 ⊢; exact h4 p B σ ss H1 F1 ms1 _ (s.ext e1) e1.hs po1
  | false => rw [if_neg Bool.false_ne_true] at po1 ⊢; exact po1.ok e1.hs rfl
theorem jw_or (h : JT X W a ta) (h' : JW X W (.BoolOp .Or (b :: rest) pos) tb) : JW X W (.BoolOp .Or (a :: b :: rest) pos) (E.tor ta tb) := by
  obtain ⟨t, h1, h2⟩ := h
  obtain ⟨u, h3, h4⟩ := h'
  refine ⟨_, pw_or h1 h3, fun p B σ ss H F ms Q s hs po => ?_⟩
  refine h2 p B σ ss H F ms _ s hs (po.bind fun x ms1 v H1 F1 e1 q1 po1 => ?_)
  cases q1
  cases x with
  | false => rw [if_neg Bool.false_ne_true] at po1 ⊢; exact h4 p B σ ss H1 F1 ms1 _ (s.ext e1) e1.hs po1
  | true => rw [if_pos rfl] at po1 ⊢; exact po1.ok e1.hs rfl
theorem JW.jt (h : JW X W e ta) : JT X W e ta := by
  obtain ⟨t, h1, h2⟩ := h
  exact ⟨_, h1.pt, h2⟩
theorem je_one {op} (h : JE X W a ma) : JE X W (.BoolOp op [a] pos) ma := by
  obtain ⟨t, h1, h2⟩ := h
  exact ⟨_, pe_one h1, h2⟩
theorem toB_po {p : Option Addr} {σ : L2.St} {H F : Hp} {ms : MS} {v : V} {x : D} {α β : Type} {rel : Hp → Hp → β → α → Prop} {f : Bool → M α} {Q : β → Hp → Prop} (q : Dt X.K p F v x) (po : Po X.mg W p σ H F rel ((E.toB x ms).bind f) Q) :
    ∃ k, v = .bl k ∧ Po X.mg W p σ H F rel (f k ms) Q := by
  cases x with
  | bl k =>
    cases q
    exact ⟨k, rfl, po⟩
  | _ => exact po.elim
theorem je_and (ha : JE X W a ma) (hb : JE X W (.BoolOp .And (b :: rest) pos) mb) : JE X W (.BoolOp .And (a :: b :: rest) pos) (E.vand ma mb) := by
  obtain ⟨t, h1, h2⟩ := ha
  obtain ⟨u, h3, h4⟩ := hb
  refine ⟨_, pe_and h1 h3, fun p B σ ss H F ms Q s hs po => ?_⟩
  refine h2 p B σ ss H F ms _ s hs (po.bind fun x ms1 v H1 F1 e1 q1 po1 => ?_)
  obtain ⟨k, rfl, po2⟩ := toB_po q1 po1
  refine ⟨k, rfl, ?_⟩
  cases k with
  | true => rw [if_pos rfl] at po2 ⊢; exact h4 p B σ ss H1 F1 ms1 _ (s.ext e1) e1.hs po2
  | false => rw [if_neg Bool.false_ne_true] at po2 ⊢; exact po2.ok e1.hs (.bl _)
theorem je_or (ha : JE X W a ma) (hb : JE X W (.BoolOp .Or (b :: rest) pos) mb) : JE X W (.BoolOp .Or (a :: b :: rest) pos) (E.vor ma mb) := by
  obtain ⟨t, h1, h2⟩ := ha
  obtain ⟨u, h3, h4⟩ := hb
  refine ⟨_, pe_or h1 h3, fun p B σ ss H F ms Q s hs po => ?_⟩
  refine h2 p B σ ss H F ms _ s hs (po.bind fun x ms1 v H1 F1 e1 q1 po1 => ?_)
  obtain ⟨k, rfl, po2⟩ := toB_po q1 po1
  refine ⟨k, rfl, ?_⟩
  cases k with
  | false => rw [if_neg Bool.false_ne_true] at po2 ⊢; exact h4 p B σ ss H1 F1 ms1 _ (s.ext e1) e1.hs po2
  | true => rw [if_pos rfl] at po2 ⊢; exact po2.ok e1.hs (.bl _)
theorem je_not (ha : JE X W a ma) : JE X W (.UnaryOp .Not a pos) (E.vnot ma) := by
  obtain ⟨t, h1, h2⟩ := ha
  refine ⟨_, pe_not h1, fun p B σ ss H F ms Q s hs po => ?_⟩
  refine h2 p B σ ss H F ms _ s hs (po.bind fun x ms1 v H1 F1 e1 q1 po1 => ?_)
  obtain ⟨k, rfl, po2⟩ := toB_po q1 po1
  exact ⟨k, rfl, po2.ok e1.hs (.bl _)⟩
theorem je_ife (hc : JT X W c ta) (ha : JE X W a ma) (hb : JE X W b mb) : JE X W (.IfExp c a b pos) (E.ife ta ma mb) := by
  obtain ⟨v, h5, h6⟩ := hc
  obtain ⟨t, h1, h2⟩ := ha
  obtain ⟨u, h3, h4⟩ := hb
  refine ⟨_, pe_ifExp h5 h1 h3, fun p B σ ss H F ms Q s hs po => ?_⟩
  refine h6 p B σ ss H F ms _ s hs (po.bind fun x ms1 v H1 F1 e1 q1 po1 => ?_)
  cases q1
  cases x with
  | true => rw [if_pos rfl] at po1 ⊢; exact h2 p B σ ss H1 F1 ms1 _ (s.ext e1) e1.hs po1
  | false => rw [if_neg Bool.false_ne_true] at po1 ⊢; exact h4 p B σ ss H1 F1 ms1 _ (s.ext e1) e1.hs po1
end
end Q

set_option Elab.async false
set_option linter.all false
set_option maxRecDepth 100000
set_option maxHeartbeats 4000000
/-! Qc: defs by their mirrors, statements. -/
namespace Q
open PySem L2 PyProof.Rows

/-! ### a def by its mirror -/
def spM (K : PySem.W.Frag) (mg : Str → Option Value) (n : Nat) (mir : List D → M D) : Sp := fun vs H Q E => ∃ (p : Option Addr) (F : Hp) (ds : List D) (ms : MS), vs.length = n ∧ Hs p F H ms ∧ Dts K p F vs ds ∧
  Po mg (fun u d _ H' => E u d H') p [] H F (relD K p) (mir ds ms) Q
abbrev FnM (P : Program) (w : World) (K : PySem.W.Frag) (mg : Str → Option Value) (base : Heap) (k : Nat) (f : Addr) (fd : FuncData) (ps : List Str) (mir : List D → M D) : Prop :=
  FnOk P w K mg base (L2.CX P w) k f fd ps (spM K mg ps.length mir)

section
variable {X : Cx} {W : WX} {a b c e : Expr} {es rest : List Expr} {ma mb mc : SS → M D} {pos : Pos}
theorem je_call {k : Nat} {f : Addr} {fd : FuncData} {ps : List Str} {mir : List D → M D} {mr : SS → M (List D)} {x : Str} {p0 : Pos} (tk : Takes X W) (G : FnM X.prog X.w X.K X.mg X.base k f fd ps mir) (hr : Room k X.A) (hg : Gl X x) (hm : X.mg x = some (.ref f))
    (hk : PySem.W.keepIn X.K (.ref f) = true) (hb : Binds X.K fd ps []) (ha : JA X W (e :: es) mr) (hdb : (x == ("__debug__" : Str)) = false := by decide) (he : starEach (e :: es) X.env = (false, eval e X.env) :: starEach es X.env := by rfl)
    (hpl : (backTo pos (starEach es X.env)).any (·.1) = false := by rfl) (hn : ∀ (ss : SS) (ms : MS) (ds : List D) (ms' : MS), mr ss ms = .ok ds ms' → ds.length = ps.length) : JE X W (.Call (.Name x p0) (e :: es) [] pos) (E.fnA mir mr) := by
  obtain ⟨t, h1, h2⟩ := ha
  refine ⟨_, pe_callS G hr hg hm hk hb (fun σ => passAt tk σ) h1 hdb he hpl, fun p B σ ss H F ms Q s hs po => ?_⟩
  cases r : mr ss ms with
  | bad => unfold E.fnA at po; rw [r] at po; exact po.elim
  | ex c ms' =>
    unfold E.fnA at po
    rw [r] at po
    exact h2 p B σ ss H F ms _ s hs (by rw [r]; exact po)
  | ok ds ms1 =>
    unfold E.fnA at po
    rw [r] at po
    refine h2 p B σ ss H F ms _ s hs ?_
    rw [r]
    intro vs H1 F1 e1 q1
    have po1 : Po X.mg W p σ H1 F1 (relD X.K p) (mir ds ms1) Q := Po.ext e1 po
    refine ⟨p, F1, ds, ms1, by rw [q1.length]; exact hn _ _ _ _ r, e1.hs, q1, ?_⟩
    cases r2 : mir ds ms1 with
    | ok x ms' => rw [r2] at po1; exact po1
    | ex c ms' => rw [r2] at po1; exact po1
    | bad => rw [r2] at po1; exact po1
end

/-! ### statements -/
inductive O where
  | nx (ss : SS) (ms : MS)
  | rt (d : D) (ms : MS)
  | bk (ss : SS) (ms : MS)
  | ct (ss : SS) (ms : MS)
  | ex (c : Str) (ss : SS) (ms : MS)
  | bad
/-- a def's frame: what stands since its begin at (B, F0) -/
structure Fm (K : PySem.W.Frag) (p : Option Addr) (B F0 F H : Hp) (σ : L2.St) (ss : SS) (ms : MS) : Prop where
  sl : Sl K p B F H σ ss
  ex : Ext p B F0 H F ms
def PoS (K : PySem.W.Frag) (mg : Str → Option Value) (W : WX) (p : Option Addr) (B F0 : Hp) (o : O) (En : Ends) : Prop := match o with
  | .nx ss' ms' => ∀ σ' H' F', Fm K p B F0 F' H' σ' ss' ms' → En.nx σ' H'
  | .bk ss' ms' => ∀ σ' H' F', Fm K p B F0 F' H' σ' ss' ms' → En.bk σ' H'
  | .ct ss' ms' => ∀ σ' H' F', Fm K p B F0 F' H' σ' ss' ms' → En.ct σ' H'
  | .rt d ms' => ∀ v H' F', Ext p B F0 H' F' ms' → Dt K p F' v d → En.rt v H'
  | .ex c ss' ms' => ∀ u, mg c = some u → ∀ σ' H' F', Fm K p B F0 F' H' σ' ss' ms' → W u none σ' H'
  | .bad => False
def JS (X : Cx) (W : WX) (st : Stmt) (m : SS → MS → O) : Prop := ∃ t, PS X st t ∧ ∀ (p : Option Addr) (B F0 : Hp) (σ : L2.St) (ss : SS) (H F : Hp) (ms : MS) (En : Ends),
  Fm X.K p B F0 F H σ ss ms → PoS X.K X.mg W p B F0 (m ss ms) En → t En σ H
def JSs (X : Cx) (W : WX) (sts : List Stmt) (m : SS → MS → O) : Prop := ∃ t, PSs X sts t ∧ ∀ (p : Option Addr) (B F0 : Hp) (σ : L2.St) (ss : SS) (H F : Hp) (ms : MS) (En : Ends),
  Fm X.K p B F0 F H σ ss ms → PoS X.K X.mg W p B F0 (m ss ms) En → t En σ H

/-- a mirror's answer as a statement's -/
def R.o {α : Type} (r : R α) (ss : SS) (f : α → MS → O) : O := match r with
  | .ok x ms => f x ms
  | .ex c ms => .ex c ss ms
  | .bad => .bad
@[simp] theorem R.o_ok {α : Type} (x : α) (ms : MS) (ss : SS) (f : α → MS → O) : (R.ok x ms).o ss f = f x ms := rfl
@[simp] theorem R.o_ex {α : Type} (c : Str) (ms : MS) (ss : SS) (f : α → MS → O) : (R.ex (α := α) c ms).o ss f = .ex c ss ms := rfl
@[simp] theorem R.o_bad {α : Type} (ss : SS) (f : α → MS → O) : (R.bad (α := α)).o ss f = .bad := rfl
namespace S
def nil : SS → MS → O := fun ss ms => .nx ss ms
def seq (m1 m2 : SS → MS → O) : SS → MS → O := fun ss ms => match m1 ss ms with
  | .nx ss1 ms1 => m2 ss1 ms1
  | o => o
def set (i : Nat) (m : SS → M D) : SS → MS → O := fun ss ms => (m ss ms).o ss fun d ms1 => .nx (ss.set i (some (.dat d))) ms1
def own (i : Nat) (m : SS → M D) : SS → MS → O := fun ss ms => (m ss ms).o ss fun d ms1 => match d with
  | .lst ds => .nx (ss.set i (some (.own ds))) ms1
  | _ => .bad
def expr (m : SS → M D) : SS → MS → O := fun ss ms => (m ss ms).o ss fun _ ms1 => .nx ss ms1
def ret (m : SS → M D) : SS → MS → O := fun ss ms => (m ss ms).o ss fun d ms1 => .rt d ms1
def retN : SS → MS → O := fun _ ms => .rt .non ms
def retO (i : Nat) : SS → MS → O := fun ss ms => match ss[i]? with
  | some (some (.dat d)) => .rt d ms
  | some (some (.own ds)) => .rt (.lst ds) ms
  | _ => .bad
def ife (t : SS → M Bool) (a b : SS → MS → O) : SS → MS → O := fun ss ms => (t ss ms).o ss fun c ms1 => if c = true then a ss ms1 else b ss ms1
def brk : SS → MS → O := fun ss ms => .bk ss ms
def cont : SS → MS → O := fun ss ms => .ct ss ms
end S

section
variable {X : Cx} {W : WX} {e c : Expr} {ma : SS → M D} {st : Stmt} {sts sts' : List Stmt} {m m1 m2 : SS → MS → O} {pos : Pos}
/-- from an expression's answer inside a frame -/
theorem Fm.po {α β : Type} {K : PySem.W.Frag} {mg : Str → Option Value} {p : Option Addr} {B F0 F H : Hp} {σ : L2.St} {ss : SS} {ms : MS} {r : R α} {f : α → MS → O} {rel : Hp → Hp → β → α → Prop} {En : Ends} {Q : β → Hp → Prop} (fm : Fm K p B F0 F H σ ss ms)
    (po : PoS K mg W p B F0 (r.o ss f) En) (k : ∀ x ms1 v H1 F1, Fm K p B F0 F1 H1 σ ss ms1 → Ext p H F H1 F1 ms1 → rel F1 H1 v x → PoS K mg W p B F0 (f x ms1) En → Q v H1) : Po mg W p σ H F rel r Q := by
  cases r with
  | ok x ms1 => exact fun v H1 F1 e1 q => k x ms1 v H1 F1 ⟨fm.sl.ext e1, fm.ex.trans e1⟩ e1 q po
  | ex c ms1 => exact fun u hu H1 F1 e1 => po u hu σ H1 F1 ⟨fm.sl.ext e1, fm.ex.trans e1⟩
  | bad => exact po
theorem jss_nil : JSs X W [] S.nil := ⟨_, pss_nil, fun p B F0 σ ss H F ms En fm po => po σ H F fm⟩
theorem PoS.seq {K : PySem.W.Frag} {mg : Str → Option Value} {p : Option Addr} {B F0 : Hp} {ss : SS} {ms : MS} {En : Ends} {N : L2.St → Hp → Prop} (po : PoS K mg W p B F0 (S.seq m1 m2 ss ms) En)
    (k : ∀ ss1 ms1 σ1 H1 F1, Fm K p B F0 F1 H1 σ1 ss1 ms1 → PoS K mg W p B F0 (m2 ss1 ms1) En → N σ1 H1) : PoS K mg W p B F0 (m1 ss ms) { En with nx := N } := by
  unfold S.seq at po
  cases r : m1 ss ms with
  | nx ss1 ms1 => rw [r] at po; exact fun σ' H' F' fm => k ss1 ms1 σ' H' F' fm po
  | rt d ms1 => rw [r] at po; exact po
  | bk ss1 ms1 => rw [r] at po; exact po
  | ct ss1 ms1 => rw [r] at po; exact po
  | ex c ss1 ms1 => rw [r] at po; exact po
  | bad => rw [r] at po; exact po
theorem jss_cons (h1 : JS X W st m1) (h2 : JSs X W sts m2) : JSs X W (st :: sts) (S.seq m1 m2) := by
  obtain ⟨t, h1, h3⟩ := h1
  obtain ⟨u, h2, h4⟩ := h2
  refine ⟨_, pss_cons h1 h2, fun p B F0 σ ss H F ms En fm po => ?_⟩
  exact h3 p B F0 σ ss H F ms _ fm (po.seq fun ss1 ms1 σ1 H1 F1 fm1 po1 => h4 p B F0 σ1 ss1 H1 F1 ms1 En fm1 po1)
theorem jss_one (h1 : JS X W st m1) : JSs X W [st] m1 := by
  obtain ⟨t, h1, h3⟩ := h1
  exact ⟨_, pss_one h1, h3⟩
theorem js_pass : JS X W (.Pass pos) S.nil := ⟨_, ps_pass, fun p B F0 σ ss H F ms En fm po => po σ H F fm⟩
theorem js_break : JS X W (.Break pos) S.brk := ⟨_, ps_break, fun p B F0 σ ss H F ms En fm po => po σ H F fm⟩
theorem js_continue : JS X W (.Continue pos) S.cont := ⟨_, ps_continue, fun p B F0 σ ss H F ms En fm po => po σ H F fm⟩
theorem js_ret (h : JE X W e ma) : JS X W (.Return (some e) pos) (S.ret ma) := by
  obtain ⟨t, h1, h2⟩ := h
  refine ⟨_, ps_ret h1, fun p B F0 σ ss H F ms En fm po => ?_⟩
  exact h2 p B σ ss H F ms _ fm.sl fm.ex.hs (fm.po po fun x ms1 v H1 F1 fm1 _ q po1 => po1 v H1 F1 fm1.ex q)
theorem js_retN : JS X W (.Return none pos) S.retN := ⟨_, ps_retN, fun p B F0 σ ss H F ms En fm po => po .non H F fm.ex .non⟩
theorem js_expr (h : JE X W e ma) (hs : swapsWith e none pos.line X.env = pure false := by rfl) : JS X W (.Expr e pos) (S.expr ma) := by
  obtain ⟨t, h1, h2⟩ := h
  refine ⟨_, ps_expr h1 hs, fun p B F0 σ ss H F ms En fm po => ?_⟩
  exact h2 p B σ ss H F ms _ fm.sl fm.ex.hs (fm.po po fun x ms1 v H1 F1 fm1 _ q po1 => po1 σ H1 F1 fm1)
theorem js_if {tc : SS → M Bool} (hc : JT X W c tc) (ha : JSs X W sts m1) (hb : JSs X W sts' m2) : JS X W (.If c sts sts' pos) (S.ife tc m1 m2) := by
  obtain ⟨t, h1, h2⟩ := hc
  obtain ⟨u, h3, h4⟩ := ha
  obtain ⟨v, h5, h6⟩ := hb
  refine ⟨_, ps_if h1 h3 h5, fun p B F0 σ ss H F ms En fm po => ?_⟩
  refine h2 p B σ ss H F ms _ fm.sl fm.ex.hs (fm.po po fun x ms1 v H1 F1 fm1 _ q po1 => ?_)
  cases q
  cases x with
  | true => rw [if_pos rfl] at po1 ⊢; exact h4 p B F0 σ ss H1 F1 ms1 En fm1 po1
  | false => rw [if_neg Bool.false_ne_true] at po1 ⊢; exact h6 p B F0 σ ss H1 F1 ms1 En fm1 po1

/-! slots set -/
theorem Sl.set {K : PySem.W.Frag} {p : Option Addr} {B F H : Hp} {σ : L2.St} {ss : SS} {i : Nat} {v : V} {d : D} (s : Sl K p B F H σ ss) (q : Dt K p F v d) : Sl K p B F H (σ.set i (some v)) (ss.set i (some (.dat d))) := by
  refine ⟨by rw [List.length_set, List.length_set]; exact s.len, fun j sv u h1 h2 => ?_, fun j k a ds es h1 h2 h3 h4 => ?_⟩
  · by_cases z : i = j
    · subst z
      rw [List.getElem?_set_self (by have := (List.getElem?_eq_some_iff.mp h1).1; rw [List.length_set] at this; exact this)] at h1
      rw [List.getElem?_set_self (by have := (List.getElem?_eq_some_iff.mp h2).1; rw [List.length_set] at this; exact this)] at h2
      cases h1
      cases h2
      exact ⟨v, rfl, q⟩
    · rw [List.getElem?_set_ne z] at h1 h2
      exact s.ok j sv u h1 h2
  · have nj : i ≠ j := fun z => by
      subst z
      have hl := (List.getElem?_eq_some_iff.mp h1).1
      rw [List.length_set] at hl
      rw [List.getElem?_set_self hl] at h1
      cases h1
    have nk : i ≠ k := fun z => by
      subst z
      have hl := (List.getElem?_eq_some_iff.mp h2).1
      rw [List.length_set] at hl
      rw [List.getElem?_set_self hl] at h2
      cases h2
    rw [List.getElem?_set_ne nj] at h1 h3
    rw [List.getElem?_set_ne nk] at h2 h4
    exact s.ap j k a ds es h1 h2 h3 h4
/-- a new list goes to a slot -/
theorem Sl.setN {K : PySem.W.Frag} {p : Option Addr} {B F H : Hp} {σ : L2.St} {ss : SS} {i : Nat} {a : Addr} {xs : List V} {ds : List D} (s : Sl K p B F H σ ss) (h : H a = some (.lst xs)) (hf : F a = none) (hb : B a = none) (n : p ≠ some a) (q : Dts K p F xs ds)
    (new : ∀ (j : Nat) (es : List D), ss[j]? = some (some (.own es)) → σ[j]? ≠ some (some (.ref a))) : Sl K p B F H (σ.set i (some (.ref a))) (ss.set i (some (.own ds))) := by
  refine ⟨by rw [List.length_set, List.length_set]; exact s.len, fun j sv u h1 h2 => ?_, fun j k b ds es h1 h2 h3 h4 => ?_⟩
  · by_cases z : i = j
    · subst z
      rw [List.getElem?_set_self (by have := (List.getElem?_eq_some_iff.mp h1).1; rw [List.length_set] at this; exact this)] at h1
      rw [List.getElem?_set_self (by have := (List.getElem?_eq_some_iff.mp h2).1; rw [List.length_set] at this; exact this)] at h2
      cases h1
      cases h2
      exact ⟨a, xs, rfl, h, hf, hb, n, q⟩
    · rw [List.getElem?_set_ne z] at h1 h2
      exact s.ok j sv u h1 h2
  · by_cases zj : i = j
    · by_cases zk : i = k
      · exact zj.symm.trans zk
      · subst zj
        rw [List.getElem?_set_self (by have := (List.getElem?_eq_some_iff.mp h3).1; rw [List.length_set] at this; exact this)] at h3
        rw [List.getElem?_set_ne zk] at h2 h4
        cases h3
        exact absurd h4 (new k es h2)
    · rw [List.getElem?_set_ne zj] at h1 h3
      by_cases zk : i = k
      · subst zk
        rw [List.getElem?_set_self (by have := (List.getElem?_eq_some_iff.mp h4).1; rw [List.length_set] at this; exact this)] at h4
        cases h4
        exact absurd h3 (new j _ h1)
      · rw [List.getElem?_set_ne zk] at h2 h4
        exact s.ap j k b _ es h1 h2 h3 h4
/-- an own list is changed -/
theorem Sl.chg {K : PySem.W.Frag} {p : Option Addr} {B F H : Hp} {σ : L2.St} {ss : SS} {i : Nat} {a : Addr} {ys : List V} {ds es : List D} (s : Sl K p B F H σ ss) (hi : ss[i]? = some (some (.own ds))) (ha : σ[i]? = some (some (.ref a))) (q : Dts K p F ys es) :
    Sl K p B F (upd H a (.lst ys)) σ (ss.set i (some (.own es))) := by
  obtain ⟨b, xs, e1, h, hf, hb, n, r⟩ := s.ok i _ _ hi ha
  cases e1
  refine ⟨by rw [List.length_set]; exact s.len, fun j sv u h1 h2 => ?_, fun j k b ds' es' h1 h2 h3 h4 => ?_⟩
  · by_cases z : i = j
    · subst z
      rw [List.getElem?_set_self (by have := (List.getElem?_eq_some_iff.mp h1).1; rw [List.length_set] at this; exact this)] at h1
      rw [ha] at h2
      cases h1
      cases h2
      exact ⟨a, ys, rfl, upd_same, hf, hb, n, q⟩
    · rw [List.getElem?_set_ne z] at h1
      have o := s.ok j sv u h1 h2
      match sv, o with
      | none, _ => trivial
      | some (.dat d), ⟨u, e1, q⟩ => exact ⟨u, e1, q⟩
      | some (.own ds'), ⟨c, zs, e1, h', hf', hb', n', r'⟩ =>
        subst e1
        have ne : c ≠ a := fun w => by
          subst w
          exact z (s.ap i j c _ _ hi h1 ha h2)
        exact ⟨c, zs, rfl, by rw [upd_ne ne]; exact h', hf', hb', n', r'⟩
  · have lk : ∀ (m : Nat) (fs : List D), (ss.set i (some (.own es)))[m]? = some (some (.own fs)) → ∃ gs, ss[m]? = some (some (.own gs)) := fun m fs hm => by
      by_cases z : i = m
      · subst z
        exact ⟨_, hi⟩
      · rw [List.getElem?_set_ne z] at hm
        exact ⟨_, hm⟩
    obtain ⟨g1, h1⟩ := lk j _ h1
    obtain ⟨g2, h2⟩ := lk k _ h2
    exact s.ap j k b g1 g2 h1 h2 h3 h4
theorem Ext.chg {p : Option Addr} {B F0 H F : Hp} {ms : MS} {a : Addr} {o : HO} (e : Ext p B F0 H F ms) (hf : F a = none) (hb : B a = none) (n : p ≠ some a) : Ext p B F0 (upd H a o) F ms :=
  ⟨e.ff, e.nf, fun b u hb' np => by rw [upd_ne (ne_of_none hb' hb)]; exact e.kp b u hb' np, ⟨fun b u q => by rw [upd_ne (ne_of_none q hf)]; exact e.hs.fh b u q, fun b q => by rw [upd_ne (show b ≠ a from fun z => n (z ▸ q))]; exact e.hs.pot b q, e.hs.pf⟩⟩

theorem js_set {i : Nat} {x : Str} {pos' : Pos} (h : JE X W e ma) (hN : X.N.Nodup) (hi : X.N[i]? = some x := by rfl) (hx : Loc X.env.scope x := by first | exact Or.inl rfl | exact Or.inr rfl) (hs : swapsWith e (some (.Name x pos')) pos.line X.env = pure false := by rfl)
    (hf : X.fn x = true ∨ X.env.scope.names.lookup x = some .local := by first | exact .inl rfl | exact .inr rfl) : JS X W (.Assign [.Name x pos'] e pos) (S.set i ma) := by
  obtain ⟨t, h1, h2⟩ := h
  refine ⟨_, ps_set hN hi hx h1 hs hf, fun p B F0 σ ss H F ms En fm po => ?_⟩
  exact h2 p B σ ss H F ms _ fm.sl fm.ex.hs (fm.po po fun x ms1 v H1 F1 fm1 _ q po1 => po1 _ H1 F1 ⟨fm1.sl.set q, fm1.ex⟩)
theorem js_own {i : Nat} {x : Str} {pos' : Pos} (h : JN X W e ma) (hN : X.N.Nodup) (hi : X.N[i]? = some x := by rfl) (hx : Loc X.env.scope x := by first | exact Or.inl rfl | exact Or.inr rfl) (hs : swapsWith e (some (.Name x pos')) pos.line X.env = pure false := by rfl)
    (hf : X.fn x = true ∨ X.env.scope.names.lookup x = some .local := by first | exact .inl rfl | exact .inr rfl) : JS X W (.Assign [.Name x pos'] e pos) (S.own i ma) := by
  obtain ⟨t, h1, h2⟩ := h
  refine ⟨_, ps_set hN hi hx h1 hs hf, fun p B F0 σ ss H F ms En fm po => ?_⟩
  refine h2 p B σ ss H F ms _ fm.sl fm.ex.hs (fm.po po fun x ms1 v H1 F1 fm1 e1 q po1 => ?_)
  obtain ⟨a, xs, ds, rfl, rfl, ha, n, h', f', q⟩ := q
  refine po1 _ H1 F1 ⟨fm1.sl.setN h' f' (fm.ex.back ha) n q fun j es h1 h2 => ?_, fm1.ex⟩
  obtain ⟨b, ys, e2, h3, _⟩ := fm.sl.ok j _ _ h1 h2
  cases e2
  rw [ha] at h3
  cases h3
theorem js_retO {i : Nat} (h : PE X e (tVar i)) : JS X W (.Return (some e) pos) (S.retO i) := by
  refine ⟨_, ps_ret h, fun p B F0 σ ss H F ms En fm po => ?_⟩
  unfold S.retO at po
  split at po
  next d hd =>
    have hi : i < σ.length := by
      rw [fm.sl.len]
      exact (List.getElem?_eq_some_iff.mp hd).1
    obtain ⟨u, e1, q⟩ := fm.sl.ok i _ _ hd (List.getElem?_eq_getElem hi)
    exact ⟨u, by rw [List.getElem?_eq_getElem hi, e1], po u H F fm.ex q⟩
  next ds hd =>
    have hi : i < σ.length := by
      rw [fm.sl.len]
      exact (List.getElem?_eq_some_iff.mp hd).1
    obtain ⟨a, xs, e1, h1, h2, h3, h4, h5⟩ := fm.sl.ok i _ _ hd (List.getElem?_eq_getElem hi)
    exact ⟨.ref a, by rw [List.getElem?_eq_getElem hi, e1], po _ H _ (fm.ex.frz h3 h1 h2 h4) (.lst (SqL.of upd_same) (h5.mono (same_upd h2)))⟩
  next => exact po.elim
end

/-! ### a def -/
def begin (n : Nat) (ds : List D) : SS := ds.map (fun d => some (.dat d)) ++ List.replicate (n - ds.length) none
def fin (o : O) : R D := match o with
  | .nx _ ms => .ok .non ms
  | .rt d ms => .ok d ms
  | .ex c _ ms => .ex c ms
  | _ => .bad
@[simp] theorem fin_rt (d : D) (ms : MS) : fin (.rt d ms) = .ok d ms := rfl
@[simp] theorem fin_nx (ss : SS) (ms : MS) : fin (.nx ss ms) = .ok .non ms := rfl
@[simp] theorem fin_ex (c : Str) (ss : SS) (ms : MS) : fin (.ex c ss ms) = .ex c ms := rfl
/-- a def's mirror from its body's -/
def mirOf (n : Nat) (m : SS → MS → O) : List D → M D := fun ds ms => fin (m (begin n ds) ms)
theorem begin_sl {K : PySem.W.Frag} {p : Option Addr} {B F H : Hp} {N : List Str} {vs : List V} {ds : List D} (q : Dts K p F vs ds) : Sl K p B F H (L2.start N vs) (begin N.length ds) := by
  have hl := q.length
  refine ⟨?_, fun i sv v h1 h2 => ?_, fun i j a es fs h1 h2 h3 h4 => ?_⟩
  · unfold L2.start begin
    rw [List.length_append, List.length_append, List.length_map, List.length_map, List.length_replicate, List.length_replicate, hl]
  · unfold begin at h1
    unfold L2.start at h2
    by_cases hi : i < ds.length
    · rw [List.getElem?_append_left (by rw [List.length_map]; exact hi), List.getElem?_map] at h1
      rw [List.getElem?_append_left (by rw [List.length_map, hl]; exact hi), List.getElem?_map] at h2
      obtain ⟨v', h3, h4⟩ := q.get (i := i) (List.getElem?_eq_getElem hi)
      rw [List.getElem?_eq_getElem hi] at h1
      rw [h3] at h2
      cases h1
      cases h2
      exact ⟨v', rfl, h4⟩
    · rw [List.getElem?_append_right (by rw [List.length_map]; omega)] at h1
      have := List.getElem?_eq_some_iff.mp h1
      obtain ⟨h5, h6⟩ := this
      rw [List.getElem_replicate] at h6
      subst h6
      trivial
  · exfalso
    unfold begin at h1
    by_cases hi : i < ds.length
    · rw [List.getElem?_append_left (by rw [List.length_map]; exact hi), List.getElem?_map, List.getElem?_eq_getElem hi] at h1
      cases h1
    · rw [List.getElem?_append_right (by rw [List.length_map]; omega)] at h1
      obtain ⟨h5, h6⟩ := List.getElem?_eq_some_iff.mp h1
      rw [List.getElem_replicate] at h6
      cases h6
section
variable {P : Program} {w : World} {K : PySem.W.Frag} {mg : Str → Option Value} {base : Heap}
theorem fnm_of {x qual : Str} {st : Stmt} {f : Addr} {fd : FuncData} {N ps : List Str} {k : Nat} {m : SS → MS → O} (F : Fun K x qual st f fd) (S : FnScope N ps (defScope st))
    (hbody : ∀ (cdv : Value) (A : Around) (outer : List Env) (s : Shared) (H : Hp) (E : XK), Room k (A.deeper (envOfC qual (defScope st) s.heap.objs.size f cdv)) →
      ∀ (W : WX), W = (fun cls d _ H => E cls d H) → Takes (cxOf (L2.CX P w) P w K mg base N qual (defScope st) f cdv A outer s H E) W →
        JSs (cxOf (L2.CX P w) P w K mg base N qual (defScope st) f cdv A outer s H E) W (defBody st) m) : FnM P w K mg base (k + 1) f fd ps (mirOf N.length m) := by
  refine F.okX S (fun vs H Q E h => ?_) (fun cdv A outer s H vs Q E hr h => ?_)
  · obtain ⟨p, F, ds, ms, hl, _⟩ := h
    exact hl
  obtain ⟨p, F, ds, ms, hl, hs, q, po⟩ := h
  obtain ⟨t, h1, h2⟩ := hbody cdv A outer s H E hr (fun cls d _ H => E cls d H) rfl (takes_of rfl rfl rfl rfl)
  refine ⟨t, h1, h2 p H F (L2.start N vs) (begin N.length ds) H F ms _ ⟨begin_sl q, Ext.refl hs⟩ ?_⟩
  unfold mirOf at po
  cases r : m (begin N.length ds) ms with
  | nx ss1 ms1 => rw [r] at po; exact fun σ' H' F' fm => po .non H' F' fm.ex .non
  | rt d ms1 => rw [r] at po; exact fun v H' F' e q => po v H' F' e q
  | ex c ss1 ms1 => rw [r] at po; exact fun u hu σ' H' F' fm => po u hu H' F' fm.ex
  | bk ss1 ms1 => rw [r] at po; exact po.elim
  | ct ss1 ms1 => rw [r] at po; exact po.elim
  | bad => rw [r] at po; exact po.elim
end
end Q

set_option Elab.async false
set_option linter.all false
set_option maxRecDepth 100000
set_option maxHeartbeats 4000000
/-! Qd: walks, targets, for, comprehensions. -/
namespace Q
open PySem L2 PyProof.Rows

/-! ### canonical readings -/
def rdE (K : PySem.W.Frag) (mg : Str → Option Value) (W : WX) (m : SS → M D) : TE := fun σ H Q => ∃ (p : Option Addr) (B : Hp) (ss : SS) (F : Hp) (ms : MS), Sl K p B F H σ ss ∧ Hs p F H ms ∧ Po mg W p σ H F (relD K p) (m ss ms) Q
def rdT (K : PySem.W.Frag) (mg : Str → Option Value) (W : WX) (m : SS → M Bool) : TT := fun σ H Q => ∃ (p : Option Addr) (B : Hp) (ss : SS) (F : Hp) (ms : MS), Sl K p B F H σ ss ∧ Hs p F H ms ∧ Po mg W p σ H F relT (m ss ms) Q
section
variable {X : Cx} {W : WX} {e tg iter : Expr} {m : SS → M D}
theorem JE.pe (h : JE X W e m) : PE X e (rdE X.K X.mg W m) := by
  obtain ⟨t, h1, h2⟩ := h
  exact ⟨fun pins s σ H Q I ⟨p, B, ss, F, ms, sl, hs, po⟩ => h1.run pins s σ H Q I (h2 p B σ ss H F ms Q sl hs po)⟩
theorem JT.pt {m : SS → M Bool} (h : JT X W e m) : PT X e (rdT X.K X.mg W m) := by
  obtain ⟨t, h1, h2⟩ := h
  exact ⟨fun pins s σ H Q I ⟨p, B, ss, F, ms, sl, hs, po⟩ => h1.run pins s σ H Q I (h2 p B σ ss H F ms Q sl hs po)⟩
end

/-! ### walks -/
/-- what an iterator yields -/
def Seqs (K : PySem.W.Frag) (p : Option Addr) (F : Hp) (J : It) (ds : List D) : Prop := ∀ (H1 F1 : Hp) (ms : MS), Same F F1 → Hs p F1 H1 ms → ∀ i : Nat,
  (∀ d, ds[i]? = some d → J.go i H1 ∧ ∀ x H2, J.yld i H1 x H2 → ∃ F2, Ext p H1 F1 H2 F2 ms ∧ Dt K p F2 x d) ∧ (ds.length ≤ i → J.stop i H1)
def JI (X : Cx) (W : WX) (tg iter : Expr) (m : SS → M (List D)) : Prop := ∃ wi, PI X tg iter wi ∧ ∀ (p : Option Addr) (B : Hp) (σ : L2.St) (ss : SS) (H F : Hp) (ms : MS) (Rr : It → Hp → Prop),
  Sl X.K p B F H σ ss → Hs p F H ms → Po X.mg W p σ H F (fun F' _ J ds => Seqs X.K p F' J ds) (m ss ms) Rr → wi σ H Rr
theorem PI.or {X : Cx} {tg iter : Expr} {w1 w2 : TI} (h1 : PI X tg iter w1) (h2 : PI X tg iter w2) : PI X tg iter (fun σ H R => w1 σ H R ∨ w2 σ H R) :=
  ⟨fun pins s σ H R I h => h.elim (h1.run pins s σ H R I) (h2.run pins s σ H R I)⟩
def chars (x : Str) : List D := x.cps.toList.map fun c => D.str ⟨#[c]⟩
def itemsD : D → M (List D)
  | .lst ds => fun ms => .ok ds ms
  | .tup ds => fun ms => .ok ds ms
  | .str x => fun ms => .ok (chars x) ms
  | _ => fun _ => .bad
def rangeD (lo : Int) (n : Nat) : List D := (List.range n).map fun (k : Nat) => D.int (lo + (k : Int))
def range1 : List D → M (List D)
  | [.int j] => fun ms => if -(2 ^ 62) ≤ j ∧ j < 2 ^ 62 then .ok (rangeD 0 j.toNat) ms else .bad
  | _ => fun _ => .bad
def range2 : List D → M (List D)
  | [.int i, .int j] => fun ms => if -(2 ^ 62) ≤ i ∧ i < 2 ^ 62 ∧ -(2 ^ 62) ≤ j ∧ j < 2 ^ 62 then .ok (rangeD i (j - i).toNat) ms else .bad
  | _ => fun _ => .bad
def E.its (m : SS → M D) : SS → M (List D) := fun ss ms => (m ss ms).bind itemsD
def E.itsA (f : List D → M (List D)) (m : SS → M (List D)) : SS → M (List D) := fun ss ms => (m ss ms).bind f
theorem seqs_list' {K : PySem.W.Frag} {p : Option Addr} {F : Hp} {a : Addr} {xs : List V} {ds : List D} (h : SqL K F a xs) (r : Dts K p F xs ds) : Seqs K p F (Itl K a) ds := by
  intro H1 F1 ms sf hs i
  have h1 : SqL K H1 a xs := same_l hs.fh (same_l sf h)
  refine ⟨fun d hd => ?_, fun hl => ⟨xs, h1, by rw [r.length]; exact hl⟩⟩
  obtain ⟨v, hv, q⟩ := r.get hd
  refine ⟨⟨xs, v, h1, hv⟩, fun x H2 hy => ?_⟩
  obtain ⟨rfl, hx⟩ := hy
  have := hx xs h1
  rw [hv] at this
  cases this
  exact ⟨F1, Ext.refl hs, q.mono sf⟩
theorem seqs_tup {K : PySem.W.Frag} {p : Option Addr} {F : Hp} {a : Addr} {xs : List V} {ds : List D} (h : SqT K F a xs) (r : Dts K p F xs ds) : Seqs K p F (Itt K a) ds := by
  intro H1 F1 ms sf hs i
  have h1 : SqT K H1 a xs := same_t hs.fh (same_t sf h)
  refine ⟨fun d hd => ?_, fun hl => ⟨xs, h1, by rw [r.length]; exact hl⟩⟩
  obtain ⟨v, hv, q⟩ := r.get hd
  refine ⟨⟨xs, v, h1, hv⟩, fun x H2 hy => ?_⟩
  obtain ⟨rfl, hx⟩ := hy
  have := hx xs h1
  rw [hv] at this
  cases this
  exact ⟨F1, Ext.refl hs, q.mono sf⟩
theorem seqs_str {K : PySem.W.Frag} {p : Option Addr} {F : Hp} {x : Str} : Seqs K p F (Its x) (chars x) := by
  intro H1 F1 ms sf hs i
  refine ⟨fun d hd => ?_, fun hl => ?_⟩
  · unfold chars at hd
    rw [List.getElem?_map] at hd
    have hi : i < x.cps.size := by
      cases q : x.cps.toList[i]? with
      | none => rw [q] at hd; cases hd
      | some c => have := (List.getElem?_eq_some_iff.mp q).1; simpa using this
    refine ⟨hi, fun v H2 hy => ?_⟩
    obtain ⟨rfl, c, hc, rfl⟩ := hy
    have : x.cps.toList[i]? = some c := by simpa using hc
    rw [this] at hd
    cases hd
    exact ⟨F1, Ext.refl hs, .str _⟩
  · unfold chars at hl
    rw [List.length_map] at hl
    have hl' : x.cps.size ≤ i := by simpa using hl
    exact hl'
theorem seqs_range {K : PySem.W.Frag} {p : Option Addr} {F : Hp} {lo : Int} {n : Nat} : Seqs K p F (Itr lo n) (rangeD lo n) := by
  intro H1 F1 ms sf hs i
  unfold rangeD
  refine ⟨fun d hd => ?_, fun hl => ?_⟩
  · rw [List.getElem?_map] at hd
    have hi : i < n := by
      cases q : (List.range n)[i]? with
      | none => rw [q] at hd; cases hd
      | some c => have := (List.getElem?_eq_some_iff.mp q).1; simpa using this
    rw [List.getElem?_range hi] at hd
    cases hd
    refine ⟨hi, fun v H2 hy => ?_⟩
    obtain ⟨rfl, rfl⟩ := hy
    exact ⟨F1, Ext.refl hs, .int _⟩
  · have hl' : n ≤ i := by simpa using hl
    exact hl'
section
variable {X : Cx} {W : WX} {e tg iter : Expr} {m : SS → M D}
theorem ji_items (h : JE X W e m) : JI X W tg e (E.its m) := by
  obtain ⟨t, h1, h2⟩ := h
  refine ⟨_, PI.or (pi_list h1) (PI.or (pi_tup h1) (pi_str h1)), fun p B σ ss H F ms Rr s hs po => ?_⟩
  unfold E.its at po
  cases r : m ss ms with
  | bad => rw [r] at po; exact po.elim
  | ex c ms' =>
    rw [r] at po
    exact .inl (h2 p B σ ss H F ms _ s hs (by rw [r]; exact po))
  | ok d ms1 =>
    rw [r] at po
    have k : ∀ Q : VK, (∀ v H' F', Ext p H F H' F' ms1 → Dt X.K p F' v d → Q v H') → t σ H Q := fun Q q => h2 p B σ ss H F ms Q s hs (by rw [r]; exact q)
    match d, po with
    | .lst ds, po =>
      refine .inl (k _ fun v H' F' e1 q => ?_)
      cases q with
      | lst hl rl => exact ⟨_, rfl, ⟨_, same_l e1.hs.fh hl⟩, (Po.ext e1 po : Po X.mg W p σ H' F' (fun F' _ J ds => Seqs X.K p F' J ds) (.ok ds ms1) Rr).ok e1.hs (seqs_list' hl rl)⟩
    | .tup ds, po =>
      refine .inr (.inl (k _ fun v H' F' e1 q => ?_))
      cases q with
      | tup hl rl => exact ⟨_, rfl, ⟨_, same_t e1.hs.fh hl⟩, (Po.ext e1 po : Po X.mg W p σ H' F' (fun F' _ J ds => Seqs X.K p F' J ds) (.ok ds ms1) Rr).ok e1.hs (seqs_tup hl rl)⟩
    | .str x, po =>
      refine .inr (.inr (k _ fun v H' F' e1 q => ?_))
      cases q
      exact ⟨x, rfl, (Po.ext e1 po : Po X.mg W p σ H' F' (fun F' _ J ds => Seqs X.K p F' J ds) (.ok (chars x) ms1) Rr).ok e1.hs seqs_str⟩
    | .non, po => exact po.elim
    | .bl _, po => exact po.elim
    | .int _, po => exact po.elim
    | .dct _ _, po => exact po.elim
    | .pot, po => exact po.elim
    | .fn _, po => exact po.elim
    | .ty _, po => exact po.elim
theorem ji_range1 {a : Expr} {mr : SS → M (List D)} {p0 pos : Pos} (hg : Gl X "range") (hm : X.mg "range" = none) (ha : JA X W [a] mr) (hs : starEach [a] X.env = [(false, eval a X.env)] := by rfl) : JI X W tg (.Call (.Name "range" p0) [a] [] pos) (E.itsA range1 mr) := by
  obtain ⟨t, h1, h2⟩ := ha
  refine ⟨_, pi_range1 hg hm h1 hs, fun p B σ ss H F ms Rr s hs po => ?_⟩
  refine h2 p B σ ss H F ms _ s hs (po.bind fun ds ms1 vs H1 F1 e1 q1 po1 => ?_)
  match ds, q1, po1 with
  | [.int j], .cons q1 .nil, po1 =>
    cases q1
    have po2 : Po X.mg W p σ H1 F1 (fun F' _ J ds => Seqs X.K p F' J ds) (if -(2 ^ 62) ≤ j ∧ j < 2 ^ 62 then R.ok (rangeD 0 j.toNat) ms1 else .bad) Rr := po1
    by_cases hj : -(2 ^ 62) ≤ j ∧ j < 2 ^ 62
    · rw [if_pos hj] at po2
      exact ⟨j, rfl, hj.1, hj.2, po2.ok e1.hs seqs_range⟩
    · rw [if_neg hj] at po2
      exact po2.elim
theorem ji_range2 {a b : Expr} {mr : SS → M (List D)} {p0 pos : Pos} (hg : Gl X "range") (hm : X.mg "range" = none) (ha : JA X W [a, b] mr) (hs : starEach [a, b] X.env = [(false, eval a X.env), (false, eval b X.env)] := by rfl) (hs2 : starEach [b] X.env = [(false, eval b X.env)] := by rfl) :
    JI X W tg (.Call (.Name "range" p0) [a, b] [] pos) (E.itsA range2 mr) := by
  obtain ⟨t, h1, h2⟩ := ha
  refine ⟨_, pi_range2 hg hm h1 hs hs2, fun p B σ ss H F ms Rr s hs po => ?_⟩
  refine h2 p B σ ss H F ms _ s hs (po.bind fun ds ms1 vs H1 F1 e1 q1 po1 => ?_)
  match ds, q1, po1 with
  | [.int i, .int j], .cons q1 (.cons q2 .nil), po1 =>
    cases q1
    cases q2
    have po2 : Po X.mg W p σ H1 F1 (fun F' _ J ds => Seqs X.K p F' J ds) (if -(2 ^ 62) ≤ i ∧ i < 2 ^ 62 ∧ -(2 ^ 62) ≤ j ∧ j < 2 ^ 62 then R.ok (rangeD i (j - i).toNat) ms1 else .bad) Rr := po1
    by_cases hj : -(2 ^ 62) ≤ i ∧ i < 2 ^ 62 ∧ -(2 ^ 62) ≤ j ∧ j < 2 ^ 62
    · rw [if_pos hj] at po2
      exact ⟨i, j, rfl, hj, po2.ok e1.hs seqs_range⟩
    · rw [if_neg hj] at po2
      exact po2.elim
end

/-! ### targets -/
abbrev G := D → SS → Option SS
def JG (X : Cx) (tg : Expr) (is : List Nat) (g : G) : Prop := ∃ gt, PG X tg gt ∧ ∀ (p : Option Addr) (B F H : Hp) (σ : L2.St) (ss ss' : SS) (v : V) (d : D) (ms : MS) (Q : L2.St → Hp → Prop),
  Sl X.K p B F H σ ss → Hs p F H ms → Dt X.K p F v d → g d ss = some ss' → (∀ σ', Sl X.K p B F H σ' ss' → (∀ vs : List Nat, (∀ i ∈ is, i ∈ vs) → wipe σ' vs = wipe σ vs) → Q σ' H) → gt v σ H Q
def g1 (i : Nat) : G := fun d ss => some (ss.set i (some (.dat d)))
def gsL : List G → List D → SS → Option SS
  | [], [], ss => some ss
  | g :: gs, d :: ds, ss => (g d ss).bind (gsL gs ds)
  | _, _, _ => none
def gT (gs : List G) : G := fun d ss => match d with
  | .tup ds => gsL gs ds ss
  | _ => none
def JGs (X : Cx) (tgs : List Expr) (is : List Nat) (gs : List G) : Prop := ∃ gt, PGs X tgs gt ∧ ∀ (p : Option Addr) (B F H : Hp) (σ : L2.St) (ss ss' : SS) (vs : List V) (ds : List D) (ms : MS) (Q : L2.St → Hp → Prop),
  Sl X.K p B F H σ ss → Hs p F H ms → Dts X.K p F vs ds → gsL gs ds ss = some ss' → (∀ σ', Sl X.K p B F H σ' ss' → (∀ vs : List Nat, (∀ i ∈ is, i ∈ vs) → wipe σ' vs = wipe σ vs) → Q σ' H) → gt vs σ H Q
theorem set_get {α : Type} {l : List α} {i j : Nat} {x : α} : (l.set i x)[j]? = if i = j then (if i < l.length then some x else none) else l[j]? := by
  by_cases h : i = j
  · subst h
    rw [if_pos rfl]
    by_cases hl : i < l.length
    · rw [if_pos hl, List.getElem?_set_self hl]
    · rw [if_neg hl]
      exact List.getElem?_eq_none_iff.mpr (by rw [List.length_set]; omega)
  · rw [if_neg h, List.getElem?_set_ne h]
theorem wipe_get (σ : L2.St) : ∀ (vs : List Nat) (j : Nat), (wipe σ vs)[j]? = if j ∈ vs then (if j < σ.length then some none else none) else σ[j]?
  | [], j => by simp [wipe]
  | v :: vs, j => by
    unfold wipe
    rw [set_get, wipe_length, wipe_get σ vs j]
    by_cases h : v = j
    · subst h
      simp
    · rw [if_neg h]
      have : (j ∈ v :: vs) = (j ∈ vs) := by simp [Ne.symm h]
      simp only [this]
theorem wipe_set {σ : L2.St} {i : Nat} {x : Option V} {vs : List Nat} (h : i ∈ vs) : wipe (σ.set i x) vs = wipe σ vs := by
  refine List.ext_getElem? fun j => ?_
  rw [wipe_get, wipe_get, List.length_set, set_get]
  by_cases hj : j ∈ vs
  · rw [if_pos hj, if_pos hj]
  · rw [if_neg hj, if_neg hj, if_neg (show ¬ i = j from fun e => hj (e ▸ h))]
section
variable {X : Cx} {tg : Expr} {tgs : List Expr} {is js : List Nat} {g : G} {gs : List G}
theorem jg_name {i : Nat} {x : Str} {pos : Pos} (hN : X.N.Nodup) (hi : X.N[i]? = some x := by rfl) (hx : Loc X.env.scope x := by first | exact Or.inl rfl | exact Or.inr rfl) (hf : X.fn x = true ∨ X.env.scope.names.lookup x = some .local := by first | exact .inl rfl | exact .inr rfl) :
    JG X (.Name x pos) [i] (g1 i) := by
  refine ⟨_, pg_name hN hi hx hf, fun p B F H σ ss ss' v d ms Q s hs q e k => ?_⟩
  cases e
  exact k _ (s.set q) fun vs h => wipe_set (h i (by simp))
theorem jgs_nil : JGs X [] [] [] := by
  refine ⟨_, pgs_nil, fun p B F H σ ss ss' vs ds ms Q s hs q e k => ?_⟩
  cases q with
  | nil =>
    cases e
    exact ⟨rfl, k σ s fun _ _ => rfl⟩
  | cons _ _ => cases e
theorem jgs_cons (h1 : JG X tg is g) (h2 : JGs X tgs js gs) (hs : (assignEach (tg :: tgs) X.env).map (·.2) = assign tg X.env :: (assignEach tgs X.env).map (·.2) := by rfl) : JGs X (tg :: tgs) (is ++ js) (g :: gs) := by
  obtain ⟨t, h1, h3⟩ := h1
  obtain ⟨u, h2, h4⟩ := h2
  refine ⟨_, pgs_cons h1 h2 hs, fun p B F H σ ss ss' vs ds ms Q s hs q e k => ?_⟩
  cases q with
  | nil => cases e
  | cons q r =>
    unfold gsL at e
    rename_i d ds
    cases e1 : g d ss with
    | none => rw [e1] at e; cases e
    | some ss1 =>
      rw [e1] at e
      refine ⟨_, _, rfl, h3 p B F H σ ss ss1 _ d ms _ s hs q e1 fun σ1 s1 w1 => ?_⟩
      refine h4 p B F H σ1 ss1 ss' _ ds ms _ s1 hs r e fun σ2 s2 w2 => ?_
      exact k σ2 s2 fun vs h => (w2 vs fun i hi => h i (List.mem_append_right _ hi)).trans (w1 vs fun i hi => h i (List.mem_append_left _ hi))
theorem gsL_len : ∀ {gs : List G} {ds : List D} {ss ss' : SS}, gsL gs ds ss = some ss' → ds.length = gs.length
  | [], [], _, _, _ => rfl
  | g :: gs, d :: ds, ss, ss', e => by
    unfold gsL at e
    cases e1 : g d ss with
    | none => rw [e1] at e; cases e
    | some ss1 =>
      rw [e1] at e
      exact congrArg (· + 1) (gsL_len (gs := gs) (ds := ds) e)
  | [], _ :: _, _, _, e => by cases e
  | _ :: _, [], _, _, e => by cases e
theorem jg_tup {k : Nat} {pos : Pos} (h : JGs X tgs is gs) (hc : X.calm = true := by rfl) (hn : (assignEach tgs X.env).length = gs.length := by rfl) (hst : (assignEach tgs X.env).findIdx? (·.1) = none := by rfl) : JG X (.Tuple tgs k pos) is (gT gs) := by
  obtain ⟨t, h1, h2⟩ := h
  refine ⟨_, pg_tup hc h1 hn hst, fun p B F H σ ss ss' v d ms Q s hs q e k => ?_⟩
  cases d with
  | tup ds =>
    cases q with
    | tup hq r =>
      have e' : gsL gs ds ss = some ss' := e
      exact ⟨_, _, rfl, same_t hs.fh hq, by rw [r.length]; exact gsL_len e', h2 p B F H σ ss ss' _ ds ms Q s hs r e' k⟩
  | _ => cases e
end

/-! ### a target that is no plain name is assigned -/
namespace S
def asg (g : G) (m : SS → M D) : SS → MS → O := fun ss ms => (m ss ms).o ss fun d ms1 => match g d ss with
  | some ss1 => .nx ss1 ms1
  | none => .bad
/-- a loop over items -/
def forL (g : G) (b : SS → MS → O) : List D → SS → MS → O
  | [], ss, ms => .nx ss ms
  | d :: r, ss, ms => match g d ss with
    | none => .bad
    | some ss1 => match b ss1 ms with
      | .nx ss2 ms2 => forL g b r ss2 ms2
      | .ct ss2 ms2 => forL g b r ss2 ms2
      | .bk ss2 ms2 => .nx ss2 ms2
      | .rt d ms2 => .rt d ms2
      | .ex c ss2 ms2 => .ex c ss2 ms2
      | .bad => .bad
def for_ (m : SS → M (List D)) (g : G) (b : SS → MS → O) : SS → MS → O := fun ss ms => (m ss ms).o ss fun ds ms1 => forL g b ds ss ms1
end S
theorem Ext.re {p : Option Addr} {B F0 H F : Hp} {ms : MS} (e : Ext p B F0 H F ms) : Ext p B F H F ms := ⟨Same.refl F, fun _ _ _ q => q, e.kp, e.hs⟩
theorem Ext.co {p : Option Addr} {B F0 H F H' F' : Hp} {ms ms' : MS} (e : Ext p B F0 H F ms) (e' : Ext p B F H' F' ms') : Ext p B F0 H' F' ms' :=
  ⟨e.ff.trans e'.ff, fun b o h q => e'.nf b o h (e.nf b o h q), e'.kp, e'.hs⟩
theorem Fm.co {K : PySem.W.Frag} {p : Option Addr} {B F0 F H F' H' : Hp} {σ' : L2.St} {ss' : SS} {ms ms' : MS} (f : Fm K p B F F' H' σ' ss' ms') (e : Ext p B F0 H F ms) : Fm K p B F0 F' H' σ' ss' ms' := ⟨f.sl, e.co f.ex⟩
section
variable {X : Cx} {W : WX} {tg e iter : Expr} {is : List Nat} {g : G} {ma : SS → M D} {pos : Pos} {body : List Stmt} {mb : SS → MS → O}
theorem js_asg (h : JE X W e ma) (hg : JG X tg is g) (hs : swapsWithSole [tg] e pos.line X.env = pure false := by rfl) (hw : swappedStores [tg] e X.env = pure none := by rfl) (ho : List.map (fun x => x.2) (assignEach [tg] X.env) = [assign tg X.env] := by rfl) : JS X W (.Assign [tg] e pos) (S.asg g ma) := by
  obtain ⟨t, h1, h2⟩ := h
  obtain ⟨u, h3, h4⟩ := hg
  refine ⟨_, ps_asg h1 h3 hs hw ho, fun p B F0 σ ss H F ms En fm po => ?_⟩
  refine h2 p B σ ss H F ms _ fm.sl fm.ex.hs (fm.po po fun x ms1 v H1 F1 fm1 _ q po1 => ?_)
  cases e1 : g x ss with
  | none => rw [e1] at po1; exact po1.elim
  | some ss1 =>
    rw [e1] at po1
    exact h4 p B F1 H1 σ ss ss1 v x ms1 _ fm1.sl fm1.ex.hs q e1 fun σ' s' _ => po1 σ' H1 F1 ⟨s', fm1.ex⟩
theorem js_for {mi : SS → M (List D)} (hp : PassesOwn (model X.prog X.w) X.A X.env X.xe) (hi : JI X W tg iter mi) (hg : JG X tg is g) (hb : JSs X W body mb) (hc : X.calm = true := by rfl) (hs : ∀ x, foldedSetIterable iter X.env x = pure x := by intro _; rfl) :
    JS X W (.For tg iter body [] pos) (S.for_ mi g mb) := by
  obtain ⟨wi, h1, h2⟩ := hi
  obtain ⟨gt, h3, h4⟩ := hg
  obtain ⟨t, h5, h6⟩ := hb
  refine ⟨_, ps_for hp hc h1 h3 h5 hs, fun p B F0 σ ss H F ms En fm po => ?_⟩
  refine h2 p B σ ss H F ms _ fm.sl fm.ex.hs (fm.po po fun ds ms1 J H1 F1 fm1 _ q po1 => ?_)
  refine ⟨fun i m σ H => m = ds.length - i ∧ i ≤ ds.length ∧ ∃ F ss ms, Fm X.K p B F0 F H σ ss ms ∧ Same F1 F ∧ PoS X.K X.mg W p B F0 (S.forL g mb (ds.drop i) ss ms) En, ⟨ds.length, by simp, Nat.zero_le _, F1, ss, ms1, fm1, Same.refl _, po1⟩, ?_⟩
  rintro i m σ H ⟨rfl, hi, F, ss, ms, fm, sf, po⟩
  obtain ⟨sg, st⟩ := q H F ms sf fm.ex.hs i
  by_cases hlt : i < ds.length
  · right
    have hd : ds[i]? = some ds[i] := List.getElem?_eq_getElem hlt
    rw [List.drop_eq_getElem_cons hlt] at po
    obtain ⟨go, yl⟩ := sg _ hd
    refine ⟨go, fun σ' H' => i + 1 ≤ ds.length ∧ ∃ F ss ms, Fm X.K p B F0 F H' σ' ss ms ∧ Same F1 F ∧ PoS X.K X.mg W p B F0 (S.forL g mb (ds.drop (i + 1)) ss ms) En, fun σ' H' h => ⟨_, by omega, rfl, h⟩, fun x H' hy => ?_⟩
    obtain ⟨F2, e2, q2⟩ := yl x H' hy
    unfold S.forL at po
    cases eg : g ds[i] ss with
    | none => rw [eg] at po; exact po.elim
    | some ss1 =>
      rw [eg] at po
      refine h4 p B F2 H' σ ss ss1 x _ ms _ (fm.sl.ext e2) e2.hs q2 eg fun σ' s' _ => ?_
      have ex2 := fm.ex.trans e2
      refine h6 p B F2 σ' ss1 H' F2 ms _ ⟨s', ex2.re⟩ ?_
      have sf2 : Same F1 F2 := sf.trans e2.ff
      have po' : PoS X.K X.mg W p B F0 (match mb ss1 ms with
        | .nx ss2 ms2 => S.forL g mb (ds.drop (i + 1)) ss2 ms2
        | .ct ss2 ms2 => S.forL g mb (ds.drop (i + 1)) ss2 ms2
        | .bk ss2 ms2 => .nx ss2 ms2
        | .rt d ms2 => .rt d ms2
        | .ex c ss2 ms2 => .ex c ss2 ms2
        | .bad => .bad) En := po
      cases r : mb ss1 ms with
      | nx ss2 ms2 => rw [r] at po'; exact fun σ3 H3 F3 f3 => ⟨hlt, F3, ss2, ms2, f3.co ex2, sf2.trans f3.ex.ff, po'⟩
      | ct ss2 ms2 => rw [r] at po'; exact fun σ3 H3 F3 f3 => ⟨hlt, F3, ss2, ms2, f3.co ex2, sf2.trans f3.ex.ff, po'⟩
      | bk ss2 ms2 => rw [r] at po'; exact fun σ3 H3 F3 f3 => po' σ3 H3 F3 (f3.co ex2)
      | rt d ms2 => rw [r] at po'; exact fun v H3 F3 e3 q3 => po' v H3 F3 (ex2.co e3) q3
      | ex c ss2 ms2 => rw [r] at po'; exact fun u hu σ3 H3 F3 f3 => po' u hu σ3 H3 F3 (f3.co ex2)
      | bad => rw [r] at po'; exact po'.elim
  · left
    have hl : ds.length ≤ i := by omega
    refine ⟨st hl, ?_⟩
    rw [List.drop_eq_nil_of_le hl] at po
    exact po σ H F fm
end

/-! ### list comprehensions -/
def wipeS (ss : SS) : List Nat → SS
  | [] => ss
  | v :: vs => (wipeS ss vs).set v none
theorem wipeS_length (ss : SS) : ∀ vs : List Nat, (wipeS ss vs).length = ss.length
  | [] => rfl
  | v :: vs => by unfold wipeS; rw [List.length_set, wipeS_length ss vs]
theorem wipeS_get (ss : SS) : ∀ (vs : List Nat) (j : Nat), (wipeS ss vs)[j]? = if j ∈ vs then (if j < ss.length then some none else none) else ss[j]?
  | [], j => by simp [wipeS]
  | v :: vs, j => by
    unfold wipeS
    rw [set_get, wipeS_length, wipeS_get ss vs j]
    by_cases h : v = j
    · subst h
      simp
    · rw [if_neg h]
      have : (j ∈ v :: vs) = (j ∈ vs) := by simp [Ne.symm h]
      simp only [this]
theorem Sl.wipe {K : PySem.W.Frag} {p : Option Addr} {B F H : Hp} {σ : L2.St} {ss : SS} (s : Sl K p B F H σ ss) (vs : List Nat) : Sl K p B F H (L2.wipe σ vs) (wipeS ss vs) := by
  refine ⟨by rw [wipe_length, wipeS_length]; exact s.len, fun i sv v h1 h2 => ?_, fun i j a ds es h1 h2 h3 h4 => ?_⟩
  · rw [wipeS_get] at h1
    rw [wipe_get] at h2
    by_cases hi : i ∈ vs
    · rw [if_pos hi] at h1 h2
      by_cases hl : i < ss.length
      · rw [if_pos hl] at h1
        cases h1
        trivial
      · rw [if_neg hl] at h1
        cases h1
    · rw [if_neg hi] at h1 h2
      exact s.ok i sv v h1 h2
  · rw [wipeS_get] at h1 h2
    rw [wipe_get] at h3 h4
    by_cases hi : i ∈ vs
    · rw [if_pos hi] at h1
      split at h1 <;> cases h1
    · rw [if_neg hi] at h1 h3
      by_cases hj : j ∈ vs
      · rw [if_pos hj] at h2
        split at h2 <;> cases h2
      · rw [if_neg hj] at h2 h4
        exact s.ap i j a ds es h1 h2 h3 h4
namespace E
def lcRun (g : G) (t : SS → M Bool) (e : SS → M D) (ss : SS) : List D → List D → M (List D)
  | [], acc, ms => .ok acc ms
  | d :: r, acc, ms => match g d ss with
    | none => .bad
    | some ss1 => match t ss1 ms with
      | .ok true ms1 => match e ss1 ms1 with
        | .ok y ms2 => if acc.length < 100000 then lcRun g t e ss r (acc ++ [y]) ms2 else .bad
        | _ => .bad
      | .ok false ms1 => lcRun g t e ss r acc ms1
      | _ => .bad
def yes : SS → M Bool := fun _ ms => .ok true ms
def lc (vs : List Nat) (m : SS → M (List D)) (g : G) (t : SS → M Bool) (e : SS → M D) : SS → M D := fun ss ms => (m ss ms).bind fun ds ms1 => (lcRun g t e (wipeS ss vs) ds [] ms1).bind fun ys ms2 => .ok (.lst ys) ms2
end E
abbrev W0 : WX := fun _ _ _ _ => False
/-- the blocks in which a comprehension's parts stand -/
abbrev Blk (X : Cx) (scope : Scope) (P : Cx → Prop) : Prop := ∀ (s : Shared) (H : Hp) (C : Addr) (cl : List (Str × Addr)) (fp : List Addr), P (X.blk s H scope (compEnvC scope cl C X.env) fp)
section
variable {X : Cx} {W : WX} {tg elt iter c : Expr} {ifs : List Expr} {is : List Nat} {g : G} {mi : SS → M (List D)} {mt : SS → M Bool} {me : SS → M D} {pos : Pos} {scope : Scope} {own : List (Str × Nat)}
def rdG (K : PySem.W.Frag) (is : List Nat) (g : G) : TG := fun v σ H Q => ∃ (p : Option Addr) (B F : Hp) (ss ss' : SS) (d : D) (ms : MS), Sl K p B F H σ ss ∧ Hs p F H ms ∧ Dt K p F v d ∧ g d ss = some ss' ∧
  ∀ σ', Sl K p B F H σ' ss' → (∀ vs : List Nat, (∀ i ∈ is, i ∈ vs) → wipe σ' vs = wipe σ vs) → Q σ' H
theorem JG.pg (h : JG X tg is g) : PG X tg (rdG X.K is g) := by
  obtain ⟨t, h1, h2⟩ := h
  exact ⟨fun pins s σ H v u Q I r ⟨p, B, F, ss, ss', d, ms, sl, hs, q, e, k⟩ => h1.run pins s σ H v u Q I r (h2 p B F H σ ss ss' v d ms Q sl hs q e k)⟩
/-- the tests: none, or one -/
def JTs (X : Cx) (ifs : List Expr) (m : SS → M Bool) : Prop := PTs X ifs (rdT X.K X.mg W0 m)
theorem jts_nil : JTs X [] E.yes := ⟨fun pins s σ H Q I ⟨p, B, ss, F, ms, sl, hs, po⟩ => pts_nil.run pins s σ H Q I (po.ok hs rfl)⟩
theorem jts_one (h : JT X W0 c mt) : JTs X [c] mt := pts_one h.pt
theorem lc_ok {p : Option Addr} {B : Hp} {σ : L2.St} {ss : SS} {H F : Hp} {ms : MS} {Q : VK} {K : PySem.W.Frag} {mg : Str → Option Value} {J : It} {ds : List D} (vs : List Nat) (hv : ∀ i ∈ is, i ∈ vs) (s : Sl K p B F H σ ss) (hs : Hs p F H ms) (q : Seqs K p F J ds)
    {H0 : Hp} (h0 : ∀ b, H b = none → H0 b = none) (po : Po mg W p σ H F (relN K p H0) ((E.lcRun g mt me (wipeS ss vs) ds [] ms).bind fun ys ms2 => .ok (.lst ys) ms2) Q) :
    ∀ Dd, H Dd = none → ∃ Wm : Nat → Nat → Hp → Prop, (∃ m, Wm 0 m (upd H Dd (.lst []))) ∧ ∀ i m H, Wm i m H →
      (J.stop i H ∧ Q (.ref Dd) H) ∨ (J.go i H ∧ ∃ Nx : Hp → Prop, (∀ H', Nx H' → ∃ m', m' < m ∧ Wm (i + 1) m' H') ∧ ∀ x H', J.yld i H x H' → rdG K is g x (wipe σ vs) H' fun σ2 H2 => wipe σ2 vs = wipe σ vs ∧ rdT K mg W0 mt σ2 H2 fun b H3 =>
        if b = true then rdE K mg W0 me σ2 H3 fun y H4 => ∃ acc, H4 Dd = some (.lst acc) ∧ acc.length < sizeLine ∧ Nx (upd H4 Dd (.lst (acc ++ [y]))) else Nx H3) := by
  intro Dd hD
  have fD : F Dd = none := by
    cases e : F Dd with
    | none => rfl
    | some u => rw [hs.fh _ u e] at hD; cases hD
  have pD : p ≠ some Dd := fun z => by
    have := hs.pot Dd z
    rw [hD] at this
    cases this
  -- between two turns
  let I : Nat → Hp → Prop := fun i H1 => ∃ F1 ms1 accV accD, Ext p H F H1 F1 ms1 ∧ H1 Dd = some (.lst accV) ∧ F1 Dd = none ∧ Dts K p F1 accV accD ∧ accD.length ≤ 100000 ∧
    Po mg W p σ H F (relN K p H0) ((E.lcRun g mt me (wipeS ss vs) (ds.drop i) accD ms1).bind fun ys ms2 => .ok (.lst ys) ms2) Q
  have start : I 0 (upd H Dd (.lst [])) := by
    obtain ⟨e0, _, _⟩ := Ext.lay (o := .lst []) hs hD
    exact ⟨F, ms, [], [], e0, upd_same, fD, .nil, by simp, po⟩
  refine ⟨fun i m H => m = ds.length - i ∧ i ≤ ds.length ∧ I i H, ⟨ds.length, by simp, Nat.zero_le _, start⟩, ?_⟩
  rintro i m H1 ⟨rfl, hi, F1, ms1, accV, accD, e1, hacc, fD1, qa, hz, po1⟩
  obtain ⟨sg, st⟩ := q H1 F1 ms1 e1.ff e1.hs i
  by_cases hlt : i < ds.length
  · right
    have hd : ds[i]? = some ds[i] := List.getElem?_eq_getElem hlt
    rw [List.drop_eq_getElem_cons hlt] at po1
    obtain ⟨go, yl⟩ := sg _ hd
    refine ⟨go, fun H' => i + 1 ≤ ds.length ∧ I (i + 1) H', fun H' h => ⟨_, by omega, rfl, h⟩, fun x H2 hy => ?_⟩
    obtain ⟨F2, e2, q2⟩ := yl x H2 hy
    unfold E.lcRun at po1
    cases eg : g ds[i] (wipeS ss vs) with
    | none => rw [eg] at po1; exact po1.elim
    | some ss1 =>
      rw [eg] at po1
      refine ⟨p, B, F2, wipeS ss vs, ss1, ds[i], ms1, ((s.ext e1).ext e2).wipe vs, e2.hs, q2, eg, fun σ2 s2 w2 => ⟨?_, ?_⟩⟩
      · have := w2 vs hv
        rw [this]
        refine List.ext_getElem? fun j => ?_
        rw [wipe_get, wipe_get, wipe_length]
        split <;> rfl
      refine ⟨p, B, ss1, F2, ms1, s2, e2.hs, ?_⟩
      cases rt : mt ss1 ms1 with
      | bad => simp only [rt] at po1; exact po1.elim
      | ex c ms2 => simp only [rt] at po1; exact po1.elim
      | ok b ms2 =>
        intro b' H3 F3 e3 hb
        cases hb
        have e13 := (e1.trans e2).trans e3
        cases b with
        | false =>
          simp only [rt] at po1
          rw [if_neg Bool.false_ne_true]
          exact ⟨hlt, F3, ms2, accV, accD, e13, (e2.trans e3).kp _ _ hacc pD, (e2.trans e3).nf _ _ hacc fD1, qa.mono (e2.trans e3).ff, hz, po1⟩
        | true =>
          rw [if_pos rfl]
          refine ⟨p, B, ss1, F3, ms2, s2.ext e3, e3.hs, ?_⟩
          cases re : me ss1 ms2 with
          | bad => simp only [rt, re] at po1; exact po1.elim
          | ex c ms3 => simp only [rt, re] at po1; exact po1.elim
          | ok y ms3 =>
            simp only [rt, re] at po1
            intro v H4 F4 e4 qy
            have e24 := (e2.trans e3).trans e4
            have hD4 := e24.kp _ _ hacc pD
            have fD4 := e24.nf _ _ hacc fD1
            by_cases hl : accD.length < 100000
            · rw [if_pos hl] at po1
              refine ⟨accV, hD4, by rw [qa.length]; exact sz5lt hl, hlt, F4, ms3, accV ++ [v], accD ++ [y], ?_, upd_same, fD4, (qa.mono e24.ff).snoc qy, by rw [List.length_append]; simp; omega, ?_⟩
              · exact (e1.trans e24).chg fD4 hD pD
              · exact po1
            · rw [if_neg hl] at po1
              exact po1.elim
  · left
    have hl : ds.length ≤ i := by omega
    refine ⟨st hl, ?_⟩
    rw [List.drop_eq_nil_of_le hl] at po1
    have po2 : Po mg W p σ H F (relN K p H0) (.ok (.lst accD) ms1) Q := po1
    exact po2 _ _ _ e1 ⟨Dd, accV, accD, rfl, rfl, h0 _ hD, pD, hacc, fD1, qa⟩
theorem jn_lc (hN : X.N.Nodup) (hi : JI X W tg iter mi) (ok : BlkOk X.N X.env.scope scope own) (hg : Blk X scope fun Y => JG Y tg is g) (ht : ∀ (s : Shared) (H : Hp) (C : Addr) (cl : List (Str × Addr)) (fp : List Addr), JTs (X.blk s H scope (compEnvC scope cl C X.env) fp) ifs mt)
    (he : Blk X scope fun Y => JE Y W0 elt me) (hv : ∀ i ∈ is, i ∈ own.map (·.2)) (hc : X.calm = true := by rfl) (hs : ∀ x, foldedSetIterable iter X.env x = pure x := by intro _; rfl) :
    JN X W (.ListComp elt [⟨tg, iter, ifs, 0⟩] scope pos) (E.lc (own.map (·.2)) mi g mt me) := by
  obtain ⟨wi, h1, h2⟩ := hi
  refine ⟨_, pe_lc (g := rdG X.K is g) (tt := rdT X.K X.mg W0 mt) (te := rdE X.K X.mg W0 me) hc hN h1 ok (fun s H C cl fp => (hg s H C cl fp).pg) (fun s H C cl fp => ht s H C cl fp) (fun s H C cl fp => (he s H C cl fp).pe) hs, fun p B σ ss H F ms Q s hs po => ?_⟩
  refine h2 p B σ ss H F ms _ s hs (po.bind fun ds ms1 J H1 F1 e1 q1 po1 => ?_)
  exact lc_ok _ hv (s.ext e1) e1.hs q1 (fun _ => e1.back) po1
/-- y = [..] of one line -/
theorem js_setLc {i : Nat} {y : Str} {py spos : Pos} (hN : X.N.Nodup) (hi : JI X W tg iter mi) (ok : BlkOk X.N X.env.scope scope own) (hg : Blk X scope fun Y => JG Y tg is g) (ht : ∀ (s : Shared) (H : Hp) (C : Addr) (cl : List (Str × Addr)) (fp : List Addr), JTs (X.blk s H scope (compEnvC scope cl C X.env) fp) ifs mt)
    (he : Blk X scope fun Y => JE Y W0 elt me) (hv : ∀ i ∈ is, i ∈ own.map (·.2)) (hsw : swapsWith (.ListComp elt [⟨tg, iter, ifs, 0⟩] scope pos) (some (.Name y py)) spos.line X.env = pure true) (hy : X.N[i]? = some y := by rfl) (hyl : X.env.scope.names.lookup y = some .local := by rfl) (hc : X.calm = true := by rfl)
    (hs : ∀ x, foldedSetIterable iter X.env x = pure x := by intro _; rfl) :
    JS X W (.Assign [.Name y py] (.ListComp elt [⟨tg, iter, ifs, 0⟩] scope pos) spos) (S.set i (E.lc (own.map (·.2)) mi g mt me)) := by
  obtain ⟨wi, h1, h2⟩ := hi
  refine ⟨_, ps_setLc (g := rdG X.K is g) (tt := rdT X.K X.mg W0 mt) (te := rdE X.K X.mg W0 me) hc hN hy hyl hsw h1 ok (fun s H C cl fp => (hg s H C cl fp).pg) (fun s H C cl fp => ht s H C cl fp) (fun s H C cl fp => (he s H C cl fp).pe) hs, fun p B F0 σ ss H F ms En fm po => ?_⟩
  unfold S.set E.lc at po
  cases r : mi ss ms with
  | bad => rw [r] at po; exact po.elim
  | ex c ms1 =>
    rw [r] at po
    refine h2 p B σ ss H F ms _ fm.sl fm.ex.hs ?_
    rw [r]
    exact fun u hu H1 F1 e1 => po u hu σ H1 F1 ⟨fm.sl.ext e1, fm.ex.trans e1⟩
  | ok ds ms1 =>
    rw [r] at po
    refine h2 p B σ ss H F ms _ fm.sl fm.ex.hs ?_
    rw [r]
    intro J H1 F1 e1 q1
    have fm1 : Fm X.K p B F0 F1 H1 σ ss ms1 := ⟨fm.sl.ext e1, fm.ex.trans e1⟩
    refine lc_ok (W := W) (mg := X.mg) (H0 := H1) (Q := fun x H1 => gName i x σ H1 En.nx) (g := g) (mt := mt) (me := me) _ hv fm1.sl e1.hs q1 (fun _ h => h) ?_
    refine fm1.po po fun x ms2 v H2 F2 fm2 e2 q2 po2 => ?_
    obtain ⟨a, xs, zs, rfl, rfl, ha, n, h', f', q2⟩ := q2
    have e3 := e2.frz ha h' f' n
    exact po2 _ H2 _ ⟨(fm1.sl.ext e3).set (.lst (SqL.of upd_same) (q2.mono (same_upd f'))), fm1.ex.trans e3⟩
end
end Q

set_option Elab.async false
set_option linter.all false
set_option maxRecDepth 100000
set_option maxHeartbeats 4000000
/-! Qe: operators, built-in functions, subscripts, own lists. -/
namespace Q
open PySem L2 PyProof.Rows

section
variable {X : Cx} {W : WX}
theorem Bw.i {K : PySem.W.Frag} {p : Option Addr} {F H : Hp} {x : V} {i : Int} (h : Bw K p F H x (.int i)) : x = .int i := by
  cases h with
  | fz h => cases h; rfl
theorem Bw.s {K : PySem.W.Frag} {p : Option Addr} {F H : Hp} {x : V} {i : Str} (h : Bw K p F H x (.str i)) : x = .str i := by
  cases h with
  | fz h => cases h; rfl
theorem Bw.b {K : PySem.W.Frag} {p : Option Addr} {F H : Hp} {x : V} {i : Bool} (h : Bw K p F H x (.bl i)) : x = .bl i := by
  cases h with
  | fz h => cases h; rfl
theorem Bw.l {K : PySem.W.Frag} {p : Option Addr} {F H : Hp} {ms : MS} {x : V} {ds : List D} (hs : Hs p F H ms) (h : Bw K p F H x (.lst ds)) : ∃ a xs, x = .ref a ∧ SqL K H a xs ∧ Dts K p F xs ds := by
  cases h with
  | fz h => cases h with
    | lst h r => exact ⟨_, _, rfl, same_l hs.fh h, r⟩
  | own h n r => exact ⟨_, _, rfl, SqL.of h, r⟩
theorem Bw.t {K : PySem.W.Frag} {p : Option Addr} {F H : Hp} {ms : MS} {x : V} {ds : List D} (hs : Hs p F H ms) (h : Bw K p F H x (.tup ds)) : ∃ a xs, x = .ref a ∧ SqT K H a xs ∧ SqT K F a xs ∧ Dts K p F xs ds := by
  cases h with
  | fz h => cases h with
    | tup h r => exact ⟨_, _, rfl, same_t hs.fh h, h, r⟩

theorem inv2 {g : D → D → M D} (P : D → D → Prop) (h : ∀ dx dy ms, P dx dy ∨ g dx dy ms = .bad) {mg : Str → Option Value} {p : Option Addr} {σ : L2.St} {H F : Hp} {rel : Hp → Hp → V → D → Prop} {dx dy : D} {ms : MS} {Q : VK} (po : Po mg W p σ H F rel (g dx dy ms) Q) : P dx dy := by
  rcases h dx dy ms with q | q
  · exact q
  · rw [q] at po; exact po.elim
/-! ### ints -/
def gI (c : Int → Int → Bool) (h : Int → Int → Int) : D → D → M D
  | .int i, .int j => fun ms => if c i j = true then .ok (.int (h i j)) ms else .bad
  | _, _ => fun _ => .bad
def gC (h : Int → Int → Bool) : D → D → M D
  | .int i, .int j => fun ms => .ok (.bl (h i j)) ms
  | _, _ => fun _ => .bad
theorem gI_inv {c : Int → Int → Bool} {h : Int → Int → Int} : ∀ dx dy ms, (∃ i j, dx = .int i ∧ dy = .int j) ∨ gI c h dx dy ms = .bad := by
  intro dx dy ms
  cases dx with
  | int i => cases dy with
    | int j => exact .inl ⟨_, _, rfl, rfl⟩
    | _ => exact .inr rfl
  | _ => exact .inr rfl
theorem gC_inv {h : Int → Int → Bool} : ∀ dx dy ms, (∃ i j, dx = .int i ∧ dy = .int j) ∨ gC h dx dy ms = .bad := by
  intro dx dy ms
  cases dx with
  | int i => cases dy with
    | int j => exact .inl ⟨_, _, rfl, rfl⟩
    | _ => exact .inr rfl
  | _ => exact .inr rfl
theorem opok_I {f : Value → Value → Sem Value} {C : Int → Int → Prop} {c : Int → Int → Bool} {h : Int → Int → Int} (o : OpR X f (rI C fun i j => .int (h i j))) (hc : ∀ i j, c i j = true → C i j) : OpOk X f (gI c h) := by
  refine ⟨_, o, fun W p σ H F ms x y dx dy Q hs bx bY po => ?_⟩
  obtain ⟨i, j, rfl, rfl⟩ := inv2 _ gI_inv po
  ·
    have po' : Po X.mg W p σ H F (relD X.K p) (if c i j = true then R.ok (.int (h i j)) ms else .bad) Q := po
    by_cases q : c i j = true
    · rw [if_pos q] at po'
      exact ⟨i, j, bx.i, bY.i, hc i j q, po'.ok hs (.int _)⟩
    · rw [if_neg q] at po'
      exact po'.elim
theorem opok_C {f : Value → Value → Sem Value} {h : Int → Int → Bool} (o : OpR X f (rI0 fun i j => .bl (h i j))) : OpOk X f (gC h) := by
  refine ⟨_, o, fun W p σ H F ms x y dx dy Q hs bx bY po => ?_⟩
  obtain ⟨i, j, rfl, rfl⟩ := inv2 _ gC_inv po
  · exact ⟨i, j, bx.i, bY.i, Po.ok (x := D.bl (h i j)) po hs (.bl _)⟩
abbrev c1 : Int → Int → Bool := fun _ _ => true
theorem op_pow2 : OpR X (binaryOp .Pow) (rI (fun i j => 0 ≤ j ∧ (Builtin.Int.intBits i : Int) * j ≤ 2 ^ 27) fun i j => .int (i ^ j.toNat)) := opI fun _ _ _ _ _ _ _ hc q => pow_int hc.1 hc.2 q
theorem rI0I {f : Value → Value → Sem Value} {h : Int → Int → V} (o : OpR X f (rI0 h)) : OpR X f (rI (fun _ _ => True) h) := by
  intro pins s σ H x y v u Q I rx ry hh
  obtain ⟨i, j, h1, h2, _, q⟩ := hh
  exact o pins s σ H x y v u Q I rx ry ⟨i, j, h1, h2, q⟩
def gSub := gI c1 (· - ·)
theorem ok_sub : OpOk X (binaryOp .Sub) gSub := opok_I (C := fun _ _ => True) (rI0I op_sub) fun _ _ _ => trivial
def cMod : Int → Int → Bool := fun _ j => decide (0 < j)
def gMod := gI cMod (· % ·)
theorem ok_mod : OpOk X (binaryOp .Mod) gMod := opok_I op_mod fun i j h => of_decide_eq_true h
def cDiv : Int → Int → Bool := fun _ j => decide (0 < j ∧ j.natAbs.log2 < 9000)
def gDiv := gI cDiv (· / ·)
theorem ok_div : OpOk X (binaryOp .FloorDiv) gDiv := opok_I op_fdivW fun i j h => @of_decide_eq_true (0 < j ∧ j.natAbs.log2 < 9000) _ h
def cPow : Int → Int → Bool := fun i j => decide (0 ≤ j ∧ (Builtin.Int.intBits i : Int) * j ≤ 2 ^ 27)
def gPow := gI cPow (fun i j => i ^ j.toNat)
theorem ok_pow : OpOk X (binaryOp .Pow) gPow := opok_I op_pow2 fun i j h => of_decide_eq_true h
def cMul : Int → Int → Bool := fun i j => decide ((-(2 ^ 64) < i ∧ i < 2 ^ 64) ∨ (-(2 ^ 64) < j ∧ j < 2 ^ 64))
def gLt := gC fun i j => decide (i < j)
def gLe := gC fun i j => decide (i ≤ j)
def gGt := gC fun i j => decide (j < i)
def gGe := gC fun i j => decide (j ≤ i)
theorem ok_lt : OpOk X (compareOp .Lt) gLt := opok_C op_lt
theorem ok_le : OpOk X (compareOp .LtE) gLe := opok_C op_le
theorem ok_gt : OpOk X (compareOp .Gt) gGt := opok_C op_gt
theorem ok_ge : OpOk X (compareOp .GtE) gGe := opok_C op_ge

/-! ### + of texts, lists, tuples -/
def gAddS : D → D → M D
  | .str x, .str y => fun ms => if x.length + y.length ≤ 100000 then .ok (.str (x ++ y)) ms else .bad
  | _, _ => fun _ => .bad
theorem gAddS_inv : ∀ dx dy ms, (∃ i j, dx = .str i ∧ dy = .str j) ∨ gAddS dx dy ms = .bad := by
  intro dx dy ms
  cases dx with
  | str i => cases dy with
    | str j => exact .inl ⟨_, _, rfl, rfl⟩
    | _ => exact .inr rfl
  | _ => exact .inr rfl
theorem ok_addS : OpOk X (binaryOp .Add) gAddS := by
  refine ⟨_, op_add_str, fun W p σ H F ms x y dx dy Q hs bx bY po => ?_⟩
  obtain ⟨i, j, rfl, rfl⟩ := inv2 _ gAddS_inv po
  ·
    have po' : Po X.mg W p σ H F (relD X.K p) (if i.length + j.length ≤ 100000 then R.ok (.str (i ++ j)) ms else .bad) Q := po
    by_cases q : i.length + j.length ≤ 100000
    · rw [if_pos q] at po'
      exact ⟨i, j, bx.s, bY.s, sz5 q, po'.ok hs (.str _)⟩
    · rw [if_neg q] at po'
      exact po'.elim
def gAddT : D → D → M D
  | .tup x, .tup y => fun ms => if x.length + y.length ≤ 100000 then .ok (.tup (x ++ y)) ms else .bad
  | _, _ => fun _ => .bad
theorem gAddT_inv : ∀ dx dy ms, (∃ i j, dx = .tup i ∧ dy = .tup j) ∨ gAddT dx dy ms = .bad := by
  intro dx dy ms
  cases dx with
  | tup i => cases dy with
    | tup j => exact .inl ⟨_, _, rfl, rfl⟩
    | _ => exact .inr rfl
  | _ => exact .inr rfl
theorem ok_addT : OpOk X (binaryOp .Add) gAddT := by
  refine ⟨_, op_catA, fun W p σ H F ms x y dx dy Q hs bx bY po => ?_⟩
  obtain ⟨ds, es, rfl, rfl⟩ := inv2 _ gAddT_inv po
  ·
    have po' : Po X.mg W p σ H F (relD X.K p) (if ds.length + es.length ≤ 100000 then R.ok (.tup (ds ++ es)) ms else .bad) Q := po
    by_cases q : ds.length + es.length ≤ 100000
    · rw [if_pos q] at po'
      obtain ⟨a, xs, rfl, h1, f1, r1⟩ := bx.t hs
      obtain ⟨b, ys, rfl, h2, f2, r2⟩ := bY.t hs
      refine ⟨a, b, xs, ys, rfl, rfl, h1, h2, by rw [r1.length, r2.length]; exact sz5 q, fun e => ?_, fun _ e => ?_, fun _ _ c hc => ?_⟩
      · subst e
        cases r1
        exact po'.ok hs (.tup f2 r2)
      · subst e
        cases r2
        rw [List.append_nil] at po'
        exact po'.ok hs (.tup f1 r1)
      · exact po'.new hs hc (.tup (SqT.of upd_same) ((r1.append r2).mono (Ext.new (p := p) (ms := ms) hs hc).ff))
    · rw [if_neg q] at po'
      exact po'.elim
def gAddL : D → D → M D
  | .lst x, .lst y => fun ms => if x.length + y.length ≤ 100000 then .ok (.lst (x ++ y)) ms else .bad
  | _, _ => fun _ => .bad
def rCatR (K : PySem.W.Frag) : R2 := fun x y H Q => ∃ l b xs zs, x = .ref l ∧ y = .ref b ∧ SqL K H l xs ∧ SqL K H b zs ∧ xs.length + zs.length ≤ sizeLine ∧ ∀ p, H p = none → Q (.ref p) (upd H p (.lst (xs ++ zs)))
theorem op_catR : OpR X (binaryOp .Add) (rCatR X.K) := by
  intro pins s σ H x y v u Q I rx ry h
  obtain ⟨l, b, xs, zs, rfl, rfl, hH, hB, hz, q⟩ := h
  cases rx
  cases ry
  obtain ⟨its, r, ⟨o, n, e1, e2, e3, e4⟩, _⟩ := I.list hH
  obtain ⟨its2, r2, ⟨o2, n2, f1, f2, f3, f4⟩, _⟩ := I.list hB
  have hl := r.length
  have hl2 := r2.length
  obtain ⟨oc, od, oda, osl⟩ := o
  obtain ⟨oc2, od2, oda2, osl2⟩ := o2
  simp only at e2 e3 e4 f2 f3 f4
  subst e2 e3 e4 f2 f3 f4
  refine concat_meets ⟨_, e1, rfl⟩ ⟨_, f1, rfl⟩ noFill_list_add seq_list_add PySem.F.slot_list_add PySem.F.entry_list_add (PySem.F.args_list_add_2 _ _) (PyProof.Rows.list_addW l b its.toArray its2.toArray n n2 _ _ _ _ (by rw [List.size_toArray, List.size_toArray]; omega)) ⟨e1, f1, ?_⟩
  have ea : its.toArray ++ its2.toArray = (its ++ its2).toArray := by simp
  rw [ea]
  exact ⟨.ref _, _, I.lnew (t' := s.toks) (r.append r2) (by rw [List.length_append]; omega), rfl, q _ I.fresh⟩
/-- an operation that lays a new list -/
def OpNew (X : Cx) (f : Value → Value → Sem Value) (g : D → D → M D) : Prop := ∃ r, OpR X f r ∧ ∀ (W : WX) (p : Option Addr) (σ : L2.St) (H0 H F : Hp) (ms : MS) (x y : V) (dx dy : D) (Q : VK), Hs p F H ms → (∀ b, H b = none → H0 b = none) →
  Bw X.K p F H x dx → Bw X.K p F H y dy → Po X.mg W p σ H F (relN X.K p H0) (g dx dy ms) Q → r x y H Q
theorem gAddL_inv : ∀ dx dy ms, (∃ i j, dx = .lst i ∧ dy = .lst j) ∨ gAddL dx dy ms = .bad := by
  intro dx dy ms
  cases dx with
  | lst i => cases dy with
    | lst j => exact .inl ⟨_, _, rfl, rfl⟩
    | _ => exact .inr rfl
  | _ => exact .inr rfl
theorem new_addL : OpNew X (binaryOp .Add) gAddL := by
  refine ⟨_, op_catR, fun W p σ H0 H F ms x y dx dy Q hs h0 bx bY po => ?_⟩
  obtain ⟨ds, es, rfl, rfl⟩ := inv2 _ gAddL_inv po
  ·
    have po' : Po X.mg W p σ H F (relN X.K p H0) (if ds.length + es.length ≤ 100000 then R.ok (.lst (ds ++ es)) ms else .bad) Q := po
    by_cases q : ds.length + es.length ≤ 100000
    · rw [if_pos q] at po'
      obtain ⟨a, xs, rfl, h1, r1⟩ := bx.l hs
      obtain ⟨b, ys, rfl, h2, r2⟩ := bY.l hs
      exact ⟨a, b, xs, ys, rfl, rfl, h1, h2, by rw [r1.length, r2.length]; exact sz5 q, fun c hc => po'.layL hs h0 hc (r1.append r2)⟩
    · rw [if_neg q] at po'
      exact po'.elim
theorem relN_relD {mg : Str → Option Value} {K : PySem.W.Frag} {p : Option Addr} {σ : L2.St} {H F : Hp} {r : R D} {Q : VK} (po : Po mg W p σ H F (relD K p) r Q) : Po mg W p σ H F (relN K p H) r Q := by
  cases r with
  | ok x ms' =>
    intro v H' F' e q
    obtain ⟨a, xs, ds, rfl, rfl, ha, n, h', f', q⟩ := q
    exact po _ H' _ (e.frz ha h' f' n) (.lst (SqL.of upd_same) (q.mono (same_upd f')))
  | ex c ms' => exact po
  | bad => exact po
theorem OpNew.ok {f : Value → Value → Sem Value} {g : D → D → M D} (h : OpNew X f g) : OpOk X f g := by
  obtain ⟨r, h1, h2⟩ := h
  exact ⟨r, h1, fun W p σ H F ms x y dx dy Q hs bx bY po => h2 W p σ H H F ms x y dx dy Q hs (fun _ h => h) bx bY (relN_relD po)⟩
theorem jn_bin {a b : Expr} {ma mb : SS → M D} {pos : Pos} {op : Operator} {g : D → D → M D} (ho : OpNew X (binaryOp op) g) (ha : JB X W a ma) (hb : JB X W b mb) : JN X W (.BinOp a op b pos) (E.op2 g ma mb) := by
  obtain ⟨t, h1, h2⟩ := ha
  obtain ⟨u, h3, h4⟩ := hb
  obtain ⟨r, h5, h6⟩ := ho
  refine ⟨_, pe_op h5 h1 h3, fun p B σ ss H F ms Q s hs po => ?_⟩
  refine h2 p B σ ss H F ms _ s hs (po.bind fun x ms1 v H1 F1 e1 q1 po1 => ?_)
  refine h4 p B σ ss H1 F1 ms1 _ (s.ext e1) e1.hs (po1.bind fun y ms2 u H2 F2 e2 q2 po2 => ?_)
  exact h6 W p σ H H2 F2 ms2 v u x y Q e2.hs (fun _ h => e1.back (e2.back h)) (q1.ext e2) q2 po2
def gAdd : D → D → M D := orG (gI c1 (· + ·)) (orG gAddS (orG gAddT gAddL))
theorem OpOk.congr {f : Value → Value → Sem Value} {g g' : D → D → M D} (h : OpOk X f g) (e : ∀ x y ms, g' x y ms = g x y ms) : OpOk X f g' := by
  have : g' = g := funext fun x => funext fun y => funext fun ms => e x y ms
  rw [this]
  exact h
theorem ok_add : OpOk X (binaryOp .Add) gAdd := OpOk.or (opok_I (C := fun _ _ => True) (c := c1) (rI0I op_add) fun _ _ _ => trivial) (OpOk.or ok_addS (OpOk.or ok_addT new_addL.ok))
@[simp] theorem gAdd_int (i j : Int) (ms : MS) : gAdd (.int i) (.int j) ms = .ok (.int (i + j)) ms := rfl
theorem gAdd_str (i j : Str) (ms : MS) (h : i.length + j.length ≤ 100000) : gAdd (.str i) (.str j) ms = .ok (.str (i ++ j)) ms := by
  show orG gAddS (orG gAddT gAddL) (.str i) (.str j) ms = _
  have : gAddS (.str i) (.str j) ms = .ok (.str (i ++ j)) ms := if_pos h
  unfold orG
  rw [this]
theorem gAdd_tup (i j : List D) (ms : MS) (h : i.length + j.length ≤ 100000) : gAdd (.tup i) (.tup j) ms = .ok (.tup (i ++ j)) ms := by
  show orG gAddT gAddL (.tup i) (.tup j) ms = _
  have : gAddT (.tup i) (.tup j) ms = .ok (.tup (i ++ j)) ms := if_pos h
  unfold orG
  rw [this]
theorem gAdd_lst (i j : List D) (ms : MS) (h : i.length + j.length ≤ 100000) : gAdd (.lst i) (.lst j) ms = .ok (.lst (i ++ j)) ms := if_pos h
def gMulL : D → D → M D
  | .lst xs, .int k => fun ms => if -(2 ^ 63) ≤ k ∧ k < 2 ^ 63 ∧ xs.length * k.toNat ≤ 100000 then .ok (.lst (List.replicate k.toNat xs).flatten) ms else .bad
  | _, _ => fun _ => .bad
theorem Dts.rep {K : PySem.W.Frag} {p : Option Addr} {F : Hp} {vs : List V} {ds : List D} (r : Dts K p F vs ds) : ∀ n : Nat, Dts K p F (List.replicate n vs).flatten (List.replicate n ds).flatten
  | 0 => .nil
  | n + 1 => by
    rw [List.replicate_succ, List.replicate_succ, List.flatten_cons, List.flatten_cons]
    exact r.append (Dts.rep r n)
def gMulT : D → D → M D
  | .tup xs, .int k => fun ms => if xs ≠ [] ∧ 2 ≤ k ∧ k ≤ 1000 ∧ xs.length ≤ 1000 then .ok (.tup (List.replicate k.toNat xs).flatten) ms else .bad
  | _, _ => fun _ => .bad
theorem gMulT_inv : ∀ dx dy ms, (∃ i j, dx = .tup i ∧ dy = .int j) ∨ gMulT dx dy ms = .bad := by
  intro dx dy ms
  cases dx with
  | tup i => cases dy with
    | int j => exact .inl ⟨_, _, rfl, rfl⟩
    | _ => exact .inr rfl
  | _ => exact .inr rfl
theorem ok_mulT : OpOk X (binaryOp .Mult) gMulT := by
  refine ⟨_, op_repT, fun W p σ H F ms x y dx dy Q hs bx bY po => ?_⟩
  obtain ⟨ds, k, rfl, rfl⟩ := inv2 _ gMulT_inv po
  ·
    have po' : Po X.mg W p σ H F (relD X.K p) (if ds ≠ [] ∧ 2 ≤ k ∧ k ≤ 1000 ∧ ds.length ≤ 1000 then R.ok (.tup (List.replicate k.toNat ds).flatten) ms else .bad) Q := po
    by_cases q : ds ≠ [] ∧ 2 ≤ k ∧ k ≤ 1000 ∧ ds.length ≤ 1000
    · rw [if_pos q] at po'
      obtain ⟨a, xs, rfl, h1, f1, r1⟩ := bx.t hs
      refine ⟨a, k, xs, rfl, bY.i, h1, fun e => q.1 (by subst e; cases r1; rfl), q.2.1, q.2.2.1, by rw [r1.length]; exact q.2.2.2, fun c hc => ?_⟩
      exact po'.new hs hc (.tup (SqT.of upd_same) ((r1.rep _).mono (Ext.new (p := p) (ms := ms) hs hc).ff))
    · rw [if_neg q] at po'
      exact po'.elim
def gMul : D → D → M D := orG (gI cMul (· * ·)) gMulT
theorem ok_mul : OpOk X (binaryOp .Mult) gMul := OpOk.or (opok_I op_mul (c := cMul) fun i j h => @of_decide_eq_true ((-(2 ^ 64) < i ∧ i < 2 ^ 64) ∨ (-(2 ^ 64) < j ∧ j < 2 ^ 64)) _ h) ok_mulT
theorem gMul_int (i j : Int) (ms : MS) (h : (-(2 ^ 64) < i ∧ i < 2 ^ 64) ∨ (-(2 ^ 64) < j ∧ j < 2 ^ 64)) : gMul (.int i) (.int j) ms = .ok (.int (i * j)) ms := by
  have : gI cMul (· * ·) (.int i) (.int j) ms = .ok (.int (i * j)) ms := if_pos (decide_eq_true h)
  unfold gMul orG
  rw [this]
/-! ### == and != -/
mutual
def D.py : D → Option PyData
  | .non => some .none
  | .bl b => some (.bool b)
  | .int i => some (.int i)
  | .str x => some (.str x)
  | .tup ds => (pys ds).map .tuple
  | .lst ds => (pys ds).map .list
  | .dct _ _ => none
  | .pot => none
  | .fn _ => none
  | .ty _ => none
def pys : List D → Option (List PyData)
  | [] => some []
  | d :: ds => match d.py, pys ds with
    | some q, some r => some (q :: r)
    | _, _ => none
end
mutual
theorem Dt.dp {K : PySem.W.Frag} {p : Option Addr} {F H : Hp} (sf : Same F H) : ∀ {v : V} {d : D} {q : PyData}, Dt K p F v d → d.py = some q → Dp K H v q
  | _, _, _, .non, e => by cases e; exact .non
  | _, _, _, .bl b, e => by cases e; exact .bl b
  | _, _, _, .int b, e => by cases e; exact .int b
  | _, _, _, .str b, e => by cases e; exact .str b
  | _, _, _, .tup (ds := ds) h r, e => by
    rw [D.py] at e
    cases e1 : pys ds with
    | none => rw [e1] at e; cases e
    | some qs => rw [e1] at e; cases e; exact .tup (same_t sf h) (Dts.dp sf r e1)
  | _, _, _, .lst (ds := ds) h r, e => by
    rw [D.py] at e
    cases e1 : pys ds with
    | none => rw [e1] at e; cases e
    | some qs => rw [e1] at e; cases e; exact .lst (same_l sf h) (Dts.dp sf r e1)
  | _, _, _, .dct _ _ _, e => by rw [D.py] at e; cases e
  | _, _, _, .pot _, e => by rw [D.py] at e; cases e
  | _, _, _, .fn, e => by rw [D.py] at e; cases e
  | _, _, _, .ty, e => by rw [D.py] at e; cases e
theorem Dts.dp {K : PySem.W.Frag} {p : Option Addr} {F H : Hp} (sf : Same F H) : ∀ {vs : List V} {ds : List D} {qs : List PyData}, Dts K p F vs ds → pys ds = some qs → DpAll K H vs qs
  | _, _, _, .nil, e => by rw [pys] at e; cases e; exact .nil
  | _, _, _, .cons (d := d) (ds := ds) h r, e => by
    rw [pys] at e
    cases e1 : d.py with
    | none => rw [e1] at e; cases e
    | some q =>
      cases e2 : pys ds with
      | none => rw [e1, e2] at e; cases e
      | some qs => rw [e1, e2] at e; cases e; exact .cons (Dt.dp sf h e1) (Dts.dp sf r e2)
end
theorem Bw.dp {K : PySem.W.Frag} {p : Option Addr} {F H : Hp} {ms : MS} {v : V} {d : D} {q : PyData} (hs : Hs p F H ms) (b : Bw K p F H v d) (e : d.py = some q) : Dp K H v q := by
  cases b with
  | fz h => exact h.dp hs.fh e
  | @own a xs ds h n r =>
    rw [D.py] at e
    cases e1 : pys ds with
    | none => rw [e1] at e; cases e
    | some qs => rw [e1] at e; cases e; exact .lst (SqL.of h) (r.dp hs.fh e1)
def eqD (n : Bool) : D → D → M D := fun x y ms => match x.py, y.py with
  | some a, some b => if SeqAt.shaped a = true ∧ SeqAt.shaped b = true then .ok (.bl (if n then !PyData.eqv a b else PyData.eqv a b)) ms else .bad
  | _, _ => .bad
theorem ok_eqD0 (hu : X.A.units + 64 < cLine) : OpOk X (compareOp .Eq) (eqD false) := by
  refine ⟨_, op_eqD hu, fun W p σ H F ms x y dx dy Q hs bx bY po => ?_⟩
  unfold eqD at po
  split at po
  next a b ha hb =>
    by_cases q : SeqAt.shaped a = true ∧ SeqAt.shaped b = true
    · rw [if_pos q] at po
      exact ⟨a, b, bx.dp hs ha, bY.dp hs hb, q.1, q.2, po.ok hs (.bl _)⟩
    · rw [if_neg q] at po
      exact po.elim
  next => exact po.elim
theorem ok_neD0 (hu : X.A.units + 64 < cLine) : OpOk X (compareOp .NotEq) (eqD true) := by
  refine ⟨_, op_neD hu, fun W p σ H F ms x y dx dy Q hs bx bY po => ?_⟩
  unfold eqD at po
  split at po
  next a b ha hb =>
    by_cases q : SeqAt.shaped a = true ∧ SeqAt.shaped b = true
    · rw [if_pos q] at po
      exact ⟨a, b, bx.dp hs ha, bY.dp hs hb, q.1, q.2, po.ok hs (.bl _)⟩
    · rw [if_neg q] at po
      exact po.elim
  next => exact po.elim
/-- a tuple against () -/
def rNe0 (K : PySem.W.Frag) (n : Bool) : R2 := fun x y H Q => ∃ a b xs, x = .ref a ∧ y = .ref b ∧ SqT K H a xs ∧ SqT K H b [] ∧ Q (.bl (if n then !xs.isEmpty else xs.isEmpty)) H
theorem op_ne0 (hu : X.A.units < cLine) : OpR X (compareOp .NotEq) (rNe0 X.K true) := by
  intro pins s σ H x y v u Q I rx ry h
  obtain ⟨a, b, xs, rfl, rfl, h1, h2, q⟩ := h
  cases rx
  cases ry
  obtain ⟨its, r1, p1, _⟩ := I.tuple h1
  obtain ⟨its2, r2, p2, _⟩ := I.tuple h2
  cases r2
  have k := SeqAt.RcNeAt.tuples (A := X.A) (s := s) (e := fun _ => true) p1 p2 hu (fun j j1 j2 => by simp at j2)
  refine k X.prog X.w X.xe _ ⟨.bl _, H, I, rfl, ?_⟩
  have e : (!((List.range (min its.toArray.size ([] : List Value).toArray.size)).all (fun _ => true) && its.toArray.size == ([] : List Value).toArray.size)) = !xs.isEmpty := by
    have := r1.length
    cases xs with
    | nil => cases r1; rfl
    | cons x xs => cases r1; simp
  rw [e]
  exact q
def eq0 : D → D → M D
  | .tup xs, .tup [] => fun ms => .ok (.bl (!xs.isEmpty)) ms
  | _, _ => fun _ => .bad
theorem ok_ne0 (hu : X.A.units < cLine) : OpOk X (compareOp .NotEq) eq0 := by
  refine ⟨_, op_ne0 hu, fun W p σ H F ms x y dx dy Q hs bx bY po => ?_⟩
  have : ∃ xs, dx = .tup xs ∧ dy = .tup [] := by
    cases dx with
    | tup xs => cases dy with
      | tup ys => cases ys with
        | nil => exact ⟨xs, rfl, rfl⟩
        | cons _ _ => exact po.elim
      | _ => exact po.elim
    | _ => exact po.elim
  obtain ⟨xs, rfl, rfl⟩ := this
  ·
    obtain ⟨a, vs, rfl, h1, f1, r1⟩ := bx.t hs
    obtain ⟨b, us, rfl, h2, f2, r2⟩ := bY.t hs
    cases r2
    refine ⟨a, b, vs, rfl, rfl, h1, h2, Po.ok (x := D.bl (!xs.isEmpty)) po hs ?_⟩
    have : vs.isEmpty = xs.isEmpty := by cases r1 <;> rfl
    show Dt X.K p F (.bl (!vs.isEmpty)) (.bl (!xs.isEmpty))
    rw [this]
    exact .bl _
def gEq : D → D → M D := eqD false
def gNe : D → D → M D := orG eq0 (eqD true)
theorem ok_eq (hu : X.A.units + 64 < cLine) : OpOk X (compareOp .Eq) gEq := ok_eqD0 hu
theorem ok_ne (hu : X.A.units + 64 < cLine) : OpOk X (compareOp .NotEq) gNe := OpOk.or (ok_ne0 (by omega)) (ok_neD0 hu)
def D.isNon : D → Bool
  | .non => true
  | _ => false
def isN (n : Bool) : D → D → M D := fun x y ms => match y with
  | .non => .ok (.bl (if n then !x.isNon else x.isNon)) ms
  | _ => .bad
theorem non_iff {K : PySem.W.Frag} {p : Option Addr} {F H : Hp} {x : V} {d : D} (b : Bw K p F H x d) : decide (x = .non) = d.isNon := by
  cases b with
  | fz h => cases h <;> rfl
  | own h n r => rfl
theorem ok_isN : OpOk X (compareOp .Is) (isN false) := by
  refine ⟨_, op_isN, fun W p σ H F ms x y dx dy Q hs bx bY po => ?_⟩
  unfold isN at po
  cases dy with
  | non =>
    have : y = .non := by cases bY with | fz h => cases h; rfl
    refine ⟨this, ?_⟩
    rw [non_iff bx]
    exact po.ok hs (.bl _)
  | _ => exact po.elim
theorem ok_isNot : OpOk X (compareOp .IsNot) (isN true) := by
  refine ⟨_, op_notN, fun W p σ H F ms x y dx dy Q hs bx bY po => ?_⟩
  unfold isN at po
  cases dy with
  | non =>
    have : y = .non := by cases bY with | fz h => cases h; rfl
    refine ⟨this, ?_⟩
    rw [non_iff bx]
    exact po.ok hs (.bl _)
  | _ => exact po.elim
end
end Q

set_option Elab.async false
set_option linter.all false
set_option maxRecDepth 100000
set_option maxHeartbeats 4000000
/-! Qf: built-in functions, subscripts, in, own lists, the pot. -/
namespace Q
open PySem L2 PyProof.Rows

section
variable {X : Cx} {W : WX} {e a b : Expr} {es : List Expr} {m ma mb : SS → M D} {pos : Pos}

/-! ### calls of built-ins -/
/-- of one argument, read for the moment -/
def Call1 (X : Cx) (f : Value) (g : D → M D) : Prop := ∃ r, CallR X f r ∧ ∀ (W : WX) (p : Option Addr) (σ : L2.St) (H F : Hp) (ms : MS) (x : V) (dx : D) (Q : VK), Hs p F H ms → Bw X.K p F H x dx → Po X.mg W p σ H F (relD X.K p) (g dx ms) Q → r [x] H Q
def CallN (X : Cx) (f : Value) (g : List D → M D) : Prop := ∃ r, CallR X f r ∧ ∀ (W : WX) (p : Option Addr) (σ : L2.St) (H F : Hp) (ms : MS) (xs : List V) (ds : List D) (Q : VK), Hs p F H ms → Dts X.K p F xs ds → Po X.mg W p σ H F (relD X.K p) (g ds ms) Q → r xs H Q
theorem cb1_ok {r : List V → Hp → VK → Prop} {g : D → M D} {ta : TE} (h2 : ∀ (p : Option Addr) (B : Hp) (σ : L2.St) (ss : SS) (H F : Hp) (ms : MS) (Q : VK), Sl X.K p B F H σ ss → Hs p F H ms → Po X.mg W p σ H F (relB X.K p) (m ss ms) Q → ta σ H Q)
    (h6 : ∀ (W : WX) (p : Option Addr) (σ : L2.St) (H F : Hp) (ms : MS) (x : V) (dx : D) (Q : VK), Hs p F H ms → Bw X.K p F H x dx → Po X.mg W p σ H F (relD X.K p) (g dx ms) Q → r [x] H Q) :
    ∀ (p : Option Addr) (B : Hp) (σ : L2.St) (ss : SS) (H F : Hp) (ms : MS) (Q : VK), Sl X.K p B F H σ ss → Hs p F H ms → Po X.mg W p σ H F (relD X.K p) (E.op1 g m ss ms) Q → tCB r (tCons ta tNil) σ H Q := by
  intro p B σ ss H F ms Q s hs po
  refine h2 p B σ ss H F ms _ s hs (po.bind fun x ms1 v H1 F1 e1 q1 po1 => ?_)
  exact h6 W p σ H1 F1 ms1 v x Q e1.hs q1 po1
theorem je_b1 {id : String} {x : Str} {p0 : Pos} {g : D → M D} (hc : Call1 X (.builtin id) g) (hm : X.mg x = none) (ha : JB X W e m) (hv : bootBuiltins x = some (.builtin id) := by decide +kernel) (hg : Gl X x := by rfl) (hn : x ≠ "__name__" := by decide) (hdb : (x == ("__debug__" : Str)) = false := by decide)
    (he : starEach [e] X.env = (false, eval e X.env) :: starEach [] X.env := by rfl) (hpl : (backTo pos (starEach [] X.env)).any (·.1) = false := by rfl) : JE X W (.Call (.Name x p0) [e] [] pos) (E.op1 g m) := by
  obtain ⟨t, h1, h2⟩ := ha
  obtain ⟨r, h5, h6⟩ := hc
  exact ⟨_, pe_callB h5 hg hm hv (pa_cons h1 pa_nil he) hn hdb he hpl, cb1_ok h2 h6⟩
theorem je_t1 {T : String} {x : Str} {p0 : Pos} {g : D → M D} (hc : Call1 X (.type T) g) (hm : X.mg x = none) (ha : JB X W e m) (hv : bootBuiltins x = some (.type T) := by decide +kernel) (hg : Gl X x := by rfl) (hn : x ≠ "__name__" := by decide) (hdb : (x == ("__debug__" : Str)) = false := by decide)
    (he : starEach [e] X.env = (false, eval e X.env) :: starEach [] X.env := by rfl) (hpl : (backTo pos (starEach [] X.env)).any (·.1) = false := by rfl) : JE X W (.Call (.Name x p0) [e] [] pos) (E.op1 g m) := by
  obtain ⟨t, h1, h2⟩ := ha
  obtain ⟨r, h5, h6⟩ := hc
  exact ⟨_, pe_callTy h5 hg hm hv (pa_cons h1 pa_nil he) hn hdb he hpl, cb1_ok h2 h6⟩
theorem je_bn {id : String} {x : Str} {p0 : Pos} {g : List D → M D} {mr : SS → M (List D)} (hc : CallN X (.builtin id) g) (hm : X.mg x = none) (ha : JA X W (e :: es) mr) (hv : bootBuiltins x = some (.builtin id) := by decide +kernel) (hg : Gl X x := by rfl) (hn : x ≠ "__name__" := by decide) (hdb : (x == ("__debug__" : Str)) = false := by decide)
    (he : starEach (e :: es) X.env = (false, eval e X.env) :: starEach es X.env := by rfl) (hpl : (backTo pos (starEach es X.env)).any (·.1) = false := by rfl) : JE X W (.Call (.Name x p0) (e :: es) [] pos) (E.fnA g mr) := by
  obtain ⟨t, h1, h2⟩ := ha
  obtain ⟨r, h5, h6⟩ := hc
  refine ⟨_, pe_callB h5 hg hm hv h1 hn hdb he hpl, fun p B σ ss H F ms Q s hs po => ?_⟩
  refine h2 p B σ ss H F ms _ s hs (po.bind fun ds ms1 vs H1 F1 e1 q1 po1 => ?_)
  exact h6 W p σ H1 F1 ms1 vs ds Q e1.hs q1 po1

def gLen : D → M D
  | .str x => fun ms => if x.length ≤ 100000 then .ok (.int x.length) ms else .bad
  | .lst ds => fun ms => .ok (.int ds.length) ms
  | .tup ds => fun ms => .ok (.int ds.length) ms
  | _ => fun _ => .bad
theorem ok_len : Call1 X (.builtin "len") gLen := by
  refine ⟨_, call_len, fun W p σ H F ms x dx Q hs bx po => ?_⟩
  cases dx with
  | str y =>
    have po' : Po X.mg W p σ H F (relD X.K p) (if y.length ≤ 100000 then R.ok (.int y.length) ms else .bad) Q := po
    by_cases q : y.length ≤ 100000
    · rw [if_pos q] at po'
      cases bx.s
      exact ⟨.str y, y.length, rfl, ⟨sz5 q, rfl⟩, po'.ok hs (.int _)⟩
    · rw [if_neg q] at po'
      exact po'.elim
  | lst ds =>
    obtain ⟨a, xs, rfl, h1, r1⟩ := bx.l hs
    exact ⟨.ref a, xs.length, rfl, .inl ⟨xs, h1, rfl⟩, by rw [r1.length]; exact Po.ok (x := D.int ds.length) po hs (.int _)⟩
  | tup ds =>
    obtain ⟨a, xs, rfl, h1, f1, r1⟩ := bx.t hs
    exact ⟨.ref a, xs.length, rfl, .inr ⟨xs, h1, rfl⟩, by rw [r1.length]; exact Po.ok (x := D.int ds.length) po hs (.int _)⟩
  | _ => exact po.elim
def gAbs : D → M D
  | .int i => fun ms => .ok (.int (if i < 0 then -i else i)) ms
  | _ => fun _ => .bad
theorem ok_abs : Call1 X (.builtin "abs") gAbs := by
  refine ⟨_, call_abs, fun W p σ H F ms x dx Q hs bx po => ?_⟩
  cases dx with
  | int i => cases bx.i; exact ⟨i, rfl, Po.ok (x := D.int _) po hs (.int _)⟩
  | _ => exact po.elim
def gInt : D → M D
  | .int i => fun ms => .ok (.int i) ms
  | .bl b => fun ms => .ok (.int (if b then 1 else 0)) ms
  | _ => fun _ => .bad
theorem ok_int : Call1 X (.type "int") gInt := by
  refine ⟨_, call_int1, fun W p σ H F ms x dx Q hs bx po => ?_⟩
  cases dx with
  | int i => cases bx.i; exact .inl ⟨i, rfl, Po.ok (x := D.int _) po hs (.int _)⟩
  | bl i => cases bx.b; exact .inr ⟨i, rfl, Po.ok (x := D.int _) po hs (.int _)⟩
  | _ => exact po.elim
def gTuple : D → M D
  | .lst ds => fun ms => .ok (.tup ds) ms
  | .tup ds => fun ms => .ok (.tup ds) ms
  | _ => fun _ => .bad
theorem ok_tuple : Call1 X (.type "tuple") gTuple := by
  refine ⟨_, call_tuple_of, fun W p σ H F ms x dx Q hs bx po => ?_⟩
  cases dx with
  | lst ds =>
    obtain ⟨a, xs, rfl, h1, r1⟩ := bx.l hs
    exact ⟨a, xs, rfl, .inl ⟨h1, fun c hc => Po.new (x := D.tup ds) po hs hc (.tup (SqT.of upd_same) (r1.mono (Ext.new (p := p) (ms := ms) hs hc).ff))⟩⟩
  | tup ds =>
    obtain ⟨a, xs, rfl, h1, f1, r1⟩ := bx.t hs
    exact ⟨a, xs, rfl, .inr ⟨h1, Po.ok (x := D.tup ds) po hs (.tup f1 r1)⟩⟩
  | _ => exact po.elim
def gList : D → M D
  | .lst ds => fun ms => .ok (.lst ds) ms
  | .tup ds => fun ms => .ok (.lst ds) ms
  | _ => fun _ => .bad
/-- list(x): a new one -/
theorem jn_list {p0 : Pos} (hm : X.mg "list" = none) (ha : JB X W e m) (hg : Gl X "list" := by rfl) (hv : bootBuiltins "list" = some (.type "list") := by decide +kernel)
    (he : starEach [e] X.env = (false, eval e X.env) :: starEach [] X.env := by rfl) (hpl : (backTo pos (starEach [] X.env)).any (·.1) = false := by rfl) : JN X W (.Call (.Name "list" p0) [e] [] pos) (E.op1 gList m) := by
  obtain ⟨t, h1, h2⟩ := ha
  refine ⟨_, pe_callTy call_list_of hg hm hv (pa_cons h1 pa_nil he) (by decide) (by decide) he hpl, fun p B σ ss H F ms Q s hs po => ?_⟩
  refine h2 p B σ ss H F ms _ s hs (po.bind fun x ms1 v H1 F1 e1 q1 po1 => ?_)
  cases x with
  | lst ds =>
    obtain ⟨a, xs, rfl, h1, r1⟩ := q1.l e1.hs
    exact ⟨a, xs, rfl, .inl h1, fun c hc => Po.layL (ds := ds) po1 e1.hs (fun _ => e1.back) hc r1⟩
  | tup ds =>
    obtain ⟨a, xs, rfl, h1, f1, r1⟩ := q1.t e1.hs
    exact ⟨a, xs, rfl, .inr h1, fun c hc => Po.layL (ds := ds) po1 e1.hs (fun _ => e1.back) hc r1⟩
  | _ => exact po1.elim
def asB : D → Option Bool
  | .bl b => some b
  | _ => none
def allB : List D → Option Bool
  | [] => some true
  | .bl b :: r => (allB r).map fun k => b && k
  | _ :: _ => none
def gAll : D → M D
  | .lst ds => fun ms => match allB ds with
    | some k => .ok (.bl k) ms
    | none => .bad
  | _ => fun _ => .bad
theorem allB_bs {K : PySem.W.Frag} {p : Option Addr} {F : Hp} : ∀ {xs : List V} {ds : List D} {k : Bool}, Dts K p F xs ds → allB ds = some k → ∃ bs : List Bool, xs = bs.map V.bl ∧ bs.all id = k
  | _, _, _, .nil, e => by cases e; exact ⟨[], rfl, rfl⟩
  | _, _, k, .cons (d := d) (ds := ds) h r, e => by
    cases h with
    | bl b =>
      unfold allB at e
      cases e1 : allB ds with
      | none => rw [e1] at e; cases e
      | some k' =>
        rw [e1] at e
        cases e
        obtain ⟨bs, rfl, rfl⟩ := allB_bs r e1
        exact ⟨b :: bs, rfl, by simp⟩
    | _ => cases e
theorem ok_all (hc : X.calm = true) : Call1 X (.builtin "all") gAll := by
  refine ⟨_, cr_all hc, fun W p σ H F ms x dx Q hs bx po => ?_⟩
  cases dx with
  | lst ds =>
    obtain ⟨a, xs, rfl, h1, r1⟩ := bx.l hs
    have po : Po X.mg W p σ H F (relD X.K p) (match allB ds with
      | some k => R.ok (D.bl k) ms
      | none => R.bad) Q := po
    cases e1 : allB ds with
    | none => rw [e1] at po; exact po.elim
    | some k =>
      rw [e1] at po
      obtain ⟨bs, rfl, rfl⟩ := allB_bs r1 e1
      exact ⟨a, bs, rfl, h1, po.ok hs (.bl _)⟩
  | _ => exact po.elim
def gMax : List D → M D
  | [.int i, .int j] => fun ms => .ok (.int (if j > i then j else i)) ms
  | _ => fun _ => .bad
def gMin : List D → M D
  | [.int i, .int j] => fun ms => .ok (.int (if j < i then j else i)) ms
  | _ => fun _ => .bad
theorem ints2 {P : D → D → Prop} {K : PySem.W.Frag} {p : Option Addr} {F : Hp} {xs : List V} {i j : Int} (r : Dts K p F xs [.int i, .int j]) : xs = [.int i, .int j] := by
  cases r with
  | cons h r => cases r with
    | cons h' r => cases r; cases h; cases h'; rfl
theorem ok_max (hc : X.calm = true) : CallN X (.builtin "max") gMax := by
  refine ⟨_, call_max2 hc, fun W p σ H F ms xs ds Q hs r po => ?_⟩
  unfold gMax at po
  split at po
  next i j => cases ints2 (P := fun _ _ => True) r; exact ⟨i, j, rfl, po.ok hs (.int _)⟩
  next => exact po.elim
theorem ok_min (hc : X.calm = true) : CallN X (.builtin "min") gMin := by
  refine ⟨_, call_min2 hc, fun W p σ H F ms xs ds Q hs r po => ?_⟩
  unfold gMin at po
  split at po
  next i j => cases ints2 (P := fun _ _ => True) r; exact ⟨i, j, rfl, po.ok hs (.int _)⟩
  next => exact po.elim
/-! isinstance -/
def tyOf : D → Option Ty
  | .non => some .non
  | .bl _ => some .bool
  | .int _ => some .int
  | .str _ => some .str
  | .tup _ => some .tuple
  | .lst _ => some .list
  | .dct _ _ => some .dict
  | _ => none
def Ty.le : Ty → Ty → Bool := fun a b => decide (a = b) || (decide (a = .bool) && decide (b = .int))
theorem kit_all (a b : Ty) (hb : b ≠ .non) : kitB a.name b.name = some (a.le b) := by
  cases a <;> cases b <;> first
    | exact absurd rfl hb
    | decide +kernel
def gIsi : List D → M D
  | [d, .ty t] => fun ms => match tyOf d with
    | some a => if t ≠ .non then .ok (.bl (a.le t)) ms else .bad
    | none => .bad
  | _ => fun _ => .bad
theorem tyX_of {K : PySem.W.Frag} {p : Option Addr} {F H : Hp} {ms : MS} {x : V} {d : D} {a : Ty} (hs : Hs p F H ms) (b : Dt K p F x d) (e : tyOf d = some a) : TyX K H x (.type a.name) := by
  cases b with
  | non => cases e; exact .base .non
  | bl k => cases e; exact .base (.bl k)
  | int k => cases e; exact .base (.int k)
  | str k => cases e; exact .base (.str k)
  | tup h r =>
    cases e
    rcases same_t hs.fh h with (h | ⟨o, h⟩) | ⟨o, its, n, h1, h2, h3, _⟩
    · exact .base (.tup h)
    · exact .fTuple h
    · exact .kTuple h1 h2
  | lst h r =>
    cases e
    rcases same_l hs.fh h with (h | ⟨o, h⟩) | ⟨o, its, n, h1, h2, _⟩
    · exact .base (.lst h)
    · exact .base (.frz h)
    · exact .kList h1 h2
  | dct h l r =>
    cases e
    rcases same_rd hs.fh h with h | ⟨o, h⟩
    · exact .base (.dK h)
    · exact .fDict h
  | pot h => cases e
  | fn => cases e
  | ty => cases e
theorem ok_isi : CallN X (.builtin "isinstance") gIsi := by
  refine ⟨_, call_isi, fun W p σ H F ms xs ds Q hs r po => ?_⟩
  unfold gIsi at po
  split at po
  next d t =>
    cases r with
    | cons h r => cases r with
      | cons h' r =>
        cases r
        cases h'
        cases e : tyOf d with
        | none => rw [e] at po; exact po.elim
        | some a =>
          rw [e] at po
          by_cases ht : t ≠ .non
          · have po' : Po X.mg W p σ H F (relD X.K p) (R.ok (.bl (a.le t)) ms) Q := by
              have po2 : Po X.mg W p σ H F (relD X.K p) (if t ≠ .non then R.ok (.bl (a.le t)) ms else .bad) Q := po
              rw [if_pos ht] at po2
              exact po2
            exact ⟨_, _, _, _, a.le t, rfl, .ty t.name, tyX_of hs h e, kit_ty (kit_all a t ht), po'.ok hs (.bl _)⟩
          · have po2 : Po X.mg W p σ H F (relD X.K p) (if t ≠ .non then R.ok (.bl (a.le t)) ms else .bad) Q := po
            rw [if_neg ht] at po2
            exact po2.elim
  next => exact po.elim
/-- a built-in type's name as a value -/
theorem je_ty {x : Str} (t : Ty) (hm : X.mg x = none) (hv : bootBuiltins x = some (.type t.name) := by decide +kernel) (hg : Gl X x := by rfl) (hn : x ≠ "__name__" := by decide) (hd : (x == ("__debug__" : Str)) = false := by decide) : JE X W (.Name x pos) (E.c (.ty t)) :=
  je_c (pe_bltn (v := .ty t.name) hg hm hv rfl hn hd) fun _ _ => .ty
/-- a def as a value -/
theorem je_fn {x : Str} {f : Addr} (hm : X.mg x = some (.ref f)) (hg : Gl X x := by rfl) (hd : (x == ("__debug__" : Str)) = false := by decide) : JE X W (.Name x pos) (E.c (.fn f)) := je_c (pe_glob (v := .ref f) hg hm rfl hd) fun _ _ => .fn
theorem je_gInt {x : Str} {i : Int} {t : Tok} (hm : X.mg x = some (.int i t)) (hg : Gl X x := by rfl) (hd : (x == ("__debug__" : Str)) = false := by decide) : JE X W (.Name x pos) (E.c (.int i)) := je_c (pe_glob (v := .int i) hg hm ⟨_, rfl⟩ hd) fun _ _ => .int i
theorem je_gStr {x i : Str} {t : Tok} (hm : X.mg x = some (.str i t)) (hg : Gl X x := by rfl) (hd : (x == ("__debug__" : Str)) = false := by decide) : JE X W (.Name x pos) (E.c (.str i)) := je_c (pe_glob (v := .str i) hg hm ⟨_, rfl⟩ hd) fun _ _ => .str i
theorem je_gRef {x : Str} {a : Addr} {d : D} (hm : X.mg x = some (.ref a)) (h : ∀ p F, Dt X.K p F (.ref a) d) (hg : Gl X x := by rfl) (hd : (x == ("__debug__" : Str)) = false := by decide) : JE X W (.Name x pos) (E.c d) := je_c (pe_glob (v := .ref a) hg hm rfl hd) h
/-- a call of the def that a slot holds -/
def E.callL (i : Nat) (f : Addr) (mir : List D → M D) (mr : SS → M (List D)) : SS → M D := fun ss ms => match ss[i]? with
  | some (some (.dat (.fn g))) => if g = f then (mr ss ms).bind mir else .bad
  | _ => .bad
theorem je_callL {k i : Nat} {f : Addr} {fd : FuncData} {ps : List Str} {mir : List D → M D} {mr : SS → M (List D)} {x : Str} {p0 : Pos} (G : FnM X.prog X.w X.K X.mg X.base k f fd ps mir) (tk : Takes X W0) (hr : Room k X.A) (hk : PySem.W.keepIn X.K (.ref f) = true) (hb : Binds X.K fd ps [])
    (ha : JA X W (e :: es) mr) (hne : ∀ ds ms c ms', mir ds ms ≠ .ex c ms') (hn : ∀ (ss : SS) (ms : MS) (ds : List D) (ms' : MS), mr ss ms = .ok ds ms' → ds.length = ps.length) (hN : X.N[i]? = some x := by rfl) (hv : Vis X.env.scope x := by first | exact Or.inl rfl | exact Or.inr (Or.inl rfl) | exact Or.inr (Or.inr rfl)) (hdb : (x == ("__debug__" : Str)) = false := by decide) (hcd : (x == ("__classdict__" : Str)) = false := by decide)
    (he : starEach (e :: es) X.env = (false, eval e X.env) :: starEach es X.env := by rfl) (hpl : (backTo pos (starEach es X.env)).any (·.1) = false := by rfl) : JE X W (.Call (.Name x p0) (e :: es) [] pos) (E.callL i f mir mr) := by
  obtain ⟨t, h1, h2⟩ := ha
  refine ⟨_, pe_callL (i := i) (E := fun _ _ _ => False) (dvs := []) G hr hN hv hk hb .nil (passes_call tk fun _ _ _ _ h => h) h1 hdb hcd he hpl, fun p B σ ss H F ms Q s hs po => ?_⟩
  unfold E.callL at po
  split at po
  next g hg =>
    by_cases q : g = f
    · subst q
      rw [if_pos rfl] at po
      have hi : i < σ.length := by
        rw [s.len]
        exact (List.getElem?_eq_some_iff.mp hg).1
      obtain ⟨u, e1, q⟩ := s.ok i _ _ hg (List.getElem?_eq_getElem hi)
      cases q
      refine ⟨by rw [List.getElem?_eq_getElem hi, e1], ?_⟩
      cases r : mr ss ms with
      | bad => rw [r] at po; exact po.elim
      | ex c ms' => rw [r] at po; exact h2 p B σ ss H F ms _ s hs (by rw [r]; exact po)
      | ok ds ms1 =>
        rw [r] at po
        refine h2 p B σ ss H F ms _ s hs ?_
        rw [r]
        intro vs H1 F1 e1 q1
        have po1 : Po X.mg W p σ H1 F1 (relD X.K p) (mir ds ms1) Q := Po.ext e1 po
        refine ⟨p, F1, ds, ms1, by rw [List.append_nil, q1.length]; exact hn _ _ _ _ r, e1.hs, by rw [List.append_nil]; exact q1, ?_⟩
        cases r2 : mir ds ms1 with
        | ok x ms' => rw [r2] at po1; exact po1
        | ex c ms' => exact absurd r2 (hne _ _ _ _)
        | bad => rw [r2] at po1; exact po1
    · rw [if_neg q] at po
      exact po.elim
  next => exact po.elim

/-! ### subscripts -/
theorem IxR.or {r r' : R2} (h : IxR X r) (h' : IxR X r') : IxR X (fun x y H Q => r x y H Q ∨ r' x y H Q) := fun value slice pins s σ H x y v u Q I rx ry hh hs => hh.elim (fun q => h value slice pins s σ H x y v u Q I rx ry q hs) fun q => h' value slice pins s σ H x y v u Q I rx ry q hs
theorem Dts.at {K : PySem.W.Frag} {p : Option Addr} {F : Hp} {xs : List V} {ds : List D} {i : Int} {d : D} (r : Dts K p F xs ds) (h : atI ds i = some d) : ∃ v, atI xs i = some v ∧ Dt K p F v d := by
  unfold atI at h ⊢
  rw [r.length]
  cases e : ixN ds.length i with
  | none => rw [e] at h; cases h
  | some j =>
    rw [e] at h
    exact r.get h
def gIx : D → D → M D
  | .lst ds, .int i => fun ms => match atI ds i with
    | some d => .ok d ms
    | none => .bad
  | .tup ds, .int i => fun ms => match atI ds i with
    | some d => .ok d ms
    | none => .bad
  | .str x, .int i => fun ms => if x.length ≤ 100000 then (match atI x.cps.toList i with
    | some c => .ok (.str ⟨#[c]⟩) ms
    | none => .bad) else .bad
  | .pot, .int i => fun ms => match atI [ms.a, ms.b, ms.c] i with
    | some d => .ok (.int d) ms
    | none => .bad
  | _, _ => fun _ => .bad
theorem atI_map {α β : Type} {f : α → β} {xs : List α} {i : Int} {x : α} (h : atI xs i = some x) : atI (xs.map f) i = some (f x) := by
  unfold atI at h ⊢
  rw [List.length_map]
  cases e : ixN xs.length i with
  | none => rw [e] at h; cases h
  | some j =>
    rw [e] at h
    show (xs.map f)[j]? = some (f x)
    rw [List.getElem?_map, show xs[j]? = some x from h]
    rfl
theorem je_ix (ha : JB X W a ma) (hb : JB X W b mb) (hs : PlainIx b := by exact fun _ _ => rfl) : JE X W (.Subscript a b pos) (E.op2 gIx ma mb) := by
  obtain ⟨t, h1, h2⟩ := ha
  obtain ⟨u, h3, h4⟩ := hb
  refine ⟨_, pe_ix (IxR.or ix_list (IxR.or ix_tup ix_str)) h1 h3 hs, op2_ok h2 h4 fun W p σ H F ms x y dx dy Q hs bx bY po => ?_⟩
  cases dx with
  | lst ds =>
    cases dy with
    | int i =>
      obtain ⟨c, xs, rfl, k1, r1⟩ := bx.l hs
      have po : Po X.mg W p σ H F (relD X.K p) (match atI ds i with
        | some d => R.ok d ms
        | none => R.bad) Q := po
      cases e1 : atI ds i with
      | none => rw [e1] at po; exact po.elim
      | some d =>
        rw [e1] at po
        obtain ⟨v, hv, q⟩ := r1.at e1
        exact .inl ⟨c, xs, i, v, rfl, bY.i, k1, hv, po.ok hs q⟩
    | _ => exact po.elim
  | tup ds =>
    cases dy with
    | int i =>
      obtain ⟨c, xs, rfl, k1, f1, r1⟩ := bx.t hs
      have po : Po X.mg W p σ H F (relD X.K p) (match atI ds i with
        | some d => R.ok d ms
        | none => R.bad) Q := po
      cases e1 : atI ds i with
      | none => rw [e1] at po; exact po.elim
      | some d =>
        rw [e1] at po
        obtain ⟨v, hv, q⟩ := r1.at e1
        exact .inr (.inl ⟨c, xs, i, v, rfl, bY.i, k1, hv, po.ok hs q⟩)
    | _ => exact po.elim
  | str z =>
    cases dy with
    | int i =>
      cases bx.s
      have po : Po X.mg W p σ H F (relD X.K p) (if z.length ≤ 100000 then (match atI z.cps.toList i with
        | some c => R.ok (D.str ⟨#[c]⟩) ms
        | none => R.bad) else R.bad) Q := po
      by_cases hz : z.length ≤ 100000
      · rw [if_pos hz] at po
        cases e1 : atI z.cps.toList i with
        | none => rw [e1] at po; exact po.elim
        | some c =>
          rw [e1] at po
          exact .inr (.inr ⟨z, i, c, rfl, bY.i, sz5 hz, e1, po.ok hs (.str _)⟩)
      · rw [if_neg hz] at po
        exact po.elim
    | _ => exact po.elim
  | pot =>
    cases dy with
    | int i =>
      have : ∃ c, x = .ref c ∧ p = some c := by
        cases bx with
        | fz h => cases h with
          | pot h => exact ⟨_, rfl, h⟩
      obtain ⟨c, rfl, hp⟩ := this
      have po : Po X.mg W p σ H F (relD X.K p) (match atI [ms.a, ms.b, ms.c] i with
        | some d => R.ok (D.int d) ms
        | none => R.bad) Q := po
      cases e1 : atI [ms.a, ms.b, ms.c] i with
      | none => rw [e1] at po; exact po.elim
      | some d =>
        rw [e1] at po
        exact .inl ⟨c, _, i, .int d, rfl, bY.i, SqL.of (hs.pot c hp), atI_map (f := V.int) e1, po.ok hs (.int _)⟩
    | _ => exact po.elim
  | _ => exact po.elim
/-! slices -/
def JO (X : Cx) (W : WX) (e : Option Expr) (m : SS → M (Option Int)) : Prop := ∃ t, PO X e t ∧ ∀ (p : Option Addr) (B : Hp) (σ : L2.St) (ss : SS) (H F : Hp) (ms : MS) (Q : Option Int → Hp → Prop),
  Sl X.K p B F H σ ss → Hs p F H ms → Po X.mg W p σ H F (fun _ _ (a b : Option Int) => a = b) (m ss ms) Q → t σ H Q
def E.noPart : SS → M (Option Int) := fun _ ms => .ok none ms
def E.part (m : SS → M D) : SS → M (Option Int) := fun ss ms => (m ss ms).bind fun d ms1 => match d with
  | .int i => .ok (some i) ms1
  | _ => .bad
theorem jo_none : JO X W none E.noPart := ⟨_, po_none, fun p B σ ss H F ms Q s hs po => po.ok hs rfl⟩
theorem jo_some (h : JE X W e m) : JO X W (some e) (E.part m) := by
  obtain ⟨t, h1, h2⟩ := h
  refine ⟨_, po_some h1, fun p B σ ss H F ms Q s hs po => ?_⟩
  refine h2 p B σ ss H F ms _ s hs (po.bind fun x ms1 v H1 F1 e1 q1 po1 => ?_)
  cases x with
  | int i => cases q1; exact ⟨i, rfl, po1.ok e1.hs rfl⟩
  | _ => exact po1.elim
def cut {α : Type} (xs : List α) (lo hi : Option Int) : List α := (xs.drop (HT.sIx xs.length 0 lo)).take (HT.sIx xs.length xs.length hi - HT.sIx xs.length 0 lo)
theorem Dts.cut {K : PySem.W.Frag} {p : Option Addr} {F : Hp} {xs : List V} {ds : List D} (r : Dts K p F xs ds) (lo hi : Option Int) : Dts K p F (cutV xs lo hi) (Q.cut ds lo hi) := by
  unfold cutV Q.cut
  rw [r.length]
  exact (r.drop _).take _
def gSl : D → Option Int → Option Int → M D
  | .lst ds, lo, hi => fun ms => .ok (.lst (cut ds lo hi)) ms
  | .tup ds, lo, hi => fun ms => .ok (.tup (cut ds lo hi)) ms
  | .str x, lo, hi => fun ms => if x.length ≤ 100000 then .ok (.str (cutS x lo hi)) ms else .bad
  | _, _, _ => fun _ => .bad
def E.sl (m : SS → M D) (ml mh : SS → M (Option Int)) : SS → M D := fun ss ms => (m ss ms).bind fun x ms1 => (ml ss ms1).bind fun lo ms2 => (mh ss ms2).bind fun hi ms3 => gSl x lo hi ms3
theorem whole_cut {α : Type} {xs : List α} {lo hi : Option Int} (h : HT.sIx xs.length 0 lo = 0 ∧ HT.sIx xs.length xs.length hi = xs.length) : cut xs lo hi = xs := by
  unfold cut
  rw [h.1, h.2]
  simp
theorem je_sl {lo hi : Option Expr} {ml mh : SS → M (Option Int)} {p2 : Pos} (he : JB X W e m) (hl : JO X W lo ml) (hh : JO X W hi mh) : JE X W (.Subscript e (.Slice lo hi none p2) pos) (E.sl m ml mh) := by
  obtain ⟨t, h1, h2⟩ := he
  obtain ⟨u, h3, h4⟩ := hl
  obtain ⟨w, h5, h6⟩ := hh
  refine ⟨_, pe_slice (SlR.or sl_list (SlR.or sl_tupA sl_str)) h1 h3 h5, fun p B σ ss H F ms Q s hs po => ?_⟩
  refine h2 p B σ ss H F ms _ s hs (po.bind fun x ms1 v H1 F1 e1 q1 po1 => ?_)
  refine h4 p B σ ss H1 F1 ms1 _ (s.ext e1) e1.hs (po1.bind fun lo ms2 l H2 F2 e2 q2 po2 => ?_)
  refine h6 p B σ ss H2 F2 ms2 _ ((s.ext e1).ext e2) e2.hs (po2.bind fun hi ms3 h H3 F3 e3 q3 po3 => ?_)
  subst q2
  subst q3
  have b3 := (q1.ext e2).ext e3
  cases x with
  | lst ds =>
    obtain ⟨c, xs, rfl, k1, r1⟩ := b3.l e3.hs
    exact .inl ⟨c, xs, rfl, k1, fun d hd => Po.new (x := D.lst _) po3 e3.hs hd (.lst (SqL.of upd_same) ((r1.cut _ _).mono (Ext.new (p := p) (ms := ms3) e3.hs hd).ff))⟩
  | tup ds =>
    obtain ⟨c, xs, rfl, k1, f1, r1⟩ := b3.t e3.hs
    refine .inr (.inl ⟨c, xs, rfl, k1, fun hw => ?_, fun _ d hd => Po.new (x := D.tup _) po3 e3.hs hd (.tup (SqT.of upd_same) ((r1.cut _ _).mono (Ext.new (p := p) (ms := ms3) e3.hs hd).ff))⟩)
    rw [r1.length] at hw
    refine Po.ok (x := D.tup (cut ds _ _)) po3 e3.hs ?_
    rw [whole_cut hw]
    exact .tup f1 r1
  | str z =>
    cases b3.s
    have po3 : Po X.mg W p σ H3 F3 (relD X.K p) (if z.length ≤ 100000 then R.ok (D.str (cutS z l h)) ms3 else R.bad) Q := po3
    by_cases hz : z.length ≤ 100000
    · rw [if_pos hz] at po3
      exact .inr (.inr ⟨z, rfl, sz5 hz, po3.ok e3.hs (.str _)⟩)
    · rw [if_neg hz] at po3
      exact po3.elim
  | _ => exact po3.elim

/-! ### in -/
def D.flat : D → Bool
  | .non => true
  | .bl _ => true
  | .int _ => true
  | .str _ => true
  | _ => false
def eqF : D → D → Bool
  | .non, .non => true
  | .bl a, .bl b => a == b
  | .bl a, .int b => (if a then 1 else 0) == b
  | .int a, .bl b => a == (if b then 1 else 0)
  | .int a, .int b => a == b
  | .str a, .str b => a == b
  | _, _ => false
theorem flat_v {K : PySem.W.Frag} {p : Option Addr} {F : Hp} {v : V} {d : D} (h : Dt K p F v d) (e : d.flat = true) : flatV v = true := by
  cases h <;> first | rfl | cases e
theorem flats_v {K : PySem.W.Frag} {p : Option Addr} {F : Hp} : ∀ {vs : List V} {ds : List D}, Dts K p F vs ds → ds.all D.flat = true → vs.all flatV = true
  | _, _, .nil, _ => rfl
  | _, _, .cons h r, e => by
    rw [List.all_cons, Bool.and_eq_true] at e
    rw [List.all_cons, flat_v h e.1, flats_v r e.2]
    rfl
theorem eqF_v {K : PySem.W.Frag} {p : Option Addr} {F : Hp} {v u : V} {d c : D} (h : Dt K p F v d) (h' : Dt K p F u c) (e : d.flat = true) (e' : c.flat = true) : eqV v u = eqF d c := by
  cases h <;> first | (cases e; done) | (cases h' <;> first | (cases e'; done) | rfl)
theorem inF_v {K : PySem.W.Frag} {p : Option Addr} {F : Hp} {x : V} {c : D} (h' : Dt K p F x c) (e' : c.flat = true) : ∀ {vs : List V} {ds : List D}, Dts K p F vs ds → ds.all D.flat = true → inV x vs = ds.any fun d => eqF d c
  | _, _, .nil, _ => rfl
  | _, _, .cons h r, e => by
    rw [List.all_cons, Bool.and_eq_true] at e
    have := inF_v h' e' r e.2
    unfold inV at this ⊢
    rw [List.any_cons, List.any_cons, eqF_v h h' e.1 e', this]
def gInSeq (n : Bool) : D → D → M D := fun x y ms => match y with
  | .lst ds => if x.flat = true ∧ ds.all D.flat = true then .ok (.bl (if n then !(ds.any fun d => eqF d x) else ds.any fun d => eqF d x)) ms else .bad
  | .tup ds => if x.flat = true ∧ ds.all D.flat = true then .ok (.bl (if n then !(ds.any fun d => eqF d x) else ds.any fun d => eqF d x)) ms else .bad
  | _ => .bad
def one? (x : Str) : Option Nat := match x.cps.toList with
  | [c] => some c
  | _ => none
theorem one_eq {x : Str} {c : Nat} (h : one? x = some c) : x = ⟨#[c]⟩ := by
  unfold one? at h
  split at h
  next k hk =>
    cases h
    obtain ⟨a⟩ := x
    congr
    exact Array.toList_inj.mp (by rw [hk])
  next => cases h
def gInStr (n : Bool) : D → D → M D := fun x y ms => match x, y with
  | .str a, .str z => match one? a with
    | some c => .ok (.bl (if n then !decide (c ∈ z.cps.toList) else decide (c ∈ z.cps.toList))) ms
    | none => .bad
  | _, _ => .bad
theorem Bw.flat {K : PySem.W.Frag} {p : Option Addr} {F H : Hp} {v : V} {d : D} (b : Bw K p F H v d) (e : d.flat = true) : Dt K p F v d := by
  cases b with
  | fz h => exact h
  | own _ _ _ => cases e
theorem in_seq_ok {n : Bool} {K : PySem.W.Frag} {mg : Str → Option Value} {p : Option Addr} {σ : L2.St} {H F : Hp} {ms : MS} {x y : V} {dx dy : D} {Q : VK} (hs : Hs p F H ms) (bx : Bw K p F H x dx) (bY : Bw K p F H y dy) (po : Po mg W p σ H F (relD K p) (gInSeq n dx dy ms) Q) : rIn K n x y H Q := by
  have fin : ∀ (ds : List D) (xs : List V), Dts K p F xs ds → Po mg W p σ H F (relD K p) (if dx.flat = true ∧ ds.all D.flat = true then R.ok (.bl (if n then !(ds.any fun d => eqF d dx) else ds.any fun d => eqF d dx)) ms else .bad) Q → flatV x = true ∧ xs.all flatV = true ∧ Q (.bl (if n then !inV x xs else inV x xs)) H := by
    intro ds xs r po
    by_cases q : dx.flat = true ∧ ds.all D.flat = true
    · rw [if_pos q] at po
      have d := bx.flat q.1
      exact ⟨flat_v d q.1, flats_v r q.2, by rw [inF_v d q.1 r q.2]; exact po.ok hs (.bl _)⟩
    · rw [if_neg q] at po
      exact po.elim
  cases dy with
  | lst ds =>
    obtain ⟨c, xs, rfl, k1, r1⟩ := bY.l hs
    obtain ⟨h1, h2, h3⟩ := fin ds xs r1 po
    exact ⟨c, xs, rfl, .inl k1, h1, h2, h3⟩
  | tup ds =>
    obtain ⟨c, xs, rfl, k1, f1, r1⟩ := bY.t hs
    obtain ⟨h1, h2, h3⟩ := fin ds xs r1 po
    exact ⟨c, xs, rfl, .inr k1, h1, h2, h3⟩
  | _ => exact po.elim
theorem ok_inSeq : OpOk X (compareOp .In) (gInSeq false) := ⟨_, op_in_seq, fun W p σ H F ms x y dx dy Q hs bx bY po => in_seq_ok hs bx bY po⟩
theorem ok_notInSeq : OpOk X (compareOp .NotIn) (gInSeq true) := ⟨_, op_notIn_seq, fun W p σ H F ms x y dx dy Q hs bx bY po => in_seq_ok hs bx bY po⟩
theorem in_str_inv {n : Bool} {mg : Str → Option Value} {p : Option Addr} {σ : L2.St} {H F : Hp} {rel : Hp → Hp → V → D → Prop} {ms : MS} {dx dy : D} {Q : VK} (po : Po mg W p σ H F rel (gInStr n dx dy ms) Q) :
    ∃ c z, dx = .str ⟨#[c]⟩ ∧ dy = .str z ∧ Po mg W p σ H F rel (.ok (.bl (if n then !decide (c ∈ z.cps.toList) else decide (c ∈ z.cps.toList))) ms) Q := by
  cases dx with
  | str a =>
    cases dy with
    | str z =>
      have po : Po mg W p σ H F rel (match one? a with
        | some c => R.ok (.bl (if n then !decide (c ∈ z.cps.toList) else decide (c ∈ z.cps.toList))) ms
        | none => .bad) Q := po
      cases e : one? a with
      | none => rw [e] at po; exact po.elim
      | some c =>
        rw [e] at po
        cases one_eq e
        exact ⟨c, z, rfl, rfl, po⟩
    | _ => exact po.elim
  | _ => exact po.elim
theorem ok_inStr : OpOk X (compareOp .In) (gInStr false) := by
  refine ⟨_, op_in_sign, fun W p σ H F ms x y dx dy Q hs bx bY po => ?_⟩
  obtain ⟨c, z, rfl, rfl, po⟩ := in_str_inv po
  exact ⟨c, z, bx.s, bY.s, po.ok hs (.bl _)⟩
theorem ok_notInStr : OpOk X (compareOp .NotIn) (gInStr true) := by
  refine ⟨_, op_notIn_sign, fun W p σ H F ms x y dx dy Q hs bx bY po => ?_⟩
  obtain ⟨c, z, rfl, rfl, po⟩ := in_str_inv po
  exact ⟨c, z, bx.s, bY.s, po.ok hs (.bl _)⟩
def gIn : D → D → M D := orG (gInStr false) (gInSeq false)
def gNotIn : D → D → M D := orG (gInStr true) (gInSeq true)
theorem ok_in : OpOk X (compareOp .In) gIn := OpOk.or ok_inStr ok_inSeq
theorem ok_notIn : OpOk X (compareOp .NotIn) gNotIn := OpOk.or ok_notInStr ok_notInSeq
end
end Q

set_option Elab.async false
set_option linter.all false
set_option maxRecDepth 100000
set_option maxHeartbeats 4000000
/-! Qg: join, own lists changed, the pot changed, a written dict asked. -/
namespace Q
open PySem L2 PyProof.Rows
section
variable {X : Cx} {W : WX} {e a b o : Expr} {es : List Expr} {m ma mb mo mk : SS → M D} {pos apos : Pos}
/-! ### join -/
def dstrs : List D → Option (List Str)
  | [] => some []
  | .str x :: r => (dstrs r).map (x :: ·)
  | _ :: _ => none
theorem dstrs_v {K : PySem.W.Frag} {p : Option Addr} {F : Hp} : ∀ {vs : List V} {ds : List D} {ys : List Str}, Dts K p F vs ds → dstrs ds = some ys → vs = ys.map V.str
  | _, _, _, .nil, e => by cases e; rfl
  | _, _, _, .cons (d := d) (ds := ds) h r, e => by
    cases h with
    | str x =>
      unfold dstrs at e
      cases e1 : dstrs ds with
      | none => rw [e1] at e; cases e
      | some ys => rw [e1] at e; cases e; rw [dstrs_v r e1]; rfl
    | _ => cases e
def gJoin (z : Str) : D → M D := fun y ms => match y with
    | .lst ds => (match dstrs ds with
      | some ys => if (ys.map (·.length)).sum + ys.length * z.length ≤ 100000 then .ok (.str (Txt.join z ys)) ms else .bad
      | none => .bad)
    | _ => .bad
theorem je_join {z : Str} {j : Nat} {p1 : Pos} (he : JB X W e m) (hs : starEach [e] X.env = [(false, eval e X.env)] := by rfl) (hbase : attributeBase (.Constant (.str z) j p1) "join" X.env (eval (.Constant (.str z) j p1) X.env) = eval (.Constant (.str z) j p1) X.env := by rfl) (hline : (apos.endLine == pos.line) = true := by rfl) :
    JE X W (.Call (.Attribute (.Constant (.str z) j p1) "join" apos) [e] [] pos) (E.op1 (gJoin z) m) := by
  obtain ⟨u, h3, h4⟩ := he
  refine ⟨_, pe_join pe_str h3 hs hbase hline, fun p B σ ss H F ms Q s hs po => ⟨⟨z, rfl⟩, ?_⟩⟩
  refine h4 p B σ ss H F ms _ s hs (po.bind fun y ms2 u H2 F2 e2 q2 po2 => ?_)
  cases y with
  | lst ds =>
    obtain ⟨c, xs, rfl, k1, r1⟩ := q2.l e2.hs
    have po2 : Po X.mg W p σ H2 F2 (relD X.K p) (match dstrs ds with
      | some ys => if (ys.map (·.length)).sum + ys.length * z.length ≤ 100000 then R.ok (.str (Txt.join z ys)) ms2 else .bad
      | none => .bad) Q := po2
    cases e3 : dstrs ds with
    | none => rw [e3] at po2; exact po2.elim
    | some ys =>
      rw [e3] at po2
      have po3 : Po X.mg W p σ H2 F2 (relD X.K p) (if (ys.map (·.length)).sum + ys.length * z.length ≤ 100000 then R.ok (.str (Txt.join z ys)) ms2 else .bad) Q := po2
      by_cases hz : (ys.map (·.length)).sum + ys.length * z.length ≤ 100000
      · rw [if_pos hz] at po3
        cases dstrs_v r1 e3
        exact ⟨z, c, ys, rfl, rfl, .inl k1, Nat.le_trans hz (by decide), po3.ok e2.hs (.str _)⟩
      · rw [if_neg hz] at po3
        exact po3.elim
  | _ => exact po2.elim
/-! ### own lists -/
namespace S
def append (i : Nat) (m : SS → M D) : SS → MS → O := fun ss ms => match ss[i]? with
  | some (some (.own ds)) => (m ss ms).o ss fun d ms1 => if ds.length < 100000 then .nx (ss.set i (some (.own (ds ++ [d])))) ms1 else .bad
  | _ => .bad
def putMS (ms : MS) (i : Nat) (z : Int) : MS := match i with
  | 0 => { ms with a := z }
  | 1 => { ms with b := z }
  | _ => { ms with c := z }
/-- x[k] = v, x an own list or the pot -/
def setIx (i : Nat) (mk me : SS → M D) : SS → MS → O := fun ss ms => match ss[i]? with
  | some (some (.own ds)) => (me ss ms).o ss fun d ms1 => (mk ss ms1).o ss fun k ms2 => (match k with
    | .int k => (match ixN ds.length k with
      | some j => .nx (ss.set i (some (.own (ds.set j d)))) ms2
      | none => .bad)
    | _ => .bad)
  | some (some (.dat .pot)) => (me ss ms).o ss fun d ms1 => (mk ss ms1).o ss fun k ms2 => (match k with
    | .int k => (match ixN 3 k with
      | some j => (match d with
        | .int z => .nx ss (putMS ms2 j z)
        | _ => .bad)
      | none => .bad)
    | _ => .bad)
  | _ => .bad
end S
theorem slot_of {K : PySem.W.Frag} {p : Option Addr} {B F H : Hp} {σ : L2.St} {ss : SS} {i : Nat} {sv : Option SV} (s : Sl K p B F H σ ss) (h : ss[i]? = some sv) : ∃ v, σ[i]? = some v ∧ SlOk K p B F H v sv := by
  have hi : i < σ.length := by
    rw [s.len]
    exact (List.getElem?_eq_some_iff.mp h).1
  exact ⟨σ[i], List.getElem?_eq_getElem hi, s.ok i _ _ h (List.getElem?_eq_getElem hi)⟩
theorem js_append {i : Nat} {cpos : Pos} (ho : PE X o (tVar i)) (he : JE X W e m) (hbase : attributeBase o "append" X.env (eval o X.env) = eval o X.env := by rfl)
    (hfew : ((backTo cpos (starEach [e] X.env)).all (fun x => !x.1) && (backToKw cpos (keywordEach [] X.env)).all (fun x => x.1.isSome) && decide ([e].length + ([] : List Keyword).length + (if ([] : List Keyword).isEmpty then 0 else 1) < 30)) = true := by rfl)
    (hline : (apos.endLine == cpos.line) = true := by rfl) (hs : starEach [e] X.env = (false, eval e X.env) :: starEach [] X.env := by rfl) (hplain : (backTo cpos (starEach [] X.env)).any (·.1) = false := by rfl)
    (hsw : swapsWith (.Call (.Attribute o "append" apos) [e] [] cpos) none pos.line X.env = pure false := by rfl) :
    JS X W (.Expr (.Call (.Attribute o "append" apos) [e] [] cpos) pos) (S.append i m) := by
  obtain ⟨t, h1, h2⟩ := he
  refine ⟨_, ps_expr (pe_bm PySem.F.plainAttrs_list PySem.F.slot_list_append PySem.F.type_list_append mt_append ho (pa_cons h1 pa_nil hs) hbase hfew hline hs hplain) hsw, fun p B F0 σ ss H F ms En fm po => ?_⟩
  unfold S.append at po
  split at po
  next ds key =>
    obtain ⟨v, hv, c, xs, e1, k1, k2, k3, k4, k5⟩ := slot_of fm.sl key
    subst e1
    refine ⟨.ref c, hv, .inl ⟨rfl, xs, SqL.of k1⟩, ?_⟩
    refine h2 p B σ ss H F ms _ fm.sl fm.ex.hs (fm.po po fun x ms1 v H1 F1 fm1 e1 q po2 => ?_)
    by_cases hz : ds.length < 100000
    · rw [if_pos hz] at po2
      have k1' := e1.kp _ _ k1 k4
      have r1 := k5.mono e1.ff
      refine ⟨c, xs, v, rfl, rfl, k1', by rw [k5.length]; exact sz5lt hz, po2 σ _ F1 ⟨fm1.sl.chg key hv (r1.snoc q), fm1.ex.chg (e1.nf _ _ k1 k2) k3 k4⟩⟩
    · rw [if_neg hz] at po2
      exact po2.elim
  next => exact po.elim
theorem set3 {ms : MS} {j : Nat} {z : Int} (hj : j < 3) : ([V.int ms.a, V.int ms.b, V.int ms.c] : List V).set j (.int z) = [V.int (S.putMS ms j z).a, V.int (S.putMS ms j z).b, V.int (S.putMS ms j z).c] := by
  match j, hj with
  | 0, _ => rfl
  | 1, _ => rfl
  | 2, _ => rfl
/-- the pot changes -/
theorem Ext.pot {p : Option Addr} {B F0 H F : Hp} {ms ms' : MS} {a : Addr} (e : Ext p B F0 H F ms) (hp : p = some a) : Ext p B F0 (upd H a (.lst [.int ms'.a, .int ms'.b, .int ms'.c])) F ms' :=
  ⟨e.ff, e.nf, fun b u hb np => by rw [upd_ne (show b ≠ a from fun z => np (z ▸ hp))]; exact e.kp b u hb np, ⟨fun b u q => by rw [upd_ne (ne_of_none q (e.hs.pf a hp))]; exact e.hs.fh b u q, fun b q => by
    rw [hp] at q
    cases q
    exact upd_same, e.hs.pf⟩⟩
theorem Sl.pot {K : PySem.W.Frag} {p : Option Addr} {B F H : Hp} {σ : L2.St} {ss : SS} {a : Addr} {o : HO} (s : Sl K p B F H σ ss) (hp : p = some a) : Sl K p B F (upd H a o) σ ss := by
  refine ⟨s.len, fun i sv v h1 h2 => ?_, s.ap⟩
  have q := s.ok i sv v h1 h2
  match sv, q with
  | none, _ => trivial
  | some (.dat d), ⟨u, e1, q⟩ => exact ⟨u, e1, q⟩
  | some (.own ds), ⟨c, xs, e1, h, hf, hb, n, r⟩ => exact ⟨c, xs, e1, by rw [upd_ne (show c ≠ a from fun z => n (z ▸ hp))]; exact h, hf, hb, n, r⟩
theorem js_setIx {i : Nat} {tpos : Pos} (ho : PE X o (tVar i)) (hk : JE X W a mk) (he : JE X W e m)
    (ha : ∀ v, assign (.Subscript o a tpos) X.env v = (do
      let ov ← holding [v] (eval o X.env)
      let iv ← holding [v, ov] (eval a X.env)
      standAt tpos
      holding [v, ov, iv] (setItem ov iv v)
      release [v, ov, iv] []) := by intro _; rfl)
    (hs : swapsWithSole [.Subscript o a tpos] e pos.line X.env = pure false := by rfl) (hw : swappedStores [.Subscript o a tpos] e X.env = pure none := by rfl) (h1 : (assignEach [.Subscript o a tpos] X.env).map (·.2) = [assign (.Subscript o a tpos) X.env] := by rfl) :
    JS X W (.Assign [.Subscript o a tpos] e pos) (S.setIx i mk m) := by
  obtain ⟨t, he1, he2⟩ := he
  obtain ⟨u, hk1, hk2⟩ := hk
  refine ⟨_, ps_asg he1 (pg_sub ho hk1 set_list ha) hs hw h1, fun p B F0 σ ss H F ms En fm po => ?_⟩
  unfold S.setIx at po
  split at po
  next ds key =>
    refine he2 p B σ ss H F ms _ fm.sl fm.ex.hs (fm.po po fun x ms1 v H1 F1 fm1 e1 q1 po1 => ?_)
    obtain ⟨v0, hv, c, xs, e0, k1, k2, k3, k4, k5⟩ := slot_of fm1.sl key
    subst e0
    refine ⟨.ref c, hv, hk2 p B σ ss H1 F1 ms1 _ fm1.sl fm1.ex.hs (fm1.po po1 fun k ms2 u H2 F2 fm2 e2 q2 po2 => ?_)⟩
    cases k with
    | int k =>
      cases q2
      have po2 : PoS X.K X.mg W p B F0 (match ixN ds.length k with
        | some j => O.nx (ss.set i (some (.own (ds.set j x)))) ms2
        | none => O.bad) En := po2
      cases ej : ixN ds.length k with
      | none => rw [ej] at po2; exact po2.elim
      | some j =>
        rw [ej] at po2
        have r2 := k5.mono e2.ff
        exact ⟨c, xs, k, j, rfl, rfl, e2.kp _ _ k1 k4, by rw [k5.length]; exact ej, po2 σ _ F2 ⟨fm2.sl.chg key hv (r2.set (q1.mono e2.ff) j), fm2.ex.chg (e2.nf _ _ k1 k2) k3 k4⟩⟩
    | _ => exact po2.elim
  next key =>
    refine he2 p B σ ss H F ms _ fm.sl fm.ex.hs (fm.po po fun x ms1 v H1 F1 fm1 e1 q1 po1 => ?_)
    obtain ⟨v0, hv, u0, e0, k1⟩ := slot_of fm1.sl key
    subst e0
    cases k1 with
    | pot hp =>
      refine ⟨_, hv, hk2 p B σ ss H1 F1 ms1 _ fm1.sl fm1.ex.hs (fm1.po po1 fun k ms2 u H2 F2 fm2 e2 q2 po2 => ?_)⟩
      cases k with
      | int k =>
        cases q2
        have po2 : PoS X.K X.mg W p B F0 (match ixN 3 k with
          | some j => (match (generalizing := false) x with
            | .int z => O.nx ss (S.putMS ms2 j z)
            | _ => O.bad)
          | none => O.bad) En := po2
        cases ej : ixN 3 k with
        | none => rw [ej] at po2; exact po2.elim
        | some j =>
          rw [ej] at po2
          cases x with
          | int z =>
            cases q1
            have hj : j < 3 := (ixN_seq ej).2.1
            refine ⟨_, _, k, j, rfl, rfl, fm2.ex.hs.pot _ hp, ej, ?_⟩
            rw [set3 hj]
            exact po2 σ _ F2 ⟨fm2.sl.pot hp, fm2.ex.pot hp⟩
          | _ => exact po2.elim
      | _ => exact po2.elim
  next => exact po.elim
/-! ### a written dict asked for a text -/
def gInK (ks : List Str) : D → M D
  | .str x => fun ms => .ok (.bl (decide (x ∈ ks))) ms
  | _ => fun _ => .bad
def E.inK (ks : List Str) (m : SS → M D) : SS → M D := E.op1 (gInK ks) m
/-- d a written dict whose keys are the texts ks -/
structure KD (K : PySem.W.Frag) (w : World) (d : Addr) (ks : List Str) : Prop where
  ex : ∃ es n, KDict K w d es n ∧ ∀ z : Str, ∃ r, PySem.W.nsIn K d z = some r ∧ r.isSome = decide (z ∈ ks)
theorem je_inK {x : Str} {d : Addr} {ks : List Str} {p0 : Pos} (hk : KD X.K X.w d ks) (hm : X.mg x = some (.ref d)) (he : JE X W e m) (hg : Gl X x := by rfl) (hd : (x == ("__debug__" : Str)) = false := by decide) (hb : behindInMarks .In (.Name x p0) = false := by rfl) : JE X W (.Compare e [.In] [.Name x p0] pos) (E.inK ks m) := by
  obtain ⟨t, h1, h2⟩ := he
  obtain ⟨es, n, kd, look⟩ := hk.ex
  refine ⟨_, pe_cmpR (op_in_kd kd) h1 (pe_glob (v := .ref d) hg hm rfl hd) hb, fun p B σ ss H F ms Q s hs po => ?_⟩
  refine h2 p B σ ss H F ms _ s hs (po.bind fun y ms1 v H1 F1 e1 q1 po1 => ?_)
  cases y with
  | str z =>
    cases q1
    obtain ⟨r, hr, hz⟩ := look z
    refine ⟨z, r, rfl, rfl, hr, ?_⟩
    rw [hz]
    exact Po.ok (x := D.bl (decide (z ∈ ks))) po1 e1.hs (.bl _)
  | _ => exact po1.elim
theorem jt_inK {x : Str} {d : Addr} {ks : List Str} {p0 : Pos} (hk : KD X.K X.w d ks) (hm : X.mg x = some (.ref d)) (he : JE X W e m) (hg : Gl X x := by rfl) (hd : (x == ("__debug__" : Str)) = false := by decide) (hb : behindInMarks .In (.Name x p0) = false := by rfl) : JT X W (.Compare e [.In] [.Name x p0] pos) (E.test (E.inK ks m)) := by
  obtain ⟨t, h1, h2⟩ := he
  obtain ⟨es, n, kd, look⟩ := hk.ex
  refine ⟨_, pt_cmpR (op_in_kd kd) h1 (pe_glob (v := .ref d) hg hm rfl hd) hb, test_ok fun p B σ ss H F ms Q s hs po => ?_⟩
  refine h2 p B σ ss H F ms _ s hs (po.bind fun y ms1 v H1 F1 e1 q1 po1 => ?_)
  cases y with
  | str z =>
    cases q1
    obtain ⟨r, hr, hz⟩ := look z
    refine ⟨z, r, rfl, rfl, hr, ?_⟩
    rw [hz]
    exact Po.ok (x := D.bl (decide (z ∈ ks))) po1 e1.hs (.bl _)
  | _ => exact po1.elim
end
end Q

set_option Elab.async false
set_option linter.all false
set_option maxRecDepth 100000
set_option maxHeartbeats 4000000
/-! Qh: a program's defs, bundled. -/
namespace Q
open PySem L2 PyProof.Rows
/-- the def x of the text as it stands behind the top -/
structure Df (K : PySem.W.Frag) (mg : Str → Option Value) (x : Str) (st : Stmt) (ps : List Str) : Prop where
  ex : ∃ f fd, Fun K x x st f fd ∧ mg x = some (.ref f) ∧ Binds K fd ps []
/-- the def x keeps to its mirror -/
structure Fn (P : Program) (w : World) (K : PySem.W.Frag) (mg : Str → Option Value) (base : Heap) (x : Str) (k : Nat) (ps : List Str) (mir : List D → M D) : Prop where
  ex : ∃ f fd, FnM P w K mg base k f fd ps mir ∧ mg x = some (.ref f) ∧ PySem.W.keepIn K (.ref f) = true ∧ Binds K fd ps []
def Len (mr : SS → M (List D)) (n : Nat) : Prop := ∀ (ss : SS) (ms : MS) (ds : List D) (ms' : MS), mr ss ms = .ok ds ms' → ds.length = n
theorem lenN : Len E.nil 0 := fun ss ms ds ms' h => by cases h; rfl
theorem lenC {a : SS → M D} {r : SS → M (List D)} {n : Nat} (h : Len r n) : Len (E.cons a r) (n + 1) := fun ss ms ds ms' e => by
  unfold E.cons at e
  cases r1 : a ss ms with
  | bad => rw [r1] at e; cases e
  | ex c ms1 => rw [r1] at e; cases e
  | ok x ms1 =>
    rw [r1, R.bind_ok] at e
    cases r2 : r ss ms1 with
    | bad => rw [r2] at e; cases e
    | ex c ms1 => rw [r2] at e; cases e
    | ok xs ms2 =>
      rw [r2] at e
      cases e
      exact congrArg (· + 1) (h ss ms1 _ _ r2)
section
variable {P : Program} {w : World} {K : PySem.W.Frag} {mg : Str → Option Value} {base : Heap}
theorem fnm_bad {f : Addr} {fd : FuncData} {k : Nat} {ps : List Str} : FnM P w K mg base k f fd ps (fun _ _ => .bad) := by
  have no : ∀ vs H Q E, ¬ spM K mg ps.length (fun _ _ => .bad) vs H Q E := fun vs H Q E h => by
    obtain ⟨p, F, ds, ms, _, _, _, h⟩ := h
    exact h
  exact ⟨fun vs H Q E h => absurd h (no vs H Q E), fun A outer s H args us vs Q E _ _ _ _ h => absurd h (no vs H Q E)⟩
theorem Fn.bad {x : Str} {st : Stmt} {k : Nat} {ps : List Str} (d : Df K mg x st ps) : Fn P w K mg base x k ps (fun _ _ => .bad) := by
  obtain ⟨f, fd, h1, h2, h3⟩ := d.ex
  exact ⟨f, fd, fnm_bad, h2, h1.kp, h3⟩
theorem Fn.mono {x : Str} {j k : Nat} {ps : List Str} {mir : List D → M D} (F : Fn P w K mg base x j ps mir) (h : j ≤ k) : Fn P w K mg base x k ps mir := by
  obtain ⟨f, fd, h1, h2⟩ := F.ex
  exact ⟨f, fd, h1.mono h, h2⟩
theorem Fn.of {x : Str} {st : Stmt} {N ps : List Str} {k : Nat} {m : SS → MS → O} (d : Df K mg x st ps) (S : FnScope N ps (defScope st))
    (hbody : ∀ (f : Addr) (cdv : Value) (A : Around) (outer : List Env) (s : Shared) (H : Hp) (E : XK), Room k (A.deeper (envOfC x (defScope st) s.heap.objs.size f cdv)) →
      ∀ (W : WX), Takes (cxOf (L2.CX P w) P w K mg base N x (defScope st) f cdv A outer s H E) W →
        JSs (cxOf (L2.CX P w) P w K mg base N x (defScope st) f cdv A outer s H E) W (defBody st) m) : Fn P w K mg base x (k + 1) ps (mirOf N.length m) := by
  obtain ⟨f, fd, h1, h2, h3⟩ := d.ex
  exact ⟨f, fd, fnm_of h1 S fun cdv A outer s H E hr W _ tk => hbody f cdv A outer s H E hr W tk, h2, h1.kp, h3⟩
end
section
variable {X : Cx} {W : WX} {e : Expr} {es : List Expr} {pos : Pos}
theorem je_callF {k : Nat} {ps : List Str} {mir : List D → M D} {mr : SS → M (List D)} {x : Str} {p0 : Pos} (G : Fn X.prog X.w X.K X.mg X.base x k ps mir) (tk : Takes X W) (hr : Room k X.A) (ha : JA X W (e :: es) mr) (hn : Len mr ps.length) (hg : Gl X x := by rfl)
    (hdb : (x == ("__debug__" : Str)) = false := by decide) (he : starEach (e :: es) X.env = (false, eval e X.env) :: starEach es X.env := by rfl) (hpl : (backTo pos (starEach es X.env)).any (·.1) = false := by rfl) : JE X W (.Call (.Name x p0) (e :: es) [] pos) (E.fnA mir mr) := by
  obtain ⟨f, fd, h1, h2, h3, h4⟩ := G.ex
  exact je_call tk h1 hr hg h2 h3 h4 ha hdb he hpl hn
end
end Q

set_option Elab.async false
set_option linter.all false
set_option maxRecDepth 100000
set_option maxHeartbeats 4000000
/-! Qi: further words; a def that hands back a new list; a pot laid in a loop's turn. -/
namespace Q
open PySem L2 PyProof.Rows
section
variable {X : Cx} {W : WX} {e : Expr} {es : List Expr} {pos : Pos} {m : SS → M D}
def gNeg : D → M D
  | .int i => fun ms => .ok (.int (-i)) ms
  | _ => fun _ => .bad
theorem je_neg (h : JB X W e m) : JE X W (.UnaryOp .USub e pos) (E.op1 gNeg m) := by
  obtain ⟨t, h1, h2⟩ := h
  refine ⟨_, pe_un un_neg h1, fun p B σ ss H F ms Q s hs po => ?_⟩
  refine h2 p B σ ss H F ms _ s hs (po.bind fun x ms1 v H1 F1 e1 q1 po1 => ?_)
  cases x with
  | int i => cases q1.i; exact ⟨i, rfl, Po.ok (x := D.int (-i)) po1 e1.hs (.int _)⟩
  | _ => exact po1.elim
def E.c0 (d : D) : SS → M D := fun _ ms => .ok d ms
theorem je_dnew : JE X W (.Dict [] [] pos) (E.c0 (.dct [] [])) := by
  refine ⟨_, pe_dnewK, fun p B σ ss H F ms Q s hs po => ?_⟩
  intro d hd
  exact Po.new (x := D.dct [] []) po hs hd (.dct (ks := []) (xs := []) (.inl upd_same) rfl .nil)
theorem pe_callLS {CX : CXT} {k i : Nat} {f : Addr} {fd : FuncData} {ps : List Str} {sp : Sp} {E : L2.St → XK} {x : Str} {p0 : Pos} {t : TA} (F : FnOk X.prog X.w X.K X.mg X.base CX k f fd ps sp) (hr : Room k X.A) (hN : X.N[i]? = some x) (hv : Vis X.env.scope x) (hk : PySem.W.keepIn X.K (.ref f) = true) (hb : Binds X.K fd ps []) (hx : ∀ σ, PassesAt CX X σ (E σ)) (ha : PA X (e :: es) t)
    (hdb : (x == ("__debug__" : Str)) = false := by decide) (hcd : (x == ("__classdict__" : Str)) = false := by decide)
    (he : starEach (e :: es) X.env = (false, eval e X.env) :: starEach es X.env := by rfl) (hpl : (backTo pos (starEach es X.env)).any (·.1) = false := by rfl) : PE X (.Call (.Name x p0) (e :: es) [] pos) (fun σ H Q => σ[i]? = some (some (.ref f)) ∧ tCallS sp E t σ H Q) := by
  refine ⟨fun pins s σ H Q I h => ?_⟩
  obtain ⟨hs, ht⟩ := h
  refine wpAny_Call_Name_kw (thn ((pe_var (pos := p0) hN hv hdb hcd).run pins s σ H (fun v H1 => v = .ref f ∧ H1 = H) I ⟨.ref f, hs, rfl, rfl⟩) fun u s1 ⟨v, H1, I1, r1, q1⟩ => ?_)
  obtain ⟨rfl, rfl⟩ := q1
  cases r1
  refine PySem.W.callWith_K (h₀ := X.base) I.ok.mod.kin hk (thn (ha.run pos pins s1 σ _ _ I1 ht) fun us s2 ⟨vs, H2, I2, r, q⟩ => ⟨I2.kIn, ?_⟩) he hpl
  exact run_fnS F hr hb (hx σ) I2 r q
theorem je_callFL {k i : Nat} {x' : Str} {ps : List Str} {mir : List D → M D} {mr : SS → M (List D)} {x : Str} {p0 : Pos} (G : Fn X.prog X.w X.K X.mg X.base x' k ps mir) (f : Addr) (hf : X.mg x' = some (.ref f)) (tk : Takes X W) (hr : Room k X.A)
    (ha : JA X W (e :: es) mr) (hn : Len mr ps.length) (hN : X.N[i]? = some x := by rfl) (hv : Vis X.env.scope x := by first | exact Or.inl rfl | exact Or.inr (Or.inl rfl) | exact Or.inr (Or.inr rfl)) (hdb : (x == ("__debug__" : Str)) = false := by decide) (hcd : (x == ("__classdict__" : Str)) = false := by decide)
    (he : starEach (e :: es) X.env = (false, eval e X.env) :: starEach es X.env := by rfl) (hpl : (backTo pos (starEach es X.env)).any (·.1) = false := by rfl) : JE X W (.Call (.Name x p0) (e :: es) [] pos) (E.callL i f mir mr) := by
  obtain ⟨t, h1, h2⟩ := ha
  obtain ⟨f', fd, g1, g2, g3, g4⟩ := G.ex
  rw [hf] at g2
  cases g2
  refine ⟨_, pe_callLS (i := i) g1 hr hN hv g3 g4 (fun σ => passAt tk σ) h1 hdb hcd he hpl, fun p B σ ss H F ms Q s hs po => ?_⟩
  unfold E.callL at po
  split at po
  next g hg =>
    by_cases q : g = f
    · subst q
      rw [if_pos rfl] at po
      have hi : i < σ.length := by
        rw [s.len]
        exact (List.getElem?_eq_some_iff.mp hg).1
      obtain ⟨u, e1, q⟩ := s.ok i _ _ hg (List.getElem?_eq_getElem hi)
      cases q
      refine ⟨by rw [List.getElem?_eq_getElem hi, e1], ?_⟩
      cases r : mr ss ms with
      | bad => rw [r] at po; exact po.elim
      | ex c ms' => rw [r] at po; exact h2 p B σ ss H F ms _ s hs (by rw [r]; exact po)
      | ok ds ms1 =>
        rw [r] at po
        refine h2 p B σ ss H F ms _ s hs ?_
        rw [r]
        intro vs H1 F1 e1 q1
        have po1 : Po X.mg W p σ H1 F1 (relD X.K p) (mir ds ms1) Q := Po.ext e1 po
        refine ⟨p, F1, ds, ms1, by rw [q1.length]; exact hn _ _ _ _ r, e1.hs, q1, ?_⟩
        cases r2 : mir ds ms1 with
        | ok x ms' => rw [r2] at po1; exact po1
        | ex c ms' => rw [r2] at po1; exact po1
        | bad => rw [r2] at po1; exact po1
    · rw [if_neg q] at po
      exact po.elim
  next => exact po.elim
end

/-! ### a def that hands back a new list -/
def spN (K : PySem.W.Frag) (n : Nat) (mir : List D → M D) : Sp := fun vs H Q E => ∃ (p : Option Addr) (F : Hp) (ds : List D) (ms : MS), vs.length = n ∧ Hs p F H ms ∧ Dts K p F vs ds ∧ ∃ es ms', mir ds ms = .ok (.lst es) ms' ∧
  ∀ a xs H' F', Ext p H F H' F' ms' → H a = none → p ≠ some a → H' a = some (.lst xs) → F' a = none → Dts K p F' xs es → Q (.ref a) H'
structure FnN (P : Program) (w : World) (K : PySem.W.Frag) (mg : Str → Option Value) (base : Heap) (x : Str) (k : Nat) (ps : List Str) (mir : List D → M D) : Prop where
  ex : ∃ f fd, FnOk P w K mg base (L2.CX P w) k f fd ps (spN K ps.length mir) ∧ mg x = some (.ref f) ∧ PySem.W.keepIn K (.ref f) = true ∧ Binds K fd ps []
def PoN (K : PySem.W.Frag) (p : Option Addr) (B F0 : Hp) (o : O) (Q : VK) : Prop := match o with
  | .rt (.lst es) ms' => ∀ a xs H' F', Ext p B F0 H' F' ms' → B a = none → p ≠ some a → H' a = some (.lst xs) → F' a = none → Dts K p F' xs es → Q (.ref a) H'
  | _ => False
def JSN (X : Cx) (W : WX) (sts : List Stmt) (m : SS → MS → O) : Prop := ∃ t, PSs X sts t ∧ ∀ (p : Option Addr) (B F0 : Hp) (σ : L2.St) (ss : SS) (H F : Hp) (ms : MS) (En : Ends),
  Fm X.K p B F0 F H σ ss ms → PoN X.K p B F0 (m ss ms) En.rt → t En σ H
def NoRt (m : SS → MS → O) : Prop := ∀ ss ms d ms', m ss ms ≠ .rt d ms'
theorem nort_nil : NoRt S.nil := fun ss ms d ms' h => by cases h
theorem nort_set {i : Nat} {m : SS → M D} : NoRt (S.set i m) := fun ss ms d ms' h => by
  unfold S.set at h
  cases r : m ss ms with
  | ok x ms1 => rw [r] at h; cases h
  | ex c ms1 => rw [r] at h; cases h
  | bad => rw [r] at h; cases h
theorem nort_ife {t : SS → M Bool} {a b : SS → MS → O} (ha : NoRt a) (hb : NoRt b) : NoRt (S.ife t a b) := fun ss ms d ms' h => by
  unfold S.ife at h
  cases r : t ss ms with
  | ok x ms1 =>
    rw [r, R.o_ok] at h
    cases x with
    | true => rw [if_pos rfl] at h; exact ha _ _ _ _ h
    | false => rw [if_neg Bool.false_ne_true] at h; exact hb _ _ _ _ h
  | ex c ms1 => rw [r] at h; cases h
  | bad => rw [r] at h; cases h
theorem jsn_ret {X : Cx} {W : WX} {e : Expr} {me : SS → M D} {pos : Pos} (h : JN X W e me) : JSN X W [.Return (some e) pos] (S.ret me) := by
  obtain ⟨t, h1, h2⟩ := h
  refine ⟨_, pss_one (ps_ret h1), fun p B F0 σ ss H F ms En fm po => ?_⟩
  unfold S.ret at po
  refine h2 p B σ ss H F ms _ fm.sl fm.ex.hs ?_
  cases r : me ss ms with
  | bad => rw [r] at po; exact po.elim
  | ex c ms1 => rw [r] at po; exact po.elim
  | ok d ms1 =>
    rw [r] at po
    intro v H1 F1 e1 q
    obtain ⟨a, xs, ds, rfl, rfl, ha, n, h', f', q⟩ := q
    exact po a xs H1 F1 (fm.ex.trans e1) (fm.ex.back ha) n h' f' q
theorem jsn_cons {X : Cx} {W : WX} {st : Stmt} {sts : List Stmt} {m1 m2 : SS → MS → O} (h1 : JS X W st m1) (h2 : JSN X W sts m2) (nr : NoRt m1) : JSN X W (st :: sts) (S.seq m1 m2) := by
  obtain ⟨t, h1, h3⟩ := h1
  obtain ⟨u, h2, h4⟩ := h2
  refine ⟨_, pss_cons h1 h2, fun p B F0 σ ss H F ms En fm po => ?_⟩
  refine h3 p B F0 σ ss H F ms _ fm ?_
  unfold S.seq at po
  cases r : m1 ss ms with
  | nx ss1 ms1 => rw [r] at po; exact fun σ1 H1 F1 fm1 => h4 p B F0 σ1 ss1 H1 F1 ms1 En fm1 po
  | rt d ms1 => exact absurd r (nr _ _ _ _)
  | bk ss1 ms1 => rw [r] at po; exact po.elim
  | ct ss1 ms1 => rw [r] at po; exact po.elim
  | ex c ss1 ms1 => rw [r] at po; exact po.elim
  | bad => rw [r] at po; exact po.elim
section
variable {P : Program} {w : World} {K : PySem.W.Frag} {mg : Str → Option Value} {base : Heap}
theorem FnN.of {x : Str} {st : Stmt} {N ps : List Str} {k : Nat} {m : SS → MS → O} (d : Df K mg x st ps) (S : FnScope N ps (defScope st))
    (hbody : ∀ (f : Addr) (cdv : Value) (A : Around) (outer : List Env) (s : Shared) (H : Hp) (E : XK), Room k (A.deeper (envOfC x (defScope st) s.heap.objs.size f cdv)) →
      ∀ (W : WX), Takes (cxOf (L2.CX P w) P w K mg base N x (defScope st) f cdv A outer s H E) W →
        JSN (cxOf (L2.CX P w) P w K mg base N x (defScope st) f cdv A outer s H E) W (defBody st) m) : FnN P w K mg base x (k + 1) ps (mirOf N.length m) := by
  obtain ⟨f, fd, h1, h2, h3⟩ := d.ex
  refine ⟨f, fd, ?_, h2, h1.kp, h3⟩
  refine h1.okX S (fun vs H Q E h => ?_) (fun cdv A outer s H vs Q E hr h => ?_)
  · obtain ⟨p, F, ds, ms, hl, _⟩ := h
    exact hl
  obtain ⟨p, F, ds, ms, hl, hs, q, es, ms', hm, k⟩ := h
  obtain ⟨t, g1, g2⟩ := hbody f cdv A outer s H E hr (fun cls d _ H => E cls d H) (takes_of rfl rfl rfl rfl)
  refine ⟨t, g1, g2 p H F (L2.start N vs) (begin N.length ds) H F ms _ ⟨begin_sl q, Ext.refl hs⟩ ?_⟩
  unfold mirOf at hm
  cases r : m (begin N.length ds) ms with
  | rt d ms1 =>
    rw [r] at hm
    cases hm
    exact k
  | nx ss1 ms1 => rw [r] at hm; cases hm
  | ex c ss1 ms1 => rw [r] at hm; cases hm
  | bk ss1 ms1 => rw [r] at hm; cases hm
  | ct ss1 ms1 => rw [r] at hm; cases hm
  | bad => rw [r] at hm; cases hm
end

/-! ### the pot comes and goes -/
mutual
theorem Dt.up {K : PySem.W.Frag} {F : Hp} (p : Option Addr) : ∀ {v : V} {d : D}, Dt K none F v d → Dt K p F v d
  | _, _, .non => .non
  | _, _, .bl b => .bl b
  | _, _, .int i => .int i
  | _, _, .str x => .str x
  | _, _, .tup h r => .tup h (Dts.up p r)
  | _, _, .lst h r => .lst h (Dts.up p r)
  | _, _, .dct h l r => .dct h l (Dts.up p r)
  | _, _, .pot h => nomatch h
  | _, _, .fn => .fn
  | _, _, .ty => .ty
theorem Dts.up {K : PySem.W.Frag} {F : Hp} (p : Option Addr) : ∀ {vs : List V} {ds : List D}, Dts K none F vs ds → Dts K p F vs ds
  | _, _, .nil => .nil
  | _, _, .cons h r => .cons (Dt.up p h) (Dts.up p r)
end
mutual
def D.noPot : D → Bool
  | .pot => false
  | .tup ds => noPots ds
  | .lst ds => noPots ds
  | .dct _ ds => noPots ds
  | .non => true
  | .bl _ => true
  | .int _ => true
  | .str _ => true
  | .fn _ => true
  | .ty _ => true
def noPots : List D → Bool
  | [] => true
  | d :: ds => d.noPot && noPots ds
end
mutual
theorem Dt.down {K : PySem.W.Frag} {F : Hp} {p : Option Addr} : ∀ {v : V} {d : D}, Dt K p F v d → d.noPot = true → Dt K none F v d
  | _, _, .non, _ => .non
  | _, _, .bl b, _ => .bl b
  | _, _, .int i, _ => .int i
  | _, _, .str x, _ => .str x
  | _, _, .tup h r, e => .tup h (Dts.down r (by rw [D.noPot] at e; exact e))
  | _, _, .lst h r, e => .lst h (Dts.down r (by rw [D.noPot] at e; exact e))
  | _, _, .dct h l r, e => .dct h l (Dts.down r (by rw [D.noPot] at e; exact e))
  | _, _, .pot h, e => by rw [D.noPot] at e; cases e
  | _, _, .fn, _ => .fn
  | _, _, .ty, _ => .ty
theorem Dts.down {K : PySem.W.Frag} {F : Hp} {p : Option Addr} : ∀ {vs : List V} {ds : List D}, Dts K p F vs ds → noPots ds = true → Dts K none F vs ds
  | _, _, .nil, _ => .nil
  | _, _, .cons h r, e => by
    rw [noPots, Bool.and_eq_true] at e
    exact .cons (Dt.down h e.1) (Dts.down r e.2)
end
def keepS (ks : List Nat) (ss : SS) : SS := (List.range ss.length).map fun j => if j ∈ ks then (match ss[j]? with
  | some (some (.dat d)) => if d.noPot = true then some (.dat d) else none
  | _ => none) else none
theorem keepS_get {ks : List Nat} {ss : SS} {j : Nat} {s : Option SV} (h : (keepS ks ss)[j]? = some s) : s = none ∨ ∃ d, ss[j]? = some (some (.dat d)) ∧ d.noPot = true ∧ s = some (.dat d) := by
  unfold keepS at h
  rw [List.getElem?_map] at h
  cases e : (List.range ss.length)[j]? with
  | none => rw [e] at h; cases h
  | some k =>
    obtain ⟨hl, hk⟩ := List.getElem?_eq_some_iff.mp e
    rw [List.getElem_range] at hk
    subst hk
    rw [e] at h
    have h : (if j ∈ ks then (match ss[j]? with
      | some (some (.dat d)) => if d.noPot = true then some (.dat d) else none
      | _ => none) else none) = s := by cases h; rfl
    by_cases hj : j ∈ ks
    · rw [if_pos hj] at h
      split at h
      next d hd =>
        by_cases hn : d.noPot = true
        · rw [if_pos hn] at h
          exact .inr ⟨d, hd, hn, h.symm⟩
        · rw [if_neg hn] at h
          exact .inl h.symm
      next => exact .inl h.symm
    · rw [if_neg hj] at h
      exact .inl h.symm
namespace S
/-- x = pot(..), then the rest with it -/
def withPot (i : Nat) (ks : List Nat) (mir : List D → M D) (mr : SS → M (List D)) (b : SS → MS → O) : SS → MS → O := fun ss ms => match mr ss ms with
  | .ok ds ms1 => (match mir ds ms1 with
    | .ok (.lst [.int x, .int y, .int z]) ms2 => (match b (ss.set i (some (.dat .pot))) ⟨x, y, z⟩ with
      | .nx ss' _ => .nx (keepS ks ss') ms2
      | .ct ss' _ => .ct (keepS ks ss') ms2
      | .rt d _ => if d.noPot = true then .rt d ms2 else .bad
      | _ => .bad)
    | _ => .bad)
  | _ => .bad
end S
/-- a body at a place where no pot is -/
def JS0 (X : Cx) (W : WX) (sts : List Stmt) (m : SS → MS → O) : Prop := ∃ t, PSs X sts t ∧ ∀ (B F0 : Hp) (σ : L2.St) (ss : SS) (H F : Hp) (ms : MS) (En : Ends),
  Fm X.K none B F0 F H σ ss ms → PoS X.K X.mg W none B F0 (m ss ms) En → t En σ H
theorem Sl.up {K : PySem.W.Frag} {B F H : Hp} {σ : L2.St} {ss : SS} {a : Addr} (s : Sl K none B F H σ ss) (h : ∀ (i : Nat) (ds : List D), ss[i]? = some (some (.own ds)) → σ[i]? ≠ some (some (.ref a))) : Sl K (some a) B F H σ ss := by
  refine ⟨s.len, fun i sv v h1 h2 => ?_, s.ap⟩
  have q := s.ok i sv v h1 h2
  match sv, q with
  | none, _ => trivial
  | some (.dat d), ⟨u, e1, q⟩ => exact ⟨u, e1, q.up _⟩
  | some (.own ds), ⟨c, xs, e1, k1, k2, k3, k4, k5⟩ => exact ⟨c, xs, e1, k1, k2, k3, fun z => h i ds h1 (by rw [h2, e1]; cases z; rfl), k5.up _⟩
theorem Sl.keep {K : PySem.W.Frag} {p : Option Addr} {B F H : Hp} {σ : L2.St} {ss : SS} (s : Sl K p B F H σ ss) (ks : List Nat) : Sl K none B F H σ (keepS ks ss) := by
  refine ⟨by unfold keepS; rw [List.length_map, List.length_range]; exact s.len, fun i sv v h1 h2 => ?_, fun i j a ds es h1 h2 h3 h4 => ?_⟩
  · rcases keepS_get h1 with e | ⟨d, hd, hn, e⟩
    · subst e; trivial
    · subst e
      obtain ⟨u, e1, q⟩ := s.ok i _ v hd h2
      exact ⟨u, e1, q.down hn⟩
  · rcases keepS_get h1 with e | ⟨d, hd, hn, e⟩
    · cases e
    · cases e
theorem js_withPot {X : Cx} {W : WX} {i k : Nat} {ks : List Nat} {y x : Str} {ps : List Str} {mir : List D → M D} {mr : SS → M (List D)} {e : Expr} {es : List Expr} {p0 py pos spos : Pos} {sts : List Stmt} {b : SS → MS → O}
    (G : FnN X.prog X.w X.K X.mg X.base x k ps mir) (tk : Takes X W) (hr : Room k X.A) (ha : JA X W (e :: es) mr) (hn : Len mr ps.length) (hb : JSs X W sts b) (hN : X.N.Nodup) (hi : X.N[i]? = some y := by rfl) (hx : Loc X.env.scope y := by first | exact Or.inl rfl | exact Or.inr rfl) (hg : Gl X x := by rfl)
    (hdb : (x == ("__debug__" : Str)) = false := by decide) (he : starEach (e :: es) X.env = (false, eval e X.env) :: starEach es X.env := by rfl) (hpl : (backTo pos (starEach es X.env)).any (·.1) = false := by rfl)
    (hsw : swapsWith (.Call (.Name x p0) (e :: es) [] pos) (some (.Name y py)) spos.line X.env = pure false := by rfl) (hf : X.fn y = true ∨ X.env.scope.names.lookup y = some .local := by first | exact .inl rfl | exact .inr rfl) :
    JS0 X W (.Assign [.Name y py] (.Call (.Name x p0) (e :: es) [] pos) spos :: sts) (S.withPot i ks mir mr b) := by
  obtain ⟨f, fd, g1, g2, g3, g4⟩ := G.ex
  obtain ⟨t, h1, h2⟩ := ha
  obtain ⟨u, h5, h6⟩ := hb
  refine ⟨_, pss_cons (ps_set hN hi hx (pe_callS g1 hr hg g2 g3 g4 (fun σ => passAt tk σ) h1 hdb he hpl) hsw hf) h5, fun B F0 σ ss H F ms En fm po => ?_⟩
  unfold S.withPot at po
  refine h2 none B σ ss H F ms _ fm.sl fm.ex.hs ?_
  cases r : mr ss ms with
  | bad => rw [r] at po; exact po.elim
  | ex c ms1 => rw [r] at po; exact po.elim
  | ok ds ms1 =>
    rw [r] at po
    intro vs H1 F1 e1 q1
    have fm1 : Fm X.K none B F0 F1 H1 σ ss ms1 := ⟨fm.sl.ext e1, fm.ex.trans e1⟩
    cases r2 : mir ds ms1 with
    | bad => simp only [r2] at po; exact po.elim
    | ex c ms2 => simp only [r2] at po; exact po.elim
    | ok d ms2 =>
      simp only [r2] at po
      split at po
      next _ x y z _ hd =>
        cases hd
        refine ⟨none, F1, ds, ms1, by rw [q1.length]; exact hn _ _ _ _ r, e1.hs, q1, _, _, r2, fun a xs H2 F2 e2 na _ h2 f2 qx => ?_⟩
        have fm2 : Fm X.K none B F0 F2 H2 σ ss ms2 := ⟨fm1.sl.ext e2, fm1.ex.trans e2⟩
        have ba : B a = none := fm1.ex.back na
        have hx3 : xs = [.int x, .int y, .int z] := by
          cases qx with
          | cons q1 r => cases r with
            | cons q2 r => cases r with
              | cons q3 r => cases r; cases q1; cases q2; cases q3; rfl
        subst hx3
        have ex3 : Ext (some a) B F0 H2 F2 ⟨x, y, z⟩ := ⟨fm2.ex.ff, fm2.ex.nf, fun b o h _ => fm2.ex.kp b o h (fun z => nomatch z), ⟨fm2.ex.hs.fh, fun b hb => by cases hb; exact h2, fun b hb => by cases hb; exact f2⟩⟩
        have sl3 : Sl X.K (some a) B F2 H2 σ ss := fm2.sl.up fun j es h3 h4 => by
          obtain ⟨c, ys, e5, k1, _⟩ := fm1.sl.ok j _ _ h3 h4
          cases e5
          rw [na] at k1
          cases k1
        refine h6 (some a) B F0 (σ.set i (some (.ref a))) (ss.set i (some (.dat .pot))) H2 F2 ⟨x, y, z⟩ En ⟨sl3.set (.pot rfl), ex3⟩ ?_
        have back : ∀ {H' F' : Hp} {ms' : MS}, Ext (some a) B F0 H' F' ms' → Ext none B F0 H' F' ms2 := fun e => ⟨e.ff, e.nf, fun b o h _ => e.kp b o h (fun z => by cases z; rw [ba] at h; cases h), ⟨e.hs.fh, fun _ z => (nomatch z), fun _ z => (nomatch z)⟩⟩
        cases r3 : b (ss.set i (some (.dat .pot))) ⟨x, y, z⟩ with
        | nx ss' ms' => rw [r3] at po; exact fun σ' H' F' f' => po σ' H' F' ⟨f'.sl.keep ks, back f'.ex⟩
        | ct ss' ms' => rw [r3] at po; exact fun σ' H' F' f' => po σ' H' F' ⟨f'.sl.keep ks, back f'.ex⟩
        | rt d' ms' =>
          rw [r3] at po
          intro v H' F' e' q'
          by_cases hn' : d'.noPot = true
          · simp only [hn', if_true] at po
            exact po v H' F' (back e') (q'.down hn')
          · simp only [hn'] at po
            exact po.elim
        | bk ss' ms' => rw [r3] at po; exact po.elim
        | ex c ss' ms' => rw [r3] at po; exact po.elim
        | bad => rw [r3] at po; exact po.elim
      next => exact po.elim
/-! ### x, y = a, b -/
def S.par (i j : Nat) (m : SS → M (List D)) : SS → MS → O := fun ss ms => (m ss ms).o ss fun ds ms1 => match ds with
  | [a, b] => .nx ((ss.set i (some (.dat a))).set j (some (.dat b))) ms1
  | _ => .bad
theorem js_par {X : Cx} {W : WX} {i j : Nat} {x y : Str} {a b : Expr} {mr : SS → M (List D)} {px py pt pt2 pos : Pos} {kt k2 : Nat} (ha : JA X W [a, b] mr) (hN : X.N.Nodup) (hij : i ≠ j) (hc : X.calm = true := by rfl) (hi : X.N[i]? = some x := by rfl) (hj : X.N[j]? = some y := by rfl)
    (hx : X.env.scope.names.lookup x = some .local := by rfl) (hy : X.env.scope.names.lookup y = some .local := by rfl)
    (hw : swappedStores [.Tuple [.Name x px, .Name y py] kt pt] (.Tuple [a, b] k2 pt2) X.env = pure (some [x, y]) := by rfl) (hs : swapsWithSole [.Tuple [.Name x px, .Name y py] kt pt] (.Tuple [a, b] k2 pt2) pos.line X.env = pure false := by rfl) :
    JS X W (.Assign [.Tuple [.Name x px, .Name y py] kt pt] (.Tuple [a, b] k2 pt2) pos) (S.par i j mr) := by
  obtain ⟨t, h1, h2⟩ := ha
  refine ⟨_, ps_par hc hN hi hj hij hx hy h1 hw hs, fun p B F0 σ ss H F ms En fm po => ?_⟩
  refine h2 p B σ ss H F ms _ fm.sl fm.ex.hs (fm.po po fun ds ms1 vs H1 F1 fm1 _ q po1 => ?_)
  match ds, q, po1 with
  | [d, c], .cons q1 (.cons q2 .nil), po1 => exact ⟨_, _, rfl, po1 _ H1 F1 ⟨(fm1.sl.set q1).set q2, fm1.ex⟩⟩
end Q

set_option Elab.async false
set_option linter.all false
set_option maxRecDepth 100000
set_option maxHeartbeats 4000000
/-! Qj: the law's own def: a loop whose turns have a pot each; the law's end. -/
namespace Q
open PySem L2 PyProof.Rows
def JS01 (X : Cx) (W : WX) (st : Stmt) (m : SS → MS → O) : Prop := ∃ t, PS X st t ∧ ∀ (B F0 : Hp) (σ : L2.St) (ss : SS) (H F : Hp) (ms : MS) (En : Ends),
  Fm X.K none B F0 F H σ ss ms → PoS X.K X.mg W none B F0 (m ss ms) En → t En σ H
section
variable {X : Cx} {W : WX} {tg e iter : Expr} {is : List Nat} {g : G} {ma : SS → M D} {pos : Pos} {body : List Stmt} {mb m1 m2 : SS → MS → O} {st : Stmt} {sts : List Stmt}
theorem JS.z (h : JS X W st m1) : JS01 X W st m1 := by
  obtain ⟨t, h1, h2⟩ := h
  exact ⟨t, h1, fun B F0 σ ss H F ms En fm po => h2 none B F0 σ ss H F ms En fm po⟩
theorem JSs.z (h : JSs X W sts m1) : JS0 X W sts m1 := by
  obtain ⟨t, h1, h2⟩ := h
  exact ⟨t, h1, fun B F0 σ ss H F ms En fm po => h2 none B F0 σ ss H F ms En fm po⟩
theorem js0_cons (h1 : JS01 X W st m1) (h2 : JS0 X W sts m2) : JS0 X W (st :: sts) (S.seq m1 m2) := by
  obtain ⟨t, h1, h3⟩ := h1
  obtain ⟨u, h2, h4⟩ := h2
  refine ⟨_, pss_cons h1 h2, fun B F0 σ ss H F ms En fm po => ?_⟩
  exact h3 B F0 σ ss H F ms _ fm (po.seq fun ss1 ms1 σ1 H1 F1 fm1 po1 => h4 B F0 σ1 ss1 H1 F1 ms1 En fm1 po1)
theorem js0_one (h1 : JS01 X W st m1) : JS0 X W [st] m1 := by
  obtain ⟨t, h1, h3⟩ := h1
  exact ⟨_, pss_one h1, h3⟩
theorem js0_for {mi : SS → M (List D)} (hp : PassesOwn (model X.prog X.w) X.A X.env X.xe) (hi : JI X W tg iter mi) (hg : JG X tg is g) (hb : JS0 X W body mb) (hc : X.calm = true := by rfl) (hs : ∀ x, foldedSetIterable iter X.env x = pure x := by intro _; rfl) :
    JS01 X W (.For tg iter body [] pos) (S.for_ mi g mb) := by
  obtain ⟨wi, h1, h2⟩ := hi
  obtain ⟨gt, h3, h4⟩ := hg
  obtain ⟨t, h5, h6⟩ := hb
  refine ⟨_, ps_for hp hc h1 h3 h5 hs, fun B F0 σ ss H F ms En fm po => ?_⟩
  refine h2 none B σ ss H F ms _ fm.sl fm.ex.hs (fm.po po fun ds ms1 J H1 F1 fm1 _ q po1 => ?_)
  refine ⟨fun i m σ H => m = ds.length - i ∧ i ≤ ds.length ∧ ∃ F ss ms, Fm X.K none B F0 F H σ ss ms ∧ Same F1 F ∧ PoS X.K X.mg W none B F0 (S.forL g mb (ds.drop i) ss ms) En, ⟨ds.length, by simp, Nat.zero_le _, F1, ss, ms1, fm1, Same.refl _, po1⟩, ?_⟩
  rintro i m σ H ⟨rfl, hi, F, ss, ms, fm, sf, po⟩
  obtain ⟨sg, st⟩ := q H F ms sf fm.ex.hs i
  by_cases hlt : i < ds.length
  · right
    have hd : ds[i]? = some ds[i] := List.getElem?_eq_getElem hlt
    rw [List.drop_eq_getElem_cons hlt] at po
    obtain ⟨go, yl⟩ := sg _ hd
    refine ⟨go, fun σ' H' => i + 1 ≤ ds.length ∧ ∃ F ss ms, Fm X.K none B F0 F H' σ' ss ms ∧ Same F1 F ∧ PoS X.K X.mg W none B F0 (S.forL g mb (ds.drop (i + 1)) ss ms) En, fun σ' H' h => ⟨_, by omega, rfl, h⟩, fun x H' hy => ?_⟩
    obtain ⟨F2, e2, q2⟩ := yl x H' hy
    unfold S.forL at po
    cases eg : g ds[i] ss with
    | none => rw [eg] at po; exact po.elim
    | some ss1 =>
      rw [eg] at po
      refine h4 none B F2 H' σ ss ss1 x _ ms _ (fm.sl.ext e2) e2.hs q2 eg fun σ' s' _ => ?_
      have ex2 := fm.ex.trans e2
      refine h6 B F2 σ' ss1 H' F2 ms _ ⟨s', ex2.re⟩ ?_
      have sf2 : Same F1 F2 := sf.trans e2.ff
      have po' : PoS X.K X.mg W none B F0 (match mb ss1 ms with
        | .nx ss2 ms2 => S.forL g mb (ds.drop (i + 1)) ss2 ms2
        | .ct ss2 ms2 => S.forL g mb (ds.drop (i + 1)) ss2 ms2
        | .bk ss2 ms2 => .nx ss2 ms2
        | .rt d ms2 => .rt d ms2
        | .ex c ss2 ms2 => .ex c ss2 ms2
        | .bad => .bad) En := po
      cases r : mb ss1 ms with
      | nx ss2 ms2 => rw [r] at po'; exact fun σ3 H3 F3 f3 => ⟨hlt, F3, ss2, ms2, f3.co ex2, sf2.trans f3.ex.ff, po'⟩
      | ct ss2 ms2 => rw [r] at po'; exact fun σ3 H3 F3 f3 => ⟨hlt, F3, ss2, ms2, f3.co ex2, sf2.trans f3.ex.ff, po'⟩
      | bk ss2 ms2 => rw [r] at po'; exact fun σ3 H3 F3 f3 => po' σ3 H3 F3 (f3.co ex2)
      | rt d ms2 => rw [r] at po'; exact fun v H3 F3 e3 q3 => po' v H3 F3 (ex2.co e3) q3
      | ex c ss2 ms2 => rw [r] at po'; exact fun u hu σ3 H3 F3 f3 => po' u hu σ3 H3 F3 (f3.co ex2)
      | bad => rw [r] at po'; exact po'.elim
  · left
    have hl : ds.length ≤ i := by omega
    refine ⟨st hl, ?_⟩
    rw [List.drop_eq_nil_of_le hl] at po
    exact po σ H F fm
end
/-- a law's promise: over a list of ints the mirror's answer is True -/
def spL (K : PySem.W.Frag) (n : Nat) (mir : List D → M D) : Sp := fun vs H Q _ => ∃ (F : Hp) (ds : List D) (ms : MS), vs.length = n ∧ Hs none F H ms ∧ Dts K none F vs ds ∧ ∃ d ms', mir ds ms = .ok d ms' ∧
  ∀ v H' F', Ext none H F H' F' ms' → Dt K none F' v d → Q v H'
section
variable {P : Program} {w : World} {K : PySem.W.Frag} {mg : Str → Option Value} {base : Heap}
theorem law_of {x : Str} {st : Stmt} {f : Addr} {fd : FuncData} {N ps : List Str} {k : Nat} {m : SS → MS → O} (F : Fun K x x st f fd) (S : FnScope N ps (defScope st))
    (hbody : ∀ (f : Addr) (cdv : Value) (A : Around) (outer : List Env) (s : Shared) (H : Hp) (E : XK), Room k (A.deeper (envOfC x (defScope st) s.heap.objs.size f cdv)) →
      ∀ (W : WX), Takes (cxOf (L2.CX P w) P w K mg base N x (defScope st) f cdv A outer s H E) W →
        JS0 (cxOf (L2.CX P w) P w K mg base N x (defScope st) f cdv A outer s H E) W (defBody st) m) : FnOk P w K mg base (L2.CX P w) (k + 1) f fd ps (spL K ps.length (mirOf N.length m)) := by
  refine F.okX S (fun vs H Q E h => ?_) (fun cdv A outer s H vs Q E hr h => ?_)
  · obtain ⟨F, ds, ms, hl, _⟩ := h
    exact hl
  obtain ⟨F, ds, ms, hl, hs, q, d, ms', hm, po⟩ := h
  obtain ⟨t, h1, h2⟩ := hbody f cdv A outer s H E hr (fun cls d _ H => E cls d H) (takes_of rfl rfl rfl rfl)
  refine ⟨t, h1, h2 H F (L2.start N vs) (begin N.length ds) H F ms _ ⟨begin_sl q, Ext.refl hs⟩ ?_⟩
  unfold mirOf at hm
  cases r : m (begin N.length ds) ms with
  | nx ss1 ms1 => rw [r] at hm; cases hm; exact fun σ' H' F' fm => po .non H' F' fm.ex .non
  | rt d ms1 => rw [r] at hm; cases hm; exact fun v H' F' e q => po v H' F' e q
  | ex c ss1 ms1 => rw [r] at hm; cases hm
  | bk ss1 ms1 => rw [r] at hm; cases hm
  | ct ss1 ms1 => rw [r] at hm; cases hm
  | bad => rw [r] at hm; cases hm
theorem dts_ints {K : PySem.W.Frag} {p : Option Addr} {F : Hp} : ∀ ns : List Int, Dts K p F (ns.map V.int) (ns.map D.int)
  | [] => .nil
  | n :: ns => .cons (.int n) (dts_ints ns)
/-- the law's promise at the script -/
theorem spL_script {mir : List D → M D} {H : Hp} {a : Addr} {ns : List Int} (hS : SqL K H a (ns.map V.int)) (h : ∀ ms, ∃ ms', mir [.lst (ns.map D.int)] ms = .ok (.bl true) ms') : spL K 1 mir [.ref a] H (fun v _ => v = .bl true) fun _ _ _ => False := by
  obtain ⟨ms', e⟩ := h ⟨0, 0, 0⟩
  refine ⟨H, [.lst (ns.map D.int)], ⟨0, 0, 0⟩, rfl, ⟨Same.refl H, fun _ z => (nomatch z), fun _ z => (nomatch z)⟩, .cons (.lst hS (dts_ints ns)) .nil, _, _, e, fun v H' F' _ q => ?_⟩
  cases q
  rfl
end
end Q

set_option Elab.async false
set_option linter.all false
set_option maxRecDepth 100000
set_option maxHeartbeats 4000000
/-! Qk: what a mirror answers, word by word (no heap, no program in sight). -/
namespace Q
open PySem L2 PyProof.Rows

def Wp {α : Type} (r : R α) (Q : α → MS → Prop) : Prop := match r with
  | .ok x ms => Q x ms
  | _ => False
structure Ks where
  nx : SS → MS → Prop
  rt : D → MS → Prop
  bk : SS → MS → Prop := fun _ _ => False
  ct : SS → MS → Prop := fun _ _ => False
def Ws (o : O) (k : Ks) : Prop := match o with
  | .nx ss ms => k.nx ss ms
  | .rt d ms => k.rt d ms
  | .bk ss ms => k.bk ss ms
  | .ct ss ms => k.ct ss ms
  | _ => False
section
variable {α β : Type} {ss ss' : SS} {ms ms1 : MS} {Q : D → MS → Prop} {Qa : List D → MS → Prop} {Qb : Bool → MS → Prop} {a b c : SS → M D} {d x y : D} {t u : SS → M Bool} {r : SS → M (List D)} {i j : Nat}
theorem Wp.bind {r : R α} {f : α → M β} {Q : β → MS → Prop} (h : Wp r fun x ms1 => Wp (f x ms1) Q) : Wp (r.bind f) Q := by
  cases r with
  | ok x ms => exact h
  | ex c ms => exact h.elim
  | bad => exact h.elim
theorem Wp.mono {r : R α} {Q Q' : α → MS → Prop} (h : Wp r Q) (k : ∀ x ms, Q x ms → Q' x ms) : Wp r Q' := by
  cases r with
  | ok x ms => exact k _ _ h
  | ex c ms => exact h.elim
  | bad => exact h.elim
theorem wp_eq {r : R α} {x : α} {Q : α → MS → Prop} (e : r = .ok x ms) (q : Q x ms) : Wp r Q := by rw [e]; exact q
theorem Wp.ex {r : R α} {Q : α → MS → Prop} (h : Wp r Q) : ∃ x ms, r = .ok x ms ∧ Q x ms := by
  cases r with
  | ok x ms => exact ⟨x, ms, rfl, h⟩
  | ex c ms => exact h.elim
  | bad => exact h.elim
theorem wp_var (h : ss[i]? = some (some (.dat d))) (q : Q d ms) : Wp (E.var i ss ms) Q := by unfold E.var; rw [h]; exact q
theorem wp_bor (h : ss[i]? = some (some (.dat d))) (q : Q d ms) : Wp (E.bor i ss ms) Q := by unfold E.bor; rw [h]; exact q
theorem wp_borO {ds : List D} (h : ss[i]? = some (some (.own ds))) (q : Q (.lst ds) ms) : Wp (E.bor i ss ms) Q := by unfold E.bor; rw [h]; exact q
theorem wp_c (q : Q d ms) : Wp (E.c d ss ms) Q := q
theorem wp_c0 (q : Q d ms) : Wp (E.c0 d ss ms) Q := q
theorem wp_op2 {g : D → D → M D} (h : Wp (a ss ms) fun x ms1 => Wp (b ss ms1) fun y ms2 => Wp (g x y ms2) Q) : Wp (E.op2 g a b ss ms) Q := Wp.bind (h.mono fun _ _ h => Wp.bind h)
theorem wp_op1 {g : D → M D} (h : Wp (a ss ms) fun x ms1 => Wp (g x ms1) Q) : Wp (E.op1 g a ss ms) Q := Wp.bind h
theorem wp_nil (q : Qa [] ms) : Wp (E.nil ss ms) Qa := q
theorem wp_cons (h : Wp (a ss ms) fun x ms1 => Wp (r ss ms1) fun xs ms2 => Qa (x :: xs) ms2) : Wp (E.cons a r ss ms) Qa := Wp.bind (h.mono fun _ _ h => Wp.bind (h.mono fun _ _ q => q))
theorem wp_fnA {f : List D → M D} (h : Wp (r ss ms) fun xs ms1 => Wp (f xs ms1) Q) : Wp (E.fnA f r ss ms) Q := Wp.bind h
theorem wp_test (h : Wp (a ss ms) fun x ms1 => ∃ b, x = .bl b ∧ Qb b ms1) : Wp (E.test a ss ms) Qb := Wp.bind (h.mono fun _ _ ⟨_, e, q⟩ => by subst e; exact q)
theorem wp_tru (h : Wp (a ss ms) fun x ms1 => Wp (E.truD x ms1) Qb) : Wp (E.tru a ss ms) Qb := Wp.bind h
theorem wp_tand (h : Wp (t ss ms) fun c ms1 => if c = true then Wp (u ss ms1) Qb else Qb false ms1) : Wp (E.tand t u ss ms) Qb := Wp.bind (h.mono fun c _ h => by
  cases c with
  | true => rw [if_pos rfl] at h ⊢; exact h
  | false => rw [if_neg Bool.false_ne_true] at h ⊢; exact h)
theorem wp_tor (h : Wp (t ss ms) fun c ms1 => if c = true then Qb true ms1 else Wp (u ss ms1) Qb) : Wp (E.tor t u ss ms) Qb := Wp.bind (h.mono fun c _ h => by
  cases c with
  | true => rw [if_pos rfl] at h ⊢; exact h
  | false => rw [if_neg Bool.false_ne_true] at h ⊢; exact h)
theorem wp_tnot (h : Wp (t ss ms) fun c ms1 => Qb (!c) ms1) : Wp (E.tnot t ss ms) Qb := Wp.bind (h.mono fun _ _ h => h)
theorem wp_vand (h : Wp (a ss ms) fun x ms1 => ∃ c, x = .bl c ∧ if c = true then Wp (b ss ms1) Q else Q (.bl false) ms1) : Wp (E.vand a b ss ms) Q := Wp.bind (h.mono fun _ _ ⟨c, e, h⟩ => by
  subst e
  cases c with
  | true => rw [if_pos rfl] at h; exact h
  | false => rw [if_neg Bool.false_ne_true] at h; exact h)
theorem wp_vor (h : Wp (a ss ms) fun x ms1 => ∃ c, x = .bl c ∧ if c = true then Q (.bl true) ms1 else Wp (b ss ms1) Q) : Wp (E.vor a b ss ms) Q := Wp.bind (h.mono fun _ _ ⟨c, e, h⟩ => by
  subst e
  cases c with
  | true => rw [if_pos rfl] at h; exact h
  | false => rw [if_neg Bool.false_ne_true] at h; exact h)
theorem wp_vnot (h : Wp (a ss ms) fun x ms1 => ∃ c, x = .bl c ∧ Q (.bl (!c)) ms1) : Wp (E.vnot a ss ms) Q := Wp.bind (h.mono fun _ _ ⟨c, e, h⟩ => by
  subst e
  exact h)
theorem wp_ife (h : Wp (t ss ms) fun c ms1 => if c = true then Wp (a ss ms1) Q else Wp (b ss ms1) Q) : Wp (E.ife t a b ss ms) Q := Wp.bind (h.mono fun c _ h => by
  cases c with
  | true => rw [if_pos rfl] at h ⊢; exact h
  | false => rw [if_neg Bool.false_ne_true] at h ⊢; exact h)
theorem wp_chain {g g' : D → D → M D} (h : Wp (a ss ms) fun x ms1 => Wp (b ss ms1) fun y ms2 => Wp (g x y ms2) fun z ms3 => ∃ k, z = .bl k ∧ if k = true then Wp (c ss ms3) fun w ms5 => Wp (g' y w ms5) Q else Q (.bl false) ms3) : Wp (E.chain g g' a b c ss ms) Q :=
  Wp.bind (h.mono fun _ _ h => Wp.bind (h.mono fun _ _ h => Wp.bind (h.mono fun z _ ⟨k, e, h⟩ => by
    subst e
    cases k with
    | true => rw [if_pos rfl] at h; exact show Wp ((c ss _).bind fun w ms5 => g' _ w ms5) Q from Wp.bind h
    | false => rw [if_neg Bool.false_ne_true] at h; exact h)))
theorem wp_tup (h : Wp (r ss ms) fun xs ms1 => xs.length ≤ 100000 ∧ Q (.tup xs) ms1) : Wp (E.tup r ss ms) Q := Wp.bind (h.mono fun _ _ ⟨e, h⟩ => by rw [if_pos e]; exact h)
theorem wp_lst (h : Wp (r ss ms) fun xs ms1 => xs.length ≤ 100000 ∧ Q (.lst xs) ms1) : Wp (E.lst r ss ms) Q := Wp.bind (h.mono fun _ _ ⟨e, h⟩ => by rw [if_pos e]; exact h)
theorem wp_noPart {Q : Option Int → MS → Prop} (q : Q none ms) : Wp (E.noPart ss ms) Q := q
theorem wp_part {Q : Option Int → MS → Prop} (h : Wp (a ss ms) fun x ms1 => ∃ k, x = .int k ∧ Q (some k) ms1) : Wp (E.part a ss ms) Q := Wp.bind (h.mono fun _ _ ⟨k, e, h⟩ => by subst e; exact h)
theorem wp_sl {l h : SS → M (Option Int)} (q : Wp (a ss ms) fun x ms1 => Wp (l ss ms1) fun lo ms2 => Wp (h ss ms2) fun hi ms3 => Wp (gSl x lo hi ms3) Q) : Wp (E.sl a l h ss ms) Q := Wp.bind (q.mono fun _ _ q => Wp.bind (q.mono fun _ _ q => Wp.bind q))
theorem wp_its (h : Wp (a ss ms) fun x ms1 => Wp (itemsD x ms1) Qa) : Wp (E.its a ss ms) Qa := Wp.bind h
theorem wp_itsA {f : List D → M (List D)} (h : Wp (r ss ms) fun x ms1 => Wp (f x ms1) Qa) : Wp (E.itsA f r ss ms) Qa := Wp.bind h
theorem wp_callL {f : Addr} {mir : List D → M D} (h0 : ss[i]? = some (some (.dat (.fn f)))) (h : Wp (r ss ms) fun xs ms1 => Wp (mir xs ms1) Q) : Wp (E.callL i f mir r ss ms) Q := by
  unfold E.callL
  rw [h0]
  show Wp (if f = f then (r ss ms).bind mir else .bad) Q
  rw [if_pos rfl]
  exact Wp.bind h
theorem wp_inK {ks : List Str} (h : Wp (a ss ms) fun x ms1 => ∃ z, x = .str z ∧ Q (.bl (decide (z ∈ ks))) ms1) : Wp (E.inK ks a ss ms) Q := Wp.bind (h.mono fun _ _ ⟨z, e, h⟩ => by subst e; exact h)
/-- a comprehension's run, by an invariant over what is left and what is gathered -/
theorem wp_lcRun {g : G} {me : SS → M D} (Inv : List D → List D → MS → Prop) (step : ∀ d rest acc ms, Inv (d :: rest) acc ms → ∃ ss1, g d ss = some ss1 ∧ Wp (t ss1 ms) fun b ms1 => if b = true then Wp (me ss1 ms1) fun y ms2 => acc.length < 100000 ∧ Inv rest (acc ++ [y]) ms2 else Inv rest acc ms1) :
    ∀ (ds acc : List D) (ms : MS), Inv ds acc ms → Wp (E.lcRun g t me ss ds acc ms) fun ys ms' => Inv [] ys ms'
  | [], acc, ms, h => h
  | d :: rest, acc, ms, h => by
    obtain ⟨ss1, e1, h1⟩ := step d rest acc ms h
    unfold E.lcRun
    rw [e1]
    cases r1 : t ss1 ms with
    | bad => rw [r1] at h1; exact h1.elim
    | ex c ms1 => rw [r1] at h1; exact h1.elim
    | ok b ms1 =>
      rw [r1] at h1
      have h1 : if b = true then Wp (me ss1 ms1) fun y ms2 => acc.length < 100000 ∧ Inv rest (acc ++ [y]) ms2 else Inv rest acc ms1 := h1
      cases b with
      | false =>
        rw [if_neg Bool.false_ne_true] at h1
        simp only [r1]
        exact wp_lcRun Inv step rest acc ms1 h1
      | true =>
        rw [if_pos rfl] at h1
        cases r2 : me ss1 ms1 with
        | bad => rw [r2] at h1; exact h1.elim
        | ex c ms2 => rw [r2] at h1; exact h1.elim
        | ok y ms2 =>
          rw [r2] at h1
          obtain ⟨hl, h1⟩ := h1
          simp only [r1, r2]
          rw [if_pos hl]
          exact wp_lcRun Inv step rest (acc ++ [y]) ms2 h1
theorem wp_lc {vs : List Nat} {mi : SS → M (List D)} {g : G} {me : SS → M D} (h : Wp (mi ss ms) fun ds ms1 => Wp (E.lcRun g t me (wipeS ss vs) ds [] ms1) fun ys ms2 => Q (.lst ys) ms2) : Wp (E.lc vs mi g t me ss ms) Q := Wp.bind (h.mono fun _ _ h => Wp.bind (h.mono fun _ _ q => q))
theorem wp_yes {Qb : Bool → MS → Prop} (q : Qb true ms) : Wp (E.yes ss ms) Qb := q

/-! statements -/
variable {k : Ks} {m m1 m2 : SS → MS → O}
theorem Ws.mono {o : O} {k k' : Ks} (h : Ws o k) (h1 : ∀ s m, k.nx s m → k'.nx s m) (h2 : ∀ s m, k.rt s m → k'.rt s m) (h3 : ∀ s m, k.bk s m → k'.bk s m) (h4 : ∀ s m, k.ct s m → k'.ct s m) : Ws o k' := by
  cases o with
  | nx s m => exact h1 _ _ h
  | rt s m => exact h2 _ _ h
  | bk s m => exact h3 _ _ h
  | ct s m => exact h4 _ _ h
  | ex c s m => exact h.elim
  | bad => exact h.elim
theorem ws_nil (q : k.nx ss ms) : Ws (S.nil ss ms) k := q
theorem ws_brk (q : k.bk ss ms) : Ws (S.brk ss ms) k := q
theorem ws_cont (q : k.ct ss ms) : Ws (S.cont ss ms) k := q
theorem ws_seq (h : Ws (m1 ss ms) { k with nx := fun ss1 ms1 => Ws (m2 ss1 ms1) k }) : Ws (S.seq m1 m2 ss ms) k := by
  unfold S.seq
  cases r : m1 ss ms with
  | nx s m => rw [r] at h; exact h
  | rt s m => rw [r] at h; exact h
  | bk s m => rw [r] at h; exact h
  | ct s m => rw [r] at h; exact h
  | ex c s m => rw [r] at h; exact h.elim
  | bad => rw [r] at h; exact h.elim
theorem ws_o {r : R α} {f : α → MS → O} (h : Wp r fun x ms1 => Ws (f x ms1) k) : Ws (r.o ss f) k := by
  cases r with
  | ok x ms => exact h
  | ex c ms => exact h.elim
  | bad => exact h.elim
theorem ws_set (h : Wp (a ss ms) fun d ms1 => k.nx (ss.set i (some (.dat d))) ms1) : Ws (S.set i a ss ms) k := ws_o h
theorem ws_own (h : Wp (a ss ms) fun d ms1 => ∃ ds, d = .lst ds ∧ k.nx (ss.set i (some (.own ds))) ms1) : Ws (S.own i a ss ms) k := ws_o (h.mono fun _ _ ⟨ds, e, h⟩ => by subst e; exact h)
theorem ws_expr (h : Wp (a ss ms) fun d ms1 => k.nx ss ms1) : Ws (S.expr a ss ms) k := ws_o h
theorem ws_ret (h : Wp (a ss ms) fun d ms1 => k.rt d ms1) : Ws (S.ret a ss ms) k := ws_o h
theorem ws_retN (q : k.rt .non ms) : Ws (S.retN ss ms) k := q
theorem ws_retO {ds : List D} (h : ss[i]? = some (some (.own ds))) (q : k.rt (.lst ds) ms) : Ws (S.retO i ss ms) k := by unfold S.retO; rw [h]; exact q
theorem ws_ife (h : Wp (t ss ms) fun c ms1 => if c = true then Ws (m1 ss ms1) k else Ws (m2 ss ms1) k) : Ws (S.ife t m1 m2 ss ms) k := ws_o (h.mono fun c _ h => by
  cases c with
  | true => rw [if_pos rfl] at h ⊢; exact h
  | false => rw [if_neg Bool.false_ne_true] at h ⊢; exact h)
theorem ws_asg {g : G} (h : Wp (a ss ms) fun d ms1 => ∃ ss1, g d ss = some ss1 ∧ k.nx ss1 ms1) : Ws (S.asg g a ss ms) k := ws_o (h.mono fun d _ ⟨ss1, e, h⟩ => by rw [e]; exact h)
theorem ws_par (h : Wp (r ss ms) fun ds ms1 => ∃ x y, ds = [x, y] ∧ k.nx ((ss.set i (some (.dat x))).set j (some (.dat y))) ms1) : Ws (S.par i j r ss ms) k := ws_o (h.mono fun d _ ⟨x, y, e, h⟩ => by subst e; exact h)
theorem ws_append {ds : List D} (h0 : ss[i]? = some (some (.own ds))) (h : Wp (a ss ms) fun d ms1 => ds.length < 100000 ∧ k.nx (ss.set i (some (.own (ds ++ [d])))) ms1) : Ws (S.append i a ss ms) k := by
  unfold S.append
  rw [h0]
  exact ws_o (h.mono fun d _ ⟨e, h⟩ => by rw [if_pos e]; exact h)
theorem ws_setPot (h0 : ss[i]? = some (some (.dat .pot))) (h : Wp (a ss ms) fun d ms1 => Wp (b ss ms1) fun n ms2 => ∃ z n' j, d = .int z ∧ n = .int n' ∧ ixN 3 n' = some j ∧ k.nx ss (S.putMS ms2 j z)) : Ws (S.setIx i b a ss ms) k := by
  unfold S.setIx
  rw [h0]
  refine ws_o (h.mono fun d _ h => ws_o (h.mono fun n _ ⟨z, n', j, e1, e2, e3, hk⟩ => ?_))
  subst e1 e2
  show Ws (match ixN 3 n' with
    | some j => O.nx ss (S.putMS _ j z)
    | none => O.bad) k
  rw [e3]
  exact hk
theorem ws_setOwn {ds : List D} (h0 : ss[i]? = some (some (.own ds))) (h : Wp (a ss ms) fun d ms1 => Wp (b ss ms1) fun n ms2 => ∃ n' j, n = .int n' ∧ ixN ds.length n' = some j ∧ k.nx (ss.set i (some (.own (ds.set j d)))) ms2) : Ws (S.setIx i b a ss ms) k := by
  unfold S.setIx
  rw [h0]
  refine ws_o (h.mono fun d _ h => ws_o (h.mono fun n _ ⟨n', j, e2, e3, h⟩ => ?_))
  subst e2
  show Ws (match ixN ds.length n' with
    | some j => O.nx (ss.set i (some (.own (ds.set j d)))) _
    | none => O.bad) k
  rw [e3]
  exact h
/-- a loop by an invariant over what is left -/
theorem ws_forL {g : G} (Inv : List D → SS → MS → Prop) (step : ∀ d rest ss ms, Inv (d :: rest) ss ms → ∃ ss1, g d ss = some ss1 ∧ Ws (m ss1 ms) { nx := Inv rest, rt := k.rt, bk := k.nx, ct := Inv rest }) (fin : ∀ ss ms, Inv [] ss ms → k.nx ss ms) :
    ∀ (ds : List D) (ss : SS) (ms : MS), Inv ds ss ms → Ws (S.forL g m ds ss ms) k
  | [], ss, ms, h => fin ss ms h
  | d :: rest, ss, ms, h => by
    obtain ⟨ss1, e1, h1⟩ := step d rest ss ms h
    unfold S.forL
    rw [e1]
    cases r : m ss1 ms with
    | nx s m' => rw [r] at h1; simp only [r]; exact ws_forL Inv step fin rest s m' h1
    | ct s m' => rw [r] at h1; simp only [r]; exact ws_forL Inv step fin rest s m' h1
    | bk s m' => rw [r] at h1; simp only [r]; exact h1
    | rt s m' => rw [r] at h1; simp only [r]; exact h1
    | ex c s m' => rw [r] at h1; exact h1.elim
    | bad => rw [r] at h1; exact h1.elim
theorem ws_for {g : G} {mi : SS → M (List D)} (h : Wp (mi ss ms) fun ds ms1 => Ws (S.forL g m ds ss ms1) k) : Ws (S.for_ mi g m ss ms) k := ws_o h
theorem ws_withPot {ks : List Nat} {mir : List D → M D} (h : Wp (r ss ms) fun ds ms1 => Wp (mir ds ms1) fun d ms2 => ∃ x y z, d = .lst [.int x, .int y, .int z] ∧
    Ws (m (ss.set i (some (.dat .pot))) ⟨x, y, z⟩) { nx := fun ss' _ => k.nx (keepS ks ss') ms2, rt := fun d _ => d.noPot = true ∧ k.rt d ms2, ct := fun ss' _ => k.ct (keepS ks ss') ms2 }) : Ws (S.withPot i ks mir r m ss ms) k := by
  unfold S.withPot
  cases r1 : r ss ms with
  | bad => rw [r1] at h; exact h.elim
  | ex c ms1 => rw [r1] at h; exact h.elim
  | ok ds ms1 =>
    rw [r1] at h
    cases r2 : mir ds ms1 with
    | bad => simp only [Wp, r2] at h
    | ex c ms2 => simp only [Wp, r2] at h
    | ok d ms2 =>
      have h : Wp (mir ds ms1) fun d ms2 => ∃ x y z, d = .lst [.int x, .int y, .int z] ∧
        Ws (m (ss.set i (some (.dat .pot))) ⟨x, y, z⟩) { nx := fun ss' _ => k.nx (keepS ks ss') ms2, rt := fun d _ => d.noPot = true ∧ k.rt d ms2, ct := fun ss' _ => k.ct (keepS ks ss') ms2 } := h
      rw [r2] at h
      obtain ⟨x, y, z, e, h⟩ := h
      subst e
      simp only [r2]
      cases r3 : m (ss.set i (some (.dat .pot))) ⟨x, y, z⟩ with
      | nx s m' => rw [r3] at h; exact h
      | ct s m' => rw [r3] at h; exact h
      | bk s m' => rw [r3] at h; exact h.elim
      | rt d' m' =>
        rw [r3] at h
        obtain ⟨h1, h2⟩ := h
        simp only [h1, if_true]
        exact h2
      | ex c s m' => rw [r3] at h; exact h.elim
      | bad => rw [r3] at h; exact h.elim
theorem wp_mir {n : Nat} {ds : List D} (h : Ws (m (begin n ds) ms) { nx := fun _ ms' => Q .non ms', rt := Q }) : Wp (mirOf n m ds ms) Q := by
  unfold mirOf
  cases r : m (begin n ds) ms with
  | nx s m' => rw [r] at h; exact h
  | rt d' m' => rw [r] at h; exact h
  | ct s m' => rw [r] at h; exact h.elim
  | bk s m' => rw [r] at h; exact h.elim
  | ex c s m' => rw [r] at h; exact h.elim
  | bad => rw [r] at h; exact h.elim

/-! operations -/
theorem wp_ixL {ds : List D} {i : Int} (h : atI ds i = some d) (q : Q d ms) : Wp (gIx (.lst ds) (.int i) ms) Q := by unfold gIx; simp only [h]; exact q
theorem wp_ixT {ds : List D} {i : Int} (h : atI ds i = some d) (q : Q d ms) : Wp (gIx (.tup ds) (.int i) ms) Q := by unfold gIx; simp only [h]; exact q
theorem wp_ixS {z : Str} {i : Int} {c : Nat} (hz : z.length ≤ 100000) (h : atI z.cps.toList i = some c) (q : Q (.str ⟨#[c]⟩) ms) : Wp (gIx (.str z) (.int i) ms) Q := by
  show Wp (if z.length ≤ 100000 then (match atI z.cps.toList i with
    | some c => R.ok (D.str ⟨#[c]⟩) ms
    | none => R.bad) else R.bad) Q
  rw [if_pos hz, h]
  exact q
theorem wp_ixP {i : Int} {z : Int} (h : atI [ms.a, ms.b, ms.c] i = some z) (q : Q (.int z) ms) : Wp (gIx .pot (.int i) ms) Q := by unfold gIx; simp only [h]; exact q
theorem wp_addI {i j : Int} (q : Q (.int (i + j)) ms) : Wp (gAdd (.int i) (.int j) ms) Q := q
theorem wp_subI {i j : Int} (q : Q (.int (i - j)) ms) : Wp (gSub (.int i) (.int j) ms) Q := q
theorem wp_mulI {i j : Int} (h : (-(2 ^ 64) < i ∧ i < 2 ^ 64) ∨ (-(2 ^ 64) < j ∧ j < 2 ^ 64)) (q : Q (.int (i * j)) ms) : Wp (gMul (.int i) (.int j) ms) Q := by rw [gMul_int i j ms h]; exact q
theorem wp_modI {i j : Int} (h : 0 < j) (q : Q (.int (i % j)) ms) : Wp (gMod (.int i) (.int j) ms) Q := by
  show Wp (if cMod i j = true then R.ok (.int (i % j)) ms else .bad) Q
  rw [if_pos (show cMod i j = true from decide_eq_true h)]
  exact q
theorem log2_lt {j : Int} {n : Nat} (h0 : 0 < j) (h : j < 2 ^ n) (hn : 0 < n) : j.natAbs.log2 < n := by
  have h1 : j.natAbs < 2 ^ n := by
    have e : ((j.natAbs : Nat) : Int) = j := by omega
    have : ((j.natAbs : Nat) : Int) < ((2 ^ n : Nat) : Int) := by rw [e]; rw [Int.natCast_pow]; exact h
    omega
  exact PySem.Flt.log2_lt_of hn h1
theorem wp_divI {i j : Int} (h : 0 < j) (h' : j < 2 ^ 9000) (q : Q (.int (i / j)) ms) : Wp (gDiv (.int i) (.int j) ms) Q := by
  show Wp (if cDiv i j = true then R.ok (.int (i / j)) ms else .bad) Q
  rw [if_pos (show cDiv i j = true from decide_eq_true ⟨h, log2_lt h h' (by decide)⟩)]
  exact q
theorem bits_lt {i : Int} {n : Nat} (h : i.natAbs < 2 ^ n) : Builtin.Int.intBits i ≤ n := by
  unfold Builtin.Int.intBits
  split
  · omega
  · rename_i hne
    have h0 : i.natAbs ≠ 0 := by
      intro e
      apply hne
      simpa using e
    have := (Nat.log2_lt h0).mpr h
    omega
theorem wp_powI {i : Int} {j n : Nat} (h : i.natAbs < 2 ^ n) (hn : n * j ≤ 134217728) (q : Q (.int (i ^ j)) ms) : Wp (gPow (.int i) (.int (j : Int)) ms) Q := by
  show Wp (if cPow i j = true then R.ok (.int (i ^ (j : Int).toNat)) ms else .bad) Q
  have hc : cPow i j = true := by
    refine decide_eq_true ⟨by omega, ?_⟩
    have h1 := bits_lt h
    have h2 : Builtin.Int.intBits i * j ≤ n * j := Nat.mul_le_mul_right j h1
    have e : ((Builtin.Int.intBits i : Nat) : Int) * ((j : Nat) : Int) = ((Builtin.Int.intBits i * j : Nat) : Int) := by rw [Int.natCast_mul]
    rw [e]
    have : (2 : Int) ^ 27 = 134217728 := by decide
    rw [this]
    omega
  rw [if_pos hc]
  exact q
theorem wp_ltI {i j : Int} (q : Q (.bl (decide (i < j))) ms) : Wp (gLt (.int i) (.int j) ms) Q := q
theorem wp_leI {i j : Int} (q : Q (.bl (decide (i ≤ j))) ms) : Wp (gLe (.int i) (.int j) ms) Q := q
theorem wp_gtI {i j : Int} (q : Q (.bl (decide (j < i))) ms) : Wp (gGt (.int i) (.int j) ms) Q := q
theorem wp_geI {i j : Int} (q : Q (.bl (decide (j ≤ i))) ms) : Wp (gGe (.int i) (.int j) ms) Q := q
theorem wp_addS {i j : Str} (h : i.length + j.length ≤ 100000) (q : Q (.str (i ++ j)) ms) : Wp (gAdd (.str i) (.str j) ms) Q := by rw [gAdd_str i j ms h]; exact q
theorem wp_addT {i j : List D} (h : i.length + j.length ≤ 100000) (q : Q (.tup (i ++ j)) ms) : Wp (gAdd (.tup i) (.tup j) ms) Q := by rw [gAdd_tup i j ms h]; exact q
theorem wp_addL {i j : List D} (h : i.length + j.length ≤ 100000) (q : Q (.lst (i ++ j)) ms) : Wp (gAdd (.lst i) (.lst j) ms) Q := by rw [gAdd_lst i j ms h]; exact q
theorem wp_slL {ds : List D} {lo hi : Option Int} (q : Q (.lst (cut ds lo hi)) ms) : Wp (gSl (.lst ds) lo hi ms) Q := q
theorem wp_slT {ds : List D} {lo hi : Option Int} (q : Q (.tup (cut ds lo hi)) ms) : Wp (gSl (.tup ds) lo hi ms) Q := q
theorem wp_slS {z : Str} {lo hi : Option Int} (h : z.length ≤ 100000) (q : Q (.str (cutS z lo hi)) ms) : Wp (gSl (.str z) lo hi ms) Q := by
  show Wp (if z.length ≤ 100000 then R.ok (.str (cutS z lo hi)) ms else .bad) Q
  rw [if_pos h]
  exact q
theorem wp_lenL {ds : List D} (q : Q (.int ds.length) ms) : Wp (gLen (.lst ds) ms) Q := q
theorem wp_lenT {ds : List D} (q : Q (.int ds.length) ms) : Wp (gLen (.tup ds) ms) Q := q
theorem wp_lenS {z : Str} (h : z.length ≤ 100000) (q : Q (.int z.length) ms) : Wp (gLen (.str z) ms) Q := by
  show Wp (if z.length ≤ 100000 then R.ok (.int z.length) ms else .bad) Q
  rw [if_pos h]
  exact q
theorem wp_isi {ty : Ty} {b : Ty} (h : tyOf d = some b) (hn : ty ≠ .non) (q : Q (.bl (b.le ty)) ms) : Wp (gIsi [d, .ty ty] ms) Q := by
  show Wp (match tyOf d with
    | some a => if ty ≠ .non then R.ok (.bl (a.le ty)) ms else .bad
    | none => .bad) Q
  simp only [h]
  rw [if_pos hn]
  exact q
theorem wp_eqD {n : Bool} {p q : PyData} (hx : x.py = some p) (hy : y.py = some q) (h1 : SeqAt.shaped p = true) (h2 : SeqAt.shaped q = true) (h : Q (.bl (if n then !PyData.eqv p q else PyData.eqv p q)) ms) : Wp (eqD n x y ms) Q := by
  unfold eqD
  rw [hx, hy]
  show Wp (if SeqAt.shaped p = true ∧ SeqAt.shaped q = true then R.ok _ ms else .bad) Q
  rw [if_pos ⟨h1, h2⟩]
  exact h
theorem wp_gEq {p q : PyData} (hx : x.py = some p) (hy : y.py = some q) (h1 : SeqAt.shaped p = true) (h2 : SeqAt.shaped q = true) (h : Q (.bl (PyData.eqv p q)) ms) : Wp (gEq x y ms) Q := wp_eqD (n := false) hx hy h1 h2 h
theorem wp_range1 {n : Int} (h1 : -(2 ^ 62) ≤ n) (h2 : n < 2 ^ 62) (q : Qa (rangeD 0 n.toNat) ms) : Wp (range1 [.int n] ms) Qa := by
  show Wp (if -(2 ^ 62) ≤ n ∧ n < 2 ^ 62 then R.ok (rangeD 0 n.toNat) ms else .bad) Qa
  rw [if_pos ⟨h1, h2⟩]
  exact q
theorem shaped_int (i : Int) : SeqAt.shaped (.int i) = true := rfl
theorem shaped_bl (i : Bool) : SeqAt.shaped (.bool i) = true := rfl
theorem shaped_str {x : Str} (h : PyData.strOk x = true) : SeqAt.shaped (.str x) = true := by
  unfold SeqAt.shaped
  rw [Bool.and_eq_true]
  exact ⟨by rw [PyData.canLay0]; exact h, rfl⟩
theorem wp_eqI {i j : Int} (q : Q (.bl (i == j)) ms) : Wp (gEq (.int i) (.int j) ms) Q := wp_gEq (p := .int i) (q := .int j) rfl rfl rfl rfl (by rw [PyData.eqv]; exact q)
theorem wp_eqS {i j : Str} (h1 : PyData.strOk i = true) (h2 : PyData.strOk j = true) (q : Q (.bl (i == j)) ms) : Wp (gEq (.str i) (.str j) ms) Q := wp_gEq (p := .str i) (q := .str j) rfl rfl (shaped_str h1) (shaped_str h2) (by rw [PyData.eqv]; exact q)
theorem wp_ne {p q : PyData} (h0 : eq0 x y ms = .bad) (hx : x.py = some p) (hy : y.py = some q) (h1 : SeqAt.shaped p = true) (h2 : SeqAt.shaped q = true) (h : Q (.bl (!PyData.eqv p q)) ms) : Wp (gNe x y ms) Q := by
  unfold gNe orG
  rw [h0]
  exact wp_eqD (n := true) hx hy h1 h2 h
theorem wp_neI {i j : Int} (q : Q (.bl (!(i == j))) ms) : Wp (gNe (.int i) (.int j) ms) Q := wp_ne (p := .int i) (q := .int j) rfl rfl rfl rfl rfl (by rw [PyData.eqv]; exact q)
theorem wp_neB {i j : Bool} (q : Q (.bl (!(i == j))) ms) : Wp (gNe (.bl i) (.bl j) ms) Q := wp_ne (p := .bool i) (q := .bool j) rfl rfl rfl rfl rfl (by rw [PyData.eqv]; exact q)
theorem wp_ne0 {ds : List D} (q : Q (.bl (!ds.isEmpty)) ms) : Wp (gNe (.tup ds) (.tup []) ms) Q := q
theorem wp_inF {ds : List D} (h1 : x.flat = true) (h2 : ds.all D.flat = true) (q : Q (.bl (ds.any fun d => eqF d x)) ms) (h0 : gInStr false x (.lst ds) ms = .bad) : Wp (gIn x (.lst ds) ms) Q := by
  unfold gIn orG
  rw [h0]
  show Wp (if x.flat = true ∧ ds.all D.flat = true then R.ok (.bl (ds.any fun d => eqF d x)) ms else .bad) Q
  rw [if_pos ⟨h1, h2⟩]
  exact q
theorem wp_notInF {ds : List D} (h1 : x.flat = true) (h2 : ds.all D.flat = true) (q : Q (.bl (!(ds.any fun d => eqF d x))) ms) (h0 : gInStr true x (.lst ds) ms = .bad) : Wp (gNotIn x (.lst ds) ms) Q := by
  unfold gNotIn orG
  rw [h0]
  show Wp (if x.flat = true ∧ ds.all D.flat = true then R.ok (.bl (!(ds.any fun d => eqF d x))) ms else .bad) Q
  rw [if_pos ⟨h1, h2⟩]
  exact q
theorem wp_inS {c : Nat} {z : Str} (q : Q (.bl (decide (c ∈ z.cps.toList))) ms) : Wp (gIn (.str ⟨#[c]⟩) (.str z) ms) Q := q
theorem wp_notInS {c : Nat} {z : Str} (q : Q (.bl (!decide (c ∈ z.cps.toList))) ms) : Wp (gNotIn (.str ⟨#[c]⟩) (.str z) ms) Q := q
/-- an item of a list at a drawn place -/
theorem atI_in {α : Type} {xs : List α} {i : Int} (h0 : 0 ≤ i) (h : i < xs.length) : ∃ x, atI xs i = some x ∧ x ∈ xs := by
  have hi : i.toNat < xs.length := by omega
  have e : i = ((i.toNat : Nat) : Int) := by omega
  refine ⟨xs[i.toNat], ?_, List.getElem_mem hi⟩
  have := atI_nat (xs := xs) (j := i.toNat) (v := xs[i.toNat]) (List.getElem?_eq_getElem hi)
  rw [← e] at this
  exact this
theorem wp_ixLd {ds : List D} {i : Int} (h0 : 0 ≤ i) (h : i < ds.length) (q : ∀ d ∈ ds, Q d ms) : Wp (gIx (.lst ds) (.int i) ms) Q := by
  obtain ⟨x, hx, hm⟩ := atI_in h0 h
  exact wp_ixL hx (q x hm)
/-- a comprehension whose parts are plain functions of the item -/
theorem lcRun_fm {α : Type} {g : G} {tt : SS → M Bool} {e : SS → M D} {it : α → D} {p : α → Bool} {f : α → D} {ss : SS} {ms : MS} : ∀ (ds : List α) (acc : List D), acc.length + ds.length ≤ 100000 → (∀ d ∈ ds, ∃ ss1, g (it d) ss = some ss1 ∧ tt ss1 ms = .ok (p d) ms ∧ (p d = true → e ss1 ms = .ok (f d) ms)) →
    E.lcRun g tt e ss (ds.map it) acc ms = .ok (acc ++ (ds.filter p).map f) ms
  | [], acc, _, _ => by
    rw [List.map_nil]
    unfold E.lcRun
    simp
  | d :: ds, acc, hl, h => by
    obtain ⟨ss1, e1, e2, e3⟩ := h d (by simp)
    rw [List.map_cons]
    unfold E.lcRun
    simp only [e1, e2]
    rw [List.length_cons] at hl
    cases hp : p d with
    | false =>
      simp only [hp]
      rw [lcRun_fm ds acc (by omega) fun d' hd' => h d' (List.mem_cons_of_mem _ hd')]
      simp [hp]
    | true =>
      simp only [hp, e3 hp]
      rw [if_pos (by omega), lcRun_fm ds (acc ++ [f d]) (by rw [List.length_append]; simp; omega) fun d' hd' => h d' (List.mem_cons_of_mem _ hd')]
      simp [hp]
theorem lcRun_map {α : Type} {g : G} {e : SS → M D} {it f : α → D} {ss : SS} {ms : MS} {ds : List α} (hl : ds.length ≤ 100000) (h : ∀ d ∈ ds, ∃ ss1, g (it d) ss = some ss1 ∧ e ss1 ms = .ok (f d) ms) : E.lcRun g E.yes e ss (ds.map it) [] ms = .ok (ds.map f) ms := by
  rw [lcRun_fm (p := fun _ => true) (f := f) ds [] (by simpa using hl) fun d hd => by
    obtain ⟨ss1, e1, e2⟩ := h d hd
    exact ⟨ss1, e1, rfl, fun _ => e2⟩]
  rw [List.filter_eq_self.mpr (by simp)]
  rfl
theorem allB_map {α : Type} (f : α → Bool) : ∀ xs : List α, allB (xs.map fun x => D.bl (f x)) = some (xs.all f)
  | [] => rfl
  | x :: xs => by
    rw [List.map_cons, allB, allB_map f xs]
    rfl
theorem wp_itS {z : Str} (q : Qa (chars z) ms) : Wp (itemsD (.str z) ms) Qa := q
theorem wp_itL {ds : List D} (q : Qa ds ms) : Wp (itemsD (.lst ds) ms) Qa := q
theorem wp_itT {ds : List D} (q : Qa ds ms) : Wp (itemsD (.tup ds) ms) Qa := q
theorem wp_all {ds : List D} {k : Bool} (h : allB ds = some k) (q : Q (.bl k) ms) : Wp (gAll (.lst ds) ms) Q := by
  show Wp (match allB ds with
    | some k => R.ok (D.bl k) ms
    | none => R.bad) Q
  rw [h]
  exact q
/-! data that may be compared -/
def plainD : Nat → D → Prop
  | _, .non => True
  | _, .bl _ => True
  | _, .int _ => True
  | _, .str x => PyData.strOk x = true
  | n + 1, .tup ds => ∀ d ∈ ds, plainD n d
  | n + 1, .lst ds => ∀ d ∈ ds, plainD n d
  | _, _ => False
theorem pys_of {n : Nat} (ih : ∀ d, plainD n d → ∃ q, d.py = some q ∧ q.canLay0 = true ∧ q.depth ≤ n) : ∀ ds : List D, (∀ d ∈ ds, plainD n d) → ∃ qs, pys ds = some qs ∧ PyData.canLayAll0 qs = true ∧ PyData.depthAll qs ≤ n
  | [], _ => ⟨[], rfl, rfl, Nat.zero_le _⟩
  | d :: ds, h => by
    obtain ⟨q, e1, c1, d1⟩ := ih d (h d (by simp))
    obtain ⟨qs, e2, c2, d2⟩ := pys_of ih ds fun x hx => h x (List.mem_cons_of_mem _ hx)
    refine ⟨q :: qs, by rw [pys, e1, e2], by rw [PyData.canLayAll0, c1, c2]; rfl, ?_⟩
    rw [PyData.depthAll]
    exact Nat.max_le.mpr ⟨d1, d2⟩
theorem plainD.py : ∀ {n : Nat} {d : D}, plainD n d → ∃ q, d.py = some q ∧ q.canLay0 = true ∧ q.depth ≤ n
  | n, .non, _ => ⟨_, rfl, rfl, Nat.zero_le _⟩
  | n, .bl b, _ => ⟨_, rfl, rfl, Nat.zero_le _⟩
  | n, .int b, _ => ⟨_, rfl, rfl, Nat.zero_le _⟩
  | n, .str b, h => ⟨_, rfl, by rw [PyData.canLay0]; cases n <;> exact h, Nat.zero_le _⟩
  | n + 1, .tup ds, h => by
    obtain ⟨qs, e, c, dd⟩ := pys_of (fun d => plainD.py) ds h
    exact ⟨.tuple qs, by rw [D.py, e]; rfl, by rw [PyData.canLay0]; exact c, by rw [PyData.depth]; omega⟩
  | n + 1, .lst ds, h => by
    obtain ⟨qs, e, c, dd⟩ := pys_of (fun d => plainD.py) ds h
    exact ⟨.list qs, by rw [D.py, e]; rfl, by rw [PyData.canLay0]; exact c, by rw [PyData.depth]; omega⟩
  | 0, .tup ds, h => h.elim
  | 0, .lst ds, h => h.elim
  | n, .dct _ _, h => by cases n <;> exact h.elim
  | n, .pot, h => by cases n <;> exact h.elim
  | n, .fn _, h => by cases n <;> exact h.elim
  | n, .ty _, h => by cases n <;> exact h.elim
theorem shaped_of {q : PyData} {n : Nat} (h1 : q.canLay0 = true) (h2 : q.depth ≤ n) (h3 : n ≤ 64) : SeqAt.shaped q = true := by
  unfold SeqAt.shaped
  rw [h1, decide_eq_true (by omega)]
  rfl
def eqvD (x y : D) : Bool := match x.py, y.py with
  | some a, some b => PyData.eqv a b
  | _, _ => false
theorem wp_eqP {n n' : Nat} (hx : plainD n x) (hy : plainD n' y) (hn : n ≤ 64) (hn' : n' ≤ 64) (q : Q (.bl (eqvD x y)) ms) : Wp (gEq x y ms) Q := by
  obtain ⟨a, e1, c1, d1⟩ := hx.py
  obtain ⟨b, e2, c2, d2⟩ := hy.py
  refine wp_gEq e1 e2 (shaped_of c1 d1 hn) (shaped_of c2 d2 hn') ?_
  have : eqvD x y = PyData.eqv a b := by unfold eqvD; rw [e1, e2]
  rw [← this]
  exact q
theorem wp_neP {n n' : Nat} (h0 : eq0 x y ms = .bad) (hx : plainD n x) (hy : plainD n' y) (hn : n ≤ 64) (hn' : n' ≤ 64) (q : Q (.bl (!eqvD x y)) ms) : Wp (gNe x y ms) Q := by
  obtain ⟨a, e1, c1, d1⟩ := hx.py
  obtain ⟨b, e2, c2, d2⟩ := hy.py
  refine wp_ne h0 e1 e2 (shaped_of c1 d1 hn) (shaped_of c2 d2 hn') ?_
  have : eqvD x y = PyData.eqv a b := by unfold eqvD; rw [e1, e2]
  rw [← this]
  exact q
theorem eqv_nil {n : Nat} {ds : List D} (h : plainD n (.lst ds)) : eqvD (.lst ds) (.lst []) = ds.isEmpty := by
  unfold eqvD
  obtain ⟨a, e1, _⟩ := h.py
  cases ds with
  | nil => rfl
  | cons d ds =>
    rw [e1]
    rw [D.py] at e1
    cases e2 : pys (d :: ds) with
    | none => rw [e2] at e1; cases e1
    | some qs =>
      rw [e2] at e1
      cases e1
      rw [pys] at e2
      cases e3 : d.py with
      | none => rw [e3] at e2; cases e2
      | some q =>
        cases e4 : pys ds with
        | none => rw [e3, e4] at e2; cases e2
        | some r =>
          rw [e3, e4] at e2
          cases e2
          show PyData.eqv (.list (q :: r)) (.list []) = false
          rw [PyData.eqv, PyData.eqvAll]
theorem wp_abs {i : Int} (q : Q (.int (if i < 0 then -i else i)) ms) : Wp (gAbs (.int i) ms) Q := q
theorem wp_intB {b : Bool} (q : Q (.int (if b then 1 else 0)) ms) : Wp (gInt (.bl b) ms) Q := q
theorem wp_intI {i : Int} (q : Q (.int i) ms) : Wp (gInt (.int i) ms) Q := q
theorem wp_listL {ds : List D} (q : Q (.lst ds) ms) : Wp (gList (.lst ds) ms) Q := q
theorem wp_listT {ds : List D} (q : Q (.lst ds) ms) : Wp (gList (.tup ds) ms) Q := q
theorem wp_tupleL {ds : List D} (q : Q (.tup ds) ms) : Wp (gTuple (.lst ds) ms) Q := q
theorem wp_tupleT {ds : List D} (q : Q (.tup ds) ms) : Wp (gTuple (.tup ds) ms) Q := q
theorem wp_min {i j : Int} (q : Q (.int (if j < i then j else i)) ms) : Wp (gMin [.int i, .int j] ms) Q := q
theorem wp_max {i j : Int} (q : Q (.int (if j > i then j else i)) ms) : Wp (gMax [.int i, .int j] ms) Q := q
theorem wp_neg {i : Int} (q : Q (.int (-i)) ms) : Wp (gNeg (.int i) ms) Q := q
theorem wp_range2 {i n : Int} (h : -(2 ^ 62) ≤ i ∧ i < 2 ^ 62 ∧ -(2 ^ 62) ≤ n ∧ n < 2 ^ 62) (q : Qa (rangeD i (n - i).toNat) ms) : Wp (range2 [.int i, .int n] ms) Qa := by
  show Wp (if -(2 ^ 62) ≤ i ∧ i < 2 ^ 62 ∧ -(2 ^ 62) ≤ n ∧ n < 2 ^ 62 then R.ok (rangeD i (n - i).toNat) ms else .bad) Qa
  rw [if_pos h]
  exact q
theorem iteK1 {c : Bool} {A B : Prop} (h : c = true) (a : A) : if c = true then A else B := by rw [if_pos h]; exact a
theorem iteK0 {c : Bool} {A B : Prop} (h : c = false) (a : B) : if c = true then A else B := by rw [h, if_neg Bool.false_ne_true]; exact a
end
end Q

set_option Elab.async false
set_option linter.all false
set_option maxRecDepth 100000
set_option maxHeartbeats 4000000
/-! Ql: written dicts; a law's end. -/
namespace Q
open PySem L2 PyProof.Rows
def keysOf : List DictEntry → List Str
  | [] => []
  | e :: r => match e.key with
    | .str x _ => x :: keysOf r
    | _ => keysOf r
theorem find_keys {P : Params} : ∀ {l : List DictEntry}, PySem.W.KeysLit P l → ∀ z : Str, (l.find? fun e => e.key.isStr z).isSome = decide (z ∈ keysOf l) ∧ l.any (·.refKey) = false
  | [], _, z => ⟨by simp [keysOf], rfl⟩
  | e :: r, ⟨⟨x, t, hk, _⟩, h⟩, z => by
    obtain ⟨i1, i2⟩ := find_keys h z
    obtain ⟨eh, ek, ev⟩ := e
    simp only at hk
    subst hk
    refine ⟨?_, ?_⟩
    · rw [List.find?_cons]
      have e1 : (Value.str x t).isStr z = (x == z) := rfl
      show (match (Value.str x t).isStr z with
        | true => some _
        | false => r.find? _).isSome = decide (z ∈ x :: keysOf r)
      rw [e1]
      by_cases hz : x = z
      · subst hz
        simp
      · have : (x == z) = false := beq_eq_false_iff_ne.mpr hz
        rw [this]
        simp only [List.mem_cons, show ¬ z = x from fun q => hz q.symm, false_or]
        exact i1
    · rw [List.any_cons, i2]
      rfl
theorem kd_of {K : PySem.W.Frag} {w : World} {d : Addr} {es : Array DictEntry} {n : Nat} {ks : List Str} (at_ : K.lookup d = some ⟨.type "dict", none, .dict es n, #[]⟩) (lit : PySem.W.KeysLit w.params es.toList) (low : (d == sysModules) = false) (hk : keysOf es.toList = ks) : KD K w d ks := by
  refine ⟨es, n, ⟨at_, lit, low⟩, fun z => ?_⟩
  obtain ⟨i1, i2⟩ := find_keys lit z
  rw [hk] at i1
  unfold PySem.W.nsIn
  rw [at_]
  cases q : es.toList.find? fun e => e.key.isStr z with
  | some e =>
    rw [q] at i1
    exact ⟨some e.val, by simp only [q], i1⟩
  | none =>
    rw [q] at i1
    refine ⟨none, ?_, i1⟩
    simp only [q]
    rw [i2]
    rfl
theorem cx_no {P : Program} {w : World} {outer : List Env} {H : Hp} {s : Shared} {e : Value} {s' : Shared} (h : L2.CX P w outer H s (fun _ _ _ => False) e s') : False := by
  obtain ⟨_, _, _, _, _, _, _, _, _, _, _, _, z⟩ := h
  exact z
end Q

set_option Elab.async false
set_option linter.all false
set_option maxRecDepth 100000
set_option maxHeartbeats 4000000
namespace K01
open PySem L2 PyProof.Rows Q
def top (i : Nat) : Stmt := PySem.Challenge.pw_plainshown_k01_terms_known.main.body.getD i (.Pass ⟨0, 0, 0, 0⟩)
abbrev s__law_folded : Stmt := top 25
abbrev N__law_folded : List Str := ["_law_script", "_law_most", "_law_found", "_law_k"]
theorem sc__law_folded : FnScope N__law_folded ["_law_script", "_law_most"] (defScope s__law_folded) := ⟨rfl, rfl, rfl, by decide +kernel, rfl, by decide +kernel, by decide +kernel⟩
abbrev s__law_pot : Stmt := top 23
abbrev N__law_pot : List Str := ["_law_script", "_law_k", "_law_cell", "_law_mixed"]
theorem sc__law_pot : FnScope N__law_pot ["_law_script", "_law_k"] (defScope s__law_pot) := ⟨rfl, rfl, rfl, by decide +kernel, rfl, by decide +kernel, by decide +kernel⟩
abbrev s__law_take : Stmt := top 24
abbrev N__law_take : List Str := ["_law_pot_here", "_law_many", "_law_found", "_law_one", "_law_other"]
theorem sc__law_take : FnScope N__law_take ["_law_pot_here", "_law_many"] (defScope s__law_take) := ⟨rfl, rfl, rfl, by decide +kernel, rfl, by decide +kernel, by decide +kernel⟩
abbrev s__law_letters : Stmt := top 26
abbrev N__law_letters : List Str := ["_law_pot_here", "_law_many", "_law_at"]
theorem sc__law_letters : FnScope N__law_letters ["_law_pot_here", "_law_many"] (defScope s__law_letters) := ⟨rfl, rfl, rfl, by decide +kernel, rfl, by decide +kernel, by decide +kernel⟩
abbrev s__law_any_name : Stmt := top 27
abbrev N__law_any_name : List Str := ["_law_pot_here", "_law_many", "_law_signs", "_law_way", "_law_at", "_law_odd"]
theorem sc__law_any_name : FnScope N__law_any_name ["_law_pot_here"] (defScope s__law_any_name) := ⟨rfl, rfl, rfl, by decide +kernel, rfl, by decide +kernel, by decide +kernel⟩
abbrev s__law_leaf : Stmt := top 28
abbrev N__law_leaf : List Str := ["_law_pot_here", "_law_way"]
theorem sc__law_leaf : FnScope N__law_leaf ["_law_pot_here"] (defScope s__law_leaf) := ⟨rfl, rfl, rfl, by decide +kernel, rfl, by decide +kernel, by decide +kernel⟩
abbrev s__law_grown : Stmt := top 29
abbrev N__law_grown : List Str := ["_law_pot_here", "_law_deep", "_law_inner", "_law_op", "_law_other"]
theorem sc__law_grown : FnScope N__law_grown ["_law_pot_here", "_law_deep"] (defScope s__law_grown) := ⟨rfl, rfl, rfl, by decide +kernel, rfl, by decide +kernel, by decide +kernel⟩
abbrev s__law_spoilt : Stmt := top 30
abbrev N__law_spoilt : List Str := ["_law_pot_here", "_law_thing", "_law_at", "_law_odd"]
theorem sc__law_spoilt : FnScope N__law_spoilt ["_law_pot_here", "_law_thing"] (defScope s__law_spoilt) := ⟨rfl, rfl, rfl, by decide +kernel, rfl, by decide +kernel, by decide +kernel⟩
abbrev s_is_name : Stmt := top 10
abbrev N_is_name : List Str := ["thing", "sign"]
theorem sc_is_name : FnScope N_is_name ["thing"] (defScope s_is_name) := ⟨rfl, rfl, rfl, by decide +kernel, rfl, by decide +kernel, by decide +kernel⟩
abbrev s_is_whole : Stmt := top 6
abbrev N_is_whole : List Str := ["thing"]
theorem sc_is_whole : FnScope N_is_whole ["thing"] (defScope s_is_whole) := ⟨rfl, rfl, rfl, by decide +kernel, rfl, by decide +kernel, by decide +kernel⟩
abbrev s_is_between : Stmt := top 7
abbrev N_is_between : List Str := ["thing", "least", "most"]
theorem sc_is_between : FnScope N_is_between ["thing", "least", "most"] (defScope s_is_between) := ⟨rfl, rfl, rfl, by decide +kernel, rfl, by decide +kernel, by decide +kernel⟩
abbrev s_is_cell : Stmt := top 9
abbrev N_is_cell : List Str := ["thing"]
theorem sc_is_cell : FnScope N_is_cell ["thing"] (defScope s_is_cell) := ⟨rfl, rfl, rfl, by decide +kernel, rfl, by decide +kernel, by decide +kernel⟩
abbrev s_is_at : Stmt := top 19
abbrev N_is_at : List Str := ["thing"]
theorem sc_is_at : FnScope N_is_at ["thing"] (defScope s_is_at) := ⟨rfl, rfl, rfl, by decide +kernel, rfl, by decide +kernel, by decide +kernel⟩
abbrev s_is_worth : Stmt := top 8
abbrev N_is_worth : List Str := ["thing"]
theorem sc_is_worth : FnScope N_is_worth ["thing"] (defScope s_is_worth) := ⟨rfl, rfl, rfl, by decide +kernel, rfl, by decide +kernel, by decide +kernel⟩
abbrev s_is_op : Stmt := top 18
abbrev N_is_op : List Str := ["thing"]
theorem sc_is_op : FnScope N_is_op ["thing"] (defScope s_is_op) := ⟨rfl, rfl, rfl, by decide +kernel, rfl, by decide +kernel, by decide +kernel⟩
abbrev s_is_term_with : Stmt := top 20
abbrev N_is_term_with : List Str := ["thing", "is_place", "deep", "op", "one", "other"]
theorem sc_is_term_with : FnScope N_is_term_with ["thing", "is_place", "deep"] (defScope s_is_term_with) := ⟨rfl, rfl, rfl, by decide +kernel, rfl, by decide +kernel, by decide +kernel⟩
abbrev s_is_term : Stmt := top 21
abbrev N_is_term : List Str := ["thing"]
theorem sc_is_term : FnScope N_is_term ["thing"] (defScope s_is_term) := ⟨rfl, rfl, rfl, by decide +kernel, rfl, by decide +kernel, by decide +kernel⟩
abbrev s__law_within : Stmt := top 32
abbrev N__law_within : List Str := ["_law_thing", "_law_most"]
theorem sc__law_within : FnScope N__law_within ["_law_thing", "_law_most"] (defScope s__law_within) := ⟨rfl, rfl, rfl, by decide +kernel, rfl, by decide +kernel, by decide +kernel⟩
abbrev s__law_name_due : Stmt := top 31
abbrev N__law_name_due : List Str := ["_law_thing", "_law_sign"]
theorem sc__law_name_due : FnScope N__law_name_due ["_law_thing"] (defScope s__law_name_due) := ⟨rfl, rfl, rfl, by decide +kernel, rfl, by decide +kernel, by decide +kernel⟩
abbrev s__law_term_due : Stmt := top 33
abbrev N__law_term_due : List Str := ["_law_thing", "_law_deep"]
theorem sc__law_term_due : FnScope N__law_term_due ["_law_thing", "_law_deep"] (defScope s__law_term_due) := ⟨rfl, rfl, rfl, by decide +kernel, rfl, by decide +kernel, by decide +kernel⟩
abbrev s_law : Stmt := top 34
abbrev N_law : List Str := ["_law_script", "_law_cells", "_law_k", "_law_pot_here", "_law_term", "_law_once", "_law_name", "_law_thing", "_law_told", "_law_known"]
theorem sc_law : FnScope N_law ["_law_script"] (defScope s_law) := ⟨rfl, rfl, rfl, by decide +kernel, rfl, by decide +kernel, by decide +kernel⟩
def d_CELLS : D := (.tup [(.int 0), (.int 0), (.int 0), (.int 0), (.int 0), (.int 0), (.int 0), (.int 0)])
def keys_OPS : List Str := ["+", "-", "*", "/", "<", "="]
abbrev b__law_folded : SS → MS → O := (S.seq (S.own 2 (E.op1 gList (E.sl (E.var 0) E.noPart (E.part (E.var 1))))) (S.seq (S.for_ (E.itsA range2 (E.cons (E.var 1) (E.cons (E.fnA gMin (E.cons (E.c (.int 63)) (E.cons (E.op1 gLen (E.var 0)) E.nil))) E.nil))) (g1 3) (S.setIx 2 (E.op2 gMod (E.var 3) (E.var 1)) (E.op2 gAdd (E.op2 gMul (E.op2 gIx (E.bor 2) (E.op2 gMod (E.var 3) (E.var 1))) (E.c (.int 31))) (E.op2 gIx (E.var 0) (E.var 3))))) (S.retO 2)))
def m__law_folded : List D → M D := mirOf 4 (b__law_folded)
abbrev b__law_pot : SS → MS → O := (S.seq (S.set 2 (E.c (.int 0))) (S.seq (S.ife (E.test (E.op2 gLt (E.var 1) (E.op1 gLen (E.var 0)))) (S.set 2 (E.op2 gMod (E.op1 gAbs (E.op2 gIx (E.var 0) (E.var 1))) (E.op2 gPow (E.op2 gPow (E.c (.int 10)) (E.c (.int 60))) (E.c (.int 14))))) S.nil) (S.seq (S.set 3 (E.op2 gMod (E.op2 gPow (E.op2 gAdd (E.op2 gAdd (E.op2 gMod (E.var 2) (E.c (.int 2147483629))) (E.op2 gMul (E.c (.int 7919)) (E.var 1))) (E.c (.int 1))) (E.c (.int 5))) (E.c (.int 2305843009213693951)))) (S.ret (E.lst (E.cons (E.op2 gMul (E.var 2) (E.op1 gInt (E.op2 gGe (E.var 2) (E.op2 gPow (E.c (.int 10)) (E.c (.int 18)))))) (E.cons (E.var 3) (E.cons (E.c (.int 0)) E.nil))))))))
def m__law_pot : List D → M D := mirOf 4 (b__law_pot)
abbrev b__law_take : SS → MS → O := (S.seq (S.ife (E.test (E.op2 gGt (E.op2 gIx (E.var 0) (E.c (.int 0))) (E.c (.int 0)))) (S.seq (S.set 2 (E.op2 gMod (E.op2 gIx (E.var 0) (E.c (.int 0))) (E.var 1))) (S.seq (S.setIx 0 (E.c (.int 0)) (E.op2 gDiv (E.op2 gIx (E.var 0) (E.c (.int 0))) (E.var 1))) (S.ret (E.var 2)))) S.nil) (S.seq (S.setIx 0 (E.c (.int 2)) (E.op2 gAdd (E.op2 gIx (E.var 0) (E.c (.int 2))) (E.c (.int 1)))) (S.seq (S.set 3 (E.op2 gMod (E.op2 gPow (E.op2 gAdd (E.op2 gIx (E.var 0) (E.c (.int 1))) (E.op2 gMul (E.c (.int 104729)) (E.op2 gIx (E.var 0) (E.c (.int 2))))) (E.c (.int 3))) (E.c (.int 2305843009213693921)))) (S.seq (S.set 4 (E.op2 gMod (E.op2 gPow (E.op2 gAdd (E.op2 gAdd (E.var 3) (E.op2 gMod (E.op2 gIx (E.var 0) (E.c (.int 1))) (E.c (.int 65537)))) (E.op2 gMul (E.c (.int 31)) (E.op2 gIx (E.var 0) (E.c (.int 2))))) (E.c (.int 5))) (E.c (.int 2305843009213693907)))) (S.ret (E.op2 gMod (E.op2 gDiv (E.var 4) (E.c (.int 1024))) (E.var 1)))))))
def m__law_take : List D → M D := mirOf 5 (b__law_take)
abbrev b__law_letters : SS → MS → O := (S.ret (E.op1 (gJoin "") (E.lc [2] (E.itsA range1 (E.cons (E.var 1) E.nil)) (g1 2) E.yes (E.op2 gIx (E.c (.str "abcdefghijklmnopqrstuvwxyz")) (E.fnA m__law_take (E.cons (E.var 0) (E.cons (E.c (.int 26)) E.nil)))))))
def m__law_letters : List D → M D := mirOf 3 (b__law_letters)
abbrev b__law_any_name : SS → MS → O := (S.seq (S.set 1 (E.op2 gIx (E.lst (E.cons (E.op2 gAdd (E.c (.int 1)) (E.fnA m__law_take (E.cons (E.var 0) (E.cons (E.c (.int 6)) E.nil)))) (E.cons (E.c (.int 6)) (E.cons (E.c (.int 7)) (E.cons (E.c (.int 1)) E.nil))))) (E.fnA m__law_take (E.cons (E.var 0) (E.cons (E.c (.int 4)) E.nil))))) (S.seq (S.set 2 (E.fnA m__law_letters (E.cons (E.var 0) (E.cons (E.var 1) E.nil)))) (S.seq (S.set 3 (E.fnA m__law_take (E.cons (E.var 0) (E.cons (E.c (.int 8)) E.nil)))) (S.seq (S.set 4 (E.fnA m__law_take (E.cons (E.var 0) (E.cons (E.var 1) E.nil)))) (S.seq (S.set 5 (E.op2 gIx (E.lst (E.cons (E.c (.str "A")) (E.cons (E.c (.str "Z")) (E.cons (E.c (.str "0")) (E.cons (E.c (.str "_")) (E.cons (E.c (.str " ")) (E.cons (E.c (.str "-")) (E.cons (E.c (.str "{")) (E.cons (E.c (.str "@")) E.nil))))))))) (E.fnA m__law_take (E.cons (E.var 0) (E.cons (E.c (.int 8)) E.nil))))) (S.ret (E.op2 gIx (E.lst (E.cons (E.c (.str "")) (E.cons (E.op2 gAdd (E.op2 gAdd (E.sl (E.var 2) E.noPart (E.part (E.var 4))) (E.var 5)) (E.sl (E.var 2) (E.part (E.op2 gAdd (E.var 4) (E.c (.int 1)))) E.noPart)) (E.cons (E.var 2) E.nil)))) (E.fnA gMin (E.cons (E.var 3) (E.cons (E.c (.int 2)) E.nil))))))))))
def m__law_any_name : List D → M D := mirOf 6 (b__law_any_name)
abbrev b__law_leaf : SS → MS → O := (S.seq (S.set 1 (E.fnA m__law_take (E.cons (E.var 0) (E.cons (E.c (.int 12)) E.nil)))) (S.seq (S.ife (E.test (E.op2 gLt (E.var 1) (E.c (.int 4)))) (S.ret (E.fnA m__law_letters (E.cons (E.var 0) (E.cons (E.op2 gAdd (E.c (.int 1)) (E.fnA m__law_take (E.cons (E.var 0) (E.cons (E.c (.int 6)) E.nil)))) E.nil)))) S.nil) (S.seq (S.ife (E.test (E.op2 gLt (E.var 1) (E.c (.int 8)))) (S.ret (E.op2 gIx (E.lst (E.cons (E.c (.int 0)) (E.cons (E.c (.int 996)) (E.cons (E.fnA m__law_take (E.cons (E.var 0) (E.cons (E.c (.int 997)) E.nil))) (E.cons (E.c (.int 1)) E.nil))))) (E.op2 gSub (E.var 1) (E.c (.int 4))))) S.nil) (S.seq (S.ife (E.test (E.op2 gLt (E.var 1) (E.c (.int 11)))) (S.ret (E.tup (E.cons (E.c (.str "at")) (E.cons (E.fnA m__law_take (E.cons (E.var 0) (E.cons (E.c (.int 8)) E.nil))) E.nil)))) S.nil) (S.ret (E.op2 gIx (E.lst (E.cons (E.c (.int 997)) (E.cons (E.op1 gNeg (E.c (.int 1))) (E.cons (E.c (.bl true)) (E.cons (E.fnA m__law_any_name (E.cons (E.var 0) E.nil)) (E.cons (E.tup (E.cons (E.c (.str "at")) (E.cons (E.c (.int 8)) E.nil))) (E.cons (E.op2 gPow (E.c (.int 10)) (E.c (.int 39))) E.nil))))))) (E.fnA m__law_take (E.cons (E.var 0) (E.cons (E.c (.int 6)) E.nil)))))))))
def m__law_leaf : List D → M D := mirOf 2 (b__law_leaf)
abbrev b__law_grown (self_ : List D → M D) : SS → MS → O := (S.seq (S.ife (E.test (E.op2 gEq (E.var 1) (E.c (.int 0)))) (S.ret (E.fnA m__law_leaf (E.cons (E.var 0) E.nil))) S.nil) (S.seq (S.set 2 (E.fnA self_ (E.cons (E.var 0) (E.cons (E.op2 gSub (E.var 1) (E.c (.int 1))) E.nil)))) (S.seq (S.set 3 (E.op2 gIx (E.lst (E.cons (E.c (.str "+")) (E.cons (E.c (.str "-")) (E.cons (E.c (.str "*")) (E.cons (E.c (.str "/")) (E.cons (E.c (.str "<")) (E.cons (E.c (.str "=")) E.nil))))))) (E.fnA m__law_take (E.cons (E.var 0) (E.cons (E.c (.int 6)) E.nil))))) (S.seq (S.set 4 (E.fnA m__law_leaf (E.cons (E.var 0) E.nil))) (S.seq (S.ife (E.tand (E.test (E.op2 gGt (E.var 1) (E.c (.int 1)))) (E.test (E.op2 gEq (E.fnA m__law_take (E.cons (E.var 0) (E.cons (E.c (.int 3)) E.nil))) (E.c (.int 0))))) (S.set 4 (E.tup (E.cons (E.c (.str "-")) (E.cons (E.var 4) (E.cons (E.fnA m__law_leaf (E.cons (E.var 0) E.nil)) E.nil))))) S.nil) (S.ret (E.op2 gIx (E.lst (E.cons (E.tup (E.cons (E.var 3) (E.cons (E.var 2) (E.cons (E.var 4) E.nil)))) (E.cons (E.tup (E.cons (E.var 3) (E.cons (E.var 4) (E.cons (E.var 2) E.nil)))) E.nil))) (E.fnA m__law_take (E.cons (E.var 0) (E.cons (E.c (.int 2)) E.nil))))))))))
def m__law_grown : Nat → List D → M D
  | 0 => fun _ _ => .bad
  | n + 1 => mirOf 5 (b__law_grown (m__law_grown n))
abbrev b__law_spoilt (self_ : List D → M D) : SS → MS → O := (S.seq (S.ife (E.tand (E.test (E.fnA gIsi (E.cons (E.var 1) (E.cons (E.c (.ty .tuple)) E.nil)))) (E.tand (E.test (E.op2 gNe (E.var 1) (E.tup E.nil))) (E.test (E.op2 gGt (E.fnA m__law_take (E.cons (E.var 0) (E.cons (E.c (.int 4)) E.nil))) (E.c (.int 0)))))) (S.seq (S.set 2 (E.fnA m__law_take (E.cons (E.var 0) (E.cons (E.op1 gLen (E.var 1)) E.nil)))) (S.ret (E.op2 gAdd (E.op2 gAdd (E.sl (E.var 1) E.noPart (E.part (E.var 2))) (E.tup (E.cons (E.fnA self_ (E.cons (E.var 0) (E.cons (E.op2 gIx (E.var 1) (E.var 2)) E.nil))) E.nil))) (E.sl (E.var 1) (E.part (E.op2 gAdd (E.var 2) (E.c (.int 1)))) E.noPart)))) S.nil) (S.seq (S.set 3 (E.lst (E.cons (E.c .non) (E.cons (E.c (.bl true)) (E.cons (E.c (.bl false)) (E.cons (E.op1 gNeg (E.c (.int 1))) (E.cons (E.c (.int 997)) (E.cons (E.op2 gPow (E.c (.int 10)) (E.c (.int 39))) (E.cons (E.fnA m__law_any_name (E.cons (E.var 0) E.nil)) (E.cons (E.tup E.nil) (E.cons (E.lst E.nil) (E.cons (E.c0 (.dct [] [])) (E.cons (E.tup (E.cons (E.c (.str "at")) (E.cons (E.c (.int 8)) E.nil))) (E.cons (E.tup (E.cons (E.c (.str "at")) (E.cons (E.op1 gNeg (E.c (.int 1))) E.nil))) (E.cons (E.tup (E.cons (E.c (.str "at")) (E.cons (E.c (.bl true)) E.nil))) E.nil))))))))))))))) (S.seq (S.set 3 (E.op2 gAdd (E.var 3) (E.lst (E.cons (E.tup (E.cons (E.c (.str "at")) E.nil)) (E.cons (E.tup (E.cons (E.c (.str "at")) (E.cons (E.c (.int 0)) (E.cons (E.c (.int 1)) E.nil)))) (E.cons (E.lst (E.cons (E.c (.str "at")) (E.cons (E.c (.int 0)) E.nil))) (E.cons (E.tup (E.cons (E.c (.str "cell")) (E.cons (E.c (.int 0)) E.nil))) (E.cons (E.tup (E.cons (E.c (.str "slot")) (E.cons (E.c (.int 0)) E.nil))) (E.cons (E.tup (E.cons (E.c (.str "+")) (E.cons (E.c (.int 1)) E.nil))) (E.cons (E.tup (E.cons (E.c (.str "+")) (E.cons (E.c (.int 1)) (E.cons (E.c (.int 2)) (E.cons (E.c (.int 3)) E.nil))))) (E.cons (E.lst (E.cons (E.c (.str "+")) (E.cons (E.c (.int 1)) (E.cons (E.c (.int 2)) E.nil)))) E.nil))))))))))) (S.seq (S.set 3 (E.op2 gAdd (E.var 3) (E.lst (E.cons (E.tup (E.cons (E.c (.str "")) (E.cons (E.c (.int 1)) (E.cons (E.c (.int 2)) E.nil)))) (E.cons (E.tup (E.cons (E.c (.str "x")) (E.cons (E.c (.int 1)) (E.cons (E.c (.int 2)) E.nil)))) (E.cons (E.tup (E.cons (E.c (.str "**")) (E.cons (E.c (.int 1)) (E.cons (E.c (.int 2)) E.nil)))) (E.cons (E.tup (E.cons (E.c .non) (E.cons (E.c (.int 1)) (E.cons (E.c (.int 2)) E.nil)))) (E.cons (E.tup (E.cons (E.c (.str "+")) (E.cons (E.c (.str "x")) (E.cons (E.c (.int 2)) E.nil)))) (E.cons (E.tup (E.cons (E.c (.str "<")) (E.cons (E.c (.int 996)) (E.cons (E.c (.int 0)) E.nil)))) (E.cons (E.c (.str "at")) (E.cons (E.c (.int 0)) (E.cons (E.c (.int 996)) (E.cons (E.c (.int 1)) E.nil))))))))))))) (S.ret (E.op2 gIx (E.var 3) (E.fnA m__law_take (E.cons (E.var 0) (E.cons (E.c (.int 31)) E.nil)))))))))
def m__law_spoilt : Nat → List D → M D
  | 0 => fun _ _ => .bad
  | n + 1 => mirOf 4 (b__law_spoilt (m__law_spoilt n))
abbrev b_is_name : SS → MS → O := (S.seq (S.ife (E.tor (E.tnot (E.test (E.fnA gIsi (E.cons (E.var 0) (E.cons (E.c (.ty .str)) E.nil))))) (E.tnot (E.test (E.chain gLe gLe (E.c (.int 1)) (E.op1 gLen (E.var 0)) (E.c (.int 6)))))) (S.ret (E.c (.bl false))) S.nil) (S.ret (E.op1 gAll (E.lc [1] (E.its (E.var 0)) (g1 1) E.yes (E.op2 gIn (E.var 1) (E.c (.str "abcdefghijklmnopqrstuvwxyz")))))))
def m_is_name : List D → M D := mirOf 2 (b_is_name)
abbrev b_is_whole : SS → MS → O := (S.ret (E.vand (E.fnA gIsi (E.cons (E.var 0) (E.cons (E.c (.ty .int)) E.nil))) (E.vnot (E.fnA gIsi (E.cons (E.var 0) (E.cons (E.c (.ty .bool)) E.nil))))))
def m_is_whole : List D → M D := mirOf 1 (b_is_whole)
abbrev b_is_between : SS → MS → O := (S.ret (E.vand (E.fnA m_is_whole (E.cons (E.var 0) E.nil)) (E.chain gLe gLe (E.var 1) (E.var 0) (E.var 2))))
def m_is_between : List D → M D := mirOf 3 (b_is_between)
abbrev b_is_cell : SS → MS → O := (S.ret (E.fnA m_is_between (E.cons (E.var 0) (E.cons (E.c (.int 0)) (E.cons (E.op2 gSub (E.op1 gLen (E.c d_CELLS)) (E.c (.int 1))) E.nil)))))
def m_is_cell : List D → M D := mirOf 1 (b_is_cell)
abbrev b_is_at : SS → MS → O := (S.seq (S.ife (E.tor (E.tnot (E.test (E.fnA gIsi (E.cons (E.var 0) (E.cons (E.c (.ty .tuple)) E.nil))))) (E.tor (E.test (E.op2 gNe (E.op1 gLen (E.var 0)) (E.c (.int 2)))) (E.tnot (E.test (E.fnA gIsi (E.cons (E.op2 gIx (E.var 0) (E.c (.int 0))) (E.cons (E.c (.ty .str)) E.nil))))))) (S.ret (E.c (.bl false))) S.nil) (S.ret (E.vand (E.op2 gEq (E.op2 gIx (E.var 0) (E.c (.int 0))) (E.c (.str "at"))) (E.fnA m_is_cell (E.cons (E.op2 gIx (E.var 0) (E.c (.int 1))) E.nil)))))
def m_is_at : List D → M D := mirOf 1 (b_is_at)
abbrev b_is_worth : SS → MS → O := (S.ret (E.fnA m_is_between (E.cons (E.var 0) (E.cons (E.c (.int 0)) (E.cons (E.op2 gSub (E.c (.int 997)) (E.c (.int 1))) E.nil)))))
def m_is_worth : List D → M D := mirOf 1 (b_is_worth)
abbrev b_is_op : SS → MS → O := (S.ret (E.vand (E.fnA gIsi (E.cons (E.var 0) (E.cons (E.c (.ty .str)) E.nil))) (E.inK keys_OPS (E.var 0))))
def m_is_op : List D → M D := mirOf 1 (b_is_op)
abbrev b_is_term_with (a_is_name : Addr) (self_ : List D → M D) : SS → MS → O := (S.seq (S.ife (E.tor (E.test (E.fnA m_is_worth (E.cons (E.var 0) E.nil))) (E.tor (E.test (E.callL 1 a_is_name m_is_name (E.cons (E.var 0) E.nil))) (E.test (E.fnA m_is_at (E.cons (E.var 0) E.nil))))) (S.ret (E.c (.bl true))) S.nil) (S.seq (S.ife (E.tor (E.test (E.op2 gEq (E.var 2) (E.c (.int 0)))) (E.tor (E.tnot (E.test (E.fnA gIsi (E.cons (E.var 0) (E.cons (E.c (.ty .tuple)) E.nil))))) (E.tor (E.test (E.op2 gNe (E.op1 gLen (E.var 0)) (E.c (.int 3)))) (E.tnot (E.test (E.fnA m_is_op (E.cons (E.op2 gIx (E.var 0) (E.c (.int 0))) E.nil))))))) (S.ret (E.c (.bl false))) S.nil) (S.seq (S.asg (gT [(g1 3), (g1 4), (g1 5)]) (E.var 0)) (S.ret (E.vand (E.fnA self_ (E.cons (E.var 4) (E.cons (E.var 1) (E.cons (E.op2 gSub (E.var 2) (E.c (.int 1))) E.nil)))) (E.fnA self_ (E.cons (E.var 5) (E.cons (E.var 1) (E.cons (E.op2 gSub (E.var 2) (E.c (.int 1))) E.nil)))))))))
def m_is_term_with (a_is_name : Addr) : Nat → List D → M D
  | 0 => fun _ _ => .bad
  | n + 1 => mirOf 6 (b_is_term_with a_is_name (m_is_term_with a_is_name n))
abbrev b_is_term (a_is_name : Addr) : SS → MS → O := (S.ret (E.fnA (m_is_term_with a_is_name 7) (E.cons (E.var 0) (E.cons (E.c (.fn a_is_name)) (E.cons (E.c (.int 5)) E.nil)))))
def m_is_term (a_is_name : Addr) : List D → M D := mirOf 1 (b_is_term a_is_name)
abbrev b__law_within : SS → MS → O := (S.ret (E.vand (E.fnA gIsi (E.cons (E.var 0) (E.cons (E.c (.ty .int)) E.nil))) (E.vand (E.vnot (E.fnA gIsi (E.cons (E.var 0) (E.cons (E.c (.ty .bool)) E.nil)))) (E.chain gLe gLe (E.c (.int 0)) (E.var 0) (E.var 1)))))
def m__law_within : List D → M D := mirOf 2 (b__law_within)
abbrev b__law_name_due : SS → MS → O := (S.seq (S.ife (E.tor (E.tnot (E.test (E.fnA gIsi (E.cons (E.var 0) (E.cons (E.c (.ty .str)) E.nil))))) (E.tnot (E.test (E.chain gLe gLe (E.c (.int 1)) (E.op1 gLen (E.var 0)) (E.c (.int 6)))))) (S.ret (E.c (.bl false))) S.nil) (S.ret (E.op2 gEq (E.lc [1] (E.its (E.var 0)) (g1 1) (E.test (E.op2 gNotIn (E.var 1) (E.c (.str "abcdefghijklmnopqrstuvwxyz")))) (E.var 1)) (E.lst E.nil))))
def m__law_name_due : List D → M D := mirOf 2 (b__law_name_due)
abbrev b__law_term_due (self_ : List D → M D) : SS → MS → O := (S.seq (S.ife (E.tnot (E.test (E.fnA gIsi (E.cons (E.var 0) (E.cons (E.c (.ty .tuple)) E.nil))))) (S.ret (E.vor (E.fnA m__law_name_due (E.cons (E.var 0) E.nil)) (E.fnA m__law_within (E.cons (E.var 0) (E.cons (E.c (.int 996)) E.nil))))) S.nil) (S.seq (S.ife (E.test (E.op2 gEq (E.op1 gLen (E.var 0)) (E.c (.int 2)))) (S.ret (E.vand (E.fnA gIsi (E.cons (E.op2 gIx (E.var 0) (E.c (.int 0))) (E.cons (E.c (.ty .str)) E.nil))) (E.vand (E.op2 gEq (E.op2 gIx (E.var 0) (E.c (.int 0))) (E.c (.str "at"))) (E.fnA m__law_within (E.cons (E.op2 gIx (E.var 0) (E.c (.int 1))) (E.cons (E.c (.int 7)) E.nil)))))) S.nil) (S.seq (S.ife (E.tor (E.test (E.op2 gEq (E.var 1) (E.c (.int 0)))) (E.tor (E.test (E.op2 gNe (E.op1 gLen (E.var 0)) (E.c (.int 3)))) (E.tnot (E.test (E.fnA gIsi (E.cons (E.op2 gIx (E.var 0) (E.c (.int 0))) (E.cons (E.c (.ty .str)) E.nil))))))) (S.ret (E.c (.bl false))) S.nil) (S.seq (S.ife (E.test (E.op2 gNotIn (E.op2 gIx (E.var 0) (E.c (.int 0))) (E.lst (E.cons (E.c (.str "+")) (E.cons (E.c (.str "-")) (E.cons (E.c (.str "*")) (E.cons (E.c (.str "/")) (E.cons (E.c (.str "<")) (E.cons (E.c (.str "=")) E.nil))))))))) (S.ret (E.c (.bl false))) S.nil) (S.ret (E.vand (E.fnA self_ (E.cons (E.op2 gIx (E.var 0) (E.c (.int 1))) (E.cons (E.op2 gSub (E.var 1) (E.c (.int 1))) E.nil))) (E.fnA self_ (E.cons (E.op2 gIx (E.var 0) (E.c (.int 2))) (E.cons (E.op2 gSub (E.var 1) (E.c (.int 1))) E.nil)))))))))
def m__law_term_due : Nat → List D → M D
  | 0 => fun _ _ => .bad
  | n + 1 => mirOf 2 (b__law_term_due (m__law_term_due n))
abbrev b_law (a_is_name : Addr) : SS → MS → O := (S.seq (S.set 1 (E.fnA m__law_folded (E.cons (E.var 0) (E.cons (E.c (.int 12)) E.nil)))) (S.seq (S.for_ (E.itsA range1 (E.cons (E.fnA gMax (E.cons (E.c (.int 1)) (E.cons (E.op1 gLen (E.var 1)) E.nil))) E.nil)) (g1 2) (S.withPot 3 [0, 1, 2] m__law_pot (E.cons (E.var 1) (E.cons (E.var 2) E.nil)) (S.seq (S.set 4 (E.fnA (m__law_grown 8) (E.cons (E.var 3) (E.cons (E.fnA m__law_take (E.cons (E.var 3) (E.cons (E.c (.int 7)) E.nil))) E.nil)))) (S.seq (S.set 5 (E.fnA (m__law_spoilt 12) (E.cons (E.var 3) (E.cons (E.var 4) E.nil)))) (S.seq (S.set 6 (E.fnA m__law_any_name (E.cons (E.var 3) E.nil))) (S.for_ (E.its (E.lst (E.cons (E.var 4) (E.cons (E.var 5) (E.cons (E.fnA (m__law_spoilt 12) (E.cons (E.var 3) (E.cons (E.var 5) E.nil))) (E.cons (E.var 6) (E.cons (E.tup (E.cons (E.var 4) E.nil)) (E.cons (E.lst (E.cons (E.var 4) E.nil)) (E.cons (E.tup (E.cons (E.c (.str "at")) (E.cons (E.var 6) E.nil))) (E.cons (E.fnA (m__law_spoilt 12) (E.cons (E.var 3) (E.cons (E.c (.int 0)) E.nil))) E.nil)))))))))) (g1 7) (S.seq (S.par 8 9 (E.cons (E.fnA (m_is_term a_is_name) (E.cons (E.var 7) E.nil)) (E.cons (E.fnA m_is_name (E.cons (E.var 7) E.nil)) E.nil))) (S.seq (S.ife (E.tor (E.tnot (E.test (E.fnA gIsi (E.cons (E.var 8) (E.cons (E.c (.ty .bool)) E.nil))))) (E.test (E.op2 gNe (E.var 8) (E.fnA (m__law_term_due 7) (E.cons (E.var 7) (E.cons (E.c (.int 5)) E.nil)))))) (S.ret (E.c (.bl false))) S.nil) (S.ife (E.tor (E.tnot (E.test (E.fnA gIsi (E.cons (E.var 9) (E.cons (E.c (.ty .bool)) E.nil))))) (E.test (E.op2 gNe (E.var 9) (E.fnA m__law_name_due (E.cons (E.var 7) E.nil))))) (S.ret (E.c (.bl false))) S.nil))))))))) (S.ret (E.c (.bl true)))))
def m_law (a_is_name : Addr) : List D → M D := mirOf 10 (b_law a_is_name)
structure Tp (w : World) (K : PySem.W.Frag) (mg : Str → Option Value) : Prop where
  n_list : mg "list" = none
  n_len : mg "len" = none
  n_min : mg "min" = none
  n_range : mg "range" = none
  n_abs : mg "abs" = none
  n_int : mg "int" = none
  n_tuple : mg "tuple" = none
  n_isinstance : mg "isinstance" = none
  LONGEST : ∃ t, mg "LONGEST" = some (.int 6 t)
  n_str : mg "str" = none
  LETTERS : ∃ t, mg "LETTERS" = some (.str "abcdefghijklmnopqrstuvwxyz" t)
  n_all : mg "all" = none
  n_bool : mg "bool" = none
  CELLS : ∃ a, mg "CELLS" = some (.ref a) ∧ ∀ p F, Dt K p F (.ref a) d_CELLS
  WORTHS : ∃ t, mg "WORTHS" = some (.int 997 t)
  OPS : ∃ a, mg "OPS" = some (.ref a) ∧ KD K w a keys_OPS
  DEEP : ∃ t, mg "DEEP" = some (.int 5 t)
  n_max : mg "max" = none
  df__law_folded : Df K mg "_law_folded" s__law_folded ["_law_script", "_law_most"]
  df__law_pot : Df K mg "_law_pot" s__law_pot ["_law_script", "_law_k"]
  df__law_take : Df K mg "_law_take" s__law_take ["_law_pot_here", "_law_many"]
  df__law_letters : Df K mg "_law_letters" s__law_letters ["_law_pot_here", "_law_many"]
  df__law_any_name : Df K mg "_law_any_name" s__law_any_name ["_law_pot_here"]
  df__law_leaf : Df K mg "_law_leaf" s__law_leaf ["_law_pot_here"]
  df__law_grown : Df K mg "_law_grown" s__law_grown ["_law_pot_here", "_law_deep"]
  df__law_spoilt : Df K mg "_law_spoilt" s__law_spoilt ["_law_pot_here", "_law_thing"]
  df_is_name : Df K mg "is_name" s_is_name ["thing"]
  df_is_whole : Df K mg "is_whole" s_is_whole ["thing"]
  df_is_between : Df K mg "is_between" s_is_between ["thing", "least", "most"]
  df_is_cell : Df K mg "is_cell" s_is_cell ["thing"]
  df_is_at : Df K mg "is_at" s_is_at ["thing"]
  df_is_worth : Df K mg "is_worth" s_is_worth ["thing"]
  df_is_op : Df K mg "is_op" s_is_op ["thing"]
  df_is_term_with : Df K mg "is_term_with" s_is_term_with ["thing", "is_place", "deep"]
  df_is_term : Df K mg "is_term" s_is_term ["thing"]
  df__law_within : Df K mg "_law_within" s__law_within ["_law_thing", "_law_most"]
  df__law_name_due : Df K mg "_law_name_due" s__law_name_due ["_law_thing"]
  df__law_term_due : Df K mg "_law_term_due" s__law_term_due ["_law_thing", "_law_deep"]
  df_law : Df K mg "law" s_law ["_law_script"]
end K01

set_option Elab.async false
set_option linter.all false
set_option maxRecDepth 100000
set_option maxHeartbeats 4000000
namespace K01
open PySem L2 PyProof.Rows Q
section
variable {P : Program} {w : World} {K : PySem.W.Frag} {mg : Str → Option Value} {base : Heap}
theorem fn__law_folded (T : Tp w K mg) : Fn P w K mg base "_law_folded" 1 ["_law_script", "_law_most"] m__law_folded := by
  exact Fn.of (k := 0) T.df__law_folded sc__law_folded fun f cdv A outer s H E hr W tk => (jss_cons (js_own (i := 2) (jn_list T.n_list (JE.jb (je_sl (JE.jb (je_var (pv 0))) jo_none (jo_some (je_var (pv 1)))))) sc__law_folded.nd) (jss_cons (js_for (passes_of rfl) (ji_range2 (by rfl) T.n_range (ja_cons (je_var (pv 1)) (ja_cons (je_bn (ok_min rfl) T.n_min (ja_cons je_int (ja_cons (je_b1 ok_len T.n_len (JE.jb (je_var (pv 0)))) ja_nil))) ja_nil))) (jg_name (i := 3) sc__law_folded.nd) (jss_one (js_setIx (i := 2) (pv 2) (je_bin ok_mod (JE.jb (je_var (pv 3))) (JE.jb (je_var (pv 1)))) (je_bin ok_add (JE.jb (je_bin ok_mul (JE.jb (je_ix (jb_var (pv 2)) (JE.jb (je_bin ok_mod (JE.jb (je_var (pv 3))) (JE.jb (je_var (pv 1))))))) (JE.jb je_int))) (JE.jb (je_ix (JE.jb (je_var (pv 0))) (JE.jb (je_var (pv 3))))))))) (jss_one (js_retO (pv 2)))))
theorem fn__law_pot (T : Tp w K mg) : FnN P w K mg base "_law_pot" 1 ["_law_script", "_law_k"] m__law_pot := by
  exact FnN.of (k := 0) T.df__law_pot sc__law_pot fun f cdv A outer s H E hr W tk => (jsn_cons (js_set (i := 2) je_int sc__law_pot.nd) (jsn_cons (js_if (jt_cmp ok_lt (JE.jb (je_var (pv 1))) (JE.jb (je_b1 ok_len T.n_len (JE.jb (je_var (pv 0)))))) (jss_one (js_set (i := 2) (je_bin ok_mod (JE.jb (je_b1 ok_abs T.n_abs (JE.jb (je_ix (JE.jb (je_var (pv 0))) (JE.jb (je_var (pv 1))))))) (JE.jb (je_bin ok_pow (JE.jb (je_bin ok_pow (JE.jb je_int) (JE.jb je_int))) (JE.jb je_int)))) sc__law_pot.nd)) jss_nil) (jsn_cons (js_set (i := 3) (je_bin ok_mod (JE.jb (je_bin ok_pow (JE.jb (je_bin ok_add (JE.jb (je_bin ok_add (JE.jb (je_bin ok_mod (JE.jb (je_var (pv 2))) (JE.jb je_int))) (JE.jb (je_bin ok_mul (JE.jb je_int) (JE.jb (je_var (pv 1))))))) (JE.jb je_int))) (JE.jb je_int))) (JE.jb je_int)) sc__law_pot.nd) (jsn_ret (jn_lst (ja_cons (je_bin ok_mul (JE.jb (je_var (pv 2))) (JE.jb (je_t1 ok_int T.n_int (JE.jb (je_cmp ok_ge (JE.jb (je_var (pv 2))) (JE.jb (je_bin ok_pow (JE.jb je_int) (JE.jb je_int)))))))) (ja_cons (je_var (pv 3)) (ja_cons je_int ja_nil))))) nort_set) (nort_ife nort_set nort_nil)) nort_set)
theorem fn__law_take (T : Tp w K mg) : Fn P w K mg base "_law_take" 1 ["_law_pot_here", "_law_many"] m__law_take := by
  exact Fn.of (k := 0) T.df__law_take sc__law_take fun f cdv A outer s H E hr W tk => (jss_cons (js_if (jt_cmp ok_gt (JE.jb (je_ix (JE.jb (je_var (pv 0))) (JE.jb je_int))) (JE.jb je_int)) (jss_cons (js_set (i := 2) (je_bin ok_mod (JE.jb (je_ix (JE.jb (je_var (pv 0))) (JE.jb je_int))) (JE.jb (je_var (pv 1)))) sc__law_take.nd) (jss_cons (js_setIx (i := 0) (pv 0) je_int (je_bin ok_div (JE.jb (je_ix (JE.jb (je_var (pv 0))) (JE.jb je_int))) (JE.jb (je_var (pv 1))))) (jss_one (js_ret (je_var (pv 2)))))) jss_nil) (jss_cons (js_setIx (i := 0) (pv 0) je_int (je_bin ok_add (JE.jb (je_ix (JE.jb (je_var (pv 0))) (JE.jb je_int))) (JE.jb je_int))) (jss_cons (js_set (i := 3) (je_bin ok_mod (JE.jb (je_bin ok_pow (JE.jb (je_bin ok_add (JE.jb (je_ix (JE.jb (je_var (pv 0))) (JE.jb je_int))) (JE.jb (je_bin ok_mul (JE.jb je_int) (JE.jb (je_ix (JE.jb (je_var (pv 0))) (JE.jb je_int))))))) (JE.jb je_int))) (JE.jb je_int)) sc__law_take.nd) (jss_cons (js_set (i := 4) (je_bin ok_mod (JE.jb (je_bin ok_pow (JE.jb (je_bin ok_add (JE.jb (je_bin ok_add (JE.jb (je_var (pv 3))) (JE.jb (je_bin ok_mod (JE.jb (je_ix (JE.jb (je_var (pv 0))) (JE.jb je_int))) (JE.jb je_int))))) (JE.jb (je_bin ok_mul (JE.jb je_int) (JE.jb (je_ix (JE.jb (je_var (pv 0))) (JE.jb je_int))))))) (JE.jb je_int))) (JE.jb je_int)) sc__law_take.nd) (jss_one (js_ret (je_bin ok_mod (JE.jb (je_bin ok_div (JE.jb (je_var (pv 4))) (JE.jb je_int))) (JE.jb (je_var (pv 1))))))))))
theorem fn__law_letters (T : Tp w K mg) (G__law_take : Fn P w K mg base "_law_take" 1 ["_law_pot_here", "_law_many"] m__law_take) : Fn P w K mg base "_law_letters" 2 ["_law_pot_here", "_law_many"] m__law_letters := by
  exact Fn.of (k := 1) T.df__law_letters sc__law_letters fun f cdv A outer s H E hr W tk => (jss_one (js_ret (je_join (JE.jb (JN.je (jn_lc (own := [("_law_at", 2)]) sc__law_letters.nd (ji_range1 (by rfl) T.n_range (ja_cons (je_var (pv 1)) ja_nil)) (blkOk_by (own := [("_law_at", 2)]) (N := N__law_letters) (sc := defScope s__law_letters) (by decide +kernel)) (fun _ _ _ _ _ => (jg_name (i := 2) sc__law_letters.nd)) (fun _ _ _ _ _ => jts_nil) (fun _ _ _ _ _ => (je_ix (JE.jb je_str) (JE.jb (je_callF G__law_take takes0 (hr.mono (by omega)) (ja_cons (je_var (pv 0)) (ja_cons je_int ja_nil)) (lenC (lenC lenN)))))) (by decide)))))))
theorem fn__law_any_name (T : Tp w K mg) (G__law_take : Fn P w K mg base "_law_take" 1 ["_law_pot_here", "_law_many"] m__law_take) (G__law_letters : Fn P w K mg base "_law_letters" 2 ["_law_pot_here", "_law_many"] m__law_letters) : Fn P w K mg base "_law_any_name" 3 ["_law_pot_here"] m__law_any_name := by
  exact Fn.of (k := 2) T.df__law_any_name sc__law_any_name fun f cdv A outer s H E hr W tk => (jss_cons (js_set (i := 1) (je_ix (JE.jb (JN.je (jn_lst (ja_cons (je_bin ok_add (JE.jb je_int) (JE.jb (je_callF G__law_take tk (hr.mono (by omega)) (ja_cons (je_var (pv 0)) (ja_cons je_int ja_nil)) (lenC (lenC lenN))))) (ja_cons je_int (ja_cons je_int (ja_cons je_int ja_nil))))))) (JE.jb (je_callF G__law_take tk (hr.mono (by omega)) (ja_cons (je_var (pv 0)) (ja_cons je_int ja_nil)) (lenC (lenC lenN))))) sc__law_any_name.nd) (jss_cons (js_set (i := 2) (je_callF G__law_letters tk (hr.mono (by omega)) (ja_cons (je_var (pv 0)) (ja_cons (je_var (pv 1)) ja_nil)) (lenC (lenC lenN))) sc__law_any_name.nd) (jss_cons (js_set (i := 3) (je_callF G__law_take tk (hr.mono (by omega)) (ja_cons (je_var (pv 0)) (ja_cons je_int ja_nil)) (lenC (lenC lenN))) sc__law_any_name.nd) (jss_cons (js_set (i := 4) (je_callF G__law_take tk (hr.mono (by omega)) (ja_cons (je_var (pv 0)) (ja_cons (je_var (pv 1)) ja_nil)) (lenC (lenC lenN))) sc__law_any_name.nd) (jss_cons (js_set (i := 5) (je_ix (JE.jb (JN.je (jn_lst (ja_cons je_str (ja_cons je_str (ja_cons je_str (ja_cons je_str (ja_cons je_str (ja_cons je_str (ja_cons je_str (ja_cons je_str ja_nil))))))))))) (JE.jb (je_callF G__law_take tk (hr.mono (by omega)) (ja_cons (je_var (pv 0)) (ja_cons je_int ja_nil)) (lenC (lenC lenN))))) sc__law_any_name.nd) (jss_one (js_ret (je_ix (JE.jb (JN.je (jn_lst (ja_cons je_str (ja_cons (je_bin ok_add (JE.jb (je_bin ok_add (JE.jb (je_sl (JE.jb (je_var (pv 2))) jo_none (jo_some (je_var (pv 4))))) (JE.jb (je_var (pv 5))))) (JE.jb (je_sl (JE.jb (je_var (pv 2))) (jo_some (je_bin ok_add (JE.jb (je_var (pv 4))) (JE.jb je_int))) jo_none))) (ja_cons (je_var (pv 2)) ja_nil)))))) (JE.jb (je_bn (ok_min rfl) T.n_min (ja_cons (je_var (pv 3)) (ja_cons je_int ja_nil))))))))))))
theorem fn__law_leaf (T : Tp w K mg) (G__law_take : Fn P w K mg base "_law_take" 1 ["_law_pot_here", "_law_many"] m__law_take) (G__law_letters : Fn P w K mg base "_law_letters" 2 ["_law_pot_here", "_law_many"] m__law_letters) (G__law_any_name : Fn P w K mg base "_law_any_name" 3 ["_law_pot_here"] m__law_any_name) : Fn P w K mg base "_law_leaf" 4 ["_law_pot_here"] m__law_leaf := by
  exact Fn.of (k := 3) T.df__law_leaf sc__law_leaf fun f cdv A outer s H E hr W tk => (jss_cons (js_set (i := 1) (je_callF G__law_take tk (hr.mono (by omega)) (ja_cons (je_var (pv 0)) (ja_cons je_int ja_nil)) (lenC (lenC lenN))) sc__law_leaf.nd) (jss_cons (js_if (jt_cmp ok_lt (JE.jb (je_var (pv 1))) (JE.jb je_int)) (jss_one (js_ret (je_callF G__law_letters tk (hr.mono (by omega)) (ja_cons (je_var (pv 0)) (ja_cons (je_bin ok_add (JE.jb je_int) (JE.jb (je_callF G__law_take tk (hr.mono (by omega)) (ja_cons (je_var (pv 0)) (ja_cons je_int ja_nil)) (lenC (lenC lenN))))) ja_nil)) (lenC (lenC lenN))))) jss_nil) (jss_cons (js_if (jt_cmp ok_lt (JE.jb (je_var (pv 1))) (JE.jb je_int)) (jss_one (js_ret (je_ix (JE.jb (JN.je (jn_lst (ja_cons je_int (ja_cons je_int (ja_cons (je_callF G__law_take tk (hr.mono (by omega)) (ja_cons (je_var (pv 0)) (ja_cons je_int ja_nil)) (lenC (lenC lenN))) (ja_cons je_int ja_nil))))))) (JE.jb (je_bin ok_sub (JE.jb (je_var (pv 1))) (JE.jb je_int)))))) jss_nil) (jss_cons (js_if (jt_cmp ok_lt (JE.jb (je_var (pv 1))) (JE.jb je_int)) (jss_one (js_ret (je_tup (ja_cons je_str (ja_cons (je_callF G__law_take tk (hr.mono (by omega)) (ja_cons (je_var (pv 0)) (ja_cons je_int ja_nil)) (lenC (lenC lenN))) ja_nil))))) jss_nil) (jss_one (js_ret (je_ix (JE.jb (JN.je (jn_lst (ja_cons je_int (ja_cons (je_neg (JE.jb je_int)) (ja_cons je_bl (ja_cons (je_callF G__law_any_name tk (hr.mono (by omega)) (ja_cons (je_var (pv 0)) ja_nil) (lenC lenN)) (ja_cons (je_tup (ja_cons je_str (ja_cons je_int ja_nil))) (ja_cons (je_bin ok_pow (JE.jb je_int) (JE.jb je_int)) ja_nil))))))))) (JE.jb (je_callF G__law_take tk (hr.mono (by omega)) (ja_cons (je_var (pv 0)) (ja_cons je_int ja_nil)) (lenC (lenC lenN)))))))))))
theorem fn__law_grown (T : Tp w K mg) (G__law_leaf : Fn P w K mg base "_law_leaf" 4 ["_law_pot_here"] m__law_leaf) (G__law_take : Fn P w K mg base "_law_take" 1 ["_law_pot_here", "_law_many"] m__law_take) : ∀ n : Nat, Fn P w K mg base "_law_grown" (4 + n) ["_law_pot_here", "_law_deep"] (m__law_grown n)
  | 0 => Fn.bad T.df__law_grown
  | n + 1 => by
    have G_self := fn__law_grown T G__law_leaf G__law_take n
    exact Fn.of (k := 4 + n) T.df__law_grown sc__law_grown fun f cdv A outer s H E hr W tk => (jss_cons (js_if (jt_cmp (ok_eq hr.units) (JE.jb (je_var (pv 1))) (JE.jb je_int)) (jss_one (js_ret (je_callF G__law_leaf tk (hr.mono (by omega)) (ja_cons (je_var (pv 0)) ja_nil) (lenC lenN)))) jss_nil) (jss_cons (js_set (i := 2) (je_callF G_self tk (hr.mono (by omega)) (ja_cons (je_var (pv 0)) (ja_cons (je_bin ok_sub (JE.jb (je_var (pv 1))) (JE.jb je_int)) ja_nil)) (lenC (lenC lenN))) sc__law_grown.nd) (jss_cons (js_set (i := 3) (je_ix (JE.jb (JN.je (jn_lst (ja_cons je_str (ja_cons je_str (ja_cons je_str (ja_cons je_str (ja_cons je_str (ja_cons je_str ja_nil))))))))) (JE.jb (je_callF G__law_take tk (hr.mono (by omega)) (ja_cons (je_var (pv 0)) (ja_cons je_int ja_nil)) (lenC (lenC lenN))))) sc__law_grown.nd) (jss_cons (js_set (i := 4) (je_callF G__law_leaf tk (hr.mono (by omega)) (ja_cons (je_var (pv 0)) ja_nil) (lenC lenN)) sc__law_grown.nd) (jss_cons (js_if (JW.jt (jw_and (jt_cmp ok_gt (JE.jb (je_var (pv 1))) (JE.jb je_int)) (jw_and1 (jt_cmp (ok_eq hr.units) (JE.jb (je_callF G__law_take tk (hr.mono (by omega)) (ja_cons (je_var (pv 0)) (ja_cons je_int ja_nil)) (lenC (lenC lenN)))) (JE.jb je_int))))) (jss_one (js_set (i := 4) (je_tup (ja_cons je_str (ja_cons (je_var (pv 4)) (ja_cons (je_callF G__law_leaf tk (hr.mono (by omega)) (ja_cons (je_var (pv 0)) ja_nil) (lenC lenN)) ja_nil)))) sc__law_grown.nd)) jss_nil) (jss_one (js_ret (je_ix (JE.jb (JN.je (jn_lst (ja_cons (je_tup (ja_cons (je_var (pv 3)) (ja_cons (je_var (pv 2)) (ja_cons (je_var (pv 4)) ja_nil)))) (ja_cons (je_tup (ja_cons (je_var (pv 3)) (ja_cons (je_var (pv 4)) (ja_cons (je_var (pv 2)) ja_nil)))) ja_nil))))) (JE.jb (je_callF G__law_take tk (hr.mono (by omega)) (ja_cons (je_var (pv 0)) (ja_cons je_int ja_nil)) (lenC (lenC lenN))))))))))))
theorem fn__law_spoilt (T : Tp w K mg) (G__law_take : Fn P w K mg base "_law_take" 1 ["_law_pot_here", "_law_many"] m__law_take) (G__law_any_name : Fn P w K mg base "_law_any_name" 3 ["_law_pot_here"] m__law_any_name) : ∀ n : Nat, Fn P w K mg base "_law_spoilt" (3 + n) ["_law_pot_here", "_law_thing"] (m__law_spoilt n)
  | 0 => Fn.bad T.df__law_spoilt
  | n + 1 => by
    have G_self := fn__law_spoilt T G__law_take G__law_any_name n
    exact Fn.of (k := 3 + n) T.df__law_spoilt sc__law_spoilt fun f cdv A outer s H E hr W tk => (jss_cons (js_if (JW.jt (jw_and (jt_val (je_bn ok_isi T.n_isinstance (ja_cons (je_var (pv 1)) (ja_cons (je_ty .tuple T.n_tuple) ja_nil)))) (jw_and (jt_cmp (ok_ne hr.units) (JE.jb (je_var (pv 1))) (JE.jb (je_tup ja_nil))) (jw_and1 (jt_cmp ok_gt (JE.jb (je_callF G__law_take tk (hr.mono (by omega)) (ja_cons (je_var (pv 0)) (ja_cons je_int ja_nil)) (lenC (lenC lenN)))) (JE.jb je_int)))))) (jss_cons (js_set (i := 2) (je_callF G__law_take tk (hr.mono (by omega)) (ja_cons (je_var (pv 0)) (ja_cons (je_b1 ok_len T.n_len (JE.jb (je_var (pv 1)))) ja_nil)) (lenC (lenC lenN))) sc__law_spoilt.nd) (jss_one (js_ret (je_bin ok_add (JE.jb (je_bin ok_add (JE.jb (je_sl (JE.jb (je_var (pv 1))) jo_none (jo_some (je_var (pv 2))))) (JE.jb (je_tup (ja_cons (je_callF G_self tk (hr.mono (by omega)) (ja_cons (je_var (pv 0)) (ja_cons (je_ix (JE.jb (je_var (pv 1))) (JE.jb (je_var (pv 2)))) ja_nil)) (lenC (lenC lenN))) ja_nil))))) (JE.jb (je_sl (JE.jb (je_var (pv 1))) (jo_some (je_bin ok_add (JE.jb (je_var (pv 2))) (JE.jb je_int))) jo_none)))))) jss_nil) (jss_cons (js_set (i := 3) (JN.je (jn_lst (ja_cons je_non (ja_cons je_bl (ja_cons je_bl (ja_cons (je_neg (JE.jb je_int)) (ja_cons je_int (ja_cons (je_bin ok_pow (JE.jb je_int) (JE.jb je_int)) (ja_cons (je_callF G__law_any_name tk (hr.mono (by omega)) (ja_cons (je_var (pv 0)) ja_nil) (lenC lenN)) (ja_cons (je_tup ja_nil) (ja_cons (JN.je (jn_lst ja_nil)) (ja_cons je_dnew (ja_cons (je_tup (ja_cons je_str (ja_cons je_int ja_nil))) (ja_cons (je_tup (ja_cons je_str (ja_cons (je_neg (JE.jb je_int)) ja_nil))) (ja_cons (je_tup (ja_cons je_str (ja_cons je_bl ja_nil))) ja_nil))))))))))))))) sc__law_spoilt.nd) (jss_cons (js_set (i := 3) (je_bin ok_add (JE.jb (je_var (pv 3))) (JE.jb (JN.je (jn_lst (ja_cons (je_tup (ja_cons je_str ja_nil)) (ja_cons (je_tup (ja_cons je_str (ja_cons je_int (ja_cons je_int ja_nil)))) (ja_cons (JN.je (jn_lst (ja_cons je_str (ja_cons je_int ja_nil)))) (ja_cons (je_tup (ja_cons je_str (ja_cons je_int ja_nil))) (ja_cons (je_tup (ja_cons je_str (ja_cons je_int ja_nil))) (ja_cons (je_tup (ja_cons je_str (ja_cons je_int ja_nil))) (ja_cons (je_tup (ja_cons je_str (ja_cons je_int (ja_cons je_int (ja_cons je_int ja_nil))))) (ja_cons (JN.je (jn_lst (ja_cons je_str (ja_cons je_int (ja_cons je_int ja_nil))))) ja_nil)))))))))))) sc__law_spoilt.nd) (jss_cons (js_set (i := 3) (je_bin ok_add (JE.jb (je_var (pv 3))) (JE.jb (JN.je (jn_lst (ja_cons (je_tup (ja_cons je_str (ja_cons je_int (ja_cons je_int ja_nil)))) (ja_cons (je_tup (ja_cons je_str (ja_cons je_int (ja_cons je_int ja_nil)))) (ja_cons (je_tup (ja_cons je_str (ja_cons je_int (ja_cons je_int ja_nil)))) (ja_cons (je_tup (ja_cons je_non (ja_cons je_int (ja_cons je_int ja_nil)))) (ja_cons (je_tup (ja_cons je_str (ja_cons je_str (ja_cons je_int ja_nil)))) (ja_cons (je_tup (ja_cons je_str (ja_cons je_int (ja_cons je_int ja_nil)))) (ja_cons je_str (ja_cons je_int (ja_cons je_int (ja_cons je_int ja_nil)))))))))))))) sc__law_spoilt.nd) (jss_one (js_ret (je_ix (JE.jb (je_var (pv 3))) (JE.jb (je_callF G__law_take tk (hr.mono (by omega)) (ja_cons (je_var (pv 0)) (ja_cons je_int ja_nil)) (lenC (lenC lenN)))))))))))
theorem fn_is_name (T : Tp w K mg) : Fn P w K mg base "is_name" 1 ["thing"] m_is_name := by
  obtain ⟨t_LONGEST, g_LONGEST⟩ := T.LONGEST
  obtain ⟨t_LETTERS, g_LETTERS⟩ := T.LETTERS
  exact Fn.of (k := 0) T.df_is_name sc_is_name fun f cdv A outer s H E hr W tk => (jss_cons (js_if (JW.jt (jw_or (jt_not (jt_val (je_bn ok_isi T.n_isinstance (ja_cons (je_var (pv 0)) (ja_cons (je_ty .str T.n_str) ja_nil))))) (jw_or1 (jt_not (jt_chain ok_le ok_le (JE.jb je_int) (JE.jb (je_b1 ok_len T.n_len (JE.jb (je_var (pv 0))))) (JE.jb (je_gInt g_LONGEST))))))) (jss_one (js_ret je_bl)) jss_nil) (jss_one (js_ret (je_b1 (ok_all rfl) T.n_all (JE.jb (JN.je (jn_lc (own := [("sign", 1)]) sc_is_name.nd (ji_items (je_var (pv 0))) (blkOk_by (own := [("sign", 1)]) (N := N_is_name) (sc := defScope s_is_name) (by decide +kernel)) (fun _ _ _ _ _ => (jg_name (i := 1) sc_is_name.nd)) (fun _ _ _ _ _ => jts_nil) (fun _ _ _ _ _ => (je_cmp ok_in (JE.jb (je_var (pv 1))) (JE.jb (je_gStr g_LETTERS)))) (by decide))))))))
theorem fn_is_whole (T : Tp w K mg) : Fn P w K mg base "is_whole" 1 ["thing"] m_is_whole := by
  exact Fn.of (k := 0) T.df_is_whole sc_is_whole fun f cdv A outer s H E hr W tk => (jss_one (js_ret (je_and (je_bn ok_isi T.n_isinstance (ja_cons (je_var (pv 0)) (ja_cons (je_ty .int T.n_int) ja_nil))) (je_one (je_not (je_bn ok_isi T.n_isinstance (ja_cons (je_var (pv 0)) (ja_cons (je_ty .bool T.n_bool) ja_nil))))))))
theorem fn_is_between (T : Tp w K mg) (G_is_whole : Fn P w K mg base "is_whole" 1 ["thing"] m_is_whole) : Fn P w K mg base "is_between" 2 ["thing", "least", "most"] m_is_between := by
  exact Fn.of (k := 1) T.df_is_between sc_is_between fun f cdv A outer s H E hr W tk => (jss_one (js_ret (je_and (je_callF G_is_whole tk (hr.mono (by omega)) (ja_cons (je_var (pv 0)) ja_nil) (lenC lenN)) (je_one (je_chain ok_le ok_le (JE.jb (je_var (pv 1))) (JE.jb (je_var (pv 0))) (JE.jb (je_var (pv 2))))))))
theorem fn_is_cell (T : Tp w K mg) (G_is_between : Fn P w K mg base "is_between" 2 ["thing", "least", "most"] m_is_between) : Fn P w K mg base "is_cell" 3 ["thing"] m_is_cell := by
  obtain ⟨c_CELLS, g_CELLS, k_CELLS⟩ := T.CELLS
  exact Fn.of (k := 2) T.df_is_cell sc_is_cell fun f cdv A outer s H E hr W tk => (jss_one (js_ret (je_callF G_is_between tk (hr.mono (by omega)) (ja_cons (je_var (pv 0)) (ja_cons je_int (ja_cons (je_bin ok_sub (JE.jb (je_b1 ok_len T.n_len (JE.jb (je_gRef g_CELLS k_CELLS)))) (JE.jb je_int)) ja_nil))) (lenC (lenC (lenC lenN))))))
theorem fn_is_at (T : Tp w K mg) (G_is_cell : Fn P w K mg base "is_cell" 3 ["thing"] m_is_cell) : Fn P w K mg base "is_at" 4 ["thing"] m_is_at := by
  exact Fn.of (k := 3) T.df_is_at sc_is_at fun f cdv A outer s H E hr W tk => (jss_cons (js_if (JW.jt (jw_or (jt_not (jt_val (je_bn ok_isi T.n_isinstance (ja_cons (je_var (pv 0)) (ja_cons (je_ty .tuple T.n_tuple) ja_nil))))) (jw_or (jt_cmp (ok_ne hr.units) (JE.jb (je_b1 ok_len T.n_len (JE.jb (je_var (pv 0))))) (JE.jb je_int)) (jw_or1 (jt_not (jt_val (je_bn ok_isi T.n_isinstance (ja_cons (je_ix (JE.jb (je_var (pv 0))) (JE.jb je_int)) (ja_cons (je_ty .str T.n_str) ja_nil))))))))) (jss_one (js_ret je_bl)) jss_nil) (jss_one (js_ret (je_and (je_cmp (ok_eq hr.units) (JE.jb (je_ix (JE.jb (je_var (pv 0))) (JE.jb je_int))) (JE.jb je_str)) (je_one (je_callF G_is_cell tk (hr.mono (by omega)) (ja_cons (je_ix (JE.jb (je_var (pv 0))) (JE.jb je_int)) ja_nil) (lenC lenN)))))))
theorem fn_is_worth (T : Tp w K mg) (G_is_between : Fn P w K mg base "is_between" 2 ["thing", "least", "most"] m_is_between) : Fn P w K mg base "is_worth" 3 ["thing"] m_is_worth := by
  obtain ⟨t_WORTHS, g_WORTHS⟩ := T.WORTHS
  exact Fn.of (k := 2) T.df_is_worth sc_is_worth fun f cdv A outer s H E hr W tk => (jss_one (js_ret (je_callF G_is_between tk (hr.mono (by omega)) (ja_cons (je_var (pv 0)) (ja_cons je_int (ja_cons (je_bin ok_sub (JE.jb (je_gInt g_WORTHS)) (JE.jb je_int)) ja_nil))) (lenC (lenC (lenC lenN))))))
theorem fn_is_op (T : Tp w K mg) : Fn P w K mg base "is_op" 1 ["thing"] m_is_op := by
  obtain ⟨c_OPS, g_OPS, k_OPS⟩ := T.OPS
  exact Fn.of (k := 0) T.df_is_op sc_is_op fun f cdv A outer s H E hr W tk => (jss_one (js_ret (je_and (je_bn ok_isi T.n_isinstance (ja_cons (je_var (pv 0)) (ja_cons (je_ty .str T.n_str) ja_nil))) (je_one (je_inK k_OPS g_OPS (je_var (pv 0)))))))
theorem fn_is_term_with (a_is_name : Addr) (h_is_name : mg "is_name" = some (.ref a_is_name)) (T : Tp w K mg) (G_is_at : Fn P w K mg base "is_at" 4 ["thing"] m_is_at) (G_is_name : Fn P w K mg base "is_name" 1 ["thing"] m_is_name) (G_is_worth : Fn P w K mg base "is_worth" 3 ["thing"] m_is_worth) (G_is_op : Fn P w K mg base "is_op" 1 ["thing"] m_is_op) : ∀ n : Nat, Fn P w K mg base "is_term_with" (4 + n) ["thing", "is_place", "deep"] (m_is_term_with a_is_name n)
  | 0 => Fn.bad T.df_is_term_with
  | n + 1 => by
    have G_self := fn_is_term_with a_is_name h_is_name T G_is_at G_is_name G_is_worth G_is_op n
    exact Fn.of (k := 4 + n) T.df_is_term_with sc_is_term_with fun f cdv A outer s H E hr W tk => (jss_cons (js_if (JW.jt (jw_or (jt_val (je_callF G_is_worth tk (hr.mono (by omega)) (ja_cons (je_var (pv 0)) ja_nil) (lenC lenN))) (jw_or (jt_val (je_callFL (i := 1) G_is_name a_is_name h_is_name tk (hr.mono (by omega)) (ja_cons (je_var (pv 0)) ja_nil) (lenC lenN))) (jw_or1 (jt_val (je_callF G_is_at tk (hr.mono (by omega)) (ja_cons (je_var (pv 0)) ja_nil) (lenC lenN))))))) (jss_one (js_ret je_bl)) jss_nil) (jss_cons (js_if (JW.jt (jw_or (jt_cmp (ok_eq hr.units) (JE.jb (je_var (pv 2))) (JE.jb je_int)) (jw_or (jt_not (jt_val (je_bn ok_isi T.n_isinstance (ja_cons (je_var (pv 0)) (ja_cons (je_ty .tuple T.n_tuple) ja_nil))))) (jw_or (jt_cmp (ok_ne hr.units) (JE.jb (je_b1 ok_len T.n_len (JE.jb (je_var (pv 0))))) (JE.jb je_int)) (jw_or1 (jt_not (jt_val (je_callF G_is_op tk (hr.mono (by omega)) (ja_cons (je_ix (JE.jb (je_var (pv 0))) (JE.jb je_int)) ja_nil) (lenC lenN))))))))) (jss_one (js_ret je_bl)) jss_nil) (jss_cons (js_asg (je_var (pv 0)) (jg_tup (jgs_cons (jg_name (i := 3) sc_is_term_with.nd) (jgs_cons (jg_name (i := 4) sc_is_term_with.nd) (jgs_cons (jg_name (i := 5) sc_is_term_with.nd) jgs_nil))))) (jss_one (js_ret (je_and (je_callF G_self tk (hr.mono (by omega)) (ja_cons (je_var (pv 4)) (ja_cons (je_var (pv 1)) (ja_cons (je_bin ok_sub (JE.jb (je_var (pv 2))) (JE.jb je_int)) ja_nil))) (lenC (lenC (lenC lenN)))) (je_one (je_callF G_self tk (hr.mono (by omega)) (ja_cons (je_var (pv 5)) (ja_cons (je_var (pv 1)) (ja_cons (je_bin ok_sub (JE.jb (je_var (pv 2))) (JE.jb je_int)) ja_nil))) (lenC (lenC (lenC lenN)))))))))))
theorem fn_is_term (a_is_name : Addr) (h_is_name : mg "is_name" = some (.ref a_is_name)) (T : Tp w K mg) (G_is_term_with : Fn P w K mg base "is_term_with" 11 ["thing", "is_place", "deep"] (m_is_term_with a_is_name 7)) : Fn P w K mg base "is_term" 12 ["thing"] (m_is_term a_is_name) := by
  obtain ⟨t_DEEP, g_DEEP⟩ := T.DEEP
  exact Fn.of (k := 11) T.df_is_term sc_is_term fun f cdv A outer s H E hr W tk => (jss_one (js_ret (je_callF G_is_term_with tk (hr.mono (by omega)) (ja_cons (je_var (pv 0)) (ja_cons (je_fn h_is_name) (ja_cons (je_gInt g_DEEP) ja_nil))) (lenC (lenC (lenC lenN))))))
theorem fn__law_within (T : Tp w K mg) : Fn P w K mg base "_law_within" 1 ["_law_thing", "_law_most"] m__law_within := by
  exact Fn.of (k := 0) T.df__law_within sc__law_within fun f cdv A outer s H E hr W tk => (jss_one (js_ret (je_and (je_bn ok_isi T.n_isinstance (ja_cons (je_var (pv 0)) (ja_cons (je_ty .int T.n_int) ja_nil))) (je_and (je_not (je_bn ok_isi T.n_isinstance (ja_cons (je_var (pv 0)) (ja_cons (je_ty .bool T.n_bool) ja_nil)))) (je_one (je_chain ok_le ok_le (JE.jb je_int) (JE.jb (je_var (pv 0))) (JE.jb (je_var (pv 1)))))))))
theorem fn__law_name_due (T : Tp w K mg) : Fn P w K mg base "_law_name_due" 1 ["_law_thing"] m__law_name_due := by
  exact Fn.of (k := 0) T.df__law_name_due sc__law_name_due fun f cdv A outer s H E hr W tk => (jss_cons (js_if (JW.jt (jw_or (jt_not (jt_val (je_bn ok_isi T.n_isinstance (ja_cons (je_var (pv 0)) (ja_cons (je_ty .str T.n_str) ja_nil))))) (jw_or1 (jt_not (jt_chain ok_le ok_le (JE.jb je_int) (JE.jb (je_b1 ok_len T.n_len (JE.jb (je_var (pv 0))))) (JE.jb je_int)))))) (jss_one (js_ret je_bl)) jss_nil) (jss_one (js_ret (je_cmp (ok_eq hr.units) (JE.jb (JN.je (jn_lc (own := [("_law_sign", 1)]) sc__law_name_due.nd (ji_items (je_var (pv 0))) (blkOk_by (own := [("_law_sign", 1)]) (N := N__law_name_due) (sc := defScope s__law_name_due) (by decide +kernel)) (fun _ _ _ _ _ => (jg_name (i := 1) sc__law_name_due.nd)) (fun _ _ _ _ _ => (jts_one (jt_cmp ok_notIn (JE.jb (je_var (pv 1))) (JE.jb je_str)))) (fun _ _ _ _ _ => (je_var (pv 1))) (by decide)))) (JE.jb (JN.je (jn_lst ja_nil)))))))
theorem fn__law_term_due (T : Tp w K mg) (G__law_within : Fn P w K mg base "_law_within" 1 ["_law_thing", "_law_most"] m__law_within) (G__law_name_due : Fn P w K mg base "_law_name_due" 1 ["_law_thing"] m__law_name_due) : ∀ n : Nat, Fn P w K mg base "_law_term_due" (1 + n) ["_law_thing", "_law_deep"] (m__law_term_due n)
  | 0 => Fn.bad T.df__law_term_due
  | n + 1 => by
    have G_self := fn__law_term_due T G__law_within G__law_name_due n
    exact Fn.of (k := 1 + n) T.df__law_term_due sc__law_term_due fun f cdv A outer s H E hr W tk => (jss_cons (js_if (jt_not (jt_val (je_bn ok_isi T.n_isinstance (ja_cons (je_var (pv 0)) (ja_cons (je_ty .tuple T.n_tuple) ja_nil))))) (jss_one (js_ret (je_or (je_callF G__law_name_due tk (hr.mono (by omega)) (ja_cons (je_var (pv 0)) ja_nil) (lenC lenN)) (je_one (je_callF G__law_within tk (hr.mono (by omega)) (ja_cons (je_var (pv 0)) (ja_cons je_int ja_nil)) (lenC (lenC lenN))))))) jss_nil) (jss_cons (js_if (jt_cmp (ok_eq hr.units) (JE.jb (je_b1 ok_len T.n_len (JE.jb (je_var (pv 0))))) (JE.jb je_int)) (jss_one (js_ret (je_and (je_bn ok_isi T.n_isinstance (ja_cons (je_ix (JE.jb (je_var (pv 0))) (JE.jb je_int)) (ja_cons (je_ty .str T.n_str) ja_nil))) (je_and (je_cmp (ok_eq hr.units) (JE.jb (je_ix (JE.jb (je_var (pv 0))) (JE.jb je_int))) (JE.jb je_str)) (je_one (je_callF G__law_within tk (hr.mono (by omega)) (ja_cons (je_ix (JE.jb (je_var (pv 0))) (JE.jb je_int)) (ja_cons je_int ja_nil)) (lenC (lenC lenN)))))))) jss_nil) (jss_cons (js_if (JW.jt (jw_or (jt_cmp (ok_eq hr.units) (JE.jb (je_var (pv 1))) (JE.jb je_int)) (jw_or (jt_cmp (ok_ne hr.units) (JE.jb (je_b1 ok_len T.n_len (JE.jb (je_var (pv 0))))) (JE.jb je_int)) (jw_or1 (jt_not (jt_val (je_bn ok_isi T.n_isinstance (ja_cons (je_ix (JE.jb (je_var (pv 0))) (JE.jb je_int)) (ja_cons (je_ty .str T.n_str) ja_nil))))))))) (jss_one (js_ret je_bl)) jss_nil) (jss_cons (js_if (jt_cmp ok_notIn (JE.jb (je_ix (JE.jb (je_var (pv 0))) (JE.jb je_int))) (JE.jb (JN.je (jn_lst (ja_cons je_str (ja_cons je_str (ja_cons je_str (ja_cons je_str (ja_cons je_str (ja_cons je_str ja_nil)))))))))) (jss_one (js_ret je_bl)) jss_nil) (jss_one (js_ret (je_and (je_callF G_self tk (hr.mono (by omega)) (ja_cons (je_ix (JE.jb (je_var (pv 0))) (JE.jb je_int)) (ja_cons (je_bin ok_sub (JE.jb (je_var (pv 1))) (JE.jb je_int)) ja_nil)) (lenC (lenC lenN))) (je_one (je_callF G_self tk (hr.mono (by omega)) (ja_cons (je_ix (JE.jb (je_var (pv 0))) (JE.jb je_int)) (ja_cons (je_bin ok_sub (JE.jb (je_var (pv 1))) (JE.jb je_int)) ja_nil)) (lenC (lenC lenN)))))))))))
theorem fn_law (a_is_name : Addr) (h_is_name : mg "is_name" = some (.ref a_is_name)) (T : Tp w K mg) (G__law_folded : Fn P w K mg base "_law_folded" 1 ["_law_script", "_law_most"] m__law_folded) (G__law_pot : FnN P w K mg base "_law_pot" 1 ["_law_script", "_law_k"] m__law_pot) (G__law_take : Fn P w K mg base "_law_take" 1 ["_law_pot_here", "_law_many"] m__law_take) (G__law_grown : Fn P w K mg base "_law_grown" 12 ["_law_pot_here", "_law_deep"] (m__law_grown 8)) (G__law_spoilt : Fn P w K mg base "_law_spoilt" 15 ["_law_pot_here", "_law_thing"] (m__law_spoilt 12)) (G__law_any_name : Fn P w K mg base "_law_any_name" 3 ["_law_pot_here"] m__law_any_name) (G_is_name : Fn P w K mg base "is_name" 1 ["thing"] m_is_name) (G_is_term : Fn P w K mg base "is_term" 12 ["thing"] (m_is_term a_is_name)) (G__law_term_due : Fn P w K mg base "_law_term_due" 8 ["_law_thing", "_law_deep"] (m__law_term_due 7)) (G__law_name_due : Fn P w K mg base "_law_name_due" 1 ["_law_thing"] m__law_name_due) {f : Addr} {fd : FuncData} (F : Fun K "law" "law" s_law f fd) : FnOk P w K mg base (L2.CX P w) 16 f fd ["_law_script"] (spL K 1 (m_law a_is_name)) := by
  exact law_of (k := 15) F sc_law fun f cdv A outer s H E hr W tk => (js0_cons (JS.z (js_set (i := 1) (je_callF G__law_folded tk (hr.mono (by omega)) (ja_cons (je_var (pv 0)) (ja_cons je_int ja_nil)) (lenC (lenC lenN))) sc_law.nd)) (js0_cons (js0_for (passes_of rfl) (ji_range1 (by rfl) T.n_range (ja_cons (je_bn (ok_max rfl) T.n_max (ja_cons je_int (ja_cons (je_b1 ok_len T.n_len (JE.jb (je_var (pv 1)))) ja_nil))) ja_nil)) (jg_name (i := 2) sc_law.nd) (js_withPot (i := 3) (ks := [0, 1, 2]) G__law_pot tk (hr.mono (by omega)) (ja_cons (je_var (pv 1)) (ja_cons (je_var (pv 2)) ja_nil)) (lenC (lenC lenN)) (jss_cons (js_set (i := 4) (je_callF G__law_grown tk (hr.mono (by omega)) (ja_cons (je_var (pv 3)) (ja_cons (je_callF G__law_take tk (hr.mono (by omega)) (ja_cons (je_var (pv 3)) (ja_cons je_int ja_nil)) (lenC (lenC lenN))) ja_nil)) (lenC (lenC lenN))) sc_law.nd) (jss_cons (js_set (i := 5) (je_callF G__law_spoilt tk (hr.mono (by omega)) (ja_cons (je_var (pv 3)) (ja_cons (je_var (pv 4)) ja_nil)) (lenC (lenC lenN))) sc_law.nd) (jss_cons (js_set (i := 6) (je_callF G__law_any_name tk (hr.mono (by omega)) (ja_cons (je_var (pv 3)) ja_nil) (lenC lenN)) sc_law.nd) (jss_one (js_for (passes_of rfl) (ji_items (JN.je (jn_lst (ja_cons (je_var (pv 4)) (ja_cons (je_var (pv 5)) (ja_cons (je_callF G__law_spoilt tk (hr.mono (by omega)) (ja_cons (je_var (pv 3)) (ja_cons (je_var (pv 5)) ja_nil)) (lenC (lenC lenN))) (ja_cons (je_var (pv 6)) (ja_cons (je_tup (ja_cons (je_var (pv 4)) ja_nil)) (ja_cons (JN.je (jn_lst (ja_cons (je_var (pv 4)) ja_nil))) (ja_cons (je_tup (ja_cons je_str (ja_cons (je_var (pv 6)) ja_nil))) (ja_cons (je_callF G__law_spoilt tk (hr.mono (by omega)) (ja_cons (je_var (pv 3)) (ja_cons je_int ja_nil)) (lenC (lenC lenN))) ja_nil))))))))))) (jg_name (i := 7) sc_law.nd) (jss_cons (js_par (i := 8) (j := 9) (ja_cons (je_callF G_is_term tk (hr.mono (by omega)) (ja_cons (je_var (pv 7)) ja_nil) (lenC lenN)) (ja_cons (je_callF G_is_name tk (hr.mono (by omega)) (ja_cons (je_var (pv 7)) ja_nil) (lenC lenN)) ja_nil)) sc_law.nd (by decide)) (jss_cons (js_if (JW.jt (jw_or (jt_not (jt_val (je_bn ok_isi T.n_isinstance (ja_cons (je_var (pv 8)) (ja_cons (je_ty .bool T.n_bool) ja_nil))))) (jw_or1 (jt_cmp (ok_ne hr.units) (JE.jb (je_var (pv 8))) (JE.jb (je_callF G__law_term_due tk (hr.mono (by omega)) (ja_cons (je_var (pv 7)) (ja_cons je_int ja_nil)) (lenC (lenC lenN)))))))) (jss_one (js_ret je_bl)) jss_nil) (jss_one (js_if (JW.jt (jw_or (jt_not (jt_val (je_bn ok_isi T.n_isinstance (ja_cons (je_var (pv 9)) (ja_cons (je_ty .bool T.n_bool) ja_nil))))) (jw_or1 (jt_cmp (ok_ne hr.units) (JE.jb (je_var (pv 9))) (JE.jb (je_callF G__law_name_due tk (hr.mono (by omega)) (ja_cons (je_var (pv 7)) ja_nil) (lenC lenN))))))) (jss_one (js_ret je_bl)) jss_nil))))))))) sc_law.nd)) (js0_one (JS.z (js_ret je_bl)))))
end
end K01

set_option Elab.async false
set_option linter.all false
set_option maxRecDepth 100000
set_option maxHeartbeats 1000000
namespace K01
open PySem L2 PyProof.Rows Q
local macro_rules | `(tactic| walk_at "w") => `(tactic| repeat (first
  | (with_reducible refine wp_c ?_)
  | (with_reducible refine wp_c0 ?_)
  | (with_reducible refine wp_var (by with_unfolding_all rfl) ?_)
  | (with_reducible refine wp_ixP (by with_unfolding_all rfl) ?_)
  | (with_reducible refine wp_borO (by with_unfolding_all rfl) ?_)
  | (with_reducible refine wp_callL (by with_unfolding_all rfl) ?_)
  | (with_reducible refine wp_op2 ?_)
  | (with_reducible refine wp_op1 ?_)
  | (with_reducible refine wp_fnA ?_)
  | (with_reducible refine wp_cons ?_)
  | (with_reducible refine wp_nil ?_)
  | (with_reducible refine ws_seq ?_)
  | (with_reducible refine ws_set ?_)
  | (with_reducible refine ws_own ?_)
  | (with_reducible refine ws_ret ?_)
  | (with_reducible refine ws_ife ?_)
  | (with_reducible refine ws_nil ?_)
  | (with_reducible refine ws_for ?_)
  | (with_reducible refine ws_asg ?_)
  | (with_reducible refine wp_test ?_)
  | (with_reducible refine wp_tnot ?_)
  | (with_reducible refine wp_tand ?_)
  | (with_reducible refine wp_tor ?_)
  | (with_reducible refine wp_vand ?_)
  | (with_reducible refine wp_vor ?_)
  | (with_reducible refine wp_vnot ?_)
  | (with_reducible refine wp_ife ?_)
  | (with_reducible refine wp_chain ?_)
  | (with_reducible refine wp_addI ?_)
  | (with_reducible refine wp_subI ?_)
  | (with_reducible refine wp_ltI ?_)
  | (with_reducible refine wp_leI ?_)
  | (with_reducible refine wp_gtI ?_)
  | (with_reducible refine wp_geI ?_)
  | (with_reducible refine wp_eqI ?_)
  | (with_reducible refine wp_neI ?_)
  | (with_reducible refine wp_neB ?_)
  | (with_reducible refine wp_lenL ?_)
  | (with_reducible refine wp_abs ?_)
  | (with_reducible refine wp_intB ?_)
  | (with_reducible refine wp_intI ?_)
  | (with_reducible refine wp_listL ?_)
  | (with_reducible refine wp_listT ?_)
  | (with_reducible refine wp_tupleL ?_)
  | (with_reducible refine wp_tupleT ?_)
  | (with_reducible refine wp_min ?_)
  | (with_reducible refine wp_max ?_)
  | (with_reducible refine wp_neg ?_)
  | (with_reducible refine wp_lenT ?_)
  | (with_reducible refine wp_slT ?_)
  | (with_reducible refine wp_slL ?_)
  | (with_reducible refine wp_sl ?_)
  | (with_reducible refine wp_noPart ?_)
  | (with_reducible refine wp_part ?_)
  | (with_reducible refine wp_its ?_)
  | (with_reducible refine wp_itS ?_)
  | (with_reducible refine wp_itL ?_)
  | (with_reducible refine wp_itT ?_)
  | (with_reducible refine wp_itsA ?_)
  | (with_reducible refine wp_lc ?_)
  | (with_reducible refine wp_yes ?_)
  | (with_reducible refine wp_tru ?_)
  | (with_reducible refine wp_inK ?_)
  | (with_reducible refine ⟨_, rfl, ?_⟩)
  | (with_reducible refine wp_isi (by with_unfolding_all rfl) (by with_unfolding_all decide) ?_)
  | (with_reducible refine iteK1 (by with_unfolding_all rfl) ?_)
  | (with_reducible refine iteK0 (by with_unfolding_all rfl) ?_)))
local macro_rules | `(tactic| walk_at "v") => `(tactic| repeat (first
  | (with_reducible refine wp_tup ?_)
  | (with_reducible refine wp_lst ?_)
  | (refine ⟨(by simp only [List.length_cons, List.length_nil, List.length_append]; decide), ?_⟩)
  | (with_reducible refine wp_c ?_)
  | (with_reducible refine wp_c0 ?_)
  | (with_reducible refine wp_var (by with_unfolding_all rfl) ?_)
  | (with_reducible refine wp_ixP (by with_unfolding_all rfl) ?_)
  | (with_reducible refine wp_borO (by with_unfolding_all rfl) ?_)
  | (with_reducible refine wp_callL (by with_unfolding_all rfl) ?_)
  | (with_reducible refine wp_op2 ?_)
  | (with_reducible refine wp_op1 ?_)
  | (with_reducible refine wp_fnA ?_)
  | (with_reducible refine wp_cons ?_)
  | (with_reducible refine wp_nil ?_)
  | (with_reducible refine ws_seq ?_)
  | (with_reducible refine ws_set ?_)
  | (with_reducible refine ws_own ?_)
  | (with_reducible refine ws_ret ?_)
  | (with_reducible refine ws_ife ?_)
  | (with_reducible refine ws_nil ?_)
  | (with_reducible refine ws_for ?_)
  | (with_reducible refine ws_asg ?_)
  | (with_reducible refine wp_test ?_)
  | (with_reducible refine wp_tnot ?_)
  | (with_reducible refine wp_tand ?_)
  | (with_reducible refine wp_tor ?_)
  | (with_reducible refine wp_vand ?_)
  | (with_reducible refine wp_vor ?_)
  | (with_reducible refine wp_vnot ?_)
  | (with_reducible refine wp_ife ?_)
  | (with_reducible refine wp_chain ?_)
  | (with_reducible refine wp_addI ?_)
  | (with_reducible refine wp_subI ?_)
  | (with_reducible refine wp_ltI ?_)
  | (with_reducible refine wp_leI ?_)
  | (with_reducible refine wp_gtI ?_)
  | (with_reducible refine wp_geI ?_)
  | (with_reducible refine wp_eqI ?_)
  | (with_reducible refine wp_neI ?_)
  | (with_reducible refine wp_neB ?_)
  | (with_reducible refine wp_lenL ?_)
  | (with_reducible refine wp_abs ?_)
  | (with_reducible refine wp_intB ?_)
  | (with_reducible refine wp_intI ?_)
  | (with_reducible refine wp_listL ?_)
  | (with_reducible refine wp_listT ?_)
  | (with_reducible refine wp_tupleL ?_)
  | (with_reducible refine wp_tupleT ?_)
  | (with_reducible refine wp_min ?_)
  | (with_reducible refine wp_max ?_)
  | (with_reducible refine wp_neg ?_)
  | (with_reducible refine wp_lenT ?_)
  | (with_reducible refine wp_slT ?_)
  | (with_reducible refine wp_slL ?_)
  | (with_reducible refine wp_sl ?_)
  | (with_reducible refine wp_noPart ?_)
  | (with_reducible refine wp_part ?_)
  | (with_reducible refine wp_its ?_)
  | (with_reducible refine wp_itS ?_)
  | (with_reducible refine wp_itL ?_)
  | (with_reducible refine wp_itT ?_)
  | (with_reducible refine wp_itsA ?_)
  | (with_reducible refine wp_lc ?_)
  | (with_reducible refine wp_yes ?_)
  | (with_reducible refine wp_tru ?_)
  | (with_reducible refine wp_inK ?_)
  | (with_reducible refine ⟨_, rfl, ?_⟩)
  | (with_reducible refine wp_isi (by with_unfolding_all rfl) (by with_unfolding_all decide) ?_)
  | (with_reducible refine iteK1 (by with_unfolding_all rfl) ?_)
  | (with_reducible refine iteK0 (by with_unfolding_all rfl) ?_)))
/-- data that may be asked about -/
def okD : Nat → D → Prop
  | _, .non => True
  | _, .bl _ => True
  | _, .int _ => True
  | _, .str x => x.length ≤ 1000 ∧ PyData.strOk x = true
  | n + 1, .tup ds => ds.length ≤ 1000 ∧ ∀ d ∈ ds, okD n d
  | n + 1, .lst ds => ds.length ≤ 1000 ∧ ∀ d ∈ ds, okD n d
  | _, .dct _ _ => True
  | _, _ => False
structure PotOk (n : Nat) (ms : MS) : Prop where
  a : 0 ≤ ms.a
  b0 : 0 ≤ ms.b
  b : ms.b < 2 ^ 61
  c0 : 0 ≤ ms.c
  c : ms.c ≤ n
theorem take_ok {n : Nat} {ms : MS} {many : Int} {Q : D → MS → Prop} (P : PotOk n ms) (hn : n < 2 ^ 40) (h0 : 0 < many) (h1 : many < 2 ^ 9000) (q : ∀ r ms', 0 ≤ r → r < many → PotOk (n + 1) ms' → Q (.int r) ms') : Wp (m__law_take [.pot, .int many] ms) Q := by
  obtain ⟨pa, pb0, pb, pc0, pc⟩ := P
  refine wp_mir ?_
  walk_at "w"
  refine ite2 (fun h => ?_) (fun h => ?_)
  · have h := of_decide_eq_true h
    walk_at "w"
    refine wp_modI h0 ?_
    walk_at "w"
    refine ws_setPot (by rfl) ?_
    walk_at "w"
    refine wp_divI h0 h1 ?_
    walk_at "w"
    refine ⟨_, _, 0, rfl, rfl, rfl, ?_⟩
    walk_at "w"
    exact q _ _ (Int.emod_nonneg _ (by omega)) (Int.emod_lt_of_pos _ h0) ⟨Int.ediv_nonneg pa (by omega), pb0, pb, pc0, by show ms.c ≤ _; omega⟩
  · walk_at "w"
    refine ws_setPot (by rfl) ?_
    walk_at "w"
    refine ⟨_, _, 2, rfl, rfl, rfl, ?_⟩
    walk_at "w"
    have e1 : (S.putMS ms 2 (ms.c + 1)).b = ms.b := rfl
    have e2 : (S.putMS ms 2 (ms.c + 1)).c = ms.c + 1 := rfl
    rw [e1, e2]
    have p40 : (2 : Nat) ^ 40 = 1099511627776 := by decide
    have p61 : (2 : Int) ^ 61 = 2305843009213693952 := by decide
    have p64 : (2 : Nat) ^ 64 = 18446744073709551616 := by decide
    refine wp_mulI (.inl ⟨by decide, by decide⟩) ?_
    walk_at "w"
    refine wp_powI (j := 3) (n := 64) (by omega) (by decide) ?_
    walk_at "w"
    refine wp_modI (by decide) ?_
    have g0 := Int.emod_nonneg ((ms.b + 104729 * (ms.c + 1)) ^ 3) (show (2305843009213693921 : Int) ≠ 0 by decide)
    have g1 := Int.emod_lt_of_pos ((ms.b + 104729 * (ms.c + 1)) ^ 3) (show (0 : Int) < 2305843009213693921 by decide)
    generalize (ms.b + 104729 * (ms.c + 1)) ^ 3 % 2305843009213693921 = o1 at g0 g1 ⊢
    walk_at "w"
    rw [e1]
    refine wp_modI (by decide) ?_
    have g2 := Int.emod_nonneg ms.b (show (65537 : Int) ≠ 0 by decide)
    have g3 := Int.emod_lt_of_pos ms.b (show (0 : Int) < 65537 by decide)
    generalize ms.b % 65537 = o2 at g2 g3 ⊢
    walk_at "w"
    rw [e2]
    refine wp_mulI (.inl ⟨by decide, by decide⟩) ?_
    walk_at "w"
    refine wp_powI (j := 5) (n := 64) (by omega) (by decide) ?_
    walk_at "w"
    refine wp_modI (by decide) ?_
    walk_at "w"
    refine wp_divI (by decide) (by decide) ?_
    walk_at "w"
    refine wp_modI h0 ?_
    exact q _ _ (Int.emod_nonneg _ (by omega)) (Int.emod_lt_of_pos _ h0) ⟨pa, pb0, pb, by show 0 ≤ ms.c + 1; omega, by show ms.c + 1 ≤ _; omega⟩
theorem cell_pow : (10 : Int) ^ 60 = 1000000000000000000000000000000000000000000000000000000000000 := by decide
theorem at_ints {ns : List Int} {k : Int} (h0 : 0 ≤ k) (h : k < ns.length) : ∃ z, atI (ns.map D.int) k = some (.int z) := by
  obtain ⟨x, hx, hm⟩ := atI_in (xs := ns) h0 h
  exact ⟨x, atI_map hx⟩
theorem pot_ok {ns : List Int} {k : Int} {ms : MS} (h0 : 0 ≤ k) (h1 : k ≤ 100) : Wp (m__law_pot [.lst (ns.map D.int), .int k] ms) fun d ms' => ∃ x y z, d = .lst [.int x, .int y, .int z] ∧ PotOk 0 ⟨x, y, z⟩ := by
  refine wp_mir ?_
  walk_at "w"
  have fin : ∀ (c : Int) (nx bk ct : SS → MS → Prop), 0 ≤ c → Ws (S.seq (S.set 3 (E.op2 gMod (E.op2 gPow (E.op2 gAdd (E.op2 gAdd (E.op2 gMod (E.var 2) (E.c (.int 2147483629))) (E.op2 gMul (E.c (.int 7919)) (E.var 1))) (E.c (.int 1))) (E.c (.int 5))) (E.c (.int 2305843009213693951)))) (S.ret (E.lst (E.cons (E.op2 gMul (E.var 2) (E.op1 gInt (E.op2 gGe (E.var 2) (E.op2 gPow (E.c (.int 10)) (E.c (.int 18)))))) (E.cons (E.var 3) (E.cons (E.c (.int 0)) E.nil))))) [some (.dat (.lst (ns.map D.int))), some (.dat (.int k)), some (.dat (.int c)), none] ms)
      { nx := nx, rt := fun d ms' => ∃ x y z, d = .lst [.int x, .int y, .int z] ∧ PotOk 0 ⟨x, y, z⟩, bk := bk, ct := ct } := by
    intro c nx bk ct hc
    walk_at "w"
    refine wp_modI (by decide) ?_
    have g0 := Int.emod_nonneg c (show (2147483629 : Int) ≠ 0 by decide)
    have g1 := Int.emod_lt_of_pos c (show (0 : Int) < 2147483629 by decide)
    generalize c % 2147483629 = r at g0 g1 ⊢
    walk_at "w"
    refine wp_mulI (.inl ⟨by decide, by decide⟩) ?_
    walk_at "w"
    have p64 : (2 : Nat) ^ 64 = 18446744073709551616 := by decide
    refine wp_powI (j := 5) (n := 64) (by omega) (by decide) ?_
    walk_at "w"
    refine wp_modI (by decide) ?_
    have g2 := Int.emod_nonneg ((r + 7919 * k + 1) ^ 5) (show (2305843009213693951 : Int) ≠ 0 by decide)
    have g3 := Int.emod_lt_of_pos ((r + 7919 * k + 1) ^ 5) (show (0 : Int) < 2305843009213693951 by decide)
    generalize (r + 7919 * k + 1) ^ 5 % 2305843009213693951 = y at g2 g3 ⊢
    walk_at "w"
    refine wp_lst ?_
    walk_at "w"
    refine wp_powI (j := 18) (n := 4) (by decide) (by decide) ?_
    walk_at "w"
    have hb : (if decide ((10 : Int) ^ 18 ≤ c) = true then (1 : Int) else 0) = 1 ∨ (if decide ((10 : Int) ^ 18 ≤ c) = true then (1 : Int) else 0) = 0 := by
      split
      · exact .inl rfl
      · exact .inr rfl
    generalize (if decide ((10 : Int) ^ 18 ≤ c) = true then (1 : Int) else 0) = b at hb ⊢
    refine wp_mulI (.inr (by rcases hb with h | h <;> subst h <;> decide)) ?_
    walk_at "w"
    refine ⟨by simp, _, _, _, rfl, ?_, g2, ?_, Int.le_refl 0, Int.le_refl 0⟩
    · show 0 ≤ c * b
      rcases hb with h | h <;> subst h <;> omega
    · show y < 2 ^ 61
      have : (2 : Int) ^ 61 = 2305843009213693952 := by decide
      omega
  refine ite2 (fun h => ?_) (fun h => ?_)
  · have h : k < (ns.map D.int).length := of_decide_eq_true h
    rw [List.length_map] at h
    walk_at "w"
    obtain ⟨z, hz⟩ := at_ints (ns := ns) h0 h
    refine wp_ixL hz ?_
    walk_at "w"
    refine wp_powI (j := 60) (n := 4) (by decide) (by decide) ?_
    walk_at "w"
    refine wp_powI (j := 14) (n := 200) (by decide) (by decide) ?_
    walk_at "w"
    have hp : (0 : Int) < (10 ^ 60) ^ 14 := by decide
    refine wp_modI hp ?_
    exact fin _ _ _ _ (Int.emod_nonneg _ (by omega))
  · refine ws_nil ?_
    exact fin 0 _ _ _ (by decide)
theorem rangeD_mem {lo : Int} {n : Nat} {d : D} (h : d ∈ rangeD lo n) : ∃ k : Nat, k < n ∧ d = .int (lo + (k : Int)) := by
  unfold rangeD at h
  obtain ⟨k, hk, rfl⟩ := List.mem_map.mp h
  exact ⟨k, by simpa using hk, rfl⟩
theorem cut_ints {ns : List Int} {most : Nat} : cut (ns.map D.int) none (some (most : Int)) = (ns.take most).map D.int := by
  unfold cut
  rw [HT.sIx_nat]
  show ((ns.map D.int).drop 0).take (min most (ns.map D.int).length - 0) = _
  rw [List.drop_zero, Nat.sub_zero, List.length_map, List.map_take]
  rcases Nat.le_total most ns.length with h | h
  · rw [Nat.min_eq_left h]
  · rw [Nat.min_eq_right h, List.take_of_length_le (by simp), List.take_of_length_le (by simpa using h)]
theorem folded_ok {ns : List Int} {most : Nat} {ms : MS} (h0 : 1 ≤ most) (h1 : most ≤ 63) : Wp (m__law_folded [.lst (ns.map D.int), .int (most : Int)] ms) fun d ms' => ∃ ns' : List Int, d = .lst (ns'.map D.int) ∧ ns'.length ≤ most ∧ ms' = ms := by
  have hmin : ∀ x : Int, 0 ≤ x → (if (x < 63) then x else 63) ≤ 63 ∧ (if (x < 63) then x else 63) ≤ x ∧ 0 ≤ (if (x < 63) then x else 63) := fun x hx => by split <;> omega
  have hm := hmin ((ns.map D.int).length : Int) (by omega)
  have hm1 := hm.1
  have hm2 := hm.2.1
  have hm3 := hm.2.2
  have hlen : (ns.map D.int).length = ns.length := List.length_map _
  have hr0 : -(2 ^ 62) ≤ (most : Int) ∧ (most : Int) < 2 ^ 62 ∧ -(2 ^ 62) ≤ (if (((ns.map D.int).length : Int) < 63) then ((ns.map D.int).length : Int) else 63) ∧ (if (((ns.map D.int).length : Int) < 63) then ((ns.map D.int).length : Int) else 63) < 2 ^ 62 := ⟨by omega, by omega, by omega, by omega⟩
  unfold m__law_folded
  with_reducible refine wp_mir ?_
  walk_at "w"
  rw [cut_ints]
  with_reducible refine wp_range2 hr0 ?_
  with_reducible refine ws_forL (fun rest ss ms' => ms' = ms ∧ (∀ d ∈ rest, ∃ k : Int, d = .int k ∧ (most : Int) ≤ k ∧ k < ns.length) ∧ ∃ (ns' : List Int) (x : Option SV), ns'.length = min most ns.length ∧ ss = [some (.dat (.lst (ns.map D.int))), some (.dat (.int most)), some (.own (ns'.map D.int)), x]) ?_ ?_ _ _ _ ?_
  · rintro d rest ss ms' ⟨rfl, hr, ns', x, hl, rfl⟩
    obtain ⟨k, rfl, hk1, hk2⟩ := hr d (by simp)
    refine ⟨_, rfl, ws_setOwn (by rfl) ?_⟩
    walk_at "w"
    refine wp_modI (by omega) ?_
    have g0 := Int.emod_nonneg k (show (most : Int) ≠ 0 by omega)
    have g1 := Int.emod_lt_of_pos k (show (0 : Int) < (most : Int) by omega)
    obtain ⟨z, hz⟩ := at_ints (ns := ns') g0 (by rw [hl]; omega)
    refine wp_ixL hz ?_
    walk_at "w"
    refine wp_mulI (.inr ⟨by decide, by decide⟩) ?_
    walk_at "w"
    obtain ⟨y, hy⟩ := at_ints (ns := ns) (k := k) (by omega) hk2
    refine wp_ixL hy ?_
    walk_at "w"
    refine wp_modI (by omega) ?_
    have hj : ∃ j, ixN (ns'.map D.int).length (k % (most : Int)) = some j := by
      unfold atI at hz
      cases e : ixN (ns'.map D.int).length (k % (most : Int)) with
      | none => rw [e] at hz; cases hz
      | some j => exact ⟨j, rfl⟩
    obtain ⟨j, hj⟩ := hj
    refine ⟨_, j, rfl, hj, rfl, fun d hd => hr d (List.mem_cons_of_mem _ hd), ns'.set j (z * 31 + y), some (.dat (.int k)), by rw [List.length_set]; exact hl, ?_⟩
    rw [List.map_set]
    rfl
  · rintro ss ms' ⟨rfl, _, ns', x, hl, rfl⟩
    with_reducible refine ws_retO (by with_unfolding_all rfl) ?_
    exact ⟨ns', rfl, by omega, rfl⟩
  · refine ⟨rfl, fun d hd => ?_, ns.take most, none, by rw [List.length_take], rfl⟩
    obtain ⟨k, hk, rfl⟩ := rangeD_mem hd
    refine ⟨_, rfl, by omega, ?_⟩
    rw [hlen] at hm2
    omega
end K01

set_option Elab.async false
set_option linter.all false
set_option maxRecDepth 100000
set_option maxHeartbeats 1000000
namespace K01
open PySem L2 PyProof.Rows Q
local macro_rules | `(tactic| walk_at "w") => `(tactic| repeat (first
  | (with_reducible refine wp_c ?_)
  | (with_reducible refine wp_c0 ?_)
  | (with_reducible refine wp_var (by with_unfolding_all rfl) ?_)
  | (with_reducible refine wp_ixP (by with_unfolding_all rfl) ?_)
  | (with_reducible refine wp_borO (by with_unfolding_all rfl) ?_)
  | (with_reducible refine wp_callL (by with_unfolding_all rfl) ?_)
  | (with_reducible refine wp_op2 ?_)
  | (with_reducible refine wp_op1 ?_)
  | (with_reducible refine wp_fnA ?_)
  | (with_reducible refine wp_cons ?_)
  | (with_reducible refine wp_nil ?_)
  | (with_reducible refine ws_seq ?_)
  | (with_reducible refine ws_set ?_)
  | (with_reducible refine ws_own ?_)
  | (with_reducible refine ws_ret ?_)
  | (with_reducible refine ws_ife ?_)
  | (with_reducible refine ws_nil ?_)
  | (with_reducible refine ws_for ?_)
  | (with_reducible refine ws_asg ?_)
  | (with_reducible refine wp_test ?_)
  | (with_reducible refine wp_tnot ?_)
  | (with_reducible refine wp_tand ?_)
  | (with_reducible refine wp_tor ?_)
  | (with_reducible refine wp_vand ?_)
  | (with_reducible refine wp_vor ?_)
  | (with_reducible refine wp_vnot ?_)
  | (with_reducible refine wp_ife ?_)
  | (with_reducible refine wp_chain ?_)
  | (with_reducible refine wp_addI ?_)
  | (with_reducible refine wp_subI ?_)
  | (with_reducible refine wp_ltI ?_)
  | (with_reducible refine wp_leI ?_)
  | (with_reducible refine wp_gtI ?_)
  | (with_reducible refine wp_geI ?_)
  | (with_reducible refine wp_eqI ?_)
  | (with_reducible refine wp_neI ?_)
  | (with_reducible refine wp_neB ?_)
  | (with_reducible refine wp_lenL ?_)
  | (with_reducible refine wp_abs ?_)
  | (with_reducible refine wp_intB ?_)
  | (with_reducible refine wp_intI ?_)
  | (with_reducible refine wp_listL ?_)
  | (with_reducible refine wp_listT ?_)
  | (with_reducible refine wp_tupleL ?_)
  | (with_reducible refine wp_tupleT ?_)
  | (with_reducible refine wp_min ?_)
  | (with_reducible refine wp_max ?_)
  | (with_reducible refine wp_neg ?_)
  | (with_reducible refine wp_lenT ?_)
  | (with_reducible refine wp_slT ?_)
  | (with_reducible refine wp_slL ?_)
  | (with_reducible refine wp_sl ?_)
  | (with_reducible refine wp_noPart ?_)
  | (with_reducible refine wp_part ?_)
  | (with_reducible refine wp_its ?_)
  | (with_reducible refine wp_itS ?_)
  | (with_reducible refine wp_itL ?_)
  | (with_reducible refine wp_itT ?_)
  | (with_reducible refine wp_itsA ?_)
  | (with_reducible refine wp_lc ?_)
  | (with_reducible refine wp_yes ?_)
  | (with_reducible refine wp_tru ?_)
  | (with_reducible refine wp_inK ?_)
  | (with_reducible refine ⟨_, rfl, ?_⟩)
  | (with_reducible refine wp_isi (by with_unfolding_all rfl) (by with_unfolding_all decide) ?_)
  | (with_reducible refine iteK1 (by with_unfolding_all rfl) ?_)
  | (with_reducible refine iteK0 (by with_unfolding_all rfl) ?_)))
local macro_rules | `(tactic| walk_at "v") => `(tactic| repeat (first
  | (with_reducible refine wp_tup ?_)
  | (with_reducible refine wp_lst ?_)
  | (refine ⟨(by simp only [List.length_cons, List.length_nil, List.length_append]; decide), ?_⟩)
  | (with_reducible refine wp_c ?_)
  | (with_reducible refine wp_c0 ?_)
  | (with_reducible refine wp_var (by with_unfolding_all rfl) ?_)
  | (with_reducible refine wp_ixP (by with_unfolding_all rfl) ?_)
  | (with_reducible refine wp_borO (by with_unfolding_all rfl) ?_)
  | (with_reducible refine wp_callL (by with_unfolding_all rfl) ?_)
  | (with_reducible refine wp_op2 ?_)
  | (with_reducible refine wp_op1 ?_)
  | (with_reducible refine wp_fnA ?_)
  | (with_reducible refine wp_cons ?_)
  | (with_reducible refine wp_nil ?_)
  | (with_reducible refine ws_seq ?_)
  | (with_reducible refine ws_set ?_)
  | (with_reducible refine ws_own ?_)
  | (with_reducible refine ws_ret ?_)
  | (with_reducible refine ws_ife ?_)
  | (with_reducible refine ws_nil ?_)
  | (with_reducible refine ws_for ?_)
  | (with_reducible refine ws_asg ?_)
  | (with_reducible refine wp_test ?_)
  | (with_reducible refine wp_tnot ?_)
  | (with_reducible refine wp_tand ?_)
  | (with_reducible refine wp_tor ?_)
  | (with_reducible refine wp_vand ?_)
  | (with_reducible refine wp_vor ?_)
  | (with_reducible refine wp_vnot ?_)
  | (with_reducible refine wp_ife ?_)
  | (with_reducible refine wp_chain ?_)
  | (with_reducible refine wp_addI ?_)
  | (with_reducible refine wp_subI ?_)
  | (with_reducible refine wp_ltI ?_)
  | (with_reducible refine wp_leI ?_)
  | (with_reducible refine wp_gtI ?_)
  | (with_reducible refine wp_geI ?_)
  | (with_reducible refine wp_eqI ?_)
  | (with_reducible refine wp_neI ?_)
  | (with_reducible refine wp_neB ?_)
  | (with_reducible refine wp_lenL ?_)
  | (with_reducible refine wp_abs ?_)
  | (with_reducible refine wp_intB ?_)
  | (with_reducible refine wp_intI ?_)
  | (with_reducible refine wp_listL ?_)
  | (with_reducible refine wp_listT ?_)
  | (with_reducible refine wp_tupleL ?_)
  | (with_reducible refine wp_tupleT ?_)
  | (with_reducible refine wp_min ?_)
  | (with_reducible refine wp_max ?_)
  | (with_reducible refine wp_neg ?_)
  | (with_reducible refine wp_lenT ?_)
  | (with_reducible refine wp_slT ?_)
  | (with_reducible refine wp_slL ?_)
  | (with_reducible refine wp_sl ?_)
  | (with_reducible refine wp_noPart ?_)
  | (with_reducible refine wp_part ?_)
  | (with_reducible refine wp_its ?_)
  | (with_reducible refine wp_itS ?_)
  | (with_reducible refine wp_itL ?_)
  | (with_reducible refine wp_itT ?_)
  | (with_reducible refine wp_itsA ?_)
  | (with_reducible refine wp_lc ?_)
  | (with_reducible refine wp_yes ?_)
  | (with_reducible refine wp_tru ?_)
  | (with_reducible refine wp_inK ?_)
  | (with_reducible refine ⟨_, rfl, ?_⟩)
  | (with_reducible refine wp_isi (by with_unfolding_all rfl) (by with_unfolding_all decide) ?_)
  | (with_reducible refine iteK1 (by with_unfolding_all rfl) ?_)
  | (with_reducible refine iteK0 (by with_unfolding_all rfl) ?_)))
/-! ### drawn things -/
theorem PotOk.mono {n m : Nat} {ms : MS} (p : PotOk n ms) (h : n ≤ m) : PotOk m ms := ⟨p.a, p.b0, p.b, p.c0, by have := p.c; omega⟩
def okS (x : Str) : Prop := x.length ≤ 20 ∧ PyData.strOk x = true
theorem strOk_iff {x : Str} : PyData.strOk x = true ↔ ∀ c ∈ x.cps.toList, c < 0x110000 := by
  unfold PyData.strOk
  rw [Array.all_eq_true_iff_forall_mem]
  constructor
  · intro h c hc
    exact of_decide_eq_true (h c (by simpa using hc))
  · intro h c hc
    exact decide_eq_true (h c (by simpa using hc))
theorem str_len' (x : Str) : x.cps.toList.length = x.length := by
  show x.cps.toList.length = x.cps.size
  simp
theorem joinL_mem {c : Nat} : ∀ {ps : List (List Nat)}, c ∈ TL.joinL [] ps → ∃ p ∈ ps, c ∈ p
  | [], h => by cases h
  | [p], h => ⟨p, by simp, h⟩
  | p :: q :: r, h => by
    have h : c ∈ p ++ ([] ++ TL.joinL [] (q :: r)) := h
    rw [List.nil_append, List.mem_append] at h
    rcases h with h | h
    · exact ⟨p, by simp, h⟩
    · obtain ⟨p', h1, h2⟩ := joinL_mem h
      exact ⟨p', List.mem_cons_of_mem _ h1, h2⟩
theorem joinL_len : ∀ ps : List (List Nat), (TL.joinL [] ps).length = (ps.map List.length).sum
  | [] => rfl
  | [p] => by simp [TL.joinL]
  | p :: q :: r => by
    show (p ++ ([] ++ TL.joinL [] (q :: r))).length = _
    rw [List.nil_append, List.length_append, joinL_len (q :: r)]
    simp
def oneS (d : D) : Prop := ∃ c : Nat, c < 0x110000 ∧ d = .str ⟨#[c]⟩
theorem dstrs_one : ∀ {ds : List D}, (∀ d ∈ ds, oneS d) → ∃ ys : List Str, dstrs ds = some ys ∧ ys.length = ds.length ∧ ∀ y ∈ ys, ∃ c : Nat, c < 0x110000 ∧ y = ⟨#[c]⟩
  | [], _ => ⟨[], rfl, rfl, fun y hy => by cases hy⟩
  | d :: ds, h => by
    obtain ⟨c, hc, rfl⟩ := h d (by simp)
    obtain ⟨ys, e, l, q⟩ := dstrs_one (ds := ds) fun d hd => h d (List.mem_cons_of_mem _ hd)
    refine ⟨⟨#[c]⟩ :: ys, by rw [dstrs, e]; rfl, by rw [List.length_cons, List.length_cons, l], fun y hy => ?_⟩
    rcases List.mem_cons.mp hy with e | hy
    · exact ⟨c, hc, e⟩
    · exact q y hy
theorem sum_ones : ∀ {ys : List Str}, (∀ y ∈ ys, ∃ c : Nat, c < 0x110000 ∧ y = ⟨#[c]⟩) → (ys.map (·.length)).sum = ys.length
  | [], _ => rfl
  | y :: ys, h => by
    obtain ⟨c, _, rfl⟩ := h y (by simp)
    rw [List.map_cons, List.sum_cons, sum_ones fun y hy => h y (List.mem_cons_of_mem _ hy), List.length_cons]
    show 1 + ys.length = _
    omega
theorem join_ok {ds : List D} {ms : MS} {Q : D → MS → Prop} (hl : ds.length ≤ 7) (h : ∀ d ∈ ds, oneS d) (q : ∀ z : Str, z.length = ds.length → PyData.strOk z = true → Q (.str z) ms) : Wp (gJoin "" (.lst ds) ms) Q := by
  obtain ⟨ys, e, l, k⟩ := dstrs_one h
  have hs := sum_ones k
  have hz : (Str.ofString "").length = 0 := rfl
  show Wp (match dstrs ds with
    | some ys => if (ys.map (·.length)).sum + ys.length * (Str.ofString "").length ≤ 100000 then R.ok (.str (Txt.join "" ys)) ms else .bad
    | none => .bad) Q
  rw [e]
  show Wp (if (ys.map (·.length)).sum + ys.length * (Str.ofString "").length ≤ 100000 then R.ok (.str (Txt.join "" ys)) ms else .bad) Q
  rw [if_pos (by rw [hs, hz]; omega)]
  have ej : (Txt.join "" ys).cps.toList = TL.joinL [] (ys.map fun y => y.cps.toList) := by
    rw [TL.join_eq]
    have h1 := TL.tl_join "" ys
    have h2 : TL.tl (Str.ofString "") = [] := by decide +kernel
    rw [h2] at h1
    exact h1
  refine q _ ?_ ?_
  · rw [← str_len', ej, joinL_len, List.map_map]
    have : (ys.map (List.length ∘ fun y => y.cps.toList)) = ys.map (·.length) := List.map_congr_left fun y _ => str_len' y
    rw [this, hs, l]
  · rw [strOk_iff, ej]
    intro c hc
    obtain ⟨p, hp, hc⟩ := joinL_mem hc
    obtain ⟨y, hy, rfl⟩ := List.mem_map.mp hp
    obtain ⟨c', hc', rfl⟩ := k y hy
    have : c = c' := by simpa using hc
    rw [this]
    exact hc'
theorem abc_at {r : Int} (h0 : 0 ≤ r) (h : r < 26) : ∃ c, atI (Str.ofString "abcdefghijklmnopqrstuvwxyz").cps.toList r = some c ∧ c < 0x110000 := by
  obtain ⟨c, hc, hm⟩ := atI_in (xs := (Str.ofString "abcdefghijklmnopqrstuvwxyz").cps.toList) h0 (by have : (Str.ofString "abcdefghijklmnopqrstuvwxyz").cps.toList.length = 26 := by decide +kernel
                                                                                                     rw [this]; omega)
  have ok : PyData.strOk "abcdefghijklmnopqrstuvwxyz" = true := by decide +kernel
  exact ⟨c, hc, strOk_iff.mp ok c hm⟩
theorem letters_ok {n : Nat} {ms : MS} {many : Int} {Q : D → MS → Prop} (P : PotOk n ms) (hn : n + 10 < 2 ^ 40) (h0 : 0 ≤ many) (h7 : many ≤ 7) (q : ∀ (z : Str) ms', (z.length : Int) = many → PyData.strOk z = true → PotOk (n + 7) ms' → Q (.str z) ms') : Wp (m__law_letters [.pot, .int many] ms) Q := by
  unfold m__law_letters
  with_reducible refine wp_mir ?_
  walk_at "w"
  with_reducible refine wp_range1 (by omega) (by omega) ?_
  have hl : (rangeD 0 many.toNat).length = many.toNat := by unfold rangeD; simp
  refine Wp.mono (wp_lcRun (fun rest acc ms' => PotOk (n + acc.length) ms' ∧ (∀ d ∈ acc, oneS d) ∧ acc.length + rest.length = many.toNat) ?_ _ _ _ ⟨P, (fun d hd => by cases hd), by rw [hl]; simp⟩) ?_
  · rintro d rest acc ms' ⟨P', ho, hlen⟩
    rw [List.length_cons] at hlen
    refine ⟨_, rfl, ?_⟩
    walk_at "w"
    refine take_ok P' (by omega) (by decide) (by decide) fun r ms1 g0 g1 P1 => ?_
    obtain ⟨c, hc, hb⟩ := abc_at g0 g1
    refine wp_ixS (by decide +kernel) hc ?_
    refine ⟨by omega, by rw [List.length_append]; exact P1, fun d hd => ?_, by rw [List.length_append]; simp; omega⟩
    rcases List.mem_append.mp hd with hd | hd
    · exact ho d hd
    · rw [List.mem_singleton.mp hd]
      exact ⟨c, hb, rfl⟩
  · rintro ys ms' ⟨P', ho, hlen⟩
    have hlen : ys.length = many.toNat := by simpa using hlen
    refine join_ok (by omega) ho fun z hz hs => ?_
    exact q z ms' (by omega) hs (P'.mono (by omega))
end K01

set_option Elab.async false
set_option linter.all false
set_option maxRecDepth 100000
set_option maxHeartbeats 1000000
namespace K01
open PySem L2 PyProof.Rows Q
local macro_rules | `(tactic| walk_at "w") => `(tactic| repeat (first
  | (with_reducible refine wp_c ?_)
  | (with_reducible refine wp_c0 ?_)
  | (with_reducible refine wp_var (by with_unfolding_all rfl) ?_)
  | (with_reducible refine wp_ixP (by with_unfolding_all rfl) ?_)
  | (with_reducible refine wp_borO (by with_unfolding_all rfl) ?_)
  | (with_reducible refine wp_callL (by with_unfolding_all rfl) ?_)
  | (with_reducible refine wp_op2 ?_)
  | (with_reducible refine wp_op1 ?_)
  | (with_reducible refine wp_fnA ?_)
  | (with_reducible refine wp_cons ?_)
  | (with_reducible refine wp_nil ?_)
  | (with_reducible refine ws_seq ?_)
  | (with_reducible refine ws_set ?_)
  | (with_reducible refine ws_own ?_)
  | (with_reducible refine ws_ret ?_)
  | (with_reducible refine ws_ife ?_)
  | (with_reducible refine ws_nil ?_)
  | (with_reducible refine ws_for ?_)
  | (with_reducible refine ws_asg ?_)
  | (with_reducible refine wp_test ?_)
  | (with_reducible refine wp_tnot ?_)
  | (with_reducible refine wp_tand ?_)
  | (with_reducible refine wp_tor ?_)
  | (with_reducible refine wp_vand ?_)
  | (with_reducible refine wp_vor ?_)
  | (with_reducible refine wp_vnot ?_)
  | (with_reducible refine wp_ife ?_)
  | (with_reducible refine wp_chain ?_)
  | (with_reducible refine wp_addI ?_)
  | (with_reducible refine wp_subI ?_)
  | (with_reducible refine wp_ltI ?_)
  | (with_reducible refine wp_leI ?_)
  | (with_reducible refine wp_gtI ?_)
  | (with_reducible refine wp_geI ?_)
  | (with_reducible refine wp_eqI ?_)
  | (with_reducible refine wp_neI ?_)
  | (with_reducible refine wp_neB ?_)
  | (with_reducible refine wp_lenL ?_)
  | (with_reducible refine wp_abs ?_)
  | (with_reducible refine wp_intB ?_)
  | (with_reducible refine wp_intI ?_)
  | (with_reducible refine wp_listL ?_)
  | (with_reducible refine wp_listT ?_)
  | (with_reducible refine wp_tupleL ?_)
  | (with_reducible refine wp_tupleT ?_)
  | (with_reducible refine wp_min ?_)
  | (with_reducible refine wp_max ?_)
  | (with_reducible refine wp_neg ?_)
  | (with_reducible refine wp_lenT ?_)
  | (with_reducible refine wp_slT ?_)
  | (with_reducible refine wp_slL ?_)
  | (with_reducible refine wp_sl ?_)
  | (with_reducible refine wp_noPart ?_)
  | (with_reducible refine wp_part ?_)
  | (with_reducible refine wp_its ?_)
  | (with_reducible refine wp_itS ?_)
  | (with_reducible refine wp_itL ?_)
  | (with_reducible refine wp_itT ?_)
  | (with_reducible refine wp_itsA ?_)
  | (with_reducible refine wp_lc ?_)
  | (with_reducible refine wp_yes ?_)
  | (with_reducible refine wp_tru ?_)
  | (with_reducible refine wp_inK ?_)
  | (with_reducible refine ⟨_, rfl, ?_⟩)
  | (with_reducible refine wp_isi (by with_unfolding_all rfl) (by with_unfolding_all decide) ?_)
  | (with_reducible refine iteK1 (by with_unfolding_all rfl) ?_)
  | (with_reducible refine iteK0 (by with_unfolding_all rfl) ?_)))
local macro_rules | `(tactic| walk_at "v") => `(tactic| repeat (first
  | (with_reducible refine wp_tup ?_)
  | (with_reducible refine wp_lst ?_)
  | (refine ⟨(by simp only [List.length_cons, List.length_nil, List.length_append]; decide), ?_⟩)
  | (with_reducible refine wp_c ?_)
  | (with_reducible refine wp_c0 ?_)
  | (with_reducible refine wp_var (by with_unfolding_all rfl) ?_)
  | (with_reducible refine wp_ixP (by with_unfolding_all rfl) ?_)
  | (with_reducible refine wp_borO (by with_unfolding_all rfl) ?_)
  | (with_reducible refine wp_callL (by with_unfolding_all rfl) ?_)
  | (with_reducible refine wp_op2 ?_)
  | (with_reducible refine wp_op1 ?_)
  | (with_reducible refine wp_fnA ?_)
  | (with_reducible refine wp_cons ?_)
  | (with_reducible refine wp_nil ?_)
  | (with_reducible refine ws_seq ?_)
  | (with_reducible refine ws_set ?_)
  | (with_reducible refine ws_own ?_)
  | (with_reducible refine ws_ret ?_)
  | (with_reducible refine ws_ife ?_)
  | (with_reducible refine ws_nil ?_)
  | (with_reducible refine ws_for ?_)
  | (with_reducible refine ws_asg ?_)
  | (with_reducible refine wp_test ?_)
  | (with_reducible refine wp_tnot ?_)
  | (with_reducible refine wp_tand ?_)
  | (with_reducible refine wp_tor ?_)
  | (with_reducible refine wp_vand ?_)
  | (with_reducible refine wp_vor ?_)
  | (with_reducible refine wp_vnot ?_)
  | (with_reducible refine wp_ife ?_)
  | (with_reducible refine wp_chain ?_)
  | (with_reducible refine wp_addI ?_)
  | (with_reducible refine wp_subI ?_)
  | (with_reducible refine wp_ltI ?_)
  | (with_reducible refine wp_leI ?_)
  | (with_reducible refine wp_gtI ?_)
  | (with_reducible refine wp_geI ?_)
  | (with_reducible refine wp_eqI ?_)
  | (with_reducible refine wp_neI ?_)
  | (with_reducible refine wp_neB ?_)
  | (with_reducible refine wp_lenL ?_)
  | (with_reducible refine wp_abs ?_)
  | (with_reducible refine wp_intB ?_)
  | (with_reducible refine wp_intI ?_)
  | (with_reducible refine wp_listL ?_)
  | (with_reducible refine wp_listT ?_)
  | (with_reducible refine wp_tupleL ?_)
  | (with_reducible refine wp_tupleT ?_)
  | (with_reducible refine wp_min ?_)
  | (with_reducible refine wp_max ?_)
  | (with_reducible refine wp_neg ?_)
  | (with_reducible refine wp_lenT ?_)
  | (with_reducible refine wp_slT ?_)
  | (with_reducible refine wp_slL ?_)
  | (with_reducible refine wp_sl ?_)
  | (with_reducible refine wp_noPart ?_)
  | (with_reducible refine wp_part ?_)
  | (with_reducible refine wp_its ?_)
  | (with_reducible refine wp_itS ?_)
  | (with_reducible refine wp_itL ?_)
  | (with_reducible refine wp_itT ?_)
  | (with_reducible refine wp_itsA ?_)
  | (with_reducible refine wp_lc ?_)
  | (with_reducible refine wp_yes ?_)
  | (with_reducible refine wp_tru ?_)
  | (with_reducible refine wp_inK ?_)
  | (with_reducible refine ⟨_, rfl, ?_⟩)
  | (with_reducible refine wp_isi (by with_unfolding_all rfl) (by with_unfolding_all decide) ?_)
  | (with_reducible refine iteK1 (by with_unfolding_all rfl) ?_)
  | (with_reducible refine iteK0 (by with_unfolding_all rfl) ?_)))
theorem app_ok {x y : Str} (hx : PyData.strOk x = true) (hy : PyData.strOk y = true) : PyData.strOk (x ++ y) = true ∧ (x ++ y).length = x.length + y.length := by
  have e : (x ++ y).cps.toList = x.cps.toList ++ y.cps.toList := TL.tl_append x y
  refine ⟨?_, by rw [← str_len', e, List.length_append, str_len', str_len']⟩
  rw [strOk_iff, e]
  intro c hc
  rcases List.mem_append.mp hc with h | h
  · exact strOk_iff.mp hx c h
  · exact strOk_iff.mp hy c h
theorem cut_ok {x : Str} {lo hi : Option Int} (hx : PyData.strOk x = true) : PyData.strOk (cutS x lo hi) = true ∧ (cutS x lo hi).length ≤ x.length := by
  have e : (cutS x lo hi).cps.toList = (x.cps.toList.drop (HT.sIx x.length 0 lo)).take (HT.sIx x.length x.length hi - HT.sIx x.length 0 lo) := by
    unfold cutS
    simp
  refine ⟨?_, ?_⟩
  · rw [strOk_iff, e]
    intro c hc
    exact strOk_iff.mp hx c (List.mem_of_mem_drop (List.mem_of_mem_take hc))
  · rw [← str_len', e, List.length_take, List.length_drop, str_len']
    omega
theorem any_name_ok {n : Nat} {ms : MS} {Q : D → MS → Prop} (P : PotOk n ms) (hn : n + 20 < 2 ^ 40) (q : ∀ (z : Str) ms', okS z → PotOk (n + 12) ms' → Q (.str z) ms') : Wp (m__law_any_name [.pot] ms) Q := by
  unfold m__law_any_name
  with_reducible refine wp_mir ?_
  walk_at "w"
  with_reducible refine wp_lst ?_
  walk_at "w"
  refine take_ok P (by omega) (by decide) (by decide) fun r1 ms1 a0 a1 P1 => ?_
  walk_at "w"
  refine ⟨by simp, ?_⟩
  walk_at "w"
  refine take_ok P1 (by omega) (by decide) (by decide) fun r2 ms2 b0 b1 P2 => ?_
  walk_at "w"
  refine wp_ixLd b0 (by simp; omega) fun d hd => ?_
  have hm : ∃ m : Int, d = .int m ∧ 1 ≤ m ∧ m ≤ 7 := by
    simp only [List.mem_cons, List.not_mem_nil, or_false] at hd
    rcases hd with h | h | h | h
    · exact ⟨1 + r1, h, by omega, by omega⟩
    · exact ⟨6, h, by omega, by omega⟩
    · exact ⟨7, h, by omega, by omega⟩
    · exact ⟨1, h, by omega, by omega⟩
  obtain ⟨m, rfl, m1, m7⟩ := hm
  walk_at "w"
  refine letters_ok P2 (by omega) (by omega) m7 fun z ms3 hz hs P3 => ?_
  walk_at "w"
  refine take_ok P3 (by omega) (by decide) (by decide) fun way ms4 c0 c1 P4 => ?_
  walk_at "w"
  refine take_ok P4 (by omega) (by omega) (by have : (2 : Int) ^ 9000 > 7 := by decide
                                              omega) fun at_ ms5 d0 d1 P5 => ?_
  walk_at "w"
  with_reducible refine wp_lst ?_
  walk_at "w"
  refine ⟨by simp, ?_⟩
  walk_at "w"
  refine take_ok P5 (by omega) (by decide) (by decide) fun r6 ms6 e0 e1 P6 => ?_
  walk_at "w"
  refine wp_ixLd e0 (by simp; omega) fun d hd => ?_
  have ho : ∃ o : Str, d = .str o ∧ o.length = 1 ∧ PyData.strOk o = true := by
    simp only [List.mem_cons, List.not_mem_nil, or_false] at hd
    rcases hd with h | h | h | h | h | h | h | h <;> exact ⟨_, h, by decide +kernel, by decide +kernel⟩
  obtain ⟨o, rfl, ol, os⟩ := ho
  walk_at "w"
  with_reducible refine wp_lst ?_
  walk_at "w"
  have hz7 : z.length ≤ 7 := by omega
  refine wp_slS (by omega) ?_
  obtain ⟨s1, l1⟩ := cut_ok (lo := none) (hi := some at_) hs
  refine wp_addS (by omega) ?_
  obtain ⟨s2, l2⟩ := app_ok s1 os
  walk_at "w"
  refine wp_slS (by omega) ?_
  obtain ⟨s3, l3⟩ := cut_ok (lo := some (at_ + 1)) (hi := none) hs
  refine wp_addS (by omega) ?_
  obtain ⟨s4, l4⟩ := app_ok s2 s3
  walk_at "w"
  refine ⟨by simp, ?_⟩
  walk_at "w"
  have hi : 0 ≤ (if (2 : Int) < way then (2 : Int) else way) ∧ (if (2 : Int) < way then (2 : Int) else way) < 3 := by split <;> omega
  refine wp_ixLd hi.1 hi.2 fun d hd => ?_
  have hd : d = .str "" ∨ d = .str (cutS z none (some at_) ++ o ++ cutS z (some (at_ + 1)) none) ∨ d = .str z := by
    simpa only [List.mem_cons, List.not_mem_nil, or_false] using hd
  rcases hd with h | h | h
  · subst h
    exact q _ _ ⟨by decide +kernel, by decide +kernel⟩ (P6.mono (by omega))
  · subst h
    exact q _ _ ⟨by omega, s4⟩ (P6.mono (by omega))
  · subst h
    exact q _ _ ⟨by omega, hs⟩ (P6.mono (by omega))
/-- a leaf: plain things, at most two deep -/
theorem okD_S {n : Nat} {z : Str} (h : okS z) : okD n (.str z) := by
  have : z.length ≤ 1000 ∧ PyData.strOk z = true := ⟨Nat.le_trans h.1 (by decide), h.2⟩
  cases n <;> exact this
theorem okD_I {n : Nat} {i : Int} : okD n (.int i) := by cases n <;> trivial
theorem okD_B {n : Nat} {i : Bool} : okD n (.bl i) := by cases n <;> trivial
theorem okD_N {n : Nat} : okD n .non := by cases n <;> trivial
theorem okD_D {n : Nat} {ks : List Key} {ds : List D} : okD n (.dct ks ds) := by cases n <;> trivial
theorem okD_T {n : Nat} {ds : List D} (hl : ds.length ≤ 1000) (h : ∀ d ∈ ds, okD n d) : okD (n + 1) (.tup ds) := ⟨hl, h⟩
theorem okD_L {n : Nat} {ds : List D} (hl : ds.length ≤ 1000) (h : ∀ d ∈ ds, okD n d) : okD (n + 1) (.lst ds) := ⟨hl, h⟩
theorem okD_mono : ∀ {n : Nat} {d : D}, okD n d → okD (n + 1) d
  | _, .non, _ => trivial
  | _, .bl _, _ => trivial
  | _, .int _, _ => trivial
  | n, .str x, h => by cases n <;> exact h
  | n + 1, .tup ds, h => ⟨h.1, fun d hd => okD_mono (h.2 d hd)⟩
  | n + 1, .lst ds, h => ⟨h.1, fun d hd => okD_mono (h.2 d hd)⟩
  | 0, .tup ds, h => h.elim
  | 0, .lst ds, h => h.elim
  | _, .dct _ _, _ => trivial
  | n, .pot, h => by cases n <;> exact h.elim
  | n, .fn _, h => by cases n <;> exact h.elim
  | n, .ty _, h => by cases n <;> exact h.elim
theorem okD_le {n m : Nat} {d : D} (h : okD n d) (hm : n ≤ m) : okD m d := by
  induction m with
  | zero =>
    have : n = 0 := by omega
    subst this
    exact h
  | succ m ih =>
    by_cases e : n = m + 1
    · subst e
      exact h
    · exact okD_mono (ih (by omega))
theorem at_okS : okS "at" := ⟨by decide +kernel, by decide +kernel⟩
theorem okD_2 {n : Nat} {a b : D} (ha : okD n a) (hb : okD n b) : okD (n + 1) (.tup [a, b]) := okD_T (by simp) fun d hd => by
  simp only [List.mem_cons, List.not_mem_nil, or_false] at hd
  rcases hd with h | h <;> subst h <;> assumption
theorem okD_3 {n : Nat} {a b c : D} (ha : okD n a) (hb : okD n b) (hc : okD n c) : okD (n + 1) (.tup [a, b, c]) := okD_T (by simp) fun d hd => by
  simp only [List.mem_cons, List.not_mem_nil, or_false] at hd
  rcases hd with h | h | h <;> subst h <;> assumption
theorem leaf_ok {n : Nat} {ms : MS} {Q : D → MS → Prop} (P : PotOk n ms) (hn : n + 40 < 2 ^ 40) (q : ∀ d ms', okD 1 d → PotOk (n + 20) ms' → Q d ms') : Wp (m__law_leaf [.pot] ms) Q := by
  unfold m__law_leaf
  with_reducible refine wp_mir ?_
  walk_at "w"
  refine take_ok P (by omega) (by decide) (by decide) fun way ms1 a0 a1 P1 => ?_
  walk_at "w"
  refine ite2 (fun h1 => ?_) (fun h1 => ?_)
  · walk_at "w"
    refine take_ok P1 (by omega) (by decide) (by decide) fun r2 ms2 b0 b1 P2 => ?_
    walk_at "w"
    refine letters_ok P2 (by omega) (by omega) (by omega) fun z ms3 hz hs P3 => ?_
    exact q _ _ (okD_S ⟨by omega, hs⟩) (P3.mono (by omega))
  walk_at "w"
  refine ite2 (fun h2 => ?_) (fun h2 => ?_)
  · have h1 : ¬ way < 4 := of_decide_eq_false (Bool.eq_false_iff.mpr h1)
    have h2 : way < 8 := of_decide_eq_true h2
    walk_at "w"
    with_reducible refine wp_lst ?_
    walk_at "w"
    refine take_ok P1 (by omega) (by decide) (by decide) fun r2 ms2 b0 b1 P2 => ?_
    walk_at "w"
    refine ⟨by simp, ?_⟩
    walk_at "w"
    refine wp_ixLd (by omega) (by simp; omega) fun d hd => ?_
    simp only [List.mem_cons, List.not_mem_nil, or_false] at hd
    rcases hd with h | h | h | h <;> subst h <;> exact q _ _ okD_I (P2.mono (by omega))
  walk_at "w"
  refine ite2 (fun h3 => ?_) (fun h3 => ?_)
  · walk_at "w"
    with_reducible refine wp_tup ?_
    walk_at "w"
    refine take_ok P1 (by omega) (by decide) (by decide) fun r2 ms2 b0 b1 P2 => ?_
    walk_at "w"
    exact ⟨by simp, q _ _ (okD_2 (okD_S at_okS) okD_I) (P2.mono (by omega))⟩
  walk_at "w"
  with_reducible refine wp_lst ?_
  walk_at "w"
  refine any_name_ok P1 (by omega) fun z ms2 hz P2 => ?_
  walk_at "w"
  with_reducible refine wp_tup ?_
  walk_at "w"
  refine ⟨by simp, ?_⟩
  walk_at "w"
  refine wp_powI (j := 39) (n := 4) (by decide) (by decide) ?_
  walk_at "w"
  refine ⟨by simp, ?_⟩
  walk_at "w"
  refine take_ok P2 (by omega) (by decide) (by decide) fun r3 ms3 c0 c1 P3 => ?_
  walk_at "w"
  refine wp_ixLd c0 (by simp; omega) fun d hd => ?_
  simp only [List.mem_cons, List.not_mem_nil, or_false] at hd
  have P3 := P3.mono (show n + 1 + 12 + 1 ≤ n + 20 by omega)
  rcases hd with h | h | h | h | h | h <;> subst h
  · exact q _ _ okD_I P3
  · exact q _ _ okD_I P3
  · exact q _ _ okD_B P3
  · exact q _ _ (okD_S hz) P3
  · exact q _ _ (okD_2 (okD_S at_okS) okD_I) P3
  · exact q _ _ okD_I P3
end K01

set_option Elab.async false
set_option linter.all false
set_option maxRecDepth 100000
set_option maxHeartbeats 1000000
namespace K01
open PySem L2 PyProof.Rows Q
local macro_rules | `(tactic| walk_at "w") => `(tactic| repeat (first
  | (with_reducible refine wp_c ?_)
  | (with_reducible refine wp_c0 ?_)
  | (with_reducible refine wp_var (by with_unfolding_all rfl) ?_)
  | (with_reducible refine wp_ixP (by with_unfolding_all rfl) ?_)
  | (with_reducible refine wp_borO (by with_unfolding_all rfl) ?_)
  | (with_reducible refine wp_callL (by with_unfolding_all rfl) ?_)
  | (with_reducible refine wp_op2 ?_)
  | (with_reducible refine wp_op1 ?_)
  | (with_reducible refine wp_fnA ?_)
  | (with_reducible refine wp_cons ?_)
  | (with_reducible refine wp_nil ?_)
  | (with_reducible refine ws_seq ?_)
  | (with_reducible refine ws_set ?_)
  | (with_reducible refine ws_own ?_)
  | (with_reducible refine ws_ret ?_)
  | (with_reducible refine ws_ife ?_)
  | (with_reducible refine ws_nil ?_)
  | (with_reducible refine ws_for ?_)
  | (with_reducible refine ws_asg ?_)
  | (with_reducible refine wp_test ?_)
  | (with_reducible refine wp_tnot ?_)
  | (with_reducible refine wp_tand ?_)
  | (with_reducible refine wp_tor ?_)
  | (with_reducible refine wp_vand ?_)
  | (with_reducible refine wp_vor ?_)
  | (with_reducible refine wp_vnot ?_)
  | (with_reducible refine wp_ife ?_)
  | (with_reducible refine wp_chain ?_)
  | (with_reducible refine wp_addI ?_)
  | (with_reducible refine wp_subI ?_)
  | (with_reducible refine wp_ltI ?_)
  | (with_reducible refine wp_leI ?_)
  | (with_reducible refine wp_gtI ?_)
  | (with_reducible refine wp_geI ?_)
  | (with_reducible refine wp_eqI ?_)
  | (with_reducible refine wp_neI ?_)
  | (with_reducible refine wp_neB ?_)
  | (with_reducible refine wp_lenL ?_)
  | (with_reducible refine wp_abs ?_)
  | (with_reducible refine wp_intB ?_)
  | (with_reducible refine wp_intI ?_)
  | (with_reducible refine wp_listL ?_)
  | (with_reducible refine wp_listT ?_)
  | (with_reducible refine wp_tupleL ?_)
  | (with_reducible refine wp_tupleT ?_)
  | (with_reducible refine wp_min ?_)
  | (with_reducible refine wp_max ?_)
  | (with_reducible refine wp_neg ?_)
  | (with_reducible refine wp_lenT ?_)
  | (with_reducible refine wp_slT ?_)
  | (with_reducible refine wp_slL ?_)
  | (with_reducible refine wp_sl ?_)
  | (with_reducible refine wp_noPart ?_)
  | (with_reducible refine wp_part ?_)
  | (with_reducible refine wp_its ?_)
  | (with_reducible refine wp_itS ?_)
  | (with_reducible refine wp_itL ?_)
  | (with_reducible refine wp_itT ?_)
  | (with_reducible refine wp_itsA ?_)
  | (with_reducible refine wp_lc ?_)
  | (with_reducible refine wp_yes ?_)
  | (with_reducible refine wp_tru ?_)
  | (with_reducible refine wp_inK ?_)
  | (with_reducible refine ⟨_, rfl, ?_⟩)
  | (with_reducible refine wp_isi (by with_unfolding_all rfl) (by with_unfolding_all decide) ?_)
  | (with_reducible refine iteK1 (by with_unfolding_all rfl) ?_)
  | (with_reducible refine iteK0 (by with_unfolding_all rfl) ?_)))
local macro_rules | `(tactic| walk_at "v") => `(tactic| repeat (first
  | (with_reducible refine wp_tup ?_)
  | (with_reducible refine wp_lst ?_)
  | (refine ⟨(by simp only [List.length_cons, List.length_nil, List.length_append]; decide), ?_⟩)
  | (with_reducible refine wp_c ?_)
  | (with_reducible refine wp_c0 ?_)
  | (with_reducible refine wp_var (by with_unfolding_all rfl) ?_)
  | (with_reducible refine wp_ixP (by with_unfolding_all rfl) ?_)
  | (with_reducible refine wp_borO (by with_unfolding_all rfl) ?_)
  | (with_reducible refine wp_callL (by with_unfolding_all rfl) ?_)
  | (with_reducible refine wp_op2 ?_)
  | (with_reducible refine wp_op1 ?_)
  | (with_reducible refine wp_fnA ?_)
  | (with_reducible refine wp_cons ?_)
  | (with_reducible refine wp_nil ?_)
  | (with_reducible refine ws_seq ?_)
  | (with_reducible refine ws_set ?_)
  | (with_reducible refine ws_own ?_)
  | (with_reducible refine ws_ret ?_)
  | (with_reducible refine ws_ife ?_)
  | (with_reducible refine ws_nil ?_)
  | (with_reducible refine ws_for ?_)
  | (with_reducible refine ws_asg ?_)
  | (with_reducible refine wp_test ?_)
  | (with_reducible refine wp_tnot ?_)
  | (with_reducible refine wp_tand ?_)
  | (with_reducible refine wp_tor ?_)
  | (with_reducible refine wp_vand ?_)
  | (with_reducible refine wp_vor ?_)
  | (with_reducible refine wp_vnot ?_)
  | (with_reducible refine wp_ife ?_)
  | (with_reducible refine wp_chain ?_)
  | (with_reducible refine wp_addI ?_)
  | (with_reducible refine wp_subI ?_)
  | (with_reducible refine wp_ltI ?_)
  | (with_reducible refine wp_leI ?_)
  | (with_reducible refine wp_gtI ?_)
  | (with_reducible refine wp_geI ?_)
  | (with_reducible refine wp_eqI ?_)
  | (with_reducible refine wp_neI ?_)
  | (with_reducible refine wp_neB ?_)
  | (with_reducible refine wp_lenL ?_)
  | (with_reducible refine wp_abs ?_)
  | (with_reducible refine wp_intB ?_)
  | (with_reducible refine wp_intI ?_)
  | (with_reducible refine wp_listL ?_)
  | (with_reducible refine wp_listT ?_)
  | (with_reducible refine wp_tupleL ?_)
  | (with_reducible refine wp_tupleT ?_)
  | (with_reducible refine wp_min ?_)
  | (with_reducible refine wp_max ?_)
  | (with_reducible refine wp_neg ?_)
  | (with_reducible refine wp_lenT ?_)
  | (with_reducible refine wp_slT ?_)
  | (with_reducible refine wp_slL ?_)
  | (with_reducible refine wp_sl ?_)
  | (with_reducible refine wp_noPart ?_)
  | (with_reducible refine wp_part ?_)
  | (with_reducible refine wp_its ?_)
  | (with_reducible refine wp_itS ?_)
  | (with_reducible refine wp_itL ?_)
  | (with_reducible refine wp_itT ?_)
  | (with_reducible refine wp_itsA ?_)
  | (with_reducible refine wp_lc ?_)
  | (with_reducible refine wp_yes ?_)
  | (with_reducible refine wp_tru ?_)
  | (with_reducible refine wp_inK ?_)
  | (with_reducible refine ⟨_, rfl, ?_⟩)
  | (with_reducible refine wp_isi (by with_unfolding_all rfl) (by with_unfolding_all decide) ?_)
  | (with_reducible refine iteK1 (by with_unfolding_all rfl) ?_)
  | (with_reducible refine iteK0 (by with_unfolding_all rfl) ?_)))
/-! ### what the two lookers answer -/
theorem keep1 {r : R D} {b : Bool} {ms : MS} (h : Wp r fun d ms' => d = .bl b ∧ ms' = ms) : r = .ok (.bl b) ms := by
  obtain ⟨x, ms', e, rfl, rfl⟩ := h.ex
  exact e
def wholeB : D → Bool
  | .int _ => true
  | _ => false
theorem isi_le {d : D} {a t : Ty} {ms : MS} (h : tyOf d = some a) (ht : t ≠ .non) : gIsi [d, .ty t] ms = .ok (.bl (a.le t)) ms := by
  obtain ⟨x, ms', e, rfl, rfl⟩ := (wp_isi (Q := fun d' ms' => d' = .bl (a.le t) ∧ ms' = ms) h ht ⟨rfl, rfl⟩).ex
  exact e
theorem okD_ty {n : Nat} {d : D} (h : okD n d) : ∃ a, tyOf d = some a := by
  cases d with
  | pot => cases n <;> exact h.elim
  | fn a => cases n <;> exact h.elim
  | ty t => cases n <;> exact h.elim
  | _ => exact ⟨_, rfl⟩
theorem is_whole_eq {n : Nat} {d : D} {ms : MS} (h : okD n d) : m_is_whole [d] ms = .ok (.bl (wholeB d)) ms := by
  obtain ⟨a, ha⟩ := okD_ty h
  refine keep1 (wp_mir ?_)
  walk_at "w"
  refine wp_isi ha (by decide) ?_
  cases d with
  | pot => cases ha
  | fn a => cases ha
  | ty t => cases ha
  | _ =>
    cases ha
    walk_at "w"
    exact ⟨rfl, rfl⟩
def btwB (lo hi : Int) : D → Bool
  | .int i => decide (lo ≤ i ∧ i ≤ hi)
  | _ => false
theorem is_between_eq {n : Nat} {d : D} {lo hi : Int} {ms : MS} (h : okD n d) : m_is_between [d, .int lo, .int hi] ms = .ok (.bl (btwB lo hi d)) ms := by
  refine keep1 (wp_mir ?_)
  walk_at "w"
  refine wp_eq (is_whole_eq h) ?_
  cases d with
  | int i =>
    walk_at "w"
    refine ite2 (fun h => ?_) (fun h => ?_)
    · have h := of_decide_eq_true h
      walk_at "w"
      refine ⟨?_, rfl⟩
      show D.bl _ = D.bl (decide (lo ≤ i ∧ i ≤ hi))
      by_cases h' : i ≤ hi
      · rw [decide_eq_true h', decide_eq_true ⟨h, h'⟩]
      · rw [decide_eq_false h', decide_eq_false (fun z => h' z.2)]
    · refine ⟨?_, rfl⟩
      have h := of_decide_eq_false (Bool.eq_false_iff.mpr h)
      show D.bl _ = D.bl (decide (lo ≤ i ∧ i ≤ hi))
      rw [decide_eq_false (fun z => h z.1)]
  | pot => cases n <;> exact h.elim
  | fn a => cases n <;> exact h.elim
  | ty t => cases n <;> exact h.elim
  | _ =>
    walk_at "w"
    exact ⟨rfl, rfl⟩
theorem is_worth_eq {n : Nat} {d : D} {ms : MS} (h : okD n d) : m_is_worth [d] ms = .ok (.bl (btwB 0 996 d)) ms := by
  refine keep1 (wp_mir ?_)
  walk_at "w"
  refine wp_eq (is_between_eq h) ⟨rfl, rfl⟩
theorem is_cell_eq {n : Nat} {d : D} {ms : MS} (h : okD n d) : m_is_cell [d] ms = .ok (.bl (btwB 0 7 d)) ms := by
  refine keep1 (wp_mir ?_)
  walk_at "w"
  unfold d_CELLS
  walk_at "w"
  exact wp_eq (is_between_eq h) ⟨rfl, rfl⟩
theorem within_eq {n : Nat} {d : D} {hi : Int} {ms : MS} (h : okD n d) : m__law_within [d, .int hi] ms = .ok (.bl (btwB 0 hi d)) ms := by
  obtain ⟨a, ha⟩ := okD_ty h
  refine keep1 (wp_mir ?_)
  walk_at "w"
  refine wp_isi ha (by decide) ?_
  cases d with
  | int i =>
    cases ha
    walk_at "w"
    refine ite2 (fun h => ?_) (fun h => ?_)
    · have h := of_decide_eq_true h
      walk_at "w"
      refine ⟨?_, rfl⟩
      show D.bl _ = D.bl (decide (0 ≤ i ∧ i ≤ hi))
      by_cases h' : i ≤ hi
      · rw [decide_eq_true h', decide_eq_true ⟨h, h'⟩]
      · rw [decide_eq_false h', decide_eq_false (fun z => h' z.2)]
    · refine ⟨?_, rfl⟩
      have h := of_decide_eq_false (Bool.eq_false_iff.mpr h)
      show D.bl _ = D.bl (decide (0 ≤ i ∧ i ≤ hi))
      rw [decide_eq_false (fun z => h z.1)]
  | pot => cases ha
  | fn a => cases ha
  | ty t => cases ha
  | bl b =>
    cases ha
    walk_at "w"
    exact ⟨rfl, rfl⟩
  | _ =>
    cases ha
    walk_at "w"
    exact ⟨rfl, rfl⟩
/-! ### names -/
def letters : List Nat := (Str.ofString "abcdefghijklmnopqrstuvwxyz").cps.toList
def nameS (x : Str) : Bool := decide (1 ≤ (x.length : Int)) && decide ((x.length : Int) ≤ 6) && x.cps.toList.all fun c => decide (c ∈ letters)
def nameB : D → Bool
  | .str x => nameS x
  | _ => false
theorem str_len (x : Str) : x.cps.toList.length = x.length := by
  show x.cps.toList.length = x.cps.size
  simp
theorem chars_len (x : Str) : (chars x).length = x.length := by
  unfold chars
  rw [List.length_map, str_len]
theorem filt_all {α : Type} (p : Nat → Bool) (f : Nat → α) : ∀ l : List Nat, ((l.filter fun c => !p c).map f).isEmpty = l.all p
  | [] => rfl
  | c :: l => by
    rw [List.all_cons, List.filter_cons]
    cases h : p c with
    | true =>
      rw [if_neg (by simp), Bool.true_and]
      exact filt_all p f l
    | false => simp
theorem str1_ok {x : Str} {c : Nat} (h : PyData.strOk x = true) (hc : c ∈ x.cps.toList) : PyData.strOk ⟨#[c]⟩ = true := by
  unfold PyData.strOk at h ⊢
  have h1 := Array.all_eq_true_iff_forall_mem.mp h c (by simpa using hc)
  rw [Array.all_eq_true_iff_forall_mem]
  intro y hy
  have : y = c := by simpa using hy
  rw [this]
  exact h1
theorem is_name_eq {n : Nat} {d : D} {ms : MS} (h : okD n d) : m_is_name [d] ms = .ok (.bl (nameB d)) ms := by
  obtain ⟨a, ha⟩ := okD_ty h
  refine keep1 (wp_mir ?_)
  walk_at "w"
  refine wp_isi ha (by decide) ?_
  cases d with
  | str x =>
    have hx : x.length ≤ 1000 := by cases n <;> exact h.1
    cases ha
    walk_at "w"
    refine wp_lenS (by omega) ?_
    walk_at "w"
    show if decide ((1 : Int) ≤ (x.length : Int)) = true then _ else _
    refine ite2 (fun h1 => ?_) (fun h1 => ?_)
    · walk_at "w"
      show if (!decide ((x.length : Int) ≤ 6)) = true then _ else _
      refine ite2 (fun h2 => ?_) (fun h2 => ?_)
      · walk_at "w"
        refine ⟨?_, rfl⟩
        show D.bl false = D.bl (nameS x)
        unfold nameS
        have h2 : decide ((x.length : Int) ≤ 6) = false := by simpa using h2
        rw [h2]
        simp
      · walk_at "w"
        refine wp_eq (lcRun_map (f := fun c => .bl (decide (c ∈ letters))) (by rw [str_len]; omega) fun c hc => ⟨_, by rfl, keep1 ?_⟩) ?_
        · walk_at "w"
          exact wp_inS ⟨rfl, rfl⟩
        · refine wp_all (allB_map _ _) ?_
          refine ⟨?_, rfl⟩
          show D.bl _ = D.bl (nameS x)
          have h2 : decide ((x.length : Int) ≤ 6) = true := by simpa using h2
          unfold nameS
          rw [h1, h2]
          rfl
    · walk_at "w"
      refine ⟨?_, rfl⟩
      show D.bl false = D.bl (nameS x)
      have h1 : decide (1 ≤ (x.length : Int)) = false := by simpa using h1
      unfold nameS
      rw [h1]
      rfl
  | pot => cases ha
  | fn a => cases ha
  | ty t => cases ha
  | _ =>
    cases ha
    walk_at "w"
    exact ⟨rfl, rfl⟩
theorem name_due_eq {n : Nat} {d : D} {ms : MS} (h : okD n d) : m__law_name_due [d] ms = .ok (.bl (nameB d)) ms := by
  obtain ⟨a, ha⟩ := okD_ty h
  refine keep1 (wp_mir ?_)
  walk_at "w"
  refine wp_isi ha (by decide) ?_
  cases d with
  | str x =>
    have hx : x.length ≤ 1000 := by cases n <;> exact h.1
    have hs : PyData.strOk x = true := by cases n <;> exact h.2
    cases ha
    walk_at "w"
    refine wp_lenS (by omega) ?_
    walk_at "w"
    show if decide ((1 : Int) ≤ (x.length : Int)) = true then _ else _
    refine ite2 (fun h1 => ?_) (fun h1 => ?_)
    · walk_at "w"
      show if (!decide ((x.length : Int) ≤ 6)) = true then _ else _
      refine ite2 (fun h2 => ?_) (fun h2 => ?_)
      · walk_at "w"
        refine ⟨?_, rfl⟩
        show D.bl false = D.bl (nameS x)
        unfold nameS
        have h2 : decide ((x.length : Int) ≤ 6) = false := by simpa using h2
        rw [h2]
        simp
      · walk_at "w"
        refine wp_eq (lcRun_fm (p := fun c => !decide (c ∈ letters)) (f := fun c => .str ⟨#[c]⟩) x.cps.toList [] (by rw [str_len]; simp; omega) fun c hc => ⟨_, by rfl, by rfl, fun _ => by rfl⟩) ?_
        · rw [List.nil_append]
          refine wp_lst ?_
          walk_at "w"
          refine ⟨by simp, ?_⟩
          have hp : plainD 1 (.lst ((x.cps.toList.filter fun c => !decide (c ∈ letters)).map fun c => D.str ⟨#[c]⟩)) := by
            intro d hd
            obtain ⟨c, hc, rfl⟩ := List.mem_map.mp hd
            exact str1_ok hs (List.mem_filter.mp hc).1
          refine wp_eqP (n := 1) (n' := 1) hp (fun d hd => by cases hd) (by decide) (by decide) ⟨?_, rfl⟩
          rw [eqv_nil hp]
          show D.bl _ = D.bl (nameS x)
          have h2 : decide ((x.length : Int) ≤ 6) = true := by simpa using h2
          unfold nameS
          rw [h1, h2]
          rw [filt_all]
          rfl
    · walk_at "w"
      refine ⟨?_, rfl⟩
      show D.bl false = D.bl (nameS x)
      have h1 : decide (1 ≤ (x.length : Int)) = false := by simpa using h1
      unfold nameS
      rw [h1]
      rfl
  | pot => cases ha
  | fn a => cases ha
  | ty t => cases ha
  | _ =>
    cases ha
    walk_at "w"
    exact ⟨rfl, rfl⟩
/-! ### terms -/
def opKeys : List Str := ["+", "-", "*", "/", "<", "="]
def atS : Str := "at"
def atB : D → Bool
  | .tup [.str x, e] => x == atS && btwB 0 7 e
  | _ => false
def three (g : D → Bool) : D → Bool
  | .tup [.str o, a, b] => decide (o ∈ opKeys) && g a && g b
  | _ => false
def base (d : D) : Bool := btwB 0 996 d || nameB d || atB d
def tB : Nat → D → Bool
  | 0, d => base d
  | k + 1, d => base d || three (tB k) d
theorem okD_mem {n : Nat} {ds : List D} {d : D} (h : okD n (.tup ds)) (hd : d ∈ ds) : ∃ m, n = m + 1 ∧ okD m d := by
  cases n with
  | zero => exact h.elim
  | succ m => exact ⟨m, rfl, h.2 d hd⟩
theorem okD_str {n : Nat} {x : Str} (h : okD n (.str x)) : x.length ≤ 1000 ∧ PyData.strOk x = true := by cases n <;> exact h
theorem atB_ne {ds : List D} (h : ds.length ≠ 2) : atB (.tup ds) = false := by
  unfold atB
  split
  · rename_i e
    cases e
    exact absurd rfl h
  · rfl
theorem len_eq {ds : List D} {k : Nat} : (((ds.length : Nat) : Int) == (k : Int)) = decide (ds.length = k) := by
  rw [Bool.eq_iff_iff]
  simp
  omega
theorem two_of {ds : List D} (h : ds.length = 2) : ∃ x y, ds = [x, y] := by
  match ds, h with
  | [x, y], _ => exact ⟨x, y, rfl⟩
theorem three_of {ds : List D} (h : ds.length = 3) : ∃ x y z, ds = [x, y, z] := by
  match ds, h with
  | [x, y, z], _ => exact ⟨x, y, z, rfl⟩
theorem is_at_eq {n : Nat} {d : D} {ms : MS} (h : okD n d) : m_is_at [d] ms = .ok (.bl (atB d)) ms := by
  obtain ⟨a, ha⟩ := okD_ty h
  refine keep1 (wp_mir ?_)
  walk_at "w"
  refine wp_isi ha (by decide) ?_
  cases d with
  | tup ds =>
    cases ha
    walk_at "w"
    by_cases hl : ds.length = 2
    · obtain ⟨x, e, rfl⟩ := two_of hl
      walk_at "w"
      refine wp_ixT (by rfl) ?_
      walk_at "w"
      obtain ⟨m, rfl, hx⟩ := okD_mem h (d := x) (by simp)
      obtain ⟨m', hm, he⟩ := okD_mem h (d := e) (by simp)
      obtain ⟨ax, hax⟩ := okD_ty hx
      refine wp_isi hax (by decide) ?_
      cases x with
      | str z =>
        cases hax
        walk_at "w"
        refine wp_ixT (by rfl) ?_
        walk_at "w"
        refine wp_eqS (okD_str hx).2 (by decide +kernel) ?_
        walk_at "w"
        show if (z == atS) = true then _ else _
        refine ite2 (fun h1 => ?_) (fun h1 => ?_)
        · walk_at "w"
          refine wp_ixT (by rfl) ?_
          walk_at "w"
          refine wp_eq (is_cell_eq he) ⟨?_, rfl⟩
          show D.bl _ = D.bl (z == atS && btwB 0 7 e)
          rw [h1]
          rfl
        · refine ⟨?_, rfl⟩
          show D.bl _ = D.bl (z == atS && btwB 0 7 e)
          rw [Bool.eq_false_iff.mpr h1]
          rfl
      | pot => cases hax
      | fn a => cases hax
      | ty t => cases hax
      | _ =>
        cases hax
        walk_at "w"
        exact ⟨rfl, rfl⟩
    · show if (!(((ds.length : Nat) : Int) == ((2 : Nat) : Int))) = true then _ else _
      rw [len_eq, decide_eq_false hl]
      walk_at "w"
      exact ⟨by rw [atB_ne hl], rfl⟩
  | pot => cases ha
  | fn a => cases ha
  | ty t => cases ha
  | _ =>
    cases ha
    walk_at "w"
    exact ⟨rfl, rfl⟩
def opB : D → Bool
  | .str x => decide (x ∈ keys_OPS)
  | _ => false
theorem is_op_eq {n : Nat} {d : D} {ms : MS} (h : okD n d) : m_is_op [d] ms = .ok (.bl (opB d)) ms := by
  obtain ⟨a, ha⟩ := okD_ty h
  refine keep1 (wp_mir ?_)
  walk_at "w"
  refine wp_isi ha (by decide) ?_
  cases d with
  | pot => cases ha
  | fn a => cases ha
  | ty t => cases ha
  | _ =>
    cases ha
    walk_at "w"
    exact ⟨rfl, rfl⟩
theorem tB_base {d : D} {k : Nat} (h : base d = true) : tB k d = true := by
  cases k with
  | zero => exact h
  | succ k => show (base d || _) = true; rw [h]; rfl
theorem tB_succ {d : D} {k : Nat} (h : base d = false) : tB (k + 1) d = three (tB k) d := by
  show (base d || three (tB k) d) = _
  rw [h]
  rfl
/-- the program's looker, deep k -/
theorem term_with_eq (f : Addr) : ∀ (k fuel : Nat) (d : D) (n : Nat) (ms : MS), k < fuel → okD n d → m_is_term_with f fuel [d, .fn f, .int (k : Int)] ms = .ok (.bl (tB k d)) ms := by
  intro k
  induction k with
  | zero =>
    intro fuel d n ms hf h
    cases fuel with
    | zero => omega
    | succ fuel =>
      refine keep1 (wp_mir ?_)
      walk_at "w"
      refine wp_eq (is_worth_eq h) ?_
      walk_at "w"
      have done : base d = true → (D.bl true = D.bl (tB 0 d) ∧ ms = ms) := fun hb => ⟨by rw [tB_base hb], rfl⟩
      refine ite2 (fun h1 => ?_) (fun h1 => ?_)
      · walk_at "w"
        exact done (by unfold base; rw [h1]; rfl)
      walk_at "w"
      refine wp_eq (is_name_eq h) ?_
      walk_at "w"
      refine ite2 (fun h2 => ?_) (fun h2 => ?_)
      · walk_at "w"
        exact done (by unfold base; rw [h2]; simp)
      walk_at "w"
      refine wp_eq (is_at_eq h) ?_
      walk_at "w"
      refine ite2 (fun h3 => ?_) (fun h3 => ?_)
      · walk_at "w"
        exact done (by unfold base; rw [h3]; simp)
      walk_at "w"
      refine ⟨?_, rfl⟩
      show D.bl false = D.bl (base d)
      unfold base
      rw [Bool.eq_false_iff.mpr h1, Bool.eq_false_iff.mpr h2, Bool.eq_false_iff.mpr h3]
      rfl
  | succ k ih =>
    intro fuel d n ms hf h
    cases fuel with
    | zero => omega
    | succ fuel =>
      refine keep1 (wp_mir ?_)
      walk_at "w"
      refine wp_eq (is_worth_eq h) ?_
      walk_at "w"
      have done : base d = true → (D.bl true = D.bl (tB (k + 1) d) ∧ ms = ms) := fun hb => ⟨by rw [tB_base hb], rfl⟩
      refine ite2 (fun h1 => ?_) (fun h1 => ?_)
      · walk_at "w"
        exact done (by unfold base; rw [h1]; rfl)
      walk_at "w"
      refine wp_eq (is_name_eq h) ?_
      walk_at "w"
      refine ite2 (fun h2 => ?_) (fun h2 => ?_)
      · walk_at "w"
        exact done (by unfold base; rw [h2]; simp)
      walk_at "w"
      refine wp_eq (is_at_eq h) ?_
      walk_at "w"
      refine ite2 (fun h3 => ?_) (fun h3 => ?_)
      · walk_at "w"
        exact done (by unfold base; rw [h3]; simp)
      have hb : base d = false := by
        unfold base
        rw [Bool.eq_false_iff.mpr h1, Bool.eq_false_iff.mpr h2, Bool.eq_false_iff.mpr h3]
        rfl
      rw [tB_succ hb]
      walk_at "w"
      obtain ⟨a, ha⟩ := okD_ty h
      refine wp_isi ha (by decide) ?_
      cases d with
      | tup ds =>
        cases ha
        walk_at "w"
        by_cases hl : ds.length = 3
        · obtain ⟨x, y, z, rfl⟩ := three_of hl
          walk_at "w"
          refine wp_ixT (by rfl) ?_
          walk_at "w"
          obtain ⟨m, rfl, hx⟩ := okD_mem h (d := x) (by simp)
          obtain ⟨_, hm, hy⟩ := okD_mem h (d := y) (by simp)
          cases hm
          obtain ⟨_, hm, hz⟩ := okD_mem h (d := z) (by simp)
          cases hm
          refine wp_eq (is_op_eq hx) ?_
          walk_at "w"
          refine ite2 (fun h4 => ?_) (fun h4 => ?_)
          · walk_at "w"
            refine ⟨?_, rfl⟩
            have h4 : opB x = false := by simpa using h4
            cases x with
            | str o =>
              have h4 : decide (o ∈ opKeys) = false := h4
              show D.bl false = D.bl (decide (o ∈ opKeys) && tB k y && tB k z)
              rw [h4]
              rfl
            | _ => rfl
          · have h4 : opB x = true := by simpa using h4
            walk_at "w"
            have ek : ((k + 1 : Nat) : Int) - 1 = (k : Int) := by omega
            rw [ek]
            refine wp_eq (ih fuel y m ms (by omega) hy) ?_
            walk_at "w"
            cases x with
            | str o =>
              have h4 : decide (o ∈ opKeys) = true := h4
              refine ite2 (fun h5 => ?_) (fun h5 => ?_)
              · walk_at "w"
                have ek : ((k + 1 : Nat) : Int) - 1 = (k : Int) := by omega
                rw [ek]
                refine wp_eq (ih fuel z m ms (by omega) hz) ⟨?_, rfl⟩
                show D.bl _ = D.bl (decide (o ∈ opKeys) && tB k y && tB k z)
                rw [h4, h5]
                rfl
              · refine ⟨?_, rfl⟩
                show D.bl _ = D.bl (decide (o ∈ opKeys) && tB k y && tB k z)
                rw [h4, Bool.eq_false_iff.mpr h5]
                rfl
            | _ => cases h4
        · show if (!(((ds.length : Nat) : Int) == ((3 : Nat) : Int))) = true then _ else _
          rw [len_eq, decide_eq_false hl]
          walk_at "w"
          refine ⟨?_, rfl⟩
          unfold three
          split
          · rename_i e; cases e; exact absurd rfl hl
          · rfl
      | pot => cases ha
      | fn a => cases ha
      | ty t => cases ha
      | _ =>
        cases ha
        walk_at "w"
        exact ⟨rfl, rfl⟩
theorem is_term_eq (f : Addr) {n : Nat} {d : D} {ms : MS} (h : okD n d) : m_is_term f [d] ms = .ok (.bl (tB 5 d)) ms := by
  refine keep1 (wp_mir ?_)
  walk_at "w"
  exact wp_eq (term_with_eq f 5 7 d n ms (by decide) h) ⟨rfl, rfl⟩
end K01

set_option Elab.async false
set_option linter.all false
set_option maxRecDepth 100000
set_option maxHeartbeats 1000000
namespace K01
open PySem L2 PyProof.Rows Q
local macro_rules | `(tactic| walk_at "w") => `(tactic| repeat (first
  | (with_reducible refine wp_c ?_)
  | (with_reducible refine wp_c0 ?_)
  | (with_reducible refine wp_var (by with_unfolding_all rfl) ?_)
  | (with_reducible refine wp_ixP (by with_unfolding_all rfl) ?_)
  | (with_reducible refine wp_borO (by with_unfolding_all rfl) ?_)
  | (with_reducible refine wp_callL (by with_unfolding_all rfl) ?_)
  | (with_reducible refine wp_op2 ?_)
  | (with_reducible refine wp_op1 ?_)
  | (with_reducible refine wp_fnA ?_)
  | (with_reducible refine wp_cons ?_)
  | (with_reducible refine wp_nil ?_)
  | (with_reducible refine ws_seq ?_)
  | (with_reducible refine ws_set ?_)
  | (with_reducible refine ws_own ?_)
  | (with_reducible refine ws_ret ?_)
  | (with_reducible refine ws_ife ?_)
  | (with_reducible refine ws_nil ?_)
  | (with_reducible refine ws_for ?_)
  | (with_reducible refine ws_asg ?_)
  | (with_reducible refine wp_test ?_)
  | (with_reducible refine wp_tnot ?_)
  | (with_reducible refine wp_tand ?_)
  | (with_reducible refine wp_tor ?_)
  | (with_reducible refine wp_vand ?_)
  | (with_reducible refine wp_vor ?_)
  | (with_reducible refine wp_vnot ?_)
  | (with_reducible refine wp_ife ?_)
  | (with_reducible refine wp_chain ?_)
  | (with_reducible refine wp_addI ?_)
  | (with_reducible refine wp_subI ?_)
  | (with_reducible refine wp_ltI ?_)
  | (with_reducible refine wp_leI ?_)
  | (with_reducible refine wp_gtI ?_)
  | (with_reducible refine wp_geI ?_)
  | (with_reducible refine wp_eqI ?_)
  | (with_reducible refine wp_neI ?_)
  | (with_reducible refine wp_neB ?_)
  | (with_reducible refine wp_lenL ?_)
  | (with_reducible refine wp_abs ?_)
  | (with_reducible refine wp_intB ?_)
  | (with_reducible refine wp_intI ?_)
  | (with_reducible refine wp_listL ?_)
  | (with_reducible refine wp_listT ?_)
  | (with_reducible refine wp_tupleL ?_)
  | (with_reducible refine wp_tupleT ?_)
  | (with_reducible refine wp_min ?_)
  | (with_reducible refine wp_max ?_)
  | (with_reducible refine wp_neg ?_)
  | (with_reducible refine wp_lenT ?_)
  | (with_reducible refine wp_slT ?_)
  | (with_reducible refine wp_slL ?_)
  | (with_reducible refine wp_sl ?_)
  | (with_reducible refine wp_noPart ?_)
  | (with_reducible refine wp_part ?_)
  | (with_reducible refine wp_its ?_)
  | (with_reducible refine wp_itS ?_)
  | (with_reducible refine wp_itL ?_)
  | (with_reducible refine wp_itT ?_)
  | (with_reducible refine wp_itsA ?_)
  | (with_reducible refine wp_lc ?_)
  | (with_reducible refine wp_yes ?_)
  | (with_reducible refine wp_tru ?_)
  | (with_reducible refine wp_inK ?_)
  | (with_reducible refine ⟨_, rfl, ?_⟩)
  | (with_reducible refine wp_isi (by with_unfolding_all rfl) (by with_unfolding_all decide) ?_)
  | (with_reducible refine iteK1 (by with_unfolding_all rfl) ?_)
  | (with_reducible refine iteK0 (by with_unfolding_all rfl) ?_)))
local macro_rules | `(tactic| walk_at "v") => `(tactic| repeat (first
  | (with_reducible refine wp_tup ?_)
  | (with_reducible refine wp_lst ?_)
  | (refine ⟨(by simp only [List.length_cons, List.length_nil, List.length_append]; decide), ?_⟩)
  | (with_reducible refine wp_c ?_)
  | (with_reducible refine wp_c0 ?_)
  | (with_reducible refine wp_var (by with_unfolding_all rfl) ?_)
  | (with_reducible refine wp_ixP (by with_unfolding_all rfl) ?_)
  | (with_reducible refine wp_borO (by with_unfolding_all rfl) ?_)
  | (with_reducible refine wp_callL (by with_unfolding_all rfl) ?_)
  | (with_reducible refine wp_op2 ?_)
  | (with_reducible refine wp_op1 ?_)
  | (with_reducible refine wp_fnA ?_)
  | (with_reducible refine wp_cons ?_)
  | (with_reducible refine wp_nil ?_)
  | (with_reducible refine ws_seq ?_)
  | (with_reducible refine ws_set ?_)
  | (with_reducible refine ws_own ?_)
  | (with_reducible refine ws_ret ?_)
  | (with_reducible refine ws_ife ?_)
  | (with_reducible refine ws_nil ?_)
  | (with_reducible refine ws_for ?_)
  | (with_reducible refine ws_asg ?_)
  | (with_reducible refine wp_test ?_)
  | (with_reducible refine wp_tnot ?_)
  | (with_reducible refine wp_tand ?_)
  | (with_reducible refine wp_tor ?_)
  | (with_reducible refine wp_vand ?_)
  | (with_reducible refine wp_vor ?_)
  | (with_reducible refine wp_vnot ?_)
  | (with_reducible refine wp_ife ?_)
  | (with_reducible refine wp_chain ?_)
  | (with_reducible refine wp_addI ?_)
  | (with_reducible refine wp_subI ?_)
  | (with_reducible refine wp_ltI ?_)
  | (with_reducible refine wp_leI ?_)
  | (with_reducible refine wp_gtI ?_)
  | (with_reducible refine wp_geI ?_)
  | (with_reducible refine wp_eqI ?_)
  | (with_reducible refine wp_neI ?_)
  | (with_reducible refine wp_neB ?_)
  | (with_reducible refine wp_lenL ?_)
  | (with_reducible refine wp_abs ?_)
  | (with_reducible refine wp_intB ?_)
  | (with_reducible refine wp_intI ?_)
  | (with_reducible refine wp_listL ?_)
  | (with_reducible refine wp_listT ?_)
  | (with_reducible refine wp_tupleL ?_)
  | (with_reducible refine wp_tupleT ?_)
  | (with_reducible refine wp_min ?_)
  | (with_reducible refine wp_max ?_)
  | (with_reducible refine wp_neg ?_)
  | (with_reducible refine wp_lenT ?_)
  | (with_reducible refine wp_slT ?_)
  | (with_reducible refine wp_slL ?_)
  | (with_reducible refine wp_sl ?_)
  | (with_reducible refine wp_noPart ?_)
  | (with_reducible refine wp_part ?_)
  | (with_reducible refine wp_its ?_)
  | (with_reducible refine wp_itS ?_)
  | (with_reducible refine wp_itL ?_)
  | (with_reducible refine wp_itT ?_)
  | (with_reducible refine wp_itsA ?_)
  | (with_reducible refine wp_lc ?_)
  | (with_reducible refine wp_yes ?_)
  | (with_reducible refine wp_tru ?_)
  | (with_reducible refine wp_inK ?_)
  | (with_reducible refine ⟨_, rfl, ?_⟩)
  | (with_reducible refine wp_isi (by with_unfolding_all rfl) (by with_unfolding_all decide) ?_)
  | (with_reducible refine iteK1 (by with_unfolding_all rfl) ?_)
  | (with_reducible refine iteK0 (by with_unfolding_all rfl) ?_)))
/-! ### the law's own looker -/
theorem three_ne {g : D → Bool} {ds : List D} (h : ds.length ≠ 3) : three g (.tup ds) = false := by
  unfold three
  split
  · rename_i e; cases e; exact absurd rfl h
  · rfl
theorem base_tup (ds : List D) : base (.tup ds) = atB (.tup ds) := by
  unfold base
  simp [btwB, nameB]
theorem tB_other {k : Nat} {d : D} (h : ∀ ds, d ≠ .tup ds) : tB k d = (nameB d || btwB 0 996 d) := by
  have h1 : atB d = false := by
    unfold atB
    split
    · rename_i e; exact absurd rfl (h _)
    · rfl
  have h2 : ∀ g, three g d = false := fun g => by
    unfold three
    split
    · rename_i e; exact absurd rfl (h _)
    · rfl
  have h3 : base d = (nameB d || btwB 0 996 d) := by
    unfold base
    rw [h1, Bool.or_false, Bool.or_comm]
  cases k with
  | zero => exact h3
  | succ k => show (base d || three (tB k) d) = _; rw [h2, h3, Bool.or_false]
theorem ops_in (o : Str) : (([D.str "+", D.str "-", D.str "*", D.str "/", D.str "<", D.str "="] : List D).any fun d => eqF d (.str o)) = decide (o ∈ opKeys) := by
  show ((Str.ofString "+" == o) || ((Str.ofString "-" == o) || ((Str.ofString "*" == o) || ((Str.ofString "/" == o) || ((Str.ofString "<" == o) || ((Str.ofString "=" == o) || false)))))) = decide (o ∈ opKeys)
  unfold opKeys
  rw [Bool.eq_iff_iff]
  simp only [Bool.or_eq_true, beq_iff_eq, decide_eq_true_eq, List.mem_cons, List.not_mem_nil, or_false, Bool.false_eq_true]
  constructor
  · rintro (h | h | h | h | h | h) <;> simp [h]
  · rintro (h | h | h | h | h | h) <;> simp [h]
theorem tB_two {k : Nat} (x e : D) : tB k (.tup [x, e]) = atB (.tup [x, e]) := by
  cases k with
  | zero => exact base_tup _
  | succ k => show (base _ || three (tB k) _) = _; rw [base_tup, three_ne (by simp), Bool.or_false]
theorem tB_len {k : Nat} {ds : List D} (h2 : ds.length ≠ 2) (h3 : ds.length ≠ 3) : tB k (.tup ds) = false := by
  cases k with
  | zero => show base _ = _; rw [base_tup, atB_ne h2]
  | succ k => show (base _ || three (tB k) _) = _; rw [base_tup, three_ne h3, atB_ne h2]; rfl
theorem tB_three {k : Nat} (x y z : D) : tB (k + 1) (.tup [x, y, z]) = three (tB k) (.tup [x, y, z]) := by
  show (base _ || three (tB k) _) = _
  rw [base_tup, atB_ne (by simp)]
  rfl
theorem term_due_eq : ∀ (k fuel : Nat) (d : D) (n : Nat) (ms : MS), k < fuel → okD n d → m__law_term_due fuel [d, .int (k : Int)] ms = .ok (.bl (tB k d)) ms := by
  intro k
  induction k with
  | zero =>
    intro fuel d n ms hf h
    cases fuel with
    | zero => omega
    | succ fuel =>
      obtain ⟨a, ha⟩ := okD_ty h
      refine keep1 (wp_mir ?_)
      walk_at "w"
      refine wp_isi ha (by decide) ?_
      cases d with
      | tup ds =>
        cases ha
        walk_at "w"
        by_cases h2 : ds.length = 2
        · obtain ⟨x, e, rfl⟩ := two_of h2
          rw [tB_two]
          walk_at "w"
          refine wp_ixT (by rfl) ?_
          walk_at "w"
          obtain ⟨m, rfl, hx⟩ := okD_mem h (d := x) (by simp)
          obtain ⟨m', hm, he⟩ := okD_mem h (d := e) (by simp)
          obtain ⟨ax, hax⟩ := okD_ty hx
          refine wp_isi hax (by decide) ?_
          cases x with
          | str z =>
            cases hax
            walk_at "w"
            refine wp_ixT (by rfl) ?_
            walk_at "w"
            refine wp_eqS (okD_str hx).2 (by decide +kernel) ?_
            walk_at "w"
            refine ite2 (fun h1 => ?_) (fun h1 => ?_)
            · walk_at "w"
              refine wp_ixT (by rfl) ?_
              walk_at "w"
              refine wp_eq (within_eq he) ⟨?_, rfl⟩
              show D.bl _ = D.bl (z == atS && btwB 0 7 e)
              have h1 : (z == atS) = true := h1
              rw [h1]
              rfl
            · refine ⟨?_, rfl⟩
              show D.bl _ = D.bl (z == atS && btwB 0 7 e)
              have h1 : (z == atS) = false := Bool.eq_false_iff.mpr h1
              rw [h1]
              rfl
          | pot => cases hax
          | fn a => cases hax
          | ty t => cases hax
          | _ =>
            cases hax
            walk_at "w"
            exact ⟨rfl, rfl⟩
        · have e2 : (((ds.length : Nat) : Int) == 2) = false := by
            rw [beq_eq_false_iff_ne]
            omega
          rw [e2]
          walk_at "w"
          refine ⟨?_, rfl⟩
          show D.bl false = D.bl (base (.tup ds))
          rw [base_tup, atB_ne h2]
      | pot => cases ha
      | fn a => cases ha
      | ty t => cases ha
      | str x =>
        cases ha
        walk_at "w"
        refine wp_eq (name_due_eq h) ?_
        walk_at "w"
        rw [tB_other (fun ds e => by cases e)]
        refine ite2 (fun h1 => ?_) (fun h1 => ?_)
        · exact ⟨by rw [h1]; rfl, rfl⟩
        · walk_at "w"
          exact wp_eq (within_eq h) ⟨by rw [Bool.eq_false_iff.mpr h1]; rfl, rfl⟩
      | _ =>
        cases ha
        walk_at "w"
        refine wp_eq (name_due_eq h) ?_
        walk_at "w"
        rw [tB_other (fun ds e => by cases e)]
        exact wp_eq (within_eq h) ⟨rfl, rfl⟩
  | succ k ih =>
    intro fuel d n ms hf h
    cases fuel with
    | zero => omega
    | succ fuel =>
      obtain ⟨a, ha⟩ := okD_ty h
      refine keep1 (wp_mir ?_)
      walk_at "w"
      refine wp_isi ha (by decide) ?_
      cases d with
      | tup ds =>
        cases ha
        walk_at "w"
        by_cases h2 : ds.length = 2
        · obtain ⟨x, e, rfl⟩ := two_of h2
          rw [tB_two]
          walk_at "w"
          refine wp_ixT (by rfl) ?_
          walk_at "w"
          obtain ⟨m, rfl, hx⟩ := okD_mem h (d := x) (by simp)
          obtain ⟨m', hm, he⟩ := okD_mem h (d := e) (by simp)
          obtain ⟨ax, hax⟩ := okD_ty hx
          refine wp_isi hax (by decide) ?_
          cases x with
          | str z =>
            cases hax
            walk_at "w"
            refine wp_ixT (by rfl) ?_
            walk_at "w"
            refine wp_eqS (okD_str hx).2 (by decide +kernel) ?_
            walk_at "w"
            refine ite2 (fun h1 => ?_) (fun h1 => ?_)
            · walk_at "w"
              refine wp_ixT (by rfl) ?_
              walk_at "w"
              refine wp_eq (within_eq he) ⟨?_, rfl⟩
              show D.bl _ = D.bl (z == atS && btwB 0 7 e)
              have h1 : (z == atS) = true := h1
              rw [h1]
              rfl
            · refine ⟨?_, rfl⟩
              show D.bl _ = D.bl (z == atS && btwB 0 7 e)
              have h1 : (z == atS) = false := Bool.eq_false_iff.mpr h1
              rw [h1]
              rfl
          | pot => cases hax
          | fn a => cases hax
          | ty t => cases hax
          | _ =>
            cases hax
            walk_at "w"
            exact ⟨rfl, rfl⟩
        · have e2 : (((ds.length : Nat) : Int) == 2) = false := by
            rw [beq_eq_false_iff_ne]
            omega
          rw [e2]
          walk_at "w"
          by_cases h3 : ds.length = 3
          · obtain ⟨x, y, z, rfl⟩ := three_of h3
            rw [tB_three]
            walk_at "w"
            refine wp_ixT (by rfl) ?_
            walk_at "w"
            obtain ⟨m, rfl, hx⟩ := okD_mem h (d := x) (by simp)
            obtain ⟨_, hm, hy⟩ := okD_mem h (d := y) (by simp)
            cases hm
            obtain ⟨_, hm, hz⟩ := okD_mem h (d := z) (by simp)
            cases hm
            obtain ⟨ax, hax⟩ := okD_ty hx
            refine wp_isi hax (by decide) ?_
            cases x with
            | str o =>
              cases hax
              walk_at "w"
              refine wp_ixT (by rfl) ?_
              walk_at "w"
              refine wp_lst ?_
              walk_at "w"
              refine ⟨by decide, ?_⟩
              refine wp_notInF rfl (by rfl) ?_ (by rfl)
              rw [ops_in]
              walk_at "w"
              refine ite2 (fun h4 => ?_) (fun h4 => ?_)
              · walk_at "w"
                refine ⟨?_, rfl⟩
                have h4 : decide (o ∈ opKeys) = false := by simpa using h4
                show D.bl false = D.bl (decide (o ∈ opKeys) && tB k y && tB k z)
                rw [h4]
                rfl
              · have h4 : decide (o ∈ opKeys) = true := by simpa using h4
                walk_at "w"
                refine wp_ixT (by rfl) ?_
                walk_at "w"
                have ek : ((k + 1 : Nat) : Int) - 1 = (k : Int) := by omega
                rw [ek]
                refine wp_eq (ih fuel y m ms (by omega) hy) ?_
                walk_at "w"
                refine ite2 (fun h5 => ?_) (fun h5 => ?_)
                · walk_at "w"
                  refine wp_ixT (by rfl) ?_
                  walk_at "w"
                  have ek : ((k + 1 : Nat) : Int) - 1 = (k : Int) := by omega
                  rw [ek]
                  refine wp_eq (ih fuel z m ms (by omega) hz) ⟨?_, rfl⟩
                  show D.bl _ = D.bl (decide (o ∈ opKeys) && tB k y && tB k z)
                  rw [h4, h5]
                  rfl
                · refine ⟨?_, rfl⟩
                  show D.bl _ = D.bl (decide (o ∈ opKeys) && tB k y && tB k z)
                  rw [h4, Bool.eq_false_iff.mpr h5]
                  rfl
            | pot => cases hax
            | fn a => cases hax
            | ty t => cases hax
            | _ =>
              cases hax
              walk_at "w"
              exact ⟨rfl, rfl⟩
          · have e3 : (!(((ds.length : Nat) : Int) == 3)) = true := by
              simp only [Bool.not_eq_true', beq_eq_false_iff_ne]
              omega
            rw [e3]
            walk_at "w"
            exact ⟨by rw [tB_len h2 h3], rfl⟩
      | pot => cases ha
      | fn a => cases ha
      | ty t => cases ha
      | str x =>
        cases ha
        walk_at "w"
        refine wp_eq (name_due_eq h) ?_
        walk_at "w"
        rw [tB_other (fun ds e => by cases e)]
        refine ite2 (fun h1 => ?_) (fun h1 => ?_)
        · exact ⟨by rw [h1]; rfl, rfl⟩
        · walk_at "w"
          exact wp_eq (within_eq h) ⟨by rw [Bool.eq_false_iff.mpr h1]; rfl, rfl⟩
      | _ =>
        cases ha
        walk_at "w"
        refine wp_eq (name_due_eq h) ?_
        walk_at "w"
        rw [tB_other (fun ds e => by cases e)]
        exact wp_eq (within_eq h) ⟨rfl, rfl⟩
end K01

set_option Elab.async false
set_option linter.all false
set_option maxRecDepth 100000
set_option maxHeartbeats 1000000
namespace K01
open PySem L2 PyProof.Rows Q
local macro_rules | `(tactic| walk_at "w") => `(tactic| repeat (first
  | (with_reducible refine wp_c ?_)
  | (with_reducible refine wp_c0 ?_)
  | (with_reducible refine wp_var (by with_unfolding_all rfl) ?_)
  | (with_reducible refine wp_ixP (by with_unfolding_all rfl) ?_)
  | (with_reducible refine wp_borO (by with_unfolding_all rfl) ?_)
  | (with_reducible refine wp_callL (by with_unfolding_all rfl) ?_)
  | (with_reducible refine wp_op2 ?_)
  | (with_reducible refine wp_op1 ?_)
  | (with_reducible refine wp_fnA ?_)
  | (with_reducible refine wp_cons ?_)
  | (with_reducible refine wp_nil ?_)
  | (with_reducible refine ws_seq ?_)
  | (with_reducible refine ws_set ?_)
  | (with_reducible refine ws_own ?_)
  | (with_reducible refine ws_ret ?_)
  | (with_reducible refine ws_ife ?_)
  | (with_reducible refine ws_nil ?_)
  | (with_reducible refine ws_for ?_)
  | (with_reducible refine ws_asg ?_)
  | (with_reducible refine wp_test ?_)
  | (with_reducible refine wp_tnot ?_)
  | (with_reducible refine wp_tand ?_)
  | (with_reducible refine wp_tor ?_)
  | (with_reducible refine wp_vand ?_)
  | (with_reducible refine wp_vor ?_)
  | (with_reducible refine wp_vnot ?_)
  | (with_reducible refine wp_ife ?_)
  | (with_reducible refine wp_chain ?_)
  | (with_reducible refine wp_addI ?_)
  | (with_reducible refine wp_subI ?_)
  | (with_reducible refine wp_ltI ?_)
  | (with_reducible refine wp_leI ?_)
  | (with_reducible refine wp_gtI ?_)
  | (with_reducible refine wp_geI ?_)
  | (with_reducible refine wp_eqI ?_)
  | (with_reducible refine wp_neI ?_)
  | (with_reducible refine wp_neB ?_)
  | (with_reducible refine wp_lenL ?_)
  | (with_reducible refine wp_abs ?_)
  | (with_reducible refine wp_intB ?_)
  | (with_reducible refine wp_intI ?_)
  | (with_reducible refine wp_listL ?_)
  | (with_reducible refine wp_listT ?_)
  | (with_reducible refine wp_tupleL ?_)
  | (with_reducible refine wp_tupleT ?_)
  | (with_reducible refine wp_min ?_)
  | (with_reducible refine wp_max ?_)
  | (with_reducible refine wp_neg ?_)
  | (with_reducible refine wp_lenT ?_)
  | (with_reducible refine wp_slT ?_)
  | (with_reducible refine wp_slL ?_)
  | (with_reducible refine wp_sl ?_)
  | (with_reducible refine wp_noPart ?_)
  | (with_reducible refine wp_part ?_)
  | (with_reducible refine wp_its ?_)
  | (with_reducible refine wp_itS ?_)
  | (with_reducible refine wp_itL ?_)
  | (with_reducible refine wp_itT ?_)
  | (with_reducible refine wp_itsA ?_)
  | (with_reducible refine wp_lc ?_)
  | (with_reducible refine wp_yes ?_)
  | (with_reducible refine wp_tru ?_)
  | (with_reducible refine wp_inK ?_)
  | (with_reducible refine ⟨_, rfl, ?_⟩)
  | (with_reducible refine wp_isi (by with_unfolding_all rfl) (by with_unfolding_all decide) ?_)
  | (with_reducible refine iteK1 (by with_unfolding_all rfl) ?_)
  | (with_reducible refine iteK0 (by with_unfolding_all rfl) ?_)))
local macro_rules | `(tactic| walk_at "v") => `(tactic| repeat (first
  | (with_reducible refine wp_tup ?_)
  | (with_reducible refine wp_lst ?_)
  | (refine ⟨(by simp only [List.length_cons, List.length_nil, List.length_append]; decide), ?_⟩)
  | (with_reducible refine wp_c ?_)
  | (with_reducible refine wp_c0 ?_)
  | (with_reducible refine wp_var (by with_unfolding_all rfl) ?_)
  | (with_reducible refine wp_ixP (by with_unfolding_all rfl) ?_)
  | (with_reducible refine wp_borO (by with_unfolding_all rfl) ?_)
  | (with_reducible refine wp_callL (by with_unfolding_all rfl) ?_)
  | (with_reducible refine wp_op2 ?_)
  | (with_reducible refine wp_op1 ?_)
  | (with_reducible refine wp_fnA ?_)
  | (with_reducible refine wp_cons ?_)
  | (with_reducible refine wp_nil ?_)
  | (with_reducible refine ws_seq ?_)
  | (with_reducible refine ws_set ?_)
  | (with_reducible refine ws_own ?_)
  | (with_reducible refine ws_ret ?_)
  | (with_reducible refine ws_ife ?_)
  | (with_reducible refine ws_nil ?_)
  | (with_reducible refine ws_for ?_)
  | (with_reducible refine ws_asg ?_)
  | (with_reducible refine wp_test ?_)
  | (with_reducible refine wp_tnot ?_)
  | (with_reducible refine wp_tand ?_)
  | (with_reducible refine wp_tor ?_)
  | (with_reducible refine wp_vand ?_)
  | (with_reducible refine wp_vor ?_)
  | (with_reducible refine wp_vnot ?_)
  | (with_reducible refine wp_ife ?_)
  | (with_reducible refine wp_chain ?_)
  | (with_reducible refine wp_addI ?_)
  | (with_reducible refine wp_subI ?_)
  | (with_reducible refine wp_ltI ?_)
  | (with_reducible refine wp_leI ?_)
  | (with_reducible refine wp_gtI ?_)
  | (with_reducible refine wp_geI ?_)
  | (with_reducible refine wp_eqI ?_)
  | (with_reducible refine wp_neI ?_)
  | (with_reducible refine wp_neB ?_)
  | (with_reducible refine wp_lenL ?_)
  | (with_reducible refine wp_abs ?_)
  | (with_reducible refine wp_intB ?_)
  | (with_reducible refine wp_intI ?_)
  | (with_reducible refine wp_listL ?_)
  | (with_reducible refine wp_listT ?_)
  | (with_reducible refine wp_tupleL ?_)
  | (with_reducible refine wp_tupleT ?_)
  | (with_reducible refine wp_min ?_)
  | (with_reducible refine wp_max ?_)
  | (with_reducible refine wp_neg ?_)
  | (with_reducible refine wp_lenT ?_)
  | (with_reducible refine wp_slT ?_)
  | (with_reducible refine wp_slL ?_)
  | (with_reducible refine wp_sl ?_)
  | (with_reducible refine wp_noPart ?_)
  | (with_reducible refine wp_part ?_)
  | (with_reducible refine wp_its ?_)
  | (with_reducible refine wp_itS ?_)
  | (with_reducible refine wp_itL ?_)
  | (with_reducible refine wp_itT ?_)
  | (with_reducible refine wp_itsA ?_)
  | (with_reducible refine wp_lc ?_)
  | (with_reducible refine wp_yes ?_)
  | (with_reducible refine wp_tru ?_)
  | (with_reducible refine wp_inK ?_)
  | (with_reducible refine ⟨_, rfl, ?_⟩)
  | (with_reducible refine wp_isi (by with_unfolding_all rfl) (by with_unfolding_all decide) ?_)
  | (with_reducible refine iteK1 (by with_unfolding_all rfl) ?_)
  | (with_reducible refine iteK0 (by with_unfolding_all rfl) ?_)))
theorem grown_ok : ∀ (k fuel n : Nat) (ms : MS) (Q : D → MS → Prop), k < fuel → PotOk n ms → n + 100 * (k + 1) < 2 ^ 40 → (∀ d ms', okD (k + 3) d → PotOk (n + 20 + 60 * k) ms' → Q d ms') → Wp (m__law_grown fuel [.pot, .int (k : Int)] ms) Q := by
  intro k
  induction k with
  | zero =>
    intro fuel n ms Q hf P hn q
    cases fuel with
    | zero => omega
    | succ fuel =>
      unfold m__law_grown
      with_reducible refine wp_mir ?_
      walk_at "w"
      refine leaf_ok P (by omega) fun d ms' h P' => ?_
      exact q _ _ (okD_le h (by omega)) (P'.mono (by omega))
  | succ k ih =>
    intro fuel n ms Q hf P hn q
    cases fuel with
    | zero => omega
    | succ fuel =>
      unfold m__law_grown
      with_reducible refine wp_mir ?_
      walk_at "w"
      have ek : ((k + 1 : Nat) : Int) - 1 = (k : Int) := by omega
      rw [ek]
      refine ih fuel n ms _ (by omega) P (by omega) fun inner ms1 hi P1 => ?_
      walk_at "w"
      with_reducible refine wp_lst ?_
      walk_at "w"
      refine ⟨by simp, ?_⟩
      walk_at "w"
      refine take_ok P1 (by omega) (by decide) (by decide) fun r2 ms2 b0 b1 P2 => ?_
      walk_at "w"
      refine wp_ixLd b0 (by simp; omega) fun d hd => ?_
      have hop : ∃ o : Str, d = .str o ∧ okS o := by
        simp only [List.mem_cons, List.not_mem_nil, or_false] at hd
        rcases hd with h | h | h | h | h | h <;> exact ⟨_, h, by decide +kernel, by decide +kernel⟩
      obtain ⟨o, rfl, ho⟩ := hop
      walk_at "w"
      refine leaf_ok P2 (by omega) fun other ms3 hoth P3 => ?_
      walk_at "w"
      -- what is done behind, whatever stands beside
      have fin : ∀ (oth : D) (ms4 : MS), okD 2 oth → PotOk (n + 20 + 60 * k + 1 + 20 + 1 + 20) ms4 → Wp (E.op2 gIx (E.lst (E.cons (E.tup (E.cons (E.var 3) (E.cons (E.var 2) (E.cons (E.var 4) E.nil)))) (E.cons (E.tup (E.cons (E.var 3) (E.cons (E.var 4) (E.cons (E.var 2) E.nil)))) E.nil))) (E.fnA m__law_take (E.cons (E.var 0) (E.cons (E.c (.int 2)) E.nil)))
          [some (.dat .pot), some (.dat (.int ((k + 1 : Nat) : Int))), some (.dat inner), some (.dat (.str o)), some (.dat oth)] ms4) Q := by
        intro oth ms4 h4 P4
        walk_at "w"
        with_reducible refine wp_lst ?_
        walk_at "w"
        with_reducible refine wp_tup ?_
        walk_at "w"
        refine ⟨by simp, ?_⟩
        walk_at "w"
        with_reducible refine wp_tup ?_
        walk_at "w"
        refine ⟨by simp, ?_⟩
        walk_at "w"
        refine ⟨by simp, ?_⟩
        walk_at "w"
        refine take_ok P4 (by omega) (by decide) (by decide) fun r5 ms5 e0 e1 P5 => ?_
        walk_at "w"
        refine wp_ixLd e0 (by simp; omega) fun d hd => ?_
        simp only [List.mem_cons, List.not_mem_nil, or_false] at hd
        have h5 : okD (k + 3) oth := okD_le h4 (by omega)
        rcases hd with h | h <;> subst h
        · exact q _ _ (okD_3 (okD_S ho) hi h5) (P5.mono (by omega))
        · exact q _ _ (okD_3 (okD_S ho) h5 hi) (P5.mono (by omega))
      refine ite2 (fun h1 => ?_) (fun h1 => ?_)
      · walk_at "w"
        refine take_ok P3 (by omega) (by decide) (by decide) fun r4 ms4 c0 c1 P4 => ?_
        walk_at "w"
        refine ite2 (fun h2 => ?_) (fun h2 => ?_)
        · walk_at "w"
          with_reducible refine wp_tup ?_
          walk_at "w"
          refine leaf_ok P4 (by omega) fun l2 ms5 hl2 P5 => ?_
          walk_at "w"
          refine ⟨by simp, ?_⟩
          with_reducible refine ws_ret ?_
          exact fin _ _ (okD_3 (okD_S ⟨by decide +kernel, by decide +kernel⟩) hoth hl2) (P5.mono (by omega))
        · with_reducible refine ws_nil ?_
          with_reducible refine ws_ret ?_
          exact fin _ _ (okD_le hoth (by omega)) (P4.mono (by omega))
      · refine iteK0 rfl ?_
        with_reducible refine ws_nil ?_
        with_reducible refine ws_ret ?_
        exact fin _ _ (okD_le hoth (by omega)) (P3.mono (by omega))
theorem cut_take {α : Type} {xs : List α} {k : Int} (h0 : 0 ≤ k) (h : k ≤ xs.length) : cut xs none (some k) = xs.take k.toNat := by
  obtain ⟨j, rfl⟩ : ∃ j : Nat, k = j := ⟨k.toNat, by omega⟩
  unfold cut
  rw [HT.sIx_nat, Int.toNat_natCast]
  show (xs.drop 0).take (min j xs.length - 0) = _
  rw [List.drop_zero, Nat.sub_zero, Nat.min_eq_left (by omega)]
theorem cut_drop {α : Type} {xs : List α} {k : Int} (h0 : 0 ≤ k) (h : k ≤ xs.length) : cut xs (some k) none = xs.drop k.toNat := by
  obtain ⟨j, rfl⟩ : ∃ j : Nat, k = j := ⟨k.toNat, by omega⟩
  unfold cut
  rw [HT.sIx_nat, Int.toNat_natCast]
  show (xs.drop (min j xs.length)).take (xs.length - min j xs.length) = _
  rw [Nat.min_eq_left (by omega), List.take_of_length_le (by simp)]
theorem lt9000 {k : Int} (h : k ≤ 100000) : k < 2 ^ 9000 := by
  have : (100000 : Int) < 2 ^ 9000 := by decide
  omega
theorem len_pos (e : D) (es : List D) : (0 : Int) < (((e :: es).length : Nat) : Int) := by
  rw [List.length_cons]
  omega
def okDb : Nat → D → Bool
  | _, .non => true
  | _, .bl _ => true
  | _, .int _ => true
  | _, .str x => decide (x.length ≤ 1000) && PyData.strOk x
  | n + 1, .tup ds => decide (ds.length ≤ 1000) && ds.all (okDb n)
  | n + 1, .lst ds => decide (ds.length ≤ 1000) && ds.all (okDb n)
  | _, .dct _ _ => true
  | _, _ => false
theorem okDb_ok : ∀ {n : Nat} {d : D}, okDb n d = true → okD n d
  | _, .non, _ => okD_N
  | _, .bl _, _ => okD_B
  | _, .int _, _ => okD_I
  | n, .str x, h => by
    have h : (decide (x.length ≤ 1000) && PyData.strOk x) = true := by cases n <;> exact h
    rw [Bool.and_eq_true] at h
    have h' : x.length ≤ 1000 ∧ PyData.strOk x = true := ⟨of_decide_eq_true h.1, h.2⟩
    cases n <;> exact h'
  | n + 1, .tup ds, h => by
    have h : (decide (ds.length ≤ 1000) && ds.all (okDb n)) = true := h
    rw [Bool.and_eq_true] at h
    exact ⟨of_decide_eq_true h.1, fun d hd => okDb_ok (List.all_eq_true.mp h.2 d hd)⟩
  | n + 1, .lst ds, h => by
    have h : (decide (ds.length ≤ 1000) && ds.all (okDb n)) = true := h
    rw [Bool.and_eq_true] at h
    exact ⟨of_decide_eq_true h.1, fun d hd => okDb_ok (List.all_eq_true.mp h.2 d hd)⟩
  | 0, .tup ds, h => by cases h
  | 0, .lst ds, h => by cases h
  | _, .dct _ _, _ => okD_D
  | n, .pot, h => by cases n <;> cases h
  | n, .fn _, h => by cases n <;> cases h
  | n, .ty _, h => by cases n <;> cases h
abbrev oddS : SS → MS → O := (S.seq (S.set 3 (E.lst (E.cons (E.c .non) (E.cons (E.c (.bl true)) (E.cons (E.c (.bl false)) (E.cons (E.op1 gNeg (E.c (.int 1))) (E.cons (E.c (.int 997)) (E.cons (E.op2 gPow (E.c (.int 10)) (E.c (.int 39))) (E.cons (E.fnA m__law_any_name (E.cons (E.var 0) E.nil)) (E.cons (E.tup E.nil) (E.cons (E.lst E.nil) (E.cons (E.c0 (.dct [] [])) (E.cons (E.tup (E.cons (E.c (.str "at")) (E.cons (E.c (.int 8)) E.nil))) (E.cons (E.tup (E.cons (E.c (.str "at")) (E.cons (E.op1 gNeg (E.c (.int 1))) E.nil))) (E.cons (E.tup (E.cons (E.c (.str "at")) (E.cons (E.c (.bl true)) E.nil))) E.nil))))))))))))))) (S.seq (S.set 3 (E.op2 gAdd (E.var 3) (E.lst (E.cons (E.tup (E.cons (E.c (.str "at")) E.nil)) (E.cons (E.tup (E.cons (E.c (.str "at")) (E.cons (E.c (.int 0)) (E.cons (E.c (.int 1)) E.nil)))) (E.cons (E.lst (E.cons (E.c (.str "at")) (E.cons (E.c (.int 0)) E.nil))) (E.cons (E.tup (E.cons (E.c (.str "cell")) (E.cons (E.c (.int 0)) E.nil))) (E.cons (E.tup (E.cons (E.c (.str "slot")) (E.cons (E.c (.int 0)) E.nil))) (E.cons (E.tup (E.cons (E.c (.str "+")) (E.cons (E.c (.int 1)) E.nil))) (E.cons (E.tup (E.cons (E.c (.str "+")) (E.cons (E.c (.int 1)) (E.cons (E.c (.int 2)) (E.cons (E.c (.int 3)) E.nil))))) (E.cons (E.lst (E.cons (E.c (.str "+")) (E.cons (E.c (.int 1)) (E.cons (E.c (.int 2)) E.nil)))) E.nil))))))))))) (S.seq (S.set 3 (E.op2 gAdd (E.var 3) (E.lst (E.cons (E.tup (E.cons (E.c (.str "")) (E.cons (E.c (.int 1)) (E.cons (E.c (.int 2)) E.nil)))) (E.cons (E.tup (E.cons (E.c (.str "x")) (E.cons (E.c (.int 1)) (E.cons (E.c (.int 2)) E.nil)))) (E.cons (E.tup (E.cons (E.c (.str "**")) (E.cons (E.c (.int 1)) (E.cons (E.c (.int 2)) E.nil)))) (E.cons (E.tup (E.cons (E.c .non) (E.cons (E.c (.int 1)) (E.cons (E.c (.int 2)) E.nil)))) (E.cons (E.tup (E.cons (E.c (.str "+")) (E.cons (E.c (.str "x")) (E.cons (E.c (.int 2)) E.nil)))) (E.cons (E.tup (E.cons (E.c (.str "<")) (E.cons (E.c (.int 996)) (E.cons (E.c (.int 0)) E.nil)))) (E.cons (E.c (.str "at")) (E.cons (E.c (.int 0)) (E.cons (E.c (.int 996)) (E.cons (E.c (.int 1)) E.nil))))))))))))) (S.ret (E.op2 gIx (E.var 3) (E.fnA m__law_take (E.cons (E.var 0) (E.cons (E.c (.int 31)) E.nil))))))))
theorem odd_ok {n : Nat} {ms : MS} {d : D} {x y : Option SV} {k : Ks} (P : PotOk n ms) (hn : n + 40 < 2 ^ 40) (q : ∀ d' ms', okD 1 d' → PotOk (n + 20) ms' → k.rt d' ms') : Ws (oddS [some (.dat .pot), some (.dat d), x, y] ms) k := by
  walk_at "v"
  refine wp_powI (j := 39) (n := 4) (by decide) (by decide) ?_
  walk_at "v"
  refine any_name_ok P (by omega) fun z ms2 hz P2 => ?_
  walk_at "v"
  refine wp_addL (by simp) ?_
  walk_at "v"
  refine wp_addL (by simp) ?_
  walk_at "v"
  refine take_ok P2 (by omega) (by decide) (by decide) fun r ms3 g0 g1 P3 => ?_
  walk_at "v"
  refine wp_ixLd g0 (by simp; omega) fun d' hd => ?_
  refine q _ _ ?_ (P3.mono (by omega))
  simp only [List.cons_append, List.nil_append, List.mem_cons, List.not_mem_nil, or_false] at hd
  rcases hd with h | h | h | h | h | h | h | h | h | h | h | h | h | h | h | h | h | h | h | h | h | h | h | h | h | h | h | h | h | h | h <;> subst h <;> first
    | exact okD_S hz
    | exact okDb_ok (by decide +kernel)
theorem spoilt_ok : ∀ (fuel m n : Nat) (d : D) (ms : MS) (Q : D → MS → Prop), m < fuel → okD m d → PotOk n ms → n + 100 * fuel < 2 ^ 40 → (∀ d' ms', okD (m + 1) d' → PotOk (n + 30 * fuel) ms' → Q d' ms') → Wp (m__law_spoilt fuel [.pot, d] ms) Q := by
  intro fuel
  induction fuel with
  | zero => intro m n d ms Q hf; omega
  | succ fuel ih =>
    intro m n d ms Q hf h P hn q
    obtain ⟨a, ha⟩ := okD_ty h
    have q1 : ∀ (n1 : Nat) (d' : D) (ms' : MS), n1 ≤ n + 2 → okD 1 d' → PotOk (n1 + 20) ms' → Q d' ms' := fun n1 d' ms' h1 h2 h3 => q d' ms' (okD_le h2 (by omega)) (h3.mono (by omega))
    unfold m__law_spoilt
    with_reducible refine wp_mir ?_
    walk_at "w"
    refine wp_isi ha (by decide) ?_
    cases d with
    | tup ds =>
      cases ha
      walk_at "v"
      refine wp_ne0 ?_
      refine ⟨_, rfl, ?_⟩
      cases ds with
      | nil =>
        refine iteK0 rfl ?_
        refine iteK0 rfl ?_
        with_reducible refine ws_nil ?_
        exact odd_ok P (by omega) fun d' ms' h1 h2 => q1 n d' ms' (by omega) h1 h2
      | cons e es =>
        refine iteK1 rfl ?_
        walk_at "w"
        refine take_ok P (by omega) (by decide) (by decide) fun r1 ms1 a0 a1 P1 => ?_
        walk_at "w"
        refine ite2 (fun h1 => ?_) (fun h1 => ?_)
        · walk_at "w"
          obtain ⟨m', rfl, _⟩ := okD_mem h (d := e) (by simp)
          have hl : (e :: es).length ≤ 1000 := h.1
          have hall := h.2
          refine take_ok P1 (by omega) (len_pos e es) (lt9000 (by omega)) fun r2 ms2 b0 b1 P2 => ?_
          obtain ⟨x, hx, hm⟩ := atI_in (xs := e :: es) b0 b1
          walk_at "v"
          refine wp_ixT hx ?_
          refine ih m' (n + 2) x ms2 _ (by omega) (hall x hm) P2 (by omega) fun y ms3 hy P3 => ?_
          walk_at "v"
          have b1' : r2 < ((e :: es).length : Int) := b1
          have ct : cut (e :: es) none (some r2) = (e :: es).take r2.toNat := cut_take b0 (by omega)
          have cd : cut (e :: es) (some (r2 + 1)) none = (e :: es).drop (r2 + 1).toNat := cut_drop (by omega) (by omega)
          have hl2 : es.length + 1 ≤ 1000 := hl
          have b2 : r2 < (es.length : Int) + 1 := by rw [List.length_cons] at b1'; omega
          rw [ct]
          have l1 : ((e :: es).take r2.toNat).length = r2.toNat := by rw [List.length_take]; omega
          have l2 : ((e :: es).drop (r2 + 1).toNat).length = (e :: es).length - (r2 + 1).toNat := List.length_drop
          refine wp_addT (by rw [l1]; simp; omega) ?_
          walk_at "v"
          rw [cd]
          refine wp_addT (by rw [List.length_append, l1, l2]; simp only [List.length_cons, List.length_nil]; omega) ?_
          refine q _ _ (okD_T (by rw [List.length_append, List.length_append, l1, l2]; simp only [List.length_cons, List.length_nil]; simp only [List.length_cons] at b1' hl; omega) fun d hd => ?_) (P3.mono (by omega))
          rcases List.mem_append.mp hd with hd | hd
          · rcases List.mem_append.mp hd with hd | hd
            · exact okD_mono (hall d (List.mem_of_mem_take hd))
            · rw [List.mem_singleton.mp hd]
              exact hy
          · exact okD_mono (hall d (List.mem_of_mem_drop hd))
        · with_reducible refine ws_nil ?_
          exact odd_ok P1 (by omega) fun d' ms' h1 h2 => q1 (n + 1) d' ms' (by omega) h1 h2
    | pot => cases ha
    | fn a => cases ha
    | ty t => cases ha
    | _ =>
      cases ha
      refine ⟨_, rfl, ?_⟩
      refine iteK0 rfl ?_
      refine iteK0 rfl ?_
      with_reducible refine ws_nil ?_
      exact odd_ok P (by omega) fun d' ms' h1 h2 => q1 n d' ms' (by omega) h1 h2
end K01

set_option Elab.async false
set_option linter.all false
set_option maxRecDepth 100000
set_option maxHeartbeats 1000000
namespace K01
open PySem L2 PyProof.Rows Q
local macro_rules | `(tactic| walk_at "w") => `(tactic| repeat (first
  | (with_reducible refine wp_c ?_)
  | (with_reducible refine wp_c0 ?_)
  | (with_reducible refine wp_var (by with_unfolding_all rfl) ?_)
  | (with_reducible refine wp_ixP (by with_unfolding_all rfl) ?_)
  | (with_reducible refine wp_borO (by with_unfolding_all rfl) ?_)
  | (with_reducible refine wp_callL (by with_unfolding_all rfl) ?_)
  | (with_reducible refine wp_op2 ?_)
  | (with_reducible refine wp_op1 ?_)
  | (with_reducible refine wp_fnA ?_)
  | (with_reducible refine wp_cons ?_)
  | (with_reducible refine wp_nil ?_)
  | (with_reducible refine ws_seq ?_)
  | (with_reducible refine ws_set ?_)
  | (with_reducible refine ws_own ?_)
  | (with_reducible refine ws_ret ?_)
  | (with_reducible refine ws_ife ?_)
  | (with_reducible refine ws_nil ?_)
  | (with_reducible refine ws_for ?_)
  | (with_reducible refine ws_asg ?_)
  | (with_reducible refine wp_test ?_)
  | (with_reducible refine wp_tnot ?_)
  | (with_reducible refine wp_tand ?_)
  | (with_reducible refine wp_tor ?_)
  | (with_reducible refine wp_vand ?_)
  | (with_reducible refine wp_vor ?_)
  | (with_reducible refine wp_vnot ?_)
  | (with_reducible refine wp_ife ?_)
  | (with_reducible refine wp_chain ?_)
  | (with_reducible refine wp_addI ?_)
  | (with_reducible refine wp_subI ?_)
  | (with_reducible refine wp_ltI ?_)
  | (with_reducible refine wp_leI ?_)
  | (with_reducible refine wp_gtI ?_)
  | (with_reducible refine wp_geI ?_)
  | (with_reducible refine wp_eqI ?_)
  | (with_reducible refine wp_neI ?_)
  | (with_reducible refine wp_neB ?_)
  | (with_reducible refine wp_lenL ?_)
  | (with_reducible refine wp_abs ?_)
  | (with_reducible refine wp_intB ?_)
  | (with_reducible refine wp_intI ?_)
  | (with_reducible refine wp_listL ?_)
  | (with_reducible refine wp_listT ?_)
  | (with_reducible refine wp_tupleL ?_)
  | (with_reducible refine wp_tupleT ?_)
  | (with_reducible refine wp_min ?_)
  | (with_reducible refine wp_max ?_)
  | (with_reducible refine wp_neg ?_)
  | (with_reducible refine wp_lenT ?_)
  | (with_reducible refine wp_slT ?_)
  | (with_reducible refine wp_slL ?_)
  | (with_reducible refine wp_sl ?_)
  | (with_reducible refine wp_noPart ?_)
  | (with_reducible refine wp_part ?_)
  | (with_reducible refine wp_its ?_)
  | (with_reducible refine wp_itS ?_)
  | (with_reducible refine wp_itL ?_)
  | (with_reducible refine wp_itT ?_)
  | (with_reducible refine wp_itsA ?_)
  | (with_reducible refine wp_lc ?_)
  | (with_reducible refine wp_yes ?_)
  | (with_reducible refine wp_tru ?_)
  | (with_reducible refine wp_inK ?_)
  | (with_reducible refine ⟨_, rfl, ?_⟩)
  | (with_reducible refine wp_isi (by with_unfolding_all rfl) (by with_unfolding_all decide) ?_)
  | (with_reducible refine iteK1 (by with_unfolding_all rfl) ?_)
  | (with_reducible refine iteK0 (by with_unfolding_all rfl) ?_)))
local macro_rules | `(tactic| walk_at "v") => `(tactic| repeat (first
  | (with_reducible refine wp_tup ?_)
  | (with_reducible refine wp_lst ?_)
  | (refine ⟨(by simp only [List.length_cons, List.length_nil, List.length_append]; decide), ?_⟩)
  | (with_reducible refine wp_c ?_)
  | (with_reducible refine wp_c0 ?_)
  | (with_reducible refine wp_var (by with_unfolding_all rfl) ?_)
  | (with_reducible refine wp_ixP (by with_unfolding_all rfl) ?_)
  | (with_reducible refine wp_borO (by with_unfolding_all rfl) ?_)
  | (with_reducible refine wp_callL (by with_unfolding_all rfl) ?_)
  | (with_reducible refine wp_op2 ?_)
  | (with_reducible refine wp_op1 ?_)
  | (with_reducible refine wp_fnA ?_)
  | (with_reducible refine wp_cons ?_)
  | (with_reducible refine wp_nil ?_)
  | (with_reducible refine ws_seq ?_)
  | (with_reducible refine ws_set ?_)
  | (with_reducible refine ws_own ?_)
  | (with_reducible refine ws_ret ?_)
  | (with_reducible refine ws_ife ?_)
  | (with_reducible refine ws_nil ?_)
  | (with_reducible refine ws_for ?_)
  | (with_reducible refine ws_asg ?_)
  | (with_reducible refine wp_test ?_)
  | (with_reducible refine wp_tnot ?_)
  | (with_reducible refine wp_tand ?_)
  | (with_reducible refine wp_tor ?_)
  | (with_reducible refine wp_vand ?_)
  | (with_reducible refine wp_vor ?_)
  | (with_reducible refine wp_vnot ?_)
  | (with_reducible refine wp_ife ?_)
  | (with_reducible refine wp_chain ?_)
  | (with_reducible refine wp_addI ?_)
  | (with_reducible refine wp_subI ?_)
  | (with_reducible refine wp_ltI ?_)
  | (with_reducible refine wp_leI ?_)
  | (with_reducible refine wp_gtI ?_)
  | (with_reducible refine wp_geI ?_)
  | (with_reducible refine wp_eqI ?_)
  | (with_reducible refine wp_neI ?_)
  | (with_reducible refine wp_neB ?_)
  | (with_reducible refine wp_lenL ?_)
  | (with_reducible refine wp_abs ?_)
  | (with_reducible refine wp_intB ?_)
  | (with_reducible refine wp_intI ?_)
  | (with_reducible refine wp_listL ?_)
  | (with_reducible refine wp_listT ?_)
  | (with_reducible refine wp_tupleL ?_)
  | (with_reducible refine wp_tupleT ?_)
  | (with_reducible refine wp_min ?_)
  | (with_reducible refine wp_max ?_)
  | (with_reducible refine wp_neg ?_)
  | (with_reducible refine wp_lenT ?_)
  | (with_reducible refine wp_slT ?_)
  | (with_reducible refine wp_slL ?_)
  | (with_reducible refine wp_sl ?_)
  | (with_reducible refine wp_noPart ?_)
  | (with_reducible refine wp_part ?_)
  | (with_reducible refine wp_its ?_)
  | (with_reducible refine wp_itS ?_)
  | (with_reducible refine wp_itL ?_)
  | (with_reducible refine wp_itT ?_)
  | (with_reducible refine wp_itsA ?_)
  | (with_reducible refine wp_lc ?_)
  | (with_reducible refine wp_yes ?_)
  | (with_reducible refine wp_tru ?_)
  | (with_reducible refine wp_inK ?_)
  | (with_reducible refine ⟨_, rfl, ?_⟩)
  | (with_reducible refine wp_isi (by with_unfolding_all rfl) (by with_unfolding_all decide) ?_)
  | (with_reducible refine iteK1 (by with_unfolding_all rfl) ?_)
  | (with_reducible refine iteK0 (by with_unfolding_all rfl) ?_)))
/-! ### the law -/
def kd (a : Option SV) : Option SV := match a with
  | some (.dat d) => if d.noPot = true then some (.dat d) else none
  | _ => none
theorem noPots_ints : ∀ ns : List Int, noPots (ns.map D.int) = true
  | [] => by rw [List.map_nil, noPots]
  | n :: ns => by
    rw [List.map_cons, noPots, noPots_ints ns, D.noPot]
    rfl
theorem kd_ints (ns : List Int) : kd (some (.dat (.lst (ns.map D.int)))) = some (.dat (.lst (ns.map D.int))) := by
  unfold kd
  have : (D.lst (ns.map D.int)).noPot = true := by rw [D.noPot]; exact noPots_ints ns
  simp only [this, if_true]
theorem keep10 (a0 a1 a2 a3 a4 a5 a6 a7 a8 a9 : Option SV) : keepS [0, 1, 2] [a0, a1, a2, a3, a4, a5, a6, a7, a8, a9] = [kd a0, kd a1, kd a2, none, none, none, none, none, none, none] := by
  have e : List.range [a0, a1, a2, a3, a4, a5, a6, a7, a8, a9].length = [0, 1, 2, 3, 4, 5, 6, 7, 8, 9] := by
    show List.range 10 = _
    decide
  unfold keepS
  rw [e]
  simp only [List.map_cons, List.map_nil]
  simp [kd]
  refine ⟨?_, ?_, ?_⟩ <;> (split <;> simp_all)
theorem law_ok (f : Addr) (ns : List Int) (ms : MS) : ∃ ms', m_law f [.lst (ns.map D.int)] ms = .ok (.bl true) ms' := by
  have main : Wp (m_law f [.lst (ns.map D.int)] ms) fun d _ => d = .bl true := by
    unfold m_law
    with_reducible refine wp_mir ?_
    walk_at "w"
    refine (folded_ok (most := 12) (by decide) (by decide)).mono ?_
    rintro d ms1 ⟨ns', rfl, hl, rfl⟩
    walk_at "w"
    have hmax : -(2 ^ 62) ≤ (if (((ns'.map D.int).length : Int) > 1) then ((ns'.map D.int).length : Int) else 1) ∧ (if (((ns'.map D.int).length : Int) > 1) then ((ns'.map D.int).length : Int) else 1) < 2 ^ 62 ∧ (if (((ns'.map D.int).length : Int) > 1) then ((ns'.map D.int).length : Int) else 1) ≤ 12 := by
      rw [List.length_map]
      split <;> omega
    with_reducible refine wp_range1 hmax.1 hmax.2.1 ?_
    with_reducible refine ws_forL (fun rest ss _ => (∀ d ∈ rest, ∃ k : Int, d = .int k ∧ 0 ≤ k ∧ k ≤ 12) ∧ ∃ x2 x3 x4 x5 x6 x7 x8 x9 : Option SV, ss = [some (.dat (.lst (ns.map D.int))), some (.dat (.lst (ns'.map D.int))), x2, x3, x4, x5, x6, x7, x8, x9]) ?_ ?_ _ _ _ ?_
    · rintro d rest ss ms2 ⟨hr, x2, x3, x4, x5, x6, x7, x8, x9, rfl⟩
      obtain ⟨k, rfl, k0, k1⟩ := hr d (by simp)
      have hr' := fun d hd => hr d (List.mem_cons_of_mem _ hd)
      refine ⟨_, rfl, ?_⟩
      with_reducible refine ws_withPot ?_
      walk_at "w"
      refine (pot_ok k0 (by omega)).mono ?_
      rintro d ms3 ⟨x, y, z, rfl, P⟩
      refine ⟨x, y, z, rfl, ?_⟩
      walk_at "w"
      refine take_ok P (by decide) (by decide) (by decide) fun r ms4 r0 r1 P4 => ?_
      obtain ⟨j, rfl⟩ : ∃ j : Nat, r = j := ⟨r.toNat, by omega⟩
      walk_at "w"
      refine grown_ok j 8 _ _ _ (by omega) P4 (by omega) fun term ms5 ht P5 => ?_
      have ht : okD 9 term := okD_le ht (by omega)
      walk_at "w"
      refine spoilt_ok 12 9 _ _ _ _ (by decide) ht P5 (by omega) fun once ms6 ho P6 => ?_
      walk_at "w"
      refine any_name_ok P6 (by omega) fun name ms7 hn P7 => ?_
      walk_at "v"
      refine spoilt_ok 12 10 _ _ _ _ (by decide) ho P7 (by omega) fun twice ms8 h2 P8 => ?_
      walk_at "v"
      refine spoilt_ok 12 0 _ _ _ _ (by decide) okD_I P8 (by omega) fun zero ms9 h0 P9 => ?_
      walk_at "v"
      with_reducible refine ws_forL (fun rest ss _ => (∀ d ∈ rest, okD 12 d) ∧ ∃ x7 x8 x9 : Option SV, ss = [some (.dat (.lst (ns.map D.int))), some (.dat (.lst (ns'.map D.int))), some (.dat (.int k)), some (.dat .pot), some (.dat term), some (.dat once), some (.dat (.str name)), x7, x8, x9]) ?_ ?_ _ _ _ ?_
      · rintro d rest ss ms10 ⟨hr2, x7, x8, x9, rfl⟩
        have hd : okD 12 d := hr2 d (by simp)
        have hr2' := fun d hd => hr2 d (List.mem_cons_of_mem _ hd)
        refine ⟨_, rfl, ?_⟩
        with_reducible refine ws_seq ?_
        with_reducible refine ws_par ?_
        walk_at "w"
        refine wp_eq (is_term_eq f hd) ?_
        walk_at "w"
        refine wp_eq (is_name_eq hd) ?_
        walk_at "w"
        refine ⟨_, _, rfl, ?_⟩
        walk_at "w"
        refine wp_eq (term_due_eq 5 7 d 12 _ (by decide) hd) ?_
        walk_at "w"
        refine iteK0 (by simp) ?_
        walk_at "w"
        refine wp_eq (name_due_eq hd) ?_
        walk_at "w"
        refine iteK0 (by simp) ?_
        with_reducible refine ws_nil ?_
        exact ⟨hr2', _, _, _, rfl⟩
      · rintro ss ms10 ⟨_, x7, x8, x9, rfl⟩
        refine ⟨hr', ?_⟩
        rw [keep10, kd_ints, kd_ints]
        exact ⟨_, _, _, _, _, _, _, _, rfl⟩
      · refine ⟨fun d hd => ?_, _, _, _, rfl⟩
        simp only [List.mem_cons, List.not_mem_nil, or_false] at hd
        rcases hd with h | h | h | h | h | h | h | h <;> subst h
        · exact okD_le ht (by decide)
        · exact okD_le ho (by decide)
        · exact okD_le h2 (by decide)
        · exact okD_S hn
        · exact okD_T (by simp) fun d hd => by rw [List.mem_singleton.mp hd]; exact okD_le ht (by decide)
        · exact okD_L (by simp) fun d hd => by rw [List.mem_singleton.mp hd]; exact okD_le ht (by decide)
        · exact okD_2 (okD_S at_okS) (okD_S hn)
        · exact okD_le h0 (by decide)
    · rintro ss ms2 ⟨_, x2, x3, x4, x5, x6, x7, x8, x9, rfl⟩
      walk_at "w"
      rfl
    · refine ⟨fun d hd => ?_, none, none, none, none, none, none, none, none, rfl⟩
      obtain ⟨k, hk, rfl⟩ := rangeD_mem hd
      exact ⟨_, rfl, by omega, by omega⟩
  obtain ⟨x, ms', e, rfl⟩ := main.ex
  exact ⟨ms', e⟩
end K01

set_option Elab.async false
set_option linter.all false
set_option maxRecDepth 100000
set_option maxHeartbeats 4000000
namespace K01
open PySem L2 PyProof.Rows Q
theorem tp_mk {w : World} {K : PySem.W.Frag} {h : Heap} {mg : Str → Option Value} {f1 : Addr} {od1 an1 : Option Addr} {sl1 : Array (Option Value)} {oc1 kV1 dc1 pm1 cd1 ct1 : Value} {f2 : Addr} {od2 an2 : Option Addr} {sl2 : Array (Option Value)} {oc2 kV2 dc2 pm2 cd2 ct2 : Value} {f3 : Addr} {od3 an3 : Option Addr} {sl3 : Array (Option Value)} {oc3 kV3 dc3 pm3 cd3 ct3 : Value} {f4 : Addr} {od4 an4 : Option Addr} {sl4 : Array (Option Value)} {oc4 kV4 dc4 pm4 cd4 ct4 : Value} {f5 : Addr} {od5 an5 : Option Addr} {sl5 : Array (Option Value)} {oc5 kV5 dc5 pm5 cd5 ct5 : Value} {f6 : Addr} {od6 an6 : Option Addr} {sl6 : Array (Option Value)} {oc6 kV6 dc6 pm6 cd6 ct6 : Value} {f7 : Addr} {od7 an7 : Option Addr} {sl7 : Array (Option Value)} {oc7 kV7 dc7 pm7 cd7 ct7 : Value} {f8 : Addr} {od8 an8 : Option Addr} {sl8 : Array (Option Value)} {oc8 kV8 dc8 pm8 cd8 ct8 : Value} {f9 : Addr} {od9 an9 : Option Addr} {sl9 : Array (Option Value)} {oc9 kV9 dc9 pm9 cd9 ct9 : Value} {f10 : Addr} {od10 an10 : Option Addr} {sl10 : Array (Option Value)} {oc10 kV10 dc10 pm10 cd10 ct10 : Value} {f11 : Addr} {od11 an11 : Option Addr} {sl11 : Array (Option Value)} {oc11 kV11 dc11 pm11 cd11 ct11 : Value} {f12 : Addr} {od12 an12 : Option Addr} {sl12 : Array (Option Value)} {oc12 kV12 dc12 pm12 cd12 ct12 : Value} {f13 : Addr} {od13 an13 : Option Addr} {sl13 : Array (Option Value)} {oc13 kV13 dc13 pm13 cd13 ct13 : Value} {f14 : Addr} {od14 an14 : Option Addr} {sl14 : Array (Option Value)} {oc14 kV14 dc14 pm14 cd14 ct14 : Value} {f15 : Addr} {od15 an15 : Option Addr} {sl15 : Array (Option Value)} {oc15 kV15 dc15 pm15 cd15 ct15 : Value} {f16 : Addr} {od16 an16 : Option Addr} {sl16 : Array (Option Value)} {oc16 kV16 dc16 pm16 cd16 ct16 : Value} {f17 : Addr} {od17 an17 : Option Addr} {sl17 : Array (Option Value)} {oc17 kV17 dc17 pm17 cd17 ct17 : Value} {f18 : Addr} {od18 an18 : Option Addr} {sl18 : Array (Option Value)} {oc18 kV18 dc18 pm18 cd18 ct18 : Value} {f19 : Addr} {od19 an19 : Option Addr} {sl19 : Array (Option Value)} {oc19 kV19 dc19 pm19 cd19 ct19 : Value} {f20 : Addr} {od20 an20 : Option Addr} {sl20 : Array (Option Value)} {oc20 kV20 dc20 pm20 cd20 ct20 : Value} {f21 : Addr} {od21 an21 : Option Addr} {sl21 : Array (Option Value)} {oc21 kV21 dc21 pm21 cd21 ct21 : Value} {t9 : Tok} {t11 : Tok} {p14 : Addr} {d14 : Option Addr} {w14 : Nat} {s14 : Array (Option Value)} {t14_0 t14_1 t14_2 t14_3 t14_4 t14_5 t14_6 t14_7 : Tok} {t15 : Tok} {p16 : Addr} {w16 : Nat} {t16_0 t16_1 t16_2 t16_3 t16_4 t16_5 : Tok} {v16_0 v16_1 v16_2 v16_3 v16_4 v16_5 : Value} {t17 : Tok} (X : K.In h) (G : h.Ns mainGlobals mg)
    (a1 : PySem.W.nsIn K mainGlobals "_law_folded" = some (some (.ref f1))) (l1 : K.lookup f1 = some ⟨oc1, od1, .func (PySem.W.fnOf "_law_folded" "_law_folded" (defArgs s__law_folded) (defBody s__law_folded) (defScope s__law_folded) .none kV1 dc1 pm1 an1 cd1 ct1), sl1⟩) (c1 : PySem.W.codeIn K cd1 "_law_folded" = true) (k1 : PySem.W.keepIn K (.ref f1) = true)
    (a2 : PySem.W.nsIn K mainGlobals "_law_pot" = some (some (.ref f2))) (l2 : K.lookup f2 = some ⟨oc2, od2, .func (PySem.W.fnOf "_law_pot" "_law_pot" (defArgs s__law_pot) (defBody s__law_pot) (defScope s__law_pot) .none kV2 dc2 pm2 an2 cd2 ct2), sl2⟩) (c2 : PySem.W.codeIn K cd2 "_law_pot" = true) (k2 : PySem.W.keepIn K (.ref f2) = true)
    (a3 : PySem.W.nsIn K mainGlobals "_law_take" = some (some (.ref f3))) (l3 : K.lookup f3 = some ⟨oc3, od3, .func (PySem.W.fnOf "_law_take" "_law_take" (defArgs s__law_take) (defBody s__law_take) (defScope s__law_take) .none kV3 dc3 pm3 an3 cd3 ct3), sl3⟩) (c3 : PySem.W.codeIn K cd3 "_law_take" = true) (k3 : PySem.W.keepIn K (.ref f3) = true)
    (a4 : PySem.W.nsIn K mainGlobals "_law_letters" = some (some (.ref f4))) (l4 : K.lookup f4 = some ⟨oc4, od4, .func (PySem.W.fnOf "_law_letters" "_law_letters" (defArgs s__law_letters) (defBody s__law_letters) (defScope s__law_letters) .none kV4 dc4 pm4 an4 cd4 ct4), sl4⟩) (c4 : PySem.W.codeIn K cd4 "_law_letters" = true) (k4 : PySem.W.keepIn K (.ref f4) = true)
    (a5 : PySem.W.nsIn K mainGlobals "_law_any_name" = some (some (.ref f5))) (l5 : K.lookup f5 = some ⟨oc5, od5, .func (PySem.W.fnOf "_law_any_name" "_law_any_name" (defArgs s__law_any_name) (defBody s__law_any_name) (defScope s__law_any_name) .none kV5 dc5 pm5 an5 cd5 ct5), sl5⟩) (c5 : PySem.W.codeIn K cd5 "_law_any_name" = true) (k5 : PySem.W.keepIn K (.ref f5) = true)
    (a6 : PySem.W.nsIn K mainGlobals "_law_leaf" = some (some (.ref f6))) (l6 : K.lookup f6 = some ⟨oc6, od6, .func (PySem.W.fnOf "_law_leaf" "_law_leaf" (defArgs s__law_leaf) (defBody s__law_leaf) (defScope s__law_leaf) .none kV6 dc6 pm6 an6 cd6 ct6), sl6⟩) (c6 : PySem.W.codeIn K cd6 "_law_leaf" = true) (k6 : PySem.W.keepIn K (.ref f6) = true)
    (a7 : PySem.W.nsIn K mainGlobals "_law_grown" = some (some (.ref f7))) (l7 : K.lookup f7 = some ⟨oc7, od7, .func (PySem.W.fnOf "_law_grown" "_law_grown" (defArgs s__law_grown) (defBody s__law_grown) (defScope s__law_grown) .none kV7 dc7 pm7 an7 cd7 ct7), sl7⟩) (c7 : PySem.W.codeIn K cd7 "_law_grown" = true) (k7 : PySem.W.keepIn K (.ref f7) = true)
    (a8 : PySem.W.nsIn K mainGlobals "_law_spoilt" = some (some (.ref f8))) (l8 : K.lookup f8 = some ⟨oc8, od8, .func (PySem.W.fnOf "_law_spoilt" "_law_spoilt" (defArgs s__law_spoilt) (defBody s__law_spoilt) (defScope s__law_spoilt) .none kV8 dc8 pm8 an8 cd8 ct8), sl8⟩) (c8 : PySem.W.codeIn K cd8 "_law_spoilt" = true) (k8 : PySem.W.keepIn K (.ref f8) = true)
    (a9 : PySem.W.nsIn K mainGlobals "is_name" = some (some (.ref f9))) (l9 : K.lookup f9 = some ⟨oc9, od9, .func (PySem.W.fnOf "is_name" "is_name" (defArgs s_is_name) (defBody s_is_name) (defScope s_is_name) .none kV9 dc9 pm9 an9 cd9 ct9), sl9⟩) (c9 : PySem.W.codeIn K cd9 "is_name" = true) (k9 : PySem.W.keepIn K (.ref f9) = true)
    (a10 : PySem.W.nsIn K mainGlobals "is_whole" = some (some (.ref f10))) (l10 : K.lookup f10 = some ⟨oc10, od10, .func (PySem.W.fnOf "is_whole" "is_whole" (defArgs s_is_whole) (defBody s_is_whole) (defScope s_is_whole) .none kV10 dc10 pm10 an10 cd10 ct10), sl10⟩) (c10 : PySem.W.codeIn K cd10 "is_whole" = true) (k10 : PySem.W.keepIn K (.ref f10) = true)
    (a11 : PySem.W.nsIn K mainGlobals "is_between" = some (some (.ref f11))) (l11 : K.lookup f11 = some ⟨oc11, od11, .func (PySem.W.fnOf "is_between" "is_between" (defArgs s_is_between) (defBody s_is_between) (defScope s_is_between) .none kV11 dc11 pm11 an11 cd11 ct11), sl11⟩) (c11 : PySem.W.codeIn K cd11 "is_between" = true) (k11 : PySem.W.keepIn K (.ref f11) = true)
    (a12 : PySem.W.nsIn K mainGlobals "is_cell" = some (some (.ref f12))) (l12 : K.lookup f12 = some ⟨oc12, od12, .func (PySem.W.fnOf "is_cell" "is_cell" (defArgs s_is_cell) (defBody s_is_cell) (defScope s_is_cell) .none kV12 dc12 pm12 an12 cd12 ct12), sl12⟩) (c12 : PySem.W.codeIn K cd12 "is_cell" = true) (k12 : PySem.W.keepIn K (.ref f12) = true)
    (a13 : PySem.W.nsIn K mainGlobals "is_at" = some (some (.ref f13))) (l13 : K.lookup f13 = some ⟨oc13, od13, .func (PySem.W.fnOf "is_at" "is_at" (defArgs s_is_at) (defBody s_is_at) (defScope s_is_at) .none kV13 dc13 pm13 an13 cd13 ct13), sl13⟩) (c13 : PySem.W.codeIn K cd13 "is_at" = true) (k13 : PySem.W.keepIn K (.ref f13) = true)
    (a14 : PySem.W.nsIn K mainGlobals "is_worth" = some (some (.ref f14))) (l14 : K.lookup f14 = some ⟨oc14, od14, .func (PySem.W.fnOf "is_worth" "is_worth" (defArgs s_is_worth) (defBody s_is_worth) (defScope s_is_worth) .none kV14 dc14 pm14 an14 cd14 ct14), sl14⟩) (c14 : PySem.W.codeIn K cd14 "is_worth" = true) (k14 : PySem.W.keepIn K (.ref f14) = true)
    (a15 : PySem.W.nsIn K mainGlobals "is_op" = some (some (.ref f15))) (l15 : K.lookup f15 = some ⟨oc15, od15, .func (PySem.W.fnOf "is_op" "is_op" (defArgs s_is_op) (defBody s_is_op) (defScope s_is_op) .none kV15 dc15 pm15 an15 cd15 ct15), sl15⟩) (c15 : PySem.W.codeIn K cd15 "is_op" = true) (k15 : PySem.W.keepIn K (.ref f15) = true)
    (a16 : PySem.W.nsIn K mainGlobals "is_term_with" = some (some (.ref f16))) (l16 : K.lookup f16 = some ⟨oc16, od16, .func (PySem.W.fnOf "is_term_with" "is_term_with" (defArgs s_is_term_with) (defBody s_is_term_with) (defScope s_is_term_with) .none kV16 dc16 pm16 an16 cd16 ct16), sl16⟩) (c16 : PySem.W.codeIn K cd16 "is_term_with" = true) (k16 : PySem.W.keepIn K (.ref f16) = true)
    (a17 : PySem.W.nsIn K mainGlobals "is_term" = some (some (.ref f17))) (l17 : K.lookup f17 = some ⟨oc17, od17, .func (PySem.W.fnOf "is_term" "is_term" (defArgs s_is_term) (defBody s_is_term) (defScope s_is_term) .none kV17 dc17 pm17 an17 cd17 ct17), sl17⟩) (c17 : PySem.W.codeIn K cd17 "is_term" = true) (k17 : PySem.W.keepIn K (.ref f17) = true)
    (a18 : PySem.W.nsIn K mainGlobals "_law_within" = some (some (.ref f18))) (l18 : K.lookup f18 = some ⟨oc18, od18, .func (PySem.W.fnOf "_law_within" "_law_within" (defArgs s__law_within) (defBody s__law_within) (defScope s__law_within) .none kV18 dc18 pm18 an18 cd18 ct18), sl18⟩) (c18 : PySem.W.codeIn K cd18 "_law_within" = true) (k18 : PySem.W.keepIn K (.ref f18) = true)
    (a19 : PySem.W.nsIn K mainGlobals "_law_name_due" = some (some (.ref f19))) (l19 : K.lookup f19 = some ⟨oc19, od19, .func (PySem.W.fnOf "_law_name_due" "_law_name_due" (defArgs s__law_name_due) (defBody s__law_name_due) (defScope s__law_name_due) .none kV19 dc19 pm19 an19 cd19 ct19), sl19⟩) (c19 : PySem.W.codeIn K cd19 "_law_name_due" = true) (k19 : PySem.W.keepIn K (.ref f19) = true)
    (a20 : PySem.W.nsIn K mainGlobals "_law_term_due" = some (some (.ref f20))) (l20 : K.lookup f20 = some ⟨oc20, od20, .func (PySem.W.fnOf "_law_term_due" "_law_term_due" (defArgs s__law_term_due) (defBody s__law_term_due) (defScope s__law_term_due) .none kV20 dc20 pm20 an20 cd20 ct20), sl20⟩) (c20 : PySem.W.codeIn K cd20 "_law_term_due" = true) (k20 : PySem.W.keepIn K (.ref f20) = true)
    (a21 : PySem.W.nsIn K mainGlobals "law" = some (some (.ref f21))) (l21 : K.lookup f21 = some ⟨oc21, od21, .func (PySem.W.fnOf "law" "law" (defArgs s_law) (defBody s_law) (defScope s_law) .none kV21 dc21 pm21 an21 cd21 ct21), sl21⟩) (c21 : PySem.W.codeIn K cd21 "law" = true) (k21 : PySem.W.keepIn K (.ref f21) = true)
    (z1 : PySem.W.nsIn K mainGlobals "list" = some none)
    (z2 : PySem.W.nsIn K mainGlobals "len" = some none)
    (z3 : PySem.W.nsIn K mainGlobals "min" = some none)
    (z4 : PySem.W.nsIn K mainGlobals "range" = some none)
    (z5 : PySem.W.nsIn K mainGlobals "abs" = some none)
    (z6 : PySem.W.nsIn K mainGlobals "int" = some none)
    (z7 : PySem.W.nsIn K mainGlobals "tuple" = some none)
    (z8 : PySem.W.nsIn K mainGlobals "isinstance" = some none)
    (z9 : PySem.W.nsIn K mainGlobals "LONGEST" = some (some (.int 6 t9)))
    (z10 : PySem.W.nsIn K mainGlobals "str" = some none)
    (z11 : PySem.W.nsIn K mainGlobals "LETTERS" = some (some (.str "abcdefghijklmnopqrstuvwxyz" t11)))
    (z12 : PySem.W.nsIn K mainGlobals "all" = some none)
    (z13 : PySem.W.nsIn K mainGlobals "bool" = some none)
    (z14 : PySem.W.nsIn K mainGlobals "CELLS" = some (some (.ref p14))) (y14 : K.lookup p14 = some ⟨.type "tuple", d14, .seq #[.int 0 t14_0, .int 0 t14_1, .int 0 t14_2, .int 0 t14_3, .int 0 t14_4, .int 0 t14_5, .int 0 t14_6, .int 0 t14_7] w14, s14⟩)
    (z15 : PySem.W.nsIn K mainGlobals "WORTHS" = some (some (.int 997 t15)))
    (z16 : PySem.W.nsIn K mainGlobals "OPS" = some (some (.ref p16))) (y16 : K.lookup p16 = some ⟨.type "dict", none, .dict #[⟨PyData.keyHash w.params "+", .str "+" t16_0, v16_0⟩, ⟨PyData.keyHash w.params "-", .str "-" t16_1, v16_1⟩, ⟨PyData.keyHash w.params "*", .str "*" t16_2, v16_2⟩, ⟨PyData.keyHash w.params "/", .str "/" t16_3, v16_3⟩, ⟨PyData.keyHash w.params "<", .str "<" t16_4, v16_4⟩, ⟨PyData.keyHash w.params "=", .str "=" t16_5, v16_5⟩] w16, #[]⟩) (x16 : (p16 == sysModules) = false)
    (z17 : PySem.W.nsIn K mainGlobals "DEEP" = some (some (.int 5 t17)))
    (z18 : PySem.W.nsIn K mainGlobals "max" = some none) : Tp w K mg := by
  refine ⟨?_, ?_, ?_, ?_, ?_, ?_, ?_, ?_, ?_, ?_, ?_, ?_, ?_, ?_, ?_, ?_, ?_, ?_, ?_, ?_, ?_, ?_, ?_, ?_, ?_, ?_, ?_, ?_, ?_, ?_, ?_, ?_, ?_, ?_, ?_, ?_, ?_, ?_, ?_⟩
  · exact PySem.W.mg_none_of X G z1
  · exact PySem.W.mg_none_of X G z2
  · exact PySem.W.mg_none_of X G z3
  · exact PySem.W.mg_none_of X G z4
  · exact PySem.W.mg_none_of X G z5
  · exact PySem.W.mg_none_of X G z6
  · exact PySem.W.mg_none_of X G z7
  · exact PySem.W.mg_none_of X G z8
  · exact ⟨t9, PySem.W.mg_of X G z9⟩
  · exact PySem.W.mg_none_of X G z10
  · exact ⟨t11, PySem.W.mg_of X G z11⟩
  · exact PySem.W.mg_none_of X G z12
  · exact PySem.W.mg_none_of X G z13
  · exact ⟨p14, PySem.W.mg_of X G z14, fun _ _ => .tup (xs := [V.int 0, V.int 0, V.int 0, V.int 0, V.int 0, V.int 0, V.int 0, V.int 0]) (.inr ⟨_, _, _, y14, rfl, rfl, (show 8 ≤ sizeLine by decide), (.cons ⟨_, rfl⟩ (.cons ⟨_, rfl⟩ (.cons ⟨_, rfl⟩ (.cons ⟨_, rfl⟩ (.cons ⟨_, rfl⟩ (.cons ⟨_, rfl⟩ (.cons ⟨_, rfl⟩ (.cons ⟨_, rfl⟩ .nil))))))))⟩) (.cons (.int _) (.cons (.int _) (.cons (.int _) (.cons (.int _) (.cons (.int _) (.cons (.int _) (.cons (.int _) (.cons (.int _) .nil))))))))⟩
  · exact ⟨t15, PySem.W.mg_of X G z15⟩
  · exact ⟨p16, PySem.W.mg_of X G z16, kd_of y16 ⟨⟨_, _, rfl, rfl⟩, ⟨⟨_, _, rfl, rfl⟩, ⟨⟨_, _, rfl, rfl⟩, ⟨⟨_, _, rfl, rfl⟩, ⟨⟨_, _, rfl, rfl⟩, ⟨⟨_, _, rfl, rfl⟩, trivial⟩⟩⟩⟩⟩⟩ x16 rfl⟩
  · exact ⟨t17, PySem.W.mg_of X G z17⟩
  · exact PySem.W.mg_none_of X G z18
  · exact ⟨f1, _, fun_mk (st := s__law_folded) l1 c1 k1, PySem.W.mg_of X G a1, (fun_mk (st := s__law_folded) l1 c1 k1).binds (ps := ["_law_script", "_law_most"]) fun _ _ _ _ _ _ us hl => match us, hl with | [_, _], _ => rfl⟩
  · exact ⟨f2, _, fun_mk (st := s__law_pot) l2 c2 k2, PySem.W.mg_of X G a2, (fun_mk (st := s__law_pot) l2 c2 k2).binds (ps := ["_law_script", "_law_k"]) fun _ _ _ _ _ _ us hl => match us, hl with | [_, _], _ => rfl⟩
  · exact ⟨f3, _, fun_mk (st := s__law_take) l3 c3 k3, PySem.W.mg_of X G a3, (fun_mk (st := s__law_take) l3 c3 k3).binds (ps := ["_law_pot_here", "_law_many"]) fun _ _ _ _ _ _ us hl => match us, hl with | [_, _], _ => rfl⟩
  · exact ⟨f4, _, fun_mk (st := s__law_letters) l4 c4 k4, PySem.W.mg_of X G a4, (fun_mk (st := s__law_letters) l4 c4 k4).binds (ps := ["_law_pot_here", "_law_many"]) fun _ _ _ _ _ _ us hl => match us, hl with | [_, _], _ => rfl⟩
  · exact ⟨f5, _, fun_mk (st := s__law_any_name) l5 c5 k5, PySem.W.mg_of X G a5, (fun_mk (st := s__law_any_name) l5 c5 k5).binds (ps := ["_law_pot_here"]) fun _ _ _ _ _ _ us hl => match us, hl with | [_], _ => rfl⟩
  · exact ⟨f6, _, fun_mk (st := s__law_leaf) l6 c6 k6, PySem.W.mg_of X G a6, (fun_mk (st := s__law_leaf) l6 c6 k6).binds (ps := ["_law_pot_here"]) fun _ _ _ _ _ _ us hl => match us, hl with | [_], _ => rfl⟩
  · exact ⟨f7, _, fun_mk (st := s__law_grown) l7 c7 k7, PySem.W.mg_of X G a7, (fun_mk (st := s__law_grown) l7 c7 k7).binds (ps := ["_law_pot_here", "_law_deep"]) fun _ _ _ _ _ _ us hl => match us, hl with | [_, _], _ => rfl⟩
  · exact ⟨f8, _, fun_mk (st := s__law_spoilt) l8 c8 k8, PySem.W.mg_of X G a8, (fun_mk (st := s__law_spoilt) l8 c8 k8).binds (ps := ["_law_pot_here", "_law_thing"]) fun _ _ _ _ _ _ us hl => match us, hl with | [_, _], _ => rfl⟩
  · exact ⟨f9, _, fun_mk (st := s_is_name) l9 c9 k9, PySem.W.mg_of X G a9, (fun_mk (st := s_is_name) l9 c9 k9).binds (ps := ["thing"]) fun _ _ _ _ _ _ us hl => match us, hl with | [_], _ => rfl⟩
  · exact ⟨f10, _, fun_mk (st := s_is_whole) l10 c10 k10, PySem.W.mg_of X G a10, (fun_mk (st := s_is_whole) l10 c10 k10).binds (ps := ["thing"]) fun _ _ _ _ _ _ us hl => match us, hl with | [_], _ => rfl⟩
  · exact ⟨f11, _, fun_mk (st := s_is_between) l11 c11 k11, PySem.W.mg_of X G a11, (fun_mk (st := s_is_between) l11 c11 k11).binds (ps := ["thing", "least", "most"]) fun _ _ _ _ _ _ us hl => match us, hl with | [_, _, _], _ => rfl⟩
  · exact ⟨f12, _, fun_mk (st := s_is_cell) l12 c12 k12, PySem.W.mg_of X G a12, (fun_mk (st := s_is_cell) l12 c12 k12).binds (ps := ["thing"]) fun _ _ _ _ _ _ us hl => match us, hl with | [_], _ => rfl⟩
  · exact ⟨f13, _, fun_mk (st := s_is_at) l13 c13 k13, PySem.W.mg_of X G a13, (fun_mk (st := s_is_at) l13 c13 k13).binds (ps := ["thing"]) fun _ _ _ _ _ _ us hl => match us, hl with | [_], _ => rfl⟩
  · exact ⟨f14, _, fun_mk (st := s_is_worth) l14 c14 k14, PySem.W.mg_of X G a14, (fun_mk (st := s_is_worth) l14 c14 k14).binds (ps := ["thing"]) fun _ _ _ _ _ _ us hl => match us, hl with | [_], _ => rfl⟩
  · exact ⟨f15, _, fun_mk (st := s_is_op) l15 c15 k15, PySem.W.mg_of X G a15, (fun_mk (st := s_is_op) l15 c15 k15).binds (ps := ["thing"]) fun _ _ _ _ _ _ us hl => match us, hl with | [_], _ => rfl⟩
  · exact ⟨f16, _, fun_mk (st := s_is_term_with) l16 c16 k16, PySem.W.mg_of X G a16, (fun_mk (st := s_is_term_with) l16 c16 k16).binds (ps := ["thing", "is_place", "deep"]) fun _ _ _ _ _ _ us hl => match us, hl with | [_, _, _], _ => rfl⟩
  · exact ⟨f17, _, fun_mk (st := s_is_term) l17 c17 k17, PySem.W.mg_of X G a17, (fun_mk (st := s_is_term) l17 c17 k17).binds (ps := ["thing"]) fun _ _ _ _ _ _ us hl => match us, hl with | [_], _ => rfl⟩
  · exact ⟨f18, _, fun_mk (st := s__law_within) l18 c18 k18, PySem.W.mg_of X G a18, (fun_mk (st := s__law_within) l18 c18 k18).binds (ps := ["_law_thing", "_law_most"]) fun _ _ _ _ _ _ us hl => match us, hl with | [_, _], _ => rfl⟩
  · exact ⟨f19, _, fun_mk (st := s__law_name_due) l19 c19 k19, PySem.W.mg_of X G a19, (fun_mk (st := s__law_name_due) l19 c19 k19).binds (ps := ["_law_thing"]) fun _ _ _ _ _ _ us hl => match us, hl with | [_], _ => rfl⟩
  · exact ⟨f20, _, fun_mk (st := s__law_term_due) l20 c20 k20, PySem.W.mg_of X G a20, (fun_mk (st := s__law_term_due) l20 c20 k20).binds (ps := ["_law_thing", "_law_deep"]) fun _ _ _ _ _ _ us hl => match us, hl with | [_, _], _ => rfl⟩
  · exact ⟨f21, _, fun_mk (st := s_law) l21 c21 k21, PySem.W.mg_of X G a21, (fun_mk (st := s_law) l21 c21 k21).binds (ps := ["_law_script"]) fun _ _ _ _ _ _ us hl => match us, hl with | [_], _ => rfl⟩
theorem fin_mk {w : World} {K : PySem.W.Frag} {h : Heap} {mg : Str → Option Value} {f1 : Addr} {od1 an1 : Option Addr} {sl1 : Array (Option Value)} {oc1 kV1 dc1 pm1 cd1 ct1 : Value} {f2 : Addr} {od2 an2 : Option Addr} {sl2 : Array (Option Value)} {oc2 kV2 dc2 pm2 cd2 ct2 : Value} {f3 : Addr} {od3 an3 : Option Addr} {sl3 : Array (Option Value)} {oc3 kV3 dc3 pm3 cd3 ct3 : Value} {f4 : Addr} {od4 an4 : Option Addr} {sl4 : Array (Option Value)} {oc4 kV4 dc4 pm4 cd4 ct4 : Value} {f5 : Addr} {od5 an5 : Option Addr} {sl5 : Array (Option Value)} {oc5 kV5 dc5 pm5 cd5 ct5 : Value} {f6 : Addr} {od6 an6 : Option Addr} {sl6 : Array (Option Value)} {oc6 kV6 dc6 pm6 cd6 ct6 : Value} {f7 : Addr} {od7 an7 : Option Addr} {sl7 : Array (Option Value)} {oc7 kV7 dc7 pm7 cd7 ct7 : Value} {f8 : Addr} {od8 an8 : Option Addr} {sl8 : Array (Option Value)} {oc8 kV8 dc8 pm8 cd8 ct8 : Value} {f9 : Addr} {od9 an9 : Option Addr} {sl9 : Array (Option Value)} {oc9 kV9 dc9 pm9 cd9 ct9 : Value} {f10 : Addr} {od10 an10 : Option Addr} {sl10 : Array (Option Value)} {oc10 kV10 dc10 pm10 cd10 ct10 : Value} {f11 : Addr} {od11 an11 : Option Addr} {sl11 : Array (Option Value)} {oc11 kV11 dc11 pm11 cd11 ct11 : Value} {f12 : Addr} {od12 an12 : Option Addr} {sl12 : Array (Option Value)} {oc12 kV12 dc12 pm12 cd12 ct12 : Value} {f13 : Addr} {od13 an13 : Option Addr} {sl13 : Array (Option Value)} {oc13 kV13 dc13 pm13 cd13 ct13 : Value} {f14 : Addr} {od14 an14 : Option Addr} {sl14 : Array (Option Value)} {oc14 kV14 dc14 pm14 cd14 ct14 : Value} {f15 : Addr} {od15 an15 : Option Addr} {sl15 : Array (Option Value)} {oc15 kV15 dc15 pm15 cd15 ct15 : Value} {f16 : Addr} {od16 an16 : Option Addr} {sl16 : Array (Option Value)} {oc16 kV16 dc16 pm16 cd16 ct16 : Value} {f17 : Addr} {od17 an17 : Option Addr} {sl17 : Array (Option Value)} {oc17 kV17 dc17 pm17 cd17 ct17 : Value} {f18 : Addr} {od18 an18 : Option Addr} {sl18 : Array (Option Value)} {oc18 kV18 dc18 pm18 cd18 ct18 : Value} {f19 : Addr} {od19 an19 : Option Addr} {sl19 : Array (Option Value)} {oc19 kV19 dc19 pm19 cd19 ct19 : Value} {f20 : Addr} {od20 an20 : Option Addr} {sl20 : Array (Option Value)} {oc20 kV20 dc20 pm20 cd20 ct20 : Value} {f21 : Addr} {od21 an21 : Option Addr} {sl21 : Array (Option Value)} {oc21 kV21 dc21 pm21 cd21 ct21 : Value} {t9 : Tok} {t11 : Tok} {p14 : Addr} {d14 : Option Addr} {w14 : Nat} {s14 : Array (Option Value)} {t14_0 t14_1 t14_2 t14_3 t14_4 t14_5 t14_6 t14_7 : Tok} {t15 : Tok} {p16 : Addr} {w16 : Nat} {t16_0 t16_1 t16_2 t16_3 t16_4 t16_5 : Tok} {v16_0 v16_1 v16_2 v16_3 v16_4 v16_5 : Value} {t17 : Tok} {fa : Addr} (X : K.In h) (G : h.Ns mainGlobals mg) (hfa : mg "law" = some (.ref fa))
    (a1 : PySem.W.nsIn K mainGlobals "_law_folded" = some (some (.ref f1))) (l1 : K.lookup f1 = some ⟨oc1, od1, .func (PySem.W.fnOf "_law_folded" "_law_folded" (defArgs s__law_folded) (defBody s__law_folded) (defScope s__law_folded) .none kV1 dc1 pm1 an1 cd1 ct1), sl1⟩) (c1 : PySem.W.codeIn K cd1 "_law_folded" = true) (k1 : PySem.W.keepIn K (.ref f1) = true)
    (a2 : PySem.W.nsIn K mainGlobals "_law_pot" = some (some (.ref f2))) (l2 : K.lookup f2 = some ⟨oc2, od2, .func (PySem.W.fnOf "_law_pot" "_law_pot" (defArgs s__law_pot) (defBody s__law_pot) (defScope s__law_pot) .none kV2 dc2 pm2 an2 cd2 ct2), sl2⟩) (c2 : PySem.W.codeIn K cd2 "_law_pot" = true) (k2 : PySem.W.keepIn K (.ref f2) = true)
    (a3 : PySem.W.nsIn K mainGlobals "_law_take" = some (some (.ref f3))) (l3 : K.lookup f3 = some ⟨oc3, od3, .func (PySem.W.fnOf "_law_take" "_law_take" (defArgs s__law_take) (defBody s__law_take) (defScope s__law_take) .none kV3 dc3 pm3 an3 cd3 ct3), sl3⟩) (c3 : PySem.W.codeIn K cd3 "_law_take" = true) (k3 : PySem.W.keepIn K (.ref f3) = true)
    (a4 : PySem.W.nsIn K mainGlobals "_law_letters" = some (some (.ref f4))) (l4 : K.lookup f4 = some ⟨oc4, od4, .func (PySem.W.fnOf "_law_letters" "_law_letters" (defArgs s__law_letters) (defBody s__law_letters) (defScope s__law_letters) .none kV4 dc4 pm4 an4 cd4 ct4), sl4⟩) (c4 : PySem.W.codeIn K cd4 "_law_letters" = true) (k4 : PySem.W.keepIn K (.ref f4) = true)
    (a5 : PySem.W.nsIn K mainGlobals "_law_any_name" = some (some (.ref f5))) (l5 : K.lookup f5 = some ⟨oc5, od5, .func (PySem.W.fnOf "_law_any_name" "_law_any_name" (defArgs s__law_any_name) (defBody s__law_any_name) (defScope s__law_any_name) .none kV5 dc5 pm5 an5 cd5 ct5), sl5⟩) (c5 : PySem.W.codeIn K cd5 "_law_any_name" = true) (k5 : PySem.W.keepIn K (.ref f5) = true)
    (a6 : PySem.W.nsIn K mainGlobals "_law_leaf" = some (some (.ref f6))) (l6 : K.lookup f6 = some ⟨oc6, od6, .func (PySem.W.fnOf "_law_leaf" "_law_leaf" (defArgs s__law_leaf) (defBody s__law_leaf) (defScope s__law_leaf) .none kV6 dc6 pm6 an6 cd6 ct6), sl6⟩) (c6 : PySem.W.codeIn K cd6 "_law_leaf" = true) (k6 : PySem.W.keepIn K (.ref f6) = true)
    (a7 : PySem.W.nsIn K mainGlobals "_law_grown" = some (some (.ref f7))) (l7 : K.lookup f7 = some ⟨oc7, od7, .func (PySem.W.fnOf "_law_grown" "_law_grown" (defArgs s__law_grown) (defBody s__law_grown) (defScope s__law_grown) .none kV7 dc7 pm7 an7 cd7 ct7), sl7⟩) (c7 : PySem.W.codeIn K cd7 "_law_grown" = true) (k7 : PySem.W.keepIn K (.ref f7) = true)
    (a8 : PySem.W.nsIn K mainGlobals "_law_spoilt" = some (some (.ref f8))) (l8 : K.lookup f8 = some ⟨oc8, od8, .func (PySem.W.fnOf "_law_spoilt" "_law_spoilt" (defArgs s__law_spoilt) (defBody s__law_spoilt) (defScope s__law_spoilt) .none kV8 dc8 pm8 an8 cd8 ct8), sl8⟩) (c8 : PySem.W.codeIn K cd8 "_law_spoilt" = true) (k8 : PySem.W.keepIn K (.ref f8) = true)
    (a9 : PySem.W.nsIn K mainGlobals "is_name" = some (some (.ref f9))) (l9 : K.lookup f9 = some ⟨oc9, od9, .func (PySem.W.fnOf "is_name" "is_name" (defArgs s_is_name) (defBody s_is_name) (defScope s_is_name) .none kV9 dc9 pm9 an9 cd9 ct9), sl9⟩) (c9 : PySem.W.codeIn K cd9 "is_name" = true) (k9 : PySem.W.keepIn K (.ref f9) = true)
    (a10 : PySem.W.nsIn K mainGlobals "is_whole" = some (some (.ref f10))) (l10 : K.lookup f10 = some ⟨oc10, od10, .func (PySem.W.fnOf "is_whole" "is_whole" (defArgs s_is_whole) (defBody s_is_whole) (defScope s_is_whole) .none kV10 dc10 pm10 an10 cd10 ct10), sl10⟩) (c10 : PySem.W.codeIn K cd10 "is_whole" = true) (k10 : PySem.W.keepIn K (.ref f10) = true)
    (a11 : PySem.W.nsIn K mainGlobals "is_between" = some (some (.ref f11))) (l11 : K.lookup f11 = some ⟨oc11, od11, .func (PySem.W.fnOf "is_between" "is_between" (defArgs s_is_between) (defBody s_is_between) (defScope s_is_between) .none kV11 dc11 pm11 an11 cd11 ct11), sl11⟩) (c11 : PySem.W.codeIn K cd11 "is_between" = true) (k11 : PySem.W.keepIn K (.ref f11) = true)
    (a12 : PySem.W.nsIn K mainGlobals "is_cell" = some (some (.ref f12))) (l12 : K.lookup f12 = some ⟨oc12, od12, .func (PySem.W.fnOf "is_cell" "is_cell" (defArgs s_is_cell) (defBody s_is_cell) (defScope s_is_cell) .none kV12 dc12 pm12 an12 cd12 ct12), sl12⟩) (c12 : PySem.W.codeIn K cd12 "is_cell" = true) (k12 : PySem.W.keepIn K (.ref f12) = true)
    (a13 : PySem.W.nsIn K mainGlobals "is_at" = some (some (.ref f13))) (l13 : K.lookup f13 = some ⟨oc13, od13, .func (PySem.W.fnOf "is_at" "is_at" (defArgs s_is_at) (defBody s_is_at) (defScope s_is_at) .none kV13 dc13 pm13 an13 cd13 ct13), sl13⟩) (c13 : PySem.W.codeIn K cd13 "is_at" = true) (k13 : PySem.W.keepIn K (.ref f13) = true)
    (a14 : PySem.W.nsIn K mainGlobals "is_worth" = some (some (.ref f14))) (l14 : K.lookup f14 = some ⟨oc14, od14, .func (PySem.W.fnOf "is_worth" "is_worth" (defArgs s_is_worth) (defBody s_is_worth) (defScope s_is_worth) .none kV14 dc14 pm14 an14 cd14 ct14), sl14⟩) (c14 : PySem.W.codeIn K cd14 "is_worth" = true) (k14 : PySem.W.keepIn K (.ref f14) = true)
    (a15 : PySem.W.nsIn K mainGlobals "is_op" = some (some (.ref f15))) (l15 : K.lookup f15 = some ⟨oc15, od15, .func (PySem.W.fnOf "is_op" "is_op" (defArgs s_is_op) (defBody s_is_op) (defScope s_is_op) .none kV15 dc15 pm15 an15 cd15 ct15), sl15⟩) (c15 : PySem.W.codeIn K cd15 "is_op" = true) (k15 : PySem.W.keepIn K (.ref f15) = true)
    (a16 : PySem.W.nsIn K mainGlobals "is_term_with" = some (some (.ref f16))) (l16 : K.lookup f16 = some ⟨oc16, od16, .func (PySem.W.fnOf "is_term_with" "is_term_with" (defArgs s_is_term_with) (defBody s_is_term_with) (defScope s_is_term_with) .none kV16 dc16 pm16 an16 cd16 ct16), sl16⟩) (c16 : PySem.W.codeIn K cd16 "is_term_with" = true) (k16 : PySem.W.keepIn K (.ref f16) = true)
    (a17 : PySem.W.nsIn K mainGlobals "is_term" = some (some (.ref f17))) (l17 : K.lookup f17 = some ⟨oc17, od17, .func (PySem.W.fnOf "is_term" "is_term" (defArgs s_is_term) (defBody s_is_term) (defScope s_is_term) .none kV17 dc17 pm17 an17 cd17 ct17), sl17⟩) (c17 : PySem.W.codeIn K cd17 "is_term" = true) (k17 : PySem.W.keepIn K (.ref f17) = true)
    (a18 : PySem.W.nsIn K mainGlobals "_law_within" = some (some (.ref f18))) (l18 : K.lookup f18 = some ⟨oc18, od18, .func (PySem.W.fnOf "_law_within" "_law_within" (defArgs s__law_within) (defBody s__law_within) (defScope s__law_within) .none kV18 dc18 pm18 an18 cd18 ct18), sl18⟩) (c18 : PySem.W.codeIn K cd18 "_law_within" = true) (k18 : PySem.W.keepIn K (.ref f18) = true)
    (a19 : PySem.W.nsIn K mainGlobals "_law_name_due" = some (some (.ref f19))) (l19 : K.lookup f19 = some ⟨oc19, od19, .func (PySem.W.fnOf "_law_name_due" "_law_name_due" (defArgs s__law_name_due) (defBody s__law_name_due) (defScope s__law_name_due) .none kV19 dc19 pm19 an19 cd19 ct19), sl19⟩) (c19 : PySem.W.codeIn K cd19 "_law_name_due" = true) (k19 : PySem.W.keepIn K (.ref f19) = true)
    (a20 : PySem.W.nsIn K mainGlobals "_law_term_due" = some (some (.ref f20))) (l20 : K.lookup f20 = some ⟨oc20, od20, .func (PySem.W.fnOf "_law_term_due" "_law_term_due" (defArgs s__law_term_due) (defBody s__law_term_due) (defScope s__law_term_due) .none kV20 dc20 pm20 an20 cd20 ct20), sl20⟩) (c20 : PySem.W.codeIn K cd20 "_law_term_due" = true) (k20 : PySem.W.keepIn K (.ref f20) = true)
    (a21 : PySem.W.nsIn K mainGlobals "law" = some (some (.ref f21))) (l21 : K.lookup f21 = some ⟨oc21, od21, .func (PySem.W.fnOf "law" "law" (defArgs s_law) (defBody s_law) (defScope s_law) .none kV21 dc21 pm21 an21 cd21 ct21), sl21⟩) (c21 : PySem.W.codeIn K cd21 "law" = true) (k21 : PySem.W.keepIn K (.ref f21) = true)
    (z1 : PySem.W.nsIn K mainGlobals "list" = some none)
    (z2 : PySem.W.nsIn K mainGlobals "len" = some none)
    (z3 : PySem.W.nsIn K mainGlobals "min" = some none)
    (z4 : PySem.W.nsIn K mainGlobals "range" = some none)
    (z5 : PySem.W.nsIn K mainGlobals "abs" = some none)
    (z6 : PySem.W.nsIn K mainGlobals "int" = some none)
    (z7 : PySem.W.nsIn K mainGlobals "tuple" = some none)
    (z8 : PySem.W.nsIn K mainGlobals "isinstance" = some none)
    (z9 : PySem.W.nsIn K mainGlobals "LONGEST" = some (some (.int 6 t9)))
    (z10 : PySem.W.nsIn K mainGlobals "str" = some none)
    (z11 : PySem.W.nsIn K mainGlobals "LETTERS" = some (some (.str "abcdefghijklmnopqrstuvwxyz" t11)))
    (z12 : PySem.W.nsIn K mainGlobals "all" = some none)
    (z13 : PySem.W.nsIn K mainGlobals "bool" = some none)
    (z14 : PySem.W.nsIn K mainGlobals "CELLS" = some (some (.ref p14))) (y14 : K.lookup p14 = some ⟨.type "tuple", d14, .seq #[.int 0 t14_0, .int 0 t14_1, .int 0 t14_2, .int 0 t14_3, .int 0 t14_4, .int 0 t14_5, .int 0 t14_6, .int 0 t14_7] w14, s14⟩)
    (z15 : PySem.W.nsIn K mainGlobals "WORTHS" = some (some (.int 997 t15)))
    (z16 : PySem.W.nsIn K mainGlobals "OPS" = some (some (.ref p16))) (y16 : K.lookup p16 = some ⟨.type "dict", none, .dict #[⟨PyData.keyHash w.params "+", .str "+" t16_0, v16_0⟩, ⟨PyData.keyHash w.params "-", .str "-" t16_1, v16_1⟩, ⟨PyData.keyHash w.params "*", .str "*" t16_2, v16_2⟩, ⟨PyData.keyHash w.params "/", .str "/" t16_3, v16_3⟩, ⟨PyData.keyHash w.params "<", .str "<" t16_4, v16_4⟩, ⟨PyData.keyHash w.params "=", .str "=" t16_5, v16_5⟩] w16, #[]⟩) (x16 : (p16 == sysModules) = false)
    (z17 : PySem.W.nsIn K mainGlobals "DEEP" = some (some (.int 5 t17)))
    (z18 : PySem.W.nsIn K mainGlobals "max" = some none) : Tp w K mg ∧ ∃ fd : FuncData, Fun K "law" "law" s_law fa fd ∧ ∀ (s : Shared) (u : Value), BindsTo s fd ⟨[u], []⟩ [("_law_script", u)] := by
  have e := hfa.symm.trans (PySem.W.mg_of X G a21)
  cases e
  exact ⟨tp_mk X G a1 l1 c1 k1 a2 l2 c2 k2 a3 l3 c3 k3 a4 l4 c4 k4 a5 l5 c5 k5 a6 l6 c6 k6 a7 l7 c7 k7 a8 l8 c8 k8 a9 l9 c9 k9 a10 l10 c10 k10 a11 l11 c11 k11 a12 l12 c12 k12 a13 l13 c13 k13 a14 l14 c14 k14 a15 l15 c15 k15 a16 l16 c16 k16 a17 l17 c17 k17 a18 l18 c18 k18 a19 l19 c19 k19 a20 l20 c20 k20 a21 l21 c21 k21 z1 z2 z3 z4 z5 z6 z7 z8 z9 z10 z11 z12 z13 z14 y14 z15 z16 y16 x16 z17 z18, _, fun_mk (st := s_law) l21 c21 k21, fun s v => .of_eq rfl⟩
end K01

set_option Elab.async false
set_option linter.all false
set_option maxRecDepth 100000
set_option maxHeartbeats 4000000
namespace K01
open PySem L2 PyProof.Rows Q
def spLaw (K : PySem.W.Frag) : Sp := fun vs H Q E => ∀ a_is_name : Addr, spL K 1 (m_law a_is_name) vs H Q E
theorem all_fns {P : Program} {w : World} {K : PySem.W.Frag} {mg : Str → Option Value} {base : Heap} {f : Addr} {fd : FuncData} (T : Tp w K mg) (F : Fun K "law" "law" s_law f fd) : FnOk P w K mg base (L2.CX P w) 16 f fd ["_law_script"] (spLaw K) := by
  obtain ⟨a_is_name, _, _, h_is_name, _⟩ := T.df_is_name.ex
  have G__law_folded := fn__law_folded (P := P) (base := base) T
  have G__law_pot := fn__law_pot (P := P) (base := base) T
  have G__law_take := fn__law_take (P := P) (base := base) T
  have G__law_letters := fn__law_letters (P := P) (base := base) T G__law_take
  have G__law_any_name := fn__law_any_name (P := P) (base := base) T G__law_take G__law_letters
  have G__law_leaf := fn__law_leaf (P := P) (base := base) T G__law_take G__law_letters G__law_any_name
  have G__law_grown := fn__law_grown (P := P) (base := base) T G__law_leaf G__law_take 8
  have G__law_spoilt := fn__law_spoilt (P := P) (base := base) T G__law_take G__law_any_name 12
  have G_is_name := fn_is_name (P := P) (base := base) T
  have G_is_whole := fn_is_whole (P := P) (base := base) T
  have G_is_between := fn_is_between (P := P) (base := base) T G_is_whole
  have G_is_cell := fn_is_cell (P := P) (base := base) T G_is_between
  have G_is_at := fn_is_at (P := P) (base := base) T G_is_cell
  have G_is_worth := fn_is_worth (P := P) (base := base) T G_is_between
  have G_is_op := fn_is_op (P := P) (base := base) T
  have G_is_term_with := fn_is_term_with (P := P) (base := base) a_is_name h_is_name T G_is_at G_is_name G_is_worth G_is_op 7
  have G_is_term := fn_is_term (P := P) (base := base) a_is_name h_is_name T G_is_term_with
  have G__law_within := fn__law_within (P := P) (base := base) T
  have G__law_name_due := fn__law_name_due (P := P) (base := base) T
  have G__law_term_due := fn__law_term_due (P := P) (base := base) T G__law_within G__law_name_due 7
  exact (fn_law (P := P) (base := base) a_is_name h_is_name T G__law_folded G__law_pot G__law_take G__law_grown G__law_spoilt G__law_any_name G_is_name G_is_term G__law_term_due G__law_name_due F).imp fun vs H Q E h => h a_is_name
theorem walk {l : PySem.W.OpenLaw} {q : Program} {loose : List Str} {XP : (Str → Option Value) → Heap → Prop} {YP : World → Heap → Prop} {d : DefRec} {K : Params → PySem.W.Frag} (hn : l.most = some 63) (hdf : d.params.defaults = [])
    (hY : ∀ (w : World) (h : Heap), YP w h → (K w.params).In h)
    (F : ∀ (w : World) (mg : Str → Option Value) (fa : Addr) (h : Heap), (K w.params).In h → h.Ns mainGlobals mg → mg d.name = some (.ref fa) → Tp w (K w.params) mg ∧ ∃ fd : FuncData, Fun (K w.params) "law" "law" s_law fa fd ∧ ∀ (s : Shared) (u : Value), BindsTo s fd ⟨[u], []⟩ [("_law_script", u)]) :
    PySem.W.WalkO q loose XP YP l.row.toRowW d [] (fun f vs => PySem.call f vs) :=
  L2.walk_of (n := 63) (k := 16) (x := "_law_script") (CX := fun w => L2.CX l.prog w) (sp := fun w => spLaw (K w.params)) hn (by decide) hdf ⟨rfl, by decide, by decide⟩ hY
    (fun w mg fa h KX G hmg => by
      obtain ⟨T, fd, F1, b⟩ := F w mg fa h KX G hmg
      exact ⟨fd, b, fun base _ _ => all_fns T F1⟩)
    (fun w H a ns hl _ hS => fun a_is_name => spL_script hS fun ms => law_ok a_is_name ns ms)
    fun w H s e s' z => cx_no z
end K01
open PySem PySem.W PyProof.Rows
set_option maxRecDepth 100000 in
set_option maxHeartbeats 0 in
theorem PySem.Challenge.cw_plainshown_k01_terms_known_holds : PySem.Challenge.rw_plainshown_k01_terms_known.Holds := by
  w_on; o_law; k_head; (case hw => w_witness2)
  k_fill
  refine K01.walk (l := PySem.Challenge.rw_plainshown_k01_terms_known) rfl rfl (fun w h Y => PySem.W.kIn_of Y) ?F
  case F =>
    intro w mg fa h KX G hmg
    refine' K01.fin_mk KX G hmg ?a1 ?l1 ?c1 ?k1 ?a2 ?l2 ?c2 ?k2 ?a3 ?l3 ?c3 ?k3 ?a4 ?l4 ?c4 ?k4 ?a5 ?l5 ?c5 ?k5 ?a6 ?l6 ?c6 ?k6 ?a7 ?l7 ?c7 ?k7 ?a8 ?l8 ?c8 ?k8 ?a9 ?l9 ?c9 ?k9 ?a10 ?l10 ?c10 ?k10 ?a11 ?l11 ?c11 ?k11 ?a12 ?l12 ?c12 ?k12 ?a13 ?l13 ?c13 ?k13 ?a14 ?l14 ?c14 ?k14 ?a15 ?l15 ?c15 ?k15 ?a16 ?l16 ?c16 ?k16 ?a17 ?l17 ?c17 ?k17 ?a18 ?l18 ?c18 ?k18 ?a19 ?l19 ?c19 ?k19 ?a20 ?l20 ?c20 ?k20 ?a21 ?l21 ?c21 ?k21 ?z1 ?z2 ?z3 ?z4 ?z5 ?z6 ?z7 ?z8 ?z9 ?z10 ?z11 ?z12 ?z13 ?z14 ?y14 ?z15 ?z16 ?y16 ?x16 ?z17 ?z18
    (case a1 => k_is)
    (case l1 => k_is)
    (case c1 => k_is)
    (case k1 => k_is)
    (case a2 => k_is)
    (case l2 => k_is)
    (case c2 => k_is)
    (case k2 => k_is)
    (case a3 => k_is)
    (case l3 => k_is)
    (case c3 => k_is)
    (case k3 => k_is)
    (case a4 => k_is)
    (case l4 => k_is)
    (case c4 => k_is)
    (case k4 => k_is)
    (case a5 => k_is)
    (case l5 => k_is)
    (case c5 => k_is)
    (case k5 => k_is)
    (case a6 => k_is)
    (case l6 => k_is)
    (case c6 => k_is)
    (case k6 => k_is)
    (case a7 => k_is)
    (case l7 => k_is)
    (case c7 => k_is)
    (case k7 => k_is)
    (case a8 => k_is)
    (case l8 => k_is)
    (case c8 => k_is)
    (case k8 => k_is)
    (case a9 => k_is)
    (case l9 => k_is)
    (case c9 => k_is)
    (case k9 => k_is)
    (case a10 => k_is)
    (case l10 => k_is)
    (case c10 => k_is)
    (case k10 => k_is)
    (case a11 => k_is)
    (case l11 => k_is)
    (case c11 => k_is)
    (case k11 => k_is)
    (case a12 => k_is)
    (case l12 => k_is)
    (case c12 => k_is)
    (case k12 => k_is)
    (case a13 => k_is)
    (case l13 => k_is)
    (case c13 => k_is)
    (case k13 => k_is)
    (case a14 => k_is)
    (case l14 => k_is)
    (case c14 => k_is)
    (case k14 => k_is)
    (case a15 => k_is)
    (case l15 => k_is)
    (case c15 => k_is)
    (case k15 => k_is)
    (case a16 => k_is)
    (case l16 => k_is)
    (case c16 => k_is)
    (case k16 => k_is)
    (case a17 => k_is)
    (case l17 => k_is)
    (case c17 => k_is)
    (case k17 => k_is)
    (case a18 => k_is)
    (case l18 => k_is)
    (case c18 => k_is)
    (case k18 => k_is)
    (case a19 => k_is)
    (case l19 => k_is)
    (case c19 => k_is)
    (case k19 => k_is)
    (case a20 => k_is)
    (case l20 => k_is)
    (case c20 => k_is)
    (case k20 => k_is)
    (case a21 => k_is)
    (case l21 => k_is)
    (case c21 => k_is)
    (case k21 => k_is)
    (case z1 => k_is)
    (case z2 => k_is)
    (case z3 => k_is)
    (case z4 => k_is)
    (case z5 => k_is)
    (case z6 => k_is)
    (case z7 => k_is)
    (case z8 => k_is)
    (case z9 => k_is)
    (case z10 => k_is)
    (case z11 => k_is)
    (case z12 => k_is)
    (case z13 => k_is)
    (case z14 => k_is)
    (case y14 => k_is)
    (case z15 => k_is)
    (case z16 => k_is)
    (case y16 => k_is)
    (case x16 => first | rfl | decide)
    (case z17 => k_is)
    (case z18 => k_is)

