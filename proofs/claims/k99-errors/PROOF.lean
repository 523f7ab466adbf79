import PyProof.Rows.All
import Wide.All
import OpenK.AllK
import Wide.FinOn
import HandS.ForMost
import HandS.ForExc
import HandS.IsInst
import HandS.TupAny
import HandS.Wide
import HandS.Flow
import HandS.Small
import HandS.CallSlots
import HandS.ExcValue
import HandS.ExcInit
import HandS.ExcIs
import KE.KExcIs
import HandS.WideBits
import HandS.TupMul
import HandS.CallLocal
import HandS.More
import HandS.ExcOwn
import HandS.TryOnly
import HandS.Zip
import HandS.DictComp
import PyProof.ExcBaseAll.ValueError
import HandS.ExcField
import PySem.Challenge.RW_plainshown_k99_errors_by_themselves
set_option Elab.async false
set_option linter.all false
set_option maxRecDepth 100000
set_option maxHeartbeats 4000000
/-! Qa: data as values, a mirror's monad, what a piece of Python text does to them. -/
namespace Q
open PySem L2

/-- built-in types -/
inductive Ty where
  | non | bool | int | str | tuple | list | dict
  deriving DecidableEq
def Ty.name : Ty → String
  | .non => "NoneType" | .bool => "bool" | .int => "int" | .str => "str" | .tuple => "tuple" | .list => "list" | .dict => "dict"
/-- data, as values -/
inductive D where
  | non | bl (b : Bool) | int (i : Int) | str (x : Str)
  | tup (ds : List D) | lst (ds : List D) | dct (ks : List Key) (ds : List D)
  | pot | fn (a : Addr) | ty (t : Ty)
  | xo (c : Str) (n : Option Int)

/-- the pot: a list of three ints that calls may change -/
structure MS where
  a : Int
  b : Int
  c : Int

inductive R (α : Type) where
  | ok (x : α) (ms : MS)
  | ex (c : Str) (ms : MS)
  | bad
abbrev M (α : Type) := MS → R α
def R.bind {α β : Type} (r : R α) (f : α → M β) : R β := match r with
  | .ok x ms => f x ms
  | .ex c ms => .ex c ms
  | .bad => .bad
def R.map {α β : Type} (f : α → β) (r : R α) : R β := match r with
  | .ok x ms => .ok (f x) ms
  | .ex c ms => .ex c ms
  | .bad => .bad
@[simp] theorem R.bind_ok {α β : Type} (x : α) (ms : MS) (f : α → M β) : (R.ok x ms).bind f = f x ms := rfl
@[simp] theorem R.bind_ex {α β : Type} (c : Str) (ms : MS) (f : α → M β) : (R.ex (α := α) c ms).bind f = .ex c ms := rfl
@[simp] theorem R.bind_bad {α β : Type} (f : α → M β) : (R.bad (α := α)).bind f = .bad := rfl
@[simp] theorem R.map_ok {α β : Type} (x : α) (ms : MS) (f : α → β) : (R.ok x ms).map f = .ok (f x) ms := rfl
@[simp] theorem R.map_ex {α β : Type} (c : Str) (ms : MS) (f : α → β) : (R.ex (α := α) c ms).map f = .ex c ms := rfl
@[simp] theorem R.map_bad {α β : Type} (f : α → β) : (R.bad (α := α)).map f = .bad := rfl

inductive SV where
  | dat (d : D)
  | own (ds : List D)
abbrev SS := List (Option SV)

/-! ### values in the heap -/
/-- the class of the name c at C, right under ShownError at S -/
structure XcAt (K : PySem.W.Frag) (c : Str) (C S : Addr) : Prop where
  nm : PySem.W.nsIn K mainGlobals c = some (some (.ref C))
  sh : PySem.W.nsIn K mainGlobals "ShownError" = some (some (.ref S))
  ne : C ≠ S
  cl : ∃ cd, PySem.W.clsIn K C = some cd ∧ cd.name = c ∧ cd.mro = [.ref C, .ref S, .type "ValueError", .type "Exception", .type "BaseException", .type "object"]
  ct : PySem.W.typeIn K (.ref C) = some (.type "type")
  sc : (PySem.W.clsIn K S).isSome = true
  st : PySem.W.typeIn K (.ref S) = some (.type "type")
  ec : ExcC K C
  no : PySem.W.findIn K (.ref C) "number" = some none
mutual
inductive Dt (K : PySem.W.Frag) (p : Option Addr) (F : Hp) : V → D → Prop
  | non : Dt K p F .non .non
  | bl (b : Bool) : Dt K p F (.bl b) (.bl b)
  | int (i : Int) : Dt K p F (.int i) (.int i)
  | str (x : Str) : Dt K p F (.str x) (.str x)
  | tup {a : Addr} {xs : List V} {ds : List D} : SqT K F a xs → Dts K p F xs ds → Dt K p F (.ref a) (.tup ds)
  | lst {a : Addr} {xs : List V} {ds : List D} : SqL K F a xs → Dts K p F xs ds → Dt K p F (.ref a) (.lst ds)
  | dct {a : Addr} {ks : List Key} {xs : List V} {ds : List D} : Rd F a (.dK (ks.zip xs)) → ks.length = xs.length → Dts K p F xs ds → Dt K p F (.ref a) (.dct ks ds)
  | pot {a : Addr} : p = some a → Dt K p F (.ref a) .pot
  | fn {a : Addr} : Dt K p F (.ref a) (.fn a)
  | ty {t : Ty} : Dt K p F (.ty t.name) (.ty t)
  | xo {a : Addr} {c : Str} {C S : Addr} : XcAt K c C S → F a = some (ExO (.ref C) a) → Dt K p F (.ref a) (.xo c none)
  | xn {a d : Addr} {c : Str} {C S : Addr} {n : Int} : XcAt K c C S → F a = some (exo a C (some d)) → F d = some (exd d [("number", .int n)]) → Dt K p F (.ref a) (.xo c (some n))
inductive Dts (K : PySem.W.Frag) (p : Option Addr) (F : Hp) : List V → List D → Prop
  | nil : Dts K p F [] []
  | cons {v : V} {vs : List V} {d : D} {ds : List D} : Dt K p F v d → Dts K p F vs ds → Dts K p F (v :: vs) (d :: ds)
end

theorem same_rd {H H' : Hp} {a : Addr} {u : HO} (e : Same H H') (h : Rd H a u) : Rd H' a u := by
  rcases h with h | ⟨o, h⟩
  · exact Or.inl (e a _ h)
  · exact Or.inr ⟨o, e a _ h⟩
theorem same_t {K : PySem.W.Frag} {H H' : Hp} {a : Addr} {xs : List V} (e : Same H H') (h : SqT K H a xs) : SqT K H' a xs := by
  rcases h with h | h
  · exact Or.inl (same_rd e h)
  · exact Or.inr h
theorem same_l {K : PySem.W.Frag} {H H' : Hp} {a : Addr} {xs : List V} (e : Same H H') (h : SqL K H a xs) : SqL K H' a xs := by
  rcases h with h | h
  · exact Or.inl (same_rd e h)
  · exact Or.inr h

section
variable {K : PySem.W.Frag} {p : Option Addr} {F F' : Hp}
mutual
theorem Dt.mono (e : Same F F') : ∀ {v : V} {d : D}, Dt K p F v d → Dt K p F' v d
  | _, _, .non => .non
  | _, _, .bl b => .bl b
  | _, _, .int i => .int i
  | _, _, .str x => .str x
  | _, _, .tup h r => .tup (same_t e h) (Dts.mono e r)
  | _, _, .lst h r => .lst (same_l e h) (Dts.mono e r)
  | _, _, .dct h l r => .dct (same_rd e h) l (Dts.mono e r)
  | _, _, .pot h => .pot h
  | _, _, .fn => .fn
  | _, _, .ty => .ty
  | _, _, .xo h r => .xo h (e _ _ r)
  | _, _, .xn h r q => .xn h (e _ _ r) (e _ _ q)
theorem Dts.mono (e : Same F F') : ∀ {vs : List V} {ds : List D}, Dts K p F vs ds → Dts K p F' vs ds
  | _, _, .nil => .nil
  | _, _, .cons h r => .cons (Dt.mono e h) (Dts.mono e r)
end
theorem Dts.length : ∀ {vs : List V} {ds : List D}, Dts K p F vs ds → vs.length = ds.length
  | _, _, .nil => rfl
  | _, _, .cons _ r => congrArg (· + 1) (Dts.length r)
theorem Dts.get : ∀ {vs : List V} {ds : List D} {i : Nat} {d : D}, Dts K p F vs ds → ds[i]? = some d → ∃ v, vs[i]? = some v ∧ Dt K p F v d
  | _, _, _, _, .nil, e => by simp at e
  | _, _, 0, _, .cons h _, e => by
    simp at e
    subst e
    exact ⟨_, rfl, h⟩
  | _, _, i + 1, d, .cons _ r, e => by
    obtain ⟨u, h1, h2⟩ := Dts.get (i := i) (d := d) r (by simpa using e)
    exact ⟨u, by simpa using h1, h2⟩
theorem Dts.append : ∀ {vs us : List V} {ds es : List D}, Dts K p F vs ds → Dts K p F us es → Dts K p F (vs ++ us) (ds ++ es)
  | _, _, _, _, .nil, s => s
  | _, _, _, _, .cons h r, s => .cons h (Dts.append r s)
theorem Dts.take : ∀ {vs : List V} {ds : List D} (n : Nat), Dts K p F vs ds → Dts K p F (vs.take n) (ds.take n)
  | _, _, 0, _ => .nil
  | _, _, _ + 1, .nil => .nil
  | _, _, n + 1, .cons h r => .cons h (Dts.take n r)
theorem Dts.drop : ∀ {vs : List V} {ds : List D} (n : Nat), Dts K p F vs ds → Dts K p F (vs.drop n) (ds.drop n)
  | _, _, 0, r => r
  | _, _, _ + 1, .nil => .nil
  | _, _, n + 1, .cons _ r => Dts.drop n r
theorem Dts.set {v : V} {d : D} (q : Dt K p F v d) : ∀ {vs : List V} {ds : List D} (n : Nat), Dts K p F vs ds → Dts K p F (vs.set n v) (ds.set n d)
  | _, _, _, .nil => .nil
  | _, _, 0, .cons _ r => .cons q r
  | _, _, n + 1, .cons h r => .cons h (Dts.set q n r)
theorem Dts.snoc {v : V} {d : D} {vs : List V} {ds : List D} (r : Dts K p F vs ds) (q : Dt K p F v d) : Dts K p F (vs ++ [v]) (ds ++ [d]) := r.append (.cons q .nil)
end

def PotAt (H : Hp) (p : Option Addr) (ms : MS) : Prop := ∀ a, p = some a → H a = some (.lst [.int ms.a, .int ms.b, .int ms.c])

/-- how the heap H over the frozen part F stands -/
structure Hs (p : Option Addr) (F H : Hp) (ms : MS) : Prop where
  fh : Same F H
  pot : PotAt H p ms
  pf : ∀ a, p = some a → F a = none

/-- a step from (H, F) to (H', F') : the frozen part grows by new things alone, all but the pot stays -/
structure Ext (p : Option Addr) (H F H' F' : Hp) (ms' : MS) : Prop where
  ff : Same F F'
  nf : ∀ b o, H b = some o → F b = none → F' b = none
  kp : ∀ b o, H b = some o → p ≠ some b → H' b = some o
  hs : Hs p F' H' ms'

theorem Ext.refl {p : Option Addr} {F H : Hp} {ms : MS} (h : Hs p F H ms) : Ext p H F H F ms := ⟨Same.refl F, fun _ _ _ q => q, fun _ _ q _ => q, h⟩
theorem Ext.trans {p : Option Addr} {H F H1 F1 H2 F2 : Hp} {ms1 ms2 : MS} (a : Ext p H F H1 F1 ms1) (b : Ext p H1 F1 H2 F2 ms2) : Ext p H F H2 F2 ms2 :=
  ⟨a.ff.trans b.ff, fun c o h q => by
    have q1 := a.nf c o h q
    by_cases e : p = some c
    · exact b.nf c _ (a.hs.pot c e) q1
    · exact b.nf c o (a.kp c o h e) q1, fun c o h e => b.kp c o (a.kp c o h e) e, b.hs⟩
/-- a new object, frozen -/
theorem Ext.new {p : Option Addr} {F H : Hp} {ms : MS} {q : Addr} {o : HO} (h : Hs p F H ms) (hq : H q = none) : Ext p H F (upd H q o) (upd F q o) ms := by
  have fq : F q = none := by
    cases e : F q with
    | none => rfl
    | some u => rw [h.fh q u e] at hq; cases hq
  have np : ∀ a, p = some a → a ≠ q := fun a e z => by
    have := h.pot a e
    rw [z, hq] at this
    cases this
  refine ⟨fun b u e => by rw [upd_ne (ne_of_none e fq)]; exact e, fun b u hb hf => by rw [upd_ne (ne_of_none hb hq)]; exact hf, fun b u hb _ => by rw [upd_ne (ne_of_none hb hq)]; exact hb, ?_, ?_, ?_⟩
  · intro b u e
    by_cases z : b = q
    · subst z
      rw [upd_same] at e ⊢
      exact e
    · rw [upd_ne z] at e ⊢
      exact h.fh b u e
  · intro a e
    rw [upd_ne (np a e)]
    exact h.pot a e
  · intro a e
    rw [upd_ne (np a e)]
    exact h.pf a e

/-- a value read for the moment: frozen, or a list of frozen things that stands in H -/
inductive Bw (K : PySem.W.Frag) (p : Option Addr) (F H : Hp) : V → D → Prop
  | fz {v : V} {d : D} : Dt K p F v d → Bw K p F H v d
  | own {a : Addr} {xs : List V} {ds : List D} : H a = some (.lst xs) → p ≠ some a → Dts K p F xs ds → Bw K p F H (.ref a) (.lst ds)
theorem Bw.ext {K : PySem.W.Frag} {p : Option Addr} {H F H' F' : Hp} {ms' : MS} {v : V} {d : D} (e : Ext p H F H' F' ms') (b : Bw K p F H v d) : Bw K p F' H' v d := by
  cases b with
  | fz h => exact .fz (h.mono e.ff)
  | own h n r => exact .own (e.kp _ _ h n) n (r.mono e.ff)

/-! ### slots -/
def SlOk (K : PySem.W.Frag) (p : Option Addr) (B F H : Hp) (v : Option V) : Option SV → Prop
  | none => True
  | some (.dat d) => ∃ u, v = some u ∧ Dt K p F u d
  | some (.own ds) => ∃ a xs, v = some (.ref a) ∧ H a = some (.lst xs) ∧ F a = none ∧ B a = none ∧ p ≠ some a ∧ Dts K p F xs ds
structure Sl (K : PySem.W.Frag) (p : Option Addr) (B F H : Hp) (σ : L2.St) (ss : SS) : Prop where
  len : σ.length = ss.length
  ok : ∀ (i : Nat) (s : Option SV) (v : Option V), ss[i]? = some s → σ[i]? = some v → SlOk K p B F H v s
  ap : ∀ (i j : Nat) (a : Addr) (ds es : List D), ss[i]? = some (some (.own ds)) → ss[j]? = some (some (.own es)) → σ[i]? = some (some (.ref a)) → σ[j]? = some (some (.ref a)) → i = j
theorem Sl.ext {K : PySem.W.Frag} {p : Option Addr} {B H F H' F' : Hp} {ms' : MS} {σ : L2.St} {ss : SS} (e : Ext p H F H' F' ms') (s : Sl K p B F H σ ss) : Sl K p B F' H' σ ss := by
  refine ⟨s.len, fun i sv v h1 h2 => ?_, s.ap⟩
  have q := s.ok i sv v h1 h2
  match sv, q with
  | none, _ => trivial
  | some (.dat d), ⟨u, e1, q⟩ => exact ⟨u, e1, q.mono e.ff⟩
  | some (.own ds), ⟨a, xs, e1, h, hf, hb, n, r⟩ => exact ⟨a, xs, e1, e.kp _ _ h n, e.nf _ _ h hf, hb, n, r.mono e.ff⟩
end Q

set_option Elab.async false
set_option linter.all false
set_option maxRecDepth 100000
set_option maxHeartbeats 4000000
/-! Qb: judgements of expressions over data. -/
namespace Q
open PySem L2

section
variable {α β γ δ : Type}
/-- what is wanted behind a mirror's answer -/
def Po (mg : Str → Option Value) (W : WX) (p : Option Addr) (σ : L2.St) (H F : Hp) (rel : Hp → Hp → β → α → Prop) (r : R α) (Q : β → Hp → Prop) : Prop := match r with
  | .ok x ms' => ∀ v H' F', Ext p H F H' F' ms' → rel F' H' v x → Q v H'
  | .ex c ms' => ∀ u, mg c = some u → ∀ H' F', Ext p H F H' F' ms' → W u none σ H'
  | .bad => False
variable {mg : Str → Option Value} {W : WX} {p : Option Addr} {σ : L2.St} {H F H1 F1 : Hp} {ms1 : MS}
theorem Po.ext {rel : Hp → Hp → β → α → Prop} {r : R α} {Q : β → Hp → Prop} (e : Ext p H F H1 F1 ms1) (h : Po mg W p σ H F rel r Q) : Po mg W p σ H1 F1 rel r Q := by
  cases r with
  | ok x ms' => exact fun v H' F' e' q => h v H' F' (e.trans e') q
  | ex c ms' => exact fun u hu H' F' e' => h u hu H' F' (e.trans e')
  | bad => exact h
theorem Po.bind {rel1 : Hp → Hp → γ → δ → Prop} {rel2 : Hp → Hp → β → α → Prop} {r : R δ} {f : δ → M α} {Q : β → Hp → Prop} {C : γ → Hp → Prop} (h : Po mg W p σ H F rel2 (r.bind f) Q)
    (k : ∀ x ms1 v H1 F1, Ext p H F H1 F1 ms1 → rel1 F1 H1 v x → Po mg W p σ H1 F1 rel2 (f x ms1) Q → C v H1) : Po mg W p σ H F rel1 r C := by
  cases r with
  | ok x ms' => exact fun v H' F' e q => k x ms' v H' F' e q (Po.ext e h)
  | ex c ms' => exact h
  | bad => exact h
theorem Po.mono {rel : Hp → Hp → β → α → Prop} {r : R α} {Q Q' : β → Hp → Prop} (h : Po mg W p σ H F rel r Q) (k : ∀ v H', Q v H' → Q' v H') : Po mg W p σ H F rel r Q' := by
  cases r with
  | ok x ms' => exact fun v H' F' e q => k _ _ (h v H' F' e q)
  | ex c ms' => exact h
  | bad => exact h
theorem Po.ok {rel : Hp → Hp → β → α → Prop} {x : α} {ms : MS} {Q : β → Hp → Prop} {v : β} (h : Po mg W p σ H F rel (.ok x ms) Q) (hs : Hs p F H ms) (q : rel F H v x) : Q v H := h v H F (Ext.refl hs) q
theorem Po.new {rel : Hp → Hp → β → α → Prop} {x : α} {ms : MS} {Q : β → Hp → Prop} {v : β} {a : Addr} {o : HO} (h : Po mg W p σ H F rel (.ok x ms) Q) (hs : Hs p F H ms) (ha : H a = none) (q : rel (upd F a o) (upd H a o) v x) : Q v (upd H a o) :=
  h v _ _ (Ext.new hs ha) q
end

abbrev relD (K : PySem.W.Frag) (p : Option Addr) : Hp → Hp → V → D → Prop := fun F _ v d => Dt K p F v d
abbrev relB (K : PySem.W.Frag) (p : Option Addr) : Hp → Hp → V → D → Prop := fun F H v d => Bw K p F H v d
abbrev relA (K : PySem.W.Frag) (p : Option Addr) : Hp → Hp → List V → List D → Prop := fun F _ vs ds => Dts K p F vs ds
abbrev relT : Hp → Hp → Bool → Bool → Prop := fun _ _ a b => a = b

/-- an expression gives what the mirror gives -/
def JE (X : Cx) (W : WX) (e : Expr) (m : SS → M D) : Prop := ∃ t, PE X e t ∧ ∀ (p : Option Addr) (B : Hp) (σ : L2.St) (ss : SS) (H F : Hp) (ms : MS) (Q : VK),
  Sl X.K p B F H σ ss → Hs p F H ms → Po X.mg W p σ H F (relD X.K p) (m ss ms) Q → t σ H Q
/-- .. for the moment -/
def JB (X : Cx) (W : WX) (e : Expr) (m : SS → M D) : Prop := ∃ t, PE X e t ∧ ∀ (p : Option Addr) (B : Hp) (σ : L2.St) (ss : SS) (H F : Hp) (ms : MS) (Q : VK),
  Sl X.K p B F H σ ss → Hs p F H ms → Po X.mg W p σ H F (relB X.K p) (m ss ms) Q → t σ H Q
/-- a test -/
def JT (X : Cx) (W : WX) (e : Expr) (m : SS → M Bool) : Prop := ∃ t, PT X e t ∧ ∀ (p : Option Addr) (B : Hp) (σ : L2.St) (ss : SS) (H F : Hp) (ms : MS) (Q : Bool → Hp → Prop),
  Sl X.K p B F H σ ss → Hs p F H ms → Po X.mg W p σ H F relT (m ss ms) Q → t σ H Q
def JW (X : Cx) (W : WX) (e : Expr) (m : SS → M Bool) : Prop := ∃ t, PW X e t ∧ ∀ (p : Option Addr) (B : Hp) (σ : L2.St) (ss : SS) (H F : Hp) (ms : MS) (Q : Bool → Hp → Prop),
  Sl X.K p B F H σ ss → Hs p F H ms → Po X.mg W p σ H F relT (m ss ms) Q → t σ H Q
/-- arguments -/
def JA (X : Cx) (W : WX) (es : List Expr) (m : SS → M (List D)) : Prop := ∃ t, PA X es t ∧ ∀ (p : Option Addr) (B : Hp) (σ : L2.St) (ss : SS) (H F : Hp) (ms : MS) (Q : List V → Hp → Prop),
  Sl X.K p B F H σ ss → Hs p F H ms → Po X.mg W p σ H F (relA X.K p) (m ss ms) Q → t σ H Q

/-! ### the mirror's words -/
namespace E
def var (i : Nat) : SS → M D := fun ss ms => match ss[i]? with
  | some (some (.dat d)) => .ok d ms
  | _ => .bad
def bor (i : Nat) : SS → M D := fun ss ms => match ss[i]? with
  | some (some (.dat d)) => .ok d ms
  | some (some (.own ds)) => .ok (.lst ds) ms
  | _ => .bad
def c (d : D) : SS → M D := fun _ ms => .ok d ms
def op2 (g : D → D → M D) (a b : SS → M D) : SS → M D := fun ss ms => (a ss ms).bind fun x ms1 => (b ss ms1).bind fun y ms2 => g x y ms2
def op1 (g : D → M D) (a : SS → M D) : SS → M D := fun ss ms => (a ss ms).bind fun x ms1 => g x ms1
def nil : SS → M (List D) := fun _ ms => .ok [] ms
def cons (a : SS → M D) (r : SS → M (List D)) : SS → M (List D) := fun ss ms => (a ss ms).bind fun x ms1 => (r ss ms1).bind fun xs ms2 => .ok (x :: xs) ms2
def fnA (f : List D → M D) (a : SS → M (List D)) : SS → M D := fun ss ms => (a ss ms).bind fun xs ms1 => f xs ms1
def toB : D → M Bool
  | .bl b => fun ms => .ok b ms
  | _ => fun _ => .bad
def test (a : SS → M D) : SS → M Bool := fun ss ms => (a ss ms).bind toB
def truD : D → M Bool
  | .bl b => fun ms => .ok b ms
  | .non => fun ms => .ok false ms
  | .int i => fun ms => .ok (i != 0) ms
  | .tup ds => fun ms => .ok (!ds.isEmpty) ms
  | .lst ds => fun ms => .ok (!ds.isEmpty) ms
  | .str x => fun ms => if x.length ≤ 100000 then .ok ((x.length : Int) != 0) ms else .bad
  | _ => fun _ => .bad
def tru (a : SS → M D) : SS → M Bool := fun ss ms => (a ss ms).bind truD
def tand (a b : SS → M Bool) : SS → M Bool := fun ss ms => (a ss ms).bind fun c ms1 => if c = true then b ss ms1 else .ok false ms1
def tor (a b : SS → M Bool) : SS → M Bool := fun ss ms => (a ss ms).bind fun c ms1 => if c = true then .ok true ms1 else b ss ms1
def tnot (a : SS → M Bool) : SS → M Bool := fun ss ms => (a ss ms).bind fun c ms1 => .ok (!c) ms1
def vand (a b : SS → M D) : SS → M D := fun ss ms => (a ss ms).bind fun x ms1 => (toB x ms1).bind fun c ms2 => if c = true then b ss ms2 else .ok (.bl false) ms2
def vor (a b : SS → M D) : SS → M D := fun ss ms => (a ss ms).bind fun x ms1 => (toB x ms1).bind fun c ms2 => if c = true then .ok (.bl true) ms2 else b ss ms2
def vnot (a : SS → M D) : SS → M D := fun ss ms => (a ss ms).bind fun x ms1 => (toB x ms1).bind fun c ms2 => .ok (.bl (!c)) ms2
def ife (t : SS → M Bool) (a b : SS → M D) : SS → M D := fun ss ms => (t ss ms).bind fun c ms1 => if c = true then a ss ms1 else b ss ms1
def chain (g g' : D → D → M D) (a b c : SS → M D) : SS → M D := fun ss ms => (a ss ms).bind fun x ms1 => (b ss ms1).bind fun y ms2 => (g x y ms2).bind fun z ms3 => (toB z ms3).bind fun k ms4 =>
  if k = true then (c ss ms4).bind fun w ms5 => g' y w ms5 else .ok (.bl false) ms4
def tup (a : SS → M (List D)) : SS → M D := fun ss ms => (a ss ms).bind fun xs ms1 => if xs.length ≤ 100000 then .ok (.tup xs) ms1 else .bad
def lst (a : SS → M (List D)) : SS → M D := fun ss ms => (a ss ms).bind fun xs ms1 => if xs.length ≤ 100000 then .ok (.lst xs) ms1 else .bad
end E

theorem sz5 {n : Nat} (h : n ≤ 100000) : n ≤ sizeLine := Nat.le_trans h (by decide)
theorem sz5lt {n : Nat} (h : n < 100000) : n < sizeLine := Nat.lt_of_lt_of_le h (by decide)

section
variable {X : Cx} {W : WX} {a b c e : Expr} {es rest : List Expr} {ma mb mc : SS → M D} {pos : Pos} {ta tb : SS → M Bool}

theorem JE.jb (h : JE X W e ma) : JB X W e ma := by
  obtain ⟨t, h1, h2⟩ := h
  refine ⟨t, h1, fun p B σ ss H F ms Q s hs po => h2 p B σ ss H F ms Q s hs ?_⟩
  cases r : ma ss ms with
  | ok x ms' => rw [r] at po; exact fun v H' F' e q => po v H' F' e (.fz q)
  | ex c ms' => rw [r] at po; exact po
  | bad => rw [r] at po; exact po

theorem je_var {i : Nat} (h : PE X e (tVar i)) : JE X W e (E.var i) := by
  refine ⟨_, h, fun p B σ ss H F ms Q s hs po => ?_⟩
  unfold E.var at po
  split at po
  next d hd =>
    have hi : i < σ.length := by
      rw [s.len]
      exact (List.getElem?_eq_some_iff.mp hd).1
    have q := s.ok i _ _ hd (List.getElem?_eq_getElem hi)
    obtain ⟨u, e1, q⟩ := q
    exact ⟨u, by rw [List.getElem?_eq_getElem hi, e1], po.ok hs q⟩
  next => exact po.elim
theorem jb_var {i : Nat} (h : PE X e (tVar i)) : JB X W e (E.bor i) := by
  refine ⟨_, h, fun p B σ ss H F ms Q s hs po => ?_⟩
  unfold E.bor at po
  split at po
  next d hd =>
    have hi : i < σ.length := by
      rw [s.len]
      exact (List.getElem?_eq_some_iff.mp hd).1
    have q := s.ok i _ _ hd (List.getElem?_eq_getElem hi)
    obtain ⟨u, e1, q⟩ := q
    exact ⟨u, by rw [List.getElem?_eq_getElem hi, e1], po.ok hs (.fz q)⟩
  next ds hd =>
    have hi : i < σ.length := by
      rw [s.len]
      exact (List.getElem?_eq_some_iff.mp hd).1
    have q := s.ok i _ _ hd (List.getElem?_eq_getElem hi)
    obtain ⟨a, xs, e1, h1, h2, h3, h4, h5⟩ := q
    exact ⟨.ref a, by rw [List.getElem?_eq_getElem hi, e1], po.ok hs (.own h1 h4 h5)⟩
  next => exact po.elim
theorem je_c {v : V} {d : D} (h : PE X e (tC v)) (hd : ∀ p F, Dt X.K p F v d) : JE X W e (E.c d) := ⟨_, h, fun p B σ ss H F ms Q s hs po => po.ok hs (hd p F)⟩
theorem je_int {i j pos} : JE X W (.Constant (.int i) j pos) (E.c (.int i)) := je_c pe_int fun _ _ => .int i
theorem je_str {x j pos} : JE X W (.Constant (.str x) j pos) (E.c (.str x)) := je_c pe_str fun _ _ => .str x
theorem je_bl {x j pos} : JE X W (.Constant (.bool x) j pos) (E.c (.bl x)) := je_c pe_bl fun _ _ => .bl x
theorem je_non {j pos} : JE X W (.Constant .none j pos) (E.c .non) := je_c pe_non fun _ _ => .non

theorem ja_nil : JA X W [] E.nil := ⟨_, pa_nil, fun p B σ ss H F ms Q s hs po => po.ok hs .nil⟩
theorem ja_cons {mr : SS → M (List D)} (ha : JE X W e ma) (hr : JA X W es mr) (hs : starEach (e :: es) X.env = (false, eval e X.env) :: starEach es X.env := by rfl) : JA X W (e :: es) (E.cons ma mr) := by
  obtain ⟨t, h1, h2⟩ := ha
  obtain ⟨u, h3, h4⟩ := hr
  refine ⟨_, pa_cons h1 h3 hs, fun p B σ ss H F ms Q s hs po => ?_⟩
  refine h2 p B σ ss H F ms _ s hs (po.bind fun x ms1 v H1 F1 e1 q1 po1 => ?_)
  refine h4 p B σ ss H1 F1 ms1 _ (s.ext e1) e1.hs (po1.bind fun xs ms2 vs H2 F2 e2 q2 po2 => ?_)
  exact po2.ok e2.hs (.cons (q1.mono e2.ff) q2)

theorem je_tup {mr : SS → M (List D)} {x1} (h : JA X W es mr) : JE X W (.Tuple es x1 pos) (E.tup mr) := by
  obtain ⟨t, h1, h2⟩ := h
  refine ⟨_, pe_tup h1, fun p B σ ss H F ms Q s hs po => ?_⟩
  refine h2 p B σ ss H F ms _ s hs (po.bind fun xs ms1 vs H1 F1 e1 q1 po1 => ?_)
  by_cases hz : xs.length ≤ 100000
  · rw [if_pos hz] at po1
    exact ⟨by rw [q1.length]; exact sz5 hz, fun a ha => po1.new e1.hs ha (.tup (SqT.of upd_same) (q1.mono (Ext.new (p := p) (ms := ms1) e1.hs ha).ff))⟩
  · rw [if_neg hz] at po1
    exact po1.elim
/-- a new list, not frozen yet -/
def relN (K : PySem.W.Frag) (p : Option Addr) (H : Hp) : Hp → Hp → V → D → Prop := fun F' H' v d => ∃ a xs ds, v = .ref a ∧ d = .lst ds ∧ H a = none ∧ p ≠ some a ∧ H' a = some (.lst xs) ∧ F' a = none ∧ Dts K p F' xs ds
def JN (X : Cx) (W : WX) (e : Expr) (m : SS → M D) : Prop := ∃ t, PE X e t ∧ ∀ (p : Option Addr) (B : Hp) (σ : L2.St) (ss : SS) (H F : Hp) (ms : MS) (Q : VK),
  Sl X.K p B F H σ ss → Hs p F H ms → Po X.mg W p σ H F (relN X.K p H) (m ss ms) Q → t σ H Q
/-- a thing that stands in H' and was not in H is frozen -/
theorem Ext.frz {p : Option Addr} {H F H' F' : Hp} {ms' : MS} {a : Addr} {o : HO} (e : Ext p H F H' F' ms') (ha : H a = none) (h' : H' a = some o) (f' : F' a = none) (n : p ≠ some a) : Ext p H F H' (upd F' a o) ms' := by
  refine ⟨fun b u q => by rw [upd_ne (ne_of_none (e.ff b u q) f')]; exact e.ff b u q, fun b u hb hf => by rw [upd_ne (ne_of_none hb ha)]; exact e.nf b u hb hf, e.kp, ?_, e.hs.pot, ?_⟩
  · intro b u q
    by_cases z : b = a
    · subst z
      rw [upd_same] at q
      rw [h']
      exact q
    · rw [upd_ne z] at q
      exact e.hs.fh b u q
  · intro b q
    have z : b ≠ a := fun z => n (z ▸ q)
    rw [upd_ne z]
    exact e.hs.pf b q
theorem same_upd {F : Hp} {a : Addr} {o : HO} (f : F a = none) : Same F (upd F a o) := fun b u q => by rw [upd_ne (ne_of_none q f)]; exact q
theorem JN.je (h : JN X W e ma) : JE X W e ma := by
  obtain ⟨t, h1, h2⟩ := h
  refine ⟨t, h1, fun p B σ ss H F ms Q s hs po => h2 p B σ ss H F ms Q s hs ?_⟩
  cases r : ma ss ms with
  | ok x ms' =>
    rw [r] at po
    intro v H' F' e q
    obtain ⟨a, xs, ds, rfl, rfl, ha, n, h', f', q⟩ := q
    exact po _ H' _ (e.frz ha h' f' n) (.lst (SqL.of upd_same) (q.mono (same_upd f')))
  | ex c ms' => rw [r] at po; exact po
  | bad => rw [r] at po; exact po
/-- laying a new list -/
theorem Ext.lay {p : Option Addr} {F H : Hp} {ms : MS} {q : Addr} {o : HO} (h : Hs p F H ms) (hq : H q = none) : Ext p H F (upd H q o) F ms ∧ F q = none ∧ p ≠ some q := by
  have fq : F q = none := by
    cases e : F q with
    | none => rfl
    | some u => rw [h.fh q u e] at hq; cases hq
  have np : ∀ a, p = some a → a ≠ q := fun a e z => by
    have := h.pot a e
    rw [z, hq] at this
    cases this
  refine ⟨⟨Same.refl F, fun b u hb hf => hf, fun b u hb _ => by rw [upd_ne (ne_of_none hb hq)]; exact hb, ?_, ?_, h.pf⟩, fq, fun e => np q e rfl⟩
  · intro b u e
    rw [upd_ne (ne_of_none e fq)]
    exact h.fh b u e
  · intro a e
    rw [upd_ne (np a e)]
    exact h.pot a e
/-- a new list at the end of a reading that began at H0 -/
theorem Po.layL {mg : Str → Option Value} {p : Option Addr} {σ : L2.St} {H0 H F : Hp} {K : PySem.W.Frag} {ds : List D} {ms : MS} {Q : VK} {a : Addr} {xs : List V} (h : Po mg W p σ H F (relN K p H0) (.ok (.lst ds) ms) Q) (hs : Hs p F H ms) (h0 : ∀ b, H b = none → H0 b = none) (ha : H a = none)
    (q : Dts K p F xs ds) : Q (.ref a) (upd H a (.lst xs)) := by
  obtain ⟨e, fq, np⟩ := Ext.lay (o := .lst xs) hs ha
  exact h _ _ _ e ⟨a, xs, ds, rfl, rfl, h0 a ha, np, upd_same, fq, q⟩
/-- new behind a step is new ahead of it -/
theorem Ext.back {p : Option Addr} {H F H1 F1 : Hp} {ms1 : MS} (e : Ext p H F H1 F1 ms1) {b : Addr} (h : H1 b = none) : H b = none := by
  cases q : H b with
  | none => rfl
  | some o =>
    by_cases z : p = some b
    · rw [e.hs.pot b z] at h; cases h
    · rw [e.kp b o q z] at h; cases h
theorem jn_lst {mr : SS → M (List D)} (h : JA X W es mr) : JN X W (.List es pos) (E.lst mr) := by
  obtain ⟨t, h1, h2⟩ := h
  refine ⟨_, pe_lst h1, fun p B σ ss H F ms Q s hs po => ?_⟩
  refine h2 p B σ ss H F ms _ s hs (po.bind fun xs ms1 vs H1 F1 e1 q1 po1 => ?_)
  by_cases hz : xs.length ≤ 100000
  · rw [if_pos hz] at po1
    exact ⟨by rw [q1.length]; exact sz5 hz, fun a ha => po1.layL e1.hs (fun _ => e1.back) ha q1⟩
  · rw [if_neg hz] at po1
    exact po1.elim
theorem je_lst {mr : SS → M (List D)} (h : JA X W es mr) : JE X W (.List es pos) (E.lst mr) := (jn_lst h).je

/-! ### operators -/
/-- a two-place operation on values keeps to g on data -/
def OpOk (X : Cx) (f : Value → Value → Sem Value) (g : D → D → M D) : Prop := ∃ r, OpR X f r ∧ ∀ (W : WX) (p : Option Addr) (σ : L2.St) (H F : Hp) (ms : MS) (x y : V) (dx dy : D) (Q : VK), Hs p F H ms →
  Bw X.K p F H x dx → Bw X.K p F H y dy → Po X.mg W p σ H F (relD X.K p) (g dx dy ms) Q → r x y H Q
/-- either of two -/
def orG (g g' : D → D → M D) : D → D → M D := fun x y ms => match g x y ms with
  | .bad => g' x y ms
  | r => r
theorem OpOk.or {f : Value → Value → Sem Value} {g g' : D → D → M D} (h : OpOk X f g) (h' : OpOk X f g') : OpOk X f (orG g g') := by
  obtain ⟨r, h1, h2⟩ := h
  obtain ⟨r', h3, h4⟩ := h'
  refine ⟨_, OpR.or h1 h3, fun W p σ H F ms x y dx dy Q hs bx bY po => ?_⟩
  unfold orG at po
  cases q : g dx dy ms with
  | ok x ms' => rw [q] at po; exact .inl (h2 W p σ H F ms _ _ dx dy Q hs bx bY (by rw [q]; exact po))
  | ex c ms' => rw [q] at po; exact .inl (h2 W p σ H F ms _ _ dx dy Q hs bx bY (by rw [q]; exact po))
  | bad => rw [q] at po; exact .inr (h4 W p σ H F ms _ _ dx dy Q hs bx bY po)
theorem op2_ok {r : R2} {g : D → D → M D} {ta tb : TE} (h2 : ∀ (p : Option Addr) (B : Hp) (σ : L2.St) (ss : SS) (H F : Hp) (ms : MS) (Q : VK), Sl X.K p B F H σ ss → Hs p F H ms → Po X.mg W p σ H F (relB X.K p) (ma ss ms) Q → ta σ H Q)
    (h4 : ∀ (p : Option Addr) (B : Hp) (σ : L2.St) (ss : SS) (H F : Hp) (ms : MS) (Q : VK), Sl X.K p B F H σ ss → Hs p F H ms → Po X.mg W p σ H F (relB X.K p) (mb ss ms) Q → tb σ H Q)
    (h6 : ∀ (W : WX) (p : Option Addr) (σ : L2.St) (H F : Hp) (ms : MS) (x y : V) (dx dy : D) (Q : VK), Hs p F H ms → Bw X.K p F H x dx → Bw X.K p F H y dy → Po X.mg W p σ H F (relD X.K p) (g dx dy ms) Q → r x y H Q) :
    ∀ (p : Option Addr) (B : Hp) (σ : L2.St) (ss : SS) (H F : Hp) (ms : MS) (Q : VK), Sl X.K p B F H σ ss → Hs p F H ms → Po X.mg W p σ H F (relD X.K p) (E.op2 g ma mb ss ms) Q → tOp r ta tb σ H Q := by
  intro p B σ ss H F ms Q s hs po
  refine h2 p B σ ss H F ms _ s hs (po.bind fun x ms1 v H1 F1 e1 q1 po1 => ?_)
  refine h4 p B σ ss H1 F1 ms1 _ (s.ext e1) e1.hs (po1.bind fun y ms2 u H2 F2 e2 q2 po2 => ?_)
  exact h6 W p σ H2 F2 ms2 v u x y Q e2.hs (q1.ext e2) q2 po2
theorem je_bin {op : Operator} {g : D → D → M D} (ho : OpOk X (binaryOp op) g) (ha : JB X W a ma) (hb : JB X W b mb) : JE X W (.BinOp a op b pos) (E.op2 g ma mb) := by
  obtain ⟨t, h1, h2⟩ := ha
  obtain ⟨u, h3, h4⟩ := hb
  obtain ⟨r, h5, h6⟩ := ho
  exact ⟨_, pe_op h5 h1 h3, op2_ok h2 h4 h6⟩
theorem je_cmp {op : CmpOp} {g : D → D → M D} (ho : OpOk X (compareOp op) g) (ha : JB X W a ma) (hb : JB X W b mb) (hm : behindInMarks op b = false := by first | exact nomark _ | rfl) : JE X W (.Compare a [op] [b] pos) (E.op2 g ma mb) := by
  obtain ⟨t, h1, h2⟩ := ha
  obtain ⟨u, h3, h4⟩ := hb
  obtain ⟨r, h5, h6⟩ := ho
  exact ⟨_, pe_cmpR h5 h1 h3 hm, op2_ok h2 h4 h6⟩
/-- from a value's reading to a test's -/
theorem test_ok {t : TE} (h2 : ∀ (p : Option Addr) (B : Hp) (σ : L2.St) (ss : SS) (H F : Hp) (ms : MS) (Q : VK), Sl X.K p B F H σ ss → Hs p F H ms → Po X.mg W p σ H F (relD X.K p) (ma ss ms) Q → t σ H Q) :
    ∀ (p : Option Addr) (B : Hp) (σ : L2.St) (ss : SS) (H F : Hp) (ms : MS) (Q : Bool → Hp → Prop), Sl X.K p B F H σ ss → Hs p F H ms → Po X.mg W p σ H F relT (E.test ma ss ms) Q → tTest t σ H Q := by
  intro p B σ ss H F ms Q s hs po
  refine h2 p B σ ss H F ms _ s hs (po.bind fun x ms1 v H1 F1 e1 q1 po1 => ?_)
  cases x with
  | bl k =>
    cases q1
    exact ⟨k, rfl, po1.ok e1.hs rfl⟩
  | _ => exact po1.elim
theorem jt_cmp {op : CmpOp} {g : D → D → M D} (ho : OpOk X (compareOp op) g) (ha : JB X W a ma) (hb : JB X W b mb) (hm : behindInMarks op b = false := by first | exact nomark _ | rfl) : JT X W (.Compare a [op] [b] pos) (E.test (E.op2 g ma mb)) := by
  obtain ⟨t, h1, h2⟩ := ha
  obtain ⟨u, h3, h4⟩ := hb
  obtain ⟨r, h5, h6⟩ := ho
  exact ⟨_, pt_cmpR h5 h1 h3 hm, test_ok (op2_ok h2 h4 h6)⟩
theorem chain_ok {r r' : R2} {g g' : D → D → M D} {ta tb tc : TE} (h2 : ∀ (p : Option Addr) (B : Hp) (σ : L2.St) (ss : SS) (H F : Hp) (ms : MS) (Q : VK), Sl X.K p B F H σ ss → Hs p F H ms → Po X.mg W p σ H F (relB X.K p) (ma ss ms) Q → ta σ H Q)
    (h4 : ∀ (p : Option Addr) (B : Hp) (σ : L2.St) (ss : SS) (H F : Hp) (ms : MS) (Q : VK), Sl X.K p B F H σ ss → Hs p F H ms → Po X.mg W p σ H F (relB X.K p) (mb ss ms) Q → tb σ H Q)
    (h8 : ∀ (p : Option Addr) (B : Hp) (σ : L2.St) (ss : SS) (H F : Hp) (ms : MS) (Q : VK), Sl X.K p B F H σ ss → Hs p F H ms → Po X.mg W p σ H F (relB X.K p) (mc ss ms) Q → tc σ H Q)
    (h6 : ∀ (W : WX) (p : Option Addr) (σ : L2.St) (H F : Hp) (ms : MS) (x y : V) (dx dy : D) (Q : VK), Hs p F H ms → Bw X.K p F H x dx → Bw X.K p F H y dy → Po X.mg W p σ H F (relD X.K p) (g dx dy ms) Q → r x y H Q)
    (h7 : ∀ (W : WX) (p : Option Addr) (σ : L2.St) (H F : Hp) (ms : MS) (x y : V) (dx dy : D) (Q : VK), Hs p F H ms → Bw X.K p F H x dx → Bw X.K p F H y dy → Po X.mg W p σ H F (relD X.K p) (g' dx dy ms) Q → r' x y H Q) :
    ∀ (p : Option Addr) (B : Hp) (σ : L2.St) (ss : SS) (H F : Hp) (ms : MS) (Q : VK), Sl X.K p B F H σ ss → Hs p F H ms → Po X.mg W p σ H F (relD X.K p) (E.chain g g' ma mb mc ss ms) Q → tChain r r' ta tb tc σ H Q := by
  intro p B σ ss H F ms Q s hs po
  refine h2 p B σ ss H F ms _ s hs (po.bind fun x ms1 v H1 F1 e1 q1 po1 => ?_)
  refine h4 p B σ ss H1 F1 ms1 _ (s.ext e1) e1.hs (po1.bind fun y ms2 u H2 F2 e2 q2 po2 => ?_)
  refine h6 W p σ H2 F2 ms2 v u x y _ e2.hs (q1.ext e2) q2 (po2.bind fun z ms3 w H3 F3 e3 q3 po3 => ?_)
  cases z with
  | bl k =>
    cases q3
    refine ⟨k, rfl, ?_⟩
    cases k with
    | false =>
      rw [if_neg Bool.false_ne_true]
      exact po3.ok e3.hs (.bl false)
    | true =>
      rw [if_pos rfl]
      have po3' : Po X.mg W p σ H3 F3 (relD X.K p) ((mc ss ms3).bind fun w ms5 => g' y w ms5) Q := po3
      refine h8 p B σ ss H3 F3 ms3 _ (((s.ext e1).ext e2).ext e3) e3.hs (po3'.bind fun w ms4 u4 H4 F4 e4 q4 po4 => ?_)
      exact h7 W p σ H4 F4 ms4 u u4 y w Q e4.hs ((q2.ext e3).ext e4) q4 po4
  | _ => exact po3.elim
theorem je_chain {op op' : CmpOp} {g g' : D → D → M D} (ho : OpOk X (compareOp op) g) (ho' : OpOk X (compareOp op') g') (ha : JB X W a ma) (hb : JB X W b mb) (hc : JB X W c mc) (hm : lastMarks [op, op'] [b, c] = false := by rfl) : JE X W (.Compare a [op, op'] [b, c] pos) (E.chain g g' ma mb mc) := by
  obtain ⟨t, h1, h2⟩ := ha
  obtain ⟨u, h3, h4⟩ := hb
  obtain ⟨v, h7, h8⟩ := hc
  obtain ⟨r, h5, h6⟩ := ho
  obtain ⟨r', h9, h10⟩ := ho'
  exact ⟨_, pe_chain h5 h9 h1 h3 h7 hm, chain_ok h2 h4 h8 h6 h10⟩
theorem jt_chain {op op' : CmpOp} {g g' : D → D → M D} (ho : OpOk X (compareOp op) g) (ho' : OpOk X (compareOp op') g') (ha : JB X W a ma) (hb : JB X W b mb) (hc : JB X W c mc) (hm : lastMarks [op, op'] [b, c] = false := by rfl) : JT X W (.Compare a [op, op'] [b, c] pos) (E.test (E.chain g g' ma mb mc)) := by
  obtain ⟨t, h1, h2⟩ := ha
  obtain ⟨u, h3, h4⟩ := hb
  obtain ⟨v, h7, h8⟩ := hc
  obtain ⟨r, h5, h6⟩ := ho
  obtain ⟨r', h9, h10⟩ := ho'
  exact ⟨_, pt_chain h5 h9 h1 h3 h7 hm, test_ok (chain_ok h2 h4 h8 h6 h10)⟩

/-! ### tests, and, or, not -/
theorem jt_val (h : JE X W e ma) (he : ∀ whole, isTrue e X.env whole = (do let v ← whole; standAt e.pos; holding [v] (truthy v)) := by intro _; rfl) : JT X W e (E.test ma) := by
  obtain ⟨t, h1, h2⟩ := h
  exact ⟨_, pt_val h1 he, test_ok h2⟩
theorem jt_tru (h : JB X W e ma) (he : ∀ whole, isTrue e X.env whole = (do let v ← whole; standAt e.pos; holding [v] (truthy v)) := by intro _; rfl) : JT X W e (E.tru ma) := by
  obtain ⟨t, h1, h2⟩ := h
  refine ⟨_, pt_truth h1 he, fun p B σ ss H F ms Q s hs po => ?_⟩
  refine h2 p B σ ss H F ms _ s hs (po.bind fun x ms1 v H1 F1 e1 q1 po1 => ?_)
  cases q1 with
  | fz q1 =>
    cases q1 with
    | non => exact ⟨false, rfl, po1.ok e1.hs rfl⟩
    | bl b => exact ⟨b, rfl, po1.ok e1.hs rfl⟩
    | int i => exact ⟨_, rfl, po1.ok e1.hs rfl⟩
    | str x =>
      have po2 : Po X.mg W p σ H1 F1 relT (if x.length ≤ 100000 then R.ok ((x.length : Int) != 0) ms1 else .bad) Q := po1
      by_cases hz : x.length ≤ 100000
      · rw [if_pos hz] at po2
        exact ⟨_, ⟨sz5 hz, rfl⟩, po2.ok e1.hs rfl⟩
      · rw [if_neg hz] at po2
        exact po2.elim
    | tup h r =>
      refine ⟨_, .inr (.inl ⟨_, same_t e1.hs.fh h, rfl⟩), po1.ok e1.hs ?_⟩
      show (!List.isEmpty _) = (!List.isEmpty _)
      cases r <;> rfl
    | lst h r =>
      refine ⟨_, .inl ⟨_, same_l e1.hs.fh h, rfl⟩, po1.ok e1.hs ?_⟩
      show (!List.isEmpty _) = (!List.isEmpty _)
      cases r <;> rfl
    | dct h l r => exact po1.elim
    | pot h => exact po1.elim
    | fn => exact po1.elim
    | ty => exact po1.elim
    | xo h q => exact po1.elim
    | xn h q r => exact po1.elim
  | own h n r =>
    refine ⟨_, .inl ⟨_, .inl (.inl h), rfl⟩, po1.ok e1.hs ?_⟩
    show (!List.isEmpty _) = (!List.isEmpty _)
    cases r <;> rfl
theorem jt_not (h : JT X W a ta) : JT X W (.UnaryOp .Not a pos) (E.tnot ta) := by
  obtain ⟨t, h1, h2⟩ := h
  refine ⟨_, pt_not h1, fun p B σ ss H F ms Q s hs po => ?_⟩
  refine h2 p B σ ss H F ms _ s hs (po.bind fun x ms1 v H1 F1 e1 q1 po1 => ?_)
  cases q1
  exact po1.ok e1.hs rfl
theorem jw_and1 (h : JT X W a ta) : JW X W (.BoolOp .And [a] pos) ta := by
  obtain ⟨t, h1, h2⟩ := h
  exact ⟨_, pw_and1 h1, h2⟩
theorem jw_or1 (h : JT X W a ta) : JW X W (.BoolOp .Or [a] pos) ta := by
  obtain ⟨t, h1, h2⟩ := h
  exact ⟨_, pw_or1 h1, h2⟩
theorem jw_and (h : JT X W a ta) (h' : JW X W (.BoolOp .And (b :: rest) pos) tb) : JW X W (.BoolOp .And (a :: b :: rest) pos) (E.tand ta tb) := by
  obtain ⟨t, h1, h2⟩ := h
  obtain ⟨u, h3, h4⟩ := h'
  refine ⟨_, pw_and h1 h3, fun p B σ ss H F ms Q s hs po => ?_⟩
  refine h2 p B σ ss H F ms _ s hs (po.bind fun x ms1 v H1 F1 e1 q1 po1 => ?_)
  cases q1
  cases x with
  | true => rw [if_pos rfl] at po1 ⊢; exact h4 p B σ ss H1 F1 ms1 _ (s.ext e1) e1.hs po1
  | false => rw [if_neg Bool.false_ne_true] at po1 ⊢; exact po1.ok e1.hs rfl
theorem jw_or (h : JT X W a ta) (h' : JW X W (.BoolOp .Or (b :: rest) pos) tb) : JW X W (.BoolOp .Or (a :: b :: rest) pos) (E.tor ta tb) := by
  obtain ⟨t, h1, h2⟩ := h
  obtain ⟨u, h3, h4⟩ := h'
  refine ⟨_, pw_or h1 h3, fun p B σ ss H F ms Q s hs po => ?_⟩
  refine h2 p B σ ss H F ms _ s hs (po.bind fun x ms1 v H1 F1 e1 q1 po1 => ?_)
  cases q1
  cases x with
  | false => rw [if_neg Bool.false_ne_true] at po1 ⊢; exact h4 p B σ ss H1 F1 ms1 _ (s.ext e1) e1.hs po1
  | true => rw [if_pos rfl] at po1 ⊢; exact po1.ok e1.hs rfl
theorem JW.jt (h : JW X W e ta) : JT X W e ta := by
  obtain ⟨t, h1, h2⟩ := h
  exact ⟨_, h1.pt, h2⟩
theorem je_one {op} (h : JE X W a ma) : JE X W (.BoolOp op [a] pos) ma := by
  obtain ⟨t, h1, h2⟩ := h
  exact ⟨_, pe_one h1, h2⟩
theorem toB_po {p : Option Addr} {σ : L2.St} {H F : Hp} {ms : MS} {v : V} {x : D} {α β : Type} {rel : Hp → Hp → β → α → Prop} {f : Bool → M α} {Q : β → Hp → Prop} (q : Dt X.K p F v x) (po : Po X.mg W p σ H F rel ((E.toB x ms).bind f) Q) :
    ∃ k, v = .bl k ∧ Po X.mg W p σ H F rel (f k ms) Q := by
  cases x with
  | bl k =>
    cases q
    exact ⟨k, rfl, po⟩
  | _ => exact po.elim
theorem je_and (ha : JE X W a ma) (hb : JE X W (.BoolOp .And (b :: rest) pos) mb) : JE X W (.BoolOp .And (a :: b :: rest) pos) (E.vand ma mb) := by
  obtain ⟨t, h1, h2⟩ := ha
  obtain ⟨u, h3, h4⟩ := hb
  refine ⟨_, pe_and h1 h3, fun p B σ ss H F ms Q s hs po => ?_⟩
  refine h2 p B σ ss H F ms _ s hs (po.bind fun x ms1 v H1 F1 e1 q1 po1 => ?_)
  obtain ⟨k, rfl, po2⟩ := toB_po q1 po1
  refine ⟨k, rfl, ?_⟩
  cases k with
  | true => rw [if_pos rfl] at po2 ⊢; exact h4 p B σ ss H1 F1 ms1 _ (s.ext e1) e1.hs po2
  | false => rw [if_neg Bool.false_ne_true] at po2 ⊢; exact po2.ok e1.hs (.bl _)
theorem je_or (ha : JE X W a ma) (hb : JE X W (.BoolOp .Or (b :: rest) pos) mb) : JE X W (.BoolOp .Or (a :: b :: rest) pos) (E.vor ma mb) := by
  obtain ⟨t, h1, h2⟩ := ha
  obtain ⟨u, h3, h4⟩ := hb
  refine ⟨_, pe_or h1 h3, fun p B σ ss H F ms Q s hs po => ?_⟩
  refine h2 p B σ ss H F ms _ s hs (po.bind fun x ms1 v H1 F1 e1 q1 po1 => ?_)
  obtain ⟨k, rfl, po2⟩ := toB_po q1 po1
  refine ⟨k, rfl, ?_⟩
  cases k with
  | false => rw [if_neg Bool.false_ne_true] at po2 ⊢; exact h4 p B σ ss H1 F1 ms1 _ (s.ext e1) e1.hs po2
  | true => rw [if_pos rfl] at po2 ⊢; exact po2.ok e1.hs (.bl _)
theorem je_not (ha : JE X W a ma) : JE X W (.UnaryOp .Not a pos) (E.vnot ma) := by
  obtain ⟨t, h1, h2⟩ := ha
  refine ⟨_, pe_not h1, fun p B σ ss H F ms Q s hs po => ?_⟩
  refine h2 p B σ ss H F ms _ s hs (po.bind fun x ms1 v H1 F1 e1 q1 po1 => ?_)
  obtain ⟨k, rfl, po2⟩ := toB_po q1 po1
  exact ⟨k, rfl, po2.ok e1.hs (.bl _)⟩
theorem je_ife (hc : JT X W c ta) (ha : JE X W a ma) (hb : JE X W b mb) : JE X W (.IfExp c a b pos) (E.ife ta ma mb) := by
  obtain ⟨v, h5, h6⟩ := hc
  obtain ⟨t, h1, h2⟩ := ha
  obtain ⟨u, h3, h4⟩ := hb
  refine ⟨_, pe_ifExp h5 h1 h3, fun p B σ ss H F ms Q s hs po => ?_⟩
  refine h6 p B σ ss H F ms _ s hs (po.bind fun x ms1 v H1 F1 e1 q1 po1 => ?_)
  cases q1
  cases x with
  | true => rw [if_pos rfl] at po1 ⊢; exact h2 p B σ ss H1 F1 ms1 _ (s.ext e1) e1.hs po1
  | false => rw [if_neg Bool.false_ne_true] at po1 ⊢; exact h4 p B σ ss H1 F1 ms1 _ (s.ext e1) e1.hs po1
end
end Q

set_option Elab.async false
set_option linter.all false
set_option maxRecDepth 100000
set_option maxHeartbeats 4000000
/-! Qc: defs by their mirrors, statements. -/
namespace Q
open PySem L2 PyProof.Rows

/-! ### a def by its mirror -/
def spM (K : PySem.W.Frag) (mg : Str → Option Value) (n : Nat) (mir : List D → M D) : Sp := fun vs H Q E => ∃ (p : Option Addr) (F : Hp) (ds : List D) (ms : MS), vs.length = n ∧ Hs p F H ms ∧ Dts K p F vs ds ∧
  Po mg (fun u d _ H' => E u d H') p [] H F (relD K p) (mir ds ms) Q
abbrev FnM (P : Program) (w : World) (K : PySem.W.Frag) (mg : Str → Option Value) (base : Heap) (k : Nat) (f : Addr) (fd : FuncData) (ps : List Str) (mir : List D → M D) : Prop :=
  FnOk P w K mg base (L2.CX P w) k f fd ps (spM K mg ps.length mir)

section
variable {X : Cx} {W : WX} {a b c e : Expr} {es rest : List Expr} {ma mb mc : SS → M D} {pos : Pos}
theorem je_call {k : Nat} {f : Addr} {fd : FuncData} {ps : List Str} {mir : List D → M D} {mr : SS → M (List D)} {x : Str} {p0 : Pos} (tk : Takes X W) (G : FnM X.prog X.w X.K X.mg X.base k f fd ps mir) (hr : Room k X.A) (hg : Gl X x) (hm : X.mg x = some (.ref f))
    (hk : PySem.W.keepIn X.K (.ref f) = true) (hb : Binds X.K fd ps []) (ha : JA X W (e :: es) mr) (hdb : (x == ("__debug__" : Str)) = false := by decide) (he : starEach (e :: es) X.env = (false, eval e X.env) :: starEach es X.env := by rfl)
    (hpl : (backTo pos (starEach es X.env)).any (·.1) = false := by rfl) (hn : ∀ (ss : SS) (ms : MS) (ds : List D) (ms' : MS), mr ss ms = .ok ds ms' → ds.length = ps.length) : JE X W (.Call (.Name x p0) (e :: es) [] pos) (E.fnA mir mr) := by
  obtain ⟨t, h1, h2⟩ := ha
  refine ⟨_, pe_callS G hr hg hm hk hb (fun σ => passAt tk σ) h1 hdb he hpl, fun p B σ ss H F ms Q s hs po => ?_⟩
  cases r : mr ss ms with
  | bad => unfold E.fnA at po; rw [r] at po; exact po.elim
  | ex c ms' =>
    unfold E.fnA at po
    rw [r] at po
    exact h2 p B σ ss H F ms _ s hs (by rw [r]; exact po)
  | ok ds ms1 =>
    unfold E.fnA at po
    rw [r] at po
    refine h2 p B σ ss H F ms _ s hs ?_
    rw [r]
    intro vs H1 F1 e1 q1
    have po1 : Po X.mg W p σ H1 F1 (relD X.K p) (mir ds ms1) Q := Po.ext e1 po
    refine ⟨p, F1, ds, ms1, by rw [q1.length]; exact hn _ _ _ _ r, e1.hs, q1, ?_⟩
    cases r2 : mir ds ms1 with
    | ok x ms' => rw [r2] at po1; exact po1
    | ex c ms' => rw [r2] at po1; exact po1
    | bad => rw [r2] at po1; exact po1
end

/-! ### statements -/
inductive O where
  | nx (ss : SS) (ms : MS)
  | rt (d : D) (ms : MS)
  | bk (ss : SS) (ms : MS)
  | ct (ss : SS) (ms : MS)
  | ex (c : Str) (ss : SS) (ms : MS)
  | bad
/-- a def's frame: what stands since its begin at (B, F0) -/
structure Fm (K : PySem.W.Frag) (p : Option Addr) (B F0 F H : Hp) (σ : L2.St) (ss : SS) (ms : MS) : Prop where
  sl : Sl K p B F H σ ss
  ex : Ext p B F0 H F ms
def PoS (K : PySem.W.Frag) (mg : Str → Option Value) (W : WX) (p : Option Addr) (B F0 : Hp) (o : O) (En : Ends) : Prop := match o with
  | .nx ss' ms' => ∀ σ' H' F', Fm K p B F0 F' H' σ' ss' ms' → En.nx σ' H'
  | .bk ss' ms' => ∀ σ' H' F', Fm K p B F0 F' H' σ' ss' ms' → En.bk σ' H'
  | .ct ss' ms' => ∀ σ' H' F', Fm K p B F0 F' H' σ' ss' ms' → En.ct σ' H'
  | .rt d ms' => ∀ v H' F', Ext p B F0 H' F' ms' → Dt K p F' v d → En.rt v H'
  | .ex c ss' ms' => ∀ u, mg c = some u → ∀ σ' H' F', Fm K p B F0 F' H' σ' ss' ms' → W u none σ' H'
  | .bad => False
def JS (X : Cx) (W : WX) (st : Stmt) (m : SS → MS → O) : Prop := ∃ t, PS X st t ∧ ∀ (p : Option Addr) (B F0 : Hp) (σ : L2.St) (ss : SS) (H F : Hp) (ms : MS) (En : Ends),
  Fm X.K p B F0 F H σ ss ms → PoS X.K X.mg W p B F0 (m ss ms) En → t En σ H
def JSs (X : Cx) (W : WX) (sts : List Stmt) (m : SS → MS → O) : Prop := ∃ t, PSs X sts t ∧ ∀ (p : Option Addr) (B F0 : Hp) (σ : L2.St) (ss : SS) (H F : Hp) (ms : MS) (En : Ends),
  Fm X.K p B F0 F H σ ss ms → PoS X.K X.mg W p B F0 (m ss ms) En → t En σ H

/-- a mirror's answer as a statement's -/
def R.o {α : Type} (r : R α) (ss : SS) (f : α → MS → O) : O := match r with
  | .ok x ms => f x ms
  | .ex c ms => .ex c ss ms
  | .bad => .bad
@[simp] theorem R.o_ok {α : Type} (x : α) (ms : MS) (ss : SS) (f : α → MS → O) : (R.ok x ms).o ss f = f x ms := rfl
@[simp] theorem R.o_ex {α : Type} (c : Str) (ms : MS) (ss : SS) (f : α → MS → O) : (R.ex (α := α) c ms).o ss f = .ex c ss ms := rfl
@[simp] theorem R.o_bad {α : Type} (ss : SS) (f : α → MS → O) : (R.bad (α := α)).o ss f = .bad := rfl
namespace S
def nil : SS → MS → O := fun ss ms => .nx ss ms
def seq (m1 m2 : SS → MS → O) : SS → MS → O := fun ss ms => match m1 ss ms with
  | .nx ss1 ms1 => m2 ss1 ms1
  | o => o
def set (i : Nat) (m : SS → M D) : SS → MS → O := fun ss ms => (m ss ms).o ss fun d ms1 => .nx (ss.set i (some (.dat d))) ms1
def own (i : Nat) (m : SS → M D) : SS → MS → O := fun ss ms => (m ss ms).o ss fun d ms1 => match d with
  | .lst ds => .nx (ss.set i (some (.own ds))) ms1
  | _ => .bad
def expr (m : SS → M D) : SS → MS → O := fun ss ms => (m ss ms).o ss fun _ ms1 => .nx ss ms1
def ret (m : SS → M D) : SS → MS → O := fun ss ms => (m ss ms).o ss fun d ms1 => .rt d ms1
def retN : SS → MS → O := fun _ ms => .rt .non ms
def retO (i : Nat) : SS → MS → O := fun ss ms => match ss[i]? with
  | some (some (.dat d)) => .rt d ms
  | some (some (.own ds)) => .rt (.lst ds) ms
  | _ => .bad
def ife (t : SS → M Bool) (a b : SS → MS → O) : SS → MS → O := fun ss ms => (t ss ms).o ss fun c ms1 => if c = true then a ss ms1 else b ss ms1
def brk : SS → MS → O := fun ss ms => .bk ss ms
def cont : SS → MS → O := fun ss ms => .ct ss ms
end S

section
variable {X : Cx} {W : WX} {e c : Expr} {ma : SS → M D} {st : Stmt} {sts sts' : List Stmt} {m m1 m2 : SS → MS → O} {pos : Pos}
/-- from an expression's answer inside a frame -/
theorem Fm.po {α β : Type} {K : PySem.W.Frag} {mg : Str → Option Value} {p : Option Addr} {B F0 F H : Hp} {σ : L2.St} {ss : SS} {ms : MS} {r : R α} {f : α → MS → O} {rel : Hp → Hp → β → α → Prop} {En : Ends} {Q : β → Hp → Prop} (fm : Fm K p B F0 F H σ ss ms)
    (po : PoS K mg W p B F0 (r.o ss f) En) (k : ∀ x ms1 v H1 F1, Fm K p B F0 F1 H1 σ ss ms1 → Ext p H F H1 F1 ms1 → rel F1 H1 v x → PoS K mg W p B F0 (f x ms1) En → Q v H1) : Po mg W p σ H F rel r Q := by
  cases r with
  | ok x ms1 => exact fun v H1 F1 e1 q => k x ms1 v H1 F1 ⟨fm.sl.ext e1, fm.ex.trans e1⟩ e1 q po
  | ex c ms1 => exact fun u hu H1 F1 e1 => po u hu σ H1 F1 ⟨fm.sl.ext e1, fm.ex.trans e1⟩
  | bad => exact po
theorem jss_nil : JSs X W [] S.nil := ⟨_, pss_nil, fun p B F0 σ ss H F ms En fm po => po σ H F fm⟩
theorem PoS.seq {K : PySem.W.Frag} {mg : Str → Option Value} {p : Option Addr} {B F0 : Hp} {ss : SS} {ms : MS} {En : Ends} {N : L2.St → Hp → Prop} (po : PoS K mg W p B F0 (S.seq m1 m2 ss ms) En)
    (k : ∀ ss1 ms1 σ1 H1 F1, Fm K p B F0 F1 H1 σ1 ss1 ms1 → PoS K mg W p B F0 (m2 ss1 ms1) En → N σ1 H1) : PoS K mg W p B F0 (m1 ss ms) { En with nx := N } := by
  unfold S.seq at po
  cases r : m1 ss ms with
  | nx ss1 ms1 => rw [r] at po; exact fun σ' H' F' fm => k ss1 ms1 σ' H' F' fm po
  | rt d ms1 => rw [r] at po; exact po
  | bk ss1 ms1 => rw [r] at po; exact po
  | ct ss1 ms1 => rw [r] at po; exact po
  | ex c ss1 ms1 => rw [r] at po; exact po
  | bad => rw [r] at po; exact po
theorem jss_cons (h1 : JS X W st m1) (h2 : JSs X W sts m2) : JSs X W (st :: sts) (S.seq m1 m2) := by
  obtain ⟨t, h1, h3⟩ := h1
  obtain ⟨u, h2, h4⟩ := h2
  refine ⟨_, pss_cons h1 h2, fun p B F0 σ ss H F ms En fm po => ?_⟩
  exact h3 p B F0 σ ss H F ms _ fm (po.seq fun ss1 ms1 σ1 H1 F1 fm1 po1 => h4 p B F0 σ1 ss1 H1 F1 ms1 En fm1 po1)
theorem jss_one (h1 : JS X W st m1) : JSs X W [st] m1 := by
  obtain ⟨t, h1, h3⟩ := h1
  exact ⟨_, pss_one h1, h3⟩
theorem js_pass : JS X W (.Pass pos) S.nil := ⟨_, ps_pass, fun p B F0 σ ss H F ms En fm po => po σ H F fm⟩
theorem js_break : JS X W (.Break pos) S.brk := ⟨_, ps_break, fun p B F0 σ ss H F ms En fm po => po σ H F fm⟩
theorem js_continue : JS X W (.Continue pos) S.cont := ⟨_, ps_continue, fun p B F0 σ ss H F ms En fm po => po σ H F fm⟩
theorem js_ret (h : JE X W e ma) : JS X W (.Return (some e) pos) (S.ret ma) := by
  obtain ⟨t, h1, h2⟩ := h
  refine ⟨_, ps_ret h1, fun p B F0 σ ss H F ms En fm po => ?_⟩
  exact h2 p B σ ss H F ms _ fm.sl fm.ex.hs (fm.po po fun x ms1 v H1 F1 fm1 _ q po1 => po1 v H1 F1 fm1.ex q)
theorem js_retN : JS X W (.Return none pos) S.retN := ⟨_, ps_retN, fun p B F0 σ ss H F ms En fm po => po .non H F fm.ex .non⟩
theorem js_expr (h : JE X W e ma) (hs : swapsWith e none pos.line X.env = pure false := by rfl) : JS X W (.Expr e pos) (S.expr ma) := by
  obtain ⟨t, h1, h2⟩ := h
  refine ⟨_, ps_expr h1 hs, fun p B F0 σ ss H F ms En fm po => ?_⟩
  exact h2 p B σ ss H F ms _ fm.sl fm.ex.hs (fm.po po fun x ms1 v H1 F1 fm1 _ q po1 => po1 σ H1 F1 fm1)
theorem js_if {tc : SS → M Bool} (hc : JT X W c tc) (ha : JSs X W sts m1) (hb : JSs X W sts' m2) : JS X W (.If c sts sts' pos) (S.ife tc m1 m2) := by
  obtain ⟨t, h1, h2⟩ := hc
  obtain ⟨u, h3, h4⟩ := ha
  obtain ⟨v, h5, h6⟩ := hb
  refine ⟨_, ps_if h1 h3 h5, fun p B F0 σ ss H F ms En fm po => ?_⟩
  refine h2 p B σ ss H F ms _ fm.sl fm.ex.hs (fm.po po fun x ms1 v H1 F1 fm1 _ q po1 => ?_)
  cases q
  cases x with
  | true => rw [if_pos rfl] at po1 ⊢; exact h4 p B F0 σ ss H1 F1 ms1 En fm1 po1
  | false => rw [if_neg Bool.false_ne_true] at po1 ⊢; exact h6 p B F0 σ ss H1 F1 ms1 En fm1 po1

/-! slots set -/
theorem Sl.set {K : PySem.W.Frag} {p : Option Addr} {B F H : Hp} {σ : L2.St} {ss : SS} {i : Nat} {v : V} {d : D} (s : Sl K p B F H σ ss) (q : Dt K p F v d) : Sl K p B F H (σ.set i (some v)) (ss.set i (some (.dat d))) := by
  refine ⟨by rw [List.length_set, List.length_set]; exact s.len, fun j sv u h1 h2 => ?_, fun j k a ds es h1 h2 h3 h4 => ?_⟩
  · by_cases z : i = j
    · subst z
      rw [List.getElem?_set_self (by have := (List.getElem?_eq_some_iff.mp h1).1; rw [List.length_set] at this; exact this)] at h1
      rw [List.getElem?_set_self (by have := (List.getElem?_eq_some_iff.mp h2).1; rw [List.length_set] at this; exact this)] at h2
      cases h1
      cases h2
      exact ⟨v, rfl, q⟩
    · rw [List.getElem?_set_ne z] at h1 h2
      exact s.ok j sv u h1 h2
  · have nj : i ≠ j := fun z => by
      subst z
      have hl := (List.getElem?_eq_some_iff.mp h1).1
      rw [List.length_set] at hl
      rw [List.getElem?_set_self hl] at h1
      cases h1
    have nk : i ≠ k := fun z => by
      subst z
      have hl := (List.getElem?_eq_some_iff.mp h2).1
      rw [List.length_set] at hl
      rw [List.getElem?_set_self hl] at h2
      cases h2
    rw [List.getElem?_set_ne nj] at h1 h3
    rw [List.getElem?_set_ne nk] at h2 h4
    exact s.ap j k a ds es h1 h2 h3 h4
/-- a new list goes to a slot -/
theorem Sl.setN {K : PySem.W.Frag} {p : Option Addr} {B F H : Hp} {σ : L2.St} {ss : SS} {i : Nat} {a : Addr} {xs : List V} {ds : List D} (s : Sl K p B F H σ ss) (h : H a = some (.lst xs)) (hf : F a = none) (hb : B a = none) (n : p ≠ some a) (q : Dts K p F xs ds)
    (new : ∀ (j : Nat) (es : List D), ss[j]? = some (some (.own es)) → σ[j]? ≠ some (some (.ref a))) : Sl K p B F H (σ.set i (some (.ref a))) (ss.set i (some (.own ds))) := by
  refine ⟨by rw [List.length_set, List.length_set]; exact s.len, fun j sv u h1 h2 => ?_, fun j k b ds es h1 h2 h3 h4 => ?_⟩
  · by_cases z : i = j
    · subst z
      rw [List.getElem?_set_self (by have := (List.getElem?_eq_some_iff.mp h1).1; rw [List.length_set] at this; exact this)] at h1
      rw [List.getElem?_set_self (by have := (List.getElem?_eq_some_iff.mp h2).1; rw [List.length_set] at this; exact this)] at h2
      cases h1
      cases h2
      exact ⟨a, xs, rfl, h, hf, hb, n, q⟩
    · rw [List.getElem?_set_ne z] at h1 h2
      exact s.ok j sv u h1 h2
  · by_cases zj : i = j
    · by_cases zk : i = k
      · exact zj.symm.trans zk
      · subst zj
        rw [List.getElem?_set_self (by have := (List.getElem?_eq_some_iff.mp h3).1; rw [List.length_set] at this; exact this)] at h3
        rw [List.getElem?_set_ne zk] at h2 h4
        cases h3
        exact absurd h4 (new k es h2)
    · rw [List.getElem?_set_ne zj] at h1 h3
      by_cases zk : i = k
      · subst zk
        rw [List.getElem?_set_self (by have := (List.getElem?_eq_some_iff.mp h4).1; rw [List.length_set] at this; exact this)] at h4
        cases h4
        exact absurd h3 (new j _ h1)
      · rw [List.getElem?_set_ne zk] at h2 h4
        exact s.ap j k b _ es h1 h2 h3 h4
/-- an own list is changed -/
theorem Sl.chg {K : PySem.W.Frag} {p : Option Addr} {B F H : Hp} {σ : L2.St} {ss : SS} {i : Nat} {a : Addr} {ys : List V} {ds es : List D} (s : Sl K p B F H σ ss) (hi : ss[i]? = some (some (.own ds))) (ha : σ[i]? = some (some (.ref a))) (q : Dts K p F ys es) :
    Sl K p B F (upd H a (.lst ys)) σ (ss.set i (some (.own es))) := by
  obtain ⟨b, xs, e1, h, hf, hb, n, r⟩ := s.ok i _ _ hi ha
  cases e1
  refine ⟨by rw [List.length_set]; exact s.len, fun j sv u h1 h2 => ?_, fun j k b ds' es' h1 h2 h3 h4 => ?_⟩
  · by_cases z : i = j
    · subst z
      rw [List.getElem?_set_self (by have := (List.getElem?_eq_some_iff.mp h1).1; rw [List.length_set] at this; exact this)] at h1
      rw [ha] at h2
      cases h1
      cases h2
      exact ⟨a, ys, rfl, upd_same, hf, hb, n, q⟩
    · rw [List.getElem?_set_ne z] at h1
      have o := s.ok j sv u h1 h2
      match sv, o with
      | none, _ => trivial
      | some (.dat d), ⟨u, e1, q⟩ => exact ⟨u, e1, q⟩
      | some (.own ds'), ⟨c, zs, e1, h', hf', hb', n', r'⟩ =>
        subst e1
        have ne : c ≠ a := fun w => by
          subst w
          exact z (s.ap i j c _ _ hi h1 ha h2)
        exact ⟨c, zs, rfl, by rw [upd_ne ne]; exact h', hf', hb', n', r'⟩
  · have lk : ∀ (m : Nat) (fs : List D), (ss.set i (some (.own es)))[m]? = some (some (.own fs)) → ∃ gs, ss[m]? = some (some (.own gs)) := fun m fs hm => by
      by_cases z : i = m
      · subst z
        exact ⟨_, hi⟩
      · rw [List.getElem?_set_ne z] at hm
        exact ⟨_, hm⟩
    obtain ⟨g1, h1⟩ := lk j _ h1
    obtain ⟨g2, h2⟩ := lk k _ h2
    exact s.ap j k b g1 g2 h1 h2 h3 h4
theorem Ext.chg {p : Option Addr} {B F0 H F : Hp} {ms : MS} {a : Addr} {o : HO} (e : Ext p B F0 H F ms) (hf : F a = none) (hb : B a = none) (n : p ≠ some a) : Ext p B F0 (upd H a o) F ms :=
  ⟨e.ff, e.nf, fun b u hb' np => by rw [upd_ne (ne_of_none hb' hb)]; exact e.kp b u hb' np, ⟨fun b u q => by rw [upd_ne (ne_of_none q hf)]; exact e.hs.fh b u q, fun b q => by rw [upd_ne (show b ≠ a from fun z => n (z ▸ q))]; exact e.hs.pot b q, e.hs.pf⟩⟩

theorem js_set {i : Nat} {x : Str} {pos' : Pos} (h : JE X W e ma) (hN : X.N.Nodup) (hi : X.N[i]? = some x := by rfl) (hx : Loc X.env.scope x := by first | exact Or.inl rfl | exact Or.inr rfl) (hs : swapsWith e (some (.Name x pos')) pos.line X.env = pure false := by rfl)
    (hf : X.fn x = true ∨ X.env.scope.names.lookup x = some .local := by first | exact .inl rfl | exact .inr rfl) : JS X W (.Assign [.Name x pos'] e pos) (S.set i ma) := by
  obtain ⟨t, h1, h2⟩ := h
  refine ⟨_, ps_set hN hi hx h1 hs hf, fun p B F0 σ ss H F ms En fm po => ?_⟩
  exact h2 p B σ ss H F ms _ fm.sl fm.ex.hs (fm.po po fun x ms1 v H1 F1 fm1 _ q po1 => po1 _ H1 F1 ⟨fm1.sl.set q, fm1.ex⟩)
theorem js_own {i : Nat} {x : Str} {pos' : Pos} (h : JN X W e ma) (hN : X.N.Nodup) (hi : X.N[i]? = some x := by rfl) (hx : Loc X.env.scope x := by first | exact Or.inl rfl | exact Or.inr rfl) (hs : swapsWith e (some (.Name x pos')) pos.line X.env = pure false := by rfl)
    (hf : X.fn x = true ∨ X.env.scope.names.lookup x = some .local := by first | exact .inl rfl | exact .inr rfl) : JS X W (.Assign [.Name x pos'] e pos) (S.own i ma) := by
  obtain ⟨t, h1, h2⟩ := h
  refine ⟨_, ps_set hN hi hx h1 hs hf, fun p B F0 σ ss H F ms En fm po => ?_⟩
  refine h2 p B σ ss H F ms _ fm.sl fm.ex.hs (fm.po po fun x ms1 v H1 F1 fm1 e1 q po1 => ?_)
  obtain ⟨a, xs, ds, rfl, rfl, ha, n, h', f', q⟩ := q
  refine po1 _ H1 F1 ⟨fm1.sl.setN h' f' (fm.ex.back ha) n q fun j es h1 h2 => ?_, fm1.ex⟩
  obtain ⟨b, ys, e2, h3, _⟩ := fm.sl.ok j _ _ h1 h2
  cases e2
  rw [ha] at h3
  cases h3
theorem js_retO {i : Nat} (h : PE X e (tVar i)) : JS X W (.Return (some e) pos) (S.retO i) := by
  refine ⟨_, ps_ret h, fun p B F0 σ ss H F ms En fm po => ?_⟩
  unfold S.retO at po
  split at po
  next d hd =>
    have hi : i < σ.length := by
      rw [fm.sl.len]
      exact (List.getElem?_eq_some_iff.mp hd).1
    obtain ⟨u, e1, q⟩ := fm.sl.ok i _ _ hd (List.getElem?_eq_getElem hi)
    exact ⟨u, by rw [List.getElem?_eq_getElem hi, e1], po u H F fm.ex q⟩
  next ds hd =>
    have hi : i < σ.length := by
      rw [fm.sl.len]
      exact (List.getElem?_eq_some_iff.mp hd).1
    obtain ⟨a, xs, e1, h1, h2, h3, h4, h5⟩ := fm.sl.ok i _ _ hd (List.getElem?_eq_getElem hi)
    exact ⟨.ref a, by rw [List.getElem?_eq_getElem hi, e1], po _ H _ (fm.ex.frz h3 h1 h2 h4) (.lst (SqL.of upd_same) (h5.mono (same_upd h2)))⟩
  next => exact po.elim
end

/-! ### a def -/
def begin (n : Nat) (ds : List D) : SS := ds.map (fun d => some (.dat d)) ++ List.replicate (n - ds.length) none
def fin (o : O) : R D := match o with
  | .nx _ ms => .ok .non ms
  | .rt d ms => .ok d ms
  | .ex c _ ms => .ex c ms
  | _ => .bad
@[simp] theorem fin_rt (d : D) (ms : MS) : fin (.rt d ms) = .ok d ms := rfl
@[simp] theorem fin_nx (ss : SS) (ms : MS) : fin (.nx ss ms) = .ok .non ms := rfl
@[simp] theorem fin_ex (c : Str) (ss : SS) (ms : MS) : fin (.ex c ss ms) = .ex c ms := rfl
/-- a def's mirror from its body's -/
def mirOf (n : Nat) (m : SS → MS → O) : List D → M D := fun ds ms => fin (m (begin n ds) ms)
theorem begin_sl {K : PySem.W.Frag} {p : Option Addr} {B F H : Hp} {N : List Str} {vs : List V} {ds : List D} (q : Dts K p F vs ds) : Sl K p B F H (L2.start N vs) (begin N.length ds) := by
  have hl := q.length
  refine ⟨?_, fun i sv v h1 h2 => ?_, fun i j a es fs h1 h2 h3 h4 => ?_⟩
  · unfold L2.start begin
    rw [List.length_append, List.length_append, List.length_map, List.length_map, List.length_replicate, List.length_replicate, hl]
  · unfold begin at h1
    unfold L2.start at h2
    by_cases hi : i < ds.length
    · rw [List.getElem?_append_left (by rw [List.length_map]; exact hi), List.getElem?_map] at h1
      rw [List.getElem?_append_left (by rw [List.length_map, hl]; exact hi), List.getElem?_map] at h2
      obtain ⟨v', h3, h4⟩ := q.get (i := i) (List.getElem?_eq_getElem hi)
      rw [List.getElem?_eq_getElem hi] at h1
      rw [h3] at h2
      cases h1
      cases h2
      exact ⟨v', rfl, h4⟩
    · rw [List.getElem?_append_right (by rw [List.length_map]; omega)] at h1
      have := List.getElem?_eq_some_iff.mp h1
      obtain ⟨h5, h6⟩ := this
      rw [List.getElem_replicate] at h6
      subst h6
      trivial
  · exfalso
    unfold begin at h1
    by_cases hi : i < ds.length
    · rw [List.getElem?_append_left (by rw [List.length_map]; exact hi), List.getElem?_map, List.getElem?_eq_getElem hi] at h1
      cases h1
    · rw [List.getElem?_append_right (by rw [List.length_map]; omega)] at h1
      obtain ⟨h5, h6⟩ := List.getElem?_eq_some_iff.mp h1
      rw [List.getElem_replicate] at h6
      cases h6
section
variable {P : Program} {w : World} {K : PySem.W.Frag} {mg : Str → Option Value} {base : Heap}
theorem fnm_of {x qual : Str} {st : Stmt} {f : Addr} {fd : FuncData} {N ps : List Str} {k : Nat} {m : SS → MS → O} (F : Fun K x qual st f fd) (S : FnScope N ps (defScope st))
    (hbody : ∀ (cdv : Value) (A : Around) (outer : List Env) (s : Shared) (H : Hp) (E : XK), Room k (A.deeper (envOfC qual (defScope st) s.heap.objs.size f cdv)) →
      ∀ (W : WX), W = (fun cls d _ H => E cls d H) → Takes (cxOf (L2.CX P w) P w K mg base N qual (defScope st) f cdv A outer s H E) W →
        JSs (cxOf (L2.CX P w) P w K mg base N qual (defScope st) f cdv A outer s H E) W (defBody st) m) : FnM P w K mg base (k + 1) f fd ps (mirOf N.length m) := by
  refine F.okX S (fun vs H Q E h => ?_) (fun cdv A outer s H vs Q E hr h => ?_)
  · obtain ⟨p, F, ds, ms, hl, _⟩ := h
    exact hl
  obtain ⟨p, F, ds, ms, hl, hs, q, po⟩ := h
  obtain ⟨t, h1, h2⟩ := hbody cdv A outer s H E hr (fun cls d _ H => E cls d H) rfl (takes_of rfl rfl rfl rfl)
  refine ⟨t, h1, h2 p H F (L2.start N vs) (begin N.length ds) H F ms _ ⟨begin_sl q, Ext.refl hs⟩ ?_⟩
  unfold mirOf at po
  cases r : m (begin N.length ds) ms with
  | nx ss1 ms1 => rw [r] at po; exact fun σ' H' F' fm => po .non H' F' fm.ex .non
  | rt d ms1 => rw [r] at po; exact fun v H' F' e q => po v H' F' e q
  | ex c ss1 ms1 => rw [r] at po; exact fun u hu σ' H' F' fm => po u hu H' F' fm.ex
  | bk ss1 ms1 => rw [r] at po; exact po.elim
  | ct ss1 ms1 => rw [r] at po; exact po.elim
  | bad => rw [r] at po; exact po.elim
end
end Q

set_option Elab.async false
set_option linter.all false
set_option maxRecDepth 100000
set_option maxHeartbeats 4000000
/-! Qd: walks, targets, for, comprehensions. -/
namespace Q
open PySem L2 PyProof.Rows

/-! ### canonical readings -/
def rdE (K : PySem.W.Frag) (mg : Str → Option Value) (W : WX) (m : SS → M D) : TE := fun σ H Q => ∃ (p : Option Addr) (B : Hp) (ss : SS) (F : Hp) (ms : MS), Sl K p B F H σ ss ∧ Hs p F H ms ∧ Po mg W p σ H F (relD K p) (m ss ms) Q
def rdT (K : PySem.W.Frag) (mg : Str → Option Value) (W : WX) (m : SS → M Bool) : TT := fun σ H Q => ∃ (p : Option Addr) (B : Hp) (ss : SS) (F : Hp) (ms : MS), Sl K p B F H σ ss ∧ Hs p F H ms ∧ Po mg W p σ H F relT (m ss ms) Q
section
variable {X : Cx} {W : WX} {e tg iter : Expr} {m : SS → M D}
theorem JE.pe (h : JE X W e m) : PE X e (rdE X.K X.mg W m) := by
  obtain ⟨t, h1, h2⟩ := h
  exact ⟨fun pins s σ H Q I ⟨p, B, ss, F, ms, sl, hs, po⟩ => h1.run pins s σ H Q I (h2 p B σ ss H F ms Q sl hs po)⟩
theorem JT.pt {m : SS → M Bool} (h : JT X W e m) : PT X e (rdT X.K X.mg W m) := by
  obtain ⟨t, h1, h2⟩ := h
  exact ⟨fun pins s σ H Q I ⟨p, B, ss, F, ms, sl, hs, po⟩ => h1.run pins s σ H Q I (h2 p B σ ss H F ms Q sl hs po)⟩
end

/-! ### walks -/
/-- what an iterator yields -/
def Seqs (K : PySem.W.Frag) (p : Option Addr) (F : Hp) (J : It) (ds : List D) : Prop := ∀ (H1 F1 : Hp) (ms : MS), Same F F1 → Hs p F1 H1 ms → ∀ i : Nat,
  (∀ d, ds[i]? = some d → J.go i H1 ∧ ∀ x H2, J.yld i H1 x H2 → ∃ F2, Ext p H1 F1 H2 F2 ms ∧ Dt K p F2 x d) ∧ (ds.length ≤ i → J.stop i H1)
def JI (X : Cx) (W : WX) (tg iter : Expr) (m : SS → M (List D)) : Prop := ∃ wi, PI X tg iter wi ∧ ∀ (p : Option Addr) (B : Hp) (σ : L2.St) (ss : SS) (H F : Hp) (ms : MS) (Rr : It → Hp → Prop),
  Sl X.K p B F H σ ss → Hs p F H ms → Po X.mg W p σ H F (fun F' _ J ds => Seqs X.K p F' J ds) (m ss ms) Rr → wi σ H Rr
theorem PI.or {X : Cx} {tg iter : Expr} {w1 w2 : TI} (h1 : PI X tg iter w1) (h2 : PI X tg iter w2) : PI X tg iter (fun σ H R => w1 σ H R ∨ w2 σ H R) :=
  ⟨fun pins s σ H R I h => h.elim (h1.run pins s σ H R I) (h2.run pins s σ H R I)⟩
def chars (x : Str) : List D := x.cps.toList.map fun c => D.str ⟨#[c]⟩
def itemsD : D → M (List D)
  | .lst ds => fun ms => .ok ds ms
  | .tup ds => fun ms => .ok ds ms
  | .str x => fun ms => .ok (chars x) ms
  | _ => fun _ => .bad
def rangeD (lo : Int) (n : Nat) : List D := (List.range n).map fun (k : Nat) => D.int (lo + (k : Int))
def range1 : List D → M (List D)
  | [.int j] => fun ms => if -(2 ^ 62) ≤ j ∧ j < 2 ^ 62 then .ok (rangeD 0 j.toNat) ms else .bad
  | _ => fun _ => .bad
def range2 : List D → M (List D)
  | [.int i, .int j] => fun ms => if -(2 ^ 62) ≤ i ∧ i < 2 ^ 62 ∧ -(2 ^ 62) ≤ j ∧ j < 2 ^ 62 then .ok (rangeD i (j - i).toNat) ms else .bad
  | _ => fun _ => .bad
def E.its (m : SS → M D) : SS → M (List D) := fun ss ms => (m ss ms).bind itemsD
def E.itsA (f : List D → M (List D)) (m : SS → M (List D)) : SS → M (List D) := fun ss ms => (m ss ms).bind f
theorem seqs_list' {K : PySem.W.Frag} {p : Option Addr} {F : Hp} {a : Addr} {xs : List V} {ds : List D} (h : SqL K F a xs) (r : Dts K p F xs ds) : Seqs K p F (Itl K a) ds := by
  intro H1 F1 ms sf hs i
  have h1 : SqL K H1 a xs := same_l hs.fh (same_l sf h)
  refine ⟨fun d hd => ?_, fun hl => ⟨xs, h1, by rw [r.length]; exact hl⟩⟩
  obtain ⟨v, hv, q⟩ := r.get hd
  refine ⟨⟨xs, v, h1, hv⟩, fun x H2 hy => ?_⟩
  obtain ⟨rfl, hx⟩ := hy
  have := hx xs h1
  rw [hv] at this
  cases this
  exact ⟨F1, Ext.refl hs, q.mono sf⟩
theorem seqs_tup {K : PySem.W.Frag} {p : Option Addr} {F : Hp} {a : Addr} {xs : List V} {ds : List D} (h : SqT K F a xs) (r : Dts K p F xs ds) : Seqs K p F (Itt K a) ds := by
  intro H1 F1 ms sf hs i
  have h1 : SqT K H1 a xs := same_t hs.fh (same_t sf h)
  refine ⟨fun d hd => ?_, fun hl => ⟨xs, h1, by rw [r.length]; exact hl⟩⟩
  obtain ⟨v, hv, q⟩ := r.get hd
  refine ⟨⟨xs, v, h1, hv⟩, fun x H2 hy => ?_⟩
  obtain ⟨rfl, hx⟩ := hy
  have := hx xs h1
  rw [hv] at this
  cases this
  exact ⟨F1, Ext.refl hs, q.mono sf⟩
theorem seqs_str {K : PySem.W.Frag} {p : Option Addr} {F : Hp} {x : Str} : Seqs K p F (Its x) (chars x) := by
  intro H1 F1 ms sf hs i
  refine ⟨fun d hd => ?_, fun hl => ?_⟩
  · unfold chars at hd
    rw [List.getElem?_map] at hd
    have hi : i < x.cps.size := by
      cases q : x.cps.toList[i]? with
      | none => rw [q] at hd; cases hd
      | some c => have := (List.getElem?_eq_some_iff.mp q).1; simpa using this
    refine ⟨hi, fun v H2 hy => ?_⟩
    obtain ⟨rfl, c, hc, rfl⟩ := hy
    have : x.cps.toList[i]? = some c := by simpa using hc
    rw [this] at hd
    cases hd
    exact ⟨F1, Ext.refl hs, .str _⟩
  · unfold chars at hl
    rw [List.length_map] at hl
    have hl' : x.cps.size ≤ i := by simpa using hl
    exact hl'
theorem seqs_range {K : PySem.W.Frag} {p : Option Addr} {F : Hp} {lo : Int} {n : Nat} : Seqs K p F (Itr lo n) (rangeD lo n) := by
  intro H1 F1 ms sf hs i
  unfold rangeD
  refine ⟨fun d hd => ?_, fun hl => ?_⟩
  · rw [List.getElem?_map] at hd
    have hi : i < n := by
      cases q : (List.range n)[i]? with
      | none => rw [q] at hd; cases hd
      | some c => have := (List.getElem?_eq_some_iff.mp q).1; simpa using this
    rw [List.getElem?_range hi] at hd
    cases hd
    refine ⟨hi, fun v H2 hy => ?_⟩
    obtain ⟨rfl, rfl⟩ := hy
    exact ⟨F1, Ext.refl hs, .int _⟩
  · have hl' : n ≤ i := by simpa using hl
    exact hl'
section
variable {X : Cx} {W : WX} {e tg iter : Expr} {m : SS → M D}
theorem ji_items (h : JE X W e m) : JI X W tg e (E.its m) := by
  obtain ⟨t, h1, h2⟩ := h
  refine ⟨_, PI.or (pi_list h1) (PI.or (pi_tup h1) (pi_str h1)), fun p B σ ss H F ms Rr s hs po => ?_⟩
  unfold E.its at po
  cases r : m ss ms with
  | bad => rw [r] at po; exact po.elim
  | ex c ms' =>
    rw [r] at po
    exact .inl (h2 p B σ ss H F ms _ s hs (by rw [r]; exact po))
  | ok d ms1 =>
    rw [r] at po
    have k : ∀ Q : VK, (∀ v H' F', Ext p H F H' F' ms1 → Dt X.K p F' v d → Q v H') → t σ H Q := fun Q q => h2 p B σ ss H F ms Q s hs (by rw [r]; exact q)
    match d, po with
    | .lst ds, po =>
      refine .inl (k _ fun v H' F' e1 q => ?_)
      cases q with
      | lst hl rl => exact ⟨_, rfl, ⟨_, same_l e1.hs.fh hl⟩, (Po.ext e1 po : Po X.mg W p σ H' F' (fun F' _ J ds => Seqs X.K p F' J ds) (.ok ds ms1) Rr).ok e1.hs (seqs_list' hl rl)⟩
    | .tup ds, po =>
      refine .inr (.inl (k _ fun v H' F' e1 q => ?_))
      cases q with
      | tup hl rl => exact ⟨_, rfl, ⟨_, same_t e1.hs.fh hl⟩, (Po.ext e1 po : Po X.mg W p σ H' F' (fun F' _ J ds => Seqs X.K p F' J ds) (.ok ds ms1) Rr).ok e1.hs (seqs_tup hl rl)⟩
    | .str x, po =>
      refine .inr (.inr (k _ fun v H' F' e1 q => ?_))
      cases q
      exact ⟨x, rfl, (Po.ext e1 po : Po X.mg W p σ H' F' (fun F' _ J ds => Seqs X.K p F' J ds) (.ok (chars x) ms1) Rr).ok e1.hs seqs_str⟩
    | .non, po => exact po.elim
    | .bl _, po => exact po.elim
    | .int _, po => exact po.elim
    | .dct _ _, po => exact po.elim
    | .pot, po => exact po.elim
    | .fn _, po => exact po.elim
    | .ty _, po => exact po.elim
theorem ji_range1 {a : Expr} {mr : SS → M (List D)} {p0 pos : Pos} (hg : Gl X "range") (hm : X.mg "range" = none) (ha : JA X W [a] mr) (hs : starEach [a] X.env = [(false, eval a X.env)] := by rfl) : JI X W tg (.Call (.Name "range" p0) [a] [] pos) (E.itsA range1 mr) := by
  obtain ⟨t, h1, h2⟩ := ha
  refine ⟨_, pi_range1 hg hm h1 hs, fun p B σ ss H F ms Rr s hs po => ?_⟩
  refine h2 p B σ ss H F ms _ s hs (po.bind fun ds ms1 vs H1 F1 e1 q1 po1 => ?_)
  match ds, q1, po1 with
  | [.int j], .cons q1 .nil, po1 =>
    cases q1
    have po2 : Po X.mg W p σ H1 F1 (fun F' _ J ds => Seqs X.K p F' J ds) (if -(2 ^ 62) ≤ j ∧ j < 2 ^ 62 then R.ok (rangeD 0 j.toNat) ms1 else .bad) Rr := po1
    by_cases hj : -(2 ^ 62) ≤ j ∧ j < 2 ^ 62
    · rw [if_pos hj] at po2
      exact ⟨j, rfl, hj.1, hj.2, po2.ok e1.hs seqs_range⟩
    · rw [if_neg hj] at po2
      exact po2.elim
theorem ji_range2 {a b : Expr} {mr : SS → M (List D)} {p0 pos : Pos} (hg : Gl X "range") (hm : X.mg "range" = none) (ha : JA X W [a, b] mr) (hs : starEach [a, b] X.env = [(false, eval a X.env), (false, eval b X.env)] := by rfl) (hs2 : starEach [b] X.env = [(false, eval b X.env)] := by rfl) :
    JI X W tg (.Call (.Name "range" p0) [a, b] [] pos) (E.itsA range2 mr) := by
  obtain ⟨t, h1, h2⟩ := ha
  refine ⟨_, pi_range2 hg hm h1 hs hs2, fun p B σ ss H F ms Rr s hs po => ?_⟩
  refine h2 p B σ ss H F ms _ s hs (po.bind fun ds ms1 vs H1 F1 e1 q1 po1 => ?_)
  match ds, q1, po1 with
  | [.int i, .int j], .cons q1 (.cons q2 .nil), po1 =>
    cases q1
    cases q2
    have po2 : Po X.mg W p σ H1 F1 (fun F' _ J ds => Seqs X.K p F' J ds) (if -(2 ^ 62) ≤ i ∧ i < 2 ^ 62 ∧ -(2 ^ 62) ≤ j ∧ j < 2 ^ 62 then R.ok (rangeD i (j - i).toNat) ms1 else .bad) Rr := po1
    by_cases hj : -(2 ^ 62) ≤ i ∧ i < 2 ^ 62 ∧ -(2 ^ 62) ≤ j ∧ j < 2 ^ 62
    · rw [if_pos hj] at po2
      exact ⟨i, j, rfl, hj, po2.ok e1.hs seqs_range⟩
    · rw [if_neg hj] at po2
      exact po2.elim
end

/-! ### targets -/
abbrev G := D → SS → Option SS
def JG (X : Cx) (tg : Expr) (is : List Nat) (g : G) : Prop := ∃ gt, PG X tg gt ∧ ∀ (p : Option Addr) (B F H : Hp) (σ : L2.St) (ss ss' : SS) (v : V) (d : D) (ms : MS) (Q : L2.St → Hp → Prop),
  Sl X.K p B F H σ ss → Hs p F H ms → Dt X.K p F v d → g d ss = some ss' → (∀ σ', Sl X.K p B F H σ' ss' → (∀ vs : List Nat, (∀ i ∈ is, i ∈ vs) → wipe σ' vs = wipe σ vs) → Q σ' H) → gt v σ H Q
def g1 (i : Nat) : G := fun d ss => some (ss.set i (some (.dat d)))
def gsL : List G → List D → SS → Option SS
  | [], [], ss => some ss
  | g :: gs, d :: ds, ss => (g d ss).bind (gsL gs ds)
  | _, _, _ => none
def gT (gs : List G) : G := fun d ss => match d with
  | .tup ds => gsL gs ds ss
  | _ => none
def JGs (X : Cx) (tgs : List Expr) (is : List Nat) (gs : List G) : Prop := ∃ gt, PGs X tgs gt ∧ ∀ (p : Option Addr) (B F H : Hp) (σ : L2.St) (ss ss' : SS) (vs : List V) (ds : List D) (ms : MS) (Q : L2.St → Hp → Prop),
  Sl X.K p B F H σ ss → Hs p F H ms → Dts X.K p F vs ds → gsL gs ds ss = some ss' → (∀ σ', Sl X.K p B F H σ' ss' → (∀ vs : List Nat, (∀ i ∈ is, i ∈ vs) → wipe σ' vs = wipe σ vs) → Q σ' H) → gt vs σ H Q
theorem set_get {α : Type} {l : List α} {i j : Nat} {x : α} : (l.set i x)[j]? = if i = j then (if i < l.length then some x else none) else l[j]? := by
  by_cases h : i = j
  · subst h
    rw [if_pos rfl]
    by_cases hl : i < l.length
    · rw [if_pos hl, List.getElem?_set_self hl]
    · rw [if_neg hl]
      exact List.getElem?_eq_none_iff.mpr (by rw [List.length_set]; omega)
  · rw [if_neg h, List.getElem?_set_ne h]
theorem wipe_get (σ : L2.St) : ∀ (vs : List Nat) (j : Nat), (wipe σ vs)[j]? = if j ∈ vs then (if j < σ.length then some none else none) else σ[j]?
  | [], j => by simp [wipe]
  | v :: vs, j => by
    unfold wipe
    rw [set_get, wipe_length, wipe_get σ vs j]
    by_cases h : v = j
    · subst h
      simp
    · rw [if_neg h]
      have : (j ∈ v :: vs) = (j ∈ vs) := by simp [Ne.symm h]
      simp only [this]
theorem wipe_set {σ : L2.St} {i : Nat} {x : Option V} {vs : List Nat} (h : i ∈ vs) : wipe (σ.set i x) vs = wipe σ vs := by
  refine List.ext_getElem? fun j => ?_
  rw [wipe_get, wipe_get, List.length_set, set_get]
  by_cases hj : j ∈ vs
  · rw [if_pos hj, if_pos hj]
  · rw [if_neg hj, if_neg hj, if_neg (show ¬ i = j from fun e => hj (e ▸ h))]
section
variable {X : Cx} {tg : Expr} {tgs : List Expr} {is js : List Nat} {g : G} {gs : List G}
theorem jg_name {i : Nat} {x : Str} {pos : Pos} (hN : X.N.Nodup) (hi : X.N[i]? = some x := by rfl) (hx : Loc X.env.scope x := by first | exact Or.inl rfl | exact Or.inr rfl) (hf : X.fn x = true ∨ X.env.scope.names.lookup x = some .local := by first | exact .inl rfl | exact .inr rfl) :
    JG X (.Name x pos) [i] (g1 i) := by
  refine ⟨_, pg_name hN hi hx hf, fun p B F H σ ss ss' v d ms Q s hs q e k => ?_⟩
  cases e
  exact k _ (s.set q) fun vs h => wipe_set (h i (by simp))
theorem jgs_nil : JGs X [] [] [] := by
  refine ⟨_, pgs_nil, fun p B F H σ ss ss' vs ds ms Q s hs q e k => ?_⟩
  cases q with
  | nil =>
    cases e
    exact ⟨rfl, k σ s fun _ _ => rfl⟩
  | cons _ _ => cases e
theorem jgs_cons (h1 : JG X tg is g) (h2 : JGs X tgs js gs) (hs : (assignEach (tg :: tgs) X.env).map (·.2) = assign tg X.env :: (assignEach tgs X.env).map (·.2) := by rfl) : JGs X (tg :: tgs) (is ++ js) (g :: gs) := by
  obtain ⟨t, h1, h3⟩ := h1
  obtain ⟨u, h2, h4⟩ := h2
  refine ⟨_, pgs_cons h1 h2 hs, fun p B F H σ ss ss' vs ds ms Q s hs q e k => ?_⟩
  cases q with
  | nil => cases e
  | cons q r =>
    unfold gsL at e
    rename_i d ds
    cases e1 : g d ss with
    | none => rw [e1] at e; cases e
    | some ss1 =>
      rw [e1] at e
      refine ⟨_, _, rfl, h3 p B F H σ ss ss1 _ d ms _ s hs q e1 fun σ1 s1 w1 => ?_⟩
      refine h4 p B F H σ1 ss1 ss' _ ds ms _ s1 hs r e fun σ2 s2 w2 => ?_
      exact k σ2 s2 fun vs h => (w2 vs fun i hi => h i (List.mem_append_right _ hi)).trans (w1 vs fun i hi => h i (List.mem_append_left _ hi))
theorem gsL_len : ∀ {gs : List G} {ds : List D} {ss ss' : SS}, gsL gs ds ss = some ss' → ds.length = gs.length
  | [], [], _, _, _ => rfl
  | g :: gs, d :: ds, ss, ss', e => by
    unfold gsL at e
    cases e1 : g d ss with
    | none => rw [e1] at e; cases e
    | some ss1 =>
      rw [e1] at e
      exact congrArg (· + 1) (gsL_len (gs := gs) (ds := ds) e)
  | [], _ :: _, _, _, e => by cases e
  | _ :: _, [], _, _, e => by cases e
theorem jg_tup {k : Nat} {pos : Pos} (h : JGs X tgs is gs) (hc : X.calm = true := by rfl) (hn : (assignEach tgs X.env).length = gs.length := by rfl) (hst : (assignEach tgs X.env).findIdx? (·.1) = none := by rfl) : JG X (.Tuple tgs k pos) is (gT gs) := by
  obtain ⟨t, h1, h2⟩ := h
  refine ⟨_, pg_tup hc h1 hn hst, fun p B F H σ ss ss' v d ms Q s hs q e k => ?_⟩
  cases d with
  | tup ds =>
    cases q with
    | tup hq r =>
      have e' : gsL gs ds ss = some ss' := e
      exact ⟨_, _, rfl, same_t hs.fh hq, by rw [r.length]; exact gsL_len e', h2 p B F H σ ss ss' _ ds ms Q s hs r e' k⟩
  | _ => cases e
end

/-! ### a target that is no plain name is assigned -/
namespace S
def asg (g : G) (m : SS → M D) : SS → MS → O := fun ss ms => (m ss ms).o ss fun d ms1 => match g d ss with
  | some ss1 => .nx ss1 ms1
  | none => .bad
/-- a loop over items -/
def forL (g : G) (b : SS → MS → O) : List D → SS → MS → O
  | [], ss, ms => .nx ss ms
  | d :: r, ss, ms => match g d ss with
    | none => .bad
    | some ss1 => match b ss1 ms with
      | .nx ss2 ms2 => forL g b r ss2 ms2
      | .ct ss2 ms2 => forL g b r ss2 ms2
      | .bk ss2 ms2 => .nx ss2 ms2
      | .rt d ms2 => .rt d ms2
      | .ex c ss2 ms2 => .ex c ss2 ms2
      | .bad => .bad
def for_ (m : SS → M (List D)) (g : G) (b : SS → MS → O) : SS → MS → O := fun ss ms => (m ss ms).o ss fun ds ms1 => forL g b ds ss ms1
end S
theorem Ext.re {p : Option Addr} {B F0 H F : Hp} {ms : MS} (e : Ext p B F0 H F ms) : Ext p B F H F ms := ⟨Same.refl F, fun _ _ _ q => q, e.kp, e.hs⟩
theorem Ext.co {p : Option Addr} {B F0 H F H' F' : Hp} {ms ms' : MS} (e : Ext p B F0 H F ms) (e' : Ext p B F H' F' ms') : Ext p B F0 H' F' ms' :=
  ⟨e.ff.trans e'.ff, fun b o h q => e'.nf b o h (e.nf b o h q), e'.kp, e'.hs⟩
theorem Fm.co {K : PySem.W.Frag} {p : Option Addr} {B F0 F H F' H' : Hp} {σ' : L2.St} {ss' : SS} {ms ms' : MS} (f : Fm K p B F F' H' σ' ss' ms') (e : Ext p B F0 H F ms) : Fm K p B F0 F' H' σ' ss' ms' := ⟨f.sl, e.co f.ex⟩
section
variable {X : Cx} {W : WX} {tg e iter : Expr} {is : List Nat} {g : G} {ma : SS → M D} {pos : Pos} {body : List Stmt} {mb : SS → MS → O}
theorem js_asg (h : JE X W e ma) (hg : JG X tg is g) (hs : swapsWithSole [tg] e pos.line X.env = pure false := by rfl) (hw : swappedStores [tg] e X.env = pure none := by rfl) (ho : List.map (fun x => x.2) (assignEach [tg] X.env) = [assign tg X.env] := by rfl) : JS X W (.Assign [tg] e pos) (S.asg g ma) := by
  obtain ⟨t, h1, h2⟩ := h
  obtain ⟨u, h3, h4⟩ := hg
  refine ⟨_, ps_asg h1 h3 hs hw ho, fun p B F0 σ ss H F ms En fm po => ?_⟩
  refine h2 p B σ ss H F ms _ fm.sl fm.ex.hs (fm.po po fun x ms1 v H1 F1 fm1 _ q po1 => ?_)
  cases e1 : g x ss with
  | none => rw [e1] at po1; exact po1.elim
  | some ss1 =>
    rw [e1] at po1
    exact h4 p B F1 H1 σ ss ss1 v x ms1 _ fm1.sl fm1.ex.hs q e1 fun σ' s' _ => po1 σ' H1 F1 ⟨s', fm1.ex⟩
theorem js_for {mi : SS → M (List D)} (hp : PassesOwn (model X.prog X.w) X.A X.env X.xe) (hi : JI X W tg iter mi) (hg : JG X tg is g) (hb : JSs X W body mb) (hc : X.calm = true := by rfl) (hs : ∀ x, foldedSetIterable iter X.env x = pure x := by intro _; rfl) :
    JS X W (.For tg iter body [] pos) (S.for_ mi g mb) := by
  obtain ⟨wi, h1, h2⟩ := hi
  obtain ⟨gt, h3, h4⟩ := hg
  obtain ⟨t, h5, h6⟩ := hb
  refine ⟨_, ps_for hp hc h1 h3 h5 hs, fun p B F0 σ ss H F ms En fm po => ?_⟩
  refine h2 p B σ ss H F ms _ fm.sl fm.ex.hs (fm.po po fun ds ms1 J H1 F1 fm1 _ q po1 => ?_)
  refine ⟨fun i m σ H => m = ds.length - i ∧ i ≤ ds.length ∧ ∃ F ss ms, Fm X.K p B F0 F H σ ss ms ∧ Same F1 F ∧ PoS X.K X.mg W p B F0 (S.forL g mb (ds.drop i) ss ms) En, ⟨ds.length, by simp, Nat.zero_le _, F1, ss, ms1, fm1, Same.refl _, po1⟩, ?_⟩
  rintro i m σ H ⟨rfl, hi, F, ss, ms, fm, sf, po⟩
  obtain ⟨sg, st⟩ := q H F ms sf fm.ex.hs i
  by_cases hlt : i < ds.length
  · right
    have hd : ds[i]? = some ds[i] := List.getElem?_eq_getElem hlt
    rw [List.drop_eq_getElem_cons hlt] at po
    obtain ⟨go, yl⟩ := sg _ hd
    refine ⟨go, fun σ' H' => i + 1 ≤ ds.length ∧ ∃ F ss ms, Fm X.K p B F0 F H' σ' ss ms ∧ Same F1 F ∧ PoS X.K X.mg W p B F0 (S.forL g mb (ds.drop (i + 1)) ss ms) En, fun σ' H' h => ⟨_, by omega, rfl, h⟩, fun x H' hy => ?_⟩
    obtain ⟨F2, e2, q2⟩ := yl x H' hy
    unfold S.forL at po
    cases eg : g ds[i] ss with
    | none => rw [eg] at po; exact po.elim
    | some ss1 =>
      rw [eg] at po
      refine h4 p B F2 H' σ ss ss1 x _ ms _ (fm.sl.ext e2) e2.hs q2 eg fun σ' s' _ => ?_
      have ex2 := fm.ex.trans e2
      refine h6 p B F2 σ' ss1 H' F2 ms _ ⟨s', ex2.re⟩ ?_
      have sf2 : Same F1 F2 := sf.trans e2.ff
      have po' : PoS X.K X.mg W p B F0 (match mb ss1 ms with
        | .nx ss2 ms2 => S.forL g mb (ds.drop (i + 1)) ss2 ms2
        | .ct ss2 ms2 => S.forL g mb (ds.drop (i + 1)) ss2 ms2
        | .bk ss2 ms2 => .nx ss2 ms2
        | .rt d ms2 => .rt d ms2
        | .ex c ss2 ms2 => .ex c ss2 ms2
        | .bad => .bad) En := po
      cases r : mb ss1 ms with
      | nx ss2 ms2 => rw [r] at po'; exact fun σ3 H3 F3 f3 => ⟨hlt, F3, ss2, ms2, f3.co ex2, sf2.trans f3.ex.ff, po'⟩
      | ct ss2 ms2 => rw [r] at po'; exact fun σ3 H3 F3 f3 => ⟨hlt, F3, ss2, ms2, f3.co ex2, sf2.trans f3.ex.ff, po'⟩
      | bk ss2 ms2 => rw [r] at po'; exact fun σ3 H3 F3 f3 => po' σ3 H3 F3 (f3.co ex2)
      | rt d ms2 => rw [r] at po'; exact fun v H3 F3 e3 q3 => po' v H3 F3 (ex2.co e3) q3
      | ex c ss2 ms2 => rw [r] at po'; exact fun u hu σ3 H3 F3 f3 => po' u hu σ3 H3 F3 (f3.co ex2)
      | bad => rw [r] at po'; exact po'.elim
  · left
    have hl : ds.length ≤ i := by omega
    refine ⟨st hl, ?_⟩
    rw [List.drop_eq_nil_of_le hl] at po
    exact po σ H F fm
end

/-! ### list comprehensions -/
def wipeS (ss : SS) : List Nat → SS
  | [] => ss
  | v :: vs => (wipeS ss vs).set v none
theorem wipeS_length (ss : SS) : ∀ vs : List Nat, (wipeS ss vs).length = ss.length
  | [] => rfl
  | v :: vs => by unfold wipeS; rw [List.length_set, wipeS_length ss vs]
theorem wipeS_get (ss : SS) : ∀ (vs : List Nat) (j : Nat), (wipeS ss vs)[j]? = if j ∈ vs then (if j < ss.length then some none else none) else ss[j]?
  | [], j => by simp [wipeS]
  | v :: vs, j => by
    unfold wipeS
    rw [set_get, wipeS_length, wipeS_get ss vs j]
    by_cases h : v = j
    · subst h
      simp
    · rw [if_neg h]
      have : (j ∈ v :: vs) = (j ∈ vs) := by simp [Ne.symm h]
      simp only [this]
theorem Sl.wipe {K : PySem.W.Frag} {p : Option Addr} {B F H : Hp} {σ : L2.St} {ss : SS} (s : Sl K p B F H σ ss) (vs : List Nat) : Sl K p B F H (L2.wipe σ vs) (wipeS ss vs) := by
  refine ⟨by rw [wipe_length, wipeS_length]; exact s.len, fun i sv v h1 h2 => ?_, fun i j a ds es h1 h2 h3 h4 => ?_⟩
  · rw [wipeS_get] at h1
    rw [wipe_get] at h2
    by_cases hi : i ∈ vs
    · rw [if_pos hi] at h1 h2
      by_cases hl : i < ss.length
      · rw [if_pos hl] at h1
        cases h1
        trivial
      · rw [if_neg hl] at h1
        cases h1
    · rw [if_neg hi] at h1 h2
      exact s.ok i sv v h1 h2
  · rw [wipeS_get] at h1 h2
    rw [wipe_get] at h3 h4
    by_cases hi : i ∈ vs
    · rw [if_pos hi] at h1
      split at h1 <;> cases h1
    · rw [if_neg hi] at h1 h3
      by_cases hj : j ∈ vs
      · rw [if_pos hj] at h2
        split at h2 <;> cases h2
      · rw [if_neg hj] at h2 h4
        exact s.ap i j a ds es h1 h2 h3 h4
namespace E
def lcRun (g : G) (t : SS → M Bool) (e : SS → M D) (ss : SS) : List D → List D → M (List D)
  | [], acc, ms => .ok acc ms
  | d :: r, acc, ms => match g d ss with
    | none => .bad
    | some ss1 => match t ss1 ms with
      | .ok true ms1 => match e ss1 ms1 with
        | .ok y ms2 => if acc.length < 100000 then lcRun g t e ss r (acc ++ [y]) ms2 else .bad
        | _ => .bad
      | .ok false ms1 => lcRun g t e ss r acc ms1
      | _ => .bad
def yes : SS → M Bool := fun _ ms => .ok true ms
def lc (vs : List Nat) (m : SS → M (List D)) (g : G) (t : SS → M Bool) (e : SS → M D) : SS → M D := fun ss ms => (m ss ms).bind fun ds ms1 => (lcRun g t e (wipeS ss vs) ds [] ms1).bind fun ys ms2 => .ok (.lst ys) ms2
end E
abbrev W0 : WX := fun _ _ _ _ => False
/-- the blocks in which a comprehension's parts stand -/
abbrev Blk (X : Cx) (scope : Scope) (P : Cx → Prop) : Prop := ∀ (s : Shared) (H : Hp) (C : Addr) (cl : List (Str × Addr)) (fp : List Addr), P (X.blk s H scope (compEnvC scope cl C X.env) fp)
section
variable {X : Cx} {W : WX} {tg elt iter c : Expr} {ifs : List Expr} {is : List Nat} {g : G} {mi : SS → M (List D)} {mt : SS → M Bool} {me : SS → M D} {pos : Pos} {scope : Scope} {own : List (Str × Nat)}
def rdG (K : PySem.W.Frag) (is : List Nat) (g : G) : TG := fun v σ H Q => ∃ (p : Option Addr) (B F : Hp) (ss ss' : SS) (d : D) (ms : MS), Sl K p B F H σ ss ∧ Hs p F H ms ∧ Dt K p F v d ∧ g d ss = some ss' ∧
  ∀ σ', Sl K p B F H σ' ss' → (∀ vs : List Nat, (∀ i ∈ is, i ∈ vs) → wipe σ' vs = wipe σ vs) → Q σ' H
theorem JG.pg (h : JG X tg is g) : PG X tg (rdG X.K is g) := by
  obtain ⟨t, h1, h2⟩ := h
  exact ⟨fun pins s σ H v u Q I r ⟨p, B, F, ss, ss', d, ms, sl, hs, q, e, k⟩ => h1.run pins s σ H v u Q I r (h2 p B F H σ ss ss' v d ms Q sl hs q e k)⟩
/-- the tests: none, or one -/
def JTs (X : Cx) (ifs : List Expr) (m : SS → M Bool) : Prop := PTs X ifs (rdT X.K X.mg W0 m)
theorem jts_nil : JTs X [] E.yes := ⟨fun pins s σ H Q I ⟨p, B, ss, F, ms, sl, hs, po⟩ => pts_nil.run pins s σ H Q I (po.ok hs rfl)⟩
theorem jts_one (h : JT X W0 c mt) : JTs X [c] mt := pts_one h.pt
theorem lc_ok {p : Option Addr} {B : Hp} {σ : L2.St} {ss : SS} {H F : Hp} {ms : MS} {Q : VK} {K : PySem.W.Frag} {mg : Str → Option Value} {J : It} {ds : List D} (vs : List Nat) (hv : ∀ i ∈ is, i ∈ vs) (s : Sl K p B F H σ ss) (hs : Hs p F H ms) (q : Seqs K p F J ds)
    {H0 : Hp} (h0 : ∀ b, H b = none → H0 b = none) (po : Po mg W p σ H F (relN K p H0) ((E.lcRun g mt me (wipeS ss vs) ds [] ms).bind fun ys ms2 => .ok (.lst ys) ms2) Q) :
    ∀ Dd, H Dd = none → ∃ Wm : Nat → Nat → Hp → Prop, (∃ m, Wm 0 m (upd H Dd (.lst []))) ∧ ∀ i m H, Wm i m H →
      (J.stop i H ∧ Q (.ref Dd) H) ∨ (J.go i H ∧ ∃ Nx : Hp → Prop, (∀ H', Nx H' → ∃ m', m' < m ∧ Wm (i + 1) m' H') ∧ ∀ x H', J.yld i H x H' → rdG K is g x (wipe σ vs) H' fun σ2 H2 => wipe σ2 vs = wipe σ vs ∧ rdT K mg W0 mt σ2 H2 fun b H3 =>
        if b = true then rdE K mg W0 me σ2 H3 fun y H4 => ∃ acc, H4 Dd = some (.lst acc) ∧ acc.length < sizeLine ∧ Nx (upd H4 Dd (.lst (acc ++ [y]))) else Nx H3) := by
  intro Dd hD
  have fD : F Dd = none := by
    cases e : F Dd with
    | none => rfl
    | some u => rw [hs.fh _ u e] at hD; cases hD
  have pD : p ≠ some Dd := fun z => by
    have := hs.pot Dd z
    rw [hD] at this
    cases this
  -- between two turns
  let I : Nat → Hp → Prop := fun i H1 => ∃ F1 ms1 accV accD, Ext p H F H1 F1 ms1 ∧ H1 Dd = some (.lst accV) ∧ F1 Dd = none ∧ Dts K p F1 accV accD ∧ accD.length ≤ 100000 ∧
    Po mg W p σ H F (relN K p H0) ((E.lcRun g mt me (wipeS ss vs) (ds.drop i) accD ms1).bind fun ys ms2 => .ok (.lst ys) ms2) Q
  have start : I 0 (upd H Dd (.lst [])) := by
    obtain ⟨e0, _, _⟩ := Ext.lay (o := .lst []) hs hD
    exact ⟨F, ms, [], [], e0, upd_same, fD, .nil, by simp, po⟩
  refine ⟨fun i m H => m = ds.length - i ∧ i ≤ ds.length ∧ I i H, ⟨ds.length, by simp, Nat.zero_le _, start⟩, ?_⟩
  rintro i m H1 ⟨rfl, hi, F1, ms1, accV, accD, e1, hacc, fD1, qa, hz, po1⟩
  obtain ⟨sg, st⟩ := q H1 F1 ms1 e1.ff e1.hs i
  by_cases hlt : i < ds.length
  · right
    have hd : ds[i]? = some ds[i] := List.getElem?_eq_getElem hlt
    rw [List.drop_eq_getElem_cons hlt] at po1
    obtain ⟨go, yl⟩ := sg _ hd
    refine ⟨go, fun H' => i + 1 ≤ ds.length ∧ I (i + 1) H', fun H' h => ⟨_, by omega, rfl, h⟩, fun x H2 hy => ?_⟩
    obtain ⟨F2, e2, q2⟩ := yl x H2 hy
    unfold E.lcRun at po1
    cases eg : g ds[i] (wipeS ss vs) with
    | none => rw [eg] at po1; exact po1.elim
    | some ss1 =>
      rw [eg] at po1
      refine ⟨p, B, F2, wipeS ss vs, ss1, ds[i], ms1, ((s.ext e1).ext e2).wipe vs, e2.hs, q2, eg, fun σ2 s2 w2 => ⟨?_, ?_⟩⟩
      · have := w2 vs hv
        rw [this]
        refine List.ext_getElem? fun j => ?_
        rw [wipe_get, wipe_get, wipe_length]
        split <;> rfl
      refine ⟨p, B, ss1, F2, ms1, s2, e2.hs, ?_⟩
      cases rt : mt ss1 ms1 with
      | bad => simp only [rt] at po1; exact po1.elim
      | ex c ms2 => simp only [rt] at po1; exact po1.elim
      | ok b ms2 =>
        intro b' H3 F3 e3 hb
        cases hb
        have e13 := (e1.trans e2).trans e3
        cases b with
        | false =>
          simp only [rt] at po1
          rw [if_neg Bool.false_ne_true]
          exact ⟨hlt, F3, ms2, accV, accD, e13, (e2.trans e3).kp _ _ hacc pD, (e2.trans e3).nf _ _ hacc fD1, qa.mono (e2.trans e3).ff, hz, po1⟩
        | true =>
          rw [if_pos rfl]
          refine ⟨p, B, ss1, F3, ms2, s2.ext e3, e3.hs, ?_⟩
          cases re : me ss1 ms2 with
          | bad => simp only [rt, re] at po1; exact po1.elim
          | ex c ms3 => simp only [rt, re] at po1; exact po1.elim
          | ok y ms3 =>
            simp only [rt, re] at po1
            intro v H4 F4 e4 qy
            have e24 := (e2.trans e3).trans e4
            have hD4 := e24.kp _ _ hacc pD
            have fD4 := e24.nf _ _ hacc fD1
            by_cases hl : accD.length < 100000
            · rw [if_pos hl] at po1
              refine ⟨accV, hD4, by rw [qa.length]; exact sz5lt hl, hlt, F4, ms3, accV ++ [v], accD ++ [y], ?_, upd_same, fD4, (qa.mono e24.ff).snoc qy, by rw [List.length_append]; simp; omega, ?_⟩
              · exact (e1.trans e24).chg fD4 hD pD
              · exact po1
            · rw [if_neg hl] at po1
              exact po1.elim
  · left
    have hl : ds.length ≤ i := by omega
    refine ⟨st hl, ?_⟩
    rw [List.drop_eq_nil_of_le hl] at po1
    have po2 : Po mg W p σ H F (relN K p H0) (.ok (.lst accD) ms1) Q := po1
    exact po2 _ _ _ e1 ⟨Dd, accV, accD, rfl, rfl, h0 _ hD, pD, hacc, fD1, qa⟩
theorem jn_lc (hN : X.N.Nodup) (hi : JI X W tg iter mi) (ok : BlkOk X.N X.env.scope scope own) (hg : Blk X scope fun Y => JG Y tg is g) (ht : ∀ (s : Shared) (H : Hp) (C : Addr) (cl : List (Str × Addr)) (fp : List Addr), JTs (X.blk s H scope (compEnvC scope cl C X.env) fp) ifs mt)
    (he : Blk X scope fun Y => JE Y W0 elt me) (hv : ∀ i ∈ is, i ∈ own.map (·.2)) (hc : X.calm = true := by rfl) (hs : ∀ x, foldedSetIterable iter X.env x = pure x := by intro _; rfl) :
    JN X W (.ListComp elt [⟨tg, iter, ifs, 0⟩] scope pos) (E.lc (own.map (·.2)) mi g mt me) := by
  obtain ⟨wi, h1, h2⟩ := hi
  refine ⟨_, pe_lc (g := rdG X.K is g) (tt := rdT X.K X.mg W0 mt) (te := rdE X.K X.mg W0 me) hc hN h1 ok (fun s H C cl fp => (hg s H C cl fp).pg) (fun s H C cl fp => ht s H C cl fp) (fun s H C cl fp => (he s H C cl fp).pe) hs, fun p B σ ss H F ms Q s hs po => ?_⟩
  refine h2 p B σ ss H F ms _ s hs (po.bind fun ds ms1 J H1 F1 e1 q1 po1 => ?_)
  exact lc_ok _ hv (s.ext e1) e1.hs q1 (fun _ => e1.back) po1
/-- y = [..] of one line -/
theorem js_setLc {i : Nat} {y : Str} {py spos : Pos} (hN : X.N.Nodup) (hi : JI X W tg iter mi) (ok : BlkOk X.N X.env.scope scope own) (hg : Blk X scope fun Y => JG Y tg is g) (ht : ∀ (s : Shared) (H : Hp) (C : Addr) (cl : List (Str × Addr)) (fp : List Addr), JTs (X.blk s H scope (compEnvC scope cl C X.env) fp) ifs mt)
    (he : Blk X scope fun Y => JE Y W0 elt me) (hv : ∀ i ∈ is, i ∈ own.map (·.2)) (hsw : swapsWith (.ListComp elt [⟨tg, iter, ifs, 0⟩] scope pos) (some (.Name y py)) spos.line X.env = pure true) (hy : X.N[i]? = some y := by rfl) (hyl : X.env.scope.names.lookup y = some .local := by rfl) (hc : X.calm = true := by rfl)
    (hs : ∀ x, foldedSetIterable iter X.env x = pure x := by intro _; rfl) :
    JS X W (.Assign [.Name y py] (.ListComp elt [⟨tg, iter, ifs, 0⟩] scope pos) spos) (S.set i (E.lc (own.map (·.2)) mi g mt me)) := by
  obtain ⟨wi, h1, h2⟩ := hi
  refine ⟨_, ps_setLc (g := rdG X.K is g) (tt := rdT X.K X.mg W0 mt) (te := rdE X.K X.mg W0 me) hc hN hy hyl hsw h1 ok (fun s H C cl fp => (hg s H C cl fp).pg) (fun s H C cl fp => ht s H C cl fp) (fun s H C cl fp => (he s H C cl fp).pe) hs, fun p B F0 σ ss H F ms En fm po => ?_⟩
  unfold S.set E.lc at po
  cases r : mi ss ms with
  | bad => rw [r] at po; exact po.elim
  | ex c ms1 =>
    rw [r] at po
    refine h2 p B σ ss H F ms _ fm.sl fm.ex.hs ?_
    rw [r]
    exact fun u hu H1 F1 e1 => po u hu σ H1 F1 ⟨fm.sl.ext e1, fm.ex.trans e1⟩
  | ok ds ms1 =>
    rw [r] at po
    refine h2 p B σ ss H F ms _ fm.sl fm.ex.hs ?_
    rw [r]
    intro J H1 F1 e1 q1
    have fm1 : Fm X.K p B F0 F1 H1 σ ss ms1 := ⟨fm.sl.ext e1, fm.ex.trans e1⟩
    refine lc_ok (W := W) (mg := X.mg) (H0 := H1) (Q := fun x H1 => gName i x σ H1 En.nx) (g := g) (mt := mt) (me := me) _ hv fm1.sl e1.hs q1 (fun _ h => h) ?_
    refine fm1.po po fun x ms2 v H2 F2 fm2 e2 q2 po2 => ?_
    obtain ⟨a, xs, zs, rfl, rfl, ha, n, h', f', q2⟩ := q2
    have e3 := e2.frz ha h' f' n
    exact po2 _ H2 _ ⟨(fm1.sl.ext e3).set (.lst (SqL.of upd_same) (q2.mono (same_upd f'))), fm1.ex.trans e3⟩
end
end Q

set_option Elab.async false
set_option linter.all false
set_option maxRecDepth 100000
set_option maxHeartbeats 4000000
/-! Qe: operators, built-in functions, subscripts, own lists. -/
namespace Q
open PySem L2 PyProof.Rows

section
variable {X : Cx} {W : WX}
theorem Bw.i {K : PySem.W.Frag} {p : Option Addr} {F H : Hp} {x : V} {i : Int} (h : Bw K p F H x (.int i)) : x = .int i := by
  cases h with
  | fz h => cases h; rfl
theorem Bw.s {K : PySem.W.Frag} {p : Option Addr} {F H : Hp} {x : V} {i : Str} (h : Bw K p F H x (.str i)) : x = .str i := by
  cases h with
  | fz h => cases h; rfl
theorem Bw.b {K : PySem.W.Frag} {p : Option Addr} {F H : Hp} {x : V} {i : Bool} (h : Bw K p F H x (.bl i)) : x = .bl i := by
  cases h with
  | fz h => cases h; rfl
theorem Bw.l {K : PySem.W.Frag} {p : Option Addr} {F H : Hp} {ms : MS} {x : V} {ds : List D} (hs : Hs p F H ms) (h : Bw K p F H x (.lst ds)) : ∃ a xs, x = .ref a ∧ SqL K H a xs ∧ Dts K p F xs ds := by
  cases h with
  | fz h => cases h with
    | lst h r => exact ⟨_, _, rfl, same_l hs.fh h, r⟩
  | own h n r => exact ⟨_, _, rfl, SqL.of h, r⟩
theorem Bw.t {K : PySem.W.Frag} {p : Option Addr} {F H : Hp} {ms : MS} {x : V} {ds : List D} (hs : Hs p F H ms) (h : Bw K p F H x (.tup ds)) : ∃ a xs, x = .ref a ∧ SqT K H a xs ∧ SqT K F a xs ∧ Dts K p F xs ds := by
  cases h with
  | fz h => cases h with
    | tup h r => exact ⟨_, _, rfl, same_t hs.fh h, h, r⟩

theorem inv2 {g : D → D → M D} (P : D → D → Prop) (h : ∀ dx dy ms, P dx dy ∨ g dx dy ms = .bad) {mg : Str → Option Value} {p : Option Addr} {σ : L2.St} {H F : Hp} {rel : Hp → Hp → V → D → Prop} {dx dy : D} {ms : MS} {Q : VK} (po : Po mg W p σ H F rel (g dx dy ms) Q) : P dx dy := by
  rcases h dx dy ms with q | q
  · exact q
  · rw [q] at po; exact po.elim
/-! ### ints -/
def gI (c : Int → Int → Bool) (h : Int → Int → Int) : D → D → M D
  | .int i, .int j => fun ms => if c i j = true then .ok (.int (h i j)) ms else .bad
  | _, _ => fun _ => .bad
def gC (h : Int → Int → Bool) : D → D → M D
  | .int i, .int j => fun ms => .ok (.bl (h i j)) ms
  | _, _ => fun _ => .bad
theorem gI_inv {c : Int → Int → Bool} {h : Int → Int → Int} : ∀ dx dy ms, (∃ i j, dx = .int i ∧ dy = .int j) ∨ gI c h dx dy ms = .bad := by
  intro dx dy ms
  cases dx with
  | int i => cases dy with
    | int j => exact .inl ⟨_, _, rfl, rfl⟩
    | _ => exact .inr rfl
  | _ => exact .inr rfl
theorem gC_inv {h : Int → Int → Bool} : ∀ dx dy ms, (∃ i j, dx = .int i ∧ dy = .int j) ∨ gC h dx dy ms = .bad := by
  intro dx dy ms
  cases dx with
  | int i => cases dy with
    | int j => exact .inl ⟨_, _, rfl, rfl⟩
    | _ => exact .inr rfl
  | _ => exact .inr rfl
theorem opok_I {f : Value → Value → Sem Value} {C : Int → Int → Prop} {c : Int → Int → Bool} {h : Int → Int → Int} (o : OpR X f (rI C fun i j => .int (h i j))) (hc : ∀ i j, c i j = true → C i j) : OpOk X f (gI c h) := by
  refine ⟨_, o, fun W p σ H F ms x y dx dy Q hs bx bY po => ?_⟩
  obtain ⟨i, j, rfl, rfl⟩ := inv2 _ gI_inv po
  ·
    have po' : Po X.mg W p σ H F (relD X.K p) (if c i j = true then R.ok (.int (h i j)) ms else .bad) Q := po
    by_cases q : c i j = true
    · rw [if_pos q] at po'
      exact ⟨i, j, bx.i, bY.i, hc i j q, po'.ok hs (.int _)⟩
    · rw [if_neg q] at po'
      exact po'.elim
theorem opok_C {f : Value → Value → Sem Value} {h : Int → Int → Bool} (o : OpR X f (rI0 fun i j => .bl (h i j))) : OpOk X f (gC h) := by
  refine ⟨_, o, fun W p σ H F ms x y dx dy Q hs bx bY po => ?_⟩
  obtain ⟨i, j, rfl, rfl⟩ := inv2 _ gC_inv po
  · exact ⟨i, j, bx.i, bY.i, Po.ok (x := D.bl (h i j)) po hs (.bl _)⟩
abbrev c1 : Int → Int → Bool := fun _ _ => true
theorem op_pow2 : OpR X (binaryOp .Pow) (rI (fun i j => 0 ≤ j ∧ (Builtin.Int.intBits i : Int) * j ≤ 2 ^ 27) fun i j => .int (i ^ j.toNat)) := opI fun _ _ _ _ _ _ _ hc q => pow_int hc.1 hc.2 q
theorem rI0I {f : Value → Value → Sem Value} {h : Int → Int → V} (o : OpR X f (rI0 h)) : OpR X f (rI (fun _ _ => True) h) := by
  intro pins s σ H x y v u Q I rx ry hh
  obtain ⟨i, j, h1, h2, _, q⟩ := hh
  exact o pins s σ H x y v u Q I rx ry ⟨i, j, h1, h2, q⟩
def gSub := gI c1 (· - ·)
theorem ok_sub : OpOk X (binaryOp .Sub) gSub := opok_I (C := fun _ _ => True) (rI0I op_sub) fun _ _ _ => trivial
def cMod : Int → Int → Bool := fun _ j => decide (0 < j)
def gMod := gI cMod (· % ·)
theorem ok_mod : OpOk X (binaryOp .Mod) gMod := opok_I op_mod fun i j h => of_decide_eq_true h
def cDiv : Int → Int → Bool := fun _ j => decide (0 < j ∧ j.natAbs.log2 < 9000)
def gDiv := gI cDiv (· / ·)
theorem ok_div : OpOk X (binaryOp .FloorDiv) gDiv := opok_I op_fdivW fun i j h => @of_decide_eq_true (0 < j ∧ j.natAbs.log2 < 9000) _ h
def cPow : Int → Int → Bool := fun i j => decide (0 ≤ j ∧ (Builtin.Int.intBits i : Int) * j ≤ 2 ^ 27)
def gPow := gI cPow (fun i j => i ^ j.toNat)
theorem ok_pow : OpOk X (binaryOp .Pow) gPow := opok_I op_pow2 fun i j h => of_decide_eq_true h
def cMul : Int → Int → Bool := fun i j => decide ((-(2 ^ 64) < i ∧ i < 2 ^ 64) ∨ (-(2 ^ 64) < j ∧ j < 2 ^ 64))
def gLt := gC fun i j => decide (i < j)
def gLe := gC fun i j => decide (i ≤ j)
def gGt := gC fun i j => decide (j < i)
def gGe := gC fun i j => decide (j ≤ i)
theorem ok_lt : OpOk X (compareOp .Lt) gLt := opok_C op_lt
theorem ok_le : OpOk X (compareOp .LtE) gLe := opok_C op_le
theorem ok_gt : OpOk X (compareOp .Gt) gGt := opok_C op_gt
theorem ok_ge : OpOk X (compareOp .GtE) gGe := opok_C op_ge

/-! ### + of texts, lists, tuples -/
def gAddS : D → D → M D
  | .str x, .str y => fun ms => if x.length + y.length ≤ 100000 then .ok (.str (x ++ y)) ms else .bad
  | _, _ => fun _ => .bad
theorem gAddS_inv : ∀ dx dy ms, (∃ i j, dx = .str i ∧ dy = .str j) ∨ gAddS dx dy ms = .bad := by
  intro dx dy ms
  cases dx with
  | str i => cases dy with
    | str j => exact .inl ⟨_, _, rfl, rfl⟩
    | _ => exact .inr rfl
  | _ => exact .inr rfl
theorem ok_addS : OpOk X (binaryOp .Add) gAddS := by
  refine ⟨_, op_add_str, fun W p σ H F ms x y dx dy Q hs bx bY po => ?_⟩
  obtain ⟨i, j, rfl, rfl⟩ := inv2 _ gAddS_inv po
  ·
    have po' : Po X.mg W p σ H F (relD X.K p) (if i.length + j.length ≤ 100000 then R.ok (.str (i ++ j)) ms else .bad) Q := po
    by_cases q : i.length + j.length ≤ 100000
    · rw [if_pos q] at po'
      exact ⟨i, j, bx.s, bY.s, sz5 q, po'.ok hs (.str _)⟩
    · rw [if_neg q] at po'
      exact po'.elim
def gAddT : D → D → M D
  | .tup x, .tup y => fun ms => if x.length + y.length ≤ 100000 then .ok (.tup (x ++ y)) ms else .bad
  | _, _ => fun _ => .bad
theorem gAddT_inv : ∀ dx dy ms, (∃ i j, dx = .tup i ∧ dy = .tup j) ∨ gAddT dx dy ms = .bad := by
  intro dx dy ms
  cases dx with
  | tup i => cases dy with
    | tup j => exact .inl ⟨_, _, rfl, rfl⟩
    | _ => exact .inr rfl
  | _ => exact .inr rfl
theorem ok_addT : OpOk X (binaryOp .Add) gAddT := by
  refine ⟨_, op_catA, fun W p σ H F ms x y dx dy Q hs bx bY po => ?_⟩
  obtain ⟨ds, es, rfl, rfl⟩ := inv2 _ gAddT_inv po
  ·
    have po' : Po X.mg W p σ H F (relD X.K p) (if ds.length + es.length ≤ 100000 then R.ok (.tup (ds ++ es)) ms else .bad) Q := po
    by_cases q : ds.length + es.length ≤ 100000
    · rw [if_pos q] at po'
      obtain ⟨a, xs, rfl, h1, f1, r1⟩ := bx.t hs
      obtain ⟨b, ys, rfl, h2, f2, r2⟩ := bY.t hs
      refine ⟨a, b, xs, ys, rfl, rfl, h1, h2, by rw [r1.length, r2.length]; exact sz5 q, fun e => ?_, fun _ e => ?_, fun _ _ c hc => ?_⟩
      · subst e
        cases r1
        exact po'.ok hs (.tup f2 r2)
      · subst e
        cases r2
        rw [List.append_nil] at po'
        exact po'.ok hs (.tup f1 r1)
      · exact po'.new hs hc (.tup (SqT.of upd_same) ((r1.append r2).mono (Ext.new (p := p) (ms := ms) hs hc).ff))
    · rw [if_neg q] at po'
      exact po'.elim
def gAddL : D → D → M D
  | .lst x, .lst y => fun ms => if x.length + y.length ≤ 100000 then .ok (.lst (x ++ y)) ms else .bad
  | _, _ => fun _ => .bad
def rCatR (K : PySem.W.Frag) : R2 := fun x y H Q => ∃ l b xs zs, x = .ref l ∧ y = .ref b ∧ SqL K H l xs ∧ SqL K H b zs ∧ xs.length + zs.length ≤ sizeLine ∧ ∀ p, H p = none → Q (.ref p) (upd H p (.lst (xs ++ zs)))
theorem op_catR : OpR X (binaryOp .Add) (rCatR X.K) := by
  intro pins s σ H x y v u Q I rx ry h
  obtain ⟨l, b, xs, zs, rfl, rfl, hH, hB, hz, q⟩ := h
  cases rx
  cases ry
  obtain ⟨its, r, ⟨o, n, e1, e2, e3, e4⟩, _⟩ := I.list hH
  obtain ⟨its2, r2, ⟨o2, n2, f1, f2, f3, f4⟩, _⟩ := I.list hB
  have hl := r.length
  have hl2 := r2.length
  obtain ⟨oc, od, oda, osl⟩ := o
  obtain ⟨oc2, od2, oda2, osl2⟩ := o2
  simp only at e2 e3 e4 f2 f3 f4
  subst e2 e3 e4 f2 f3 f4
  refine concat_meets ⟨_, e1, rfl⟩ ⟨_, f1, rfl⟩ noFill_list_add seq_list_add PySem.F.slot_list_add PySem.F.entry_list_add (PySem.F.args_list_add_2 _ _) (PyProof.Rows.list_addW l b its.toArray its2.toArray n n2 _ _ _ _ (by rw [List.size_toArray, List.size_toArray]; omega)) ⟨e1, f1, ?_⟩
  have ea : its.toArray ++ its2.toArray = (its ++ its2).toArray := by simp
  rw [ea]
  exact ⟨.ref _, _, I.lnew (t' := s.toks) (r.append r2) (by rw [List.length_append]; omega), rfl, q _ I.fresh⟩
/-- an operation that lays a new list -/
def OpNew (X : Cx) (f : Value → Value → Sem Value) (g : D → D → M D) : Prop := ∃ r, OpR X f r ∧ ∀ (W : WX) (p : Option Addr) (σ : L2.St) (H0 H F : Hp) (ms : MS) (x y : V) (dx dy : D) (Q : VK), Hs p F H ms → (∀ b, H b = none → H0 b = none) →
  Bw X.K p F H x dx → Bw X.K p F H y dy → Po X.mg W p σ H F (relN X.K p H0) (g dx dy ms) Q → r x y H Q
theorem gAddL_inv : ∀ dx dy ms, (∃ i j, dx = .lst i ∧ dy = .lst j) ∨ gAddL dx dy ms = .bad := by
  intro dx dy ms
  cases dx with
  | lst i => cases dy with
    | lst j => exact .inl ⟨_, _, rfl, rfl⟩
    | _ => exact .inr rfl
  | _ => exact .inr rfl
theorem new_addL : OpNew X (binaryOp .Add) gAddL := by
  refine ⟨_, op_catR, fun W p σ H0 H F ms x y dx dy Q hs h0 bx bY po => ?_⟩
  obtain ⟨ds, es, rfl, rfl⟩ := inv2 _ gAddL_inv po
  ·
    have po' : Po X.mg W p σ H F (relN X.K p H0) (if ds.length + es.length ≤ 100000 then R.ok (.lst (ds ++ es)) ms else .bad) Q := po
    by_cases q : ds.length + es.length ≤ 100000
    · rw [if_pos q] at po'
      obtain ⟨a, xs, rfl, h1, r1⟩ := bx.l hs
      obtain ⟨b, ys, rfl, h2, r2⟩ := bY.l hs
      exact ⟨a, b, xs, ys, rfl, rfl, h1, h2, by rw [r1.length, r2.length]; exact sz5 q, fun c hc => po'.layL hs h0 hc (r1.append r2)⟩
    · rw [if_neg q] at po'
      exact po'.elim
theorem relN_relD {mg : Str → Option Value} {K : PySem.W.Frag} {p : Option Addr} {σ : L2.St} {H F : Hp} {r : R D} {Q : VK} (po : Po mg W p σ H F (relD K p) r Q) : Po mg W p σ H F (relN K p H) r Q := by
  cases r with
  | ok x ms' =>
    intro v H' F' e q
    obtain ⟨a, xs, ds, rfl, rfl, ha, n, h', f', q⟩ := q
    exact po _ H' _ (e.frz ha h' f' n) (.lst (SqL.of upd_same) (q.mono (same_upd f')))
  | ex c ms' => exact po
  | bad => exact po
theorem OpNew.ok {f : Value → Value → Sem Value} {g : D → D → M D} (h : OpNew X f g) : OpOk X f g := by
  obtain ⟨r, h1, h2⟩ := h
  exact ⟨r, h1, fun W p σ H F ms x y dx dy Q hs bx bY po => h2 W p σ H H F ms x y dx dy Q hs (fun _ h => h) bx bY (relN_relD po)⟩
theorem jn_bin {a b : Expr} {ma mb : SS → M D} {pos : Pos} {op : Operator} {g : D → D → M D} (ho : OpNew X (binaryOp op) g) (ha : JB X W a ma) (hb : JB X W b mb) : JN X W (.BinOp a op b pos) (E.op2 g ma mb) := by
  obtain ⟨t, h1, h2⟩ := ha
  obtain ⟨u, h3, h4⟩ := hb
  obtain ⟨r, h5, h6⟩ := ho
  refine ⟨_, pe_op h5 h1 h3, fun p B σ ss H F ms Q s hs po => ?_⟩
  refine h2 p B σ ss H F ms _ s hs (po.bind fun x ms1 v H1 F1 e1 q1 po1 => ?_)
  refine h4 p B σ ss H1 F1 ms1 _ (s.ext e1) e1.hs (po1.bind fun y ms2 u H2 F2 e2 q2 po2 => ?_)
  exact h6 W p σ H H2 F2 ms2 v u x y Q e2.hs (fun _ h => e1.back (e2.back h)) (q1.ext e2) q2 po2
def gAdd : D → D → M D := orG (gI c1 (· + ·)) (orG gAddS (orG gAddT gAddL))
theorem OpOk.congr {f : Value → Value → Sem Value} {g g' : D → D → M D} (h : OpOk X f g) (e : ∀ x y ms, g' x y ms = g x y ms) : OpOk X f g' := by
  have : g' = g := funext fun x => funext fun y => funext fun ms => e x y ms
  rw [this]
  exact h
theorem ok_add : OpOk X (binaryOp .Add) gAdd := OpOk.or (opok_I (C := fun _ _ => True) (c := c1) (rI0I op_add) fun _ _ _ => trivial) (OpOk.or ok_addS (OpOk.or ok_addT new_addL.ok))
@[simp] theorem gAdd_int (i j : Int) (ms : MS) : gAdd (.int i) (.int j) ms = .ok (.int (i + j)) ms := rfl
theorem gAdd_str (i j : Str) (ms : MS) (h : i.length + j.length ≤ 100000) : gAdd (.str i) (.str j) ms = .ok (.str (i ++ j)) ms := by
  show orG gAddS (orG gAddT gAddL) (.str i) (.str j) ms = _
  have : gAddS (.str i) (.str j) ms = .ok (.str (i ++ j)) ms := if_pos h
  unfold orG
  rw [this]
theorem gAdd_tup (i j : List D) (ms : MS) (h : i.length + j.length ≤ 100000) : gAdd (.tup i) (.tup j) ms = .ok (.tup (i ++ j)) ms := by
  show orG gAddT gAddL (.tup i) (.tup j) ms = _
  have : gAddT (.tup i) (.tup j) ms = .ok (.tup (i ++ j)) ms := if_pos h
  unfold orG
  rw [this]
theorem gAdd_lst (i j : List D) (ms : MS) (h : i.length + j.length ≤ 100000) : gAdd (.lst i) (.lst j) ms = .ok (.lst (i ++ j)) ms := if_pos h
def gMulL : D → D → M D
  | .lst xs, .int k => fun ms => if -(2 ^ 63) ≤ k ∧ k < 2 ^ 63 ∧ xs.length * k.toNat ≤ 100000 then .ok (.lst (List.replicate k.toNat xs).flatten) ms else .bad
  | _, _ => fun _ => .bad
theorem Dts.rep {K : PySem.W.Frag} {p : Option Addr} {F : Hp} {vs : List V} {ds : List D} (r : Dts K p F vs ds) : ∀ n : Nat, Dts K p F (List.replicate n vs).flatten (List.replicate n ds).flatten
  | 0 => .nil
  | n + 1 => by
    rw [List.replicate_succ, List.replicate_succ, List.flatten_cons, List.flatten_cons]
    exact r.append (Dts.rep r n)
def gMulT : D → D → M D
  | .tup xs, .int k => fun ms => if xs ≠ [] ∧ 2 ≤ k ∧ k ≤ 1000 ∧ xs.length ≤ 1000 then .ok (.tup (List.replicate k.toNat xs).flatten) ms else .bad
  | _, _ => fun _ => .bad
theorem gMulT_inv : ∀ dx dy ms, (∃ i j, dx = .tup i ∧ dy = .int j) ∨ gMulT dx dy ms = .bad := by
  intro dx dy ms
  cases dx with
  | tup i => cases dy with
    | int j => exact .inl ⟨_, _, rfl, rfl⟩
    | _ => exact .inr rfl
  | _ => exact .inr rfl
theorem ok_mulT : OpOk X (binaryOp .Mult) gMulT := by
  refine ⟨_, op_repT, fun W p σ H F ms x y dx dy Q hs bx bY po => ?_⟩
  obtain ⟨ds, k, rfl, rfl⟩ := inv2 _ gMulT_inv po
  ·
    have po' : Po X.mg W p σ H F (relD X.K p) (if ds ≠ [] ∧ 2 ≤ k ∧ k ≤ 1000 ∧ ds.length ≤ 1000 then R.ok (.tup (List.replicate k.toNat ds).flatten) ms else .bad) Q := po
    by_cases q : ds ≠ [] ∧ 2 ≤ k ∧ k ≤ 1000 ∧ ds.length ≤ 1000
    · rw [if_pos q] at po'
      obtain ⟨a, xs, rfl, h1, f1, r1⟩ := bx.t hs
      refine ⟨a, k, xs, rfl, bY.i, h1, fun e => q.1 (by subst e; cases r1; rfl), q.2.1, q.2.2.1, by rw [r1.length]; exact q.2.2.2, fun c hc => ?_⟩
      exact po'.new hs hc (.tup (SqT.of upd_same) ((r1.rep _).mono (Ext.new (p := p) (ms := ms) hs hc).ff))
    · rw [if_neg q] at po'
      exact po'.elim
def gMul : D → D → M D := orG (gI cMul (· * ·)) gMulT
theorem ok_mul : OpOk X (binaryOp .Mult) gMul := OpOk.or (opok_I op_mul (c := cMul) fun i j h => @of_decide_eq_true ((-(2 ^ 64) < i ∧ i < 2 ^ 64) ∨ (-(2 ^ 64) < j ∧ j < 2 ^ 64)) _ h) ok_mulT
theorem gMul_int (i j : Int) (ms : MS) (h : (-(2 ^ 64) < i ∧ i < 2 ^ 64) ∨ (-(2 ^ 64) < j ∧ j < 2 ^ 64)) : gMul (.int i) (.int j) ms = .ok (.int (i * j)) ms := by
  have : gI cMul (· * ·) (.int i) (.int j) ms = .ok (.int (i * j)) ms := if_pos (decide_eq_true h)
  unfold gMul orG
  rw [this]
/-! ### == and != -/
mutual
def D.py : D → Option PyData
  | .non => some .none
  | .bl b => some (.bool b)
  | .int i => some (.int i)
  | .str x => some (.str x)
  | .tup ds => (pys ds).map .tuple
  | .lst ds => (pys ds).map .list
  | .dct _ _ => none
  | .pot => none
  | .fn _ => none
  | .ty _ => none
  | .xo _ _ => none
def pys : List D → Option (List PyData)
  | [] => some []
  | d :: ds => match d.py, pys ds with
    | some q, some r => some (q :: r)
    | _, _ => none
end
mutual
theorem Dt.dp {K : PySem.W.Frag} {p : Option Addr} {F H : Hp} (sf : Same F H) : ∀ {v : V} {d : D} {q : PyData}, Dt K p F v d → d.py = some q → Dp K H v q
  | _, _, _, .non, e => by cases e; exact .non
  | _, _, _, .bl b, e => by cases e; exact .bl b
  | _, _, _, .int b, e => by cases e; exact .int b
  | _, _, _, .str b, e => by cases e; exact .str b
  | _, _, _, .tup (ds := ds) h r, e => by
    rw [D.py] at e
    cases e1 : pys ds with
    | none => rw [e1] at e; cases e
    | some qs => rw [e1] at e; cases e; exact .tup (same_t sf h) (Dts.dp sf r e1)
  | _, _, _, .lst (ds := ds) h r, e => by
    rw [D.py] at e
    cases e1 : pys ds with
    | none => rw [e1] at e; cases e
    | some qs => rw [e1] at e; cases e; exact .lst (same_l sf h) (Dts.dp sf r e1)
  | _, _, _, .dct _ _ _, e => by rw [D.py] at e; cases e
  | _, _, _, .pot _, e => by rw [D.py] at e; cases e
  | _, _, _, .fn, e => by rw [D.py] at e; cases e
  | _, _, _, .ty, e => by rw [D.py] at e; cases e
  | _, _, _, .xo _ _, e => by rw [D.py] at e; cases e
  | _, _, _, .xn _ _ _, e => by rw [D.py] at e; cases e
theorem Dts.dp {K : PySem.W.Frag} {p : Option Addr} {F H : Hp} (sf : Same F H) : ∀ {vs : List V} {ds : List D} {qs : List PyData}, Dts K p F vs ds → pys ds = some qs → DpAll K H vs qs
  | _, _, _, .nil, e => by rw [pys] at e; cases e; exact .nil
  | _, _, _, .cons (d := d) (ds := ds) h r, e => by
    rw [pys] at e
    cases e1 : d.py with
    | none => rw [e1] at e; cases e
    | some q =>
      cases e2 : pys ds with
      | none => rw [e1, e2] at e; cases e
      | some qs => rw [e1, e2] at e; cases e; exact .cons (Dt.dp sf h e1) (Dts.dp sf r e2)
end
theorem Bw.dp {K : PySem.W.Frag} {p : Option Addr} {F H : Hp} {ms : MS} {v : V} {d : D} {q : PyData} (hs : Hs p F H ms) (b : Bw K p F H v d) (e : d.py = some q) : Dp K H v q := by
  cases b with
  | fz h => exact h.dp hs.fh e
  | @own a xs ds h n r =>
    rw [D.py] at e
    cases e1 : pys ds with
    | none => rw [e1] at e; cases e
    | some qs => rw [e1] at e; cases e; exact .lst (SqL.of h) (r.dp hs.fh e1)
def eqD (n : Bool) : D → D → M D := fun x y ms => match x.py, y.py with
  | some a, some b => if SeqAt.shaped a = true ∧ SeqAt.shaped b = true then .ok (.bl (if n then !PyData.eqv a b else PyData.eqv a b)) ms else .bad
  | _, _ => .bad
theorem ok_eqD0 (hu : X.A.units + 64 < cLine) : OpOk X (compareOp .Eq) (eqD false) := by
  refine ⟨_, op_eqD hu, fun W p σ H F ms x y dx dy Q hs bx bY po => ?_⟩
  unfold eqD at po
  split at po
  next a b ha hb =>
    by_cases q : SeqAt.shaped a = true ∧ SeqAt.shaped b = true
    · rw [if_pos q] at po
      exact ⟨a, b, bx.dp hs ha, bY.dp hs hb, q.1, q.2, po.ok hs (.bl _)⟩
    · rw [if_neg q] at po
      exact po.elim
  next => exact po.elim
theorem ok_neD0 (hu : X.A.units + 64 < cLine) : OpOk X (compareOp .NotEq) (eqD true) := by
  refine ⟨_, op_neD hu, fun W p σ H F ms x y dx dy Q hs bx bY po => ?_⟩
  unfold eqD at po
  split at po
  next a b ha hb =>
    by_cases q : SeqAt.shaped a = true ∧ SeqAt.shaped b = true
    · rw [if_pos q] at po
      exact ⟨a, b, bx.dp hs ha, bY.dp hs hb, q.1, q.2, po.ok hs (.bl _)⟩
    · rw [if_neg q] at po
      exact po.elim
  next => exact po.elim
/-- a tuple against () -/
def rNe0 (K : PySem.W.Frag) (n : Bool) : R2 := fun x y H Q => ∃ a b xs, x = .ref a ∧ y = .ref b ∧ SqT K H a xs ∧ SqT K H b [] ∧ Q (.bl (if n then !xs.isEmpty else xs.isEmpty)) H
theorem op_ne0 (hu : X.A.units < cLine) : OpR X (compareOp .NotEq) (rNe0 X.K true) := by
  intro pins s σ H x y v u Q I rx ry h
  obtain ⟨a, b, xs, rfl, rfl, h1, h2, q⟩ := h
  cases rx
  cases ry
  obtain ⟨its, r1, p1, _⟩ := I.tuple h1
  obtain ⟨its2, r2, p2, _⟩ := I.tuple h2
  cases r2
  have k := SeqAt.RcNeAt.tuples (A := X.A) (s := s) (e := fun _ => true) p1 p2 hu (fun j j1 j2 => by simp at j2)
  refine k X.prog X.w X.xe _ ⟨.bl _, H, I, rfl, ?_⟩
  have e : (!((List.range (min its.toArray.size ([] : List Value).toArray.size)).all (fun _ => true) && its.toArray.size == ([] : List Value).toArray.size)) = !xs.isEmpty := by
    have := r1.length
    cases xs with
    | nil => cases r1; rfl
    | cons x xs => cases r1; simp
  rw [e]
  exact q
def eq0 : D → D → M D
  | .tup xs, .tup [] => fun ms => .ok (.bl (!xs.isEmpty)) ms
  | _, _ => fun _ => .bad
theorem ok_ne0 (hu : X.A.units < cLine) : OpOk X (compareOp .NotEq) eq0 := by
  refine ⟨_, op_ne0 hu, fun W p σ H F ms x y dx dy Q hs bx bY po => ?_⟩
  have : ∃ xs, dx = .tup xs ∧ dy = .tup [] := by
    cases dx with
    | tup xs => cases dy with
      | tup ys => cases ys with
        | nil => exact ⟨xs, rfl, rfl⟩
        | cons _ _ => exact po.elim
      | _ => exact po.elim
    | _ => exact po.elim
  obtain ⟨xs, rfl, rfl⟩ := this
  ·
    obtain ⟨a, vs, rfl, h1, f1, r1⟩ := bx.t hs
    obtain ⟨b, us, rfl, h2, f2, r2⟩ := bY.t hs
    cases r2
    refine ⟨a, b, vs, rfl, rfl, h1, h2, Po.ok (x := D.bl (!xs.isEmpty)) po hs ?_⟩
    have : vs.isEmpty = xs.isEmpty := by cases r1 <;> rfl
    show Dt X.K p F (.bl (!vs.isEmpty)) (.bl (!xs.isEmpty))
    rw [this]
    exact .bl _
def gEq : D → D → M D := eqD false
def gNe : D → D → M D := orG eq0 (eqD true)
theorem ok_eq (hu : X.A.units + 64 < cLine) : OpOk X (compareOp .Eq) gEq := ok_eqD0 hu
theorem ok_ne (hu : X.A.units + 64 < cLine) : OpOk X (compareOp .NotEq) gNe := OpOk.or (ok_ne0 (by omega)) (ok_neD0 hu)
def D.isNon : D → Bool
  | .non => true
  | _ => false
def isN (n : Bool) : D → D → M D := fun x y ms => match y with
  | .non => .ok (.bl (if n then !x.isNon else x.isNon)) ms
  | _ => .bad
theorem non_iff {K : PySem.W.Frag} {p : Option Addr} {F H : Hp} {x : V} {d : D} (b : Bw K p F H x d) : decide (x = .non) = d.isNon := by
  cases b with
  | fz h => cases h <;> rfl
  | own h n r => rfl
theorem ok_isN : OpOk X (compareOp .Is) (isN false) := by
  refine ⟨_, op_isN, fun W p σ H F ms x y dx dy Q hs bx bY po => ?_⟩
  unfold isN at po
  cases dy with
  | non =>
    have : y = .non := by cases bY with | fz h => cases h; rfl
    refine ⟨this, ?_⟩
    rw [non_iff bx]
    exact po.ok hs (.bl _)
  | _ => exact po.elim
theorem ok_isNot : OpOk X (compareOp .IsNot) (isN true) := by
  refine ⟨_, op_notN, fun W p σ H F ms x y dx dy Q hs bx bY po => ?_⟩
  unfold isN at po
  cases dy with
  | non =>
    have : y = .non := by cases bY with | fz h => cases h; rfl
    refine ⟨this, ?_⟩
    rw [non_iff bx]
    exact po.ok hs (.bl _)
  | _ => exact po.elim
end
end Q

set_option Elab.async false
set_option linter.all false
set_option maxRecDepth 100000
set_option maxHeartbeats 4000000
/-! Qf: built-in functions, subscripts, in, own lists, the pot. -/
namespace Q
open PySem L2 PyProof.Rows

section
variable {X : Cx} {W : WX} {e a b : Expr} {es : List Expr} {m ma mb : SS → M D} {pos : Pos}

/-! ### calls of built-ins -/
/-- of one argument, read for the moment -/
def Call1 (X : Cx) (f : Value) (g : D → M D) : Prop := ∃ r, CallR X f r ∧ ∀ (W : WX) (p : Option Addr) (σ : L2.St) (H F : Hp) (ms : MS) (x : V) (dx : D) (Q : VK), Hs p F H ms → Bw X.K p F H x dx → Po X.mg W p σ H F (relD X.K p) (g dx ms) Q → r [x] H Q
def CallN (X : Cx) (f : Value) (g : List D → M D) : Prop := ∃ r, CallR X f r ∧ ∀ (W : WX) (p : Option Addr) (σ : L2.St) (H F : Hp) (ms : MS) (xs : List V) (ds : List D) (Q : VK), Hs p F H ms → Dts X.K p F xs ds → Po X.mg W p σ H F (relD X.K p) (g ds ms) Q → r xs H Q
theorem cb1_ok {r : List V → Hp → VK → Prop} {g : D → M D} {ta : TE} (h2 : ∀ (p : Option Addr) (B : Hp) (σ : L2.St) (ss : SS) (H F : Hp) (ms : MS) (Q : VK), Sl X.K p B F H σ ss → Hs p F H ms → Po X.mg W p σ H F (relB X.K p) (m ss ms) Q → ta σ H Q)
    (h6 : ∀ (W : WX) (p : Option Addr) (σ : L2.St) (H F : Hp) (ms : MS) (x : V) (dx : D) (Q : VK), Hs p F H ms → Bw X.K p F H x dx → Po X.mg W p σ H F (relD X.K p) (g dx ms) Q → r [x] H Q) :
    ∀ (p : Option Addr) (B : Hp) (σ : L2.St) (ss : SS) (H F : Hp) (ms : MS) (Q : VK), Sl X.K p B F H σ ss → Hs p F H ms → Po X.mg W p σ H F (relD X.K p) (E.op1 g m ss ms) Q → tCB r (tCons ta tNil) σ H Q := by
  intro p B σ ss H F ms Q s hs po
  refine h2 p B σ ss H F ms _ s hs (po.bind fun x ms1 v H1 F1 e1 q1 po1 => ?_)
  exact h6 W p σ H1 F1 ms1 v x Q e1.hs q1 po1
theorem je_b1 {id : String} {x : Str} {p0 : Pos} {g : D → M D} (hc : Call1 X (.builtin id) g) (hm : X.mg x = none) (ha : JB X W e m) (hv : bootBuiltins x = some (.builtin id) := by decide +kernel) (hg : Gl X x := by rfl) (hn : x ≠ "__name__" := by decide) (hdb : (x == ("__debug__" : Str)) = false := by decide)
    (he : starEach [e] X.env = (false, eval e X.env) :: starEach [] X.env := by rfl) (hpl : (backTo pos (starEach [] X.env)).any (·.1) = false := by rfl) : JE X W (.Call (.Name x p0) [e] [] pos) (E.op1 g m) := by
  obtain ⟨t, h1, h2⟩ := ha
  obtain ⟨r, h5, h6⟩ := hc
  exact ⟨_, pe_callB h5 hg hm hv (pa_cons h1 pa_nil he) hn hdb he hpl, cb1_ok h2 h6⟩
theorem je_t1 {T : String} {x : Str} {p0 : Pos} {g : D → M D} (hc : Call1 X (.type T) g) (hm : X.mg x = none) (ha : JB X W e m) (hv : bootBuiltins x = some (.type T) := by decide +kernel) (hg : Gl X x := by rfl) (hn : x ≠ "__name__" := by decide) (hdb : (x == ("__debug__" : Str)) = false := by decide)
    (he : starEach [e] X.env = (false, eval e X.env) :: starEach [] X.env := by rfl) (hpl : (backTo pos (starEach [] X.env)).any (·.1) = false := by rfl) : JE X W (.Call (.Name x p0) [e] [] pos) (E.op1 g m) := by
  obtain ⟨t, h1, h2⟩ := ha
  obtain ⟨r, h5, h6⟩ := hc
  exact ⟨_, pe_callTy h5 hg hm hv (pa_cons h1 pa_nil he) hn hdb he hpl, cb1_ok h2 h6⟩
theorem je_bn {id : String} {x : Str} {p0 : Pos} {g : List D → M D} {mr : SS → M (List D)} (hc : CallN X (.builtin id) g) (hm : X.mg x = none) (ha : JA X W (e :: es) mr) (hv : bootBuiltins x = some (.builtin id) := by decide +kernel) (hg : Gl X x := by rfl) (hn : x ≠ "__name__" := by decide) (hdb : (x == ("__debug__" : Str)) = false := by decide)
    (he : starEach (e :: es) X.env = (false, eval e X.env) :: starEach es X.env := by rfl) (hpl : (backTo pos (starEach es X.env)).any (·.1) = false := by rfl) : JE X W (.Call (.Name x p0) (e :: es) [] pos) (E.fnA g mr) := by
  obtain ⟨t, h1, h2⟩ := ha
  obtain ⟨r, h5, h6⟩ := hc
  refine ⟨_, pe_callB h5 hg hm hv h1 hn hdb he hpl, fun p B σ ss H F ms Q s hs po => ?_⟩
  refine h2 p B σ ss H F ms _ s hs (po.bind fun ds ms1 vs H1 F1 e1 q1 po1 => ?_)
  exact h6 W p σ H1 F1 ms1 vs ds Q e1.hs q1 po1

def gLen : D → M D
  | .str x => fun ms => if x.length ≤ 100000 then .ok (.int x.length) ms else .bad
  | .lst ds => fun ms => .ok (.int ds.length) ms
  | .tup ds => fun ms => .ok (.int ds.length) ms
  | _ => fun _ => .bad
theorem ok_len : Call1 X (.builtin "len") gLen := by
  refine ⟨_, call_len, fun W p σ H F ms x dx Q hs bx po => ?_⟩
  cases dx with
  | str y =>
    have po' : Po X.mg W p σ H F (relD X.K p) (if y.length ≤ 100000 then R.ok (.int y.length) ms else .bad) Q := po
    by_cases q : y.length ≤ 100000
    · rw [if_pos q] at po'
      cases bx.s
      exact ⟨.str y, y.length, rfl, ⟨sz5 q, rfl⟩, po'.ok hs (.int _)⟩
    · rw [if_neg q] at po'
      exact po'.elim
  | lst ds =>
    obtain ⟨a, xs, rfl, h1, r1⟩ := bx.l hs
    exact ⟨.ref a, xs.length, rfl, .inl ⟨xs, h1, rfl⟩, by rw [r1.length]; exact Po.ok (x := D.int ds.length) po hs (.int _)⟩
  | tup ds =>
    obtain ⟨a, xs, rfl, h1, f1, r1⟩ := bx.t hs
    exact ⟨.ref a, xs.length, rfl, .inr ⟨xs, h1, rfl⟩, by rw [r1.length]; exact Po.ok (x := D.int ds.length) po hs (.int _)⟩
  | _ => exact po.elim
def gAbs : D → M D
  | .int i => fun ms => .ok (.int (if i < 0 then -i else i)) ms
  | _ => fun _ => .bad
theorem ok_abs : Call1 X (.builtin "abs") gAbs := by
  refine ⟨_, call_abs, fun W p σ H F ms x dx Q hs bx po => ?_⟩
  cases dx with
  | int i => cases bx.i; exact ⟨i, rfl, Po.ok (x := D.int _) po hs (.int _)⟩
  | _ => exact po.elim
def gInt : D → M D
  | .int i => fun ms => .ok (.int i) ms
  | .bl b => fun ms => .ok (.int (if b then 1 else 0)) ms
  | _ => fun _ => .bad
theorem ok_int : Call1 X (.type "int") gInt := by
  refine ⟨_, call_int1, fun W p σ H F ms x dx Q hs bx po => ?_⟩
  cases dx with
  | int i => cases bx.i; exact .inl ⟨i, rfl, Po.ok (x := D.int _) po hs (.int _)⟩
  | bl i => cases bx.b; exact .inr ⟨i, rfl, Po.ok (x := D.int _) po hs (.int _)⟩
  | _ => exact po.elim
def gTuple : D → M D
  | .lst ds => fun ms => .ok (.tup ds) ms
  | .tup ds => fun ms => .ok (.tup ds) ms
  | _ => fun _ => .bad
theorem ok_tuple : Call1 X (.type "tuple") gTuple := by
  refine ⟨_, call_tuple_of, fun W p σ H F ms x dx Q hs bx po => ?_⟩
  cases dx with
  | lst ds =>
    obtain ⟨a, xs, rfl, h1, r1⟩ := bx.l hs
    exact ⟨a, xs, rfl, .inl ⟨h1, fun c hc => Po.new (x := D.tup ds) po hs hc (.tup (SqT.of upd_same) (r1.mono (Ext.new (p := p) (ms := ms) hs hc).ff))⟩⟩
  | tup ds =>
    obtain ⟨a, xs, rfl, h1, f1, r1⟩ := bx.t hs
    exact ⟨a, xs, rfl, .inr ⟨h1, Po.ok (x := D.tup ds) po hs (.tup f1 r1)⟩⟩
  | _ => exact po.elim
def gList : D → M D
  | .lst ds => fun ms => .ok (.lst ds) ms
  | .tup ds => fun ms => .ok (.lst ds) ms
  | _ => fun _ => .bad
/-- list(x): a new one -/
theorem jn_list {p0 : Pos} (hm : X.mg "list" = none) (ha : JB X W e m) (hg : Gl X "list" := by rfl) (hv : bootBuiltins "list" = some (.type "list") := by decide +kernel)
    (he : starEach [e] X.env = (false, eval e X.env) :: starEach [] X.env := by rfl) (hpl : (backTo pos (starEach [] X.env)).any (·.1) = false := by rfl) : JN X W (.Call (.Name "list" p0) [e] [] pos) (E.op1 gList m) := by
  obtain ⟨t, h1, h2⟩ := ha
  refine ⟨_, pe_callTy call_list_of hg hm hv (pa_cons h1 pa_nil he) (by decide) (by decide) he hpl, fun p B σ ss H F ms Q s hs po => ?_⟩
  refine h2 p B σ ss H F ms _ s hs (po.bind fun x ms1 v H1 F1 e1 q1 po1 => ?_)
  cases x with
  | lst ds =>
    obtain ⟨a, xs, rfl, h1, r1⟩ := q1.l e1.hs
    exact ⟨a, xs, rfl, .inl h1, fun c hc => Po.layL (ds := ds) po1 e1.hs (fun _ => e1.back) hc r1⟩
  | tup ds =>
    obtain ⟨a, xs, rfl, h1, f1, r1⟩ := q1.t e1.hs
    exact ⟨a, xs, rfl, .inr h1, fun c hc => Po.layL (ds := ds) po1 e1.hs (fun _ => e1.back) hc r1⟩
  | _ => exact po1.elim
def asB : D → Option Bool
  | .bl b => some b
  | _ => none
def allB : List D → Option Bool
  | [] => some true
  | .bl b :: r => (allB r).map fun k => b && k
  | _ :: _ => none
def gAll : D → M D
  | .lst ds => fun ms => match allB ds with
    | some k => .ok (.bl k) ms
    | none => .bad
  | _ => fun _ => .bad
theorem allB_bs {K : PySem.W.Frag} {p : Option Addr} {F : Hp} : ∀ {xs : List V} {ds : List D} {k : Bool}, Dts K p F xs ds → allB ds = some k → ∃ bs : List Bool, xs = bs.map V.bl ∧ bs.all id = k
  | _, _, _, .nil, e => by cases e; exact ⟨[], rfl, rfl⟩
  | _, _, k, .cons (d := d) (ds := ds) h r, e => by
    cases h with
    | bl b =>
      unfold allB at e
      cases e1 : allB ds with
      | none => rw [e1] at e; cases e
      | some k' =>
        rw [e1] at e
        cases e
        obtain ⟨bs, rfl, rfl⟩ := allB_bs r e1
        exact ⟨b :: bs, rfl, by simp⟩
    | _ => cases e
theorem ok_all (hc : X.calm = true) : Call1 X (.builtin "all") gAll := by
  refine ⟨_, cr_all hc, fun W p σ H F ms x dx Q hs bx po => ?_⟩
  cases dx with
  | lst ds =>
    obtain ⟨a, xs, rfl, h1, r1⟩ := bx.l hs
    have po : Po X.mg W p σ H F (relD X.K p) (match allB ds with
      | some k => R.ok (D.bl k) ms
      | none => R.bad) Q := po
    cases e1 : allB ds with
    | none => rw [e1] at po; exact po.elim
    | some k =>
      rw [e1] at po
      obtain ⟨bs, rfl, rfl⟩ := allB_bs r1 e1
      exact ⟨a, bs, rfl, h1, po.ok hs (.bl _)⟩
  | _ => exact po.elim
def gMax : List D → M D
  | [.int i, .int j] => fun ms => .ok (.int (if j > i then j else i)) ms
  | _ => fun _ => .bad
def gMin : List D → M D
  | [.int i, .int j] => fun ms => .ok (.int (if j < i then j else i)) ms
  | _ => fun _ => .bad
theorem ints2 {P : D → D → Prop} {K : PySem.W.Frag} {p : Option Addr} {F : Hp} {xs : List V} {i j : Int} (r : Dts K p F xs [.int i, .int j]) : xs = [.int i, .int j] := by
  cases r with
  | cons h r => cases r with
    | cons h' r => cases r; cases h; cases h'; rfl
theorem ok_max (hc : X.calm = true) : CallN X (.builtin "max") gMax := by
  refine ⟨_, call_max2 hc, fun W p σ H F ms xs ds Q hs r po => ?_⟩
  unfold gMax at po
  split at po
  next i j => cases ints2 (P := fun _ _ => True) r; exact ⟨i, j, rfl, po.ok hs (.int _)⟩
  next => exact po.elim
theorem ok_min (hc : X.calm = true) : CallN X (.builtin "min") gMin := by
  refine ⟨_, call_min2 hc, fun W p σ H F ms xs ds Q hs r po => ?_⟩
  unfold gMin at po
  split at po
  next i j => cases ints2 (P := fun _ _ => True) r; exact ⟨i, j, rfl, po.ok hs (.int _)⟩
  next => exact po.elim
/-! isinstance -/
def tyOf : D → Option Ty
  | .non => some .non
  | .bl _ => some .bool
  | .int _ => some .int
  | .str _ => some .str
  | .tup _ => some .tuple
  | .lst _ => some .list
  | .dct _ _ => some .dict
  | _ => none
def Ty.le : Ty → Ty → Bool := fun a b => decide (a = b) || (decide (a = .bool) && decide (b = .int))
theorem kit_all (a b : Ty) (hb : b ≠ .non) : kitB a.name b.name = some (a.le b) := by
  cases a <;> cases b <;> first
    | exact absurd rfl hb
    | decide +kernel
def gIsi : List D → M D
  | [d, .ty t] => fun ms => match tyOf d with
    | some a => if t ≠ .non then .ok (.bl (a.le t)) ms else .bad
    | none => .bad
  | _ => fun _ => .bad
theorem tyX_of {K : PySem.W.Frag} {p : Option Addr} {F H : Hp} {ms : MS} {x : V} {d : D} {a : Ty} (hs : Hs p F H ms) (b : Dt K p F x d) (e : tyOf d = some a) : TyX K H x (.type a.name) := by
  cases b with
  | non => cases e; exact .base .non
  | bl k => cases e; exact .base (.bl k)
  | int k => cases e; exact .base (.int k)
  | str k => cases e; exact .base (.str k)
  | tup h r =>
    cases e
    rcases same_t hs.fh h with (h | ⟨o, h⟩) | ⟨o, its, n, h1, h2, h3, _⟩
    · exact .base (.tup h)
    · exact .fTuple h
    · exact .kTuple h1 h2
  | lst h r =>
    cases e
    rcases same_l hs.fh h with (h | ⟨o, h⟩) | ⟨o, its, n, h1, h2, _⟩
    · exact .base (.lst h)
    · exact .base (.frz h)
    · exact .kList h1 h2
  | dct h l r =>
    cases e
    rcases same_rd hs.fh h with h | ⟨o, h⟩
    · exact .base (.dK h)
    · exact .fDict h
  | pot h => cases e
  | fn => cases e
  | ty => cases e
  | xo h q => cases e
  | xn h q r => cases e
theorem ok_isi : CallN X (.builtin "isinstance") gIsi := by
  refine ⟨_, call_isi, fun W p σ H F ms xs ds Q hs r po => ?_⟩
  unfold gIsi at po
  split at po
  next d t =>
    cases r with
    | cons h r => cases r with
      | cons h' r =>
        cases r
        cases h'
        cases e : tyOf d with
        | none => rw [e] at po; exact po.elim
        | some a =>
          rw [e] at po
          by_cases ht : t ≠ .non
          · have po' : Po X.mg W p σ H F (relD X.K p) (R.ok (.bl (a.le t)) ms) Q := by
              have po2 : Po X.mg W p σ H F (relD X.K p) (if t ≠ .non then R.ok (.bl (a.le t)) ms else .bad) Q := po
              rw [if_pos ht] at po2
              exact po2
            exact ⟨_, _, _, _, a.le t, rfl, .ty t.name, tyX_of hs h e, kit_ty (kit_all a t ht), po'.ok hs (.bl _)⟩
          · have po2 : Po X.mg W p σ H F (relD X.K p) (if t ≠ .non then R.ok (.bl (a.le t)) ms else .bad) Q := po
            rw [if_neg ht] at po2
            exact po2.elim
  next => exact po.elim
/-- a built-in type's name as a value -/
theorem je_ty {x : Str} (t : Ty) (hm : X.mg x = none) (hv : bootBuiltins x = some (.type t.name) := by decide +kernel) (hg : Gl X x := by rfl) (hn : x ≠ "__name__" := by decide) (hd : (x == ("__debug__" : Str)) = false := by decide) : JE X W (.Name x pos) (E.c (.ty t)) :=
  je_c (pe_bltn (v := .ty t.name) hg hm hv rfl hn hd) fun _ _ => .ty
/-- a def as a value -/
theorem je_fn {x : Str} {f : Addr} (hm : X.mg x = some (.ref f)) (hg : Gl X x := by rfl) (hd : (x == ("__debug__" : Str)) = false := by decide) : JE X W (.Name x pos) (E.c (.fn f)) := je_c (pe_glob (v := .ref f) hg hm rfl hd) fun _ _ => .fn
theorem je_gInt {x : Str} {i : Int} {t : Tok} (hm : X.mg x = some (.int i t)) (hg : Gl X x := by rfl) (hd : (x == ("__debug__" : Str)) = false := by decide) : JE X W (.Name x pos) (E.c (.int i)) := je_c (pe_glob (v := .int i) hg hm ⟨_, rfl⟩ hd) fun _ _ => .int i
theorem je_gStr {x i : Str} {t : Tok} (hm : X.mg x = some (.str i t)) (hg : Gl X x := by rfl) (hd : (x == ("__debug__" : Str)) = false := by decide) : JE X W (.Name x pos) (E.c (.str i)) := je_c (pe_glob (v := .str i) hg hm ⟨_, rfl⟩ hd) fun _ _ => .str i
theorem je_gRef {x : Str} {a : Addr} {d : D} (hm : X.mg x = some (.ref a)) (h : ∀ p F, Dt X.K p F (.ref a) d) (hg : Gl X x := by rfl) (hd : (x == ("__debug__" : Str)) = false := by decide) : JE X W (.Name x pos) (E.c d) := je_c (pe_glob (v := .ref a) hg hm rfl hd) h
/-- a call of the def that a slot holds -/
def E.callL (i : Nat) (f : Addr) (mir : List D → M D) (mr : SS → M (List D)) : SS → M D := fun ss ms => match ss[i]? with
  | some (some (.dat (.fn g))) => if g = f then (mr ss ms).bind mir else .bad
  | _ => .bad
theorem je_callL {k i : Nat} {f : Addr} {fd : FuncData} {ps : List Str} {mir : List D → M D} {mr : SS → M (List D)} {x : Str} {p0 : Pos} (G : FnM X.prog X.w X.K X.mg X.base k f fd ps mir) (tk : Takes X W0) (hr : Room k X.A) (hk : PySem.W.keepIn X.K (.ref f) = true) (hb : Binds X.K fd ps [])
    (ha : JA X W (e :: es) mr) (hne : ∀ ds ms c ms', mir ds ms ≠ .ex c ms') (hn : ∀ (ss : SS) (ms : MS) (ds : List D) (ms' : MS), mr ss ms = .ok ds ms' → ds.length = ps.length) (hN : X.N[i]? = some x := by rfl) (hv : Vis X.env.scope x := by first | exact Or.inl rfl | exact Or.inr (Or.inl rfl) | exact Or.inr (Or.inr rfl)) (hdb : (x == ("__debug__" : Str)) = false := by decide) (hcd : (x == ("__classdict__" : Str)) = false := by decide)
    (he : starEach (e :: es) X.env = (false, eval e X.env) :: starEach es X.env := by rfl) (hpl : (backTo pos (starEach es X.env)).any (·.1) = false := by rfl) : JE X W (.Call (.Name x p0) (e :: es) [] pos) (E.callL i f mir mr) := by
  obtain ⟨t, h1, h2⟩ := ha
  refine ⟨_, pe_callL (i := i) (E := fun _ _ _ => False) (dvs := []) G hr hN hv hk hb .nil (passes_call tk fun _ _ _ _ h => h) h1 hdb hcd he hpl, fun p B σ ss H F ms Q s hs po => ?_⟩
  unfold E.callL at po
  split at po
  next g hg =>
    by_cases q : g = f
    · subst q
      rw [if_pos rfl] at po
      have hi : i < σ.length := by
        rw [s.len]
        exact (List.getElem?_eq_some_iff.mp hg).1
      obtain ⟨u, e1, q⟩ := s.ok i _ _ hg (List.getElem?_eq_getElem hi)
      cases q
      refine ⟨by rw [List.getElem?_eq_getElem hi, e1], ?_⟩
      cases r : mr ss ms with
      | bad => rw [r] at po; exact po.elim
      | ex c ms' => rw [r] at po; exact h2 p B σ ss H F ms _ s hs (by rw [r]; exact po)
      | ok ds ms1 =>
        rw [r] at po
        refine h2 p B σ ss H F ms _ s hs ?_
        rw [r]
        intro vs H1 F1 e1 q1
        have po1 : Po X.mg W p σ H1 F1 (relD X.K p) (mir ds ms1) Q := Po.ext e1 po
        refine ⟨p, F1, ds, ms1, by rw [List.append_nil, q1.length]; exact hn _ _ _ _ r, e1.hs, by rw [List.append_nil]; exact q1, ?_⟩
        cases r2 : mir ds ms1 with
        | ok x ms' => rw [r2] at po1; exact po1
        | ex c ms' => exact absurd r2 (hne _ _ _ _)
        | bad => rw [r2] at po1; exact po1
    · rw [if_neg q] at po
      exact po.elim
  next => exact po.elim

/-! ### subscripts -/
theorem IxR.or {r r' : R2} (h : IxR X r) (h' : IxR X r') : IxR X (fun x y H Q => r x y H Q ∨ r' x y H Q) := fun value slice pins s σ H x y v u Q I rx ry hh hs => hh.elim (fun q => h value slice pins s σ H x y v u Q I rx ry q hs) fun q => h' value slice pins s σ H x y v u Q I rx ry q hs
theorem Dts.at {K : PySem.W.Frag} {p : Option Addr} {F : Hp} {xs : List V} {ds : List D} {i : Int} {d : D} (r : Dts K p F xs ds) (h : atI ds i = some d) : ∃ v, atI xs i = some v ∧ Dt K p F v d := by
  unfold atI at h ⊢
  rw [r.length]
  cases e : ixN ds.length i with
  | none => rw [e] at h; cases h
  | some j =>
    rw [e] at h
    exact r.get h
def gIx : D → D → M D
  | .lst ds, .int i => fun ms => match atI ds i with
    | some d => .ok d ms
    | none => .bad
  | .tup ds, .int i => fun ms => match atI ds i with
    | some d => .ok d ms
    | none => .bad
  | .str x, .int i => fun ms => if x.length ≤ 100000 then (match atI x.cps.toList i with
    | some c => .ok (.str ⟨#[c]⟩) ms
    | none => .bad) else .bad
  | .pot, .int i => fun ms => match atI [ms.a, ms.b, ms.c] i with
    | some d => .ok (.int d) ms
    | none => .bad
  | _, _ => fun _ => .bad
theorem atI_map {α β : Type} {f : α → β} {xs : List α} {i : Int} {x : α} (h : atI xs i = some x) : atI (xs.map f) i = some (f x) := by
  unfold atI at h ⊢
  rw [List.length_map]
  cases e : ixN xs.length i with
  | none => rw [e] at h; cases h
  | some j =>
    rw [e] at h
    show (xs.map f)[j]? = some (f x)
    rw [List.getElem?_map, show xs[j]? = some x from h]
    rfl
theorem je_ix (ha : JB X W a ma) (hb : JB X W b mb) (hs : PlainIx b := by exact fun _ _ => rfl) : JE X W (.Subscript a b pos) (E.op2 gIx ma mb) := by
  obtain ⟨t, h1, h2⟩ := ha
  obtain ⟨u, h3, h4⟩ := hb
  refine ⟨_, pe_ix (IxR.or ix_list (IxR.or ix_tup ix_str)) h1 h3 hs, op2_ok h2 h4 fun W p σ H F ms x y dx dy Q hs bx bY po => ?_⟩
  cases dx with
  | lst ds =>
    cases dy with
    | int i =>
      obtain ⟨c, xs, rfl, k1, r1⟩ := bx.l hs
      have po : Po X.mg W p σ H F (relD X.K p) (match atI ds i with
        | some d => R.ok d ms
        | none => R.bad) Q := po
      cases e1 : atI ds i with
      | none => rw [e1] at po; exact po.elim
      | some d =>
        rw [e1] at po
        obtain ⟨v, hv, q⟩ := r1.at e1
        exact .inl ⟨c, xs, i, v, rfl, bY.i, k1, hv, po.ok hs q⟩
    | _ => exact po.elim
  | tup ds =>
    cases dy with
    | int i =>
      obtain ⟨c, xs, rfl, k1, f1, r1⟩ := bx.t hs
      have po : Po X.mg W p σ H F (relD X.K p) (match atI ds i with
        | some d => R.ok d ms
        | none => R.bad) Q := po
      cases e1 : atI ds i with
      | none => rw [e1] at po; exact po.elim
      | some d =>
        rw [e1] at po
        obtain ⟨v, hv, q⟩ := r1.at e1
        exact .inr (.inl ⟨c, xs, i, v, rfl, bY.i, k1, hv, po.ok hs q⟩)
    | _ => exact po.elim
  | str z =>
    cases dy with
    | int i =>
      cases bx.s
      have po : Po X.mg W p σ H F (relD X.K p) (if z.length ≤ 100000 then (match atI z.cps.toList i with
        | some c => R.ok (D.str ⟨#[c]⟩) ms
        | none => R.bad) else R.bad) Q := po
      by_cases hz : z.length ≤ 100000
      · rw [if_pos hz] at po
        cases e1 : atI z.cps.toList i with
        | none => rw [e1] at po; exact po.elim
        | some c =>
          rw [e1] at po
          exact .inr (.inr ⟨z, i, c, rfl, bY.i, sz5 hz, e1, po.ok hs (.str _)⟩)
      · rw [if_neg hz] at po
        exact po.elim
    | _ => exact po.elim
  | pot =>
    cases dy with
    | int i =>
      have : ∃ c, x = .ref c ∧ p = some c := by
        cases bx with
        | fz h => cases h with
          | pot h => exact ⟨_, rfl, h⟩
      obtain ⟨c, rfl, hp⟩ := this
      have po : Po X.mg W p σ H F (relD X.K p) (match atI [ms.a, ms.b, ms.c] i with
        | some d => R.ok (D.int d) ms
        | none => R.bad) Q := po
      cases e1 : atI [ms.a, ms.b, ms.c] i with
      | none => rw [e1] at po; exact po.elim
      | some d =>
        rw [e1] at po
        exact .inl ⟨c, _, i, .int d, rfl, bY.i, SqL.of (hs.pot c hp), atI_map (f := V.int) e1, po.ok hs (.int _)⟩
    | _ => exact po.elim
  | _ => exact po.elim
/-! slices -/
def JO (X : Cx) (W : WX) (e : Option Expr) (m : SS → M (Option Int)) : Prop := ∃ t, PO X e t ∧ ∀ (p : Option Addr) (B : Hp) (σ : L2.St) (ss : SS) (H F : Hp) (ms : MS) (Q : Option Int → Hp → Prop),
  Sl X.K p B F H σ ss → Hs p F H ms → Po X.mg W p σ H F (fun _ _ (a b : Option Int) => a = b) (m ss ms) Q → t σ H Q
def E.noPart : SS → M (Option Int) := fun _ ms => .ok none ms
def E.part (m : SS → M D) : SS → M (Option Int) := fun ss ms => (m ss ms).bind fun d ms1 => match d with
  | .int i => .ok (some i) ms1
  | _ => .bad
theorem jo_none : JO X W none E.noPart := ⟨_, po_none, fun p B σ ss H F ms Q s hs po => po.ok hs rfl⟩
theorem jo_some (h : JE X W e m) : JO X W (some e) (E.part m) := by
  obtain ⟨t, h1, h2⟩ := h
  refine ⟨_, po_some h1, fun p B σ ss H F ms Q s hs po => ?_⟩
  refine h2 p B σ ss H F ms _ s hs (po.bind fun x ms1 v H1 F1 e1 q1 po1 => ?_)
  cases x with
  | int i => cases q1; exact ⟨i, rfl, po1.ok e1.hs rfl⟩
  | _ => exact po1.elim
def cut {α : Type} (xs : List α) (lo hi : Option Int) : List α := (xs.drop (HT.sIx xs.length 0 lo)).take (HT.sIx xs.length xs.length hi - HT.sIx xs.length 0 lo)
theorem Dts.cut {K : PySem.W.Frag} {p : Option Addr} {F : Hp} {xs : List V} {ds : List D} (r : Dts K p F xs ds) (lo hi : Option Int) : Dts K p F (cutV xs lo hi) (Q.cut ds lo hi) := by
  unfold cutV Q.cut
  rw [r.length]
  exact (r.drop _).take _
def gSl : D → Option Int → Option Int → M D
  | .lst ds, lo, hi => fun ms => .ok (.lst (cut ds lo hi)) ms
  | .tup ds, lo, hi => fun ms => .ok (.tup (cut ds lo hi)) ms
  | .str x, lo, hi => fun ms => if x.length ≤ 100000 then .ok (.str (cutS x lo hi)) ms else .bad
  | _, _, _ => fun _ => .bad
def E.sl (m : SS → M D) (ml mh : SS → M (Option Int)) : SS → M D := fun ss ms => (m ss ms).bind fun x ms1 => (ml ss ms1).bind fun lo ms2 => (mh ss ms2).bind fun hi ms3 => gSl x lo hi ms3
theorem whole_cut {α : Type} {xs : List α} {lo hi : Option Int} (h : HT.sIx xs.length 0 lo = 0 ∧ HT.sIx xs.length xs.length hi = xs.length) : cut xs lo hi = xs := by
  unfold cut
  rw [h.1, h.2]
  simp
theorem je_sl {lo hi : Option Expr} {ml mh : SS → M (Option Int)} {p2 : Pos} (he : JB X W e m) (hl : JO X W lo ml) (hh : JO X W hi mh) : JE X W (.Subscript e (.Slice lo hi none p2) pos) (E.sl m ml mh) := by
  obtain ⟨t, h1, h2⟩ := he
  obtain ⟨u, h3, h4⟩ := hl
  obtain ⟨w, h5, h6⟩ := hh
  refine ⟨_, pe_slice (SlR.or sl_list (SlR.or sl_tupA sl_str)) h1 h3 h5, fun p B σ ss H F ms Q s hs po => ?_⟩
  refine h2 p B σ ss H F ms _ s hs (po.bind fun x ms1 v H1 F1 e1 q1 po1 => ?_)
  refine h4 p B σ ss H1 F1 ms1 _ (s.ext e1) e1.hs (po1.bind fun lo ms2 l H2 F2 e2 q2 po2 => ?_)
  refine h6 p B σ ss H2 F2 ms2 _ ((s.ext e1).ext e2) e2.hs (po2.bind fun hi ms3 h H3 F3 e3 q3 po3 => ?_)
  subst q2
  subst q3
  have b3 := (q1.ext e2).ext e3
  cases x with
  | lst ds =>
    obtain ⟨c, xs, rfl, k1, r1⟩ := b3.l e3.hs
    exact .inl ⟨c, xs, rfl, k1, fun d hd => Po.new (x := D.lst _) po3 e3.hs hd (.lst (SqL.of upd_same) ((r1.cut _ _).mono (Ext.new (p := p) (ms := ms3) e3.hs hd).ff))⟩
  | tup ds =>
    obtain ⟨c, xs, rfl, k1, f1, r1⟩ := b3.t e3.hs
    refine .inr (.inl ⟨c, xs, rfl, k1, fun hw => ?_, fun _ d hd => Po.new (x := D.tup _) po3 e3.hs hd (.tup (SqT.of upd_same) ((r1.cut _ _).mono (Ext.new (p := p) (ms := ms3) e3.hs hd).ff))⟩)
    rw [r1.length] at hw
    refine Po.ok (x := D.tup (cut ds _ _)) po3 e3.hs ?_
    rw [whole_cut hw]
    exact .tup f1 r1
  | str z =>
    cases b3.s
    have po3 : Po X.mg W p σ H3 F3 (relD X.K p) (if z.length ≤ 100000 then R.ok (D.str (cutS z l h)) ms3 else R.bad) Q := po3
    by_cases hz : z.length ≤ 100000
    · rw [if_pos hz] at po3
      exact .inr (.inr ⟨z, rfl, sz5 hz, po3.ok e3.hs (.str _)⟩)
    · rw [if_neg hz] at po3
      exact po3.elim
  | _ => exact po3.elim

/-! ### in -/
def D.flat : D → Bool
  | .non => true
  | .bl _ => true
  | .int _ => true
  | .str _ => true
  | _ => false
def eqF : D → D → Bool
  | .non, .non => true
  | .bl a, .bl b => a == b
  | .bl a, .int b => (if a then 1 else 0) == b
  | .int a, .bl b => a == (if b then 1 else 0)
  | .int a, .int b => a == b
  | .str a, .str b => a == b
  | _, _ => false
theorem flat_v {K : PySem.W.Frag} {p : Option Addr} {F : Hp} {v : V} {d : D} (h : Dt K p F v d) (e : d.flat = true) : flatV v = true := by
  cases h <;> first | rfl | cases e
theorem flats_v {K : PySem.W.Frag} {p : Option Addr} {F : Hp} : ∀ {vs : List V} {ds : List D}, Dts K p F vs ds → ds.all D.flat = true → vs.all flatV = true
  | _, _, .nil, _ => rfl
  | _, _, .cons h r, e => by
    rw [List.all_cons, Bool.and_eq_true] at e
    rw [List.all_cons, flat_v h e.1, flats_v r e.2]
    rfl
theorem eqF_v {K : PySem.W.Frag} {p : Option Addr} {F : Hp} {v u : V} {d c : D} (h : Dt K p F v d) (h' : Dt K p F u c) (e : d.flat = true) (e' : c.flat = true) : eqV v u = eqF d c := by
  cases h <;> first | (cases e; done) | (cases h' <;> first | (cases e'; done) | rfl)
theorem inF_v {K : PySem.W.Frag} {p : Option Addr} {F : Hp} {x : V} {c : D} (h' : Dt K p F x c) (e' : c.flat = true) : ∀ {vs : List V} {ds : List D}, Dts K p F vs ds → ds.all D.flat = true → inV x vs = ds.any fun d => eqF d c
  | _, _, .nil, _ => rfl
  | _, _, .cons h r, e => by
    rw [List.all_cons, Bool.and_eq_true] at e
    have := inF_v h' e' r e.2
    unfold inV at this ⊢
    rw [List.any_cons, List.any_cons, eqF_v h h' e.1 e', this]
def gInSeq (n : Bool) : D → D → M D := fun x y ms => match y with
  | .lst ds => if x.flat = true ∧ ds.all D.flat = true then .ok (.bl (if n then !(ds.any fun d => eqF d x) else ds.any fun d => eqF d x)) ms else .bad
  | .tup ds => if x.flat = true ∧ ds.all D.flat = true then .ok (.bl (if n then !(ds.any fun d => eqF d x) else ds.any fun d => eqF d x)) ms else .bad
  | _ => .bad
def one? (x : Str) : Option Nat := match x.cps.toList with
  | [c] => some c
  | _ => none
theorem one_eq {x : Str} {c : Nat} (h : one? x = some c) : x = ⟨#[c]⟩ := by
  unfold one? at h
  split at h
  next k hk =>
    cases h
    obtain ⟨a⟩ := x
    congr
    exact Array.toList_inj.mp (by rw [hk])
  next => cases h
def gInStr (n : Bool) : D → D → M D := fun x y ms => match x, y with
  | .str a, .str z => match one? a with
    | some c => .ok (.bl (if n then !decide (c ∈ z.cps.toList) else decide (c ∈ z.cps.toList))) ms
    | none => .bad
  | _, _ => .bad
theorem Bw.flat {K : PySem.W.Frag} {p : Option Addr} {F H : Hp} {v : V} {d : D} (b : Bw K p F H v d) (e : d.flat = true) : Dt K p F v d := by
  cases b with
  | fz h => exact h
  | own _ _ _ => cases e
theorem in_seq_ok {n : Bool} {K : PySem.W.Frag} {mg : Str → Option Value} {p : Option Addr} {σ : L2.St} {H F : Hp} {ms : MS} {x y : V} {dx dy : D} {Q : VK} (hs : Hs p F H ms) (bx : Bw K p F H x dx) (bY : Bw K p F H y dy) (po : Po mg W p σ H F (relD K p) (gInSeq n dx dy ms) Q) : rIn K n x y H Q := by
  have fin : ∀ (ds : List D) (xs : List V), Dts K p F xs ds → Po mg W p σ H F (relD K p) (if dx.flat = true ∧ ds.all D.flat = true then R.ok (.bl (if n then !(ds.any fun d => eqF d dx) else ds.any fun d => eqF d dx)) ms else .bad) Q → flatV x = true ∧ xs.all flatV = true ∧ Q (.bl (if n then !inV x xs else inV x xs)) H := by
    intro ds xs r po
    by_cases q : dx.flat = true ∧ ds.all D.flat = true
    · rw [if_pos q] at po
      have d := bx.flat q.1
      exact ⟨flat_v d q.1, flats_v r q.2, by rw [inF_v d q.1 r q.2]; exact po.ok hs (.bl _)⟩
    · rw [if_neg q] at po
      exact po.elim
  cases dy with
  | lst ds =>
    obtain ⟨c, xs, rfl, k1, r1⟩ := bY.l hs
    obtain ⟨h1, h2, h3⟩ := fin ds xs r1 po
    exact ⟨c, xs, rfl, .inl k1, h1, h2, h3⟩
  | tup ds =>
    obtain ⟨c, xs, rfl, k1, f1, r1⟩ := bY.t hs
    obtain ⟨h1, h2, h3⟩ := fin ds xs r1 po
    exact ⟨c, xs, rfl, .inr k1, h1, h2, h3⟩
  | _ => exact po.elim
theorem ok_inSeq : OpOk X (compareOp .In) (gInSeq false) := ⟨_, op_in_seq, fun W p σ H F ms x y dx dy Q hs bx bY po => in_seq_ok hs bx bY po⟩
theorem ok_notInSeq : OpOk X (compareOp .NotIn) (gInSeq true) := ⟨_, op_notIn_seq, fun W p σ H F ms x y dx dy Q hs bx bY po => in_seq_ok hs bx bY po⟩
theorem in_str_inv {n : Bool} {mg : Str → Option Value} {p : Option Addr} {σ : L2.St} {H F : Hp} {rel : Hp → Hp → V → D → Prop} {ms : MS} {dx dy : D} {Q : VK} (po : Po mg W p σ H F rel (gInStr n dx dy ms) Q) :
    ∃ c z, dx = .str ⟨#[c]⟩ ∧ dy = .str z ∧ Po mg W p σ H F rel (.ok (.bl (if n then !decide (c ∈ z.cps.toList) else decide (c ∈ z.cps.toList))) ms) Q := by
  cases dx with
  | str a =>
    cases dy with
    | str z =>
      have po : Po mg W p σ H F rel (match one? a with
        | some c => R.ok (.bl (if n then !decide (c ∈ z.cps.toList) else decide (c ∈ z.cps.toList))) ms
        | none => .bad) Q := po
      cases e : one? a with
      | none => rw [e] at po; exact po.elim
      | some c =>
        rw [e] at po
        cases one_eq e
        exact ⟨c, z, rfl, rfl, po⟩
    | _ => exact po.elim
  | _ => exact po.elim
theorem ok_inStr : OpOk X (compareOp .In) (gInStr false) := by
  refine ⟨_, op_in_sign, fun W p σ H F ms x y dx dy Q hs bx bY po => ?_⟩
  obtain ⟨c, z, rfl, rfl, po⟩ := in_str_inv po
  exact ⟨c, z, bx.s, bY.s, po.ok hs (.bl _)⟩
theorem ok_notInStr : OpOk X (compareOp .NotIn) (gInStr true) := by
  refine ⟨_, op_notIn_sign, fun W p σ H F ms x y dx dy Q hs bx bY po => ?_⟩
  obtain ⟨c, z, rfl, rfl, po⟩ := in_str_inv po
  exact ⟨c, z, bx.s, bY.s, po.ok hs (.bl _)⟩
def gIn : D → D → M D := orG (gInStr false) (gInSeq false)
def gNotIn : D → D → M D := orG (gInStr true) (gInSeq true)
theorem ok_in : OpOk X (compareOp .In) gIn := OpOk.or ok_inStr ok_inSeq
theorem ok_notIn : OpOk X (compareOp .NotIn) gNotIn := OpOk.or ok_notInStr ok_notInSeq
end
end Q

set_option Elab.async false
set_option linter.all false
set_option maxRecDepth 100000
set_option maxHeartbeats 4000000
/-! Qg: join, own lists changed, the pot changed, a written dict asked. -/
namespace Q
open PySem L2 PyProof.Rows
section
variable {X : Cx} {W : WX} {e a b o : Expr} {es : List Expr} {m ma mb mo mk : SS → M D} {pos apos : Pos}
/-! ### join -/
def dstrs : List D → Option (List Str)
  | [] => some []
  | .str x :: r => (dstrs r).map (x :: ·)
  | _ :: _ => none
theorem dstrs_v {K : PySem.W.Frag} {p : Option Addr} {F : Hp} : ∀ {vs : List V} {ds : List D} {ys : List Str}, Dts K p F vs ds → dstrs ds = some ys → vs = ys.map V.str
  | _, _, _, .nil, e => by cases e; rfl
  | _, _, _, .cons (d := d) (ds := ds) h r, e => by
    cases h with
    | str x =>
      unfold dstrs at e
      cases e1 : dstrs ds with
      | none => rw [e1] at e; cases e
      | some ys => rw [e1] at e; cases e; rw [dstrs_v r e1]; rfl
    | _ => cases e
def gJoin (z : Str) : D → M D := fun y ms => match y with
    | .lst ds => (match dstrs ds with
      | some ys => if (ys.map (·.length)).sum + ys.length * z.length ≤ 100000 then .ok (.str (Txt.join z ys)) ms else .bad
      | none => .bad)
    | _ => .bad
theorem je_join {z : Str} {j : Nat} {p1 : Pos} (he : JB X W e m) (hs : starEach [e] X.env = [(false, eval e X.env)] := by rfl) (hbase : attributeBase (.Constant (.str z) j p1) "join" X.env (eval (.Constant (.str z) j p1) X.env) = eval (.Constant (.str z) j p1) X.env := by rfl) (hline : (apos.endLine == pos.line) = true := by rfl) :
    JE X W (.Call (.Attribute (.Constant (.str z) j p1) "join" apos) [e] [] pos) (E.op1 (gJoin z) m) := by
  obtain ⟨u, h3, h4⟩ := he
  refine ⟨_, pe_join pe_str h3 hs hbase hline, fun p B σ ss H F ms Q s hs po => ⟨⟨z, rfl⟩, ?_⟩⟩
  refine h4 p B σ ss H F ms _ s hs (po.bind fun y ms2 u H2 F2 e2 q2 po2 => ?_)
  cases y with
  | lst ds =>
    obtain ⟨c, xs, rfl, k1, r1⟩ := q2.l e2.hs
    have po2 : Po X.mg W p σ H2 F2 (relD X.K p) (match dstrs ds with
      | some ys => if (ys.map (·.length)).sum + ys.length * z.length ≤ 100000 then R.ok (.str (Txt.join z ys)) ms2 else .bad
      | none => .bad) Q := po2
    cases e3 : dstrs ds with
    | none => rw [e3] at po2; exact po2.elim
    | some ys =>
      rw [e3] at po2
      have po3 : Po X.mg W p σ H2 F2 (relD X.K p) (if (ys.map (·.length)).sum + ys.length * z.length ≤ 100000 then R.ok (.str (Txt.join z ys)) ms2 else .bad) Q := po2
      by_cases hz : (ys.map (·.length)).sum + ys.length * z.length ≤ 100000
      · rw [if_pos hz] at po3
        cases dstrs_v r1 e3
        exact ⟨z, c, ys, rfl, rfl, .inl k1, Nat.le_trans hz (by decide), po3.ok e2.hs (.str _)⟩
      · rw [if_neg hz] at po3
        exact po3.elim
  | _ => exact po2.elim
/-! ### own lists -/
namespace S
def append (i : Nat) (m : SS → M D) : SS → MS → O := fun ss ms => match ss[i]? with
  | some (some (.own ds)) => (m ss ms).o ss fun d ms1 => if ds.length < 100000 then .nx (ss.set i (some (.own (ds ++ [d])))) ms1 else .bad
  | _ => .bad
def putMS (ms : MS) (i : Nat) (z : Int) : MS := match i with
  | 0 => { ms with a := z }
  | 1 => { ms with b := z }
  | _ => { ms with c := z }
/-- x[k] = v, x an own list or the pot -/
def setIx (i : Nat) (mk me : SS → M D) : SS → MS → O := fun ss ms => match ss[i]? with
  | some (some (.own ds)) => (me ss ms).o ss fun d ms1 => (mk ss ms1).o ss fun k ms2 => (match k with
    | .int k => (match ixN ds.length k with
      | some j => .nx (ss.set i (some (.own (ds.set j d)))) ms2
      | none => .bad)
    | _ => .bad)
  | some (some (.dat .pot)) => (me ss ms).o ss fun d ms1 => (mk ss ms1).o ss fun k ms2 => (match k with
    | .int k => (match ixN 3 k with
      | some j => (match d with
        | .int z => .nx ss (putMS ms2 j z)
        | _ => .bad)
      | none => .bad)
    | _ => .bad)
  | _ => .bad
end S
theorem slot_of {K : PySem.W.Frag} {p : Option Addr} {B F H : Hp} {σ : L2.St} {ss : SS} {i : Nat} {sv : Option SV} (s : Sl K p B F H σ ss) (h : ss[i]? = some sv) : ∃ v, σ[i]? = some v ∧ SlOk K p B F H v sv := by
  have hi : i < σ.length := by
    rw [s.len]
    exact (List.getElem?_eq_some_iff.mp h).1
  exact ⟨σ[i], List.getElem?_eq_getElem hi, s.ok i _ _ h (List.getElem?_eq_getElem hi)⟩
theorem js_append {i : Nat} {cpos : Pos} (ho : PE X o (tVar i)) (he : JE X W e m) (hbase : attributeBase o "append" X.env (eval o X.env) = eval o X.env := by rfl)
    (hfew : ((backTo cpos (starEach [e] X.env)).all (fun x => !x.1) && (backToKw cpos (keywordEach [] X.env)).all (fun x => x.1.isSome) && decide ([e].length + ([] : List Keyword).length + (if ([] : List Keyword).isEmpty then 0 else 1) < 30)) = true := by rfl)
    (hline : (apos.endLine == cpos.line) = true := by rfl) (hs : starEach [e] X.env = (false, eval e X.env) :: starEach [] X.env := by rfl) (hplain : (backTo cpos (starEach [] X.env)).any (·.1) = false := by rfl)
    (hsw : swapsWith (.Call (.Attribute o "append" apos) [e] [] cpos) none pos.line X.env = pure false := by rfl) :
    JS X W (.Expr (.Call (.Attribute o "append" apos) [e] [] cpos) pos) (S.append i m) := by
  obtain ⟨t, h1, h2⟩ := he
  refine ⟨_, ps_expr (pe_bm PySem.F.plainAttrs_list PySem.F.slot_list_append PySem.F.type_list_append mt_append ho (pa_cons h1 pa_nil hs) hbase hfew hline hs hplain) hsw, fun p B F0 σ ss H F ms En fm po => ?_⟩
  unfold S.append at po
  split at po
  next ds key =>
    obtain ⟨v, hv, c, xs, e1, k1, k2, k3, k4, k5⟩ := slot_of fm.sl key
    subst e1
    refine ⟨.ref c, hv, .inl ⟨rfl, xs, SqL.of k1⟩, ?_⟩
    refine h2 p B σ ss H F ms _ fm.sl fm.ex.hs (fm.po po fun x ms1 v H1 F1 fm1 e1 q po2 => ?_)
    by_cases hz : ds.length < 100000
    · rw [if_pos hz] at po2
      have k1' := e1.kp _ _ k1 k4
      have r1 := k5.mono e1.ff
      refine ⟨c, xs, v, rfl, rfl, k1', by rw [k5.length]; exact sz5lt hz, po2 σ _ F1 ⟨fm1.sl.chg key hv (r1.snoc q), fm1.ex.chg (e1.nf _ _ k1 k2) k3 k4⟩⟩
    · rw [if_neg hz] at po2
      exact po2.elim
  next => exact po.elim
theorem set3 {ms : MS} {j : Nat} {z : Int} (hj : j < 3) : ([V.int ms.a, V.int ms.b, V.int ms.c] : List V).set j (.int z) = [V.int (S.putMS ms j z).a, V.int (S.putMS ms j z).b, V.int (S.putMS ms j z).c] := by
  match j, hj with
  | 0, _ => rfl
  | 1, _ => rfl
  | 2, _ => rfl
/-- the pot changes -/
theorem Ext.pot {p : Option Addr} {B F0 H F : Hp} {ms ms' : MS} {a : Addr} (e : Ext p B F0 H F ms) (hp : p = some a) : Ext p B F0 (upd H a (.lst [.int ms'.a, .int ms'.b, .int ms'.c])) F ms' :=
  ⟨e.ff, e.nf, fun b u hb np => by rw [upd_ne (show b ≠ a from fun z => np (z ▸ hp))]; exact e.kp b u hb np, ⟨fun b u q => by rw [upd_ne (ne_of_none q (e.hs.pf a hp))]; exact e.hs.fh b u q, fun b q => by
    rw [hp] at q
    cases q
    exact upd_same, e.hs.pf⟩⟩
theorem Sl.pot {K : PySem.W.Frag} {p : Option Addr} {B F H : Hp} {σ : L2.St} {ss : SS} {a : Addr} {o : HO} (s : Sl K p B F H σ ss) (hp : p = some a) : Sl K p B F (upd H a o) σ ss := by
  refine ⟨s.len, fun i sv v h1 h2 => ?_, s.ap⟩
  have q := s.ok i sv v h1 h2
  match sv, q with
  | none, _ => trivial
  | some (.dat d), ⟨u, e1, q⟩ => exact ⟨u, e1, q⟩
  | some (.own ds), ⟨c, xs, e1, h, hf, hb, n, r⟩ => exact ⟨c, xs, e1, by rw [upd_ne (show c ≠ a from fun z => n (z ▸ hp))]; exact h, hf, hb, n, r⟩
theorem js_setIx {i : Nat} {tpos : Pos} (ho : PE X o (tVar i)) (hk : JE X W a mk) (he : JE X W e m)
    (ha : ∀ v, assign (.Subscript o a tpos) X.env v = (do
      let ov ← holding [v] (eval o X.env)
      let iv ← holding [v, ov] (eval a X.env)
      standAt tpos
      holding [v, ov, iv] (setItem ov iv v)
      release [v, ov, iv] []) := by intro _; rfl)
    (hs : swapsWithSole [.Subscript o a tpos] e pos.line X.env = pure false := by rfl) (hw : swappedStores [.Subscript o a tpos] e X.env = pure none := by rfl) (h1 : (assignEach [.Subscript o a tpos] X.env).map (·.2) = [assign (.Subscript o a tpos) X.env] := by rfl) :
    JS X W (.Assign [.Subscript o a tpos] e pos) (S.setIx i mk m) := by
  obtain ⟨t, he1, he2⟩ := he
  obtain ⟨u, hk1, hk2⟩ := hk
  refine ⟨_, ps_asg he1 (pg_sub ho hk1 set_list ha) hs hw h1, fun p B F0 σ ss H F ms En fm po => ?_⟩
  unfold S.setIx at po
  split at po
  next ds key =>
    refine he2 p B σ ss H F ms _ fm.sl fm.ex.hs (fm.po po fun x ms1 v H1 F1 fm1 e1 q1 po1 => ?_)
    obtain ⟨v0, hv, c, xs, e0, k1, k2, k3, k4, k5⟩ := slot_of fm1.sl key
    subst e0
    refine ⟨.ref c, hv, hk2 p B σ ss H1 F1 ms1 _ fm1.sl fm1.ex.hs (fm1.po po1 fun k ms2 u H2 F2 fm2 e2 q2 po2 => ?_)⟩
    cases k with
    | int k =>
      cases q2
      have po2 : PoS X.K X.mg W p B F0 (match ixN ds.length k with
        | some j => O.nx (ss.set i (some (.own (ds.set j x)))) ms2
        | none => O.bad) En := po2
      cases ej : ixN ds.length k with
      | none => rw [ej] at po2; exact po2.elim
      | some j =>
        rw [ej] at po2
        have r2 := k5.mono e2.ff
        exact ⟨c, xs, k, j, rfl, rfl, e2.kp _ _ k1 k4, by rw [k5.length]; exact ej, po2 σ _ F2 ⟨fm2.sl.chg key hv (r2.set (q1.mono e2.ff) j), fm2.ex.chg (e2.nf _ _ k1 k2) k3 k4⟩⟩
    | _ => exact po2.elim
  next key =>
    refine he2 p B σ ss H F ms _ fm.sl fm.ex.hs (fm.po po fun x ms1 v H1 F1 fm1 e1 q1 po1 => ?_)
    obtain ⟨v0, hv, u0, e0, k1⟩ := slot_of fm1.sl key
    subst e0
    cases k1 with
    | pot hp =>
      refine ⟨_, hv, hk2 p B σ ss H1 F1 ms1 _ fm1.sl fm1.ex.hs (fm1.po po1 fun k ms2 u H2 F2 fm2 e2 q2 po2 => ?_)⟩
      cases k with
      | int k =>
        cases q2
        have po2 : PoS X.K X.mg W p B F0 (match ixN 3 k with
          | some j => (match (generalizing := false) x with
            | .int z => O.nx ss (S.putMS ms2 j z)
            | _ => O.bad)
          | none => O.bad) En := po2
        cases ej : ixN 3 k with
        | none => rw [ej] at po2; exact po2.elim
        | some j =>
          rw [ej] at po2
          cases x with
          | int z =>
            cases q1
            have hj : j < 3 := (ixN_seq ej).2.1
            refine ⟨_, _, k, j, rfl, rfl, fm2.ex.hs.pot _ hp, ej, ?_⟩
            rw [set3 hj]
            exact po2 σ _ F2 ⟨fm2.sl.pot hp, fm2.ex.pot hp⟩
          | _ => exact po2.elim
      | _ => exact po2.elim
  next => exact po.elim
/-! ### a written dict asked for a text -/
def gInK (ks : List Str) : D → M D
  | .str x => fun ms => .ok (.bl (decide (x ∈ ks))) ms
  | _ => fun _ => .bad
def E.inK (ks : List Str) (m : SS → M D) : SS → M D := E.op1 (gInK ks) m
/-- d a written dict whose keys are the texts ks -/
structure KD (K : PySem.W.Frag) (w : World) (d : Addr) (ks : List Str) : Prop where
  ex : ∃ es n, KDict K w d es n ∧ ∀ z : Str, ∃ r, PySem.W.nsIn K d z = some r ∧ r.isSome = decide (z ∈ ks)
theorem je_inK {x : Str} {d : Addr} {ks : List Str} {p0 : Pos} (hk : KD X.K X.w d ks) (hm : X.mg x = some (.ref d)) (he : JE X W e m) (hg : Gl X x := by rfl) (hd : (x == ("__debug__" : Str)) = false := by decide) (hb : behindInMarks .In (.Name x p0) = false := by rfl) : JE X W (.Compare e [.In] [.Name x p0] pos) (E.inK ks m) := by
  obtain ⟨t, h1, h2⟩ := he
  obtain ⟨es, n, kd, look⟩ := hk.ex
  refine ⟨_, pe_cmpR (op_in_kd kd) h1 (pe_glob (v := .ref d) hg hm rfl hd) hb, fun p B σ ss H F ms Q s hs po => ?_⟩
  refine h2 p B σ ss H F ms _ s hs (po.bind fun y ms1 v H1 F1 e1 q1 po1 => ?_)
  cases y with
  | str z =>
    cases q1
    obtain ⟨r, hr, hz⟩ := look z
    refine ⟨z, r, rfl, rfl, hr, ?_⟩
    rw [hz]
    exact Po.ok (x := D.bl (decide (z ∈ ks))) po1 e1.hs (.bl _)
  | _ => exact po1.elim
theorem jt_inK {x : Str} {d : Addr} {ks : List Str} {p0 : Pos} (hk : KD X.K X.w d ks) (hm : X.mg x = some (.ref d)) (he : JE X W e m) (hg : Gl X x := by rfl) (hd : (x == ("__debug__" : Str)) = false := by decide) (hb : behindInMarks .In (.Name x p0) = false := by rfl) : JT X W (.Compare e [.In] [.Name x p0] pos) (E.test (E.inK ks m)) := by
  obtain ⟨t, h1, h2⟩ := he
  obtain ⟨es, n, kd, look⟩ := hk.ex
  refine ⟨_, pt_cmpR (op_in_kd kd) h1 (pe_glob (v := .ref d) hg hm rfl hd) hb, test_ok fun p B σ ss H F ms Q s hs po => ?_⟩
  refine h2 p B σ ss H F ms _ s hs (po.bind fun y ms1 v H1 F1 e1 q1 po1 => ?_)
  cases y with
  | str z =>
    cases q1
    obtain ⟨r, hr, hz⟩ := look z
    refine ⟨z, r, rfl, rfl, hr, ?_⟩
    rw [hz]
    exact Po.ok (x := D.bl (decide (z ∈ ks))) po1 e1.hs (.bl _)
  | _ => exact po1.elim
end
end Q

set_option Elab.async false
set_option linter.all false
set_option maxRecDepth 100000
set_option maxHeartbeats 4000000
/-! Qh: a program's defs, bundled. -/
namespace Q
open PySem L2 PyProof.Rows
/-- the def x of the text as it stands behind the top -/
structure Df (K : PySem.W.Frag) (mg : Str → Option Value) (x : Str) (st : Stmt) (ps : List Str) : Prop where
  ex : ∃ f fd, Fun K x x st f fd ∧ mg x = some (.ref f) ∧ Binds K fd ps []
/-- the def x keeps to its mirror -/
structure Fn (P : Program) (w : World) (K : PySem.W.Frag) (mg : Str → Option Value) (base : Heap) (x : Str) (k : Nat) (ps : List Str) (mir : List D → M D) : Prop where
  ex : ∃ f fd, FnM P w K mg base k f fd ps mir ∧ mg x = some (.ref f) ∧ PySem.W.keepIn K (.ref f) = true ∧ Binds K fd ps []
def Len (mr : SS → M (List D)) (n : Nat) : Prop := ∀ (ss : SS) (ms : MS) (ds : List D) (ms' : MS), mr ss ms = .ok ds ms' → ds.length = n
theorem lenN : Len E.nil 0 := fun ss ms ds ms' h => by cases h; rfl
theorem lenC {a : SS → M D} {r : SS → M (List D)} {n : Nat} (h : Len r n) : Len (E.cons a r) (n + 1) := fun ss ms ds ms' e => by
  unfold E.cons at e
  cases r1 : a ss ms with
  | bad => rw [r1] at e; cases e
  | ex c ms1 => rw [r1] at e; cases e
  | ok x ms1 =>
    rw [r1, R.bind_ok] at e
    cases r2 : r ss ms1 with
    | bad => rw [r2] at e; cases e
    | ex c ms1 => rw [r2] at e; cases e
    | ok xs ms2 =>
      rw [r2] at e
      cases e
      exact congrArg (· + 1) (h ss ms1 _ _ r2)
section
variable {P : Program} {w : World} {K : PySem.W.Frag} {mg : Str → Option Value} {base : Heap}
theorem fnm_bad {f : Addr} {fd : FuncData} {k : Nat} {ps : List Str} : FnM P w K mg base k f fd ps (fun _ _ => .bad) := by
  have no : ∀ vs H Q E, ¬ spM K mg ps.length (fun _ _ => .bad) vs H Q E := fun vs H Q E h => by
    obtain ⟨p, F, ds, ms, _, _, _, h⟩ := h
    exact h
  exact ⟨fun vs H Q E h => absurd h (no vs H Q E), fun A outer s H args us vs Q E _ _ _ _ h => absurd h (no vs H Q E)⟩
theorem Fn.bad {x : Str} {st : Stmt} {k : Nat} {ps : List Str} (d : Df K mg x st ps) : Fn P w K mg base x k ps (fun _ _ => .bad) := by
  obtain ⟨f, fd, h1, h2, h3⟩ := d.ex
  exact ⟨f, fd, fnm_bad, h2, h1.kp, h3⟩
theorem Fn.mono {x : Str} {j k : Nat} {ps : List Str} {mir : List D → M D} (F : Fn P w K mg base x j ps mir) (h : j ≤ k) : Fn P w K mg base x k ps mir := by
  obtain ⟨f, fd, h1, h2⟩ := F.ex
  exact ⟨f, fd, h1.mono h, h2⟩
theorem Fn.of {x : Str} {st : Stmt} {N ps : List Str} {k : Nat} {m : SS → MS → O} (d : Df K mg x st ps) (S : FnScope N ps (defScope st))
    (hbody : ∀ (f : Addr) (cdv : Value) (A : Around) (outer : List Env) (s : Shared) (H : Hp) (E : XK), Room k (A.deeper (envOfC x (defScope st) s.heap.objs.size f cdv)) →
      ∀ (W : WX), Takes (cxOf (L2.CX P w) P w K mg base N x (defScope st) f cdv A outer s H E) W →
        JSs (cxOf (L2.CX P w) P w K mg base N x (defScope st) f cdv A outer s H E) W (defBody st) m) : Fn P w K mg base x (k + 1) ps (mirOf N.length m) := by
  obtain ⟨f, fd, h1, h2, h3⟩ := d.ex
  exact ⟨f, fd, fnm_of h1 S fun cdv A outer s H E hr W _ tk => hbody f cdv A outer s H E hr W tk, h2, h1.kp, h3⟩
end
section
variable {X : Cx} {W : WX} {e : Expr} {es : List Expr} {pos : Pos}
theorem je_callF {k : Nat} {ps : List Str} {mir : List D → M D} {mr : SS → M (List D)} {x : Str} {p0 : Pos} (G : Fn X.prog X.w X.K X.mg X.base x k ps mir) (tk : Takes X W) (hr : Room k X.A) (ha : JA X W (e :: es) mr) (hn : Len mr ps.length) (hg : Gl X x := by rfl)
    (hdb : (x == ("__debug__" : Str)) = false := by decide) (he : starEach (e :: es) X.env = (false, eval e X.env) :: starEach es X.env := by rfl) (hpl : (backTo pos (starEach es X.env)).any (·.1) = false := by rfl) : JE X W (.Call (.Name x p0) (e :: es) [] pos) (E.fnA mir mr) := by
  obtain ⟨f, fd, h1, h2, h3, h4⟩ := G.ex
  exact je_call tk h1 hr hg h2 h3 h4 ha hdb he hpl hn
end
end Q

set_option Elab.async false
set_option linter.all false
set_option maxRecDepth 100000
set_option maxHeartbeats 4000000
/-! Qi: further words; a def that hands back a new list; a pot laid in a loop's turn. -/
namespace Q
open PySem L2 PyProof.Rows
section
variable {X : Cx} {W : WX} {e : Expr} {es : List Expr} {pos : Pos} {m : SS → M D}
def gNeg : D → M D
  | .int i => fun ms => .ok (.int (-i)) ms
  | _ => fun _ => .bad
theorem je_neg (h : JB X W e m) : JE X W (.UnaryOp .USub e pos) (E.op1 gNeg m) := by
  obtain ⟨t, h1, h2⟩ := h
  refine ⟨_, pe_un un_neg h1, fun p B σ ss H F ms Q s hs po => ?_⟩
  refine h2 p B σ ss H F ms _ s hs (po.bind fun x ms1 v H1 F1 e1 q1 po1 => ?_)
  cases x with
  | int i => cases q1.i; exact ⟨i, rfl, Po.ok (x := D.int (-i)) po1 e1.hs (.int _)⟩
  | _ => exact po1.elim
def E.c0 (d : D) : SS → M D := fun _ ms => .ok d ms
theorem je_dnew : JE X W (.Dict [] [] pos) (E.c0 (.dct [] [])) := by
  refine ⟨_, pe_dnewK, fun p B σ ss H F ms Q s hs po => ?_⟩
  intro d hd
  exact Po.new (x := D.dct [] []) po hs hd (.dct (ks := []) (xs := []) (.inl upd_same) rfl .nil)
theorem pe_callLS {CX : CXT} {k i : Nat} {f : Addr} {fd : FuncData} {ps : List Str} {sp : Sp} {E : L2.St → XK} {x : Str} {p0 : Pos} {t : TA} (F : FnOk X.prog X.w X.K X.mg X.base CX k f fd ps sp) (hr : Room k X.A) (hN : X.N[i]? = some x) (hv : Vis X.env.scope x) (hk : PySem.W.keepIn X.K (.ref f) = true) (hb : Binds X.K fd ps []) (hx : ∀ σ, PassesAt CX X σ (E σ)) (ha : PA X (e :: es) t)
    (hdb : (x == ("__debug__" : Str)) = false := by decide) (hcd : (x == ("__classdict__" : Str)) = false := by decide)
    (he : starEach (e :: es) X.env = (false, eval e X.env) :: starEach es X.env := by rfl) (hpl : (backTo pos (starEach es X.env)).any (·.1) = false := by rfl) : PE X (.Call (.Name x p0) (e :: es) [] pos) (fun σ H Q => σ[i]? = some (some (.ref f)) ∧ tCallS sp E t σ H Q) := by
  refine ⟨fun pins s σ H Q I h => ?_⟩
  obtain ⟨hs, ht⟩ := h
  refine wpAny_Call_Name_kw (thn ((pe_var (pos := p0) hN hv hdb hcd).run pins s σ H (fun v H1 => v = .ref f ∧ H1 = H) I ⟨.ref f, hs, rfl, rfl⟩) fun u s1 ⟨v, H1, I1, r1, q1⟩ => ?_)
  obtain ⟨rfl, rfl⟩ := q1
  cases r1
  refine PySem.W.callWith_K (h₀ := X.base) I.ok.mod.kin hk (thn (ha.run pos pins s1 σ _ _ I1 ht) fun us s2 ⟨vs, H2, I2, r, q⟩ => ⟨I2.kIn, ?_⟩) he hpl
  exact run_fnS F hr hb (hx σ) I2 r q
theorem je_callFL {k i : Nat} {x' : Str} {ps : List Str} {mir : List D → M D} {mr : SS → M (List D)} {x : Str} {p0 : Pos} (G : Fn X.prog X.w X.K X.mg X.base x' k ps mir) (f : Addr) (hf : X.mg x' = some (.ref f)) (tk : Takes X W) (hr : Room k X.A)
    (ha : JA X W (e :: es) mr) (hn : Len mr ps.length) (hN : X.N[i]? = some x := by rfl) (hv : Vis X.env.scope x := by first | exact Or.inl rfl | exact Or.inr (Or.inl rfl) | exact Or.inr (Or.inr rfl)) (hdb : (x == ("__debug__" : Str)) = false := by decide) (hcd : (x == ("__classdict__" : Str)) = false := by decide)
    (he : starEach (e :: es) X.env = (false, eval e X.env) :: starEach es X.env := by rfl) (hpl : (backTo pos (starEach es X.env)).any (·.1) = false := by rfl) : JE X W (.Call (.Name x p0) (e :: es) [] pos) (E.callL i f mir mr) := by
  obtain ⟨t, h1, h2⟩ := ha
  obtain ⟨f', fd, g1, g2, g3, g4⟩ := G.ex
  rw [hf] at g2
  cases g2
  refine ⟨_, pe_callLS (i := i) g1 hr hN hv g3 g4 (fun σ => passAt tk σ) h1 hdb hcd he hpl, fun p B σ ss H F ms Q s hs po => ?_⟩
  unfold E.callL at po
  split at po
  next g hg =>
    by_cases q : g = f
    · subst q
      rw [if_pos rfl] at po
      have hi : i < σ.length := by
        rw [s.len]
        exact (List.getElem?_eq_some_iff.mp hg).1
      obtain ⟨u, e1, q⟩ := s.ok i _ _ hg (List.getElem?_eq_getElem hi)
      cases q
      refine ⟨by rw [List.getElem?_eq_getElem hi, e1], ?_⟩
      cases r : mr ss ms with
      | bad => rw [r] at po; exact po.elim
      | ex c ms' => rw [r] at po; exact h2 p B σ ss H F ms _ s hs (by rw [r]; exact po)
      | ok ds ms1 =>
        rw [r] at po
        refine h2 p B σ ss H F ms _ s hs ?_
        rw [r]
        intro vs H1 F1 e1 q1
        have po1 : Po X.mg W p σ H1 F1 (relD X.K p) (mir ds ms1) Q := Po.ext e1 po
        refine ⟨p, F1, ds, ms1, by rw [q1.length]; exact hn _ _ _ _ r, e1.hs, q1, ?_⟩
        cases r2 : mir ds ms1 with
        | ok x ms' => rw [r2] at po1; exact po1
        | ex c ms' => rw [r2] at po1; exact po1
        | bad => rw [r2] at po1; exact po1
    · rw [if_neg q] at po
      exact po.elim
  next => exact po.elim
end

/-! ### a def that hands back a new list -/
def spN (K : PySem.W.Frag) (n : Nat) (mir : List D → M D) : Sp := fun vs H Q E => ∃ (p : Option Addr) (F : Hp) (ds : List D) (ms : MS), vs.length = n ∧ Hs p F H ms ∧ Dts K p F vs ds ∧ ∃ es ms', mir ds ms = .ok (.lst es) ms' ∧
  ∀ a xs H' F', Ext p H F H' F' ms' → H a = none → p ≠ some a → H' a = some (.lst xs) → F' a = none → Dts K p F' xs es → Q (.ref a) H'
structure FnN (P : Program) (w : World) (K : PySem.W.Frag) (mg : Str → Option Value) (base : Heap) (x : Str) (k : Nat) (ps : List Str) (mir : List D → M D) : Prop where
  ex : ∃ f fd, FnOk P w K mg base (L2.CX P w) k f fd ps (spN K ps.length mir) ∧ mg x = some (.ref f) ∧ PySem.W.keepIn K (.ref f) = true ∧ Binds K fd ps []
def PoN (K : PySem.W.Frag) (p : Option Addr) (B F0 : Hp) (o : O) (Q : VK) : Prop := match o with
  | .rt (.lst es) ms' => ∀ a xs H' F', Ext p B F0 H' F' ms' → B a = none → p ≠ some a → H' a = some (.lst xs) → F' a = none → Dts K p F' xs es → Q (.ref a) H'
  | _ => False
def JSN (X : Cx) (W : WX) (sts : List Stmt) (m : SS → MS → O) : Prop := ∃ t, PSs X sts t ∧ ∀ (p : Option Addr) (B F0 : Hp) (σ : L2.St) (ss : SS) (H F : Hp) (ms : MS) (En : Ends),
  Fm X.K p B F0 F H σ ss ms → PoN X.K p B F0 (m ss ms) En.rt → t En σ H
def NoRt (m : SS → MS → O) : Prop := ∀ ss ms d ms', m ss ms ≠ .rt d ms'
theorem nort_nil : NoRt S.nil := fun ss ms d ms' h => by cases h
theorem nort_set {i : Nat} {m : SS → M D} : NoRt (S.set i m) := fun ss ms d ms' h => by
  unfold S.set at h
  cases r : m ss ms with
  | ok x ms1 => rw [r] at h; cases h
  | ex c ms1 => rw [r] at h; cases h
  | bad => rw [r] at h; cases h
theorem nort_ife {t : SS → M Bool} {a b : SS → MS → O} (ha : NoRt a) (hb : NoRt b) : NoRt (S.ife t a b) := fun ss ms d ms' h => by
  unfold S.ife at h
  cases r : t ss ms with
  | ok x ms1 =>
    rw [r, R.o_ok] at h
    cases x with
    | true => rw [if_pos rfl] at h; exact ha _ _ _ _ h
    | false => rw [if_neg Bool.false_ne_true] at h; exact hb _ _ _ _ h
  | ex c ms1 => rw [r] at h; cases h
  | bad => rw [r] at h; cases h
theorem jsn_ret {X : Cx} {W : WX} {e : Expr} {me : SS → M D} {pos : Pos} (h : JN X W e me) : JSN X W [.Return (some e) pos] (S.ret me) := by
  obtain ⟨t, h1, h2⟩ := h
  refine ⟨_, pss_one (ps_ret h1), fun p B F0 σ ss H F ms En fm po => ?_⟩
  unfold S.ret at po
  refine h2 p B σ ss H F ms _ fm.sl fm.ex.hs ?_
  cases r : me ss ms with
  | bad => rw [r] at po; exact po.elim
  | ex c ms1 => rw [r] at po; exact po.elim
  | ok d ms1 =>
    rw [r] at po
    intro v H1 F1 e1 q
    obtain ⟨a, xs, ds, rfl, rfl, ha, n, h', f', q⟩ := q
    exact po a xs H1 F1 (fm.ex.trans e1) (fm.ex.back ha) n h' f' q
theorem jsn_cons {X : Cx} {W : WX} {st : Stmt} {sts : List Stmt} {m1 m2 : SS → MS → O} (h1 : JS X W st m1) (h2 : JSN X W sts m2) (nr : NoRt m1) : JSN X W (st :: sts) (S.seq m1 m2) := by
  obtain ⟨t, h1, h3⟩ := h1
  obtain ⟨u, h2, h4⟩ := h2
  refine ⟨_, pss_cons h1 h2, fun p B F0 σ ss H F ms En fm po => ?_⟩
  refine h3 p B F0 σ ss H F ms _ fm ?_
  unfold S.seq at po
  cases r : m1 ss ms with
  | nx ss1 ms1 => rw [r] at po; exact fun σ1 H1 F1 fm1 => h4 p B F0 σ1 ss1 H1 F1 ms1 En fm1 po
  | rt d ms1 => exact absurd r (nr _ _ _ _)
  | bk ss1 ms1 => rw [r] at po; exact po.elim
  | ct ss1 ms1 => rw [r] at po; exact po.elim
  | ex c ss1 ms1 => rw [r] at po; exact po.elim
  | bad => rw [r] at po; exact po.elim
section
variable {P : Program} {w : World} {K : PySem.W.Frag} {mg : Str → Option Value} {base : Heap}
theorem FnN.of {x : Str} {st : Stmt} {N ps : List Str} {k : Nat} {m : SS → MS → O} (d : Df K mg x st ps) (S : FnScope N ps (defScope st))
    (hbody : ∀ (f : Addr) (cdv : Value) (A : Around) (outer : List Env) (s : Shared) (H : Hp) (E : XK), Room k (A.deeper (envOfC x (defScope st) s.heap.objs.size f cdv)) →
      ∀ (W : WX), Takes (cxOf (L2.CX P w) P w K mg base N x (defScope st) f cdv A outer s H E) W →
        JSN (cxOf (L2.CX P w) P w K mg base N x (defScope st) f cdv A outer s H E) W (defBody st) m) : FnN P w K mg base x (k + 1) ps (mirOf N.length m) := by
  obtain ⟨f, fd, h1, h2, h3⟩ := d.ex
  refine ⟨f, fd, ?_, h2, h1.kp, h3⟩
  refine h1.okX S (fun vs H Q E h => ?_) (fun cdv A outer s H vs Q E hr h => ?_)
  · obtain ⟨p, F, ds, ms, hl, _⟩ := h
    exact hl
  obtain ⟨p, F, ds, ms, hl, hs, q, es, ms', hm, k⟩ := h
  obtain ⟨t, g1, g2⟩ := hbody f cdv A outer s H E hr (fun cls d _ H => E cls d H) (takes_of rfl rfl rfl rfl)
  refine ⟨t, g1, g2 p H F (L2.start N vs) (begin N.length ds) H F ms _ ⟨begin_sl q, Ext.refl hs⟩ ?_⟩
  unfold mirOf at hm
  cases r : m (begin N.length ds) ms with
  | rt d ms1 =>
    rw [r] at hm
    cases hm
    exact k
  | nx ss1 ms1 => rw [r] at hm; cases hm
  | ex c ss1 ms1 => rw [r] at hm; cases hm
  | bk ss1 ms1 => rw [r] at hm; cases hm
  | ct ss1 ms1 => rw [r] at hm; cases hm
  | bad => rw [r] at hm; cases hm
end

/-! ### the pot comes and goes -/
mutual
theorem Dt.up {K : PySem.W.Frag} {F : Hp} (p : Option Addr) : ∀ {v : V} {d : D}, Dt K none F v d → Dt K p F v d
  | _, _, .non => .non
  | _, _, .bl b => .bl b
  | _, _, .int i => .int i
  | _, _, .str x => .str x
  | _, _, .tup h r => .tup h (Dts.up p r)
  | _, _, .lst h r => .lst h (Dts.up p r)
  | _, _, .dct h l r => .dct h l (Dts.up p r)
  | _, _, .pot h => nomatch h
  | _, _, .fn => .fn
  | _, _, .ty => .ty
  | _, _, .xo h r => .xo h r
  | _, _, .xn h r q => .xn h r q
theorem Dts.up {K : PySem.W.Frag} {F : Hp} (p : Option Addr) : ∀ {vs : List V} {ds : List D}, Dts K none F vs ds → Dts K p F vs ds
  | _, _, .nil => .nil
  | _, _, .cons h r => .cons (Dt.up p h) (Dts.up p r)
end
mutual
def D.noPot : D → Bool
  | .pot => false
  | .tup ds => noPots ds
  | .lst ds => noPots ds
  | .dct _ ds => noPots ds
  | .non => true
  | .bl _ => true
  | .int _ => true
  | .str _ => true
  | .fn _ => true
  | .ty _ => true
  | .xo _ _ => true
def noPots : List D → Bool
  | [] => true
  | d :: ds => d.noPot && noPots ds
end
mutual
theorem Dt.down {K : PySem.W.Frag} {F : Hp} {p : Option Addr} : ∀ {v : V} {d : D}, Dt K p F v d → d.noPot = true → Dt K none F v d
  | _, _, .non, _ => .non
  | _, _, .bl b, _ => .bl b
  | _, _, .int i, _ => .int i
  | _, _, .str x, _ => .str x
  | _, _, .tup h r, e => .tup h (Dts.down r (by rw [D.noPot] at e; exact e))
  | _, _, .lst h r, e => .lst h (Dts.down r (by rw [D.noPot] at e; exact e))
  | _, _, .dct h l r, e => .dct h l (Dts.down r (by rw [D.noPot] at e; exact e))
  | _, _, .pot h, e => by rw [D.noPot] at e; cases e
  | _, _, .fn, _ => .fn
  | _, _, .ty, _ => .ty
  | _, _, .xo h r, _ => .xo h r
  | _, _, .xn h r q, _ => .xn h r q
theorem Dts.down {K : PySem.W.Frag} {F : Hp} {p : Option Addr} : ∀ {vs : List V} {ds : List D}, Dts K p F vs ds → noPots ds = true → Dts K none F vs ds
  | _, _, .nil, _ => .nil
  | _, _, .cons h r, e => by
    rw [noPots, Bool.and_eq_true] at e
    exact .cons (Dt.down h e.1) (Dts.down r e.2)
end
def keepS (ks : List Nat) (ss : SS) : SS := (List.range ss.length).map fun j => if j ∈ ks then (match ss[j]? with
  | some (some (.dat d)) => if d.noPot = true then some (.dat d) else none
  | _ => none) else none
theorem keepS_get {ks : List Nat} {ss : SS} {j : Nat} {s : Option SV} (h : (keepS ks ss)[j]? = some s) : s = none ∨ ∃ d, ss[j]? = some (some (.dat d)) ∧ d.noPot = true ∧ s = some (.dat d) := by
  unfold keepS at h
  rw [List.getElem?_map] at h
  cases e : (List.range ss.length)[j]? with
  | none => rw [e] at h; cases h
  | some k =>
    obtain ⟨hl, hk⟩ := List.getElem?_eq_some_iff.mp e
    rw [List.getElem_range] at hk
    subst hk
    rw [e] at h
    have h : (if j ∈ ks then (match ss[j]? with
      | some (some (.dat d)) => if d.noPot = true then some (.dat d) else none
      | _ => none) else none) = s := by cases h; rfl
    by_cases hj : j ∈ ks
    · rw [if_pos hj] at h
      split at h
      next d hd =>
        by_cases hn : d.noPot = true
        · rw [if_pos hn] at h
          exact .inr ⟨d, hd, hn, h.symm⟩
        · rw [if_neg hn] at h
          exact .inl h.symm
      next => exact .inl h.symm
    · rw [if_neg hj] at h
      exact .inl h.symm
namespace S
/-- x = pot(..), then the rest with it -/
def withPot (i : Nat) (ks : List Nat) (mir : List D → M D) (mr : SS → M (List D)) (b : SS → MS → O) : SS → MS → O := fun ss ms => match mr ss ms with
  | .ok ds ms1 => (match mir ds ms1 with
    | .ok (.lst [.int x, .int y, .int z]) ms2 => (match b (ss.set i (some (.dat .pot))) ⟨x, y, z⟩ with
      | .nx ss' _ => .nx (keepS ks ss') ms2
      | .ct ss' _ => .ct (keepS ks ss') ms2
      | .rt d _ => if d.noPot = true then .rt d ms2 else .bad
      | _ => .bad)
    | _ => .bad)
  | _ => .bad
end S
/-- a body at a place where no pot is -/
def JS0 (X : Cx) (W : WX) (sts : List Stmt) (m : SS → MS → O) : Prop := ∃ t, PSs X sts t ∧ ∀ (B F0 : Hp) (σ : L2.St) (ss : SS) (H F : Hp) (ms : MS) (En : Ends),
  Fm X.K none B F0 F H σ ss ms → PoS X.K X.mg W none B F0 (m ss ms) En → t En σ H
theorem Sl.up {K : PySem.W.Frag} {B F H : Hp} {σ : L2.St} {ss : SS} {a : Addr} (s : Sl K none B F H σ ss) (h : ∀ (i : Nat) (ds : List D), ss[i]? = some (some (.own ds)) → σ[i]? ≠ some (some (.ref a))) : Sl K (some a) B F H σ ss := by
  refine ⟨s.len, fun i sv v h1 h2 => ?_, s.ap⟩
  have q := s.ok i sv v h1 h2
  match sv, q with
  | none, _ => trivial
  | some (.dat d), ⟨u, e1, q⟩ => exact ⟨u, e1, q.up _⟩
  | some (.own ds), ⟨c, xs, e1, k1, k2, k3, k4, k5⟩ => exact ⟨c, xs, e1, k1, k2, k3, fun z => h i ds h1 (by rw [h2, e1]; cases z; rfl), k5.up _⟩
theorem Sl.keep {K : PySem.W.Frag} {p : Option Addr} {B F H : Hp} {σ : L2.St} {ss : SS} (s : Sl K p B F H σ ss) (ks : List Nat) : Sl K none B F H σ (keepS ks ss) := by
  refine ⟨by unfold keepS; rw [List.length_map, List.length_range]; exact s.len, fun i sv v h1 h2 => ?_, fun i j a ds es h1 h2 h3 h4 => ?_⟩
  · rcases keepS_get h1 with e | ⟨d, hd, hn, e⟩
    · subst e; trivial
    · subst e
      obtain ⟨u, e1, q⟩ := s.ok i _ v hd h2
      exact ⟨u, e1, q.down hn⟩
  · rcases keepS_get h1 with e | ⟨d, hd, hn, e⟩
    · cases e
    · cases e
theorem js_withPot {X : Cx} {W : WX} {i k : Nat} {ks : List Nat} {y x : Str} {ps : List Str} {mir : List D → M D} {mr : SS → M (List D)} {e : Expr} {es : List Expr} {p0 py pos spos : Pos} {sts : List Stmt} {b : SS → MS → O}
    (G : FnN X.prog X.w X.K X.mg X.base x k ps mir) (tk : Takes X W) (hr : Room k X.A) (ha : JA X W (e :: es) mr) (hn : Len mr ps.length) (hb : JSs X W sts b) (hN : X.N.Nodup) (hi : X.N[i]? = some y := by rfl) (hx : Loc X.env.scope y := by first | exact Or.inl rfl | exact Or.inr rfl) (hg : Gl X x := by rfl)
    (hdb : (x == ("__debug__" : Str)) = false := by decide) (he : starEach (e :: es) X.env = (false, eval e X.env) :: starEach es X.env := by rfl) (hpl : (backTo pos (starEach es X.env)).any (·.1) = false := by rfl)
    (hsw : swapsWith (.Call (.Name x p0) (e :: es) [] pos) (some (.Name y py)) spos.line X.env = pure false := by rfl) (hf : X.fn y = true ∨ X.env.scope.names.lookup y = some .local := by first | exact .inl rfl | exact .inr rfl) :
    JS0 X W (.Assign [.Name y py] (.Call (.Name x p0) (e :: es) [] pos) spos :: sts) (S.withPot i ks mir mr b) := by
  obtain ⟨f, fd, g1, g2, g3, g4⟩ := G.ex
  obtain ⟨t, h1, h2⟩ := ha
  obtain ⟨u, h5, h6⟩ := hb
  refine ⟨_, pss_cons (ps_set hN hi hx (pe_callS g1 hr hg g2 g3 g4 (fun σ => passAt tk σ) h1 hdb he hpl) hsw hf) h5, fun B F0 σ ss H F ms En fm po => ?_⟩
  unfold S.withPot at po
  refine h2 none B σ ss H F ms _ fm.sl fm.ex.hs ?_
  cases r : mr ss ms with
  | bad => rw [r] at po; exact po.elim
  | ex c ms1 => rw [r] at po; exact po.elim
  | ok ds ms1 =>
    rw [r] at po
    intro vs H1 F1 e1 q1
    have fm1 : Fm X.K none B F0 F1 H1 σ ss ms1 := ⟨fm.sl.ext e1, fm.ex.trans e1⟩
    cases r2 : mir ds ms1 with
    | bad => simp only [r2] at po; exact po.elim
    | ex c ms2 => simp only [r2] at po; exact po.elim
    | ok d ms2 =>
      simp only [r2] at po
      split at po
      next _ x y z _ hd =>
        cases hd
        refine ⟨none, F1, ds, ms1, by rw [q1.length]; exact hn _ _ _ _ r, e1.hs, q1, _, _, r2, fun a xs H2 F2 e2 na _ h2 f2 qx => ?_⟩
        have fm2 : Fm X.K none B F0 F2 H2 σ ss ms2 := ⟨fm1.sl.ext e2, fm1.ex.trans e2⟩
        have ba : B a = none := fm1.ex.back na
        have hx3 : xs = [.int x, .int y, .int z] := by
          cases qx with
          | cons q1 r => cases r with
            | cons q2 r => cases r with
              | cons q3 r => cases r; cases q1; cases q2; cases q3; rfl
        subst hx3
        have ex3 : Ext (some a) B F0 H2 F2 ⟨x, y, z⟩ := ⟨fm2.ex.ff, fm2.ex.nf, fun b o h _ => fm2.ex.kp b o h (fun z => nomatch z), ⟨fm2.ex.hs.fh, fun b hb => by cases hb; exact h2, fun b hb => by cases hb; exact f2⟩⟩
        have sl3 : Sl X.K (some a) B F2 H2 σ ss := fm2.sl.up fun j es h3 h4 => by
          obtain ⟨c, ys, e5, k1, _⟩ := fm1.sl.ok j _ _ h3 h4
          cases e5
          rw [na] at k1
          cases k1
        refine h6 (some a) B F0 (σ.set i (some (.ref a))) (ss.set i (some (.dat .pot))) H2 F2 ⟨x, y, z⟩ En ⟨sl3.set (.pot rfl), ex3⟩ ?_
        have back : ∀ {H' F' : Hp} {ms' : MS}, Ext (some a) B F0 H' F' ms' → Ext none B F0 H' F' ms2 := fun e => ⟨e.ff, e.nf, fun b o h _ => e.kp b o h (fun z => by cases z; rw [ba] at h; cases h), ⟨e.hs.fh, fun _ z => (nomatch z), fun _ z => (nomatch z)⟩⟩
        cases r3 : b (ss.set i (some (.dat .pot))) ⟨x, y, z⟩ with
        | nx ss' ms' => rw [r3] at po; exact fun σ' H' F' f' => po σ' H' F' ⟨f'.sl.keep ks, back f'.ex⟩
        | ct ss' ms' => rw [r3] at po; exact fun σ' H' F' f' => po σ' H' F' ⟨f'.sl.keep ks, back f'.ex⟩
        | rt d' ms' =>
          rw [r3] at po
          intro v H' F' e' q'
          by_cases hn' : d'.noPot = true
          · simp only [hn', if_true] at po
            exact po v H' F' (back e') (q'.down hn')
          · simp only [hn'] at po
            exact po.elim
        | bk ss' ms' => rw [r3] at po; exact po.elim
        | ex c ss' ms' => rw [r3] at po; exact po.elim
        | bad => rw [r3] at po; exact po.elim
      next => exact po.elim
/-! ### x, y = a, b -/
def S.par (i j : Nat) (m : SS → M (List D)) : SS → MS → O := fun ss ms => (m ss ms).o ss fun ds ms1 => match ds with
  | [a, b] => .nx ((ss.set i (some (.dat a))).set j (some (.dat b))) ms1
  | _ => .bad
theorem js_par {X : Cx} {W : WX} {i j : Nat} {x y : Str} {a b : Expr} {mr : SS → M (List D)} {px py pt pt2 pos : Pos} {kt k2 : Nat} (ha : JA X W [a, b] mr) (hN : X.N.Nodup) (hij : i ≠ j) (hc : X.calm = true := by rfl) (hi : X.N[i]? = some x := by rfl) (hj : X.N[j]? = some y := by rfl)
    (hx : X.env.scope.names.lookup x = some .local := by rfl) (hy : X.env.scope.names.lookup y = some .local := by rfl)
    (hw : swappedStores [.Tuple [.Name x px, .Name y py] kt pt] (.Tuple [a, b] k2 pt2) X.env = pure (some [x, y]) := by rfl) (hs : swapsWithSole [.Tuple [.Name x px, .Name y py] kt pt] (.Tuple [a, b] k2 pt2) pos.line X.env = pure false := by rfl) :
    JS X W (.Assign [.Tuple [.Name x px, .Name y py] kt pt] (.Tuple [a, b] k2 pt2) pos) (S.par i j mr) := by
  obtain ⟨t, h1, h2⟩ := ha
  refine ⟨_, ps_par hc hN hi hj hij hx hy h1 hw hs, fun p B F0 σ ss H F ms En fm po => ?_⟩
  refine h2 p B σ ss H F ms _ fm.sl fm.ex.hs (fm.po po fun ds ms1 vs H1 F1 fm1 _ q po1 => ?_)
  match ds, q, po1 with
  | [d, c], .cons q1 (.cons q2 .nil), po1 => exact ⟨_, _, rfl, po1 _ H1 F1 ⟨(fm1.sl.set q1).set q2, fm1.ex⟩⟩
end Q

set_option Elab.async false
set_option linter.all false
set_option maxRecDepth 100000
set_option maxHeartbeats 4000000
/-! Qj: the law's own def: a loop whose turns have a pot each; the law's end. -/
namespace Q
open PySem L2 PyProof.Rows
def JS01 (X : Cx) (W : WX) (st : Stmt) (m : SS → MS → O) : Prop := ∃ t, PS X st t ∧ ∀ (B F0 : Hp) (σ : L2.St) (ss : SS) (H F : Hp) (ms : MS) (En : Ends),
  Fm X.K none B F0 F H σ ss ms → PoS X.K X.mg W none B F0 (m ss ms) En → t En σ H
section
variable {X : Cx} {W : WX} {tg e iter : Expr} {is : List Nat} {g : G} {ma : SS → M D} {pos : Pos} {body : List Stmt} {mb m1 m2 : SS → MS → O} {st : Stmt} {sts : List Stmt}
theorem JS.z (h : JS X W st m1) : JS01 X W st m1 := by
  obtain ⟨t, h1, h2⟩ := h
  exact ⟨t, h1, fun B F0 σ ss H F ms En fm po => h2 none B F0 σ ss H F ms En fm po⟩
theorem JSs.z (h : JSs X W sts m1) : JS0 X W sts m1 := by
  obtain ⟨t, h1, h2⟩ := h
  exact ⟨t, h1, fun B F0 σ ss H F ms En fm po => h2 none B F0 σ ss H F ms En fm po⟩
theorem js0_cons (h1 : JS01 X W st m1) (h2 : JS0 X W sts m2) : JS0 X W (st :: sts) (S.seq m1 m2) := by
  obtain ⟨t, h1, h3⟩ := h1
  obtain ⟨u, h2, h4⟩ := h2
  refine ⟨_, pss_cons h1 h2, fun B F0 σ ss H F ms En fm po => ?_⟩
  exact h3 B F0 σ ss H F ms _ fm (po.seq fun ss1 ms1 σ1 H1 F1 fm1 po1 => h4 B F0 σ1 ss1 H1 F1 ms1 En fm1 po1)
theorem js0_one (h1 : JS01 X W st m1) : JS0 X W [st] m1 := by
  obtain ⟨t, h1, h3⟩ := h1
  exact ⟨_, pss_one h1, h3⟩
theorem js0_for {mi : SS → M (List D)} (hp : PassesOwn (model X.prog X.w) X.A X.env X.xe) (hi : JI X W tg iter mi) (hg : JG X tg is g) (hb : JS0 X W body mb) (hc : X.calm = true := by rfl) (hs : ∀ x, foldedSetIterable iter X.env x = pure x := by intro _; rfl) :
    JS01 X W (.For tg iter body [] pos) (S.for_ mi g mb) := by
  obtain ⟨wi, h1, h2⟩ := hi
  obtain ⟨gt, h3, h4⟩ := hg
  obtain ⟨t, h5, h6⟩ := hb
  refine ⟨_, ps_for hp hc h1 h3 h5 hs, fun B F0 σ ss H F ms En fm po => ?_⟩
  refine h2 none B σ ss H F ms _ fm.sl fm.ex.hs (fm.po po fun ds ms1 J H1 F1 fm1 _ q po1 => ?_)
  refine ⟨fun i m σ H => m = ds.length - i ∧ i ≤ ds.length ∧ ∃ F ss ms, Fm X.K none B F0 F H σ ss ms ∧ Same F1 F ∧ PoS X.K X.mg W none B F0 (S.forL g mb (ds.drop i) ss ms) En, ⟨ds.length, by simp, Nat.zero_le _, F1, ss, ms1, fm1, Same.refl _, po1⟩, ?_⟩
  rintro i m σ H ⟨rfl, hi, F, ss, ms, fm, sf, po⟩
  obtain ⟨sg, st⟩ := q H F ms sf fm.ex.hs i
  by_cases hlt : i < ds.length
  · right
    have hd : ds[i]? = some ds[i] := List.getElem?_eq_getElem hlt
    rw [List.drop_eq_getElem_cons hlt] at po
    obtain ⟨go, yl⟩ := sg _ hd
    refine ⟨go, fun σ' H' => i + 1 ≤ ds.length ∧ ∃ F ss ms, Fm X.K none B F0 F H' σ' ss ms ∧ Same F1 F ∧ PoS X.K X.mg W none B F0 (S.forL g mb (ds.drop (i + 1)) ss ms) En, fun σ' H' h => ⟨_, by omega, rfl, h⟩, fun x H' hy => ?_⟩
    obtain ⟨F2, e2, q2⟩ := yl x H' hy
    unfold S.forL at po
    cases eg : g ds[i] ss with
    | none => rw [eg] at po; exact po.elim
    | some ss1 =>
      rw [eg] at po
      refine h4 none B F2 H' σ ss ss1 x _ ms _ (fm.sl.ext e2) e2.hs q2 eg fun σ' s' _ => ?_
      have ex2 := fm.ex.trans e2
      refine h6 B F2 σ' ss1 H' F2 ms _ ⟨s', ex2.re⟩ ?_
      have sf2 : Same F1 F2 := sf.trans e2.ff
      have po' : PoS X.K X.mg W none B F0 (match mb ss1 ms with
        | .nx ss2 ms2 => S.forL g mb (ds.drop (i + 1)) ss2 ms2
        | .ct ss2 ms2 => S.forL g mb (ds.drop (i + 1)) ss2 ms2
        | .bk ss2 ms2 => .nx ss2 ms2
        | .rt d ms2 => .rt d ms2
        | .ex c ss2 ms2 => .ex c ss2 ms2
        | .bad => .bad) En := po
      cases r : mb ss1 ms with
      | nx ss2 ms2 => rw [r] at po'; exact fun σ3 H3 F3 f3 => ⟨hlt, F3, ss2, ms2, f3.co ex2, sf2.trans f3.ex.ff, po'⟩
      | ct ss2 ms2 => rw [r] at po'; exact fun σ3 H3 F3 f3 => ⟨hlt, F3, ss2, ms2, f3.co ex2, sf2.trans f3.ex.ff, po'⟩
      | bk ss2 ms2 => rw [r] at po'; exact fun σ3 H3 F3 f3 => po' σ3 H3 F3 (f3.co ex2)
      | rt d ms2 => rw [r] at po'; exact fun v H3 F3 e3 q3 => po' v H3 F3 (ex2.co e3) q3
      | ex c ss2 ms2 => rw [r] at po'; exact fun u hu σ3 H3 F3 f3 => po' u hu σ3 H3 F3 (f3.co ex2)
      | bad => rw [r] at po'; exact po'.elim
  · left
    have hl : ds.length ≤ i := by omega
    refine ⟨st hl, ?_⟩
    rw [List.drop_eq_nil_of_le hl] at po
    exact po σ H F fm
end
/-- a law's promise: over a list of ints the mirror's answer is True -/
def spL (K : PySem.W.Frag) (n : Nat) (mir : List D → M D) : Sp := fun vs H Q _ => ∃ (F : Hp) (ds : List D) (ms : MS), vs.length = n ∧ Hs none F H ms ∧ Dts K none F vs ds ∧ ∃ d ms', mir ds ms = .ok d ms' ∧
  ∀ v H' F', Ext none H F H' F' ms' → Dt K none F' v d → Q v H'
section
variable {P : Program} {w : World} {K : PySem.W.Frag} {mg : Str → Option Value} {base : Heap}
theorem law_of {x : Str} {st : Stmt} {f : Addr} {fd : FuncData} {N ps : List Str} {k : Nat} {m : SS → MS → O} (F : Fun K x x st f fd) (S : FnScope N ps (defScope st))
    (hbody : ∀ (f : Addr) (cdv : Value) (A : Around) (outer : List Env) (s : Shared) (H : Hp) (E : XK), Room k (A.deeper (envOfC x (defScope st) s.heap.objs.size f cdv)) →
      ∀ (W : WX), Takes (cxOf (L2.CX P w) P w K mg base N x (defScope st) f cdv A outer s H E) W →
        JS0 (cxOf (L2.CX P w) P w K mg base N x (defScope st) f cdv A outer s H E) W (defBody st) m) : FnOk P w K mg base (L2.CX P w) (k + 1) f fd ps (spL K ps.length (mirOf N.length m)) := by
  refine F.okX S (fun vs H Q E h => ?_) (fun cdv A outer s H vs Q E hr h => ?_)
  · obtain ⟨F, ds, ms, hl, _⟩ := h
    exact hl
  obtain ⟨F, ds, ms, hl, hs, q, d, ms', hm, po⟩ := h
  obtain ⟨t, h1, h2⟩ := hbody f cdv A outer s H E hr (fun cls d _ H => E cls d H) (takes_of rfl rfl rfl rfl)
  refine ⟨t, h1, h2 H F (L2.start N vs) (begin N.length ds) H F ms _ ⟨begin_sl q, Ext.refl hs⟩ ?_⟩
  unfold mirOf at hm
  cases r : m (begin N.length ds) ms with
  | nx ss1 ms1 => rw [r] at hm; cases hm; exact fun σ' H' F' fm => po .non H' F' fm.ex .non
  | rt d ms1 => rw [r] at hm; cases hm; exact fun v H' F' e q => po v H' F' e q
  | ex c ss1 ms1 => rw [r] at hm; cases hm
  | bk ss1 ms1 => rw [r] at hm; cases hm
  | ct ss1 ms1 => rw [r] at hm; cases hm
  | bad => rw [r] at hm; cases hm
theorem dts_ints {K : PySem.W.Frag} {p : Option Addr} {F : Hp} : ∀ ns : List Int, Dts K p F (ns.map V.int) (ns.map D.int)
  | [] => .nil
  | n :: ns => .cons (.int n) (dts_ints ns)
/-- the law's promise at the script -/
theorem spL_script {mir : List D → M D} {H : Hp} {a : Addr} {ns : List Int} (hS : SqL K H a (ns.map V.int)) (h : ∀ ms, ∃ ms', mir [.lst (ns.map D.int)] ms = .ok (.bl true) ms') : spL K 1 mir [.ref a] H (fun v _ => v = .bl true) fun _ _ _ => False := by
  obtain ⟨ms', e⟩ := h ⟨0, 0, 0⟩
  refine ⟨H, [.lst (ns.map D.int)], ⟨0, 0, 0⟩, rfl, ⟨Same.refl H, fun _ z => (nomatch z), fun _ z => (nomatch z)⟩, .cons (.lst hS (dts_ints ns)) .nil, _, _, e, fun v H' F' _ q => ?_⟩
  cases q
  rfl
end
end Q

set_option Elab.async false
set_option linter.all false
set_option maxRecDepth 100000
set_option maxHeartbeats 4000000
/-! Qk: what a mirror answers, word by word (no heap, no program in sight). -/
namespace Q
open PySem L2 PyProof.Rows

def Wp {α : Type} (r : R α) (Q : α → MS → Prop) : Prop := match r with
  | .ok x ms => Q x ms
  | _ => False
structure Ks where
  nx : SS → MS → Prop
  rt : D → MS → Prop
  bk : SS → MS → Prop := fun _ _ => False
  ct : SS → MS → Prop := fun _ _ => False
def Ws (o : O) (k : Ks) : Prop := match o with
  | .nx ss ms => k.nx ss ms
  | .rt d ms => k.rt d ms
  | .bk ss ms => k.bk ss ms
  | .ct ss ms => k.ct ss ms
  | _ => False
section
variable {α β : Type} {ss ss' : SS} {ms ms1 : MS} {Q : D → MS → Prop} {Qa : List D → MS → Prop} {Qb : Bool → MS → Prop} {a b c : SS → M D} {d x y : D} {t u : SS → M Bool} {r : SS → M (List D)} {i j : Nat}
theorem Wp.bind {r : R α} {f : α → M β} {Q : β → MS → Prop} (h : Wp r fun x ms1 => Wp (f x ms1) Q) : Wp (r.bind f) Q := by
  cases r with
  | ok x ms => exact h
  | ex c ms => exact h.elim
  | bad => exact h.elim
theorem Wp.mono {r : R α} {Q Q' : α → MS → Prop} (h : Wp r Q) (k : ∀ x ms, Q x ms → Q' x ms) : Wp r Q' := by
  cases r with
  | ok x ms => exact k _ _ h
  | ex c ms => exact h.elim
  | bad => exact h.elim
theorem wp_eq {r : R α} {x : α} {Q : α → MS → Prop} (e : r = .ok x ms) (q : Q x ms) : Wp r Q := by rw [e]; exact q
theorem Wp.ex {r : R α} {Q : α → MS → Prop} (h : Wp r Q) : ∃ x ms, r = .ok x ms ∧ Q x ms := by
  cases r with
  | ok x ms => exact ⟨x, ms, rfl, h⟩
  | ex c ms => exact h.elim
  | bad => exact h.elim
theorem wp_var (h : ss[i]? = some (some (.dat d))) (q : Q d ms) : Wp (E.var i ss ms) Q := by unfold E.var; rw [h]; exact q
theorem wp_bor (h : ss[i]? = some (some (.dat d))) (q : Q d ms) : Wp (E.bor i ss ms) Q := by unfold E.bor; rw [h]; exact q
theorem wp_borO {ds : List D} (h : ss[i]? = some (some (.own ds))) (q : Q (.lst ds) ms) : Wp (E.bor i ss ms) Q := by unfold E.bor; rw [h]; exact q
theorem wp_c (q : Q d ms) : Wp (E.c d ss ms) Q := q
theorem wp_c0 (q : Q d ms) : Wp (E.c0 d ss ms) Q := q
theorem wp_op2 {g : D → D → M D} (h : Wp (a ss ms) fun x ms1 => Wp (b ss ms1) fun y ms2 => Wp (g x y ms2) Q) : Wp (E.op2 g a b ss ms) Q := Wp.bind (h.mono fun _ _ h => Wp.bind h)
theorem wp_op1 {g : D → M D} (h : Wp (a ss ms) fun x ms1 => Wp (g x ms1) Q) : Wp (E.op1 g a ss ms) Q := Wp.bind h
theorem wp_nil (q : Qa [] ms) : Wp (E.nil ss ms) Qa := q
theorem wp_cons (h : Wp (a ss ms) fun x ms1 => Wp (r ss ms1) fun xs ms2 => Qa (x :: xs) ms2) : Wp (E.cons a r ss ms) Qa := Wp.bind (h.mono fun _ _ h => Wp.bind (h.mono fun _ _ q => q))
theorem wp_fnA {f : List D → M D} (h : Wp (r ss ms) fun xs ms1 => Wp (f xs ms1) Q) : Wp (E.fnA f r ss ms) Q := Wp.bind h
theorem wp_test (h : Wp (a ss ms) fun x ms1 => ∃ b, x = .bl b ∧ Qb b ms1) : Wp (E.test a ss ms) Qb := Wp.bind (h.mono fun _ _ ⟨_, e, q⟩ => by subst e; exact q)
theorem wp_tru (h : Wp (a ss ms) fun x ms1 => Wp (E.truD x ms1) Qb) : Wp (E.tru a ss ms) Qb := Wp.bind h
theorem wp_tand (h : Wp (t ss ms) fun c ms1 => if c = true then Wp (u ss ms1) Qb else Qb false ms1) : Wp (E.tand t u ss ms) Qb := Wp.bind (h.mono fun c _ h => by
  cases c with
  | true => rw [if_pos rfl] at h ⊢; exact h
  | false => rw [if_neg Bool.false_ne_true] at h ⊢; exact h)
theorem wp_tor (h : Wp (t ss ms) fun c ms1 => if c = true then Qb true ms1 else Wp (u ss ms1) Qb) : Wp (E.tor t u ss ms) Qb := Wp.bind (h.mono fun c _ h => by
  cases c with
  | true => rw [if_pos rfl] at h ⊢; exact h
  | false => rw [if_neg Bool.false_ne_true] at h ⊢; exact h)
theorem wp_tnot (h : Wp (t ss ms) fun c ms1 => Qb (!c) ms1) : Wp (E.tnot t ss ms) Qb := Wp.bind (h.mono fun _ _ h => h)
theorem wp_vand (h : Wp (a ss ms) fun x ms1 => ∃ c, x = .bl c ∧ if c = true then Wp (b ss ms1) Q else Q (.bl false) ms1) : Wp (E.vand a b ss ms) Q := Wp.bind (h.mono fun _ _ ⟨c, e, h⟩ => by
  subst e
  cases c with
  | true => rw [if_pos rfl] at h; exact h
  | false => rw [if_neg Bool.false_ne_true] at h; exact h)
theorem wp_vor (h : Wp (a ss ms) fun x ms1 => ∃ c, x = .bl c ∧ if c = true then Q (.bl true) ms1 else Wp (b ss ms1) Q) : Wp (E.vor a b ss ms) Q := Wp.bind (h.mono fun _ _ ⟨c, e, h⟩ => by
  subst e
  cases c with
  | true => rw [if_pos rfl] at h; exact h
  | false => rw [if_neg Bool.false_ne_true] at h; exact h)
theorem wp_vnot (h : Wp (a ss ms) fun x ms1 => ∃ c, x = .bl c ∧ Q (.bl (!c)) ms1) : Wp (E.vnot a ss ms) Q := Wp.bind (h.mono fun _ _ ⟨c, e, h⟩ => by
  subst e
  exact h)
theorem wp_ife (h : Wp (t ss ms) fun c ms1 => if c = true then Wp (a ss ms1) Q else Wp (b ss ms1) Q) : Wp (E.ife t a b ss ms) Q := Wp.bind (h.mono fun c _ h => by
  cases c with
  | true => rw [if_pos rfl] at h ⊢; exact h
  | false => rw [if_neg Bool.false_ne_true] at h ⊢; exact h)
theorem wp_chain {g g' : D → D → M D} (h : Wp (a ss ms) fun x ms1 => Wp (b ss ms1) fun y ms2 => Wp (g x y ms2) fun z ms3 => ∃ k, z = .bl k ∧ if k = true then Wp (c ss ms3) fun w ms5 => Wp (g' y w ms5) Q else Q (.bl false) ms3) : Wp (E.chain g g' a b c ss ms) Q :=
  Wp.bind (h.mono fun _ _ h => Wp.bind (h.mono fun _ _ h => Wp.bind (h.mono fun z _ ⟨k, e, h⟩ => by
    subst e
    cases k with
    | true => rw [if_pos rfl] at h; exact show Wp ((c ss _).bind fun w ms5 => g' _ w ms5) Q from Wp.bind h
    | false => rw [if_neg Bool.false_ne_true] at h; exact h)))
theorem wp_tup (h : Wp (r ss ms) fun xs ms1 => xs.length ≤ 100000 ∧ Q (.tup xs) ms1) : Wp (E.tup r ss ms) Q := Wp.bind (h.mono fun _ _ ⟨e, h⟩ => by rw [if_pos e]; exact h)
theorem wp_lst (h : Wp (r ss ms) fun xs ms1 => xs.length ≤ 100000 ∧ Q (.lst xs) ms1) : Wp (E.lst r ss ms) Q := Wp.bind (h.mono fun _ _ ⟨e, h⟩ => by rw [if_pos e]; exact h)
theorem wp_noPart {Q : Option Int → MS → Prop} (q : Q none ms) : Wp (E.noPart ss ms) Q := q
theorem wp_part {Q : Option Int → MS → Prop} (h : Wp (a ss ms) fun x ms1 => ∃ k, x = .int k ∧ Q (some k) ms1) : Wp (E.part a ss ms) Q := Wp.bind (h.mono fun _ _ ⟨k, e, h⟩ => by subst e; exact h)
theorem wp_sl {l h : SS → M (Option Int)} (q : Wp (a ss ms) fun x ms1 => Wp (l ss ms1) fun lo ms2 => Wp (h ss ms2) fun hi ms3 => Wp (gSl x lo hi ms3) Q) : Wp (E.sl a l h ss ms) Q := Wp.bind (q.mono fun _ _ q => Wp.bind (q.mono fun _ _ q => Wp.bind q))
theorem wp_its (h : Wp (a ss ms) fun x ms1 => Wp (itemsD x ms1) Qa) : Wp (E.its a ss ms) Qa := Wp.bind h
theorem wp_itsA {f : List D → M (List D)} (h : Wp (r ss ms) fun x ms1 => Wp (f x ms1) Qa) : Wp (E.itsA f r ss ms) Qa := Wp.bind h
theorem wp_callL {f : Addr} {mir : List D → M D} (h0 : ss[i]? = some (some (.dat (.fn f)))) (h : Wp (r ss ms) fun xs ms1 => Wp (mir xs ms1) Q) : Wp (E.callL i f mir r ss ms) Q := by
  unfold E.callL
  rw [h0]
  show Wp (if f = f then (r ss ms).bind mir else .bad) Q
  rw [if_pos rfl]
  exact Wp.bind h
theorem wp_inK {ks : List Str} (h : Wp (a ss ms) fun x ms1 => ∃ z, x = .str z ∧ Q (.bl (decide (z ∈ ks))) ms1) : Wp (E.inK ks a ss ms) Q := Wp.bind (h.mono fun _ _ ⟨z, e, h⟩ => by subst e; exact h)
/-- a comprehension's run, by an invariant over what is left and what is gathered -/
theorem wp_lcRun {g : G} {me : SS → M D} (Inv : List D → List D → MS → Prop) (step : ∀ d rest acc ms, Inv (d :: rest) acc ms → ∃ ss1, g d ss = some ss1 ∧ Wp (t ss1 ms) fun b ms1 => if b = true then Wp (me ss1 ms1) fun y ms2 => acc.length < 100000 ∧ Inv rest (acc ++ [y]) ms2 else Inv rest acc ms1) :
    ∀ (ds acc : List D) (ms : MS), Inv ds acc ms → Wp (E.lcRun g t me ss ds acc ms) fun ys ms' => Inv [] ys ms'
  | [], acc, ms, h => h
  | d :: rest, acc, ms, h => by
    obtain ⟨ss1, e1, h1⟩ := step d rest acc ms h
    unfold E.lcRun
    rw [e1]
    cases r1 : t ss1 ms with
    | bad => rw [r1] at h1; exact h1.elim
    | ex c ms1 => rw [r1] at h1; exact h1.elim
    | ok b ms1 =>
      rw [r1] at h1
      have h1 : if b = true then Wp (me ss1 ms1) fun y ms2 => acc.length < 100000 ∧ Inv rest (acc ++ [y]) ms2 else Inv rest acc ms1 := h1
      cases b with
      | false =>
        rw [if_neg Bool.false_ne_true] at h1
        simp only [r1]
        exact wp_lcRun Inv step rest acc ms1 h1
      | true =>
        rw [if_pos rfl] at h1
        cases r2 : me ss1 ms1 with
        | bad => rw [r2] at h1; exact h1.elim
        | ex c ms2 => rw [r2] at h1; exact h1.elim
        | ok y ms2 =>
          rw [r2] at h1
          obtain ⟨hl, h1⟩ := h1
          simp only [r1, r2]
          rw [if_pos hl]
          exact wp_lcRun Inv step rest (acc ++ [y]) ms2 h1
theorem wp_lc {vs : List Nat} {mi : SS → M (List D)} {g : G} {me : SS → M D} (h : Wp (mi ss ms) fun ds ms1 => Wp (E.lcRun g t me (wipeS ss vs) ds [] ms1) fun ys ms2 => Q (.lst ys) ms2) : Wp (E.lc vs mi g t me ss ms) Q := Wp.bind (h.mono fun _ _ h => Wp.bind (h.mono fun _ _ q => q))
theorem wp_yes {Qb : Bool → MS → Prop} (q : Qb true ms) : Wp (E.yes ss ms) Qb := q

/-! statements -/
variable {k : Ks} {m m1 m2 : SS → MS → O}
theorem Ws.mono {o : O} {k k' : Ks} (h : Ws o k) (h1 : ∀ s m, k.nx s m → k'.nx s m) (h2 : ∀ s m, k.rt s m → k'.rt s m) (h3 : ∀ s m, k.bk s m → k'.bk s m) (h4 : ∀ s m, k.ct s m → k'.ct s m) : Ws o k' := by
  cases o with
  | nx s m => exact h1 _ _ h
  | rt s m => exact h2 _ _ h
  | bk s m => exact h3 _ _ h
  | ct s m => exact h4 _ _ h
  | ex c s m => exact h.elim
  | bad => exact h.elim
theorem ws_nil (q : k.nx ss ms) : Ws (S.nil ss ms) k := q
theorem ws_brk (q : k.bk ss ms) : Ws (S.brk ss ms) k := q
theorem ws_cont (q : k.ct ss ms) : Ws (S.cont ss ms) k := q
theorem ws_seq (h : Ws (m1 ss ms) { k with nx := fun ss1 ms1 => Ws (m2 ss1 ms1) k }) : Ws (S.seq m1 m2 ss ms) k := by
  unfold S.seq
  cases r : m1 ss ms with
  | nx s m => rw [r] at h; exact h
  | rt s m => rw [r] at h; exact h
  | bk s m => rw [r] at h; exact h
  | ct s m => rw [r] at h; exact h
  | ex c s m => rw [r] at h; exact h.elim
  | bad => rw [r] at h; exact h.elim
theorem ws_o {r : R α} {f : α → MS → O} (h : Wp r fun x ms1 => Ws (f x ms1) k) : Ws (r.o ss f) k := by
  cases r with
  | ok x ms => exact h
  | ex c ms => exact h.elim
  | bad => exact h.elim
theorem ws_set (h : Wp (a ss ms) fun d ms1 => k.nx (ss.set i (some (.dat d))) ms1) : Ws (S.set i a ss ms) k := ws_o h
theorem ws_own (h : Wp (a ss ms) fun d ms1 => ∃ ds, d = .lst ds ∧ k.nx (ss.set i (some (.own ds))) ms1) : Ws (S.own i a ss ms) k := ws_o (h.mono fun _ _ ⟨ds, e, h⟩ => by subst e; exact h)
theorem ws_expr (h : Wp (a ss ms) fun d ms1 => k.nx ss ms1) : Ws (S.expr a ss ms) k := ws_o h
theorem ws_ret (h : Wp (a ss ms) fun d ms1 => k.rt d ms1) : Ws (S.ret a ss ms) k := ws_o h
theorem ws_retN (q : k.rt .non ms) : Ws (S.retN ss ms) k := q
theorem ws_retO {ds : List D} (h : ss[i]? = some (some (.own ds))) (q : k.rt (.lst ds) ms) : Ws (S.retO i ss ms) k := by unfold S.retO; rw [h]; exact q
theorem ws_ife (h : Wp (t ss ms) fun c ms1 => if c = true then Ws (m1 ss ms1) k else Ws (m2 ss ms1) k) : Ws (S.ife t m1 m2 ss ms) k := ws_o (h.mono fun c _ h => by
  cases c with
  | true => rw [if_pos rfl] at h ⊢; exact h
  | false => rw [if_neg Bool.false_ne_true] at h ⊢; exact h)
theorem ws_asg {g : G} (h : Wp (a ss ms) fun d ms1 => ∃ ss1, g d ss = some ss1 ∧ k.nx ss1 ms1) : Ws (S.asg g a ss ms) k := ws_o (h.mono fun d _ ⟨ss1, e, h⟩ => by rw [e]; exact h)
theorem ws_par (h : Wp (r ss ms) fun ds ms1 => ∃ x y, ds = [x, y] ∧ k.nx ((ss.set i (some (.dat x))).set j (some (.dat y))) ms1) : Ws (S.par i j r ss ms) k := ws_o (h.mono fun d _ ⟨x, y, e, h⟩ => by subst e; exact h)
theorem ws_append {ds : List D} (h0 : ss[i]? = some (some (.own ds))) (h : Wp (a ss ms) fun d ms1 => ds.length < 100000 ∧ k.nx (ss.set i (some (.own (ds ++ [d])))) ms1) : Ws (S.append i a ss ms) k := by
  unfold S.append
  rw [h0]
  exact ws_o (h.mono fun d _ ⟨e, h⟩ => by rw [if_pos e]; exact h)
theorem ws_setPot (h0 : ss[i]? = some (some (.dat .pot))) (h : Wp (a ss ms) fun d ms1 => Wp (b ss ms1) fun n ms2 => ∃ z n' j, d = .int z ∧ n = .int n' ∧ ixN 3 n' = some j ∧ k.nx ss (S.putMS ms2 j z)) : Ws (S.setIx i b a ss ms) k := by
  unfold S.setIx
  rw [h0]
  refine ws_o (h.mono fun d _ h => ws_o (h.mono fun n _ ⟨z, n', j, e1, e2, e3, hk⟩ => ?_))
  subst e1 e2
  show Ws (match ixN 3 n' with
    | some j => O.nx ss (S.putMS _ j z)
    | none => O.bad) k
  rw [e3]
  exact hk
theorem ws_setOwn {ds : List D} (h0 : ss[i]? = some (some (.own ds))) (h : Wp (a ss ms) fun d ms1 => Wp (b ss ms1) fun n ms2 => ∃ n' j, n = .int n' ∧ ixN ds.length n' = some j ∧ k.nx (ss.set i (some (.own (ds.set j d)))) ms2) : Ws (S.setIx i b a ss ms) k := by
  unfold S.setIx
  rw [h0]
  refine ws_o (h.mono fun d _ h => ws_o (h.mono fun n _ ⟨n', j, e2, e3, h⟩ => ?_))
  subst e2
  show Ws (match ixN ds.length n' with
    | some j => O.nx (ss.set i (some (.own (ds.set j d)))) _
    | none => O.bad) k
  rw [e3]
  exact h
/-- a loop by an invariant over what is left -/
theorem ws_forL {g : G} (Inv : List D → SS → MS → Prop) (step : ∀ d rest ss ms, Inv (d :: rest) ss ms → ∃ ss1, g d ss = some ss1 ∧ Ws (m ss1 ms) { nx := Inv rest, rt := k.rt, bk := k.nx, ct := Inv rest }) (fin : ∀ ss ms, Inv [] ss ms → k.nx ss ms) :
    ∀ (ds : List D) (ss : SS) (ms : MS), Inv ds ss ms → Ws (S.forL g m ds ss ms) k
  | [], ss, ms, h => fin ss ms h
  | d :: rest, ss, ms, h => by
    obtain ⟨ss1, e1, h1⟩ := step d rest ss ms h
    unfold S.forL
    rw [e1]
    cases r : m ss1 ms with
    | nx s m' => rw [r] at h1; simp only [r]; exact ws_forL Inv step fin rest s m' h1
    | ct s m' => rw [r] at h1; simp only [r]; exact ws_forL Inv step fin rest s m' h1
    | bk s m' => rw [r] at h1; simp only [r]; exact h1
    | rt s m' => rw [r] at h1; simp only [r]; exact h1
    | ex c s m' => rw [r] at h1; exact h1.elim
    | bad => rw [r] at h1; exact h1.elim
theorem ws_for {g : G} {mi : SS → M (List D)} (h : Wp (mi ss ms) fun ds ms1 => Ws (S.forL g m ds ss ms1) k) : Ws (S.for_ mi g m ss ms) k := ws_o h
theorem ws_withPot {ks : List Nat} {mir : List D → M D} (h : Wp (r ss ms) fun ds ms1 => Wp (mir ds ms1) fun d ms2 => ∃ x y z, d = .lst [.int x, .int y, .int z] ∧
    Ws (m (ss.set i (some (.dat .pot))) ⟨x, y, z⟩) { nx := fun ss' _ => k.nx (keepS ks ss') ms2, rt := fun d _ => d.noPot = true ∧ k.rt d ms2, ct := fun ss' _ => k.ct (keepS ks ss') ms2 }) : Ws (S.withPot i ks mir r m ss ms) k := by
  unfold S.withPot
  cases r1 : r ss ms with
  | bad => rw [r1] at h; exact h.elim
  | ex c ms1 => rw [r1] at h; exact h.elim
  | ok ds ms1 =>
    rw [r1] at h
    cases r2 : mir ds ms1 with
    | bad => simp only [Wp, r2] at h
    | ex c ms2 => simp only [Wp, r2] at h
    | ok d ms2 =>
      have h : Wp (mir ds ms1) fun d ms2 => ∃ x y z, d = .lst [.int x, .int y, .int z] ∧
        Ws (m (ss.set i (some (.dat .pot))) ⟨x, y, z⟩) { nx := fun ss' _ => k.nx (keepS ks ss') ms2, rt := fun d _ => d.noPot = true ∧ k.rt d ms2, ct := fun ss' _ => k.ct (keepS ks ss') ms2 } := h
      rw [r2] at h
      obtain ⟨x, y, z, e, h⟩ := h
      subst e
      simp only [r2]
      cases r3 : m (ss.set i (some (.dat .pot))) ⟨x, y, z⟩ with
      | nx s m' => rw [r3] at h; exact h
      | ct s m' => rw [r3] at h; exact h
      | bk s m' => rw [r3] at h; exact h.elim
      | rt d' m' =>
        rw [r3] at h
        obtain ⟨h1, h2⟩ := h
        simp only [h1, if_true]
        exact h2
      | ex c s m' => rw [r3] at h; exact h.elim
      | bad => rw [r3] at h; exact h.elim
theorem wp_mir {n : Nat} {ds : List D} (h : Ws (m (begin n ds) ms) { nx := fun _ ms' => Q .non ms', rt := Q }) : Wp (mirOf n m ds ms) Q := by
  unfold mirOf
  cases r : m (begin n ds) ms with
  | nx s m' => rw [r] at h; exact h
  | rt d' m' => rw [r] at h; exact h
  | ct s m' => rw [r] at h; exact h.elim
  | bk s m' => rw [r] at h; exact h.elim
  | ex c s m' => rw [r] at h; exact h.elim
  | bad => rw [r] at h; exact h.elim

/-! operations -/
theorem wp_ixL {ds : List D} {i : Int} (h : atI ds i = some d) (q : Q d ms) : Wp (gIx (.lst ds) (.int i) ms) Q := by unfold gIx; simp only [h]; exact q
theorem wp_ixT {ds : List D} {i : Int} (h : atI ds i = some d) (q : Q d ms) : Wp (gIx (.tup ds) (.int i) ms) Q := by unfold gIx; simp only [h]; exact q
theorem wp_ixS {z : Str} {i : Int} {c : Nat} (hz : z.length ≤ 100000) (h : atI z.cps.toList i = some c) (q : Q (.str ⟨#[c]⟩) ms) : Wp (gIx (.str z) (.int i) ms) Q := by
  show Wp (if z.length ≤ 100000 then (match atI z.cps.toList i with
    | some c => R.ok (D.str ⟨#[c]⟩) ms
    | none => R.bad) else R.bad) Q
  rw [if_pos hz, h]
  exact q
theorem wp_ixP {i : Int} {z : Int} (h : atI [ms.a, ms.b, ms.c] i = some z) (q : Q (.int z) ms) : Wp (gIx .pot (.int i) ms) Q := by unfold gIx; simp only [h]; exact q
theorem wp_addI {i j : Int} (q : Q (.int (i + j)) ms) : Wp (gAdd (.int i) (.int j) ms) Q := q
theorem wp_subI {i j : Int} (q : Q (.int (i - j)) ms) : Wp (gSub (.int i) (.int j) ms) Q := q
theorem wp_mulI {i j : Int} (h : (-(2 ^ 64) < i ∧ i < 2 ^ 64) ∨ (-(2 ^ 64) < j ∧ j < 2 ^ 64)) (q : Q (.int (i * j)) ms) : Wp (gMul (.int i) (.int j) ms) Q := by rw [gMul_int i j ms h]; exact q
theorem wp_modI {i j : Int} (h : 0 < j) (q : Q (.int (i % j)) ms) : Wp (gMod (.int i) (.int j) ms) Q := by
  show Wp (if cMod i j = true then R.ok (.int (i % j)) ms else .bad) Q
  rw [if_pos (show cMod i j = true from decide_eq_true h)]
  exact q
theorem log2_lt {j : Int} {n : Nat} (h0 : 0 < j) (h : j < 2 ^ n) (hn : 0 < n) : j.natAbs.log2 < n := by
  have h1 : j.natAbs < 2 ^ n := by
    have e : ((j.natAbs : Nat) : Int) = j := by omega
    have : ((j.natAbs : Nat) : Int) < ((2 ^ n : Nat) : Int) := by rw [e]; rw [Int.natCast_pow]; exact h
    omega
  exact PySem.Flt.log2_lt_of hn h1
theorem wp_divI {i j : Int} (h : 0 < j) (h' : j < 2 ^ 9000) (q : Q (.int (i / j)) ms) : Wp (gDiv (.int i) (.int j) ms) Q := by
  show Wp (if cDiv i j = true then R.ok (.int (i / j)) ms else .bad) Q
  rw [if_pos (show cDiv i j = true from decide_eq_true ⟨h, log2_lt h h' (by decide)⟩)]
  exact q
theorem bits_lt {i : Int} {n : Nat} (h : i.natAbs < 2 ^ n) : Builtin.Int.intBits i ≤ n := by
  unfold Builtin.Int.intBits
  split
  · omega
  · rename_i hne
    have h0 : i.natAbs ≠ 0 := by
      intro e
      apply hne
      simpa using e
    have := (Nat.log2_lt h0).mpr h
    omega
theorem wp_powI {i : Int} {j n : Nat} (h : i.natAbs < 2 ^ n) (hn : n * j ≤ 134217728) (q : Q (.int (i ^ j)) ms) : Wp (gPow (.int i) (.int (j : Int)) ms) Q := by
  show Wp (if cPow i j = true then R.ok (.int (i ^ (j : Int).toNat)) ms else .bad) Q
  have hc : cPow i j = true := by
    refine decide_eq_true ⟨by omega, ?_⟩
    have h1 := bits_lt h
    have h2 : Builtin.Int.intBits i * j ≤ n * j := Nat.mul_le_mul_right j h1
    have e : ((Builtin.Int.intBits i : Nat) : Int) * ((j : Nat) : Int) = ((Builtin.Int.intBits i * j : Nat) : Int) := by rw [Int.natCast_mul]
    rw [e]
    have : (2 : Int) ^ 27 = 134217728 := by decide
    rw [this]
    omega
  rw [if_pos hc]
  exact q
theorem wp_ltI {i j : Int} (q : Q (.bl (decide (i < j))) ms) : Wp (gLt (.int i) (.int j) ms) Q := q
theorem wp_leI {i j : Int} (q : Q (.bl (decide (i ≤ j))) ms) : Wp (gLe (.int i) (.int j) ms) Q := q
theorem wp_gtI {i j : Int} (q : Q (.bl (decide (j < i))) ms) : Wp (gGt (.int i) (.int j) ms) Q := q
theorem wp_geI {i j : Int} (q : Q (.bl (decide (j ≤ i))) ms) : Wp (gGe (.int i) (.int j) ms) Q := q
theorem wp_addS {i j : Str} (h : i.length + j.length ≤ 100000) (q : Q (.str (i ++ j)) ms) : Wp (gAdd (.str i) (.str j) ms) Q := by rw [gAdd_str i j ms h]; exact q
theorem wp_addT {i j : List D} (h : i.length + j.length ≤ 100000) (q : Q (.tup (i ++ j)) ms) : Wp (gAdd (.tup i) (.tup j) ms) Q := by rw [gAdd_tup i j ms h]; exact q
theorem wp_addL {i j : List D} (h : i.length + j.length ≤ 100000) (q : Q (.lst (i ++ j)) ms) : Wp (gAdd (.lst i) (.lst j) ms) Q := by rw [gAdd_lst i j ms h]; exact q
theorem wp_slL {ds : List D} {lo hi : Option Int} (q : Q (.lst (cut ds lo hi)) ms) : Wp (gSl (.lst ds) lo hi ms) Q := q
theorem wp_slT {ds : List D} {lo hi : Option Int} (q : Q (.tup (cut ds lo hi)) ms) : Wp (gSl (.tup ds) lo hi ms) Q := q
theorem wp_slS {z : Str} {lo hi : Option Int} (h : z.length ≤ 100000) (q : Q (.str (cutS z lo hi)) ms) : Wp (gSl (.str z) lo hi ms) Q := by
  show Wp (if z.length ≤ 100000 then R.ok (.str (cutS z lo hi)) ms else .bad) Q
  rw [if_pos h]
  exact q
theorem wp_lenL {ds : List D} (q : Q (.int ds.length) ms) : Wp (gLen (.lst ds) ms) Q := q
theorem wp_lenT {ds : List D} (q : Q (.int ds.length) ms) : Wp (gLen (.tup ds) ms) Q := q
theorem wp_lenS {z : Str} (h : z.length ≤ 100000) (q : Q (.int z.length) ms) : Wp (gLen (.str z) ms) Q := by
  show Wp (if z.length ≤ 100000 then R.ok (.int z.length) ms else .bad) Q
  rw [if_pos h]
  exact q
theorem wp_isi {ty : Ty} {b : Ty} (h : tyOf d = some b) (hn : ty ≠ .non) (q : Q (.bl (b.le ty)) ms) : Wp (gIsi [d, .ty ty] ms) Q := by
  show Wp (match tyOf d with
    | some a => if ty ≠ .non then R.ok (.bl (a.le ty)) ms else .bad
    | none => .bad) Q
  simp only [h]
  rw [if_pos hn]
  exact q
theorem wp_eqD {n : Bool} {p q : PyData} (hx : x.py = some p) (hy : y.py = some q) (h1 : SeqAt.shaped p = true) (h2 : SeqAt.shaped q = true) (h : Q (.bl (if n then !PyData.eqv p q else PyData.eqv p q)) ms) : Wp (eqD n x y ms) Q := by
  unfold eqD
  rw [hx, hy]
  show Wp (if SeqAt.shaped p = true ∧ SeqAt.shaped q = true then R.ok _ ms else .bad) Q
  rw [if_pos ⟨h1, h2⟩]
  exact h
theorem wp_gEq {p q : PyData} (hx : x.py = some p) (hy : y.py = some q) (h1 : SeqAt.shaped p = true) (h2 : SeqAt.shaped q = true) (h : Q (.bl (PyData.eqv p q)) ms) : Wp (gEq x y ms) Q := wp_eqD (n := false) hx hy h1 h2 h
theorem wp_range1 {n : Int} (h1 : -(2 ^ 62) ≤ n) (h2 : n < 2 ^ 62) (q : Qa (rangeD 0 n.toNat) ms) : Wp (range1 [.int n] ms) Qa := by
  show Wp (if -(2 ^ 62) ≤ n ∧ n < 2 ^ 62 then R.ok (rangeD 0 n.toNat) ms else .bad) Qa
  rw [if_pos ⟨h1, h2⟩]
  exact q
theorem shaped_int (i : Int) : SeqAt.shaped (.int i) = true := rfl
theorem shaped_bl (i : Bool) : SeqAt.shaped (.bool i) = true := rfl
theorem shaped_str {x : Str} (h : PyData.strOk x = true) : SeqAt.shaped (.str x) = true := by
  unfold SeqAt.shaped
  rw [Bool.and_eq_true]
  exact ⟨by rw [PyData.canLay0]; exact h, rfl⟩
theorem wp_eqI {i j : Int} (q : Q (.bl (i == j)) ms) : Wp (gEq (.int i) (.int j) ms) Q := wp_gEq (p := .int i) (q := .int j) rfl rfl rfl rfl (by rw [PyData.eqv]; exact q)
theorem wp_eqS {i j : Str} (h1 : PyData.strOk i = true) (h2 : PyData.strOk j = true) (q : Q (.bl (i == j)) ms) : Wp (gEq (.str i) (.str j) ms) Q := wp_gEq (p := .str i) (q := .str j) rfl rfl (shaped_str h1) (shaped_str h2) (by rw [PyData.eqv]; exact q)
theorem wp_ne {p q : PyData} (h0 : eq0 x y ms = .bad) (hx : x.py = some p) (hy : y.py = some q) (h1 : SeqAt.shaped p = true) (h2 : SeqAt.shaped q = true) (h : Q (.bl (!PyData.eqv p q)) ms) : Wp (gNe x y ms) Q := by
  unfold gNe orG
  rw [h0]
  exact wp_eqD (n := true) hx hy h1 h2 h
theorem wp_neI {i j : Int} (q : Q (.bl (!(i == j))) ms) : Wp (gNe (.int i) (.int j) ms) Q := wp_ne (p := .int i) (q := .int j) rfl rfl rfl rfl rfl (by rw [PyData.eqv]; exact q)
theorem wp_neB {i j : Bool} (q : Q (.bl (!(i == j))) ms) : Wp (gNe (.bl i) (.bl j) ms) Q := wp_ne (p := .bool i) (q := .bool j) rfl rfl rfl rfl rfl (by rw [PyData.eqv]; exact q)
theorem wp_ne0 {ds : List D} (q : Q (.bl (!ds.isEmpty)) ms) : Wp (gNe (.tup ds) (.tup []) ms) Q := q
theorem wp_inF {ds : List D} (h1 : x.flat = true) (h2 : ds.all D.flat = true) (q : Q (.bl (ds.any fun d => eqF d x)) ms) (h0 : gInStr false x (.lst ds) ms = .bad) : Wp (gIn x (.lst ds) ms) Q := by
  unfold gIn orG
  rw [h0]
  show Wp (if x.flat = true ∧ ds.all D.flat = true then R.ok (.bl (ds.any fun d => eqF d x)) ms else .bad) Q
  rw [if_pos ⟨h1, h2⟩]
  exact q
theorem wp_notInF {ds : List D} (h1 : x.flat = true) (h2 : ds.all D.flat = true) (q : Q (.bl (!(ds.any fun d => eqF d x))) ms) (h0 : gInStr true x (.lst ds) ms = .bad) : Wp (gNotIn x (.lst ds) ms) Q := by
  unfold gNotIn orG
  rw [h0]
  show Wp (if x.flat = true ∧ ds.all D.flat = true then R.ok (.bl (!(ds.any fun d => eqF d x))) ms else .bad) Q
  rw [if_pos ⟨h1, h2⟩]
  exact q
theorem wp_inS {c : Nat} {z : Str} (q : Q (.bl (decide (c ∈ z.cps.toList))) ms) : Wp (gIn (.str ⟨#[c]⟩) (.str z) ms) Q := q
theorem wp_notInS {c : Nat} {z : Str} (q : Q (.bl (!decide (c ∈ z.cps.toList))) ms) : Wp (gNotIn (.str ⟨#[c]⟩) (.str z) ms) Q := q
/-- an item of a list at a drawn place -/
theorem atI_in {α : Type} {xs : List α} {i : Int} (h0 : 0 ≤ i) (h : i < xs.length) : ∃ x, atI xs i = some x ∧ x ∈ xs := by
  have hi : i.toNat < xs.length := by omega
  have e : i = ((i.toNat : Nat) : Int) := by omega
  refine ⟨xs[i.toNat], ?_, List.getElem_mem hi⟩
  have := atI_nat (xs := xs) (j := i.toNat) (v := xs[i.toNat]) (List.getElem?_eq_getElem hi)
  rw [← e] at this
  exact this
theorem wp_ixLd {ds : List D} {i : Int} (h0 : 0 ≤ i) (h : i < ds.length) (q : ∀ d ∈ ds, Q d ms) : Wp (gIx (.lst ds) (.int i) ms) Q := by
  obtain ⟨x, hx, hm⟩ := atI_in h0 h
  exact wp_ixL hx (q x hm)
/-- a comprehension whose parts are plain functions of the item -/
theorem lcRun_fm {α : Type} {g : G} {tt : SS → M Bool} {e : SS → M D} {it : α → D} {p : α → Bool} {f : α → D} {ss : SS} {ms : MS} : ∀ (ds : List α) (acc : List D), acc.length + ds.length ≤ 100000 → (∀ d ∈ ds, ∃ ss1, g (it d) ss = some ss1 ∧ tt ss1 ms = .ok (p d) ms ∧ (p d = true → e ss1 ms = .ok (f d) ms)) →
    E.lcRun g tt e ss (ds.map it) acc ms = .ok (acc ++ (ds.filter p).map f) ms
  | [], acc, _, _ => by
    rw [List.map_nil]
    unfold E.lcRun
    simp
  | d :: ds, acc, hl, h => by
    obtain ⟨ss1, e1, e2, e3⟩ := h d (by simp)
    rw [List.map_cons]
    unfold E.lcRun
    simp only [e1, e2]
    rw [List.length_cons] at hl
    cases hp : p d with
    | false =>
      simp only [hp]
      rw [lcRun_fm ds acc (by omega) fun d' hd' => h d' (List.mem_cons_of_mem _ hd')]
      simp [hp]
    | true =>
      simp only [hp, e3 hp]
      rw [if_pos (by omega), lcRun_fm ds (acc ++ [f d]) (by rw [List.length_append]; simp; omega) fun d' hd' => h d' (List.mem_cons_of_mem _ hd')]
      simp [hp]
theorem lcRun_map {α : Type} {g : G} {e : SS → M D} {it f : α → D} {ss : SS} {ms : MS} {ds : List α} (hl : ds.length ≤ 100000) (h : ∀ d ∈ ds, ∃ ss1, g (it d) ss = some ss1 ∧ e ss1 ms = .ok (f d) ms) : E.lcRun g E.yes e ss (ds.map it) [] ms = .ok (ds.map f) ms := by
  rw [lcRun_fm (p := fun _ => true) (f := f) ds [] (by simpa using hl) fun d hd => by
    obtain ⟨ss1, e1, e2⟩ := h d hd
    exact ⟨ss1, e1, rfl, fun _ => e2⟩]
  rw [List.filter_eq_self.mpr (by simp)]
  rfl
theorem allB_map {α : Type} (f : α → Bool) : ∀ xs : List α, allB (xs.map fun x => D.bl (f x)) = some (xs.all f)
  | [] => rfl
  | x :: xs => by
    rw [List.map_cons, allB, allB_map f xs]
    rfl
theorem wp_itS {z : Str} (q : Qa (chars z) ms) : Wp (itemsD (.str z) ms) Qa := q
theorem wp_itL {ds : List D} (q : Qa ds ms) : Wp (itemsD (.lst ds) ms) Qa := q
theorem wp_itT {ds : List D} (q : Qa ds ms) : Wp (itemsD (.tup ds) ms) Qa := q
theorem wp_all {ds : List D} {k : Bool} (h : allB ds = some k) (q : Q (.bl k) ms) : Wp (gAll (.lst ds) ms) Q := by
  show Wp (match allB ds with
    | some k => R.ok (D.bl k) ms
    | none => R.bad) Q
  rw [h]
  exact q
/-! data that may be compared -/
def plainD : Nat → D → Prop
  | _, .non => True
  | _, .bl _ => True
  | _, .int _ => True
  | _, .str x => PyData.strOk x = true
  | n + 1, .tup ds => ∀ d ∈ ds, plainD n d
  | n + 1, .lst ds => ∀ d ∈ ds, plainD n d
  | _, _ => False
theorem pys_of {n : Nat} (ih : ∀ d, plainD n d → ∃ q, d.py = some q ∧ q.canLay0 = true ∧ q.depth ≤ n) : ∀ ds : List D, (∀ d ∈ ds, plainD n d) → ∃ qs, pys ds = some qs ∧ PyData.canLayAll0 qs = true ∧ PyData.depthAll qs ≤ n
  | [], _ => ⟨[], rfl, rfl, Nat.zero_le _⟩
  | d :: ds, h => by
    obtain ⟨q, e1, c1, d1⟩ := ih d (h d (by simp))
    obtain ⟨qs, e2, c2, d2⟩ := pys_of ih ds fun x hx => h x (List.mem_cons_of_mem _ hx)
    refine ⟨q :: qs, by rw [pys, e1, e2], by rw [PyData.canLayAll0, c1, c2]; rfl, ?_⟩
    rw [PyData.depthAll]
    exact Nat.max_le.mpr ⟨d1, d2⟩
theorem plainD.py : ∀ {n : Nat} {d : D}, plainD n d → ∃ q, d.py = some q ∧ q.canLay0 = true ∧ q.depth ≤ n
  | n, .non, _ => ⟨_, rfl, rfl, Nat.zero_le _⟩
  | n, .bl b, _ => ⟨_, rfl, rfl, Nat.zero_le _⟩
  | n, .int b, _ => ⟨_, rfl, rfl, Nat.zero_le _⟩
  | n, .str b, h => ⟨_, rfl, by rw [PyData.canLay0]; cases n <;> exact h, Nat.zero_le _⟩
  | n + 1, .tup ds, h => by
    obtain ⟨qs, e, c, dd⟩ := pys_of (fun d => plainD.py) ds h
    exact ⟨.tuple qs, by rw [D.py, e]; rfl, by rw [PyData.canLay0]; exact c, by rw [PyData.depth]; omega⟩
  | n + 1, .lst ds, h => by
    obtain ⟨qs, e, c, dd⟩ := pys_of (fun d => plainD.py) ds h
    exact ⟨.list qs, by rw [D.py, e]; rfl, by rw [PyData.canLay0]; exact c, by rw [PyData.depth]; omega⟩
  | 0, .tup ds, h => h.elim
  | 0, .lst ds, h => h.elim
  | n, .dct _ _, h => by cases n <;> exact h.elim
  | n, .pot, h => by cases n <;> exact h.elim
  | n, .fn _, h => by cases n <;> exact h.elim
  | n, .ty _, h => by cases n <;> exact h.elim
  | n, .xo _ _, h => by cases n <;> exact h.elim
theorem shaped_of {q : PyData} {n : Nat} (h1 : q.canLay0 = true) (h2 : q.depth ≤ n) (h3 : n ≤ 64) : SeqAt.shaped q = true := by
  unfold SeqAt.shaped
  rw [h1, decide_eq_true (by omega)]
  rfl
def eqvD (x y : D) : Bool := match x.py, y.py with
  | some a, some b => PyData.eqv a b
  | _, _ => false
theorem wp_eqP {n n' : Nat} (hx : plainD n x) (hy : plainD n' y) (hn : n ≤ 64) (hn' : n' ≤ 64) (q : Q (.bl (eqvD x y)) ms) : Wp (gEq x y ms) Q := by
  obtain ⟨a, e1, c1, d1⟩ := hx.py
  obtain ⟨b, e2, c2, d2⟩ := hy.py
  refine wp_gEq e1 e2 (shaped_of c1 d1 hn) (shaped_of c2 d2 hn') ?_
  have : eqvD x y = PyData.eqv a b := by unfold eqvD; rw [e1, e2]
  rw [← this]
  exact q
theorem wp_neP {n n' : Nat} (h0 : eq0 x y ms = .bad) (hx : plainD n x) (hy : plainD n' y) (hn : n ≤ 64) (hn' : n' ≤ 64) (q : Q (.bl (!eqvD x y)) ms) : Wp (gNe x y ms) Q := by
  obtain ⟨a, e1, c1, d1⟩ := hx.py
  obtain ⟨b, e2, c2, d2⟩ := hy.py
  refine wp_ne h0 e1 e2 (shaped_of c1 d1 hn) (shaped_of c2 d2 hn') ?_
  have : eqvD x y = PyData.eqv a b := by unfold eqvD; rw [e1, e2]
  rw [← this]
  exact q
theorem eqv_nil {n : Nat} {ds : List D} (h : plainD n (.lst ds)) : eqvD (.lst ds) (.lst []) = ds.isEmpty := by
  unfold eqvD
  obtain ⟨a, e1, _⟩ := h.py
  cases ds with
  | nil => rfl
  | cons d ds =>
    rw [e1]
    rw [D.py] at e1
    cases e2 : pys (d :: ds) with
    | none => rw [e2] at e1; cases e1
    | some qs =>
      rw [e2] at e1
      cases e1
      rw [pys] at e2
      cases e3 : d.py with
      | none => rw [e3] at e2; cases e2
      | some q =>
        cases e4 : pys ds with
        | none => rw [e3, e4] at e2; cases e2
        | some r =>
          rw [e3, e4] at e2
          cases e2
          show PyData.eqv (.list (q :: r)) (.list []) = false
          rw [PyData.eqv, PyData.eqvAll]
theorem wp_abs {i : Int} (q : Q (.int (if i < 0 then -i else i)) ms) : Wp (gAbs (.int i) ms) Q := q
theorem wp_intB {b : Bool} (q : Q (.int (if b then 1 else 0)) ms) : Wp (gInt (.bl b) ms) Q := q
theorem wp_intI {i : Int} (q : Q (.int i) ms) : Wp (gInt (.int i) ms) Q := q
theorem wp_listL {ds : List D} (q : Q (.lst ds) ms) : Wp (gList (.lst ds) ms) Q := q
theorem wp_listT {ds : List D} (q : Q (.lst ds) ms) : Wp (gList (.tup ds) ms) Q := q
theorem wp_tupleL {ds : List D} (q : Q (.tup ds) ms) : Wp (gTuple (.lst ds) ms) Q := q
theorem wp_tupleT {ds : List D} (q : Q (.tup ds) ms) : Wp (gTuple (.tup ds) ms) Q := q
theorem wp_min {i j : Int} (q : Q (.int (if j < i then j else i)) ms) : Wp (gMin [.int i, .int j] ms) Q := q
theorem wp_max {i j : Int} (q : Q (.int (if j > i then j else i)) ms) : Wp (gMax [.int i, .int j] ms) Q := q
theorem wp_neg {i : Int} (q : Q (.int (-i)) ms) : Wp (gNeg (.int i) ms) Q := q
theorem wp_range2 {i n : Int} (h : -(2 ^ 62) ≤ i ∧ i < 2 ^ 62 ∧ -(2 ^ 62) ≤ n ∧ n < 2 ^ 62) (q : Qa (rangeD i (n - i).toNat) ms) : Wp (range2 [.int i, .int n] ms) Qa := by
  show Wp (if -(2 ^ 62) ≤ i ∧ i < 2 ^ 62 ∧ -(2 ^ 62) ≤ n ∧ n < 2 ^ 62 then R.ok (rangeD i (n - i).toNat) ms else .bad) Qa
  rw [if_pos h]
  exact q
theorem iteK1 {c : Bool} {A B : Prop} (h : c = true) (a : A) : if c = true then A else B := by rw [if_pos h]; exact a
theorem iteK0 {c : Bool} {A B : Prop} (h : c = false) (a : B) : if c = true then A else B := by rw [h, if_neg Bool.false_ne_true]; exact a
end
end Q

set_option Elab.async false
set_option linter.all false
set_option maxRecDepth 100000
set_option maxHeartbeats 4000000
/-! Ql: written dicts; a law's end. -/
namespace Q
open PySem L2 PyProof.Rows
def keysOf : List DictEntry → List Str
  | [] => []
  | e :: r => match e.key with
    | .str x _ => x :: keysOf r
    | _ => keysOf r
theorem find_keys {P : Params} : ∀ {l : List DictEntry}, PySem.W.KeysLit P l → ∀ z : Str, (l.find? fun e => e.key.isStr z).isSome = decide (z ∈ keysOf l) ∧ l.any (·.refKey) = false
  | [], _, z => ⟨by simp [keysOf], rfl⟩
  | e :: r, ⟨⟨x, t, hk, _⟩, h⟩, z => by
    obtain ⟨i1, i2⟩ := find_keys h z
    obtain ⟨eh, ek, ev⟩ := e
    simp only at hk
    subst hk
    refine ⟨?_, ?_⟩
    · rw [List.find?_cons]
      have e1 : (Value.str x t).isStr z = (x == z) := rfl
      show (match (Value.str x t).isStr z with
        | true => some _
        | false => r.find? _).isSome = decide (z ∈ x :: keysOf r)
      rw [e1]
      by_cases hz : x = z
      · subst hz
        simp
      · have : (x == z) = false := beq_eq_false_iff_ne.mpr hz
        rw [this]
        simp only [List.mem_cons, show ¬ z = x from fun q => hz q.symm, false_or]
        exact i1
    · rw [List.any_cons, i2]
      rfl
theorem kd_of {K : PySem.W.Frag} {w : World} {d : Addr} {es : Array DictEntry} {n : Nat} {ks : List Str} (at_ : K.lookup d = some ⟨.type "dict", none, .dict es n, #[]⟩) (lit : PySem.W.KeysLit w.params es.toList) (low : (d == sysModules) = false) (hk : keysOf es.toList = ks) : KD K w d ks := by
  refine ⟨es, n, ⟨at_, lit, low⟩, fun z => ?_⟩
  obtain ⟨i1, i2⟩ := find_keys lit z
  rw [hk] at i1
  unfold PySem.W.nsIn
  rw [at_]
  cases q : es.toList.find? fun e => e.key.isStr z with
  | some e =>
    rw [q] at i1
    exact ⟨some e.val, by simp only [q], i1⟩
  | none =>
    rw [q] at i1
    refine ⟨none, ?_, i1⟩
    simp only [q]
    rw [i2]
    rfl
theorem cx_no {P : Program} {w : World} {outer : List Env} {H : Hp} {s : Shared} {e : Value} {s' : Shared} (h : L2.CX P w outer H s (fun _ _ _ => False) e s') : False := by
  obtain ⟨_, _, _, _, _, _, _, _, _, _, _, _, z⟩ := h
  exact z
end Q

set_option Elab.async false
set_option linter.all false
set_option maxRecDepth 100000
set_option maxHeartbeats 4000000
/-! Qm: raise, try .. except, zip, dict comprehensions. -/
namespace Q
open PySem L2 PyProof.Rows

/-! ### exceptions of own classes -/
abbrev veBm : List Value := [.type "ValueError", .type "Exception", .type "BaseException", .type "object"]
/-- x is an own class under ValueError, without an own __init__ -/
structure Ec (K : PySem.W.Frag) (mg : Str → Option Value) (x : Str) : Prop where
  ex : ∃ C : Addr, mg x = some (.ref C) ∧ PySem.W.excIn K C veBm "ValueError.__new__" = true ∧ PySem.W.keepIn K (.ref C) = true ∧ PySem.W.subIn K (.ref C) (.type "BaseException") = some true ∧ PySem.W.typeIn K (.ref C) = some (.type "type")
/-- an exception of class n, asked by 'except x' -/
def Xm (K : PySem.W.Frag) (mg : Str → Option Value) (n x : Str) (b : Bool) : Prop := ∀ u c, mg n = some u → mg x = some c → PySem.W.exmOne K u c = some b
def S.raise (x : Str) : SS → MS → O := fun ss ms => .ex x ss ms
section
variable {X : Cx} {W : WX} {pos : Pos}
theorem js_raise {x m : Str} {j : Nat} {p1 p2 p3 : Pos} (F : Ec X.K X.mg x) (tk : Takes X W) (hg : Gl X x := by rfl) (hc : X.calm = true := by rfl) (hdb : (x == ("__debug__" : Str)) = false := by decide) :
    JS X W (.Raise (some (.Call (.Name x p1) [.Constant (.str m) j p2] [] p3)) none pos) (S.raise x) := by
  obtain ⟨C, g, q, k, h1, h2⟩ := F.ex
  exact ⟨_, ps_raise hc tk (pmk_own PySem.F.excBase_ValueError q g k (raises_own h1 h2) hg hdb), fun p B F0 σ ss H F ms En fm po => po _ g σ H F fm⟩

/-! ### try .. except x: -/
def rdS (K : PySem.W.Frag) (mg : Str → Option Value) (W : WX) (m : SS → MS → O) : TS := fun En σ H => ∃ (p : Option Addr) (B F0 : Hp) (ss : SS) (F : Hp) (ms : MS), Fm K p B F0 F H σ ss ms ∧ PoS K mg W p B F0 (m ss ms) En
theorem JSs.ps {sts : List Stmt} {m : SS → MS → O} (h : JSs X W sts m) : PSs X sts (rdS X.K X.mg W m) := by
  obtain ⟨t, h1, h2⟩ := h
  exact ⟨fun pins s σ H En I ⟨p, B, F0, ss, F, ms, fm, po⟩ => h1.run pins s σ H En I (h2 p B F0 σ ss H F ms En fm po)⟩
def noEx : O → O
  | .ex _ _ _ => .bad
  | o => o
theorem PoS.noEx {K : PySem.W.Frag} {mg : Str → Option Value} {W W' : WX} {p : Option Addr} {B F0 : Hp} {En : Ends} {o : O} (h : PoS K mg W p B F0 (noEx o) En) : PoS K mg W' p B F0 o En := by
  cases o with
  | ex c ss ms => exact h.elim
  | nx ss ms => exact h
  | rt d ms => exact h
  | bk ss ms => exact h
  | ct ss ms => exact h
  | bad => exact h
def S.tryO (yes no : List Str) (b h : SS → MS → O) : SS → MS → O := fun ss ms => match b ss ms with
  | .ex c ss1 ms1 => if c ∈ yes then noEx (h ss1 ms1) else if c ∈ no then .ex c ss1 ms1 else .bad
  | o => o
theorem js_tryO {x : Str} {c : Value} {body suite : List Stmt} {b0 : Stmt} {np pos' : Pos} {mb mh : SS → MS → O} {yes no : List Str} (hb : ∀ (W' : WX) (pn : List (Addr × Obj)) (xe : Value → Shared → Prop), Takes (X.tr pn xe) W' → PassesOwn (model X.prog X.w) X.A X.env xe → JSs (X.tr pn xe) W' body mb)
    (hsu : ∀ (a : Addr) (oe : Obj) (pn : List (Addr × Obj)), JSs (X.suite a ((a, oe) :: pn)) W0 (b0 :: suite) mh)
    (tk : Takes X W) (g : X.mg x = some c) (hy : ∀ n ∈ yes, Xm X.K X.mg n x true) (hn : ∀ n ∈ no, Xm X.K X.mg n x false) (hg : Gl X x := by rfl) (hs : X.stack = X.env :: X.outer := by rfl) (hf : X.env.frame = some X.env.locals := by rfl) (hdb : (x == ("__debug__" : Str)) = false := by decide) :
    JS X W (.Try body [.ExceptHandler (some (.Name x np)) none (b0 :: suite) pos'] [] [] pos) (S.tryO yes no mb mh) := by
  refine ⟨_, ps_try_only hs hf ⟨hg, hdb, .inl g⟩ tk (tb := fun W' => rdS X.K X.mg W' mb) (ts := fun _ _ _ => rdS X.K X.mg W0 mh) (fun W' pn xe tk' pw => (hb W' pn xe tk' pw).ps) (fun a oe cls d pn _ _ => (hsu a oe pn).ps), fun p B F0 σ ss H F ms En fm po => ?_⟩
  refine ⟨p, B, F0, ss, F, ms, fm, ?_⟩
  unfold S.tryO at po
  cases r : mb ss ms with
  | nx ss1 ms1 => rw [r] at po; exact po
  | rt d ms1 => rw [r] at po; exact po
  | bk ss1 ms1 => rw [r] at po; exact po
  | ct ss1 ms1 => rw [r] at po; exact po
  | bad => rw [r] at po; exact po
  | ex n ss1 ms1 =>
    rw [r] at po
    have po : PoS X.K X.mg W p B F0 (if n ∈ yes then noEx (mh ss1 ms1) else if n ∈ no then .ex n ss1 ms1 else .bad) En := po
    intro u hu σ' H' F' fm'
    by_cases y : n ∈ yes
    · rw [if_pos y] at po
      exact ⟨true, hy n y u c hu g, fun _ a ha => ⟨p, B, F0, ss1, F', ms1, fm', po.noEx⟩, fun z => by cases z⟩
    · rw [if_neg y] at po
      by_cases z : n ∈ no
      · rw [if_pos z] at po
        exact ⟨false, hn n z u c hu g, (fun w => by cases w), fun _ => po u hu σ' H' F' fm'⟩
      · rw [if_neg z] at po
        exact po.elim

/-! ### zip -/
def pairs : List D → List D → List D
  | x :: xs, y :: ys => .tup [x, y] :: pairs xs ys
  | _, _ => []
theorem pairs_get : ∀ {xs ys : List D} {i : Nat} {d : D}, (pairs xs ys)[i]? = some d → ∃ x y, xs[i]? = some x ∧ ys[i]? = some y ∧ d = .tup [x, y]
  | [], ys, i, d, h => by simp [pairs] at h
  | x :: xs, [], i, d, h => by simp [pairs] at h
  | x :: xs, y :: ys, 0, d, h => ⟨x, y, rfl, rfl, by simpa [pairs] using h.symm⟩
  | x :: xs, y :: ys, i + 1, d, h => by
    obtain ⟨a, b, h1, h2, h3⟩ := pairs_get (xs := xs) (ys := ys) (i := i) (d := d) (by simpa [pairs] using h)
    exact ⟨a, b, by simpa using h1, by simpa using h2, h3⟩
theorem pairs_end : ∀ {xs ys : List D} {i : Nat}, (pairs xs ys).length ≤ i → xs.length ≤ i ∨ ys.length ≤ i
  | [], ys, i, h => .inl (by simp)
  | x :: xs, [], i, h => .inr (by simp)
  | x :: xs, y :: ys, 0, h => by simp [pairs] at h
  | x :: xs, y :: ys, i + 1, h => by
    rcases pairs_end (xs := xs) (ys := ys) (i := i) (by simpa [pairs] using h) with h | h
    · exact .inl (by simpa using h)
    · exact .inr (by simpa using h)
def zipD : D → D → M (List D)
  | .lst xs, y => (match y with
    | .lst ys => fun ms => .ok (pairs xs ys) ms
    | _ => fun _ => .bad)
  | .tup xs, y => (match y with
    | .tup ys => fun ms => .ok (pairs xs ys) ms
    | _ => fun _ => .bad)
  | _, _ => fun _ => .bad
def zip2 : List D → M (List D)
  | [x, y] => zipD x y
  | _ => fun _ => .bad
theorem dt_pair {K : PySem.W.Frag} {p : Option Addr} {F H : Hp} {ms : MS} {T : Addr} {u v : V} {x y : D} (hs : Hs p F H ms) (hT : H T = none) (hu : Dt K p F u x) (hv : Dt K p F v y) : Dt K p (upd F T (.tup [u, v])) (.ref T) (.tup [x, y]) := by
  have e := Ext.new (o := .tup [u, v]) hs hT
  exact .tup (SqT.of upd_same) (.cons (hu.mono e.ff) (.cons (hv.mono e.ff) .nil))
theorem seqs_zip {K : PySem.W.Frag} {p : Option Addr} {F : Hp} {a b : Addr} {xs ys : List V} {ds es : List D} (h : SqL K F a xs) (h' : SqL K F b ys) (r : Dts K p F xs ds) (r' : Dts K p F ys es) : Seqs K p F (Itz K a b) (pairs ds es) := by
  intro H1 F1 ms sf hs i
  have h1 : SqL K H1 a xs := same_l hs.fh (same_l sf h)
  have h2 : SqL K H1 b ys := same_l hs.fh (same_l sf h')
  refine ⟨fun d hd => ?_, fun hl => ⟨xs, ys, h1, h2, by rw [r.length, r'.length]; exact pairs_end hl⟩⟩
  obtain ⟨x, y, e1, e2, rfl⟩ := pairs_get hd
  obtain ⟨u, hu, q⟩ := r.get e1
  obtain ⟨v, hv, q'⟩ := r'.get e2
  refine ⟨⟨xs, ys, u, v, h1, h2, hu, hv⟩, fun z H2 hy => ?_⟩
  obtain ⟨T, u', v', rfl, hT, rfl, k1, k2⟩ := hy
  have e3 := (k1 xs h1).symm.trans hu
  have e4 := (k2 ys h2).symm.trans hv
  cases e3
  cases e4
  exact ⟨_, Ext.new hs hT, dt_pair hs hT (q.mono sf) (q'.mono sf)⟩
theorem seqs_zipT {K : PySem.W.Frag} {p : Option Addr} {F : Hp} {a b : Addr} {xs ys : List V} {ds es : List D} (h : SqT K F a xs) (h' : SqT K F b ys) (r : Dts K p F xs ds) (r' : Dts K p F ys es) : Seqs K p F (RZ.ItzT K a b) (pairs ds es) := by
  intro H1 F1 ms sf hs i
  have h1 : SqT K H1 a xs := same_t hs.fh (same_t sf h)
  have h2 : SqT K H1 b ys := same_t hs.fh (same_t sf h')
  refine ⟨fun d hd => ?_, fun hl => ⟨xs, ys, h1, h2, by rw [r.length, r'.length]; exact pairs_end hl⟩⟩
  obtain ⟨x, y, e1, e2, rfl⟩ := pairs_get hd
  obtain ⟨u, hu, q⟩ := r.get e1
  obtain ⟨v, hv, q'⟩ := r'.get e2
  refine ⟨⟨xs, ys, u, v, h1, h2, hu, hv⟩, fun z H2 hy => ?_⟩
  obtain ⟨T, u', v', rfl, hT, rfl, k1, k2⟩ := hy
  have e3 := (k1 xs h1).symm.trans hu
  have e4 := (k2 ys h2).symm.trans hv
  cases e3
  cases e4
  exact ⟨_, Ext.new hs hT, dt_pair hs hT (q.mono sf) (q'.mono sf)⟩
theorem ji_zip {a b : Expr} {elts : List Expr} {kk : Nat} {mr : SS → M (List D)} {p0 p1 tpos : Pos} (hg : Gl X "zip") (hm : X.mg "zip" = none) (ha : JA X W [a, b] mr) (hs : starEach [a, b] X.env = (false, eval a X.env) :: starEach [b] X.env := by rfl) (hpl : (backTo p1 (starEach [b] X.env)).any (·.1) = false := by rfl) :
    JI X W (.Tuple elts kk tpos) (.Call (.Name "zip" p0) [a, b] [] p1) (E.itsA zip2 mr) := by
  obtain ⟨t, h1, h2⟩ := ha
  refine ⟨_, RZ.pi_zipA hg hm h1 hs hpl, fun p B σ ss H F ms Rr s hs po => ?_⟩
  refine h2 p B σ ss H F ms _ s hs (po.bind fun ds ms1 vs H1 F1 e1 q1 po1 => ?_)
  match ds, q1, po1 with
  | [], _, po1 => exact po1.elim
  | [_], _, po1 => exact po1.elim
  | _ :: _ :: _ :: _, _, po1 => exact po1.elim
  | [x, y], .cons qx (.cons qy .nil), po1 =>
    cases x with
    | lst xs =>
      cases y with
      | lst ys =>
        cases qx with
        | lst k1 r1 =>
          cases qy with
          | lst k2 r2 => exact ⟨_, _, _, _, rfl, .inl ⟨same_l e1.hs.fh k1, same_l e1.hs.fh k2, Po.ok po1 e1.hs (seqs_zip k1 k2 r1 r2)⟩⟩
      | _ => exact po1.elim
    | tup xs =>
      cases y with
      | tup ys =>
        cases qx with
        | tup k1 r1 =>
          cases qy with
          | tup k2 r2 => exact ⟨_, _, _, _, rfl, .inr ⟨same_t e1.hs.fh k1, same_t e1.hs.fh k2, Po.ok po1 e1.hs (seqs_zipT k1 k2 r1 r2)⟩⟩
      | _ => exact po1.elim
    | _ => exact po1.elim
end
end Q

set_option Elab.async false
set_option linter.all false
set_option maxRecDepth 100000
set_option maxHeartbeats 4000000
/-! Qn: dict comprehensions, d[k] of a new dict, f(.., k = v), T[k](..). -/
namespace Q
open PySem L2 PyProof.Rows

/-! ### tables -/
def repK {α : Type} : List Key → List α → Key → α → List α
  | k1 :: ks, x :: xs, k, y => (if k1 = k then y else x) :: repK ks xs k y
  | _, xs, _, _ => xs
def hasK (ks : List Key) (k : Key) : Bool := ks.any fun j => decide (j = k)
def putKs (ks : List Key) (k : Key) : List Key := if hasK ks k = true then ks else ks ++ [k]
def putVs {α : Type} (ks : List Key) (xs : List α) (k : Key) (y : α) : List α := if hasK ks k = true then repK ks xs k y else xs ++ [y]
def getK {α : Type} : List Key → List α → Key → Option α
  | k1 :: ks, x :: xs, k => if k1 = k then some x else getK ks xs k
  | _, _, _ => none
theorem repK_len {α : Type} : ∀ (ks : List Key) (xs : List α) (k : Key) (y : α), (repK ks xs k y).length = xs.length
  | [], xs, k, y => by cases xs <;> rfl
  | k1 :: ks, [], k, y => rfl
  | k1 :: ks, x :: xs, k, y => by simp [repK, repK_len ks xs k y]
theorem put_len {α : Type} {ks : List Key} {xs : List α} (k : Key) (y : α) (h : ks.length = xs.length) : (putKs ks k).length = (putVs ks xs k y).length := by
  unfold putKs putVs
  split
  · rw [repK_len]; exact h
  · simp [h]
theorem zip_rep : ∀ (ks : List Key) (xs : List V) (k : Key) (y : V), (ks.zip xs).map (fun kv => if kv.1 = k then (kv.1, y) else kv) = ks.zip (repK ks xs k y)
  | [], xs, k, y => rfl
  | k1 :: ks, [], k, y => rfl
  | k1 :: ks, x :: xs, k, y => by
    show (if k1 = k then (k1, y) else (k1, x)) :: (ks.zip xs).map _ = (k1, _) :: ks.zip (repK ks xs k y)
    rw [zip_rep ks xs k y]
    by_cases e : k1 = k
    · simp [e]
    · simp [e]
theorem zip_any : ∀ (ks : List Key) (xs : List V) (k : Key), ks.length = xs.length → ((ks.zip xs).any fun kv => decide (kv.1 = k)) = hasK ks k
  | [], xs, k, _ => rfl
  | k1 :: ks, [], k, h => by simp at h
  | k1 :: ks, x :: xs, k, h => by
    have ih := zip_any ks xs k (by simpa using h)
    show (decide (k1 = k) || (ks.zip xs).any _) = (decide (k1 = k) || hasK ks k)
    rw [ih]
theorem put_zip {ks : List Key} {xs : List V} {k : Key} {y : V} (h : ks.length = xs.length) : putK (ks.zip xs) k y = (putKs ks k).zip (putVs ks xs k y) := by
  unfold putK putKs putVs
  rw [zip_any ks xs k h]
  by_cases e : hasK ks k = true
  · rw [if_pos e, if_pos e, if_pos e]
    exact zip_rep ks xs k y
  · rw [if_neg e, if_neg e, if_neg e, List.zip_append h]
    rfl
theorem Dts.repk {K : PySem.W.Frag} {p : Option Addr} {F : Hp} {v : V} {d : D} (q : Dt K p F v d) : ∀ (ks : List Key) {xs : List V} {ds : List D} (k : Key), Dts K p F xs ds → Dts K p F (repK ks xs k v) (repK ks ds k d)
  | [], _, _, _, .nil => .nil
  | [], _, _, _, .cons h r => .cons h r
  | _ :: _, _, _, _, .nil => .nil
  | k1 :: ks, _, _, k, .cons h r => by
    show Dts K p F ((if k1 = k then v else _) :: _) ((if k1 = k then d else _) :: _)
    by_cases e : k1 = k
    · rw [if_pos e, if_pos e]; exact .cons q (Dts.repk q ks k r)
    · rw [if_neg e, if_neg e]; exact .cons h (Dts.repk q ks k r)
theorem Dts.put {K : PySem.W.Frag} {p : Option Addr} {F : Hp} {v : V} {d : D} {ks : List Key} {xs : List V} {ds : List D} {k : Key} (q : Dt K p F v d) (r : Dts K p F xs ds) : Dts K p F (putVs ks xs k v) (putVs ks ds k d) := by
  unfold putVs
  split
  · exact Dts.repk q ks k r
  · exact r.snoc q
theorem get_zip {K : PySem.W.Frag} {p : Option Addr} {F : Hp} : ∀ {ks : List Key} {xs : List V} {ds : List D} {k : Key} {d : D}, Dts K p F xs ds → getK ks ds k = some d → ∃ v, valV (ks.zip xs) k = some v ∧ Dt K p F v d
  | [], xs, ds, k, d, r, h => by cases ds <;> cases h
  | k1 :: ks, _, _, k, d, .nil, h => by cases h
  | k1 :: ks, _, _, k, d, .cons (v := v) (vs := vs) (ds := ds) q r, h => by
    unfold getK at h
    by_cases e : k1 = k
    · rw [if_pos e] at h
      cases h
      exact ⟨v, valV_pos (p := (k1, v)) e, q⟩
    · rw [if_neg e] at h
      obtain ⟨u, h1, h2⟩ := get_zip r h
      exact ⟨u, by rw [← h1]; exact valV_neg (p := (k1, v)) e, h2⟩
def keyD : D → Option Key
  | .int i => some (.inl i)
  | .str x => some (.inr x)
  | _ => none
theorem keyD_v {K : PySem.W.Frag} {p : Option Addr} {F : Hp} {v : V} {d : D} {k : Key} (q : Dt K p F v d) (h : keyD d = some k) : v = kV k := by
  cases q with
  | int i => cases h; rfl
  | str x => cases h; rfl
  | _ => cases h

/-! ### d[k] -/
def gDIx : D → D → M D := fun x y ms => match x with
  | .dct ks ds => (match keyD y with
    | some k => (match getK ks ds k with
      | some d => .ok d ms
      | none => .bad)
    | none => .bad)
  | _ => .bad
section
variable {X : Cx} {W : WX} {a b e : Expr} {es : List Expr} {ma mb : SS → M D} {pos : Pos}
theorem je_dget {k : Nat} (hr : Room k X.A) (ha : JE X W a ma) (hb : JE X W b mb) (hs : NoSl b := by exact fun _ _ => rfl) : JE X W (.Subscript a b pos) (E.op2 gDIx ma mb) := by
  obtain ⟨t, h1, h2⟩ := ha
  obtain ⟨u, h3, h4⟩ := hb
  refine ⟨_, pe_dget (by have := hr.units; omega) h1 h3 hs, fun p B σ ss H F ms Q s hs po => ?_⟩
  refine h2 p B σ ss H F ms _ s hs (po.bind fun x ms1 v H1 F1 e1 q1 po1 => ?_)
  refine h4 p B σ ss H1 F1 ms1 _ (s.ext e1) e1.hs (po1.bind fun y ms2 u H2 F2 e2 q2 po2 => ?_)
  have q1' := q1.mono e2.ff
  cases x with
  | dct ks ds =>
    cases q1' with
    | dct h l r =>
      have po2 : Po X.mg W p σ H2 F2 (relD X.K p) (match keyD y with
        | some k => (match getK ks ds k with
          | some d => R.ok d ms2
          | none => .bad)
        | none => .bad) Q := po2
      cases ek : keyD y with
      | none => rw [ek] at po2; exact po2.elim
      | some k =>
        rw [ek] at po2
        have po2 : Po X.mg W p σ H2 F2 (relD X.K p) (match getK ks ds k with
          | some d => R.ok d ms2
          | none => .bad) Q := po2
        cases eg : getK ks ds k with
        | none => rw [eg] at po2; exact po2.elim
        | some d =>
          rw [eg] at po2
          obtain ⟨w, h5, h6⟩ := get_zip r eg
          exact ⟨_, w, rfl, .inl ⟨_, k, same_rd e2.hs.fh h, keyD_v q2 ek, h5.symm⟩, Po.ok po2 e2.hs h6⟩
  | _ => exact po2.elim
end

/-! ### {k: v for ..} -/
namespace E
def dcRun (g : G) (t : SS → M Bool) (ke ve : SS → M D) (ss : SS) : List D → List Key → List D → M (List Key × List D)
  | [], ks, ds, ms => .ok (ks, ds) ms
  | d :: r, ks, ds, ms => match g d ss with
    | none => .bad
    | some ss1 => match t ss1 ms with
      | .ok true ms1 => match ke ss1 ms1 with
        | .ok y ms2 => (match ve ss1 ms2 with
          | .ok z ms3 => (match keyD y with
            | some k => if ds.length < 100000 then dcRun g t ke ve ss r (putKs ks k) (putVs ks ds k z) ms3 else .bad
            | none => .bad)
          | _ => .bad)
        | _ => .bad
      | .ok false ms1 => dcRun g t ke ve ss r ks ds ms1
      | _ => .bad
def dc (vs : List Nat) (m : SS → M (List D)) (g : G) (t : SS → M Bool) (ke ve : SS → M D) : SS → M D := fun ss ms => (m ss ms).bind fun ds ms1 => (dcRun g t ke ve (wipeS ss vs) ds [] [] ms1).bind fun ys ms2 => .ok (.dct ys.1 ys.2) ms2
end E
section
variable {X : Cx} {W : WX} {kx vx tg iter : Expr} {ifs : List Expr} {scope : Scope} {own : List (Str × Nat)} {pos : Pos} {g : G} {mt : SS → M Bool} {mk mv : SS → M D} {is : List Nat} {mi : SS → M (List D)}
theorem dc_ok {p : Option Addr} {B : Hp} {σ : L2.St} {ss : SS} {H F : Hp} {ms : MS} {Q : VK} {K : PySem.W.Frag} {mg : Str → Option Value} {J : It} {ds : List D} (vs : List Nat) (hv : ∀ i ∈ is, i ∈ vs) (s : Sl K p B F H σ ss) (hs : Hs p F H ms) (q : Seqs K p F J ds)
    (po : Po mg W p σ H F (relD K p) ((E.dcRun g mt mk mv (wipeS ss vs) ds [] [] ms).bind fun ys ms2 => .ok (.dct ys.1 ys.2) ms2) Q) :
    ∀ Dd, H Dd = none → ∃ Wm : Nat → Nat → Hp → Prop, (∃ m, Wm 0 m (upd H Dd (.dK []))) ∧ ∀ i m H, Wm i m H →
      (J.stop i H ∧ Q (.ref Dd) H) ∨ (J.go i H ∧ ∃ Nx : Hp → Prop, (∀ H', Nx H' → ∃ m', m' < m ∧ Wm (i + 1) m' H') ∧ ∀ x H', J.yld i H x H' → rdG K is g x (wipe σ vs) H' fun σ2 H2 => wipe σ2 vs = wipe σ vs ∧ rdT K mg W0 mt σ2 H2 fun b H3 =>
        if b = true then rdE K mg W0 mk σ2 H3 fun y H4 => rdE K mg W0 mv σ2 H4 fun z H5 => ∃ kvs k, y = kV k ∧ H5 Dd = some (.dK kvs) ∧ kvs.length < sizeLine ∧ Nx (upd H5 Dd (.dK (putK kvs k z))) else Nx H3) := by
  intro Dd hD
  have fD : F Dd = none := by
    cases e : F Dd with
    | none => rfl
    | some u => rw [hs.fh _ u e] at hD; cases hD
  have pD : p ≠ some Dd := fun z => by
    have := hs.pot Dd z
    rw [hD] at this
    cases this
  let I : Nat → Hp → Prop := fun i H1 => ∃ F1 ms1 ks accV accD, Ext p H F H1 F1 ms1 ∧ H1 Dd = some (.dK (ks.zip accV)) ∧ ks.length = accV.length ∧ F1 Dd = none ∧ Dts K p F1 accV accD ∧
    Po mg W p σ H F (relD K p) ((E.dcRun g mt mk mv (wipeS ss vs) (ds.drop i) ks accD ms1).bind fun ys ms2 => .ok (.dct ys.1 ys.2) ms2) Q
  have start : I 0 (upd H Dd (.dK [])) := by
    obtain ⟨e0, _, _⟩ := Ext.lay (o := .dK []) hs hD
    exact ⟨F, ms, [], [], [], e0, upd_same, rfl, fD, .nil, po⟩
  refine ⟨fun i m H => m = ds.length - i ∧ i ≤ ds.length ∧ I i H, ⟨ds.length, by simp, Nat.zero_le _, start⟩, ?_⟩
  rintro i m H1 ⟨rfl, hi, F1, ms1, ks, accV, accD, e1, hacc, hl1, fD1, qa, po1⟩
  obtain ⟨sg, st⟩ := q H1 F1 ms1 e1.ff e1.hs i
  by_cases hlt : i < ds.length
  · right
    have hd : ds[i]? = some ds[i] := List.getElem?_eq_getElem hlt
    rw [List.drop_eq_getElem_cons hlt] at po1
    obtain ⟨go, yl⟩ := sg _ hd
    refine ⟨go, fun H' => i + 1 ≤ ds.length ∧ I (i + 1) H', fun H' h => ⟨_, by omega, rfl, h⟩, fun x H2 hy => ?_⟩
    obtain ⟨F2, e2, q2⟩ := yl x H2 hy
    unfold E.dcRun at po1
    cases eg : g ds[i] (wipeS ss vs) with
    | none => rw [eg] at po1; exact po1.elim
    | some ss1 =>
      rw [eg] at po1
      refine ⟨p, B, F2, wipeS ss vs, ss1, ds[i], ms1, ((s.ext e1).ext e2).wipe vs, e2.hs, q2, eg, fun σ2 s2 w2 => ⟨?_, ?_⟩⟩
      · have := w2 vs hv
        rw [this]
        refine List.ext_getElem? fun j => ?_
        rw [wipe_get, wipe_get, wipe_length]
        split <;> rfl
      refine ⟨p, B, ss1, F2, ms1, s2, e2.hs, ?_⟩
      cases rt : mt ss1 ms1 with
      | bad => simp only [rt] at po1; exact po1.elim
      | ex c ms2 => simp only [rt] at po1; exact po1.elim
      | ok b ms2 =>
        intro b' H3 F3 e3 hb
        cases hb
        have e13 := (e1.trans e2).trans e3
        cases b with
        | false =>
          simp only [rt] at po1
          rw [if_neg Bool.false_ne_true]
          exact ⟨hlt, F3, ms2, ks, accV, accD, e13, (e2.trans e3).kp _ _ hacc pD, hl1, (e2.trans e3).nf _ _ hacc fD1, qa.mono (e2.trans e3).ff, po1⟩
        | true =>
          rw [if_pos rfl]
          refine ⟨p, B, ss1, F3, ms2, s2.ext e3, e3.hs, ?_⟩
          cases rk : mk ss1 ms2 with
          | bad => simp only [rt, rk] at po1; exact po1.elim
          | ex c ms3 => simp only [rt, rk] at po1; exact po1.elim
          | ok y ms3 =>
            intro v H4 F4 e4 qy
            refine ⟨p, B, ss1, F4, ms3, (s2.ext e3).ext e4, e4.hs, ?_⟩
            cases rv : mv ss1 ms3 with
            | bad => simp only [rt, rk, rv] at po1; exact po1.elim
            | ex c ms4 => simp only [rt, rk, rv] at po1; exact po1.elim
            | ok z ms4 =>
              simp only [rt, rk, rv] at po1
              intro vz H5 F5 e5 qz
              have e25 := ((e2.trans e3).trans e4).trans e5
              have hD5 := e25.kp _ _ hacc pD
              have fD5 := e25.nf _ _ hacc fD1
              cases ek : keyD y with
              | none => simp only [ek] at po1; exact po1.elim
              | some k =>
                simp only [ek] at po1
                by_cases hl : accD.length < 100000
                · rw [if_pos hl] at po1
                  refine ⟨_, k, keyD_v qy ek, hD5, ?_, hlt, F5, ms4, putKs ks k, putVs ks accV k vz, putVs ks accD k z, (e1.trans e25).chg fD5 hD pD, ?_, put_len k vz hl1, fD5, Dts.put qz (qa.mono e25.ff), po1⟩
                  · rw [List.length_zip, hl1, Nat.min_self, qa.length]
                    exact sz5lt hl
                  · rw [upd_same, put_zip hl1]
                · rw [if_neg hl] at po1
                  exact po1.elim
  · left
    have hl : ds.length ≤ i := by omega
    refine ⟨st hl, ?_⟩
    rw [List.drop_eq_nil_of_le hl] at po1
    have po2 : Po mg W p σ H F (relD K p) (.ok (.dct ks accD) ms1) Q := po1
    exact po2 _ _ _ (e1.frz hD hacc fD1 pD) (.dct (.inl upd_same) hl1 (qa.mono (same_upd fD1)))
theorem je_dc (hN : X.N.Nodup) (hi : JI X W tg iter mi) (ok : BlkOk X.N X.env.scope scope own) (hg : Blk X scope fun Y => JG Y tg is g) (ht : ∀ (s : Shared) (H : Hp) (C : Addr) (cl : List (Str × Addr)) (fp : List Addr), JTs (X.blk s H scope (compEnvC scope cl C X.env) fp) ifs mt)
    (hk : Blk X scope fun Y => JE Y W0 kx mk) (he : Blk X scope fun Y => JE Y W0 vx mv) (hv : ∀ i ∈ is, i ∈ own.map (·.2)) (hc : X.calm = true := by rfl) (hs : ∀ x, foldedSetIterable iter X.env x = pure x := by intro _; rfl) :
    JE X W (.DictComp kx vx [⟨tg, iter, ifs, 0⟩] scope pos) (E.dc (own.map (·.2)) mi g mt mk mv) := by
  obtain ⟨wi, h1, h2⟩ := hi
  refine ⟨_, pe_dc (g := rdG X.K is g) (tt := rdT X.K X.mg W0 mt) (tk := rdE X.K X.mg W0 mk) (tv := rdE X.K X.mg W0 mv) hc hN h1 ok (fun s H C cl fp => (hg s H C cl fp).pg) (fun s H C cl fp => ht s H C cl fp) (fun s H C cl fp => (hk s H C cl fp).pe) (fun s H C cl fp => (he s H C cl fp).pe) hs, fun p B σ ss H F ms Q s hs po => ?_⟩
  refine h2 p B σ ss H F ms _ s hs (po.bind fun ds ms1 J H1 F1 e1 q1 po1 => ?_)
  exact dc_ok _ hv (s.ext e1) e1.hs q1 po1
end
end Q

set_option Elab.async false
set_option linter.all false
set_option maxRecDepth 100000
set_option maxHeartbeats 4000000
/-! Qo: f(.., k = v), T[k](..). -/
namespace Q
open PySem L2 PyProof.Rows

/-! ### keywords -/
def gK {α : Type} (n m : Nat) (us ws : List α) : List α := if us.length = n ∧ ws.length = m then us ++ ws else []
/-- a def with its last parameters by keyword, all told -/
structure DfK (K : PySem.W.Frag) (mg : Str → Option Value) (x : Str) (st : Stmt) (ps ks : List Str) (n : Nat) : Prop where
  ex : ∃ (f : Addr) (fd : FuncData), Fun K x x st f fd ∧ mg x = some (.ref f) ∧ KBinds K fd ps ks (gK n ks.length) (gK n ks.length)
structure FnK (P : Program) (w : World) (K : PySem.W.Frag) (mg : Str → Option Value) (base : Heap) (x : Str) (k : Nat) (ps ks : List Str) (n : Nat) (mir : List D → M D) : Prop where
  ex : ∃ (f : Addr) (fd : FuncData), FnM P w K mg base k f fd ps mir ∧ mg x = some (.ref f) ∧ PySem.W.keepIn K (.ref f) = true ∧ KBinds K fd ps ks (gK n ks.length) (gK n ks.length)
theorem gK_vals {n m : Nat} {vs : List V} {us : List Value} {zs : List V} {ws : List Value} (h1 : Vals vs us) (h2 : Vals zs ws) : Vals (gK n m vs zs) (gK n m us ws) := by
  unfold gK
  rw [h1.length, h2.length]
  split
  · exact h1.append h2
  · exact .nil
section
variable {P : Program} {w : World} {K : PySem.W.Frag} {mg : Str → Option Value} {base : Heap}
theorem FnK.of {x : Str} {st : Stmt} {N ps ks : List Str} {k n : Nat} {m : SS → MS → O} (d : DfK K mg x st ps ks n) (S : FnScope N ps (defScope st))
    (hbody : ∀ (f : Addr) (cdv : Value) (A : Around) (outer : List Env) (s : Shared) (H : Hp) (E : XK), Room k (A.deeper (envOfC x (defScope st) s.heap.objs.size f cdv)) →
      ∀ (W : WX), Takes (cxOf (L2.CX P w) P w K mg base N x (defScope st) f cdv A outer s H E) W →
        JSs (cxOf (L2.CX P w) P w K mg base N x (defScope st) f cdv A outer s H E) W (defBody st) m) : FnK P w K mg base x (k + 1) ps ks n (mirOf N.length m) := by
  obtain ⟨f, fd, h1, h2, h3⟩ := d.ex
  exact ⟨f, fd, fnm_of h1 S fun cdv A outer s H E hr W _ tk => hbody f cdv A outer s H E hr W tk, h2, h1.kp, h3⟩
end
def E.app (a b : SS → M (List D)) : SS → M (List D) := fun ss ms => (a ss ms).bind fun xs ms1 => (b ss ms1).bind fun ys ms2 => .ok (xs ++ ys) ms2
section
variable {X : Cx} {W : WX} {e : Expr} {es : List Expr} {pos : Pos}
/-- the keywords' values -/
def JK (X : Cx) (W : WX) (kws : List Keyword) (m : SS → M (List D)) : Prop := ∃ t, PK X kws t ∧ ∀ (p : Option Addr) (B : Hp) (σ : L2.St) (ss : SS) (H F : Hp) (ms : MS) (Q : List V → Hp → Prop),
  Sl X.K p B F H σ ss → Hs p F H ms → Po X.mg W p σ H F (relA X.K p) (m ss ms) Q → t σ H Q
theorem jk_nil : JK X W [] E.nil := ⟨_, pk_nil, fun p B σ ss H F ms Q s hs po => po.ok hs .nil⟩
theorem jk_cons {ma : SS → M D} {mr : SS → M (List D)} {nm : Option Str} {kws : List Keyword} {kpos : Pos} (ha : JE X W e ma) (hr : JK X W kws mr) : JK X W (⟨nm, e, kpos⟩ :: kws) (E.cons ma mr) := by
  obtain ⟨t, h1, h2⟩ := ha
  obtain ⟨u, h3, h4⟩ := hr
  refine ⟨_, pk_cons h1 h3, fun p B σ ss H F ms Q s hs po => ?_⟩
  refine h2 p B σ ss H F ms _ s hs (po.bind fun x ms1 v H1 F1 e1 q1 po1 => ?_)
  refine h4 p B σ ss H1 F1 ms1 _ (s.ext e1) e1.hs (po1.bind fun xs ms2 vs H2 F2 e2 q2 po2 => ?_)
  exact po2.ok e2.hs (.cons (q1.mono e2.ff) q2)
theorem pe_callKS {CX : CXT} {k : Nat} {f : Addr} {fd : FuncData} {ps ks : List Str} {sp : Sp} {E : L2.St → XK} {x : Str} {p0 : Pos} {t tk : TA} {kws : List Keyword} {g : List Value → List Value → List Value} {gV : List V → List V → List V}
    (G : FnOk X.prog X.w X.K X.mg X.base CX k f fd ps sp) (room : Room k X.A) (gl : Gl X x) (at_ : X.mg x = some (.ref f)) (kept : PySem.W.keepIn X.K (.ref f) = true) (bind : KBinds X.K fd ps ks g gV) (pass : ∀ σ, PassesAt CX X σ (E σ))
    (pa : PA X (e :: es) t) (pk : PK X kws tk) (h1 : (backToKw pos (keywordEach kws X.env)).all (·.1.isSome) = true) (h2 : (backToKw pos (keywordEach kws X.env)).filterMap (·.1) = ks)
    (h3 : (x == ("__debug__" : Str)) = false) (h4 : starEach (e :: es) X.env = (false, eval e X.env) :: starEach es X.env)
    (h5 : ((backTo pos (starEach (e :: es) X.env)).any (·.1) || (backToKw pos (keywordEach kws X.env)).any (·.1.isNone)) = false) :
    PE X (.Call (.Name x p0) (e :: es) kws pos) (fun σ H Q => t σ H fun vs H1 => tk σ H1 fun zs H2 => sp (gV vs zs) H2 Q (E σ)) := by
  refine ⟨fun pins s σ H Q I h => wpAny_Call_Name_kw (ld_glob I gl at_ ?_ h3)⟩
  refine PySem.W.callWith_KW (h₀ := X.base) I.ok.mod.kin kept h1 (thn (pa.run pos pins s σ H _ I h) fun us s1 ⟨vs, H1, I1, r, q⟩ => ?_) h5 h4
  refine thn (pk.run pos pins s1 σ H1 _ I1 q) fun ws s2 ⟨zs, H2, I2, rz, q2⟩ => ⟨I2.kIn, ?_⟩
  rw [h2]
  have r2 := bind.rel r rz
  have hl : (g us ws).length = ps.length := by
    rw [← r2.length]
    exact G.len _ _ _ _ q2
  refine wpAny_call (codeAny_mono (G.run X.A X.stack s2 H2 ⟨us, ks.zip ws⟩ (g us ws) (gV vs zs) Q (E σ) room I2.env0 (bind.to s2 us ws I2.kIn hl) r2 q2) fun r3 s3 hq => ?_)
  cases r3 with
  | error x1 => exact pass σ pins H2 s2 x1 s3 I2 hq
  | ok fl =>
    cases fl with
    | ret u => exact I2.after hq
    | next => exact hq.elim
    | brk => exact hq.elim
    | cont => exact hq.elim
theorem je_callK {k n : Nat} {ps ks : List Str} {mir : List D → M D} {mr mk : SS → M (List D)} {x : Str} {p0 : Pos} {kws : List Keyword} (G : FnK X.prog X.w X.K X.mg X.base x k ps ks n mir) (tk : Takes X W) (hr : Room k X.A) (ha : JA X W (e :: es) mr) (hk : JK X W kws mk)
    (hn : Len mr n) (hm : Len mk ks.length) (hp : n + ks.length = ps.length) (h1 : (backToKw pos (keywordEach kws X.env)).all (·.1.isSome) = true := by rfl) (h2 : (backToKw pos (keywordEach kws X.env)).filterMap (·.1) = ks := by rfl) (hg : Gl X x := by rfl)
    (h3 : (x == ("__debug__" : Str)) = false := by decide) (h4 : starEach (e :: es) X.env = (false, eval e X.env) :: starEach es X.env := by rfl)
    (h5 : ((backTo pos (starEach (e :: es) X.env)).any (·.1) || (backToKw pos (keywordEach kws X.env)).any (·.1.isNone)) = false := by rfl) : JE X W (.Call (.Name x p0) (e :: es) kws pos) (E.fnA mir (E.app mr mk)) := by
  obtain ⟨f, fd, g1, g2, g3, g4⟩ := G.ex
  obtain ⟨t, a1, a2⟩ := ha
  obtain ⟨u, k1, k2⟩ := hk
  refine ⟨_, pe_callKS g1 hr hg g2 g3 g4 (fun σ => passAt tk σ) a1 k1 h1 h2 h3 h4 h5, fun p B σ ss H F ms Q s hs po => ?_⟩
  unfold E.fnA E.app at po
  cases r : mr ss ms with
  | bad => rw [r] at po; exact po.elim
  | ex c ms' => rw [r] at po; exact a2 p B σ ss H F ms _ s hs (by rw [r]; exact po)
  | ok xs ms1 =>
    rw [r] at po
    refine a2 p B σ ss H F ms _ s hs ?_
    rw [r]
    intro vs H1 F1 e1 q1
    have po1 : Po X.mg W p σ H1 F1 (relD X.K p) (((mk ss ms1).bind fun ys ms2 => R.ok (xs ++ ys) ms2).bind fun xs ms1 => mir xs ms1) Q := Po.ext e1 po
    cases rk : mk ss ms1 with
    | bad => rw [rk] at po1; exact po1.elim
    | ex c ms' => rw [rk] at po1; exact k2 p B σ ss H1 F1 ms1 _ (s.ext e1) e1.hs (by rw [rk]; exact po1)
    | ok ys ms2 =>
      rw [rk] at po1
      refine k2 p B σ ss H1 F1 ms1 _ (s.ext e1) e1.hs ?_
      rw [rk]
      intro zs H2 F2 e2 q2
      have po2 : Po X.mg W p σ H2 F2 (relD X.K p) (mir (xs ++ ys) ms2) Q := Po.ext e2 po1
      have l1 : vs.length = n := by rw [q1.length]; exact hn _ _ _ _ r
      have l2 : zs.length = ks.length := by rw [q2.length]; exact hm _ _ _ _ rk
      have eg : gK n ks.length vs zs = vs ++ zs := if_pos ⟨l1, l2⟩
      show spM _ _ _ _ (gK n ks.length vs zs) _ _ _
      rw [eg]
      refine ⟨p, F2, xs ++ ys, ms2, by rw [List.length_append, l1, l2]; exact hp, e2.hs, (q1.mono e2.ff).append q2, ?_⟩
      cases r2 : mir (xs ++ ys) ms2 with
      | ok x ms' => rw [r2] at po2; exact po2
      | ex c ms' => rw [r2] at po2; exact po2
      | bad => rw [r2] at po2; exact po2

/-! ### T[k](..), T a written dict of defs -/
/-- the def x stands in the written dict at a by the key z -/
def Kf (K : PySem.W.Frag) (w : World) (mg : Str → Option Value) (a : Addr) (z x : Str) : Prop := ∀ f, mg x = some (.ref f) → KDct K w a z (.ref f)
def DTab (X : Cx) (a : Addr) (kk n : Nat) : List (Str × (List D → M D)) → Prop
  | [] => True
  | (z, mir) :: r => (∃ x ps, Kf X.K X.w X.mg a z x ∧ Fn X.prog X.w X.K X.mg X.base x kk ps mir ∧ ps.length = n) ∧ DTab X a kk n r
def findT : List (Str × (List D → M D)) → Str → Option (List D → M D)
  | [], _ => none
  | (z, mir) :: r, y => if z = y then some mir else findT r y
theorem DTab.find {a : Addr} {kk n : Nat} : ∀ {tbl : List (Str × (List D → M D))} {y : Str} {mir : List D → M D}, DTab X a kk n tbl → findT tbl y = some mir → ∃ x ps, Kf X.K X.w X.mg a y x ∧ Fn X.prog X.w X.K X.mg X.base x kk ps mir ∧ ps.length = n
  | [], y, mir, _, h => by cases h
  | (z, m) :: r, y, mir, ⟨h1, h2⟩, h => by
    unfold findT at h
    by_cases e : z = y
    · rw [if_pos e] at h
      cases h
      subst e
      exact h1
    · rw [if_neg e] at h
      exact DTab.find h2 h
def E.callT (tbl : List (Str × (List D → M D))) (mk : SS → M D) (mr : SS → M (List D)) : SS → M D := fun ss ms => (mk ss ms).bind fun y ms1 => match y with
  | .str z => (match findT tbl z with
    | some mir => (mr ss ms1).bind fun xs ms2 => mir xs ms2
    | none => .bad)
  | _ => .bad
theorem pe_callX {fe : Expr} {tf : TE} {t : TA} {E : L2.St → XK} {k : Nat} (S : Addr → Sp → Prop) (pf : PE X fe tf) (G : ∀ f sp, S f sp → PySem.W.keepIn X.K (.ref f) = true ∧ ∃ fd ps, FnOk X.prog X.w X.K X.mg X.base (L2.CX X.prog X.w) k f fd ps sp ∧ Binds X.K fd ps []) (room : Room k X.A)
    (pass : ∀ σ, PassesAt (L2.CX X.prog X.w) X σ (E σ)) (pa : PA X (e :: es) t)
    (h1 : eval (.Call fe (e :: es) [] pos) X.env = (do callWith pos (← eval fe X.env) [] (backTo pos (starEach (e :: es) X.env)) (backToKw pos (keywordEach [] X.env)))) (h2 : starEach (e :: es) X.env = (false, eval e X.env) :: starEach es X.env) (h3 : (backTo pos (starEach es X.env)).any (·.1) = false) :
    PE X (.Call fe (e :: es) [] pos) (fun σ H Q => tf σ H fun y H1 => ∃ f sp, y = .ref f ∧ S f sp ∧ tCallS sp E t σ H1 Q) := by
  refine ⟨fun pins s σ H Q I h => Call_ (thn (pf.run pins s σ H _ I h) fun u s1 ⟨y, H1, I1, ry, f, sp, ey, hS, q⟩ => ?_) h1⟩
  subst ey
  obtain rfl : u = Value.ref f := ry
  obtain ⟨kept, fd, ps, F, b⟩ := G f sp hS
  exact PySem.W.callWith_K (h₀ := X.base) I.ok.mod.kin kept (thn (pa.run pos pins s1 σ H1 _ I1 q) fun us s2 ⟨vs, H2, I2, r, q2⟩ => ⟨I2.kIn, run_fnS F room b (pass σ) I2 r q2⟩) h2 h3
theorem je_callT {T : Str} {a : Addr} {kk n : Nat} {tbl : List (Str × (List D → M D))} {b : Expr} {mk : SS → M D} {mr : SS → M (List D)} {p0 p1 : Pos} (hT : X.mg T = some (.ref a)) (D : DTab X a kk n tbl) (tk : Takes X W) (hr : Room kk X.A) (hb : JE X W b mk) (ha : JA X W (e :: es) mr) (hn : Len mr n)
    (hg : Gl X T := by rfl) (hs : PlainIx b := by exact fun _ _ => rfl) (hdb : (T == ("__debug__" : Str)) = false := by decide)
    (h1 : eval (.Call (.Subscript (.Name T p0) b p1) (e :: es) [] pos) X.env = (do callWith pos (← eval (.Subscript (.Name T p0) b p1) X.env) [] (backTo pos (starEach (e :: es) X.env)) (backToKw pos (keywordEach [] X.env))) := by rfl)
    (h2 : starEach (e :: es) X.env = (false, eval e X.env) :: starEach es X.env := by rfl) (h3 : (backTo pos (starEach es X.env)).any (·.1) = false := by rfl) : JE X W (.Call (.Subscript (.Name T p0) b p1) (e :: es) [] pos) (E.callT tbl mk mr) := by
  obtain ⟨tb, b1, b2⟩ := hb
  obtain ⟨t, a1, a2⟩ := ha
  refine ⟨_, pe_callX (fun f sp => ∃ x ps mir, X.mg x = some (.ref f) ∧ Fn X.prog X.w X.K X.mg X.base x kk ps mir ∧ ps.length = n ∧ sp = spM X.K X.mg n mir) (pe_ix ix_kdict (pe_glob (v := V.ref a) hg hT (show RelV (.ref a) (.ref a) from rfl) hdb) b1 hs) (fun f sp ⟨x, ps, mir, m1, m2, m3, m4⟩ => ?_) hr (fun σ => passAt tk σ) a1 h1 h2 h3, fun p B σ ss H F ms Q s hs po => ?_⟩
  · obtain ⟨f', fd, g1, g2, g3, g4⟩ := m2.ex
    rw [m1] at g2
    cases g2
    subst m4
    subst m3
    exact ⟨g3, fd, ps, g1, g4⟩
  · refine b2 p B σ ss H F ms _ s hs (po.bind fun y ms1 v H1 F1 e1 q1 po1 => ?_)
    cases y with
    | str z =>
      have po1 : Po X.mg W p σ H1 F1 (relD X.K p) (match findT tbl z with
        | some mir => (mr ss ms1).bind fun xs ms2 => mir xs ms2
        | none => .bad) Q := po1
      cases q1
      cases ef : findT tbl z with
      | none => rw [ef] at po1; exact po1.elim
      | some mir =>
        rw [ef] at po1
        obtain ⟨x, ps, kf, G, hl⟩ := D.find ef
        obtain ⟨f, fd, g1, g2, g3, g4⟩ := G.ex
        refine ⟨a, z, .ref f, rfl, rfl, kf f g2, f, _, rfl, ⟨x, ps, mir, g2, G, hl, rfl⟩, ?_⟩
        have po2 : Po X.mg W p σ H1 F1 (relD X.K p) ((mr ss ms1).bind fun xs ms2 => mir xs ms2) Q := po1
        cases r : mr ss ms1 with
        | bad => rw [r] at po2; exact po2.elim
        | ex c ms' => rw [r] at po2; exact a2 p B σ ss H1 F1 ms1 _ (s.ext e1) e1.hs (by rw [r]; exact po2)
        | ok xs ms2 =>
          rw [r] at po2
          refine a2 p B σ ss H1 F1 ms1 _ (s.ext e1) e1.hs ?_
          rw [r]
          intro vs H2 F2 e2 q2
          have po3 : Po X.mg W p σ H2 F2 (relD X.K p) (mir xs ms2) Q := Po.ext e2 po2
          refine ⟨p, F2, xs, ms2, by rw [q2.length]; exact hn _ _ _ _ r, e2.hs, q2, ?_⟩
          cases r2 : mir xs ms2 with
          | ok x ms' => rw [r2] at po3; exact po3
          | ex c ms' => rw [r2] at po3; exact po3
          | bad => rw [r2] at po3; exact po3
    | _ => exact po1.elim
end
/-! ### lists of classes -/
def XmL (K : PySem.W.Frag) (mg : Str → Option Value) (x : Str) (b : Bool) (ns : List Str) : Prop := ∀ n ∈ ns, Xm K mg n x b
theorem xml_nil {K : PySem.W.Frag} {mg : Str → Option Value} {x : Str} {b : Bool} : XmL K mg x b [] := fun n h => by cases h
theorem xml_cons {K : PySem.W.Frag} {mg : Str → Option Value} {x n : Str} {b : Bool} {ns : List Str} (h : Xm K mg n x b) (r : XmL K mg x b ns) : XmL K mg x b (n :: ns) := fun m hm => by
  rcases List.mem_cons.mp hm with e | e
  · rw [e]; exact h
  · exact r m e
theorem Ec.at {K : PySem.W.Frag} {mg : Str → Option Value} {x : Str} (h : Ec K mg x) : ∃ C : Addr, mg x = some (.ref C) := by
  obtain ⟨C, g, _⟩ := h.ex
  exact ⟨C, g⟩
end Q

set_option Elab.async false
set_option linter.all false
set_option maxRecDepth 100000
set_option maxHeartbeats 4000000
/-! Qp: facts of the top: classes, tables of defs, keyword parameters. -/
namespace Q
open PySem L2 PyProof.Rows
theorem kf_of {K : PySem.W.Frag} {w : World} {mg : Str → Option Value} {T z x : Str} {d f : Addr} {es : Array DictEntry} {n : Nat} {e : DictEntry} (gT : mg T = some (.ref d)) (gx : mg x = some (.ref f)) (at_ : K.lookup d = some ⟨.type "dict", none, .dict es n, #[]⟩) (lit : PySem.W.KeysLit w.params es.toList)
    (hf : es.toList.find? (fun e => e.key.isStr z) = some e) (hv : e.val = .ref f) : ∀ a, mg T = some (.ref a) → Kf K w mg a z x := by
  intro a ga f' gf
  rw [gT] at ga
  cases ga
  rw [gx] at gf
  cases gf
  refine ⟨es, n, .ref f, at_, lit, ?_, rfl⟩
  unfold PySem.W.nsIn
  rw [at_]
  simp only [hf, hv]
theorem xm_of {K : PySem.W.Frag} {mg : Str → Option Value} {n x : Str} {u c : Value} {b : Bool} (g1 : mg n = some u) (g2 : mg x = some c) (h : PySem.W.exmOne K u c = some b) : Xm K mg n x b := by
  intro u' c' h1 h2
  rw [g1] at h1
  cases h1
  rw [g2] at h2
  cases h2
  exact h
theorem kb_of {K : PySem.W.Frag} {fd : FuncData} {ps ks : List Str} {n : Nat} (h : ∀ (s : Shared) (us ws : List Value), us.length = n → ws.length = ks.length → BindsTo s fd ⟨us, ks.zip ws⟩ (ps.zip (us ++ ws))) (hp : ps.length ≠ 0) : KBinds K fd ps ks (gK n ks.length) (gK n ks.length) := by
  refine ⟨fun s us ws _ hl => ?_, gK_vals⟩
  unfold gK at hl ⊢
  by_cases q : us.length = n ∧ ws.length = ks.length
  · rw [if_pos q]
    exact h s us ws q.1 q.2
  · rw [if_neg q] at hl
    exact absurd hl.symm hp
end Q

set_option Elab.async false
set_option linter.all false
set_option maxRecDepth 100000
set_option maxHeartbeats 4000000
/-! Qq: mirrors that raise, word by word. -/
namespace Q
open PySem L2 PyProof.Rows
section
variable {ss ss1 : SS} {ms ms1 ms2 : MS} {a : SS → M D} {r : SS → M (List D)} {t : SS → M Bool} {m m1 m2 m3 : SS → MS → O} {x c : Str} {d : D} {xs : List D} {f : List D → M D} {k : Ks}
theorem x_cons1 (h : a ss ms = .ex c ms1) : E.cons a r ss ms = .ex c ms1 := by unfold E.cons; rw [h]; rfl
theorem x_cons2 (h : a ss ms = .ok d ms1) (h' : r ss ms1 = .ex c ms2) : E.cons a r ss ms = .ex c ms2 := by unfold E.cons; rw [h]; show (r ss ms1).bind _ = _; rw [h']; rfl
theorem r_cons (h : a ss ms = .ok d ms1) (h' : r ss ms1 = .ok xs ms2) : E.cons a r ss ms = .ok (d :: xs) ms2 := by unfold E.cons; rw [h]; show (r ss ms1).bind _ = _; rw [h']; rfl
theorem x_fnA (h : r ss ms = .ex c ms1) : E.fnA f r ss ms = .ex c ms1 := by unfold E.fnA; rw [h]; rfl
theorem r_fnA (h : r ss ms = .ok xs ms1) : E.fnA f r ss ms = f xs ms1 := by unfold E.fnA; rw [h]; rfl
theorem x_ret (h : a ss ms = .ex c ms1) : S.ret a ss ms = .ex c ss ms1 := by unfold S.ret; rw [h]; rfl
theorem x_set {i : Nat} (h : a ss ms = .ex c ms1) : S.set i a ss ms = .ex c ss ms1 := by unfold S.set; rw [h]; rfl
theorem x_seq1 (h : m1 ss ms = .ex c ss1 ms1) : S.seq m1 m2 ss ms = .ex c ss1 ms1 := by unfold S.seq; rw [h]
theorem r_seq (h : m1 ss ms = .nx ss1 ms1) : S.seq m1 m2 ss ms = m2 ss1 ms1 := by unfold S.seq; rw [h]
theorem r_ifeT (h : t ss ms = .ok true ms1) : S.ife t m1 m2 ss ms = m1 ss ms1 := by unfold S.ife; rw [h]; rfl
theorem r_ifeF (h : t ss ms = .ok false ms1) : S.ife t m1 m2 ss ms = m2 ss ms1 := by unfold S.ife; rw [h]; rfl
theorem r_asg {g : G} (h : a ss ms = .ok d ms1) (e : g d ss = some ss1) : S.asg g a ss ms = .nx ss1 ms1 := by
  unfold S.asg
  rw [h, R.o_ok, e]
theorem x_mir {n : Nat} {ds : List D} (h : m (begin n ds) ms = .ex c ss1 ms1) : mirOf n m ds ms = .ex c ms1 := by unfold mirOf; rw [h]; rfl
theorem Wp.is {α : Type} {r : R α} {x : α} {ms : MS} (h : Wp r fun d ms' => d = x ∧ ms' = ms) : r = .ok x ms := by
  obtain ⟨y, ms', e, rfl, rfl⟩ := h.ex
  exact e
theorem Ws.is {o : O} (h : Ws o { nx := fun s m => s = ss ∧ m = ms, rt := fun _ _ => False }) : o = .nx ss ms := by
  cases o with
  | nx s m => obtain ⟨rfl, rfl⟩ := h; rfl
  | rt d m => exact h.elim
  | bk s m => exact h.elim
  | ct s m => exact h.elim
  | ex c s m => exact h.elim
  | bad => exact h.elim
theorem ws_try {yes no : List Str} (h : Ws (m1 ss ms) k) : Ws (S.tryO yes no m1 m2 ss ms) k := by
  unfold S.tryO
  cases q : m1 ss ms with
  | ex c s m => rw [q] at h; exact h.elim
  | bad => rw [q] at h; exact h.elim
  | nx s m => rw [q] at h; exact h
  | rt s m => rw [q] at h; exact h
  | bk s m => rw [q] at h; exact h
  | ct s m => rw [q] at h; exact h
theorem ws_noEx {o : O} (h : Ws o k) : Ws (noEx o) k := by
  cases o with
  | ex c s m => exact h.elim
  | _ => exact h
theorem ws_tryE {yes no : List Str} (e : m1 ss ms = .ex c ss1 ms1) (hc : c ∈ yes) (h : Ws (m2 ss1 ms1) k) : Ws (S.tryO yes no m1 m2 ss ms) k := by
  unfold S.tryO
  rw [e]
  show Ws (if c ∈ yes then noEx (m2 ss1 ms1) else if c ∈ no then .ex c ss1 ms1 else .bad) k
  rw [if_pos hc]
  exact ws_noEx h
/-! a dict comprehension over pairs with unlike keys -/
theorem wp_dc {Q : D → MS → Prop} {vs : List Nat} {mi : SS → M (List D)} {g : G} {mk mv : SS → M D} (h : Wp (mi ss ms) fun ds ms1 => Wp (E.dcRun g t mk mv (wipeS ss vs) ds [] [] ms1) fun ys ms2 => Q (.dct ys.1 ys.2) ms2) : Wp (E.dc vs mi g t mk mv ss ms) Q := Wp.bind (h.mono fun _ _ h => Wp.bind (h.mono fun _ _ q => q))
theorem hasK_iff {ks : List Key} {k : Key} : hasK ks k = true ↔ k ∈ ks := by
  unfold hasK
  rw [List.any_eq_true]
  constructor
  · rintro ⟨j, h1, h2⟩
    rw [← of_decide_eq_true h2]
    exact h1
  · exact fun h => ⟨k, h, decide_eq_true rfl⟩
theorem dcRun_new {α : Type} {g : G} {mk mv : SS → M D} {it : α → D} {kf : α → Key} {vf : α → D} {ms : MS} : ∀ (ds : List α) (ks : List Key) (vs : List D), vs.length + ds.length ≤ 100000 → ks.length = vs.length →
    (∀ d ∈ ds, ∃ ss1 y, g (it d) ss = some ss1 ∧ mk ss1 ms = .ok y ms ∧ keyD y = some (kf d) ∧ mv ss1 ms = .ok (vf d) ms) → (ks ++ ds.map kf).Nodup → E.dcRun g E.yes mk mv ss (ds.map it) ks vs ms = .ok (ks ++ ds.map kf, vs ++ ds.map vf) ms
  | [], ks, vs, _, _, _, _ => by
    rw [List.map_nil]
    unfold E.dcRun
    simp
  | d :: ds, ks, vs, hl, hk, h, nd => by
    obtain ⟨ss1, y, e1, e2, e3, e4⟩ := h d (by simp)
    rw [List.length_cons] at hl
    have nk : ¬ hasK ks (kf d) = true := fun z => by
      have := hasK_iff.mp z
      rw [List.map_cons, List.nodup_append] at nd
      exact nd.2.2 _ this _ (by simp) rfl
    rw [List.map_cons]
    unfold E.dcRun
    simp only [e1, E.yes, e2, e3, e4]
    rw [if_pos (by omega)]
    have p1 : putKs ks (kf d) = ks ++ [kf d] := if_neg nk
    have p2 : putVs ks vs (kf d) (vf d) = vs ++ [vf d] := if_neg nk
    rw [p1, p2]
    have ih := dcRun_new (g := g) (mk := mk) (mv := mv) (it := it) (kf := kf) (vf := vf) (ms := ms) ds (ks ++ [kf d]) (vs ++ [vf d]) (by rw [List.length_append]; simp; omega) (by simp [hk]) (fun d' hd' => h d' (List.mem_cons_of_mem _ hd')) (by rw [List.append_assoc]; exact nd)
    have ey : (fun (_ : SS) (ms : MS) => R.ok true ms) = E.yes := rfl
    first
      | rw [ey, ih]; simp
      | rw [ih]; simp
theorem wp_zipL {Qa : List D → MS → Prop} {xs ys : List D} (q : Qa (pairs xs ys) ms) : Wp (zip2 [.lst xs, .lst ys] ms) Qa := q
theorem wp_zipT {Qa : List D → MS → Prop} {xs ys : List D} (q : Qa (pairs xs ys) ms) : Wp (zip2 [.tup xs, .tup ys] ms) Qa := q
theorem wp_app {Qa : List D → MS → Prop} {r' : SS → M (List D)} (h : Wp (r ss ms) fun xs ms1 => Wp (r' ss ms1) fun ys ms2 => Qa (xs ++ ys) ms2) : Wp (E.app r r' ss ms) Qa := Wp.bind (h.mono fun _ _ h => Wp.bind (h.mono fun _ _ q => q))
theorem r_app {r' : SS → M (List D)} {ys : List D} (h : r ss ms = .ok xs ms1) (h' : r' ss ms1 = .ok ys ms2) : E.app r r' ss ms = .ok (xs ++ ys) ms2 := by unfold E.app; rw [h]; show (r' ss ms1).bind _ = _; rw [h']; rfl
theorem wp_isN {Q : D → MS → Prop} {x : D} (q : Q (.bl x.isNon) ms) : Wp (isN false x .non ms) Q := q
theorem wp_inFT {Q : D → MS → Prop} {x : D} {ds : List D} (h1 : x.flat = true) (h2 : ds.all D.flat = true) (q : Q (.bl (ds.any fun d => eqF d x)) ms) (h0 : gInStr false x (.tup ds) ms = .bad) : Wp (gIn x (.tup ds) ms) Q := by
  unfold gIn orG
  rw [h0]
  show Wp (if x.flat = true ∧ ds.all D.flat = true then R.ok (.bl (ds.any fun d => eqF d x)) ms else .bad) Q
  rw [if_pos ⟨h1, h2⟩]
  exact q
theorem wp_callT {Q : D → MS → Prop} {tbl : List (Str × (List D → M D))} {mir : List D → M D} {z : Str} (h : Wp (a ss ms) fun y ms1 => y = .str z ∧ findT tbl z = some mir ∧ Wp (r ss ms1) fun xs ms2 => Wp (mir xs ms2) Q) : Wp (E.callT tbl a r ss ms) Q := Wp.bind (h.mono fun y ms1 ⟨e1, e2, h⟩ => by
  subst e1
  show Wp (match findT tbl z with
    | some mir => (r ss ms1).bind fun xs ms2 => mir xs ms2
    | none => .bad) Q
  rw [e2]
  exact Wp.bind h)
theorem wp_dix {Q : D → MS → Prop} {ks : List Key} {ds : List D} {y : D} {k : Key} (h1 : keyD y = some k) (h2 : getK ks ds k = some d) (q : Q d ms) : Wp (gDIx (.dct ks ds) y ms) Q := by
  unfold gDIx
  simp only [h1, h2]
  exact q
end
end Q

set_option Elab.async false
set_option linter.all false
set_option maxRecDepth 100000
set_option maxHeartbeats 4000000
/-! Qr: exceptions as values: C(e), isinstance(x, C), x.number. -/
namespace Q
open PySem L2 PyProof.Rows

theorem XcAt.sub {K : PySem.W.Frag} {c : Str} {C S : Addr} (T : XcAt K c C S) (b : Value) : PySem.W.subIn K (.ref C) b = some ([Value.ref C, .ref S, .type "ValueError", .type "Exception", .type "BaseException", .type "object"].contains b) := by
  obtain ⟨cd, h1, _, h3⟩ := T.cl
  show PySem.W.mroIn K C b = _
  unfold PySem.W.mroIn
  rw [h1, Option.bind_some, h3]
  rfl
theorem XcAt.one {K : PySem.W.Frag} {c c2 : Str} {C S C2 S2 : Addr} (T : XcAt K c C S) (T2 : XcAt K c2 C2 S2) : PySem.W.kitOne K (.ref C) (.ref C2) = some (decide (c = c2)) := by
  have hS : S2 = S := by
    have := T2.sh.symm.trans T.sh
    cases this
    rfl
  have n1 : C2 ≠ S := fun z => T2.ne (z.trans hS.symm)
  unfold PySem.W.kitOne
  by_cases e : C = C2
  · have hc : c = c2 := by
      obtain ⟨cd, h1, h2, _⟩ := T.cl
      obtain ⟨cd', h1', h2', _⟩ := T2.cl
      rw [e, h1'] at h1
      cases h1
      rw [← h2, ← h2']
    rw [if_pos (by rw [e]; exact beq_self_eq_true _), decide_eq_true hc]
  · have hc : c ≠ c2 := fun z => by
      have h := T.nm
      rw [z, T2.nm] at h
      cases h
      exact e rfl
    have hne : (Value.ref C == Value.ref C2) = false := by
      refine Bool.eq_false_iff.mpr fun q => e (Value.ref.inj (beq_iff_eq.mp q))
    have hne2 : (Value.ref C2 == Value.ref C) = false := by
      refine Bool.eq_false_iff.mpr fun q => e (Value.ref.inj (beq_iff_eq.mp q)).symm
    have hne3 : (Value.ref C2 == Value.ref S) = false := by
      refine Bool.eq_false_iff.mpr fun q => n1 (Value.ref.inj (beq_iff_eq.mp q))
    rw [if_neg (by rw [hne]; exact Bool.false_ne_true), decide_eq_false hc]
    show (if ((PySem.W.clsIn K C2).isSome && PySem.W.typeIn K (.ref C2) == some (.type "type")) = true then PySem.W.subIn K (.ref C) (.ref C2) else none) = some false
    obtain ⟨cd', h1', _, _⟩ := T2.cl
    rw [if_pos (by rw [h1', T2.ct]; rfl), T.sub]
    simp only [List.contains, List.elem, hne2, hne3]
    rfl
theorem XcAt.shown {K : PySem.W.Frag} {c : Str} {C S S2 : Addr} (T : XcAt K c C S) (h : S2 = S) : PySem.W.kitOne K (.ref C) (.ref S2) = some true := by
  subst h
  have hne : (Value.ref C == Value.ref S2) = false := by
    refine Bool.eq_false_iff.mpr fun q => T.ne (Value.ref.inj (beq_iff_eq.mp q))
  unfold PySem.W.kitOne
  rw [if_neg (by rw [hne]; exact Bool.false_ne_true)]
  show (if ((PySem.W.clsIn K S2).isSome && PySem.W.typeIn K (.ref S2) == some (.type "type")) = true then PySem.W.subIn K (.ref C) (.ref S2) else none) = some true
  rw [if_pos (by rw [T.sc, T.st]; rfl), T.sub]
  simp
theorem XcAt.value {K : PySem.W.Frag} {c : Str} {C S : Addr} (T : XcAt K c C S) : PySem.W.kitOne K (.ref C) (.type "ValueError") = some true := by
  unfold PySem.W.kitOne
  have hne : (Value.ref C == Value.type "ValueError") = false := rfl
  rw [hne, if_neg Bool.false_ne_true]
  show (if PySem.W.kitMeta "ValueError" = true then PySem.W.subIn K (.ref C) (.type "ValueError") else none) = some true
  rw [if_pos (by decide +kernel), T.sub]
  simp
/-- an exception of the class at C stands at a -/
def IsX (H : Hp) (a C : Addr) : Prop := H a = some (ExO (.ref C) a) ∨ ∃ d fs, H a = some (exo a C (some d)) ∧ H d = some (exd d fs)
theorem IsX.inst {X : Cx} {pins : List (Addr × Obj)} {σ : L2.St} {H : Hp} {s : Shared} {a C : Addr} (I : Inv X pins σ H s) (h : IsX H a C) : ∃ ox od, PySem.W.InstAt s.heap a ox C od := by
  rcases h with h | ⟨d, fs, h, hd⟩
  · have q : ObjOk X.prog X.w H s.heap a (.ext fun h => ∃ (oe : Obj) (vs : Array Value), h.get? a = some oe ∧ Zc (.ref C) none oe ∧ oe.data = .fields vs ∧ vs[1]? = some .none ∧ vs[2]? = some .none ∧ 4 < vs.size) := I.hok a _ h
    obtain ⟨oe, vs, h1, h2, h3, _⟩ := q.1
    obtain ⟨oc, od, oda, osl⟩ := oe
    obtain ⟨z1, z2⟩ := h2
    dsimp only at z1 z2 h3
    subst z1 z2 h3
    exact ⟨_, none, h1, rfl, rfl, trivial⟩
  · obtain ⟨t1, h1⟩ := exo_at I.hok h
    obtain ⟨mA, ⟨o, es, ep, ho, _⟩, _⟩ := exd_at I.hok hd
    exact ⟨_, some o, h1, rfl, rfl, ho⟩
theorem Dt.isX {K : PySem.W.Frag} {p : Option Addr} {F H : Hp} {v : V} {c : Str} {n : Option Int} (sf : Same F H) (h : Dt K p F v (.xo c n)) : ∃ a C S, v = .ref a ∧ XcAt K c C S ∧ IsX H a C := by
  cases h with
  | xo h r => exact ⟨_, _, _, rfl, h, .inl (sf _ _ r)⟩
  | xn h r q => exact ⟨_, _, _, rfl, h, .inr ⟨_, _, sf _ _ r, sf _ _ q⟩⟩
/-- isinstance(x, c), x an exception of ours -/
def rIsX (K : PySem.W.Frag) : List V → Hp → VK → Prop := fun xs H Q => ∃ (a C S : Addr) (nm : Str) (c : V) (cv : Value) (b : Bool), xs = [.ref a, c] ∧ (∀ u, RelV c u → u = cv) ∧ IsX H a C ∧ XcAt K nm C S ∧ PySem.W.kitOne K (.ref C) cv = some b ∧ Q (.bl b) H
theorem call_isX {X : Cx} : CallR X (.builtin "isinstance") (rIsX X.K) := by
  intro pins s σ H xs us Q I r h
  obtain ⟨a, C, S, nm, c, cv, b, rfl, hcv, hx, T, e, q⟩ := h
  cases r with
  | cons rx rr =>
    cases rr with
    | cons rt rr =>
      cases rr
      cases rx
      have ec := hcv _ rt
      subst ec
      obtain ⟨ox, od, J⟩ := hx.inst I
      obtain ⟨cd, h1, _⟩ := T.cl
      exact PySem.W.kia_one (PySem.W.kitx_exc (by rw [h1]; rfl) T.ec.hg T.ec.hk T.ec.hs T.ec.ha T.ec.hn T.ec.ht T.ec.hm) I.kIn J e (fun z => nomatch z) fun tk => ⟨.bl b, H, I.kept (t' := tk) fun _ _ z => z, rfl, q⟩
def gIsX (f : Str → Bool) : D → M D := fun d ms => match d with
  | .xo c _ => .ok (.bl (f c)) ms
  | _ => .bad
section
variable {X : Cx} {W : WX} {e e2 : Expr} {ma : SS → M D} {pos p0 p1 : Pos}
theorem je_isX0 {f : Str → Bool} {v : V} {cv : Value} (hm : X.mg "isinstance" = none) (ha : JE X W e ma) (h2 : PE X e2 (fun σ H Q => Q v H)) (hcv : ∀ u, RelV v u → u = cv) (hk : ∀ c C S, XcAt X.K c C S → PySem.W.kitOne X.K (.ref C) cv = some (f c))
    (hg : Gl X "isinstance") (he2 : starEach [e2] X.env = (false, eval e2 X.env) :: starEach [] X.env) (he : starEach [e, e2] X.env = (false, eval e X.env) :: starEach [e2] X.env) (hpl : (backTo pos (starEach [e2] X.env)).any (·.1) = false := by rfl) :
    JE X W (.Call (.Name "isinstance" p0) [e, e2] [] pos) (E.op1 (gIsX f) ma) := by
  obtain ⟨t, h3, h4⟩ := ha
  refine ⟨_, pe_callB call_isX hg hm (by decide +kernel) (pa_cons h3 (pa_cons h2 pa_nil he2) he) (by decide) (by decide) he hpl, fun p B σ ss H F ms Q s hs po => ?_⟩
  refine h4 p B σ ss H F ms _ s hs (po.bind fun x ms1 v1 H1 F1 e1 q1 po1 => ?_)
  cases x with
  | xo c n =>
    obtain ⟨a, C, S, rfl, T, hx⟩ := q1.isX e1.hs.fh
    exact ⟨a, C, S, c, v, cv, f c, rfl, hcv, hx, T, hk c C S T, Po.ok po1 e1.hs (.bl _)⟩
  | _ => exact po1.elim
/-- isinstance(e, C) -/
theorem je_isX {c2 : Str} {C2 S2 : Addr} (hm : X.mg "isinstance" = none) (g2 : X.mg c2 = some (.ref C2)) (T2 : XcAt X.K c2 C2 S2) (ha : JE X W e ma) (hg2 : Gl X c2 := by rfl) (hd : (c2 == ("__debug__" : Str)) = false := by decide) (hg : Gl X "isinstance" := by rfl)
    (he : starEach [e, .Name c2 p1] X.env = (false, eval e X.env) :: starEach [.Name c2 p1] X.env := by rfl) (hpl : (backTo pos (starEach [.Name c2 p1] X.env)).any (·.1) = false := by rfl) : JE X W (.Call (.Name "isinstance" p0) [e, .Name c2 p1] [] pos) (E.op1 (gIsX fun c => decide (c = c2)) ma) :=
  je_isX0 (v := .ref C2) (cv := .ref C2) hm ha (pe_glob (v := .ref C2) hg2 g2 rfl hd) (fun u r => r) (fun c C S T => T.one T2) hg rfl he hpl
theorem je_isXS {S2 : Addr} (hm : X.mg "isinstance" = none) (g2 : X.mg "ShownError" = some (.ref S2)) (T2 : PySem.W.nsIn X.K mainGlobals "ShownError" = some (some (.ref S2))) (ha : JE X W e ma) (hg2 : Gl X "ShownError" := by rfl) (hg : Gl X "isinstance" := by rfl)
    (he : starEach [e, .Name "ShownError" p1] X.env = (false, eval e X.env) :: starEach [.Name "ShownError" p1] X.env := by rfl) (hpl : (backTo pos (starEach [.Name "ShownError" p1] X.env)).any (·.1) = false := by rfl) : JE X W (.Call (.Name "isinstance" p0) [e, .Name "ShownError" p1] [] pos) (E.op1 (gIsX fun _ => true) ma) :=
  je_isX0 (v := .ref S2) (cv := .ref S2) hm ha (pe_glob (v := .ref S2) hg2 g2 rfl (by decide)) (fun u r => r) (fun c C S T => T.shown (by have := T2.symm.trans T.sh; cases this; rfl)) hg rfl he hpl
theorem je_isXV (hm : X.mg "isinstance" = none) (hv : X.mg "ValueError" = none) (ha : JE X W e ma) (hg2 : Gl X "ValueError" := by rfl) (hg : Gl X "isinstance" := by rfl)
    (he : starEach [e, .Name "ValueError" p1] X.env = (false, eval e X.env) :: starEach [.Name "ValueError" p1] X.env := by rfl) (hpl : (backTo pos (starEach [.Name "ValueError" p1] X.env)).any (·.1) = false := by rfl) : JE X W (.Call (.Name "isinstance" p0) [e, .Name "ValueError" p1] [] pos) (E.op1 (gIsX fun _ => true) ma) :=
  je_isX0 (v := .ty "ValueError") (cv := .type "ValueError") hm ha (pe_bltn (v := .ty "ValueError") hg2 hv PyProof.Rows.Boot.«ValueError» rfl (by decide) (by decide)) (fun u r => r) (fun c C S T => T.value) hg rfl he hpl
/-! ### C(e), C without an own __init__ -/
def gMkX (c : Str) : D → M D := fun _ ms => .ok (.xo c none) ms
theorem je_mkX {c : Str} {C S : Addr} (T : XcAt X.K c C S) (q : PySem.W.excIn X.K C [.type "ValueError", .type "Exception", .type "BaseException", .type "object"] "ValueError.__new__" = true) (gC : X.mg c = some (.ref C)) (kC : PySem.W.keepIn X.K (.ref C) = true) (ha : JE X W e ma)
    (hg : Gl X c := by rfl) (hs : starEach [e] X.env = (false, eval e X.env) :: starEach [] X.env := by rfl) (hdb : (c == ("__debug__" : Str)) = false := by decide) : JE X W (.Call (.Name c p0) [e] [] pos) (E.op1 (gMkX c) ma) := by
  obtain ⟨t, h3, h4⟩ := ha
  refine ⟨_, pe_exc1 PySem.F.excBase_ValueError q gC kC hg h3 hs hdb, fun p B σ ss H F ms Q s hs po => ?_⟩
  refine h4 p B σ ss H F ms _ s hs (po.bind fun x ms1 v1 H1 F1 e1 q1 po1 => fun a ha => ?_)
  exact Po.new po1 e1.hs ha (.xo T upd_same)
/-! ### e.number -/
def gNum : D → M D := fun d ms => match d with
  | .xo _ (some n) => .ok (.int n) ms
  | _ => .bad
theorem je_num (ha : JE X W e ma) (hb : attributeBase e "number" X.env (eval e X.env) = eval e X.env := by rfl) : JE X W (.Attribute e "number" pos) (E.op1 gNum ma) := by
  obtain ⟨t, h3, h4⟩ := ha
  refine ⟨fun σ H Q => t σ H fun x H1 => ∃ (a d C S : Addr) (c : Str) (n : Int), x = .ref a ∧ XcAt X.K c C S ∧ H1 a = some (exo a C (some d)) ∧ H1 d = some (exd d [("number", .int n)]) ∧ Q (.int n) H1, ?_, fun p B σ ss H F ms Q s hs po => ?_⟩
  · refine ⟨fun pins s σ H Q I h => ?_⟩
    refine attr_of hb (thn (h3.run pins s σ H _ I h) fun u s1 hh => ?_)
    obtain ⟨x, H1, I1, rx, a, d, C, S, c, n, rfl, T, h5, h6, q⟩ := hh
    obtain rfl : u = Value.ref a := rx
    obtain ⟨t1, g1⟩ := exo_at I1.hok h5
    obtain ⟨mA, hns, hr⟩ := exd_at I1.hok h6
    obtain ⟨od, ho, hl⟩ := lookIn_ns hns
    obtain ⟨u, hu, ru⟩ := RelO.some_of (v := .int n) (o := mA "number") (by
      have := hr "number"
      simpa using this)
    have J : PySem.W.InstAt s1.heap a _ C (some od) := ⟨g1, rfl, rfl, ho⟩
    exact PySem.HandSPX.exc_get I1.kIn J T.ec.hg T.ec.hk T.ec.hs (PySem.W.findObj_own T.ec.hd T.no rfl (by rw [hl, hu])) (handed_of ru) ⟨.int n, H1, I1.tok _, ru, q⟩
  · refine h4 p B σ ss H F ms _ s hs (po.bind fun x ms1 v1 H1 F1 e1 q1 po1 => ?_)
    cases q1 with
    | xn T r q => exact ⟨_, _, _, _, _, _, rfl, T, e1.hs.fh _ _ r, e1.hs.fh _ _ q, Po.ok po1 e1.hs (.int _)⟩
    | _ => exact po1.elim
end
end Q
namespace Q
open PySem L2 PyProof.Rows
section
variable {X : Cx}
theorem gMulL_inv : ∀ dx dy ms, (∃ i j, dx = .lst i ∧ dy = .int j) ∨ gMulL dx dy ms = .bad := by
  intro dx dy ms
  cases dx with
  | lst i => cases dy with
    | int j => exact .inl ⟨_, _, rfl, rfl⟩
    | _ => exact .inr rfl
  | _ => exact .inr rfl
theorem je_mulN {W : WX} {a b : Expr} {ma mb : SS → M D} {pos : Pos} (ha : JN X W a ma) (hb : JB X W b mb) : JE X W (.BinOp a .Mult b pos) (E.op2 gMulL ma mb) := by
  obtain ⟨t, h1, h2⟩ := ha
  obtain ⟨u, h3, h4⟩ := hb
  refine ⟨_, pe_op op_rep h1 h3, fun p B σ ss H F ms Q s hs po => ?_⟩
  refine h2 p B σ ss H F ms _ s hs (po.bind fun x ms1 v H1 F1 e1 q1 po1 => ?_)
  obtain ⟨a1, xs, ds, rfl, rfl, h0, np, ha1, hf1, r1⟩ := q1
  refine h4 p B σ ss H1 F1 ms1 _ (s.ext e1) e1.hs (po1.bind fun y ms2 u H2 F2 e2 q2 po2 => ?_)
  obtain ⟨ds', k, e3, rfl⟩ := inv2 _ gMulL_inv po2
  cases e3
  have po' : Po X.mg W p σ H2 F2 (relD X.K p) (if -(2 ^ 63) ≤ k ∧ k < 2 ^ 63 ∧ ds.length * k.toNat ≤ 100000 then R.ok (.lst (List.replicate k.toNat ds).flatten) ms2 else .bad) Q := po2
  by_cases q : -(2 ^ 63) ≤ k ∧ k < 2 ^ 63 ∧ ds.length * k.toNat ≤ 100000
  · rw [if_pos q] at po'
    refine ⟨a1, k, xs, rfl, q2.i, e2.kp _ _ ha1 np, q.1, q.2.1, by rw [r1.length]; exact sz5 q.2.2, fun c hc => ?_⟩
    exact po'.new e2.hs hc (.lst (SqL.of upd_same) (((r1.mono e2.ff).rep _).mono (Ext.new (p := p) (ms := ms2) e2.hs hc).ff))
  · rw [if_neg q] at po'
    exact po'.elim
end
end Q

set_option Elab.async false
set_option linter.all false
set_option maxRecDepth 100000
set_option maxHeartbeats 4000000
/-! Qs: an exception class with an own __init__: Base.__init__(self, ..), C(e) as a value. -/
namespace Q
open PySem L2 PyProof.Rows
section
variable {X : Cx} {W : WX} {e : Expr} {es : List Expr} {ta : TA} {ma : SS → M D} {p1 p2 pos p0 : Pos}
/-- S.__init__(self, ..), S an own class over ValueError without an own __init__ -/
theorem pe_ownInit {pl : Sem Bool} {x : Str} {S : Addr} (hg : Gl X x) (hm : X.mg x = some (.ref S)) (hr : PySem.W.readsIn X.K S (.type "type") = true) (hs : PySem.W.specialIn X.K (.ref S) "__getattribute__" = some (some (.builtin "type.__getattribute__")))
    (vV : PySem.W.findCls X.K (.ref S) (.type "type") "__init__" = some (.val (.builtin "ValueError.__init__"))) (pa : PA X (e :: es) ta)
    (hc : eval (.Call (.Attribute (.Name x p1) "__init__" p2) (e :: es) [] pos) X.env = (do
      let one ← eval (.Name x p1) X.env
      standAt p2.atName
      let (fun1, ahead) ← holding [one] (getMethod one "__init__" pl)
      callWith pos fun1 ahead (backTo pos (starEach (e :: es) X.env)) (backToKw pos (keywordEach [] X.env))) := by rfl)
    (h4 : starEach (e :: es) X.env = (false, eval e X.env) :: starEach es X.env := by rfl) (h5 : (backTo pos (starEach es X.env)).any (·.1) = false := by rfl) (h3 : (x == ("__debug__" : Str)) = false := by decide) :
    PE X (.Call (.Attribute (.Name x p1) "__init__" p2) (e :: es) [] pos) (tVeI X.K ta) := by
  refine ⟨fun pins s σ H Q I h => PySem.W.methodCall_KW (ld_glob I hg hm ?_ h3) hc⟩
  refine PySem.W.method_cls I.kIn hs (PySem.W.cls_value I.kIn hr vV (by decide +kernel) ?_)
  show wpAny _ _ (callWith pos (Value.builtin "ValueError.__init__") [] (backTo pos (starEach (e :: es) X.env)) []) _ _ _
  refine PyProof.Rows.callWith_method1 (thn (pa.run pos pins _ σ H _ (I.tok _) h) fun us s1 ⟨vs, H1, I1, r1, a, C, ws, ev, hl, T, ea, q⟩ => ?_) h4 h5
  subst ev
  cases r1 with
  | @cons _ u0 _ ur ra rs =>
    obtain rfl : u0 = Value.ref a := ra
    exact oinit_ok T I1 ea (by rw [← Paired.length rs, sizeLine_eq]; omega) fun s2 J => ⟨.non, H1, J, rfl, q⟩
/-- what the __init__ of an exception with one field does -/
def spI (C : Addr) (f : Str) : Sp := fun vs H Q _ => ∃ (a : Addr) (n : V), vs = [.ref a, n] ∧ H a = some (exo a C none) ∧ ∀ d, H d = none → d ≠ a → Q .non (upd (upd H d (exd d [(f, n)])) a (exo a C (some d)))
/-- C(e) as a value: a new exception with its field -/
theorem pe_oexV {CX : CXT} {c f : Str} {C fI : Addr} {k : Nat} {fd : FuncData} {ps : List Str} {te : TE} (T : OexC X.K C) (iC : PySem.W.findIn X.K (.ref C) "__init__" = some (some (.ref fI))) (tI : PySem.W.typeIn X.K (.ref fI) = some (.type "function"))
    (F1 : FnOk X.prog X.w X.K X.mg X.base CX k fI fd ps (spI C f)) (room : Room (k + 1) X.A) (hb : Binds X.K fd ps []) (pass : Passes CX X fun _ _ _ => False) (hg : Gl X c) (hm : X.mg c = some (.ref C)) (he : PE X e te)
    (h3 : (c == ("__debug__" : Str)) = false) (h4 : starEach [e] X.env = (false, eval e X.env) :: starEach [] X.env) :
    PE X (.Call (.Name c p0) [e] [] pos) (fun σ H Q => te σ H fun n H1 => ∀ a d, H1 a = none → H1 d = none → d ≠ a → Q (.ref a) (upd (upd (upd H1 a (exo a C none)) d (exd d [(f, n)])) a (exo a C (some d)))) := by
  refine ⟨fun pins s σ H Q I h => ?_⟩
  obtain ⟨nm, q, N, bs, bm, sn, sub, ab, col, dd, k0, k1, k2, k3, k5, hC, hbm⟩ := T.cls
  refine wpAny_Call_Name_kw (ld_glob I hg hm ?_ h3)
  refine PySem.W.callWith_K (h₀ := X.base) I.ok.mod.kin T.kC ?_ h4 (by rfl)
  rw [h4]
  show wpAny _ _ (spliced ((false, eval e X.env) :: backTo pos (starEach [] X.env))) _ _ s
  refine Calls.spliced_cons (thn (he.run pins s σ H _ I h) fun u s1 ⟨n, H1, I1, r1, q1⟩ => Calls.spliced_nil ⟨I1.kIn, ?_⟩)
  show wpAny _ _ (call (.ref C) [u]) _ _ _
  obtain ⟨hp, g, dr, tk, os⟩ := s1
  have hsz : hp.objs.size ≤ hp.objs.size + 1 := Nat.le_succ _
  have hn : H1 (hp.objs.size + 1) = none := I1.hok.fresh hsz
  have hq := q1 (hp.objs.size + 1)
  have kk : ∀ b o, hp.get? b = some o → ((hp.push (PySem.W.kdv_tup [u])).push (PySem.HandSPX.excO C hp.objs.size)).get? b = some o := fun b o z => Heap.get?_push_of_some _ (Heap.get?_push_of_some _ z)
  have hget : ((hp.push (PySem.W.kdv_tup [u])).push (PySem.HandSPX.excO C hp.objs.size)).get? (hp.objs.size + 1) = some (PySem.HandSPX.excO C hp.objs.size) := by heap_get
  have I2 : Inv X pins σ (upd H1 (hp.objs.size + 1) (exo (hp.objs.size + 1) C none)) ⟨(hp.push (PySem.W.kdv_tup [u])).push (PySem.HandSPX.excO C hp.objs.size), g, dr, tk, os⟩ :=
    I1.laid (t' := tk) kk hsz (exo_ok hget)
  have r2 : Vals [V.ref (hp.objs.size + 1), n] [Value.ref (hp.objs.size + 1), u] := .cons rfl (.cons r1 .nil)
  have sp1 : spI C f [V.ref (hp.objs.size + 1), n] (upd H1 (hp.objs.size + 1) (exo (hp.objs.size + 1) C none)) (fun v H2 => v = .non ∧ Q (.ref (hp.objs.size + 1)) H2) (fun _ _ _ => False) := by
    refine ⟨_, n, rfl, upd_same, fun d hd hne => ⟨rfl, hq d hn ?_ hne⟩⟩
    rw [upd_ne hne] at hd
    exact hd
  have hl : [Value.ref (hp.objs.size + 1), u].length = ps.length := by
    have z := r2.length
    rw [F1.len _ _ _ _ sp1] at z
    exact z.symm
  refine wpAny_call (PySem.HandSPX.call_own F.excBase_ValueError (fun Y => PySem.HandSPX.refsVE_contains Y bm hbm) (I1.kIn _ _ hC) (PySem.W.looks_findIn I1.kIn iC) (fun self => PySem.W.bind_fn I1.kIn self tI) (show 1 ≤ sizeLine by rw [sizeLine_eq]; omega)
    (codeAny_mono (F1.run _ X.stack _ _ ⟨[Value.ref (hp.objs.size + 1), u], []⟩ _ _ _ (fun _ _ _ => False) (room.make C [u] []) (I2.env0.make C [u] []) (by have := hb _ [Value.ref (hp.objs.size + 1), u] I2.kIn (by rw [List.append_nil]; exact hl); rw [List.append_nil] at this; exact this) r2 sp1) fun r s' hq' => ?_))
  cases r with
  | error er => exact pass pins σ _ _ er s' I2 hq'
  | ok fl =>
    cases fl with
    | ret u2 =>
      obtain ⟨v, H2, os2, bare2, un2, hok2, rv, ev, q2⟩ := hq'
      subst ev
      obtain ⟨h2, g2, d2, t2, os'⟩ := s'
      exact ⟨rv, .ref _, H2, I2.call' (ch := []) os2 un2 hok2 bare2 (fun b z => absurd z (by simp)), rfl, q2⟩
    | next => exact False.elim hq'
    | brk => exact False.elim hq'
    | cont => exact False.elim hq'
def gMkN (c : Str) : D → M D := fun d ms => match d with
  | .int n => .ok (.xo c (some n)) ms
  | _ => .bad
theorem je_mkN {CX : CXT} {c : Str} {C S fI : Addr} {k : Nat} {fd : FuncData} {ps : List Str} (Tx : XcAt X.K c C S) (T : OexC X.K C) (iC : PySem.W.findIn X.K (.ref C) "__init__" = some (some (.ref fI))) (tI : PySem.W.typeIn X.K (.ref fI) = some (.type "function"))
    (F1 : FnOk X.prog X.w X.K X.mg X.base CX k fI fd ps (spI C "number")) (room : Room (k + 1) X.A) (hb : Binds X.K fd ps []) (pass : Passes CX X fun _ _ _ => False) (hm : X.mg c = some (.ref C)) (he : JE X W e ma)
    (hg : Gl X c := by rfl) (h3 : (c == ("__debug__" : Str)) = false := by decide) (h4 : starEach [e] X.env = (false, eval e X.env) :: starEach [] X.env := by rfl) : JE X W (.Call (.Name c p0) [e] [] pos) (E.op1 (gMkN c) ma) := by
  obtain ⟨t, g1, g2⟩ := he
  refine ⟨_, pe_oexV T iC tI F1 room hb pass hg hm g1 h3 h4, fun p B σ ss H F ms Q s hs po => ?_⟩
  refine g2 p B σ ss H F ms _ s hs (po.bind fun x ms1 v1 H1 F1' e1 q1 po1 => fun a d ha hd hne => ?_)
  cases q1 with
  | int n =>
    have eq1 : upd (upd (upd H1 a (exo a C none)) d (exd d [("number", V.int n)])) a (exo a C (some d)) = upd (upd H1 d (exd d [("number", V.int n)])) a (exo a C (some d)) := by
      funext b
      by_cases z : b = a
      · rw [z, upd_same, upd_same]
      · rw [upd_ne z, upd_ne z]
        by_cases y : b = d
        · rw [y, upd_same, upd_same]
        · rw [upd_ne y, upd_ne y, upd_ne z]
    rw [eq1]
    have x1 := Ext.new (o := exd d [("number", V.int n)]) e1.hs hd
    have ha1 : upd H1 d (exd d [("number", V.int n)]) a = none := by rw [upd_ne (Ne.symm hne)]; exact ha
    have x2 := Ext.new (o := exo a C (some d)) x1.hs ha1
    exact po1 _ _ _ (x1.trans x2) (.xn Tx upd_same (by rw [upd_ne hne, upd_same]))
  | _ => exact po1.elim
end
end Q
namespace Q
open PySem L2 PyProof.Rows
/-- the class's facts, as a test -/
def xcB (K : PySem.W.Frag) (c : Str) (C S : Addr) : Bool :=
  decide (C ≠ S) && (match PySem.W.clsIn K C with
    | some cd => decide (cd.name = c) && decide (cd.mro = [.ref C, .ref S, .type "ValueError", .type "Exception", .type "BaseException", .type "object"])
    | none => false) && decide (PySem.W.typeIn K (.ref C) = some (.type "type")) && (PySem.W.clsIn K S).isSome && decide (PySem.W.typeIn K (.ref S) = some (.type "type")) &&
  decide (PySem.W.findIn K (.ref C) "__getattribute__" = some (some (.builtin "BaseException.__getattribute__"))) && decide (PySem.W.findIn K (.ref C) "__getattr__" = some none) && decide (PySem.W.subIn K (.ref C) (.type "BaseException") = some true) && PySem.W.hasDictIn K C &&
  decide (PySem.W.findIn K (.ref C) "__class__" = some (some (.builtin "object.__class__"))) && decide (PySem.W.specialIn K (.builtin "object.__class__") "__get__" = some (some (.builtin "getset_descriptor.__get__"))) && decide (PySem.W.takesIn K (.builtin "object.__class__") = some true) &&
  decide (PySem.W.mroIn K C (.type "object") = some true) && decide (PySem.W.findIn K (.ref C) "number" = some none)
theorem xc_of {K : PySem.W.Frag} {c : Str} {C S : Addr} (h1 : PySem.W.nsIn K mainGlobals c = some (some (.ref C))) (h2 : PySem.W.nsIn K mainGlobals "ShownError" = some (some (.ref S))) (h : xcB K c C S = true) : XcAt K c C S := by
  unfold xcB at h
  simp only [Bool.and_eq_true, decide_eq_true_eq] at h
  obtain ⟨⟨⟨⟨⟨⟨⟨⟨⟨⟨⟨⟨⟨a1, a2⟩, a3⟩, a4⟩, a5⟩, a6⟩, a7⟩, a8⟩, a9⟩, b1⟩, b2⟩, b3⟩, b4⟩, b5⟩ := h
  refine ⟨h1, h2, a1, ?_, a3, a4, a5, ⟨a6, a7, a8, a9, b1, b2, b3, b4⟩, b5⟩
  split at a2
  · rename_i cd e
    simp only [Bool.and_eq_true, decide_eq_true_eq] at a2
    exact ⟨cd, e, a2.1, a2.2⟩
  · cases a2
/-- a class without an own __init__ -/
structure Xp (K : PySem.W.Frag) (mg : Str → Option Value) (c : Str) : Prop where
  ex : ∃ C S : Addr, XcAt K c C S ∧ mg c = some (.ref C) ∧ PySem.W.excIn K C [.type "ValueError", .type "Exception", .type "BaseException", .type "object"] "ValueError.__new__" = true ∧ PySem.W.keepIn K (.ref C) = true
structure Sh (K : PySem.W.Frag) (mg : Str → Option Value) : Prop where
  ex : ∃ S : Addr, mg "ShownError" = some (.ref S) ∧ PySem.W.nsIn K mainGlobals "ShownError" = some (some (.ref S))
/-- a class with an own __init__ of one field -/
structure Nw (K : PySem.W.Frag) (mg : Str → Option Value) (c qual : Str) (st : Stmt) : Prop where
  ex : ∃ (C S fI : Addr) (fd : FuncData), XcAt K c C S ∧ mg c = some (.ref C) ∧ OexC K C ∧ PySem.W.findIn K (.ref C) "__init__" = some (some (.ref fI)) ∧ PySem.W.typeIn K (.ref fI) = some (.type "function") ∧ Fun K "__init__" qual st fI fd ∧ Binds K fd ["self", "number"] [] ∧
    mg "ShownError" = some (.ref S) ∧ PySem.W.readsIn K S (.type "type") = true ∧ PySem.W.specialIn K (.ref S) "__getattribute__" = some (some (.builtin "type.__getattribute__")) ∧ PySem.W.findCls K (.ref S) (.type "type") "__init__" = some (.val (.builtin "ValueError.__init__")) ∧
    PySem.W.exmOne K (.ref C) (.ref S) = some true
end Q

set_option Elab.async false
set_option linter.all false
set_option maxRecDepth 100000
set_option maxHeartbeats 4000000
namespace K99
open PySem L2 PyProof.Rows Q
def top (i : Nat) : Stmt := PySem.Challenge.pw_plainshown_k99_errors_by_themselves.main.body.getD i (.Pass ⟨0, 0, 0, 0⟩)
def s_init : Stmt := (match top 29 with | .ClassDef _ _ _ b _ _ _ _ _ _ _ => b | _ => []).getD 0 (.Pass ⟨0, 0, 0, 0⟩)
abbrev s__law_pot : Stmt := top 31
abbrev N__law_pot : List Str := ["_law_script", "_law_k", "_law_cell", "_law_mixed"]
theorem sc__law_pot : FnScope N__law_pot ["_law_script", "_law_k"] (defScope s__law_pot) := ⟨rfl, rfl, rfl, by decide +kernel, rfl, by decide +kernel, by decide +kernel⟩
abbrev s__law_take : Stmt := top 32
abbrev N__law_take : List Str := ["_law_pot_here", "_law_many", "_law_found", "_law_one", "_law_other"]
theorem sc__law_take : FnScope N__law_take ["_law_pot_here", "_law_many"] (defScope s__law_take) := ⟨rfl, rfl, rfl, by decide +kernel, rfl, by decide +kernel, by decide +kernel⟩
abbrev s__law_number : Stmt := top 37
abbrev N__law_number : List Str := ["_law_pot_here", "_law_far"]
theorem sc__law_number : FnScope N__law_number ["_law_pot_here"] (defScope s__law_number) := ⟨rfl, rfl, rfl, by decide +kernel, rfl, by decide +kernel, by decide +kernel⟩
abbrev s__law_made : Stmt := top 33
abbrev N__law_made : List Str := ["_law_which", "_law_word", "_law_some"]
theorem sc__law_made : FnScope N__law_made ["_law_which", "_law_word"] (defScope s__law_made) := ⟨rfl, rfl, rfl, by decide +kernel, rfl, by decide +kernel, by decide +kernel⟩
abbrev s__law_kinds : Stmt := top 34
abbrev N__law_kinds : List Str := ["_law_one", "_law_some"]
theorem sc__law_kinds : FnScope N__law_kinds ["_law_one"] (defScope s__law_kinds) := ⟨rfl, rfl, rfl, by decide +kernel, rfl, by decide +kernel, by decide +kernel⟩
abbrev s__law_alone : Stmt := top 35
abbrev N__law_alone : List Str := ["_law_one", "_law_which", "_law_at"]
theorem sc__law_alone : FnScope N__law_alone ["_law_one", "_law_which"] (defScope s__law_alone) := ⟨rfl, rfl, rfl, by decide +kernel, rfl, by decide +kernel, by decide +kernel⟩
abbrev s__law_taken : Stmt := top 36
abbrev N__law_taken : List Str := ["_law_number_here", "e"]
theorem sc__law_taken : FnScope N__law_taken ["_law_number_here"] (defScope s__law_taken) := ⟨rfl, rfl, rfl, by decide +kernel, rfl, by decide +kernel, by decide +kernel⟩
abbrev s_law : Stmt := top 38
abbrev N_law : List Str := ["_law_script", "_law_k", "_law_pot_here", "_law_which", "_law_word", "_law_number_here", "_law_one", "_law_first", "_law_other"]
theorem sc_law : FnScope N_law ["_law_script"] (defScope s_law) := ⟨rfl, rfl, rfl, by decide +kernel, rfl, by decide +kernel, by decide +kernel⟩
abbrev b__law_pot : SS → MS → O := (S.seq (S.set 2 (E.c (.int 0))) (S.seq (S.ife (E.test (E.op2 gLt (E.var 1) (E.op1 gLen (E.var 0)))) (S.set 2 (E.op2 gMod (E.op1 gAbs (E.op2 gIx (E.var 0) (E.var 1))) (E.op2 gPow (E.op2 gPow (E.c (.int 10)) (E.c (.int 60))) (E.c (.int 14))))) S.nil) (S.seq (S.set 3 (E.op2 gMod (E.op2 gPow (E.op2 gAdd (E.op2 gAdd (E.op2 gMod (E.var 2) (E.c (.int 2147483629))) (E.op2 gMul (E.c (.int 7919)) (E.var 1))) (E.c (.int 1))) (E.c (.int 5))) (E.c (.int 2305843009213693951)))) (S.ret (E.lst (E.cons (E.op2 gMul (E.var 2) (E.op1 gInt (E.op2 gGe (E.var 2) (E.op2 gPow (E.c (.int 10)) (E.c (.int 18)))))) (E.cons (E.var 3) (E.cons (E.c (.int 0)) E.nil))))))))
def m__law_pot : List D → M D := mirOf 4 (b__law_pot)
abbrev b__law_take : SS → MS → O := (S.seq (S.ife (E.test (E.op2 gGt (E.op2 gIx (E.var 0) (E.c (.int 0))) (E.c (.int 0)))) (S.seq (S.set 2 (E.op2 gMod (E.op2 gIx (E.var 0) (E.c (.int 0))) (E.var 1))) (S.seq (S.setIx 0 (E.c (.int 0)) (E.op2 gDiv (E.op2 gIx (E.var 0) (E.c (.int 0))) (E.var 1))) (S.ret (E.var 2)))) S.nil) (S.seq (S.setIx 0 (E.c (.int 2)) (E.op2 gAdd (E.op2 gIx (E.var 0) (E.c (.int 2))) (E.c (.int 1)))) (S.seq (S.set 3 (E.op2 gMod (E.op2 gPow (E.op2 gAdd (E.op2 gIx (E.var 0) (E.c (.int 1))) (E.op2 gMul (E.c (.int 104729)) (E.op2 gIx (E.var 0) (E.c (.int 2))))) (E.c (.int 3))) (E.c (.int 2305843009213693921)))) (S.seq (S.set 4 (E.op2 gMod (E.op2 gPow (E.op2 gAdd (E.op2 gAdd (E.var 3) (E.op2 gMod (E.op2 gIx (E.var 0) (E.c (.int 1))) (E.c (.int 65537)))) (E.op2 gMul (E.c (.int 31)) (E.op2 gIx (E.var 0) (E.c (.int 2))))) (E.c (.int 5))) (E.c (.int 2305843009213693907)))) (S.ret (E.op2 gMod (E.op2 gDiv (E.var 4) (E.c (.int 1024))) (E.var 1)))))))
def m__law_take : List D → M D := mirOf 5 (b__law_take)
abbrev b__law_number : SS → MS → O := (S.seq (S.set 1 (E.fnA m__law_take (E.cons (E.var 0) (E.cons (E.op2 gPow (E.c (.int 10)) (E.c (.int 39))) E.nil)))) (S.ret (E.op2 gIx (E.lst (E.cons (E.c (.int 0)) (E.cons (E.c (.int 1)) (E.cons (E.var 1) (E.cons (E.op1 gNeg (E.var 1)) E.nil))))) (E.fnA m__law_take (E.cons (E.var 0) (E.cons (E.c (.int 4)) E.nil))))))
def m__law_number : List D → M D := mirOf 2 (b__law_number)
abbrev b__law_made : SS → MS → O := (S.seq (S.ife (E.test (E.op2 gLt (E.var 0) (E.c (.int 7)))) (S.seq (S.set 2 (E.lst (E.cons (E.op1 (gMkX "Astray") (E.var 1)) (E.cons (E.op1 (gMkX "Falls") (E.var 1)) (E.cons (E.op1 (gMkX "NoBegins") (E.var 1)) (E.cons (E.op1 (gMkX "NoCode") (E.var 1)) (E.cons (E.op1 (gMkX "NoDeed") (E.var 1)) (E.cons (E.op1 (gMkX "NoFunction") (E.var 1)) E.nil)))))))) (S.ret (E.op2 gIx (E.op2 gAdd (E.var 2) (E.lst (E.cons (E.op1 (gMkX "NoHand") (E.var 1)) E.nil))) (E.var 0)))) S.nil) (S.seq (S.ife (E.test (E.op2 gLt (E.var 0) (E.c (.int 14)))) (S.seq (S.set 2 (E.lst (E.cons (E.op1 (gMkX "NoLife") (E.var 1)) (E.cons (E.op1 (gMkX "NoName") (E.var 1)) (E.cons (E.op1 (gMkX "NoNumber") (E.var 1)) (E.cons (E.op1 (gMkX "NoPicture") (E.var 1)) (E.cons (E.op1 (gMkX "NoStanding") (E.var 1)) (E.cons (E.op1 (gMkX "NoState") (E.var 1)) E.nil)))))))) (S.ret (E.op2 gIx (E.op2 gAdd (E.var 2) (E.lst (E.cons (E.op1 (gMkX "NoStop") (E.var 1)) E.nil))) (E.op2 gSub (E.var 0) (E.c (.int 7)))))) S.nil) (S.seq (S.ife (E.test (E.op2 gLt (E.var 0) (E.c (.int 21)))) (S.seq (S.set 2 (E.lst (E.cons (E.op1 (gMkX "NoTask") (E.var 1)) (E.cons (E.op1 (gMkX "NoTerm") (E.var 1)) (E.cons (E.op1 (gMkX "NoText") (E.var 1)) (E.cons (E.op1 (gMkX "NoThing") (E.var 1)) (E.cons (E.op1 (gMkX "NoTurning") (E.var 1)) (E.cons (E.op1 (gMkX "NoTurns") (E.var 1)) E.nil)))))))) (S.ret (E.op2 gIx (E.op2 gAdd (E.var 2) (E.lst (E.cons (E.op1 (gMkX "NoWeather") (E.var 1)) E.nil))) (E.op2 gSub (E.var 0) (E.c (.int 14)))))) S.nil) (S.seq (S.set 2 (E.lst (E.cons (E.op1 (gMkX "NoWords") (E.var 1)) (E.cons (E.op1 (gMkX "NoWorlds") (E.var 1)) (E.cons (E.op1 (gMkX "TooLarge") (E.var 1)) (E.cons (E.op1 (gMkX "TooLong") (E.var 1)) (E.cons (E.op1 (gMkX "TooWide") (E.var 1)) (E.cons (E.op1 (gMkX "Unlike") (E.var 1)) E.nil)))))))) (S.ret (E.op2 gIx (E.var 2) (E.op2 gSub (E.var 0) (E.c (.int 21)))))))))
def m__law_made : List D → M D := mirOf 3 (b__law_made)
abbrev b__law_kinds : SS → MS → O := (S.seq (S.own 1 (E.lst (E.cons (E.op1 (gIsX fun c => decide (c = "Astray")) (E.var 0)) (E.cons (E.op1 (gIsX fun c => decide (c = "Falls")) (E.var 0)) (E.cons (E.op1 (gIsX fun c => decide (c = "NoBegins")) (E.var 0)) (E.cons (E.op1 (gIsX fun c => decide (c = "NoCode")) (E.var 0)) E.nil)))))) (S.seq (S.own 1 (E.op2 gAddL (E.bor 1) (E.lst (E.cons (E.op1 (gIsX fun c => decide (c = "NoDeed")) (E.var 0)) (E.cons (E.op1 (gIsX fun c => decide (c = "NoFunction")) (E.var 0)) (E.cons (E.op1 (gIsX fun c => decide (c = "NoHand")) (E.var 0)) E.nil)))))) (S.seq (S.own 1 (E.op2 gAddL (E.bor 1) (E.lst (E.cons (E.op1 (gIsX fun c => decide (c = "NoLife")) (E.var 0)) (E.cons (E.op1 (gIsX fun c => decide (c = "NoName")) (E.var 0)) (E.cons (E.op1 (gIsX fun c => decide (c = "NoNumber")) (E.var 0)) E.nil)))))) (S.seq (S.own 1 (E.op2 gAddL (E.bor 1) (E.lst (E.cons (E.op1 (gIsX fun c => decide (c = "NoPicture")) (E.var 0)) (E.cons (E.op1 (gIsX fun c => decide (c = "NoStanding")) (E.var 0)) (E.cons (E.op1 (gIsX fun c => decide (c = "NoState")) (E.var 0)) E.nil)))))) (S.seq (S.own 1 (E.op2 gAddL (E.bor 1) (E.lst (E.cons (E.op1 (gIsX fun c => decide (c = "NoStop")) (E.var 0)) (E.cons (E.op1 (gIsX fun c => decide (c = "NoTask")) (E.var 0)) (E.cons (E.op1 (gIsX fun c => decide (c = "NoTerm")) (E.var 0)) E.nil)))))) (S.seq (S.append 1 (E.op1 (gIsX fun c => decide (c = "NoText")) (E.var 0))) (S.seq (S.own 1 (E.op2 gAddL (E.bor 1) (E.lst (E.cons (E.op1 (gIsX fun c => decide (c = "NoThing")) (E.var 0)) (E.cons (E.op1 (gIsX fun c => decide (c = "NoTurning")) (E.var 0)) (E.cons (E.op1 (gIsX fun c => decide (c = "NoTurns")) (E.var 0)) E.nil)))))) (S.seq (S.own 1 (E.op2 gAddL (E.bor 1) (E.lst (E.cons (E.op1 (gIsX fun c => decide (c = "NoWeather")) (E.var 0)) (E.cons (E.op1 (gIsX fun c => decide (c = "NoWords")) (E.var 0)) (E.cons (E.op1 (gIsX fun c => decide (c = "NoWorlds")) (E.var 0)) E.nil)))))) (S.seq (S.own 1 (E.op2 gAddL (E.bor 1) (E.lst (E.cons (E.op1 (gIsX fun c => decide (c = "TooLarge")) (E.var 0)) (E.cons (E.op1 (gIsX fun c => decide (c = "TooLong")) (E.var 0)) (E.cons (E.op1 (gIsX fun c => decide (c = "TooWide")) (E.var 0)) E.nil)))))) (S.ret (E.op2 gAdd (E.bor 1) (E.lst (E.cons (E.op1 (gIsX fun c => decide (c = "Unlike")) (E.var 0)) (E.cons (E.op1 (gIsX fun c => decide (c = "NoWay")) (E.var 0)) E.nil))))))))))))))
def m__law_kinds : List D → M D := mirOf 2 (b__law_kinds)
abbrev b__law_alone : SS → MS → O := (S.seq (S.ife (E.tor (E.tnot (E.test (E.op1 (gIsX fun _ => true) (E.var 0)))) (E.tnot (E.test (E.op1 (gIsX fun _ => true) (E.var 0))))) (S.ret (E.c (.bl false))) S.nil) (S.ret (E.op2 gEq (E.fnA m__law_kinds (E.cons (E.var 0) E.nil)) (E.lc [2] (E.itsA range1 (E.cons (E.c (.int 28)) E.nil)) (g1 2) E.yes (E.op2 gEq (E.var 2) (E.var 1))))))
def m__law_alone : List D → M D := mirOf 3 (b__law_alone)
def m__law_taken : List D → M D := fun ds ms => match ds with
  | [.int n] => .ok (.int n) ms
  | _ => .bad
abbrev b_law : SS → MS → O := (S.seq (S.for_ (E.itsA range1 (E.cons (E.op2 gAdd (E.c (.int 28)) (E.op1 gLen (E.sl (E.var 0) E.noPart (E.part (E.c (.int 30)))))) E.nil)) (g1 1) (S.withPot 2 [0, 1] m__law_pot (E.cons (E.op2 gAdd (E.op2 gMulL (E.lst (E.cons (E.c (.int 0)) E.nil)) (E.c (.int 28))) (E.var 0)) (E.cons (E.var 1) E.nil)) (S.seq (S.set 3 (E.ife (E.test (E.op2 gLt (E.var 1) (E.c (.int 28)))) (E.var 1) (E.fnA m__law_take (E.cons (E.var 2) (E.cons (E.c (.int 28)) E.nil))))) (S.seq (S.set 4 (E.op2 gIx (E.lst (E.cons (E.c (.str "")) (E.cons (E.c (.str "no")) (E.cons (E.c (.str "a word")) (E.cons (E.c (.str "x y")) E.nil))))) (E.fnA m__law_take (E.cons (E.var 2) (E.cons (E.c (.int 4)) E.nil))))) (S.seq (S.set 5 (E.fnA m__law_number (E.cons (E.var 2) E.nil))) (S.seq (S.set 6 (E.ife (E.test (E.op2 gEq (E.var 3) (E.c (.int 27)))) (E.op1 (gMkN "NoWay") (E.var 5)) (E.fnA m__law_made (E.cons (E.var 3) (E.cons (E.var 4) E.nil))))) (S.seq (S.ife (E.tnot (E.test (E.fnA m__law_alone (E.cons (E.var 6) (E.cons (E.var 3) E.nil))))) (S.ret (E.c (.bl false))) S.nil) (S.seq (S.set 7 (E.op1 (gMkN "NoWay") (E.var 5))) (S.seq (S.set 8 (E.op1 (gMkN "NoWay") (E.op2 gAdd (E.fnA m__law_number (E.cons (E.var 2) E.nil)) (E.c (.int 1))))) (S.seq (S.ife (E.tor (E.test (E.fnA gIsi (E.cons (E.op1 gNum (E.var 7)) (E.cons (E.c (.ty .bool)) E.nil)))) (E.tor (E.test (E.op2 gNe (E.op1 gNum (E.var 7)) (E.var 5))) (E.test (E.op2 gNe (E.fnA m__law_taken (E.cons (E.var 5) E.nil)) (E.var 5))))) (S.ret (E.c (.bl false))) S.nil) (S.ife (E.tor (E.tnot (E.test (E.fnA gIsi (E.cons (E.op1 gNum (E.var 8)) (E.cons (E.c (.ty .int)) E.nil))))) (E.tnot (E.test (E.fnA m__law_alone (E.cons (E.var 8) (E.cons (E.c (.int 27)) E.nil)))))) (S.ret (E.c (.bl false))) S.nil))))))))))) (S.ret (E.c (.bl true))))
def m_law : List D → M D := mirOf 9 (b_law)
structure Tp (w : World) (K : PySem.W.Frag) (mg : Str → Option Value) : Prop where
  n_len : mg "len" = none
  n_abs : mg "abs" = none
  n_int : mg "int" = none
  xp_NoFunction : Xp K mg "NoFunction"
  xp_NoDeed : Xp K mg "NoDeed"
  xp_NoCode : Xp K mg "NoCode"
  xp_NoBegins : Xp K mg "NoBegins"
  xp_Falls : Xp K mg "Falls"
  xp_Astray : Xp K mg "Astray"
  xp_NoHand : Xp K mg "NoHand"
  xp_NoState : Xp K mg "NoState"
  xp_NoStanding : Xp K mg "NoStanding"
  xp_NoPicture : Xp K mg "NoPicture"
  xp_NoNumber : Xp K mg "NoNumber"
  xp_NoName : Xp K mg "NoName"
  xp_NoLife : Xp K mg "NoLife"
  xp_NoStop : Xp K mg "NoStop"
  xp_NoTurns : Xp K mg "NoTurns"
  xp_NoTurning : Xp K mg "NoTurning"
  xp_NoThing : Xp K mg "NoThing"
  xp_NoText : Xp K mg "NoText"
  xp_NoTerm : Xp K mg "NoTerm"
  xp_NoTask : Xp K mg "NoTask"
  xp_NoWeather : Xp K mg "NoWeather"
  xp_Unlike : Xp K mg "Unlike"
  xp_TooWide : Xp K mg "TooWide"
  xp_TooLong : Xp K mg "TooLong"
  xp_TooLarge : Xp K mg "TooLarge"
  xp_NoWorlds : Xp K mg "NoWorlds"
  xp_NoWords : Xp K mg "NoWords"
  n_isinstance : mg "isinstance" = none
  nw_NoWay : Nw K mg "NoWay" "NoWay.__init__" s_init
  n_ValueError : mg "ValueError" = none
  sh_ : Sh K mg
  n_range : mg "range" = none
  n_bool : mg "bool" = none
  df__law_pot : Df K mg "_law_pot" s__law_pot ["_law_script", "_law_k"]
  df__law_take : Df K mg "_law_take" s__law_take ["_law_pot_here", "_law_many"]
  df__law_number : Df K mg "_law_number" s__law_number ["_law_pot_here"]
  df__law_made : Df K mg "_law_made" s__law_made ["_law_which", "_law_word"]
  df__law_kinds : Df K mg "_law_kinds" s__law_kinds ["_law_one"]
  df__law_alone : Df K mg "_law_alone" s__law_alone ["_law_one", "_law_which"]
  df__law_taken : Df K mg "_law_taken" s__law_taken ["_law_number_here"]
  df_law : Df K mg "law" s_law ["_law_script"]
end K99

set_option Elab.async false
set_option linter.all false
set_option maxRecDepth 100000
set_option maxHeartbeats 1000000
namespace K99
open PySem L2 PyProof.Rows Q
local macro_rules | `(tactic| walk_at "w") => `(tactic| repeat (first
  | (with_reducible refine wp_c ?_)
  | (with_reducible refine wp_c0 ?_)
  | (with_reducible refine wp_var (by with_unfolding_all rfl) ?_)
  | (with_reducible refine wp_ixP (by with_unfolding_all rfl) ?_)
  | (with_reducible refine wp_borO (by with_unfolding_all rfl) ?_)
  | (with_reducible refine wp_callL (by with_unfolding_all rfl) ?_)
  | (with_reducible refine wp_op2 ?_)
  | (with_reducible refine wp_op1 ?_)
  | (with_reducible refine wp_fnA ?_)
  | (with_reducible refine wp_cons ?_)
  | (with_reducible refine wp_nil ?_)
  | (with_reducible refine ws_seq ?_)
  | (with_reducible refine ws_set ?_)
  | (with_reducible refine ws_own ?_)
  | (with_reducible refine ws_ret ?_)
  | (with_reducible refine ws_ife ?_)
  | (with_reducible refine ws_nil ?_)
  | (with_reducible refine ws_for ?_)
  | (with_reducible refine ws_asg ?_)
  | (with_reducible refine wp_test ?_)
  | (with_reducible refine wp_tnot ?_)
  | (with_reducible refine wp_tand ?_)
  | (with_reducible refine wp_tor ?_)
  | (with_reducible refine wp_vand ?_)
  | (with_reducible refine wp_vor ?_)
  | (with_reducible refine wp_vnot ?_)
  | (with_reducible refine wp_ife ?_)
  | (with_reducible refine wp_chain ?_)
  | (with_reducible refine wp_addI ?_)
  | (with_reducible refine wp_subI ?_)
  | (with_reducible refine wp_ltI ?_)
  | (with_reducible refine wp_leI ?_)
  | (with_reducible refine wp_gtI ?_)
  | (with_reducible refine wp_geI ?_)
  | (with_reducible refine wp_eqI ?_)
  | (with_reducible refine wp_neI ?_)
  | (with_reducible refine wp_neB ?_)
  | (with_reducible refine wp_lenL ?_)
  | (with_reducible refine wp_abs ?_)
  | (with_reducible refine wp_intB ?_)
  | (with_reducible refine wp_intI ?_)
  | (with_reducible refine wp_listL ?_)
  | (with_reducible refine wp_listT ?_)
  | (with_reducible refine wp_tupleL ?_)
  | (with_reducible refine wp_tupleT ?_)
  | (with_reducible refine wp_min ?_)
  | (with_reducible refine wp_max ?_)
  | (with_reducible refine wp_neg ?_)
  | (with_reducible refine wp_lenT ?_)
  | (with_reducible refine wp_slT ?_)
  | (with_reducible refine wp_slL ?_)
  | (with_reducible refine wp_sl ?_)
  | (with_reducible refine wp_noPart ?_)
  | (with_reducible refine wp_part ?_)
  | (with_reducible refine wp_its ?_)
  | (with_reducible refine wp_itS ?_)
  | (with_reducible refine wp_itL ?_)
  | (with_reducible refine wp_itT ?_)
  | (with_reducible refine wp_itsA ?_)
  | (with_reducible refine wp_lc ?_)
  | (with_reducible refine wp_yes ?_)
  | (with_reducible refine wp_tru ?_)
  | (with_reducible refine wp_inK ?_)
  | (with_reducible refine ⟨_, rfl, ?_⟩)
  | (with_reducible refine wp_isi (by with_unfolding_all rfl) (by with_unfolding_all decide) ?_)
  | (with_reducible refine iteK1 (by with_unfolding_all rfl) ?_)
  | (with_reducible refine iteK0 (by with_unfolding_all rfl) ?_)))
local macro_rules | `(tactic| walk_at "v") => `(tactic| repeat (first
  | (with_reducible refine wp_tup ?_)
  | (with_reducible refine wp_lst ?_)
  | (refine ⟨(by simp only [List.length_cons, List.length_nil, List.length_append]; decide), ?_⟩)
  | (with_reducible refine wp_c ?_)
  | (with_reducible refine wp_c0 ?_)
  | (with_reducible refine wp_var (by with_unfolding_all rfl) ?_)
  | (with_reducible refine wp_ixP (by with_unfolding_all rfl) ?_)
  | (with_reducible refine wp_borO (by with_unfolding_all rfl) ?_)
  | (with_reducible refine wp_callL (by with_unfolding_all rfl) ?_)
  | (with_reducible refine wp_op2 ?_)
  | (with_reducible refine wp_op1 ?_)
  | (with_reducible refine wp_fnA ?_)
  | (with_reducible refine wp_cons ?_)
  | (with_reducible refine wp_nil ?_)
  | (with_reducible refine ws_seq ?_)
  | (with_reducible refine ws_set ?_)
  | (with_reducible refine ws_own ?_)
  | (with_reducible refine ws_ret ?_)
  | (with_reducible refine ws_ife ?_)
  | (with_reducible refine ws_nil ?_)
  | (with_reducible refine ws_for ?_)
  | (with_reducible refine ws_asg ?_)
  | (with_reducible refine wp_test ?_)
  | (with_reducible refine wp_tnot ?_)
  | (with_reducible refine wp_tand ?_)
  | (with_reducible refine wp_tor ?_)
  | (with_reducible refine wp_vand ?_)
  | (with_reducible refine wp_vor ?_)
  | (with_reducible refine wp_vnot ?_)
  | (with_reducible refine wp_ife ?_)
  | (with_reducible refine wp_chain ?_)
  | (with_reducible refine wp_addI ?_)
  | (with_reducible refine wp_subI ?_)
  | (with_reducible refine wp_ltI ?_)
  | (with_reducible refine wp_leI ?_)
  | (with_reducible refine wp_gtI ?_)
  | (with_reducible refine wp_geI ?_)
  | (with_reducible refine wp_eqI ?_)
  | (with_reducible refine wp_neI ?_)
  | (with_reducible refine wp_neB ?_)
  | (with_reducible refine wp_lenL ?_)
  | (with_reducible refine wp_abs ?_)
  | (with_reducible refine wp_intB ?_)
  | (with_reducible refine wp_intI ?_)
  | (with_reducible refine wp_listL ?_)
  | (with_reducible refine wp_listT ?_)
  | (with_reducible refine wp_tupleL ?_)
  | (with_reducible refine wp_tupleT ?_)
  | (with_reducible refine wp_min ?_)
  | (with_reducible refine wp_max ?_)
  | (with_reducible refine wp_neg ?_)
  | (with_reducible refine wp_lenT ?_)
  | (with_reducible refine wp_slT ?_)
  | (with_reducible refine wp_slL ?_)
  | (with_reducible refine wp_sl ?_)
  | (with_reducible refine wp_noPart ?_)
  | (with_reducible refine wp_part ?_)
  | (with_reducible refine wp_its ?_)
  | (with_reducible refine wp_itS ?_)
  | (with_reducible refine wp_itL ?_)
  | (with_reducible refine wp_itT ?_)
  | (with_reducible refine wp_itsA ?_)
  | (with_reducible refine wp_lc ?_)
  | (with_reducible refine wp_yes ?_)
  | (with_reducible refine wp_tru ?_)
  | (with_reducible refine wp_inK ?_)
  | (with_reducible refine ⟨_, rfl, ?_⟩)
  | (with_reducible refine wp_isi (by with_unfolding_all rfl) (by with_unfolding_all decide) ?_)
  | (with_reducible refine iteK1 (by with_unfolding_all rfl) ?_)
  | (with_reducible refine iteK0 (by with_unfolding_all rfl) ?_)))
/-- data that may be asked about -/
def okD : Nat → D → Prop
  | _, .non => True
  | _, .bl _ => True
  | _, .int _ => True
  | _, .str x => x.length ≤ 1000 ∧ PyData.strOk x = true
  | n + 1, .tup ds => ds.length ≤ 1000 ∧ ∀ d ∈ ds, okD n d
  | n + 1, .lst ds => ds.length ≤ 1000 ∧ ∀ d ∈ ds, okD n d
  | _, .dct _ _ => True
  | _, _ => False
structure PotOk (n : Nat) (ms : MS) : Prop where
  a : 0 ≤ ms.a
  b0 : 0 ≤ ms.b
  b : ms.b < 2 ^ 61
  c0 : 0 ≤ ms.c
  c : ms.c ≤ n
theorem take_ok {n : Nat} {ms : MS} {many : Int} {Q : D → MS → Prop} (P : PotOk n ms) (hn : n < 2 ^ 40) (h0 : 0 < many) (h1 : many < 2 ^ 9000) (q : ∀ r ms', 0 ≤ r → r < many → PotOk (n + 1) ms' → Q (.int r) ms') : Wp (m__law_take [.pot, .int many] ms) Q := by
  obtain ⟨pa, pb0, pb, pc0, pc⟩ := P
  refine wp_mir ?_
  walk_at "w"
  refine ite2 (fun h => ?_) (fun h => ?_)
  · have h := of_decide_eq_true h
    walk_at "w"
    refine wp_modI h0 ?_
    walk_at "w"
    refine ws_setPot (by rfl) ?_
    walk_at "w"
    refine wp_divI h0 h1 ?_
    walk_at "w"
    refine ⟨_, _, 0, rfl, rfl, rfl, ?_⟩
    walk_at "w"
    exact q _ _ (Int.emod_nonneg _ (by omega)) (Int.emod_lt_of_pos _ h0) ⟨Int.ediv_nonneg pa (by omega), pb0, pb, pc0, by show ms.c ≤ _; omega⟩
  · walk_at "w"
    refine ws_setPot (by rfl) ?_
    walk_at "w"
    refine ⟨_, _, 2, rfl, rfl, rfl, ?_⟩
    walk_at "w"
    have e1 : (S.putMS ms 2 (ms.c + 1)).b = ms.b := rfl
    have e2 : (S.putMS ms 2 (ms.c + 1)).c = ms.c + 1 := rfl
    rw [e1, e2]
    have p40 : (2 : Nat) ^ 40 = 1099511627776 := by decide
    have p61 : (2 : Int) ^ 61 = 2305843009213693952 := by decide
    have p64 : (2 : Nat) ^ 64 = 18446744073709551616 := by decide
    refine wp_mulI (.inl ⟨by decide, by decide⟩) ?_
    walk_at "w"
    refine wp_powI (j := 3) (n := 64) (by omega) (by decide) ?_
    walk_at "w"
    refine wp_modI (by decide) ?_
    have g0 := Int.emod_nonneg ((ms.b + 104729 * (ms.c + 1)) ^ 3) (show (2305843009213693921 : Int) ≠ 0 by decide)
    have g1 := Int.emod_lt_of_pos ((ms.b + 104729 * (ms.c + 1)) ^ 3) (show (0 : Int) < 2305843009213693921 by decide)
    generalize (ms.b + 104729 * (ms.c + 1)) ^ 3 % 2305843009213693921 = o1 at g0 g1 ⊢
    walk_at "w"
    rw [e1]
    refine wp_modI (by decide) ?_
    have g2 := Int.emod_nonneg ms.b (show (65537 : Int) ≠ 0 by decide)
    have g3 := Int.emod_lt_of_pos ms.b (show (0 : Int) < 65537 by decide)
    generalize ms.b % 65537 = o2 at g2 g3 ⊢
    walk_at "w"
    rw [e2]
    refine wp_mulI (.inl ⟨by decide, by decide⟩) ?_
    walk_at "w"
    refine wp_powI (j := 5) (n := 64) (by omega) (by decide) ?_
    walk_at "w"
    refine wp_modI (by decide) ?_
    walk_at "w"
    refine wp_divI (by decide) (by decide) ?_
    walk_at "w"
    refine wp_modI h0 ?_
    exact q _ _ (Int.emod_nonneg _ (by omega)) (Int.emod_lt_of_pos _ h0) ⟨pa, pb0, pb, by show 0 ≤ ms.c + 1; omega, by show ms.c + 1 ≤ _; omega⟩
theorem cell_pow : (10 : Int) ^ 60 = 1000000000000000000000000000000000000000000000000000000000000 := by decide
theorem at_ints {ns : List Int} {k : Int} (h0 : 0 ≤ k) (h : k < ns.length) : ∃ z, atI (ns.map D.int) k = some (.int z) := by
  obtain ⟨x, hx, hm⟩ := atI_in (xs := ns) h0 h
  exact ⟨x, atI_map hx⟩
theorem pot_ok {ns : List Int} {k : Int} {ms : MS} (h0 : 0 ≤ k) (h1 : k ≤ 100) : Wp (m__law_pot [.lst (ns.map D.int), .int k] ms) fun d ms' => ∃ x y z, d = .lst [.int x, .int y, .int z] ∧ PotOk 0 ⟨x, y, z⟩ := by
  refine wp_mir ?_
  walk_at "w"
  have fin : ∀ (c : Int) (nx bk ct : SS → MS → Prop), 0 ≤ c → Ws (S.seq (S.set 3 (E.op2 gMod (E.op2 gPow (E.op2 gAdd (E.op2 gAdd (E.op2 gMod (E.var 2) (E.c (.int 2147483629))) (E.op2 gMul (E.c (.int 7919)) (E.var 1))) (E.c (.int 1))) (E.c (.int 5))) (E.c (.int 2305843009213693951)))) (S.ret (E.lst (E.cons (E.op2 gMul (E.var 2) (E.op1 gInt (E.op2 gGe (E.var 2) (E.op2 gPow (E.c (.int 10)) (E.c (.int 18)))))) (E.cons (E.var 3) (E.cons (E.c (.int 0)) E.nil))))) [some (.dat (.lst (ns.map D.int))), some (.dat (.int k)), some (.dat (.int c)), none] ms)
      { nx := nx, rt := fun d ms' => ∃ x y z, d = .lst [.int x, .int y, .int z] ∧ PotOk 0 ⟨x, y, z⟩, bk := bk, ct := ct } := by
    intro c nx bk ct hc
    walk_at "w"
    refine wp_modI (by decide) ?_
    have g0 := Int.emod_nonneg c (show (2147483629 : Int) ≠ 0 by decide)
    have g1 := Int.emod_lt_of_pos c (show (0 : Int) < 2147483629 by decide)
    generalize c % 2147483629 = r at g0 g1 ⊢
    walk_at "w"
    refine wp_mulI (.inl ⟨by decide, by decide⟩) ?_
    walk_at "w"
    have p64 : (2 : Nat) ^ 64 = 18446744073709551616 := by decide
    refine wp_powI (j := 5) (n := 64) (by omega) (by decide) ?_
    walk_at "w"
    refine wp_modI (by decide) ?_
    have g2 := Int.emod_nonneg ((r + 7919 * k + 1) ^ 5) (show (2305843009213693951 : Int) ≠ 0 by decide)
    have g3 := Int.emod_lt_of_pos ((r + 7919 * k + 1) ^ 5) (show (0 : Int) < 2305843009213693951 by decide)
    generalize (r + 7919 * k + 1) ^ 5 % 2305843009213693951 = y at g2 g3 ⊢
    walk_at "w"
    refine wp_lst ?_
    walk_at "w"
    refine wp_powI (j := 18) (n := 4) (by decide) (by decide) ?_
    walk_at "w"
    have hb : (if decide ((10 : Int) ^ 18 ≤ c) = true then (1 : Int) else 0) = 1 ∨ (if decide ((10 : Int) ^ 18 ≤ c) = true then (1 : Int) else 0) = 0 := by
      split
      · exact .inl rfl
      · exact .inr rfl
    generalize (if decide ((10 : Int) ^ 18 ≤ c) = true then (1 : Int) else 0) = b at hb ⊢
    refine wp_mulI (.inr (by rcases hb with h | h <;> subst h <;> decide)) ?_
    walk_at "w"
    refine ⟨by simp, _, _, _, rfl, ?_, g2, ?_, Int.le_refl 0, Int.le_refl 0⟩
    · show 0 ≤ c * b
      rcases hb with h | h <;> subst h <;> omega
    · show y < 2 ^ 61
      have : (2 : Int) ^ 61 = 2305843009213693952 := by decide
      omega
  refine ite2 (fun h => ?_) (fun h => ?_)
  · have h : k < (ns.map D.int).length := of_decide_eq_true h
    rw [List.length_map] at h
    walk_at "w"
    obtain ⟨z, hz⟩ := at_ints (ns := ns) h0 h
    refine wp_ixL hz ?_
    walk_at "w"
    refine wp_powI (j := 60) (n := 4) (by decide) (by decide) ?_
    walk_at "w"
    refine wp_powI (j := 14) (n := 200) (by decide) (by decide) ?_
    walk_at "w"
    have hp : (0 : Int) < (10 ^ 60) ^ 14 := by decide
    refine wp_modI hp ?_
    exact fin _ _ _ _ (Int.emod_nonneg _ (by omega))
  · refine ws_nil ?_
    exact fin 0 _ _ _ (by decide)
end K99

set_option Elab.async false
set_option linter.all false
set_option maxRecDepth 100000
set_option maxHeartbeats 1000000
namespace K99
open PySem L2 PyProof.Rows Q
local macro_rules | `(tactic| walk_at "w") => `(tactic| repeat (first
  | (with_reducible refine wp_c ?_)
  | (with_reducible refine wp_c0 ?_)
  | (with_reducible refine wp_var (by with_unfolding_all rfl) ?_)
  | (with_reducible refine wp_ixP (by with_unfolding_all rfl) ?_)
  | (with_reducible refine wp_borO (by with_unfolding_all rfl) ?_)
  | (with_reducible refine wp_callL (by with_unfolding_all rfl) ?_)
  | (with_reducible refine wp_op2 ?_)
  | (with_reducible refine wp_op1 ?_)
  | (with_reducible refine wp_fnA ?_)
  | (with_reducible refine wp_cons ?_)
  | (with_reducible refine wp_nil ?_)
  | (with_reducible refine ws_seq ?_)
  | (with_reducible refine ws_set ?_)
  | (with_reducible refine ws_own ?_)
  | (with_reducible refine ws_ret ?_)
  | (with_reducible refine ws_ife ?_)
  | (with_reducible refine ws_nil ?_)
  | (with_reducible refine ws_for ?_)
  | (with_reducible refine ws_asg ?_)
  | (with_reducible refine wp_test ?_)
  | (with_reducible refine wp_tnot ?_)
  | (with_reducible refine wp_tand ?_)
  | (with_reducible refine wp_tor ?_)
  | (with_reducible refine wp_vand ?_)
  | (with_reducible refine wp_vor ?_)
  | (with_reducible refine wp_vnot ?_)
  | (with_reducible refine wp_ife ?_)
  | (with_reducible refine wp_chain ?_)
  | (with_reducible refine wp_addI ?_)
  | (with_reducible refine wp_subI ?_)
  | (with_reducible refine wp_ltI ?_)
  | (with_reducible refine wp_leI ?_)
  | (with_reducible refine wp_gtI ?_)
  | (with_reducible refine wp_geI ?_)
  | (with_reducible refine wp_eqI ?_)
  | (with_reducible refine wp_neI ?_)
  | (with_reducible refine wp_neB ?_)
  | (with_reducible refine wp_lenL ?_)
  | (with_reducible refine wp_abs ?_)
  | (with_reducible refine wp_intB ?_)
  | (with_reducible refine wp_intI ?_)
  | (with_reducible refine wp_listL ?_)
  | (with_reducible refine wp_listT ?_)
  | (with_reducible refine wp_tupleL ?_)
  | (with_reducible refine wp_tupleT ?_)
  | (with_reducible refine wp_min ?_)
  | (with_reducible refine wp_max ?_)
  | (with_reducible refine wp_neg ?_)
  | (with_reducible refine wp_lenT ?_)
  | (with_reducible refine wp_slT ?_)
  | (with_reducible refine wp_slL ?_)
  | (with_reducible refine wp_sl ?_)
  | (with_reducible refine wp_noPart ?_)
  | (with_reducible refine wp_part ?_)
  | (with_reducible refine wp_its ?_)
  | (with_reducible refine wp_itS ?_)
  | (with_reducible refine wp_itL ?_)
  | (with_reducible refine wp_itT ?_)
  | (with_reducible refine wp_itsA ?_)
  | (with_reducible refine wp_lc ?_)
  | (with_reducible refine wp_yes ?_)
  | (with_reducible refine wp_tru ?_)
  | (with_reducible refine wp_inK ?_)
  | (with_reducible refine ⟨_, rfl, ?_⟩)
  | (with_reducible refine wp_isi (by with_unfolding_all rfl) (by with_unfolding_all decide) ?_)
  | (with_reducible refine iteK1 (by with_unfolding_all rfl) ?_)
  | (with_reducible refine iteK0 (by with_unfolding_all rfl) ?_)))
local macro_rules | `(tactic| walk_at "v") => `(tactic| repeat (first
  | (with_reducible refine wp_tup ?_)
  | (with_reducible refine wp_lst ?_)
  | (refine ⟨(by simp only [List.length_cons, List.length_nil, List.length_append]; decide), ?_⟩)
  | (with_reducible refine wp_c ?_)
  | (with_reducible refine wp_c0 ?_)
  | (with_reducible refine wp_var (by with_unfolding_all rfl) ?_)
  | (with_reducible refine wp_ixP (by with_unfolding_all rfl) ?_)
  | (with_reducible refine wp_borO (by with_unfolding_all rfl) ?_)
  | (with_reducible refine wp_callL (by with_unfolding_all rfl) ?_)
  | (with_reducible refine wp_op2 ?_)
  | (with_reducible refine wp_op1 ?_)
  | (with_reducible refine wp_fnA ?_)
  | (with_reducible refine wp_cons ?_)
  | (with_reducible refine wp_nil ?_)
  | (with_reducible refine ws_seq ?_)
  | (with_reducible refine ws_set ?_)
  | (with_reducible refine ws_own ?_)
  | (with_reducible refine ws_ret ?_)
  | (with_reducible refine ws_ife ?_)
  | (with_reducible refine ws_nil ?_)
  | (with_reducible refine ws_for ?_)
  | (with_reducible refine ws_asg ?_)
  | (with_reducible refine wp_test ?_)
  | (with_reducible refine wp_tnot ?_)
  | (with_reducible refine wp_tand ?_)
  | (with_reducible refine wp_tor ?_)
  | (with_reducible refine wp_vand ?_)
  | (with_reducible refine wp_vor ?_)
  | (with_reducible refine wp_vnot ?_)
  | (with_reducible refine wp_ife ?_)
  | (with_reducible refine wp_chain ?_)
  | (with_reducible refine wp_addI ?_)
  | (with_reducible refine wp_subI ?_)
  | (with_reducible refine wp_ltI ?_)
  | (with_reducible refine wp_leI ?_)
  | (with_reducible refine wp_gtI ?_)
  | (with_reducible refine wp_geI ?_)
  | (with_reducible refine wp_eqI ?_)
  | (with_reducible refine wp_neI ?_)
  | (with_reducible refine wp_neB ?_)
  | (with_reducible refine wp_lenL ?_)
  | (with_reducible refine wp_abs ?_)
  | (with_reducible refine wp_intB ?_)
  | (with_reducible refine wp_intI ?_)
  | (with_reducible refine wp_listL ?_)
  | (with_reducible refine wp_listT ?_)
  | (with_reducible refine wp_tupleL ?_)
  | (with_reducible refine wp_tupleT ?_)
  | (with_reducible refine wp_min ?_)
  | (with_reducible refine wp_max ?_)
  | (with_reducible refine wp_neg ?_)
  | (with_reducible refine wp_lenT ?_)
  | (with_reducible refine wp_slT ?_)
  | (with_reducible refine wp_slL ?_)
  | (with_reducible refine wp_sl ?_)
  | (with_reducible refine wp_noPart ?_)
  | (with_reducible refine wp_part ?_)
  | (with_reducible refine wp_its ?_)
  | (with_reducible refine wp_itS ?_)
  | (with_reducible refine wp_itL ?_)
  | (with_reducible refine wp_itT ?_)
  | (with_reducible refine wp_itsA ?_)
  | (with_reducible refine wp_lc ?_)
  | (with_reducible refine wp_yes ?_)
  | (with_reducible refine wp_tru ?_)
  | (with_reducible refine wp_inK ?_)
  | (with_reducible refine ⟨_, rfl, ?_⟩)
  | (with_reducible refine wp_isi (by with_unfolding_all rfl) (by with_unfolding_all decide) ?_)
  | (with_reducible refine iteK1 (by with_unfolding_all rfl) ?_)
  | (with_reducible refine iteK0 (by with_unfolding_all rfl) ?_)))
/-! ### the classes -/
def nms : List Str := ["Astray", "Falls", "NoBegins", "NoCode", "NoDeed", "NoFunction", "NoHand", "NoLife", "NoName", "NoNumber", "NoPicture", "NoStanding", "NoState", "NoStop", "NoTask", "NoTerm", "NoText", "NoThing", "NoTurning", "NoTurns", "NoWeather", "NoWords", "NoWorlds", "TooLarge", "TooLong", "TooWide", "Unlike", "NoWay"]
def nmAt (w : Nat) : Str := nms.getD w ""
theorem made_eq {x : Str} {ms : MS} : ∀ w : Nat, w < 27 → m__law_made [.int (w : Int), .str x] ms = .ok (.xo (nmAt w) none) ms
  | 0, _ => by kernel_rfl
  | 1, _ => by kernel_rfl
  | 2, _ => by kernel_rfl
  | 3, _ => by kernel_rfl
  | 4, _ => by kernel_rfl
  | 5, _ => by kernel_rfl
  | 6, _ => by kernel_rfl
  | 7, _ => by kernel_rfl
  | 8, _ => by kernel_rfl
  | 9, _ => by kernel_rfl
  | 10, _ => by kernel_rfl
  | 11, _ => by kernel_rfl
  | 12, _ => by kernel_rfl
  | 13, _ => by kernel_rfl
  | 14, _ => by kernel_rfl
  | 15, _ => by kernel_rfl
  | 16, _ => by kernel_rfl
  | 17, _ => by kernel_rfl
  | 18, _ => by kernel_rfl
  | 19, _ => by kernel_rfl
  | 20, _ => by kernel_rfl
  | 21, _ => by kernel_rfl
  | 22, _ => by kernel_rfl
  | 23, _ => by kernel_rfl
  | 24, _ => by kernel_rfl
  | 25, _ => by kernel_rfl
  | 26, _ => by kernel_rfl
  | n + 27, h => absurd h (by omega)
theorem alone_eq {n : Option Int} {ms : MS} : ∀ w : Nat, w < 28 → m__law_alone [.xo (nmAt w) n, .int (w : Int)] ms = .ok (.bl true) ms
  | 0, _ => by kernel_rfl
  | 1, _ => by kernel_rfl
  | 2, _ => by kernel_rfl
  | 3, _ => by kernel_rfl
  | 4, _ => by kernel_rfl
  | 5, _ => by kernel_rfl
  | 6, _ => by kernel_rfl
  | 7, _ => by kernel_rfl
  | 8, _ => by kernel_rfl
  | 9, _ => by kernel_rfl
  | 10, _ => by kernel_rfl
  | 11, _ => by kernel_rfl
  | 12, _ => by kernel_rfl
  | 13, _ => by kernel_rfl
  | 14, _ => by kernel_rfl
  | 15, _ => by kernel_rfl
  | 16, _ => by kernel_rfl
  | 17, _ => by kernel_rfl
  | 18, _ => by kernel_rfl
  | 19, _ => by kernel_rfl
  | 20, _ => by kernel_rfl
  | 21, _ => by kernel_rfl
  | 22, _ => by kernel_rfl
  | 23, _ => by kernel_rfl
  | 24, _ => by kernel_rfl
  | 25, _ => by kernel_rfl
  | 26, _ => by kernel_rfl
  | 27, _ => by kernel_rfl
  | n + 28, h => absurd h (by omega)
end K99

set_option Elab.async false
set_option linter.all false
set_option maxRecDepth 100000
set_option maxHeartbeats 1000000
namespace K99
open PySem L2 PyProof.Rows Q
local macro_rules | `(tactic| walk_at "w") => `(tactic| repeat (first
  | (with_reducible refine wp_c ?_)
  | (with_reducible refine wp_c0 ?_)
  | (with_reducible refine wp_var (by with_unfolding_all rfl) ?_)
  | (with_reducible refine wp_ixP (by with_unfolding_all rfl) ?_)
  | (with_reducible refine wp_borO (by with_unfolding_all rfl) ?_)
  | (with_reducible refine wp_callL (by with_unfolding_all rfl) ?_)
  | (with_reducible refine wp_op2 ?_)
  | (with_reducible refine wp_op1 ?_)
  | (with_reducible refine wp_fnA ?_)
  | (with_reducible refine wp_cons ?_)
  | (with_reducible refine wp_nil ?_)
  | (with_reducible refine ws_seq ?_)
  | (with_reducible refine ws_set ?_)
  | (with_reducible refine ws_own ?_)
  | (with_reducible refine ws_ret ?_)
  | (with_reducible refine ws_ife ?_)
  | (with_reducible refine ws_nil ?_)
  | (with_reducible refine ws_for ?_)
  | (with_reducible refine ws_asg ?_)
  | (with_reducible refine wp_test ?_)
  | (with_reducible refine wp_tnot ?_)
  | (with_reducible refine wp_tand ?_)
  | (with_reducible refine wp_tor ?_)
  | (with_reducible refine wp_vand ?_)
  | (with_reducible refine wp_vor ?_)
  | (with_reducible refine wp_vnot ?_)
  | (with_reducible refine wp_ife ?_)
  | (with_reducible refine wp_chain ?_)
  | (with_reducible refine wp_addI ?_)
  | (with_reducible refine wp_subI ?_)
  | (with_reducible refine wp_ltI ?_)
  | (with_reducible refine wp_leI ?_)
  | (with_reducible refine wp_gtI ?_)
  | (with_reducible refine wp_geI ?_)
  | (with_reducible refine wp_eqI ?_)
  | (with_reducible refine wp_neI ?_)
  | (with_reducible refine wp_neB ?_)
  | (with_reducible refine wp_lenL ?_)
  | (with_reducible refine wp_abs ?_)
  | (with_reducible refine wp_intB ?_)
  | (with_reducible refine wp_intI ?_)
  | (with_reducible refine wp_listL ?_)
  | (with_reducible refine wp_listT ?_)
  | (with_reducible refine wp_tupleL ?_)
  | (with_reducible refine wp_tupleT ?_)
  | (with_reducible refine wp_min ?_)
  | (with_reducible refine wp_max ?_)
  | (with_reducible refine wp_neg ?_)
  | (with_reducible refine wp_lenT ?_)
  | (with_reducible refine wp_slT ?_)
  | (with_reducible refine wp_slL ?_)
  | (with_reducible refine wp_sl ?_)
  | (with_reducible refine wp_noPart ?_)
  | (with_reducible refine wp_part ?_)
  | (with_reducible refine wp_its ?_)
  | (with_reducible refine wp_itS ?_)
  | (with_reducible refine wp_itL ?_)
  | (with_reducible refine wp_itT ?_)
  | (with_reducible refine wp_itsA ?_)
  | (with_reducible refine wp_lc ?_)
  | (with_reducible refine wp_yes ?_)
  | (with_reducible refine wp_tru ?_)
  | (with_reducible refine wp_inK ?_)
  | (with_reducible refine ⟨_, rfl, ?_⟩)
  | (with_reducible refine wp_isi (by with_unfolding_all rfl) (by with_unfolding_all decide) ?_)
  | (with_reducible refine iteK1 (by with_unfolding_all rfl) ?_)
  | (with_reducible refine iteK0 (by with_unfolding_all rfl) ?_)))
local macro_rules | `(tactic| walk_at "v") => `(tactic| repeat (first
  | (with_reducible refine wp_tup ?_)
  | (with_reducible refine wp_lst ?_)
  | (refine ⟨(by simp only [List.length_cons, List.length_nil, List.length_append]; decide), ?_⟩)
  | (with_reducible refine wp_c ?_)
  | (with_reducible refine wp_c0 ?_)
  | (with_reducible refine wp_var (by with_unfolding_all rfl) ?_)
  | (with_reducible refine wp_ixP (by with_unfolding_all rfl) ?_)
  | (with_reducible refine wp_borO (by with_unfolding_all rfl) ?_)
  | (with_reducible refine wp_callL (by with_unfolding_all rfl) ?_)
  | (with_reducible refine wp_op2 ?_)
  | (with_reducible refine wp_op1 ?_)
  | (with_reducible refine wp_fnA ?_)
  | (with_reducible refine wp_cons ?_)
  | (with_reducible refine wp_nil ?_)
  | (with_reducible refine ws_seq ?_)
  | (with_reducible refine ws_set ?_)
  | (with_reducible refine ws_own ?_)
  | (with_reducible refine ws_ret ?_)
  | (with_reducible refine ws_ife ?_)
  | (with_reducible refine ws_nil ?_)
  | (with_reducible refine ws_for ?_)
  | (with_reducible refine ws_asg ?_)
  | (with_reducible refine wp_test ?_)
  | (with_reducible refine wp_tnot ?_)
  | (with_reducible refine wp_tand ?_)
  | (with_reducible refine wp_tor ?_)
  | (with_reducible refine wp_vand ?_)
  | (with_reducible refine wp_vor ?_)
  | (with_reducible refine wp_vnot ?_)
  | (with_reducible refine wp_ife ?_)
  | (with_reducible refine wp_chain ?_)
  | (with_reducible refine wp_addI ?_)
  | (with_reducible refine wp_subI ?_)
  | (with_reducible refine wp_ltI ?_)
  | (with_reducible refine wp_leI ?_)
  | (with_reducible refine wp_gtI ?_)
  | (with_reducible refine wp_geI ?_)
  | (with_reducible refine wp_eqI ?_)
  | (with_reducible refine wp_neI ?_)
  | (with_reducible refine wp_neB ?_)
  | (with_reducible refine wp_lenL ?_)
  | (with_reducible refine wp_abs ?_)
  | (with_reducible refine wp_intB ?_)
  | (with_reducible refine wp_intI ?_)
  | (with_reducible refine wp_listL ?_)
  | (with_reducible refine wp_listT ?_)
  | (with_reducible refine wp_tupleL ?_)
  | (with_reducible refine wp_tupleT ?_)
  | (with_reducible refine wp_min ?_)
  | (with_reducible refine wp_max ?_)
  | (with_reducible refine wp_neg ?_)
  | (with_reducible refine wp_lenT ?_)
  | (with_reducible refine wp_slT ?_)
  | (with_reducible refine wp_slL ?_)
  | (with_reducible refine wp_sl ?_)
  | (with_reducible refine wp_noPart ?_)
  | (with_reducible refine wp_part ?_)
  | (with_reducible refine wp_its ?_)
  | (with_reducible refine wp_itS ?_)
  | (with_reducible refine wp_itL ?_)
  | (with_reducible refine wp_itT ?_)
  | (with_reducible refine wp_itsA ?_)
  | (with_reducible refine wp_lc ?_)
  | (with_reducible refine wp_yes ?_)
  | (with_reducible refine wp_tru ?_)
  | (with_reducible refine wp_inK ?_)
  | (with_reducible refine ⟨_, rfl, ?_⟩)
  | (with_reducible refine wp_isi (by with_unfolding_all rfl) (by with_unfolding_all decide) ?_)
  | (with_reducible refine iteK1 (by with_unfolding_all rfl) ?_)
  | (with_reducible refine iteK0 (by with_unfolding_all rfl) ?_)))
/-! ### the law -/
theorem rangeD_mem {lo : Int} {n : Nat} {d : D} (h : d ∈ rangeD lo n) : ∃ k : Nat, k < n ∧ d = .int (lo + (k : Int)) := by
  unfold rangeD at h
  obtain ⟨k, hk, rfl⟩ := List.mem_map.mp h
  exact ⟨k, by simpa using hk, rfl⟩
theorem wp_mulL {ds : List D} {k : Int} {ms : MS} {Q : D → MS → Prop} (h : -(2 ^ 63) ≤ k ∧ k < 2 ^ 63 ∧ ds.length * k.toNat ≤ 100000) (q : Q (.lst (List.replicate k.toNat ds).flatten) ms) : Wp (gMulL (.lst ds) (.int k) ms) Q := by
  show Wp (if -(2 ^ 63) ≤ k ∧ k < 2 ^ 63 ∧ ds.length * k.toNat ≤ 100000 then R.ok (.lst (List.replicate k.toNat ds).flatten) ms else .bad) Q
  rw [if_pos h]
  exact q
theorem PotOk.mono {n m : Nat} {ms : MS} (P : PotOk n ms) (h : n ≤ m) : PotOk m ms := ⟨P.a, P.b0, P.b, P.c0, by have := P.c; omega⟩
theorem ite2 {c : Bool} {A B : Prop} (h1 : c = true → A) (h2 : c = false → B) : if c = true then A else B := by
  cases c
  · exact h2 rfl
  · exact h1 rfl
theorem cut_take {ds : List D} {most : Nat} : cut ds none (some (most : Int)) = ds.take most := by
  unfold cut
  rw [HT.sIx_nat]
  show (ds.drop 0).take (min most ds.length - 0) = _
  rw [List.drop_zero, Nat.sub_zero]
  rcases Nat.le_total most ds.length with h | h
  · rw [Nat.min_eq_left h]
  · rw [Nat.min_eq_right h, List.take_of_length_le (Nat.le_refl _), List.take_of_length_le h]
theorem number_ok {n : Nat} {ms : MS} {Q : D → MS → Prop} (P : PotOk n ms) (hn : n + 2 < 2 ^ 40) (q : ∀ r ms', PotOk (n + 2) ms' → Q (.int r) ms') : Wp (m__law_number [.pot] ms) Q := by
  refine wp_mir ?_
  walk_at "w"
  refine wp_powI (i := 10) (j := 39) (n := 4) (by decide) (by decide) ?_
  walk_at "w"
  refine take_ok P (by omega) (by decide) (by decide) fun r ms1 r0 r1 P1 => ?_
  walk_at "v"
  refine take_ok P1 (by omega) (by decide) (by decide) fun r2 ms2 s0 s1 P2 => ?_
  refine wp_ixLd s0 s1 fun d hd => ?_
  simp only [List.mem_cons, List.not_mem_nil, or_false] at hd
  rcases hd with h | h | h | h <;> subst h <;> exact q _ _ P2
def kd (a : Option SV) : Option SV := match a with
  | some (.dat d) => if d.noPot = true then some (.dat d) else none
  | _ => none
theorem noPots_ints : ∀ ns : List Int, noPots (ns.map D.int) = true
  | [] => by rw [List.map_nil, noPots]
  | n :: ns => by
    rw [List.map_cons, noPots, noPots_ints ns, D.noPot]
    rfl
theorem kd_ints (ns : List Int) : kd (some (.dat (.lst (ns.map D.int)))) = some (.dat (.lst (ns.map D.int))) := by
  unfold kd
  have : (D.lst (ns.map D.int)).noPot = true := by rw [D.noPot]; exact noPots_ints ns
  simp only [this, if_true]
theorem keep9 (a0 a1 a2 a3 a4 a5 a6 a7 a8 : Option SV) : keepS [0, 1] [a0, a1, a2, a3, a4, a5, a6, a7, a8] = [kd a0, kd a1, none, none, none, none, none, none, none] := by
  have e : List.range [a0, a1, a2, a3, a4, a5, a6, a7, a8].length = [0, 1, 2, 3, 4, 5, 6, 7, 8] := by
    show List.range 9 = _
    decide
  unfold keepS
  rw [e]
  simp only [List.map_cons, List.map_nil]
  simp [kd]
  refine ⟨?_, ?_⟩ <;> (split <;> simp_all)
theorem one_ok {ss : SS} {w : Nat} {u : Str} {num : Int} {ms' : MS} {Q : D → MS → Prop} (hw : w < 28) (h3 : ss[3]? = some (some (.dat (.int (w : Int))))) (h4 : ss[4]? = some (some (.dat (.str u)))) (h5 : ss[5]? = some (some (.dat (.int num)))) (q : ∀ n : Option Int, Q (.xo (nmAt w) n) ms') :
    Wp (E.ife (E.test (E.op2 gEq (E.var 3) (E.c (.int 27)))) (E.op1 (gMkN "NoWay") (E.var 5)) (E.fnA m__law_made (E.cons (E.var 3) (E.cons (E.var 4) E.nil))) ss ms') Q := by
  refine wp_ife (wp_test (wp_op2 (wp_var h3 (wp_c (wp_eqI ⟨_, rfl, ?_⟩)))))
  refine ite2 (fun h => ?_) (fun h => ?_)
  · have h : (w : Int) = 27 := beq_iff_eq.mp h
    obtain rfl : w = 27 := by omega
    exact wp_op1 (wp_var h5 (q (some num)))
  · have h : ¬ (w : Int) = 27 := fun z => by rw [z] at h; exact absurd h (by decide)
    exact wp_fnA (wp_cons (wp_var h3 (wp_cons (wp_var h4 (wp_nil (wp_eq (made_eq w (by omega)) (q none)))))))
theorem which_ok {ss : SS} {k : Int} {n : Nat} {ms' : MS} {Q : D → MS → Prop} (k0 : 0 ≤ k) (P : PotOk n ms') (hn : n < 2 ^ 40) (h1 : ss[1]? = some (some (.dat (.int k)))) (h2 : ss[2]? = some (some (.dat .pot))) (q : ∀ (w : Nat) (ms' : MS), w < 28 → PotOk (n + 1) ms' → Q (.int (w : Int)) ms') :
    Wp (E.ife (E.test (E.op2 gLt (E.var 1) (E.c (.int 28)))) (E.var 1) (E.fnA m__law_take (E.cons (E.var 2) (E.cons (E.c (.int 28)) E.nil))) ss ms') Q := by
  refine wp_ife (wp_test (wp_op2 (wp_var h1 (wp_c (wp_ltI ⟨_, rfl, ?_⟩)))))
  refine ite2 (fun h => ?_) (fun h => ?_)
  · have h : k < 28 := of_decide_eq_true h
    obtain ⟨w, rfl⟩ : ∃ w : Nat, k = w := ⟨k.toNat, by omega⟩
    exact wp_var h1 (q w _ (by omega) (P.mono (by omega)))
  · refine wp_fnA (wp_cons (wp_var h2 (wp_cons (wp_c (wp_nil ?_)))))
    refine take_ok P hn (by decide) (by decide) fun r ms4 r0 r1 P4 => ?_
    obtain ⟨w, rfl⟩ : ∃ w : Nat, r = w := ⟨r.toNat, by omega⟩
    exact q w _ (by omega) P4
theorem not_same (n : Int) : (!(n == n)) = false := by rw [beq_self_eq_true]; rfl
theorem alone27 {n : Option Int} {ms : MS} : m__law_alone [.xo "NoWay" n, .int 27] ms = .ok (.bl true) ms := by kernel_rfl
theorem wp_mkN {c : Str} {n : Int} {ms : MS} {Q : D → MS → Prop} (q : Q (.xo c (some n)) ms) : Wp (gMkN c (.int n) ms) Q := q
theorem wp_num {c : Str} {n : Int} {ms : MS} {Q : D → MS → Prop} (q : Q (.int n) ms) : Wp (gNum (.xo c (some n)) ms) Q := q
theorem wp_taken {n : Int} {ms : MS} {Q : D → MS → Prop} (q : Q (.int n) ms) : Wp (m__law_taken [.int n] ms) Q := q
theorem law_ok (ns : List Int) (hl : ns.length ≤ 63) (ms : MS) : ∃ ms', m_law [.lst (ns.map D.int)] ms = .ok (.bl true) ms' := by
  have main : Wp (m_law [.lst (ns.map D.int)] ms) fun d _ => d = .bl true := by
    unfold m_law
    with_reducible refine wp_mir ?_
    walk_at "w"
    have hmax : -(2 ^ 62) ≤ 28 + ((cut (ns.map D.int) none (some 30)).length : Int) ∧ 28 + ((cut (ns.map D.int) none (some 30)).length : Int) < 2 ^ 62 ∧ 28 + ((cut (ns.map D.int) none (some 30)).length : Int) ≤ 58 := by
      rw [show (30 : Int) = ((30 : Nat) : Int) from rfl, cut_take, List.length_take]
      omega
    with_reducible refine wp_range1 hmax.1 hmax.2.1 ?_
    with_reducible refine ws_forL (fun rest ss _ => (∀ d ∈ rest, ∃ k : Int, d = .int k ∧ 0 ≤ k ∧ k ≤ 58) ∧ ∃ x1 x2 x3 x4 x5 x6 x7 x8 : Option SV, ss = [some (.dat (.lst (ns.map D.int))), x1, x2, x3, x4, x5, x6, x7, x8]) ?_ ?_ _ _ _ ?_
    · rintro d rest ss ms2 ⟨hr, x1, x2, x3, x4, x5, x6, x7, x8, rfl⟩
      obtain ⟨k, rfl, k0, k1⟩ := hr d (by simp)
      have hr' := fun d hd => hr d (List.mem_cons_of_mem _ hd)
      refine ⟨_, rfl, ?_⟩
      with_reducible refine ws_withPot ?_
      walk_at "v"
      have eL : (List.replicate (28 : Int).toNat [D.int 0]).flatten = (List.replicate 28 (0 : Int)).map D.int := rfl
      refine wp_mulL ⟨by decide, by decide, (show 1 * 28 ≤ 100000 by decide)⟩ ?_
      rw [eL]
      walk_at "w"
      refine wp_addL (by rw [List.length_map, List.length_map, List.length_replicate]; omega) ?_
      rw [← List.map_append]
      walk_at "w"
      refine (pot_ok k0 (by omega)).mono ?_
      rintro d ms3 ⟨x, y, z, rfl, P⟩
      refine ⟨x, y, z, rfl, ?_⟩
      have done : ∀ (a2 a3 a4 a5 a6 a7 a8 : Option SV), (∀ d ∈ rest, ∃ k : Int, d = .int k ∧ 0 ≤ k ∧ k ≤ 58) ∧ ∃ x1 x2 x3 x4 x5 x6 x7 x8 : Option SV, keepS [0, 1] [some (.dat (.lst (ns.map D.int))), some (.dat (.int k)), a2, a3, a4, a5, a6, a7, a8] = [some (.dat (.lst (ns.map D.int))), x1, x2, x3, x4, x5, x6, x7, x8] := fun a2 a3 a4 a5 a6 a7 a8 => by
        refine ⟨hr', kd (some (.dat (.int k))), none, none, none, none, none, none, none, ?_⟩
        rw [keep9, kd_ints]
      with_reducible refine ws_seq ?_
      with_reducible refine ws_set ?_
      with_reducible refine which_ok k0 P (by decide) (by with_unfolding_all rfl) (by with_unfolding_all rfl) fun w ms4 hw P4 => ?_
      walk_at "w"
      refine take_ok P4 (by decide) (by decide) (by decide) fun r ms5 r0 r1 P5 => ?_
      refine wp_ixLd r0 r1 fun d hd => ?_
      have : ∃ u : Str, d = .str u := by
        simp only [List.mem_cons, List.not_mem_nil, or_false] at hd
        rcases hd with h | h | h | h <;> subst h <;> exact ⟨_, rfl⟩
      obtain ⟨u, rfl⟩ := this
      walk_at "w"
      refine number_ok P5 (by decide) fun num ms6 P6 => ?_
      with_reducible refine ws_seq ?_
      with_reducible refine ws_set ?_
      with_reducible refine one_ok hw (by with_unfolding_all rfl) (by with_unfolding_all rfl) (by with_unfolding_all rfl) fun on => ?_
      walk_at "w"
      with_reducible refine wp_eq (alone_eq w hw) ?_
      walk_at "w"
      with_reducible refine wp_mkN ?_
      walk_at "w"
      with_reducible refine number_ok P6 (by decide) fun num2 ms7 P7 => ?_
      walk_at "w"
      with_reducible refine wp_mkN ?_
      walk_at "w"
      with_reducible refine wp_num ?_
      walk_at "w"
      with_reducible refine wp_num ?_
      walk_at "w"
      with_reducible refine iteK0 (not_same num) ?_
      walk_at "w"
      with_reducible refine wp_taken ?_
      walk_at "w"
      with_reducible refine iteK0 (not_same num) ?_
      walk_at "w"
      with_reducible refine wp_num ?_
      walk_at "w"
      with_reducible refine wp_eq alone27 ?_
      walk_at "w"
      exact done _ _ _ _ _ _ _
    · rintro ss ms2 ⟨_, x1, x2, x3, x4, x5, x6, x7, x8, rfl⟩
      walk_at "w"
      rfl
    · refine ⟨fun d hd => ?_, none, none, none, none, none, none, none, none, rfl⟩
      obtain ⟨k, hk, rfl⟩ := rangeD_mem hd
      exact ⟨_, rfl, by omega, by omega⟩
  obtain ⟨x, ms', e, rfl⟩ := main.ex
  exact ⟨ms', e⟩
end K99

set_option Elab.async false
set_option linter.all false
set_option maxRecDepth 100000
set_option maxHeartbeats 4000000
namespace K99
open PySem L2 PyProof.Rows Q
section
variable {P : Program} {w : World} {K : PySem.W.Frag} {mg : Str → Option Value} {base : Heap}
theorem init_ok {C S fI : Addr} {fd : FuncData} (xc : XcAt K "NoWay" C S) (o : OexC K C) (fu : Fun K "__init__" "NoWay.__init__" s_init fI fd) (hS : mg "ShownError" = some (.ref S)) (hR : PySem.W.readsIn K S (.type "type") = true)
    (hG : PySem.W.specialIn K (.ref S) "__getattribute__" = some (some (.builtin "type.__getattribute__"))) (hF : PySem.W.findCls K (.ref S) (.type "type") "__init__" = some (.val (.builtin "ValueError.__init__"))) :
    FnOk P w K mg base CX0 1 fI fd ["self", "number"] (spI C "number") := by
  refine fu.ok (k := 0) (N := ["self", "number"]) ⟨rfl, rfl, rfl, by decide +kernel, rfl, by decide +kernel, by decide +kernel⟩ (fun vs H Q E ⟨a, n, e, _⟩ => by rw [e]; rfl) (fun cdv A outer s H vs Q E hr h => ?_)
  obtain ⟨a, n, e, h1, h2⟩ := h
  subst e
  refine ⟨_, pss_cons (ps_expr (pe_ownInit (x := "ShownError") rfl hS hR hG hF (pa_cons (pv 0) (pa_cons pe_str pa_nil)))) (pss_one (ps_ost (pv 0) (pv 1))), ?_⟩
  exact ⟨.ref a, rfl, a, C, [_], rfl, by decide, o, h1, n, rfl, .ref a, rfl, a, C, rfl, o, xc.no, .inl ⟨h1, fun d hd hne => h2 d hd hne⟩⟩
theorem ext_more {p : Option Addr} {F H H' : Hp} {ms : MS} (h : Hs p F H ms) (k : ∀ b o, H b = some o → H' b = some o) : Ext p H F H' F ms :=
  ⟨Same.refl F, fun _ _ _ q => q, fun b o z _ => k b o z, ⟨fun b u z => k b u (h.fh b u z), fun a z => k a _ (h.pot a z), h.pf⟩⟩
theorem fn__law_taken (T : Tp w K mg) : Fn P w K mg base "_law_taken" 5 ["_law_number_here"] m__law_taken := by
  obtain ⟨C, S, fI, fdI, xc, xg, o, iC, tI, fu, b, hS, hR, hG, hF, hX⟩ := T.nw_NoWay.ex
  have G := init_ok (P := P) (w := w) (base := base) xc o fu hS hR hG hF
  obtain ⟨f, fd, h1, h2, h3⟩ := T.df__law_taken.ex
  refine ⟨f, fd, ?_, h2, h1.kp, h3⟩
  refine h1.okX (k := 4) sc__law_taken (fun vs H Q E ⟨_, _, _, _, hl, _⟩ => hl) (fun cdv A outer s H vs Q E hr h => ?_)
  obtain ⟨p, F, ds, ms, hl, hs, q, po⟩ := h
  have : ∃ n, vs = [.int n] ∧ ds = [.int n] := by
    cases q with
    | nil => exact po.elim
    | cons q1 q2 =>
      cases q2 with
      | cons _ _ => cases q1 <;> exact po.elim
      | nil =>
        cases q1 with
        | int n => exact ⟨n, rfl, rfl⟩
        | _ => exact po.elim
  obtain ⟨n, rfl, rfl⟩ := this
  have po : ∀ v H' F', Ext p H F H' F' ms → Dt K p F' v (.int n) → Q v H' := po
  refine ⟨_, pss_one (ps_try_as (i := 1) rfl rfl sc__law_taken.nd rfl rfl ⟨rfl, by decide, .inl hS⟩ (takes_of rfl rfl rfl rfl)
    (fun W pn xe tk pw => pss_one (ps_raise rfl tk (pmk_oex o iC tI G (hr.mono (by omega)) b .nil pass0 rfl xg (pa_cons (pv 0) pa_nil))))
    (fun a oe cls d pn hz hf => pss_one (ps_ret (pe_xf ⟨xc.ec.hg, xc.ec.hk, xc.ec.hs, xc.ec.hd⟩ xc.no hz hf (pv 1))))), ?_⟩
  refine ⟨.int n, rfl, (show 1 ≤ 1000 by decide), fun a ha => ⟨a, .int n, rfl, upd_same, fun d hd hne => ⟨rfl, d, _, upd_same, by rw [upd_ne hne, upd_same], ?_, ?_⟩⟩⟩
  · rw [upd_ne hne] at hd
    exact hd
  · refine ⟨true, hX, fun _ a2 ha2 => ⟨.ref a2, rfl, rfl, rfl, d, _, .int n, rfl, upd_same, rfl, ?_⟩, fun z => by cases z⟩
    rw [upd_ne hne] at hd
    refine po _ _ F (ext_more hs fun b1 o1 e1 => ?_) (.int n)
    have n1 : b1 ≠ d := ne_of_none e1 hd
    have n2 : b1 ≠ a := ne_of_none e1 ha
    rw [upd_ne n1, del_ne n2, upd_ne n2, upd_ne n1, upd_ne n2]
    exact e1
end
end K99

set_option Elab.async false
set_option linter.all false
set_option maxRecDepth 100000
set_option maxHeartbeats 4000000
namespace K99
open PySem L2 PyProof.Rows Q
section
variable {P : Program} {w : World} {K : PySem.W.Frag} {mg : Str → Option Value} {base : Heap}
theorem fn__law_pot (T : Tp w K mg) : FnN P w K mg base "_law_pot" 1 ["_law_script", "_law_k"] m__law_pot := by
  exact FnN.of (k := 0) T.df__law_pot sc__law_pot fun f cdv A outer s H E hr W tk => (jsn_cons (js_set (i := 2) je_int sc__law_pot.nd) (jsn_cons (js_if (jt_cmp ok_lt (JE.jb (je_var (pv 1))) (JE.jb (je_b1 ok_len T.n_len (JE.jb (je_var (pv 0)))))) (jss_one (js_set (i := 2) (je_bin ok_mod (JE.jb (je_b1 ok_abs T.n_abs (JE.jb (je_ix (JE.jb (je_var (pv 0))) (JE.jb (je_var (pv 1))))))) (JE.jb (je_bin ok_pow (JE.jb (je_bin ok_pow (JE.jb je_int) (JE.jb je_int))) (JE.jb je_int)))) sc__law_pot.nd)) jss_nil) (jsn_cons (js_set (i := 3) (je_bin ok_mod (JE.jb (je_bin ok_pow (JE.jb (je_bin ok_add (JE.jb (je_bin ok_add (JE.jb (je_bin ok_mod (JE.jb (je_var (pv 2))) (JE.jb je_int))) (JE.jb (je_bin ok_mul (JE.jb je_int) (JE.jb (je_var (pv 1))))))) (JE.jb je_int))) (JE.jb je_int))) (JE.jb je_int)) sc__law_pot.nd) (jsn_ret (jn_lst (ja_cons (je_bin ok_mul (JE.jb (je_var (pv 2))) (JE.jb (je_t1 ok_int T.n_int (JE.jb (je_cmp ok_ge (JE.jb (je_var (pv 2))) (JE.jb (je_bin ok_pow (JE.jb je_int) (JE.jb je_int)))))))) (ja_cons (je_var (pv 3)) (ja_cons je_int ja_nil))))) nort_set) (nort_ife nort_set nort_nil)) nort_set)
theorem fn__law_take (T : Tp w K mg) : Fn P w K mg base "_law_take" 1 ["_law_pot_here", "_law_many"] m__law_take := by
  exact Fn.of (k := 0) T.df__law_take sc__law_take fun f cdv A outer s H E hr W tk => (jss_cons (js_if (jt_cmp ok_gt (JE.jb (je_ix (JE.jb (je_var (pv 0))) (JE.jb je_int))) (JE.jb je_int)) (jss_cons (js_set (i := 2) (je_bin ok_mod (JE.jb (je_ix (JE.jb (je_var (pv 0))) (JE.jb je_int))) (JE.jb (je_var (pv 1)))) sc__law_take.nd) (jss_cons (js_setIx (i := 0) (pv 0) je_int (je_bin ok_div (JE.jb (je_ix (JE.jb (je_var (pv 0))) (JE.jb je_int))) (JE.jb (je_var (pv 1))))) (jss_one (js_ret (je_var (pv 2)))))) jss_nil) (jss_cons (js_setIx (i := 0) (pv 0) je_int (je_bin ok_add (JE.jb (je_ix (JE.jb (je_var (pv 0))) (JE.jb je_int))) (JE.jb je_int))) (jss_cons (js_set (i := 3) (je_bin ok_mod (JE.jb (je_bin ok_pow (JE.jb (je_bin ok_add (JE.jb (je_ix (JE.jb (je_var (pv 0))) (JE.jb je_int))) (JE.jb (je_bin ok_mul (JE.jb je_int) (JE.jb (je_ix (JE.jb (je_var (pv 0))) (JE.jb je_int))))))) (JE.jb je_int))) (JE.jb je_int)) sc__law_take.nd) (jss_cons (js_set (i := 4) (je_bin ok_mod (JE.jb (je_bin ok_pow (JE.jb (je_bin ok_add (JE.jb (je_bin ok_add (JE.jb (je_var (pv 3))) (JE.jb (je_bin ok_mod (JE.jb (je_ix (JE.jb (je_var (pv 0))) (JE.jb je_int))) (JE.jb je_int))))) (JE.jb (je_bin ok_mul (JE.jb je_int) (JE.jb (je_ix (JE.jb (je_var (pv 0))) (JE.jb je_int))))))) (JE.jb je_int))) (JE.jb je_int)) sc__law_take.nd) (jss_one (js_ret (je_bin ok_mod (JE.jb (je_bin ok_div (JE.jb (je_var (pv 4))) (JE.jb je_int))) (JE.jb (je_var (pv 1))))))))))
theorem fn__law_number (T : Tp w K mg) (G__law_take : Fn P w K mg base "_law_take" 1 ["_law_pot_here", "_law_many"] m__law_take) : Fn P w K mg base "_law_number" 2 ["_law_pot_here"] m__law_number := by
  exact Fn.of (k := 1) T.df__law_number sc__law_number fun f cdv A outer s H E hr W tk => (jss_cons (js_set (i := 1) (je_callF G__law_take tk (hr.mono (by omega)) (ja_cons (je_var (pv 0)) (ja_cons (je_bin ok_pow (JE.jb je_int) (JE.jb je_int)) ja_nil)) (lenC (lenC lenN))) sc__law_number.nd) (jss_one (js_ret (je_ix (JE.jb (JN.je (jn_lst (ja_cons je_int (ja_cons je_int (ja_cons (je_var (pv 1)) (ja_cons (je_neg (JE.jb (je_var (pv 1)))) ja_nil))))))) (JE.jb (je_callF G__law_take tk (hr.mono (by omega)) (ja_cons (je_var (pv 0)) (ja_cons je_int ja_nil)) (lenC (lenC lenN))))))))
theorem fn__law_made (T : Tp w K mg) : Fn P w K mg base "_law_made" 1 ["_law_which", "_law_word"] m__law_made := by
  obtain ⟨C_NoFunction, S_NoFunction, xc_NoFunction, xg_NoFunction, xq_NoFunction, xk_NoFunction⟩ := T.xp_NoFunction.ex
  obtain ⟨C_NoDeed, S_NoDeed, xc_NoDeed, xg_NoDeed, xq_NoDeed, xk_NoDeed⟩ := T.xp_NoDeed.ex
  obtain ⟨C_NoCode, S_NoCode, xc_NoCode, xg_NoCode, xq_NoCode, xk_NoCode⟩ := T.xp_NoCode.ex
  obtain ⟨C_NoBegins, S_NoBegins, xc_NoBegins, xg_NoBegins, xq_NoBegins, xk_NoBegins⟩ := T.xp_NoBegins.ex
  obtain ⟨C_Falls, S_Falls, xc_Falls, xg_Falls, xq_Falls, xk_Falls⟩ := T.xp_Falls.ex
  obtain ⟨C_Astray, S_Astray, xc_Astray, xg_Astray, xq_Astray, xk_Astray⟩ := T.xp_Astray.ex
  obtain ⟨C_NoHand, S_NoHand, xc_NoHand, xg_NoHand, xq_NoHand, xk_NoHand⟩ := T.xp_NoHand.ex
  obtain ⟨C_NoState, S_NoState, xc_NoState, xg_NoState, xq_NoState, xk_NoState⟩ := T.xp_NoState.ex
  obtain ⟨C_NoStanding, S_NoStanding, xc_NoStanding, xg_NoStanding, xq_NoStanding, xk_NoStanding⟩ := T.xp_NoStanding.ex
  obtain ⟨C_NoPicture, S_NoPicture, xc_NoPicture, xg_NoPicture, xq_NoPicture, xk_NoPicture⟩ := T.xp_NoPicture.ex
  obtain ⟨C_NoNumber, S_NoNumber, xc_NoNumber, xg_NoNumber, xq_NoNumber, xk_NoNumber⟩ := T.xp_NoNumber.ex
  obtain ⟨C_NoName, S_NoName, xc_NoName, xg_NoName, xq_NoName, xk_NoName⟩ := T.xp_NoName.ex
  obtain ⟨C_NoLife, S_NoLife, xc_NoLife, xg_NoLife, xq_NoLife, xk_NoLife⟩ := T.xp_NoLife.ex
  obtain ⟨C_NoStop, S_NoStop, xc_NoStop, xg_NoStop, xq_NoStop, xk_NoStop⟩ := T.xp_NoStop.ex
  obtain ⟨C_NoTurns, S_NoTurns, xc_NoTurns, xg_NoTurns, xq_NoTurns, xk_NoTurns⟩ := T.xp_NoTurns.ex
  obtain ⟨C_NoTurning, S_NoTurning, xc_NoTurning, xg_NoTurning, xq_NoTurning, xk_NoTurning⟩ := T.xp_NoTurning.ex
  obtain ⟨C_NoThing, S_NoThing, xc_NoThing, xg_NoThing, xq_NoThing, xk_NoThing⟩ := T.xp_NoThing.ex
  obtain ⟨C_NoText, S_NoText, xc_NoText, xg_NoText, xq_NoText, xk_NoText⟩ := T.xp_NoText.ex
  obtain ⟨C_NoTerm, S_NoTerm, xc_NoTerm, xg_NoTerm, xq_NoTerm, xk_NoTerm⟩ := T.xp_NoTerm.ex
  obtain ⟨C_NoTask, S_NoTask, xc_NoTask, xg_NoTask, xq_NoTask, xk_NoTask⟩ := T.xp_NoTask.ex
  obtain ⟨C_NoWeather, S_NoWeather, xc_NoWeather, xg_NoWeather, xq_NoWeather, xk_NoWeather⟩ := T.xp_NoWeather.ex
  obtain ⟨C_Unlike, S_Unlike, xc_Unlike, xg_Unlike, xq_Unlike, xk_Unlike⟩ := T.xp_Unlike.ex
  obtain ⟨C_TooWide, S_TooWide, xc_TooWide, xg_TooWide, xq_TooWide, xk_TooWide⟩ := T.xp_TooWide.ex
  obtain ⟨C_TooLong, S_TooLong, xc_TooLong, xg_TooLong, xq_TooLong, xk_TooLong⟩ := T.xp_TooLong.ex
  obtain ⟨C_TooLarge, S_TooLarge, xc_TooLarge, xg_TooLarge, xq_TooLarge, xk_TooLarge⟩ := T.xp_TooLarge.ex
  obtain ⟨C_NoWorlds, S_NoWorlds, xc_NoWorlds, xg_NoWorlds, xq_NoWorlds, xk_NoWorlds⟩ := T.xp_NoWorlds.ex
  obtain ⟨C_NoWords, S_NoWords, xc_NoWords, xg_NoWords, xq_NoWords, xk_NoWords⟩ := T.xp_NoWords.ex
  exact Fn.of (k := 0) T.df__law_made sc__law_made fun f cdv A outer s H E hr W tk => (jss_cons (js_if (jt_cmp ok_lt (JE.jb (je_var (pv 0))) (JE.jb je_int)) (jss_cons (js_set (i := 2) (JN.je (jn_lst (ja_cons (je_mkX xc_Astray xq_Astray xg_Astray xk_Astray (je_var (pv 1))) (ja_cons (je_mkX xc_Falls xq_Falls xg_Falls xk_Falls (je_var (pv 1))) (ja_cons (je_mkX xc_NoBegins xq_NoBegins xg_NoBegins xk_NoBegins (je_var (pv 1))) (ja_cons (je_mkX xc_NoCode xq_NoCode xg_NoCode xk_NoCode (je_var (pv 1))) (ja_cons (je_mkX xc_NoDeed xq_NoDeed xg_NoDeed xk_NoDeed (je_var (pv 1))) (ja_cons (je_mkX xc_NoFunction xq_NoFunction xg_NoFunction xk_NoFunction (je_var (pv 1))) ja_nil)))))))) sc__law_made.nd) (jss_one (js_ret (je_ix (JE.jb (je_bin ok_add (JE.jb (je_var (pv 2))) (JE.jb (JN.je (jn_lst (ja_cons (je_mkX xc_NoHand xq_NoHand xg_NoHand xk_NoHand (je_var (pv 1))) ja_nil)))))) (JE.jb (je_var (pv 0))))))) jss_nil) (jss_cons (js_if (jt_cmp ok_lt (JE.jb (je_var (pv 0))) (JE.jb je_int)) (jss_cons (js_set (i := 2) (JN.je (jn_lst (ja_cons (je_mkX xc_NoLife xq_NoLife xg_NoLife xk_NoLife (je_var (pv 1))) (ja_cons (je_mkX xc_NoName xq_NoName xg_NoName xk_NoName (je_var (pv 1))) (ja_cons (je_mkX xc_NoNumber xq_NoNumber xg_NoNumber xk_NoNumber (je_var (pv 1))) (ja_cons (je_mkX xc_NoPicture xq_NoPicture xg_NoPicture xk_NoPicture (je_var (pv 1))) (ja_cons (je_mkX xc_NoStanding xq_NoStanding xg_NoStanding xk_NoStanding (je_var (pv 1))) (ja_cons (je_mkX xc_NoState xq_NoState xg_NoState xk_NoState (je_var (pv 1))) ja_nil)))))))) sc__law_made.nd) (jss_one (js_ret (je_ix (JE.jb (je_bin ok_add (JE.jb (je_var (pv 2))) (JE.jb (JN.je (jn_lst (ja_cons (je_mkX xc_NoStop xq_NoStop xg_NoStop xk_NoStop (je_var (pv 1))) ja_nil)))))) (JE.jb (je_bin ok_sub (JE.jb (je_var (pv 0))) (JE.jb je_int))))))) jss_nil) (jss_cons (js_if (jt_cmp ok_lt (JE.jb (je_var (pv 0))) (JE.jb je_int)) (jss_cons (js_set (i := 2) (JN.je (jn_lst (ja_cons (je_mkX xc_NoTask xq_NoTask xg_NoTask xk_NoTask (je_var (pv 1))) (ja_cons (je_mkX xc_NoTerm xq_NoTerm xg_NoTerm xk_NoTerm (je_var (pv 1))) (ja_cons (je_mkX xc_NoText xq_NoText xg_NoText xk_NoText (je_var (pv 1))) (ja_cons (je_mkX xc_NoThing xq_NoThing xg_NoThing xk_NoThing (je_var (pv 1))) (ja_cons (je_mkX xc_NoTurning xq_NoTurning xg_NoTurning xk_NoTurning (je_var (pv 1))) (ja_cons (je_mkX xc_NoTurns xq_NoTurns xg_NoTurns xk_NoTurns (je_var (pv 1))) ja_nil)))))))) sc__law_made.nd) (jss_one (js_ret (je_ix (JE.jb (je_bin ok_add (JE.jb (je_var (pv 2))) (JE.jb (JN.je (jn_lst (ja_cons (je_mkX xc_NoWeather xq_NoWeather xg_NoWeather xk_NoWeather (je_var (pv 1))) ja_nil)))))) (JE.jb (je_bin ok_sub (JE.jb (je_var (pv 0))) (JE.jb je_int))))))) jss_nil) (jss_cons (js_set (i := 2) (JN.je (jn_lst (ja_cons (je_mkX xc_NoWords xq_NoWords xg_NoWords xk_NoWords (je_var (pv 1))) (ja_cons (je_mkX xc_NoWorlds xq_NoWorlds xg_NoWorlds xk_NoWorlds (je_var (pv 1))) (ja_cons (je_mkX xc_TooLarge xq_TooLarge xg_TooLarge xk_TooLarge (je_var (pv 1))) (ja_cons (je_mkX xc_TooLong xq_TooLong xg_TooLong xk_TooLong (je_var (pv 1))) (ja_cons (je_mkX xc_TooWide xq_TooWide xg_TooWide xk_TooWide (je_var (pv 1))) (ja_cons (je_mkX xc_Unlike xq_Unlike xg_Unlike xk_Unlike (je_var (pv 1))) ja_nil)))))))) sc__law_made.nd) (jss_one (js_ret (je_ix (JE.jb (je_var (pv 2))) (JE.jb (je_bin ok_sub (JE.jb (je_var (pv 0))) (JE.jb je_int))))))))))
theorem fn__law_kinds (T : Tp w K mg) : Fn P w K mg base "_law_kinds" 1 ["_law_one"] m__law_kinds := by
  obtain ⟨C_NoCode, S_NoCode, xc_NoCode, xg_NoCode, xq_NoCode, xk_NoCode⟩ := T.xp_NoCode.ex
  obtain ⟨C_NoBegins, S_NoBegins, xc_NoBegins, xg_NoBegins, xq_NoBegins, xk_NoBegins⟩ := T.xp_NoBegins.ex
  obtain ⟨C_Falls, S_Falls, xc_Falls, xg_Falls, xq_Falls, xk_Falls⟩ := T.xp_Falls.ex
  obtain ⟨C_Astray, S_Astray, xc_Astray, xg_Astray, xq_Astray, xk_Astray⟩ := T.xp_Astray.ex
  obtain ⟨C_NoHand, S_NoHand, xc_NoHand, xg_NoHand, xq_NoHand, xk_NoHand⟩ := T.xp_NoHand.ex
  obtain ⟨C_NoFunction, S_NoFunction, xc_NoFunction, xg_NoFunction, xq_NoFunction, xk_NoFunction⟩ := T.xp_NoFunction.ex
  obtain ⟨C_NoDeed, S_NoDeed, xc_NoDeed, xg_NoDeed, xq_NoDeed, xk_NoDeed⟩ := T.xp_NoDeed.ex
  obtain ⟨C_NoNumber, S_NoNumber, xc_NoNumber, xg_NoNumber, xq_NoNumber, xk_NoNumber⟩ := T.xp_NoNumber.ex
  obtain ⟨C_NoName, S_NoName, xc_NoName, xg_NoName, xq_NoName, xk_NoName⟩ := T.xp_NoName.ex
  obtain ⟨C_NoLife, S_NoLife, xc_NoLife, xg_NoLife, xq_NoLife, xk_NoLife⟩ := T.xp_NoLife.ex
  obtain ⟨C_NoState, S_NoState, xc_NoState, xg_NoState, xq_NoState, xk_NoState⟩ := T.xp_NoState.ex
  obtain ⟨C_NoStanding, S_NoStanding, xc_NoStanding, xg_NoStanding, xq_NoStanding, xk_NoStanding⟩ := T.xp_NoStanding.ex
  obtain ⟨C_NoPicture, S_NoPicture, xc_NoPicture, xg_NoPicture, xq_NoPicture, xk_NoPicture⟩ := T.xp_NoPicture.ex
  obtain ⟨C_NoTerm, S_NoTerm, xc_NoTerm, xg_NoTerm, xq_NoTerm, xk_NoTerm⟩ := T.xp_NoTerm.ex
  obtain ⟨C_NoTask, S_NoTask, xc_NoTask, xg_NoTask, xq_NoTask, xk_NoTask⟩ := T.xp_NoTask.ex
  obtain ⟨C_NoStop, S_NoStop, xc_NoStop, xg_NoStop, xq_NoStop, xk_NoStop⟩ := T.xp_NoStop.ex
  obtain ⟨C_NoText, S_NoText, xc_NoText, xg_NoText, xq_NoText, xk_NoText⟩ := T.xp_NoText.ex
  obtain ⟨C_NoTurns, S_NoTurns, xc_NoTurns, xg_NoTurns, xq_NoTurns, xk_NoTurns⟩ := T.xp_NoTurns.ex
  obtain ⟨C_NoTurning, S_NoTurning, xc_NoTurning, xg_NoTurning, xq_NoTurning, xk_NoTurning⟩ := T.xp_NoTurning.ex
  obtain ⟨C_NoThing, S_NoThing, xc_NoThing, xg_NoThing, xq_NoThing, xk_NoThing⟩ := T.xp_NoThing.ex
  obtain ⟨C_NoWorlds, S_NoWorlds, xc_NoWorlds, xg_NoWorlds, xq_NoWorlds, xk_NoWorlds⟩ := T.xp_NoWorlds.ex
  obtain ⟨C_NoWords, S_NoWords, xc_NoWords, xg_NoWords, xq_NoWords, xk_NoWords⟩ := T.xp_NoWords.ex
  obtain ⟨C_NoWeather, S_NoWeather, xc_NoWeather, xg_NoWeather, xq_NoWeather, xk_NoWeather⟩ := T.xp_NoWeather.ex
  obtain ⟨C_TooWide, S_TooWide, xc_TooWide, xg_TooWide, xq_TooWide, xk_TooWide⟩ := T.xp_TooWide.ex
  obtain ⟨C_TooLong, S_TooLong, xc_TooLong, xg_TooLong, xq_TooLong, xk_TooLong⟩ := T.xp_TooLong.ex
  obtain ⟨C_TooLarge, S_TooLarge, xc_TooLarge, xg_TooLarge, xq_TooLarge, xk_TooLarge⟩ := T.xp_TooLarge.ex
  obtain ⟨C_NoWay, S_NoWay, fI_NoWay, fd_NoWay, xc_NoWay, xg_NoWay, o_NoWay, i_NoWay, t_NoWay, fu_NoWay, b_NoWay, hS_NoWay, hR_NoWay, hG_NoWay, hF_NoWay, hX_NoWay⟩ := T.nw_NoWay.ex
  have G_init := init_ok (P := P) (w := w) (base := base) xc_NoWay o_NoWay fu_NoWay hS_NoWay hR_NoWay hG_NoWay hF_NoWay
  obtain ⟨C_Unlike, S_Unlike, xc_Unlike, xg_Unlike, xq_Unlike, xk_Unlike⟩ := T.xp_Unlike.ex
  exact Fn.of (k := 0) T.df__law_kinds sc__law_kinds fun f cdv A outer s H E hr W tk => (jss_cons (js_own (i := 1) (jn_lst (ja_cons (je_isX T.n_isinstance xg_Astray xc_Astray (je_var (pv 0))) (ja_cons (je_isX T.n_isinstance xg_Falls xc_Falls (je_var (pv 0))) (ja_cons (je_isX T.n_isinstance xg_NoBegins xc_NoBegins (je_var (pv 0))) (ja_cons (je_isX T.n_isinstance xg_NoCode xc_NoCode (je_var (pv 0))) ja_nil))))) sc__law_kinds.nd) (jss_cons (js_own (i := 1) (jn_bin new_addL (jb_var (pv 1)) (JE.jb (JN.je (jn_lst (ja_cons (je_isX T.n_isinstance xg_NoDeed xc_NoDeed (je_var (pv 0))) (ja_cons (je_isX T.n_isinstance xg_NoFunction xc_NoFunction (je_var (pv 0))) (ja_cons (je_isX T.n_isinstance xg_NoHand xc_NoHand (je_var (pv 0))) ja_nil))))))) sc__law_kinds.nd) (jss_cons (js_own (i := 1) (jn_bin new_addL (jb_var (pv 1)) (JE.jb (JN.je (jn_lst (ja_cons (je_isX T.n_isinstance xg_NoLife xc_NoLife (je_var (pv 0))) (ja_cons (je_isX T.n_isinstance xg_NoName xc_NoName (je_var (pv 0))) (ja_cons (je_isX T.n_isinstance xg_NoNumber xc_NoNumber (je_var (pv 0))) ja_nil))))))) sc__law_kinds.nd) (jss_cons (js_own (i := 1) (jn_bin new_addL (jb_var (pv 1)) (JE.jb (JN.je (jn_lst (ja_cons (je_isX T.n_isinstance xg_NoPicture xc_NoPicture (je_var (pv 0))) (ja_cons (je_isX T.n_isinstance xg_NoStanding xc_NoStanding (je_var (pv 0))) (ja_cons (je_isX T.n_isinstance xg_NoState xc_NoState (je_var (pv 0))) ja_nil))))))) sc__law_kinds.nd) (jss_cons (js_own (i := 1) (jn_bin new_addL (jb_var (pv 1)) (JE.jb (JN.je (jn_lst (ja_cons (je_isX T.n_isinstance xg_NoStop xc_NoStop (je_var (pv 0))) (ja_cons (je_isX T.n_isinstance xg_NoTask xc_NoTask (je_var (pv 0))) (ja_cons (je_isX T.n_isinstance xg_NoTerm xc_NoTerm (je_var (pv 0))) ja_nil))))))) sc__law_kinds.nd) (jss_cons (js_append (i := 1) (pv 1) (je_isX T.n_isinstance xg_NoText xc_NoText (je_var (pv 0)))) (jss_cons (js_own (i := 1) (jn_bin new_addL (jb_var (pv 1)) (JE.jb (JN.je (jn_lst (ja_cons (je_isX T.n_isinstance xg_NoThing xc_NoThing (je_var (pv 0))) (ja_cons (je_isX T.n_isinstance xg_NoTurning xc_NoTurning (je_var (pv 0))) (ja_cons (je_isX T.n_isinstance xg_NoTurns xc_NoTurns (je_var (pv 0))) ja_nil))))))) sc__law_kinds.nd) (jss_cons (js_own (i := 1) (jn_bin new_addL (jb_var (pv 1)) (JE.jb (JN.je (jn_lst (ja_cons (je_isX T.n_isinstance xg_NoWeather xc_NoWeather (je_var (pv 0))) (ja_cons (je_isX T.n_isinstance xg_NoWords xc_NoWords (je_var (pv 0))) (ja_cons (je_isX T.n_isinstance xg_NoWorlds xc_NoWorlds (je_var (pv 0))) ja_nil))))))) sc__law_kinds.nd) (jss_cons (js_own (i := 1) (jn_bin new_addL (jb_var (pv 1)) (JE.jb (JN.je (jn_lst (ja_cons (je_isX T.n_isinstance xg_TooLarge xc_TooLarge (je_var (pv 0))) (ja_cons (je_isX T.n_isinstance xg_TooLong xc_TooLong (je_var (pv 0))) (ja_cons (je_isX T.n_isinstance xg_TooWide xc_TooWide (je_var (pv 0))) ja_nil))))))) sc__law_kinds.nd) (jss_one (js_ret (je_bin ok_add (jb_var (pv 1)) (JE.jb (JN.je (jn_lst (ja_cons (je_isX T.n_isinstance xg_Unlike xc_Unlike (je_var (pv 0))) (ja_cons (je_isX T.n_isinstance xg_NoWay xc_NoWay (je_var (pv 0))) ja_nil)))))))))))))))))
theorem fn__law_alone (T : Tp w K mg) (G__law_kinds : Fn P w K mg base "_law_kinds" 1 ["_law_one"] m__law_kinds) : Fn P w K mg base "_law_alone" 2 ["_law_one", "_law_which"] m__law_alone := by
  obtain ⟨S_sh, sg_, sn_⟩ := T.sh_.ex
  exact Fn.of (k := 1) T.df__law_alone sc__law_alone fun f cdv A outer s H E hr W tk => (jss_cons (js_if (JW.jt (jw_or (jt_not (jt_val (je_isXS T.n_isinstance sg_ sn_ (je_var (pv 0))))) (jw_or1 (jt_not (jt_val (je_isXV T.n_isinstance T.n_ValueError (je_var (pv 0)))))))) (jss_one (js_ret je_bl)) jss_nil) (jss_one (js_ret (je_cmp (ok_eq hr.units) (JE.jb (je_callF G__law_kinds tk (hr.mono (by omega)) (ja_cons (je_var (pv 0)) ja_nil) (lenC lenN))) (JE.jb (JN.je (jn_lc (own := [("_law_at", 2)]) sc__law_alone.nd (ji_range1 (by rfl) T.n_range (ja_cons je_int ja_nil)) (blkOk_by (own := [("_law_at", 2)]) (N := N__law_alone) (sc := defScope s__law_alone) (by decide +kernel)) (fun _ _ _ _ _ => (jg_name (i := 2) sc__law_alone.nd)) (fun _ _ _ _ _ => jts_nil) (fun _ _ _ _ _ => (je_cmp (ok_eq hr.units) (JE.jb (je_var (pv 2))) (JE.jb (je_var (pv 1))))) (by decide))))))))
-- by hand: K99n
theorem fn_law (T : Tp w K mg) (G__law_pot : FnN P w K mg base "_law_pot" 1 ["_law_script", "_law_k"] m__law_pot) (G__law_take : Fn P w K mg base "_law_take" 1 ["_law_pot_here", "_law_many"] m__law_take) (G__law_number : Fn P w K mg base "_law_number" 2 ["_law_pot_here"] m__law_number) (G__law_made : Fn P w K mg base "_law_made" 1 ["_law_which", "_law_word"] m__law_made) (G__law_alone : Fn P w K mg base "_law_alone" 2 ["_law_one", "_law_which"] m__law_alone) (G__law_taken : Fn P w K mg base "_law_taken" 5 ["_law_number_here"] m__law_taken) {f : Addr} {fd : FuncData} (F : Fun K "law" "law" s_law f fd) : FnOk P w K mg base (L2.CX P w) 6 f fd ["_law_script"] (spL K 1 m_law) := by
  obtain ⟨C_NoWay, S_NoWay, fI_NoWay, fd_NoWay, xc_NoWay, xg_NoWay, o_NoWay, i_NoWay, t_NoWay, fu_NoWay, b_NoWay, hS_NoWay, hR_NoWay, hG_NoWay, hF_NoWay, hX_NoWay⟩ := T.nw_NoWay.ex
  have G_init := init_ok (P := P) (w := w) (base := base) xc_NoWay o_NoWay fu_NoWay hS_NoWay hR_NoWay hG_NoWay hF_NoWay
  exact law_of (k := 5) F sc_law fun f cdv A outer s H E hr W tk => (js0_cons (js0_for (passes_of rfl) (ji_range1 (by rfl) T.n_range (ja_cons (je_bin ok_add (JE.jb je_int) (JE.jb (je_b1 ok_len T.n_len (JE.jb (je_sl (JE.jb (je_var (pv 0))) jo_none (jo_some je_int)))))) ja_nil)) (jg_name (i := 1) sc_law.nd) (js_withPot (i := 2) (ks := [0, 1]) G__law_pot tk (hr.mono (by omega)) (ja_cons (je_bin ok_add (JE.jb (je_mulN (jn_lst (ja_cons je_int ja_nil)) (JE.jb je_int))) (JE.jb (je_var (pv 0)))) (ja_cons (je_var (pv 1)) ja_nil)) (lenC (lenC lenN)) (jss_cons (js_set (i := 3) (je_ife (jt_cmp ok_lt (JE.jb (je_var (pv 1))) (JE.jb je_int)) (je_var (pv 1)) (je_callF G__law_take tk (hr.mono (by omega)) (ja_cons (je_var (pv 2)) (ja_cons je_int ja_nil)) (lenC (lenC lenN)))) sc_law.nd) (jss_cons (js_set (i := 4) (je_ix (JE.jb (JN.je (jn_lst (ja_cons je_str (ja_cons je_str (ja_cons je_str (ja_cons je_str ja_nil))))))) (JE.jb (je_callF G__law_take tk (hr.mono (by omega)) (ja_cons (je_var (pv 2)) (ja_cons je_int ja_nil)) (lenC (lenC lenN))))) sc_law.nd) (jss_cons (js_set (i := 5) (je_callF G__law_number tk (hr.mono (by omega)) (ja_cons (je_var (pv 2)) ja_nil) (lenC lenN)) sc_law.nd) (jss_cons (js_set (i := 6) (je_ife (jt_cmp (ok_eq hr.units) (JE.jb (je_var (pv 3))) (JE.jb je_int)) (je_mkN xc_NoWay o_NoWay i_NoWay t_NoWay G_init (hr.mono (by omega)) b_NoWay pass0 xg_NoWay (je_var (pv 5))) (je_callF G__law_made tk (hr.mono (by omega)) (ja_cons (je_var (pv 3)) (ja_cons (je_var (pv 4)) ja_nil)) (lenC (lenC lenN)))) sc_law.nd) (jss_cons (js_if (jt_not (jt_val (je_callF G__law_alone tk (hr.mono (by omega)) (ja_cons (je_var (pv 6)) (ja_cons (je_var (pv 3)) ja_nil)) (lenC (lenC lenN))))) (jss_one (js_ret je_bl)) jss_nil) (jss_cons (js_set (i := 7) (je_mkN xc_NoWay o_NoWay i_NoWay t_NoWay G_init (hr.mono (by omega)) b_NoWay pass0 xg_NoWay (je_var (pv 5))) sc_law.nd) (jss_cons (js_set (i := 8) (je_mkN xc_NoWay o_NoWay i_NoWay t_NoWay G_init (hr.mono (by omega)) b_NoWay pass0 xg_NoWay (je_bin ok_add (JE.jb (je_callF G__law_number tk (hr.mono (by omega)) (ja_cons (je_var (pv 2)) ja_nil) (lenC lenN))) (JE.jb je_int))) sc_law.nd) (jss_cons (js_if (JW.jt (jw_or (jt_val (je_bn ok_isi T.n_isinstance (ja_cons (je_num (je_var (pv 7))) (ja_cons (je_ty .bool T.n_bool) ja_nil)))) (jw_or (jt_cmp (ok_ne hr.units) (JE.jb (je_num (je_var (pv 7)))) (JE.jb (je_var (pv 5)))) (jw_or1 (jt_cmp (ok_ne hr.units) (JE.jb (je_callF G__law_taken tk (hr.mono (by omega)) (ja_cons (je_var (pv 5)) ja_nil) (lenC lenN))) (JE.jb (je_var (pv 5)))))))) (jss_one (js_ret je_bl)) jss_nil) (jss_one (js_if (JW.jt (jw_or (jt_not (jt_val (je_bn ok_isi T.n_isinstance (ja_cons (je_num (je_var (pv 8))) (ja_cons (je_ty .int T.n_int) ja_nil))))) (jw_or1 (jt_not (jt_val (je_callF G__law_alone tk (hr.mono (by omega)) (ja_cons (je_var (pv 8)) (ja_cons je_int ja_nil)) (lenC (lenC lenN)))))))) (jss_one (js_ret je_bl)) jss_nil)))))))))) sc_law.nd)) (js0_one (JS.z (js_ret je_bl))))
end
end K99

set_option Elab.async false
set_option linter.all false
set_option maxRecDepth 100000
set_option maxHeartbeats 4000000
namespace K99
open PySem L2 PyProof.Rows Q
theorem tp_mk {w : World} {K : PySem.W.Frag} {h : Heap} {mg : Str → Option Value} {f1 : Addr} {od1 an1 : Option Addr} {sl1 : Array (Option Value)} {oc1 kV1 dc1 pm1 cd1 ct1 : Value} {f2 : Addr} {od2 an2 : Option Addr} {sl2 : Array (Option Value)} {oc2 kV2 dc2 pm2 cd2 ct2 : Value} {f3 : Addr} {od3 an3 : Option Addr} {sl3 : Array (Option Value)} {oc3 kV3 dc3 pm3 cd3 ct3 : Value} {f4 : Addr} {od4 an4 : Option Addr} {sl4 : Array (Option Value)} {oc4 kV4 dc4 pm4 cd4 ct4 : Value} {f5 : Addr} {od5 an5 : Option Addr} {sl5 : Array (Option Value)} {oc5 kV5 dc5 pm5 cd5 ct5 : Value} {f6 : Addr} {od6 an6 : Option Addr} {sl6 : Array (Option Value)} {oc6 kV6 dc6 pm6 cd6 ct6 : Value} {f7 : Addr} {od7 an7 : Option Addr} {sl7 : Array (Option Value)} {oc7 kV7 dc7 pm7 cd7 ct7 : Value} {f8 : Addr} {od8 an8 : Option Addr} {sl8 : Array (Option Value)} {oc8 kV8 dc8 pm8 cd8 ct8 : Value} {S_sh : Addr} {C_NoFunction : Addr} {C_NoDeed : Addr} {C_NoCode : Addr} {C_NoBegins : Addr} {C_Falls : Addr} {C_Astray : Addr} {C_NoHand : Addr} {C_NoState : Addr} {C_NoStanding : Addr} {C_NoPicture : Addr} {C_NoNumber : Addr} {C_NoName : Addr} {C_NoLife : Addr} {C_NoStop : Addr} {C_NoTurns : Addr} {C_NoTurning : Addr} {C_NoThing : Addr} {C_NoText : Addr} {C_NoTerm : Addr} {C_NoTask : Addr} {C_NoWeather : Addr} {C_Unlike : Addr} {C_TooWide : Addr} {C_TooLong : Addr} {C_TooLarge : Addr} {C_NoWorlds : Addr} {C_NoWords : Addr} {C_NoWay NI : Addr} {nmI qI : Str} {bsI bmI : List Value} {snI : List Str} {subI : List Value} {abI : Bool} {colI : Option Bool} {ddI : Option Addr} {k0I k1I k2I k3I k5I : Option Value} {fI : Addr} {odI anI : Option Addr} {slI : Array (Option Value)} {ocI kVI dcI pmI cdI ctI : Value} (X : K.In h) (G : h.Ns mainGlobals mg)
    (a1 : PySem.W.nsIn K mainGlobals "_law_pot" = some (some (.ref f1))) (l1 : K.lookup f1 = some ⟨oc1, od1, .func (PySem.W.fnOf "_law_pot" "_law_pot" (defArgs s__law_pot) (defBody s__law_pot) (defScope s__law_pot) .none kV1 dc1 pm1 an1 cd1 ct1), sl1⟩) (c1 : PySem.W.codeIn K cd1 "_law_pot" = true) (k1 : PySem.W.keepIn K (.ref f1) = true)
    (a2 : PySem.W.nsIn K mainGlobals "_law_take" = some (some (.ref f2))) (l2 : K.lookup f2 = some ⟨oc2, od2, .func (PySem.W.fnOf "_law_take" "_law_take" (defArgs s__law_take) (defBody s__law_take) (defScope s__law_take) .none kV2 dc2 pm2 an2 cd2 ct2), sl2⟩) (c2 : PySem.W.codeIn K cd2 "_law_take" = true) (k2 : PySem.W.keepIn K (.ref f2) = true)
    (a3 : PySem.W.nsIn K mainGlobals "_law_number" = some (some (.ref f3))) (l3 : K.lookup f3 = some ⟨oc3, od3, .func (PySem.W.fnOf "_law_number" "_law_number" (defArgs s__law_number) (defBody s__law_number) (defScope s__law_number) .none kV3 dc3 pm3 an3 cd3 ct3), sl3⟩) (c3 : PySem.W.codeIn K cd3 "_law_number" = true) (k3 : PySem.W.keepIn K (.ref f3) = true)
    (a4 : PySem.W.nsIn K mainGlobals "_law_made" = some (some (.ref f4))) (l4 : K.lookup f4 = some ⟨oc4, od4, .func (PySem.W.fnOf "_law_made" "_law_made" (defArgs s__law_made) (defBody s__law_made) (defScope s__law_made) .none kV4 dc4 pm4 an4 cd4 ct4), sl4⟩) (c4 : PySem.W.codeIn K cd4 "_law_made" = true) (k4 : PySem.W.keepIn K (.ref f4) = true)
    (a5 : PySem.W.nsIn K mainGlobals "_law_kinds" = some (some (.ref f5))) (l5 : K.lookup f5 = some ⟨oc5, od5, .func (PySem.W.fnOf "_law_kinds" "_law_kinds" (defArgs s__law_kinds) (defBody s__law_kinds) (defScope s__law_kinds) .none kV5 dc5 pm5 an5 cd5 ct5), sl5⟩) (c5 : PySem.W.codeIn K cd5 "_law_kinds" = true) (k5 : PySem.W.keepIn K (.ref f5) = true)
    (a6 : PySem.W.nsIn K mainGlobals "_law_alone" = some (some (.ref f6))) (l6 : K.lookup f6 = some ⟨oc6, od6, .func (PySem.W.fnOf "_law_alone" "_law_alone" (defArgs s__law_alone) (defBody s__law_alone) (defScope s__law_alone) .none kV6 dc6 pm6 an6 cd6 ct6), sl6⟩) (c6 : PySem.W.codeIn K cd6 "_law_alone" = true) (k6 : PySem.W.keepIn K (.ref f6) = true)
    (a7 : PySem.W.nsIn K mainGlobals "_law_taken" = some (some (.ref f7))) (l7 : K.lookup f7 = some ⟨oc7, od7, .func (PySem.W.fnOf "_law_taken" "_law_taken" (defArgs s__law_taken) (defBody s__law_taken) (defScope s__law_taken) .none kV7 dc7 pm7 an7 cd7 ct7), sl7⟩) (c7 : PySem.W.codeIn K cd7 "_law_taken" = true) (k7 : PySem.W.keepIn K (.ref f7) = true)
    (a8 : PySem.W.nsIn K mainGlobals "law" = some (some (.ref f8))) (l8 : K.lookup f8 = some ⟨oc8, od8, .func (PySem.W.fnOf "law" "law" (defArgs s_law) (defBody s_law) (defScope s_law) .none kV8 dc8 pm8 an8 cd8 ct8), sl8⟩) (c8 : PySem.W.codeIn K cd8 "law" = true) (k8 : PySem.W.keepIn K (.ref f8) = true)
    (z1 : PySem.W.nsIn K mainGlobals "len" = some none)
    (z2 : PySem.W.nsIn K mainGlobals "abs" = some none)
    (z3 : PySem.W.nsIn K mainGlobals "int" = some none)
    (sa : PySem.W.nsIn K mainGlobals "ShownError" = some (some (.ref S_sh)))
    (ea_NoFunction : PySem.W.nsIn K mainGlobals "NoFunction" = some (some (.ref C_NoFunction))) (eb_NoFunction : PySem.W.excIn K C_NoFunction [.type "ValueError", .type "Exception", .type "BaseException", .type "object"] "ValueError.__new__" = true) (ec_NoFunction : PySem.W.keepIn K (.ref C_NoFunction) = true) (er_NoFunction : xcB K "NoFunction" C_NoFunction S_sh = true)
    (ea_NoDeed : PySem.W.nsIn K mainGlobals "NoDeed" = some (some (.ref C_NoDeed))) (eb_NoDeed : PySem.W.excIn K C_NoDeed [.type "ValueError", .type "Exception", .type "BaseException", .type "object"] "ValueError.__new__" = true) (ec_NoDeed : PySem.W.keepIn K (.ref C_NoDeed) = true) (er_NoDeed : xcB K "NoDeed" C_NoDeed S_sh = true)
    (ea_NoCode : PySem.W.nsIn K mainGlobals "NoCode" = some (some (.ref C_NoCode))) (eb_NoCode : PySem.W.excIn K C_NoCode [.type "ValueError", .type "Exception", .type "BaseException", .type "object"] "ValueError.__new__" = true) (ec_NoCode : PySem.W.keepIn K (.ref C_NoCode) = true) (er_NoCode : xcB K "NoCode" C_NoCode S_sh = true)
    (ea_NoBegins : PySem.W.nsIn K mainGlobals "NoBegins" = some (some (.ref C_NoBegins))) (eb_NoBegins : PySem.W.excIn K C_NoBegins [.type "ValueError", .type "Exception", .type "BaseException", .type "object"] "ValueError.__new__" = true) (ec_NoBegins : PySem.W.keepIn K (.ref C_NoBegins) = true) (er_NoBegins : xcB K "NoBegins" C_NoBegins S_sh = true)
    (ea_Falls : PySem.W.nsIn K mainGlobals "Falls" = some (some (.ref C_Falls))) (eb_Falls : PySem.W.excIn K C_Falls [.type "ValueError", .type "Exception", .type "BaseException", .type "object"] "ValueError.__new__" = true) (ec_Falls : PySem.W.keepIn K (.ref C_Falls) = true) (er_Falls : xcB K "Falls" C_Falls S_sh = true)
    (ea_Astray : PySem.W.nsIn K mainGlobals "Astray" = some (some (.ref C_Astray))) (eb_Astray : PySem.W.excIn K C_Astray [.type "ValueError", .type "Exception", .type "BaseException", .type "object"] "ValueError.__new__" = true) (ec_Astray : PySem.W.keepIn K (.ref C_Astray) = true) (er_Astray : xcB K "Astray" C_Astray S_sh = true)
    (ea_NoHand : PySem.W.nsIn K mainGlobals "NoHand" = some (some (.ref C_NoHand))) (eb_NoHand : PySem.W.excIn K C_NoHand [.type "ValueError", .type "Exception", .type "BaseException", .type "object"] "ValueError.__new__" = true) (ec_NoHand : PySem.W.keepIn K (.ref C_NoHand) = true) (er_NoHand : xcB K "NoHand" C_NoHand S_sh = true)
    (ea_NoState : PySem.W.nsIn K mainGlobals "NoState" = some (some (.ref C_NoState))) (eb_NoState : PySem.W.excIn K C_NoState [.type "ValueError", .type "Exception", .type "BaseException", .type "object"] "ValueError.__new__" = true) (ec_NoState : PySem.W.keepIn K (.ref C_NoState) = true) (er_NoState : xcB K "NoState" C_NoState S_sh = true)
    (ea_NoStanding : PySem.W.nsIn K mainGlobals "NoStanding" = some (some (.ref C_NoStanding))) (eb_NoStanding : PySem.W.excIn K C_NoStanding [.type "ValueError", .type "Exception", .type "BaseException", .type "object"] "ValueError.__new__" = true) (ec_NoStanding : PySem.W.keepIn K (.ref C_NoStanding) = true) (er_NoStanding : xcB K "NoStanding" C_NoStanding S_sh = true)
    (ea_NoPicture : PySem.W.nsIn K mainGlobals "NoPicture" = some (some (.ref C_NoPicture))) (eb_NoPicture : PySem.W.excIn K C_NoPicture [.type "ValueError", .type "Exception", .type "BaseException", .type "object"] "ValueError.__new__" = true) (ec_NoPicture : PySem.W.keepIn K (.ref C_NoPicture) = true) (er_NoPicture : xcB K "NoPicture" C_NoPicture S_sh = true)
    (ea_NoNumber : PySem.W.nsIn K mainGlobals "NoNumber" = some (some (.ref C_NoNumber))) (eb_NoNumber : PySem.W.excIn K C_NoNumber [.type "ValueError", .type "Exception", .type "BaseException", .type "object"] "ValueError.__new__" = true) (ec_NoNumber : PySem.W.keepIn K (.ref C_NoNumber) = true) (er_NoNumber : xcB K "NoNumber" C_NoNumber S_sh = true)
    (ea_NoName : PySem.W.nsIn K mainGlobals "NoName" = some (some (.ref C_NoName))) (eb_NoName : PySem.W.excIn K C_NoName [.type "ValueError", .type "Exception", .type "BaseException", .type "object"] "ValueError.__new__" = true) (ec_NoName : PySem.W.keepIn K (.ref C_NoName) = true) (er_NoName : xcB K "NoName" C_NoName S_sh = true)
    (ea_NoLife : PySem.W.nsIn K mainGlobals "NoLife" = some (some (.ref C_NoLife))) (eb_NoLife : PySem.W.excIn K C_NoLife [.type "ValueError", .type "Exception", .type "BaseException", .type "object"] "ValueError.__new__" = true) (ec_NoLife : PySem.W.keepIn K (.ref C_NoLife) = true) (er_NoLife : xcB K "NoLife" C_NoLife S_sh = true)
    (ea_NoStop : PySem.W.nsIn K mainGlobals "NoStop" = some (some (.ref C_NoStop))) (eb_NoStop : PySem.W.excIn K C_NoStop [.type "ValueError", .type "Exception", .type "BaseException", .type "object"] "ValueError.__new__" = true) (ec_NoStop : PySem.W.keepIn K (.ref C_NoStop) = true) (er_NoStop : xcB K "NoStop" C_NoStop S_sh = true)
    (ea_NoTurns : PySem.W.nsIn K mainGlobals "NoTurns" = some (some (.ref C_NoTurns))) (eb_NoTurns : PySem.W.excIn K C_NoTurns [.type "ValueError", .type "Exception", .type "BaseException", .type "object"] "ValueError.__new__" = true) (ec_NoTurns : PySem.W.keepIn K (.ref C_NoTurns) = true) (er_NoTurns : xcB K "NoTurns" C_NoTurns S_sh = true)
    (ea_NoTurning : PySem.W.nsIn K mainGlobals "NoTurning" = some (some (.ref C_NoTurning))) (eb_NoTurning : PySem.W.excIn K C_NoTurning [.type "ValueError", .type "Exception", .type "BaseException", .type "object"] "ValueError.__new__" = true) (ec_NoTurning : PySem.W.keepIn K (.ref C_NoTurning) = true) (er_NoTurning : xcB K "NoTurning" C_NoTurning S_sh = true)
    (ea_NoThing : PySem.W.nsIn K mainGlobals "NoThing" = some (some (.ref C_NoThing))) (eb_NoThing : PySem.W.excIn K C_NoThing [.type "ValueError", .type "Exception", .type "BaseException", .type "object"] "ValueError.__new__" = true) (ec_NoThing : PySem.W.keepIn K (.ref C_NoThing) = true) (er_NoThing : xcB K "NoThing" C_NoThing S_sh = true)
    (ea_NoText : PySem.W.nsIn K mainGlobals "NoText" = some (some (.ref C_NoText))) (eb_NoText : PySem.W.excIn K C_NoText [.type "ValueError", .type "Exception", .type "BaseException", .type "object"] "ValueError.__new__" = true) (ec_NoText : PySem.W.keepIn K (.ref C_NoText) = true) (er_NoText : xcB K "NoText" C_NoText S_sh = true)
    (ea_NoTerm : PySem.W.nsIn K mainGlobals "NoTerm" = some (some (.ref C_NoTerm))) (eb_NoTerm : PySem.W.excIn K C_NoTerm [.type "ValueError", .type "Exception", .type "BaseException", .type "object"] "ValueError.__new__" = true) (ec_NoTerm : PySem.W.keepIn K (.ref C_NoTerm) = true) (er_NoTerm : xcB K "NoTerm" C_NoTerm S_sh = true)
    (ea_NoTask : PySem.W.nsIn K mainGlobals "NoTask" = some (some (.ref C_NoTask))) (eb_NoTask : PySem.W.excIn K C_NoTask [.type "ValueError", .type "Exception", .type "BaseException", .type "object"] "ValueError.__new__" = true) (ec_NoTask : PySem.W.keepIn K (.ref C_NoTask) = true) (er_NoTask : xcB K "NoTask" C_NoTask S_sh = true)
    (ea_NoWeather : PySem.W.nsIn K mainGlobals "NoWeather" = some (some (.ref C_NoWeather))) (eb_NoWeather : PySem.W.excIn K C_NoWeather [.type "ValueError", .type "Exception", .type "BaseException", .type "object"] "ValueError.__new__" = true) (ec_NoWeather : PySem.W.keepIn K (.ref C_NoWeather) = true) (er_NoWeather : xcB K "NoWeather" C_NoWeather S_sh = true)
    (ea_Unlike : PySem.W.nsIn K mainGlobals "Unlike" = some (some (.ref C_Unlike))) (eb_Unlike : PySem.W.excIn K C_Unlike [.type "ValueError", .type "Exception", .type "BaseException", .type "object"] "ValueError.__new__" = true) (ec_Unlike : PySem.W.keepIn K (.ref C_Unlike) = true) (er_Unlike : xcB K "Unlike" C_Unlike S_sh = true)
    (ea_TooWide : PySem.W.nsIn K mainGlobals "TooWide" = some (some (.ref C_TooWide))) (eb_TooWide : PySem.W.excIn K C_TooWide [.type "ValueError", .type "Exception", .type "BaseException", .type "object"] "ValueError.__new__" = true) (ec_TooWide : PySem.W.keepIn K (.ref C_TooWide) = true) (er_TooWide : xcB K "TooWide" C_TooWide S_sh = true)
    (ea_TooLong : PySem.W.nsIn K mainGlobals "TooLong" = some (some (.ref C_TooLong))) (eb_TooLong : PySem.W.excIn K C_TooLong [.type "ValueError", .type "Exception", .type "BaseException", .type "object"] "ValueError.__new__" = true) (ec_TooLong : PySem.W.keepIn K (.ref C_TooLong) = true) (er_TooLong : xcB K "TooLong" C_TooLong S_sh = true)
    (ea_TooLarge : PySem.W.nsIn K mainGlobals "TooLarge" = some (some (.ref C_TooLarge))) (eb_TooLarge : PySem.W.excIn K C_TooLarge [.type "ValueError", .type "Exception", .type "BaseException", .type "object"] "ValueError.__new__" = true) (ec_TooLarge : PySem.W.keepIn K (.ref C_TooLarge) = true) (er_TooLarge : xcB K "TooLarge" C_TooLarge S_sh = true)
    (ea_NoWorlds : PySem.W.nsIn K mainGlobals "NoWorlds" = some (some (.ref C_NoWorlds))) (eb_NoWorlds : PySem.W.excIn K C_NoWorlds [.type "ValueError", .type "Exception", .type "BaseException", .type "object"] "ValueError.__new__" = true) (ec_NoWorlds : PySem.W.keepIn K (.ref C_NoWorlds) = true) (er_NoWorlds : xcB K "NoWorlds" C_NoWorlds S_sh = true)
    (ea_NoWords : PySem.W.nsIn K mainGlobals "NoWords" = some (some (.ref C_NoWords))) (eb_NoWords : PySem.W.excIn K C_NoWords [.type "ValueError", .type "Exception", .type "BaseException", .type "object"] "ValueError.__new__" = true) (ec_NoWords : PySem.W.keepIn K (.ref C_NoWords) = true) (er_NoWords : xcB K "NoWords" C_NoWords S_sh = true)
    (z4 : PySem.W.nsIn K mainGlobals "isinstance" = some none)
    (ea_NoWay : PySem.W.nsIn K mainGlobals "NoWay" = some (some (.ref C_NoWay))) (er_NoWay : xcB K "NoWay" C_NoWay S_sh = true) (iC : K.lookup C_NoWay = some (excClassObj nmI qI C_NoWay NI bsI bmI true snI subI abI colI ddI k0I k1I k2I k3I k5I "ValueError.__new__")) (rI : PySem.HandSPX.refsVE bmI = true) (iS : PySem.W.findIn K (.ref C_NoWay) "__setattr__" = some (some (.builtin "object.__setattr__"))) (iX : PySem.W.subIn K (.ref C_NoWay) (.type "BaseException") = some true) (iT : PySem.W.typeIn K (.ref C_NoWay) = some (.type "type")) (iK : PySem.W.keepIn K (.ref C_NoWay) = true)
    (iF : PySem.W.findIn K (.ref C_NoWay) "__init__" = some (some (.ref fI))) (iY : PySem.W.typeIn K (.ref fI) = some (.type "function")) (iL : K.lookup fI = some ⟨ocI, odI, .func (PySem.W.fnOf "__init__" "NoWay.__init__" (defArgs s_init) (defBody s_init) (defScope s_init) .none kVI dcI pmI anI cdI ctI), slI⟩) (iC2 : PySem.W.codeIn K cdI "NoWay.__init__" = true) (iK2 : PySem.W.keepIn K (.ref fI) = true) (iR : PySem.W.readsIn K S_sh (.type "type") = true) (iG : PySem.W.specialIn K (.ref S_sh) "__getattribute__" = some (some (.builtin "type.__getattribute__"))) (iV : PySem.W.findCls K (.ref S_sh) (.type "type") "__init__" = some (.val (.builtin "ValueError.__init__"))) (rX : PySem.W.exmOne K (.ref C_NoWay) (.ref S_sh) = some true)
    (z5 : PySem.W.nsIn K mainGlobals "ValueError" = some none)
    (z6 : PySem.W.nsIn K mainGlobals "range" = some none)
    (z7 : PySem.W.nsIn K mainGlobals "bool" = some none) : Tp w K mg := by
  refine ⟨?_, ?_, ?_, ?_, ?_, ?_, ?_, ?_, ?_, ?_, ?_, ?_, ?_, ?_, ?_, ?_, ?_, ?_, ?_, ?_, ?_, ?_, ?_, ?_, ?_, ?_, ?_, ?_, ?_, ?_, ?_, ?_, ?_, ?_, ?_, ?_, ?_, ?_, ?_, ?_, ?_, ?_, ?_, ?_⟩
  · exact PySem.W.mg_none_of X G z1
  · exact PySem.W.mg_none_of X G z2
  · exact PySem.W.mg_none_of X G z3
  · exact ⟨C_NoFunction, S_sh, xc_of ea_NoFunction sa er_NoFunction, PySem.W.mg_of X G ea_NoFunction, eb_NoFunction, ec_NoFunction⟩
  · exact ⟨C_NoDeed, S_sh, xc_of ea_NoDeed sa er_NoDeed, PySem.W.mg_of X G ea_NoDeed, eb_NoDeed, ec_NoDeed⟩
  · exact ⟨C_NoCode, S_sh, xc_of ea_NoCode sa er_NoCode, PySem.W.mg_of X G ea_NoCode, eb_NoCode, ec_NoCode⟩
  · exact ⟨C_NoBegins, S_sh, xc_of ea_NoBegins sa er_NoBegins, PySem.W.mg_of X G ea_NoBegins, eb_NoBegins, ec_NoBegins⟩
  · exact ⟨C_Falls, S_sh, xc_of ea_Falls sa er_Falls, PySem.W.mg_of X G ea_Falls, eb_Falls, ec_Falls⟩
  · exact ⟨C_Astray, S_sh, xc_of ea_Astray sa er_Astray, PySem.W.mg_of X G ea_Astray, eb_Astray, ec_Astray⟩
  · exact ⟨C_NoHand, S_sh, xc_of ea_NoHand sa er_NoHand, PySem.W.mg_of X G ea_NoHand, eb_NoHand, ec_NoHand⟩
  · exact ⟨C_NoState, S_sh, xc_of ea_NoState sa er_NoState, PySem.W.mg_of X G ea_NoState, eb_NoState, ec_NoState⟩
  · exact ⟨C_NoStanding, S_sh, xc_of ea_NoStanding sa er_NoStanding, PySem.W.mg_of X G ea_NoStanding, eb_NoStanding, ec_NoStanding⟩
  · exact ⟨C_NoPicture, S_sh, xc_of ea_NoPicture sa er_NoPicture, PySem.W.mg_of X G ea_NoPicture, eb_NoPicture, ec_NoPicture⟩
  · exact ⟨C_NoNumber, S_sh, xc_of ea_NoNumber sa er_NoNumber, PySem.W.mg_of X G ea_NoNumber, eb_NoNumber, ec_NoNumber⟩
  · exact ⟨C_NoName, S_sh, xc_of ea_NoName sa er_NoName, PySem.W.mg_of X G ea_NoName, eb_NoName, ec_NoName⟩
  · exact ⟨C_NoLife, S_sh, xc_of ea_NoLife sa er_NoLife, PySem.W.mg_of X G ea_NoLife, eb_NoLife, ec_NoLife⟩
  · exact ⟨C_NoStop, S_sh, xc_of ea_NoStop sa er_NoStop, PySem.W.mg_of X G ea_NoStop, eb_NoStop, ec_NoStop⟩
  · exact ⟨C_NoTurns, S_sh, xc_of ea_NoTurns sa er_NoTurns, PySem.W.mg_of X G ea_NoTurns, eb_NoTurns, ec_NoTurns⟩
  · exact ⟨C_NoTurning, S_sh, xc_of ea_NoTurning sa er_NoTurning, PySem.W.mg_of X G ea_NoTurning, eb_NoTurning, ec_NoTurning⟩
  · exact ⟨C_NoThing, S_sh, xc_of ea_NoThing sa er_NoThing, PySem.W.mg_of X G ea_NoThing, eb_NoThing, ec_NoThing⟩
  · exact ⟨C_NoText, S_sh, xc_of ea_NoText sa er_NoText, PySem.W.mg_of X G ea_NoText, eb_NoText, ec_NoText⟩
  · exact ⟨C_NoTerm, S_sh, xc_of ea_NoTerm sa er_NoTerm, PySem.W.mg_of X G ea_NoTerm, eb_NoTerm, ec_NoTerm⟩
  · exact ⟨C_NoTask, S_sh, xc_of ea_NoTask sa er_NoTask, PySem.W.mg_of X G ea_NoTask, eb_NoTask, ec_NoTask⟩
  · exact ⟨C_NoWeather, S_sh, xc_of ea_NoWeather sa er_NoWeather, PySem.W.mg_of X G ea_NoWeather, eb_NoWeather, ec_NoWeather⟩
  · exact ⟨C_Unlike, S_sh, xc_of ea_Unlike sa er_Unlike, PySem.W.mg_of X G ea_Unlike, eb_Unlike, ec_Unlike⟩
  · exact ⟨C_TooWide, S_sh, xc_of ea_TooWide sa er_TooWide, PySem.W.mg_of X G ea_TooWide, eb_TooWide, ec_TooWide⟩
  · exact ⟨C_TooLong, S_sh, xc_of ea_TooLong sa er_TooLong, PySem.W.mg_of X G ea_TooLong, eb_TooLong, ec_TooLong⟩
  · exact ⟨C_TooLarge, S_sh, xc_of ea_TooLarge sa er_TooLarge, PySem.W.mg_of X G ea_TooLarge, eb_TooLarge, ec_TooLarge⟩
  · exact ⟨C_NoWorlds, S_sh, xc_of ea_NoWorlds sa er_NoWorlds, PySem.W.mg_of X G ea_NoWorlds, eb_NoWorlds, ec_NoWorlds⟩
  · exact ⟨C_NoWords, S_sh, xc_of ea_NoWords sa er_NoWords, PySem.W.mg_of X G ea_NoWords, eb_NoWords, ec_NoWords⟩
  · exact PySem.W.mg_none_of X G z4
  · exact ⟨C_NoWay, S_sh, fI, _, xc_of ea_NoWay sa er_NoWay, PySem.W.mg_of X G ea_NoWay, ⟨⟨_, _, _, _, _, _, _, _, _, _, _, _, _, _, _, iC, rI⟩, iS, iX, iT, iK⟩, iF, iY, fun_mk (st := s_init) iL iC2 iK2, (fun_mk (st := s_init) iL iC2 iK2).binds (ps := ["self", "number"]) fun _ _ _ _ _ _ us hl => match us, hl with | [_, _], _ => rfl, PySem.W.mg_of X G sa, iR, iG, iV, rX⟩
  · exact PySem.W.mg_none_of X G z5
  · exact ⟨S_sh, PySem.W.mg_of X G sa, sa⟩
  · exact PySem.W.mg_none_of X G z6
  · exact PySem.W.mg_none_of X G z7
  · exact ⟨f1, _, fun_mk (st := s__law_pot) l1 c1 k1, PySem.W.mg_of X G a1, (fun_mk (st := s__law_pot) l1 c1 k1).binds (ps := ["_law_script", "_law_k"]) fun _ _ _ _ _ _ us hl => match us, hl with | [_, _], _ => rfl⟩
  · exact ⟨f2, _, fun_mk (st := s__law_take) l2 c2 k2, PySem.W.mg_of X G a2, (fun_mk (st := s__law_take) l2 c2 k2).binds (ps := ["_law_pot_here", "_law_many"]) fun _ _ _ _ _ _ us hl => match us, hl with | [_, _], _ => rfl⟩
  · exact ⟨f3, _, fun_mk (st := s__law_number) l3 c3 k3, PySem.W.mg_of X G a3, (fun_mk (st := s__law_number) l3 c3 k3).binds (ps := ["_law_pot_here"]) fun _ _ _ _ _ _ us hl => match us, hl with | [_], _ => rfl⟩
  · exact ⟨f4, _, fun_mk (st := s__law_made) l4 c4 k4, PySem.W.mg_of X G a4, (fun_mk (st := s__law_made) l4 c4 k4).binds (ps := ["_law_which", "_law_word"]) fun _ _ _ _ _ _ us hl => match us, hl with | [_, _], _ => rfl⟩
  · exact ⟨f5, _, fun_mk (st := s__law_kinds) l5 c5 k5, PySem.W.mg_of X G a5, (fun_mk (st := s__law_kinds) l5 c5 k5).binds (ps := ["_law_one"]) fun _ _ _ _ _ _ us hl => match us, hl with | [_], _ => rfl⟩
  · exact ⟨f6, _, fun_mk (st := s__law_alone) l6 c6 k6, PySem.W.mg_of X G a6, (fun_mk (st := s__law_alone) l6 c6 k6).binds (ps := ["_law_one", "_law_which"]) fun _ _ _ _ _ _ us hl => match us, hl with | [_, _], _ => rfl⟩
  · exact ⟨f7, _, fun_mk (st := s__law_taken) l7 c7 k7, PySem.W.mg_of X G a7, (fun_mk (st := s__law_taken) l7 c7 k7).binds (ps := ["_law_number_here"]) fun _ _ _ _ _ _ us hl => match us, hl with | [_], _ => rfl⟩
  · exact ⟨f8, _, fun_mk (st := s_law) l8 c8 k8, PySem.W.mg_of X G a8, (fun_mk (st := s_law) l8 c8 k8).binds (ps := ["_law_script"]) fun _ _ _ _ _ _ us hl => match us, hl with | [_], _ => rfl⟩
theorem fin_mk {w : World} {K : PySem.W.Frag} {h : Heap} {mg : Str → Option Value} {f1 : Addr} {od1 an1 : Option Addr} {sl1 : Array (Option Value)} {oc1 kV1 dc1 pm1 cd1 ct1 : Value} {f2 : Addr} {od2 an2 : Option Addr} {sl2 : Array (Option Value)} {oc2 kV2 dc2 pm2 cd2 ct2 : Value} {f3 : Addr} {od3 an3 : Option Addr} {sl3 : Array (Option Value)} {oc3 kV3 dc3 pm3 cd3 ct3 : Value} {f4 : Addr} {od4 an4 : Option Addr} {sl4 : Array (Option Value)} {oc4 kV4 dc4 pm4 cd4 ct4 : Value} {f5 : Addr} {od5 an5 : Option Addr} {sl5 : Array (Option Value)} {oc5 kV5 dc5 pm5 cd5 ct5 : Value} {f6 : Addr} {od6 an6 : Option Addr} {sl6 : Array (Option Value)} {oc6 kV6 dc6 pm6 cd6 ct6 : Value} {f7 : Addr} {od7 an7 : Option Addr} {sl7 : Array (Option Value)} {oc7 kV7 dc7 pm7 cd7 ct7 : Value} {f8 : Addr} {od8 an8 : Option Addr} {sl8 : Array (Option Value)} {oc8 kV8 dc8 pm8 cd8 ct8 : Value} {S_sh : Addr} {C_NoFunction : Addr} {C_NoDeed : Addr} {C_NoCode : Addr} {C_NoBegins : Addr} {C_Falls : Addr} {C_Astray : Addr} {C_NoHand : Addr} {C_NoState : Addr} {C_NoStanding : Addr} {C_NoPicture : Addr} {C_NoNumber : Addr} {C_NoName : Addr} {C_NoLife : Addr} {C_NoStop : Addr} {C_NoTurns : Addr} {C_NoTurning : Addr} {C_NoThing : Addr} {C_NoText : Addr} {C_NoTerm : Addr} {C_NoTask : Addr} {C_NoWeather : Addr} {C_Unlike : Addr} {C_TooWide : Addr} {C_TooLong : Addr} {C_TooLarge : Addr} {C_NoWorlds : Addr} {C_NoWords : Addr} {C_NoWay NI : Addr} {nmI qI : Str} {bsI bmI : List Value} {snI : List Str} {subI : List Value} {abI : Bool} {colI : Option Bool} {ddI : Option Addr} {k0I k1I k2I k3I k5I : Option Value} {fI : Addr} {odI anI : Option Addr} {slI : Array (Option Value)} {ocI kVI dcI pmI cdI ctI : Value} {fa : Addr} (X : K.In h) (G : h.Ns mainGlobals mg) (hfa : mg "law" = some (.ref fa))
    (a1 : PySem.W.nsIn K mainGlobals "_law_pot" = some (some (.ref f1))) (l1 : K.lookup f1 = some ⟨oc1, od1, .func (PySem.W.fnOf "_law_pot" "_law_pot" (defArgs s__law_pot) (defBody s__law_pot) (defScope s__law_pot) .none kV1 dc1 pm1 an1 cd1 ct1), sl1⟩) (c1 : PySem.W.codeIn K cd1 "_law_pot" = true) (k1 : PySem.W.keepIn K (.ref f1) = true)
    (a2 : PySem.W.nsIn K mainGlobals "_law_take" = some (some (.ref f2))) (l2 : K.lookup f2 = some ⟨oc2, od2, .func (PySem.W.fnOf "_law_take" "_law_take" (defArgs s__law_take) (defBody s__law_take) (defScope s__law_take) .none kV2 dc2 pm2 an2 cd2 ct2), sl2⟩) (c2 : PySem.W.codeIn K cd2 "_law_take" = true) (k2 : PySem.W.keepIn K (.ref f2) = true)
    (a3 : PySem.W.nsIn K mainGlobals "_law_number" = some (some (.ref f3))) (l3 : K.lookup f3 = some ⟨oc3, od3, .func (PySem.W.fnOf "_law_number" "_law_number" (defArgs s__law_number) (defBody s__law_number) (defScope s__law_number) .none kV3 dc3 pm3 an3 cd3 ct3), sl3⟩) (c3 : PySem.W.codeIn K cd3 "_law_number" = true) (k3 : PySem.W.keepIn K (.ref f3) = true)
    (a4 : PySem.W.nsIn K mainGlobals "_law_made" = some (some (.ref f4))) (l4 : K.lookup f4 = some ⟨oc4, od4, .func (PySem.W.fnOf "_law_made" "_law_made" (defArgs s__law_made) (defBody s__law_made) (defScope s__law_made) .none kV4 dc4 pm4 an4 cd4 ct4), sl4⟩) (c4 : PySem.W.codeIn K cd4 "_law_made" = true) (k4 : PySem.W.keepIn K (.ref f4) = true)
    (a5 : PySem.W.nsIn K mainGlobals "_law_kinds" = some (some (.ref f5))) (l5 : K.lookup f5 = some ⟨oc5, od5, .func (PySem.W.fnOf "_law_kinds" "_law_kinds" (defArgs s__law_kinds) (defBody s__law_kinds) (defScope s__law_kinds) .none kV5 dc5 pm5 an5 cd5 ct5), sl5⟩) (c5 : PySem.W.codeIn K cd5 "_law_kinds" = true) (k5 : PySem.W.keepIn K (.ref f5) = true)
    (a6 : PySem.W.nsIn K mainGlobals "_law_alone" = some (some (.ref f6))) (l6 : K.lookup f6 = some ⟨oc6, od6, .func (PySem.W.fnOf "_law_alone" "_law_alone" (defArgs s__law_alone) (defBody s__law_alone) (defScope s__law_alone) .none kV6 dc6 pm6 an6 cd6 ct6), sl6⟩) (c6 : PySem.W.codeIn K cd6 "_law_alone" = true) (k6 : PySem.W.keepIn K (.ref f6) = true)
    (a7 : PySem.W.nsIn K mainGlobals "_law_taken" = some (some (.ref f7))) (l7 : K.lookup f7 = some ⟨oc7, od7, .func (PySem.W.fnOf "_law_taken" "_law_taken" (defArgs s__law_taken) (defBody s__law_taken) (defScope s__law_taken) .none kV7 dc7 pm7 an7 cd7 ct7), sl7⟩) (c7 : PySem.W.codeIn K cd7 "_law_taken" = true) (k7 : PySem.W.keepIn K (.ref f7) = true)
    (a8 : PySem.W.nsIn K mainGlobals "law" = some (some (.ref f8))) (l8 : K.lookup f8 = some ⟨oc8, od8, .func (PySem.W.fnOf "law" "law" (defArgs s_law) (defBody s_law) (defScope s_law) .none kV8 dc8 pm8 an8 cd8 ct8), sl8⟩) (c8 : PySem.W.codeIn K cd8 "law" = true) (k8 : PySem.W.keepIn K (.ref f8) = true)
    (z1 : PySem.W.nsIn K mainGlobals "len" = some none)
    (z2 : PySem.W.nsIn K mainGlobals "abs" = some none)
    (z3 : PySem.W.nsIn K mainGlobals "int" = some none)
    (sa : PySem.W.nsIn K mainGlobals "ShownError" = some (some (.ref S_sh)))
    (ea_NoFunction : PySem.W.nsIn K mainGlobals "NoFunction" = some (some (.ref C_NoFunction))) (eb_NoFunction : PySem.W.excIn K C_NoFunction [.type "ValueError", .type "Exception", .type "BaseException", .type "object"] "ValueError.__new__" = true) (ec_NoFunction : PySem.W.keepIn K (.ref C_NoFunction) = true) (er_NoFunction : xcB K "NoFunction" C_NoFunction S_sh = true)
    (ea_NoDeed : PySem.W.nsIn K mainGlobals "NoDeed" = some (some (.ref C_NoDeed))) (eb_NoDeed : PySem.W.excIn K C_NoDeed [.type "ValueError", .type "Exception", .type "BaseException", .type "object"] "ValueError.__new__" = true) (ec_NoDeed : PySem.W.keepIn K (.ref C_NoDeed) = true) (er_NoDeed : xcB K "NoDeed" C_NoDeed S_sh = true)
    (ea_NoCode : PySem.W.nsIn K mainGlobals "NoCode" = some (some (.ref C_NoCode))) (eb_NoCode : PySem.W.excIn K C_NoCode [.type "ValueError", .type "Exception", .type "BaseException", .type "object"] "ValueError.__new__" = true) (ec_NoCode : PySem.W.keepIn K (.ref C_NoCode) = true) (er_NoCode : xcB K "NoCode" C_NoCode S_sh = true)
    (ea_NoBegins : PySem.W.nsIn K mainGlobals "NoBegins" = some (some (.ref C_NoBegins))) (eb_NoBegins : PySem.W.excIn K C_NoBegins [.type "ValueError", .type "Exception", .type "BaseException", .type "object"] "ValueError.__new__" = true) (ec_NoBegins : PySem.W.keepIn K (.ref C_NoBegins) = true) (er_NoBegins : xcB K "NoBegins" C_NoBegins S_sh = true)
    (ea_Falls : PySem.W.nsIn K mainGlobals "Falls" = some (some (.ref C_Falls))) (eb_Falls : PySem.W.excIn K C_Falls [.type "ValueError", .type "Exception", .type "BaseException", .type "object"] "ValueError.__new__" = true) (ec_Falls : PySem.W.keepIn K (.ref C_Falls) = true) (er_Falls : xcB K "Falls" C_Falls S_sh = true)
    (ea_Astray : PySem.W.nsIn K mainGlobals "Astray" = some (some (.ref C_Astray))) (eb_Astray : PySem.W.excIn K C_Astray [.type "ValueError", .type "Exception", .type "BaseException", .type "object"] "ValueError.__new__" = true) (ec_Astray : PySem.W.keepIn K (.ref C_Astray) = true) (er_Astray : xcB K "Astray" C_Astray S_sh = true)
    (ea_NoHand : PySem.W.nsIn K mainGlobals "NoHand" = some (some (.ref C_NoHand))) (eb_NoHand : PySem.W.excIn K C_NoHand [.type "ValueError", .type "Exception", .type "BaseException", .type "object"] "ValueError.__new__" = true) (ec_NoHand : PySem.W.keepIn K (.ref C_NoHand) = true) (er_NoHand : xcB K "NoHand" C_NoHand S_sh = true)
    (ea_NoState : PySem.W.nsIn K mainGlobals "NoState" = some (some (.ref C_NoState))) (eb_NoState : PySem.W.excIn K C_NoState [.type "ValueError", .type "Exception", .type "BaseException", .type "object"] "ValueError.__new__" = true) (ec_NoState : PySem.W.keepIn K (.ref C_NoState) = true) (er_NoState : xcB K "NoState" C_NoState S_sh = true)
    (ea_NoStanding : PySem.W.nsIn K mainGlobals "NoStanding" = some (some (.ref C_NoStanding))) (eb_NoStanding : PySem.W.excIn K C_NoStanding [.type "ValueError", .type "Exception", .type "BaseException", .type "object"] "ValueError.__new__" = true) (ec_NoStanding : PySem.W.keepIn K (.ref C_NoStanding) = true) (er_NoStanding : xcB K "NoStanding" C_NoStanding S_sh = true)
    (ea_NoPicture : PySem.W.nsIn K mainGlobals "NoPicture" = some (some (.ref C_NoPicture))) (eb_NoPicture : PySem.W.excIn K C_NoPicture [.type "ValueError", .type "Exception", .type "BaseException", .type "object"] "ValueError.__new__" = true) (ec_NoPicture : PySem.W.keepIn K (.ref C_NoPicture) = true) (er_NoPicture : xcB K "NoPicture" C_NoPicture S_sh = true)
    (ea_NoNumber : PySem.W.nsIn K mainGlobals "NoNumber" = some (some (.ref C_NoNumber))) (eb_NoNumber : PySem.W.excIn K C_NoNumber [.type "ValueError", .type "Exception", .type "BaseException", .type "object"] "ValueError.__new__" = true) (ec_NoNumber : PySem.W.keepIn K (.ref C_NoNumber) = true) (er_NoNumber : xcB K "NoNumber" C_NoNumber S_sh = true)
    (ea_NoName : PySem.W.nsIn K mainGlobals "NoName" = some (some (.ref C_NoName))) (eb_NoName : PySem.W.excIn K C_NoName [.type "ValueError", .type "Exception", .type "BaseException", .type "object"] "ValueError.__new__" = true) (ec_NoName : PySem.W.keepIn K (.ref C_NoName) = true) (er_NoName : xcB K "NoName" C_NoName S_sh = true)
    (ea_NoLife : PySem.W.nsIn K mainGlobals "NoLife" = some (some (.ref C_NoLife))) (eb_NoLife : PySem.W.excIn K C_NoLife [.type "ValueError", .type "Exception", .type "BaseException", .type "object"] "ValueError.__new__" = true) (ec_NoLife : PySem.W.keepIn K (.ref C_NoLife) = true) (er_NoLife : xcB K "NoLife" C_NoLife S_sh = true)
    (ea_NoStop : PySem.W.nsIn K mainGlobals "NoStop" = some (some (.ref C_NoStop))) (eb_NoStop : PySem.W.excIn K C_NoStop [.type "ValueError", .type "Exception", .type "BaseException", .type "object"] "ValueError.__new__" = true) (ec_NoStop : PySem.W.keepIn K (.ref C_NoStop) = true) (er_NoStop : xcB K "NoStop" C_NoStop S_sh = true)
    (ea_NoTurns : PySem.W.nsIn K mainGlobals "NoTurns" = some (some (.ref C_NoTurns))) (eb_NoTurns : PySem.W.excIn K C_NoTurns [.type "ValueError", .type "Exception", .type "BaseException", .type "object"] "ValueError.__new__" = true) (ec_NoTurns : PySem.W.keepIn K (.ref C_NoTurns) = true) (er_NoTurns : xcB K "NoTurns" C_NoTurns S_sh = true)
    (ea_NoTurning : PySem.W.nsIn K mainGlobals "NoTurning" = some (some (.ref C_NoTurning))) (eb_NoTurning : PySem.W.excIn K C_NoTurning [.type "ValueError", .type "Exception", .type "BaseException", .type "object"] "ValueError.__new__" = true) (ec_NoTurning : PySem.W.keepIn K (.ref C_NoTurning) = true) (er_NoTurning : xcB K "NoTurning" C_NoTurning S_sh = true)
    (ea_NoThing : PySem.W.nsIn K mainGlobals "NoThing" = some (some (.ref C_NoThing))) (eb_NoThing : PySem.W.excIn K C_NoThing [.type "ValueError", .type "Exception", .type "BaseException", .type "object"] "ValueError.__new__" = true) (ec_NoThing : PySem.W.keepIn K (.ref C_NoThing) = true) (er_NoThing : xcB K "NoThing" C_NoThing S_sh = true)
    (ea_NoText : PySem.W.nsIn K mainGlobals "NoText" = some (some (.ref C_NoText))) (eb_NoText : PySem.W.excIn K C_NoText [.type "ValueError", .type "Exception", .type "BaseException", .type "object"] "ValueError.__new__" = true) (ec_NoText : PySem.W.keepIn K (.ref C_NoText) = true) (er_NoText : xcB K "NoText" C_NoText S_sh = true)
    (ea_NoTerm : PySem.W.nsIn K mainGlobals "NoTerm" = some (some (.ref C_NoTerm))) (eb_NoTerm : PySem.W.excIn K C_NoTerm [.type "ValueError", .type "Exception", .type "BaseException", .type "object"] "ValueError.__new__" = true) (ec_NoTerm : PySem.W.keepIn K (.ref C_NoTerm) = true) (er_NoTerm : xcB K "NoTerm" C_NoTerm S_sh = true)
    (ea_NoTask : PySem.W.nsIn K mainGlobals "NoTask" = some (some (.ref C_NoTask))) (eb_NoTask : PySem.W.excIn K C_NoTask [.type "ValueError", .type "Exception", .type "BaseException", .type "object"] "ValueError.__new__" = true) (ec_NoTask : PySem.W.keepIn K (.ref C_NoTask) = true) (er_NoTask : xcB K "NoTask" C_NoTask S_sh = true)
    (ea_NoWeather : PySem.W.nsIn K mainGlobals "NoWeather" = some (some (.ref C_NoWeather))) (eb_NoWeather : PySem.W.excIn K C_NoWeather [.type "ValueError", .type "Exception", .type "BaseException", .type "object"] "ValueError.__new__" = true) (ec_NoWeather : PySem.W.keepIn K (.ref C_NoWeather) = true) (er_NoWeather : xcB K "NoWeather" C_NoWeather S_sh = true)
    (ea_Unlike : PySem.W.nsIn K mainGlobals "Unlike" = some (some (.ref C_Unlike))) (eb_Unlike : PySem.W.excIn K C_Unlike [.type "ValueError", .type "Exception", .type "BaseException", .type "object"] "ValueError.__new__" = true) (ec_Unlike : PySem.W.keepIn K (.ref C_Unlike) = true) (er_Unlike : xcB K "Unlike" C_Unlike S_sh = true)
    (ea_TooWide : PySem.W.nsIn K mainGlobals "TooWide" = some (some (.ref C_TooWide))) (eb_TooWide : PySem.W.excIn K C_TooWide [.type "ValueError", .type "Exception", .type "BaseException", .type "object"] "ValueError.__new__" = true) (ec_TooWide : PySem.W.keepIn K (.ref C_TooWide) = true) (er_TooWide : xcB K "TooWide" C_TooWide S_sh = true)
    (ea_TooLong : PySem.W.nsIn K mainGlobals "TooLong" = some (some (.ref C_TooLong))) (eb_TooLong : PySem.W.excIn K C_TooLong [.type "ValueError", .type "Exception", .type "BaseException", .type "object"] "ValueError.__new__" = true) (ec_TooLong : PySem.W.keepIn K (.ref C_TooLong) = true) (er_TooLong : xcB K "TooLong" C_TooLong S_sh = true)
    (ea_TooLarge : PySem.W.nsIn K mainGlobals "TooLarge" = some (some (.ref C_TooLarge))) (eb_TooLarge : PySem.W.excIn K C_TooLarge [.type "ValueError", .type "Exception", .type "BaseException", .type "object"] "ValueError.__new__" = true) (ec_TooLarge : PySem.W.keepIn K (.ref C_TooLarge) = true) (er_TooLarge : xcB K "TooLarge" C_TooLarge S_sh = true)
    (ea_NoWorlds : PySem.W.nsIn K mainGlobals "NoWorlds" = some (some (.ref C_NoWorlds))) (eb_NoWorlds : PySem.W.excIn K C_NoWorlds [.type "ValueError", .type "Exception", .type "BaseException", .type "object"] "ValueError.__new__" = true) (ec_NoWorlds : PySem.W.keepIn K (.ref C_NoWorlds) = true) (er_NoWorlds : xcB K "NoWorlds" C_NoWorlds S_sh = true)
    (ea_NoWords : PySem.W.nsIn K mainGlobals "NoWords" = some (some (.ref C_NoWords))) (eb_NoWords : PySem.W.excIn K C_NoWords [.type "ValueError", .type "Exception", .type "BaseException", .type "object"] "ValueError.__new__" = true) (ec_NoWords : PySem.W.keepIn K (.ref C_NoWords) = true) (er_NoWords : xcB K "NoWords" C_NoWords S_sh = true)
    (z4 : PySem.W.nsIn K mainGlobals "isinstance" = some none)
    (ea_NoWay : PySem.W.nsIn K mainGlobals "NoWay" = some (some (.ref C_NoWay))) (er_NoWay : xcB K "NoWay" C_NoWay S_sh = true) (iC : K.lookup C_NoWay = some (excClassObj nmI qI C_NoWay NI bsI bmI true snI subI abI colI ddI k0I k1I k2I k3I k5I "ValueError.__new__")) (rI : PySem.HandSPX.refsVE bmI = true) (iS : PySem.W.findIn K (.ref C_NoWay) "__setattr__" = some (some (.builtin "object.__setattr__"))) (iX : PySem.W.subIn K (.ref C_NoWay) (.type "BaseException") = some true) (iT : PySem.W.typeIn K (.ref C_NoWay) = some (.type "type")) (iK : PySem.W.keepIn K (.ref C_NoWay) = true)
    (iF : PySem.W.findIn K (.ref C_NoWay) "__init__" = some (some (.ref fI))) (iY : PySem.W.typeIn K (.ref fI) = some (.type "function")) (iL : K.lookup fI = some ⟨ocI, odI, .func (PySem.W.fnOf "__init__" "NoWay.__init__" (defArgs s_init) (defBody s_init) (defScope s_init) .none kVI dcI pmI anI cdI ctI), slI⟩) (iC2 : PySem.W.codeIn K cdI "NoWay.__init__" = true) (iK2 : PySem.W.keepIn K (.ref fI) = true) (iR : PySem.W.readsIn K S_sh (.type "type") = true) (iG : PySem.W.specialIn K (.ref S_sh) "__getattribute__" = some (some (.builtin "type.__getattribute__"))) (iV : PySem.W.findCls K (.ref S_sh) (.type "type") "__init__" = some (.val (.builtin "ValueError.__init__"))) (rX : PySem.W.exmOne K (.ref C_NoWay) (.ref S_sh) = some true)
    (z5 : PySem.W.nsIn K mainGlobals "ValueError" = some none)
    (z6 : PySem.W.nsIn K mainGlobals "range" = some none)
    (z7 : PySem.W.nsIn K mainGlobals "bool" = some none) : Tp w K mg ∧ ∃ fd : FuncData, Fun K "law" "law" s_law fa fd ∧ ∀ (s : Shared) (u : Value), BindsTo s fd ⟨[u], []⟩ [("_law_script", u)] := by
  have e := hfa.symm.trans (PySem.W.mg_of X G a8)
  cases e
  exact ⟨tp_mk X G a1 l1 c1 k1 a2 l2 c2 k2 a3 l3 c3 k3 a4 l4 c4 k4 a5 l5 c5 k5 a6 l6 c6 k6 a7 l7 c7 k7 a8 l8 c8 k8 z1 z2 z3 sa ea_NoFunction eb_NoFunction ec_NoFunction er_NoFunction ea_NoDeed eb_NoDeed ec_NoDeed er_NoDeed ea_NoCode eb_NoCode ec_NoCode er_NoCode ea_NoBegins eb_NoBegins ec_NoBegins er_NoBegins ea_Falls eb_Falls ec_Falls er_Falls ea_Astray eb_Astray ec_Astray er_Astray ea_NoHand eb_NoHand ec_NoHand er_NoHand ea_NoState eb_NoState ec_NoState er_NoState ea_NoStanding eb_NoStanding ec_NoStanding er_NoStanding ea_NoPicture eb_NoPicture ec_NoPicture er_NoPicture ea_NoNumber eb_NoNumber ec_NoNumber er_NoNumber ea_NoName eb_NoName ec_NoName er_NoName ea_NoLife eb_NoLife ec_NoLife er_NoLife ea_NoStop eb_NoStop ec_NoStop er_NoStop ea_NoTurns eb_NoTurns ec_NoTurns er_NoTurns ea_NoTurning eb_NoTurning ec_NoTurning er_NoTurning ea_NoThing eb_NoThing ec_NoThing er_NoThing ea_NoText eb_NoText ec_NoText er_NoText ea_NoTerm eb_NoTerm ec_NoTerm er_NoTerm ea_NoTask eb_NoTask ec_NoTask er_NoTask ea_NoWeather eb_NoWeather ec_NoWeather er_NoWeather ea_Unlike eb_Unlike ec_Unlike er_Unlike ea_TooWide eb_TooWide ec_TooWide er_TooWide ea_TooLong eb_TooLong ec_TooLong er_TooLong ea_TooLarge eb_TooLarge ec_TooLarge er_TooLarge ea_NoWorlds eb_NoWorlds ec_NoWorlds er_NoWorlds ea_NoWords eb_NoWords ec_NoWords er_NoWords z4 ea_NoWay er_NoWay iC rI iS iX iT iK iF iY iL iC2 iK2 iR iG iV rX z5 z6 z7, _, fun_mk (st := s_law) l8 c8 k8, fun s v => .of_eq rfl⟩
end K99

set_option Elab.async false
set_option linter.all false
set_option maxRecDepth 100000
set_option maxHeartbeats 4000000
namespace K99
open PySem L2 PyProof.Rows Q
def spLaw (K : PySem.W.Frag) : Sp := fun vs H Q E => spL K 1 m_law vs H Q E
theorem all_fns {P : Program} {w : World} {K : PySem.W.Frag} {mg : Str → Option Value} {base : Heap} {f : Addr} {fd : FuncData} (T : Tp w K mg) (F : Fun K "law" "law" s_law f fd) : FnOk P w K mg base (L2.CX P w) 6 f fd ["_law_script"] (spLaw K) := by
  have G__law_pot := fn__law_pot (P := P) (base := base) T
  have G__law_take := fn__law_take (P := P) (base := base) T
  have G__law_number := fn__law_number (P := P) (base := base) T G__law_take
  have G__law_made := fn__law_made (P := P) (base := base) T
  have G__law_kinds := fn__law_kinds (P := P) (base := base) T
  have G__law_alone := fn__law_alone (P := P) (base := base) T G__law_kinds
  have G__law_taken := fn__law_taken (P := P) (base := base) T
  exact (fn_law (P := P) (base := base) T G__law_pot G__law_take G__law_number G__law_made G__law_alone G__law_taken F).imp fun vs H Q E h => h
theorem walk {l : PySem.W.OpenLaw} {q : Program} {loose : List Str} {XP : (Str → Option Value) → Heap → Prop} {YP : World → Heap → Prop} {d : DefRec} {K : Params → PySem.W.Frag} (hn : l.most = some 63) (hdf : d.params.defaults = [])
    (hY : ∀ (w : World) (h : Heap), YP w h → (K w.params).In h)
    (F : ∀ (w : World) (mg : Str → Option Value) (fa : Addr) (h : Heap), (K w.params).In h → h.Ns mainGlobals mg → mg d.name = some (.ref fa) → Tp w (K w.params) mg ∧ ∃ fd : FuncData, Fun (K w.params) "law" "law" s_law fa fd ∧ ∀ (s : Shared) (u : Value), BindsTo s fd ⟨[u], []⟩ [("_law_script", u)]) :
    PySem.W.WalkO q loose XP YP l.row.toRowW d [] (fun f vs => PySem.call f vs) :=
  L2.walk_of (n := 63) (k := 6) (x := "_law_script") (CX := fun w => L2.CX l.prog w) (sp := fun w => spLaw (K w.params)) hn (by decide) hdf ⟨rfl, by decide, by decide⟩ hY
    (fun w mg fa h KX G hmg => by
      obtain ⟨T, fd, F1, b⟩ := F w mg fa h KX G hmg
      exact ⟨fd, b, fun base _ _ => all_fns T F1⟩)
    (fun w H a ns hl _ hS => spL_script hS fun ms => law_ok ns hl ms)
    fun w H s e s' z => cx_no z
end K99
open PySem PySem.W PyProof.Rows
set_option maxRecDepth 100000 in
set_option maxHeartbeats 0 in
theorem PySem.Challenge.cw_plainshown_k99_errors_by_themselves_holds : PySem.Challenge.rw_plainshown_k99_errors_by_themselves.Holds := by
  w_on; o_law; k_head; (case hw => w_witness2)
  k_fill
  refine K99.walk (l := PySem.Challenge.rw_plainshown_k99_errors_by_themselves) rfl rfl (fun w h Y => PySem.W.kIn_of Y) ?F
  case F =>
    intro w mg fa h KX G hmg
    refine' K99.fin_mk KX G hmg ?a1 ?l1 ?c1 ?k1 ?a2 ?l2 ?c2 ?k2 ?a3 ?l3 ?c3 ?k3 ?a4 ?l4 ?c4 ?k4 ?a5 ?l5 ?c5 ?k5 ?a6 ?l6 ?c6 ?k6 ?a7 ?l7 ?c7 ?k7 ?a8 ?l8 ?c8 ?k8 ?z1 ?z2 ?z3 ?sa ?ea_NoFunction ?eb_NoFunction ?ec_NoFunction ?er_NoFunction ?ea_NoDeed ?eb_NoDeed ?ec_NoDeed ?er_NoDeed ?ea_NoCode ?eb_NoCode ?ec_NoCode ?er_NoCode ?ea_NoBegins ?eb_NoBegins ?ec_NoBegins ?er_NoBegins ?ea_Falls ?eb_Falls ?ec_Falls ?er_Falls ?ea_Astray ?eb_Astray ?ec_Astray ?er_Astray ?ea_NoHand ?eb_NoHand ?ec_NoHand ?er_NoHand ?ea_NoState ?eb_NoState ?ec_NoState ?er_NoState ?ea_NoStanding ?eb_NoStanding ?ec_NoStanding ?er_NoStanding ?ea_NoPicture ?eb_NoPicture ?ec_NoPicture ?er_NoPicture ?ea_NoNumber ?eb_NoNumber ?ec_NoNumber ?er_NoNumber ?ea_NoName ?eb_NoName ?ec_NoName ?er_NoName ?ea_NoLife ?eb_NoLife ?ec_NoLife ?er_NoLife ?ea_NoStop ?eb_NoStop ?ec_NoStop ?er_NoStop ?ea_NoTurns ?eb_NoTurns ?ec_NoTurns ?er_NoTurns ?ea_NoTurning ?eb_NoTurning ?ec_NoTurning ?er_NoTurning ?ea_NoThing ?eb_NoThing ?ec_NoThing ?er_NoThing ?ea_NoText ?eb_NoText ?ec_NoText ?er_NoText ?ea_NoTerm ?eb_NoTerm ?ec_NoTerm ?er_NoTerm ?ea_NoTask ?eb_NoTask ?ec_NoTask ?er_NoTask ?ea_NoWeather ?eb_NoWeather ?ec_NoWeather ?er_NoWeather ?ea_Unlike ?eb_Unlike ?ec_Unlike ?er_Unlike ?ea_TooWide ?eb_TooWide ?ec_TooWide ?er_TooWide ?ea_TooLong ?eb_TooLong ?ec_TooLong ?er_TooLong ?ea_TooLarge ?eb_TooLarge ?ec_TooLarge ?er_TooLarge ?ea_NoWorlds ?eb_NoWorlds ?ec_NoWorlds ?er_NoWorlds ?ea_NoWords ?eb_NoWords ?ec_NoWords ?er_NoWords ?z4 ?ea_NoWay ?er_NoWay ?iC ?rI ?iS ?iX ?iT ?iK ?iF ?iY ?iL ?iC2 ?iK2 ?iR ?iG ?iV ?rX ?z5 ?z6 ?z7
    (case a1 => k_is)
    (case l1 => k_is)
    (case c1 => k_is)
    (case k1 => k_is)
    (case a2 => k_is)
    (case l2 => k_is)
    (case c2 => k_is)
    (case k2 => k_is)
    (case a3 => k_is)
    (case l3 => k_is)
    (case c3 => k_is)
    (case k3 => k_is)
    (case a4 => k_is)
    (case l4 => k_is)
    (case c4 => k_is)
    (case k4 => k_is)
    (case a5 => k_is)
    (case l5 => k_is)
    (case c5 => k_is)
    (case k5 => k_is)
    (case a6 => k_is)
    (case l6 => k_is)
    (case c6 => k_is)
    (case k6 => k_is)
    (case a7 => k_is)
    (case l7 => k_is)
    (case c7 => k_is)
    (case k7 => k_is)
    (case a8 => k_is)
    (case l8 => k_is)
    (case c8 => k_is)
    (case k8 => k_is)
    (case z1 => k_is)
    (case z2 => k_is)
    (case z3 => k_is)
    (case sa => k_is)
    (case ea_NoFunction => k_is)
    (case eb_NoFunction => k_exc)
    (case ec_NoFunction => k_is)
    (case er_NoFunction => kernel_rfl)
    (case ea_NoDeed => k_is)
    (case eb_NoDeed => k_exc)
    (case ec_NoDeed => k_is)
    (case er_NoDeed => kernel_rfl)
    (case ea_NoCode => k_is)
    (case eb_NoCode => k_exc)
    (case ec_NoCode => k_is)
    (case er_NoCode => kernel_rfl)
    (case ea_NoBegins => k_is)
    (case eb_NoBegins => k_exc)
    (case ec_NoBegins => k_is)
    (case er_NoBegins => kernel_rfl)
    (case ea_Falls => k_is)
    (case eb_Falls => k_exc)
    (case ec_Falls => k_is)
    (case er_Falls => kernel_rfl)
    (case ea_Astray => k_is)
    (case eb_Astray => k_exc)
    (case ec_Astray => k_is)
    (case er_Astray => kernel_rfl)
    (case ea_NoHand => k_is)
    (case eb_NoHand => k_exc)
    (case ec_NoHand => k_is)
    (case er_NoHand => kernel_rfl)
    (case ea_NoState => k_is)
    (case eb_NoState => k_exc)
    (case ec_NoState => k_is)
    (case er_NoState => kernel_rfl)
    (case ea_NoStanding => k_is)
    (case eb_NoStanding => k_exc)
    (case ec_NoStanding => k_is)
    (case er_NoStanding => kernel_rfl)
    (case ea_NoPicture => k_is)
    (case eb_NoPicture => k_exc)
    (case ec_NoPicture => k_is)
    (case er_NoPicture => kernel_rfl)
    (case ea_NoNumber => k_is)
    (case eb_NoNumber => k_exc)
    (case ec_NoNumber => k_is)
    (case er_NoNumber => kernel_rfl)
    (case ea_NoName => k_is)
    (case eb_NoName => k_exc)
    (case ec_NoName => k_is)
    (case er_NoName => kernel_rfl)
    (case ea_NoLife => k_is)
    (case eb_NoLife => k_exc)
    (case ec_NoLife => k_is)
    (case er_NoLife => kernel_rfl)
    (case ea_NoStop => k_is)
    (case eb_NoStop => k_exc)
    (case ec_NoStop => k_is)
    (case er_NoStop => kernel_rfl)
    (case ea_NoTurns => k_is)
    (case eb_NoTurns => k_exc)
    (case ec_NoTurns => k_is)
    (case er_NoTurns => kernel_rfl)
    (case ea_NoTurning => k_is)
    (case eb_NoTurning => k_exc)
    (case ec_NoTurning => k_is)
    (case er_NoTurning => kernel_rfl)
    (case ea_NoThing => k_is)
    (case eb_NoThing => k_exc)
    (case ec_NoThing => k_is)
    (case er_NoThing => kernel_rfl)
    (case ea_NoText => k_is)
    (case eb_NoText => k_exc)
    (case ec_NoText => k_is)
    (case er_NoText => kernel_rfl)
    (case ea_NoTerm => k_is)
    (case eb_NoTerm => k_exc)
    (case ec_NoTerm => k_is)
    (case er_NoTerm => kernel_rfl)
    (case ea_NoTask => k_is)
    (case eb_NoTask => k_exc)
    (case ec_NoTask => k_is)
    (case er_NoTask => kernel_rfl)
    (case ea_NoWeather => k_is)
    (case eb_NoWeather => k_exc)
    (case ec_NoWeather => k_is)
    (case er_NoWeather => kernel_rfl)
    (case ea_Unlike => k_is)
    (case eb_Unlike => k_exc)
    (case ec_Unlike => k_is)
    (case er_Unlike => kernel_rfl)
    (case ea_TooWide => k_is)
    (case eb_TooWide => k_exc)
    (case ec_TooWide => k_is)
    (case er_TooWide => kernel_rfl)
    (case ea_TooLong => k_is)
    (case eb_TooLong => k_exc)
    (case ec_TooLong => k_is)
    (case er_TooLong => kernel_rfl)
    (case ea_TooLarge => k_is)
    (case eb_TooLarge => k_exc)
    (case ec_TooLarge => k_is)
    (case er_TooLarge => kernel_rfl)
    (case ea_NoWorlds => k_is)
    (case eb_NoWorlds => k_exc)
    (case ec_NoWorlds => k_is)
    (case er_NoWorlds => kernel_rfl)
    (case ea_NoWords => k_is)
    (case eb_NoWords => k_exc)
    (case ec_NoWords => k_is)
    (case er_NoWords => kernel_rfl)
    (case z4 => k_is)
    (case ea_NoWay => k_is)
    (case er_NoWay => kernel_rfl)
    (case iC => k_is)
    (case rI => kernel_rfl)
    (case iS => k_is)
    (case iX => k_is)
    (case iT => k_is)
    (case iK => k_is)
    (case iF => k_is)
    (case iY => k_is)
    (case iL => k_is)
    (case iC2 => k_is)
    (case iK2 => k_is)
    (case iR => k_is)
    (case iG => k_is)
    (case iV => k_is)
    (case rX => kernel_rfl)
    (case z5 => k_is)
    (case z6 => k_is)
    (case z7 => k_is)

