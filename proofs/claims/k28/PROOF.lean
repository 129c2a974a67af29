import PyProof.Rows.All
import Wide.All
import OpenK.AllK
import Wide.FinOn
import KE.KExcSuper
import HandS.ForMost
import HandS.Exc
import HandS.ExcInit
import HandS.WordsExc
import HandS.Walk
import HandS.IsInst
import HandS.Lambda
import HandS.Base
import HandS.Call
import HandS.List
import HandS.ExcIs
import HandS.ExcField
import HandS.Words
import HandS.ExcOwn
import HandS.ExcValue
import HandS.Zip
import HandS.TupAny
import HandS.Deep
import HandS.Codes
import HandS.Conv
import HandS.DictComp
import HandS.More
import HandS.TryMany
import HandS.Style
import KE.DataFind
import HandS.SortRule
import KE.LtSeq
import KE.DataEq
import PyProof.Rows.SortKeyStr
import HandS.HeadHook4
import HandS.HeadWalk
import HandS.Head2
import HandS.Defaults
import PySem.Challenge.RW_tallytold_k28_patterns_refused_among_kno
set_option Elab.async false
set_option linter.all false
set_option maxRecDepth 100000
set_option maxHeartbeats 4000000
namespace EV
open PySem PySem.Spec PyProof.Rows L2

/-! ### places, values, cells, the heap as a tree -/
inductive Bn where
  | z | s (b : Bn) | t (b : Bn)
  deriving DecidableEq
namespace Bn
def suc : Bn → Bn
  | z => s z
  | s b => t b
  | t b => s b.suc
def nat : Bn → Nat
  | z => 0
  | s b => 2 * b.nat + 1
  | t b => 2 * b.nat + 2
theorem nat_suc : ∀ b : Bn, b.suc.nat = b.nat + 1
  | z => rfl
  | s b => rfl
  | t b => by
    show 2 * b.suc.nat + 1 = 2 * b.nat + 2 + 1
    rw [nat_suc b]
    omega
end Bn

/-- built-in types by number -/
def tyN : Nat → String
  | 0 => "int" | 1 => "bool" | 2 => "str" | 3 => "list" | 4 => "tuple" | 5 => "dict" | 6 => "NoneType" | 7 => "ValueError" | 8 => "LookupError" | 9 => "TypeError" | 10 => "ArithmeticError"
  | _ => "object"
inductive A where
  | non | bl (b : Bool) | int (i : Int) | str (x : Str) | ty (n : Nat) | loc (l : Bn) | glo (g : Nat) | tup (xs : List A)

inductive Cell where
  | lst (xs : List A)
  | dct (kvs : List (A × A))
  | dic (kvs : List (A × A))
  | ins (C : Nat) (fs : List (Str × A))
  | exc (C : Nat) (fs : List (Str × A))
  | lam (n : Nat)

inductive Tr where
  | e | b (v : Option Cell) (l r : Tr)
namespace Tr
def get : Bn → Tr → Option Cell
  | _, e => none
  | .z, b v _ _ => v
  | .s i, b _ l _ => get i l
  | .t i, b _ _ r => get i r
def put : Bn → Cell → Tr → Tr
  | .z, c, e => b (some c) e e
  | .z, c, b _ l r => b (some c) l r
  | .s i, c, e => b none (put i c e) e
  | .s i, c, b v l r => b v (put i c l) r
  | .t i, c, e => b none e (put i c e)
  | .t i, c, b v l r => b v l (put i c r)
theorem get_e : ∀ i : Bn, get i e = none
  | .z => rfl
  | .s _ => rfl
  | .t _ => rfl
theorem get_put (c : Cell) : ∀ (i j : Bn) (t : Tr), get j (put i c t) = if j = i then some c else get j t
  | .z, .z, e => rfl
  | .z, .z, b _ _ _ => rfl
  | .z, .s j, e => by rw [if_neg (by intro h; cases h)]; exact get_e j
  | .z, .s j, b _ _ _ => by rw [if_neg (by intro h; cases h)]; rfl
  | .z, .t j, e => by rw [if_neg (by intro h; cases h)]; exact get_e j
  | .z, .t j, b _ _ _ => by rw [if_neg (by intro h; cases h)]; rfl
  | .s i, .z, e => by rw [if_neg (by intro h; cases h)]; rfl
  | .s i, .z, b _ _ _ => by rw [if_neg (by intro h; cases h)]; rfl
  | .s i, .s j, e => by
    show get j (put i c e) = _
    rw [get_put c i j e]
    by_cases h : j = i
    · rw [if_pos h, if_pos (by rw [h])]
    · rw [if_neg h, if_neg (by intro q; cases q; exact h rfl), get_e]; rfl
  | .s i, .s j, b _ l _ => by
    show get j (put i c l) = _
    rw [get_put c i j l]
    by_cases h : j = i
    · rw [if_pos h, if_pos (by rw [h])]
    · rw [if_neg h, if_neg (by intro q; cases q; exact h rfl)]; rfl
  | .s i, .t j, e => by rw [if_neg (by intro h; cases h)]; exact get_e j
  | .s i, .t j, b _ _ _ => by rw [if_neg (by intro h; cases h)]; rfl
  | .t i, .z, e => by rw [if_neg (by intro h; cases h)]; rfl
  | .t i, .z, b _ _ _ => by rw [if_neg (by intro h; cases h)]; rfl
  | .t i, .s j, e => by rw [if_neg (by intro h; cases h)]; exact get_e j
  | .t i, .s j, b _ _ _ => by rw [if_neg (by intro h; cases h)]; rfl
  | .t i, .t j, e => by
    show get j (put i c e) = _
    rw [get_put c i j e]
    by_cases h : j = i
    · rw [if_pos h, if_pos (by rw [h])]
    · rw [if_neg h, if_neg (by intro q; cases q; exact h rfl), get_e]; rfl
  | .t i, .t j, b _ _ r => by
    show get j (put i c r) = _
    rw [get_put c i j r]
    by_cases h : j = i
    · rw [if_pos h, if_pos (by rw [h])]
    · rw [if_neg h, if_neg (by intro q; cases q; exact h rfl)]; rfl
end Tr
/-- the next place, the cells, how many draws there may have been -/
structure Hh where
  nx : Bn
  t : Tr
  cnt : Nat
def Hh.get (h : Hh) (l : Bn) : Option Cell := h.t.get l
def Hh.put (h : Hh) (l : Bn) (c : Cell) : Hh := ⟨h.nx, h.t.put l c, h.cnt⟩
def Hh.new (h : Hh) (c : Cell) : Hh := ⟨h.nx.suc, h.t.put h.nx c, h.cnt⟩
theorem Hh.get_put (h : Hh) (l j : Bn) (c : Cell) : (h.put l c).get j = if j = l then some c else h.get j := Tr.get_put c l j h.t
theorem Hh.get_new (h : Hh) (j : Bn) (c : Cell) : (h.new c).get j = if j = h.nx then some c else h.get j := Tr.get_put c h.nx j h.t

/-! ### outcomes -/
inductive Out (α : Type) where
  | ok (a : α) (h : Hh)
  | exc (C : Nat) (fs : List (Str × A)) (h : Hh)
  | bad
  | pick (n : Nat) (k : Nat → Out α)
namespace Out
def bind {α β : Type} (m : Out α) (f : α → Hh → Out β) : Out β := match m with
  | ok a h => f a h
  | exc C fs h => exc C fs h
  | bad => bad
  | pick n k => pick n fun r => bind (k r) f
def All {α : Type} (P : α → Hh → Prop) (X : Nat → List (Str × A) → Hh → Prop) : Out α → Prop
  | ok a h => P a h
  | exc C fs h => X C fs h
  | bad => False
  | pick n k => ∀ r, r < n → All P X (k r)
theorem All.mono {α : Type} {P P' : α → Hh → Prop} {X X' : Nat → List (Str × A) → Hh → Prop} (hp : ∀ a h, P a h → P' a h) (hx : ∀ C fs h, X C fs h → X' C fs h) : ∀ {m : Out α}, m.All P X → m.All P' X'
  | ok a h, q => hp a h q
  | exc C fs h, q => hx C fs h q
  | bad, q => q
  | pick n k, q => fun r hr => All.mono hp hx (q r hr)
/-- what no exception may leave -/
def nox {α : Type} : Out α → Out α
  | ok a h => ok a h
  | exc _ _ _ => bad
  | bad => bad
  | pick n k => pick n fun r => nox (k r)
theorem all_nox {α : Type} {P : α → Hh → Prop} {X X' : Nat → List (Str × A) → Hh → Prop} : ∀ {m : Out α}, m.nox.All P X → m.All P X'
  | ok a h, q => q
  | exc C fs h, q => q.elim
  | bad, q => q
  | pick n k, q => fun r hr => all_nox (q r hr)
theorem all_bind {α β : Type} {P : β → Hh → Prop} {X : Nat → List (Str × A) → Hh → Prop} {f : α → Hh → Out β} : ∀ {m : Out α}, (m.bind f).All P X → m.All (fun a h => (f a h).All P X) X
  | ok a h, q => q
  | exc C fs h, q => q
  | bad, q => q
  | pick n k, q => fun r hr => all_bind (q r hr)
end Out

/-! ### the scene: the written part, static addresses, what stands apart -/
/-- a lambda of the text: its qualified name, its parts -/
structure LamT where
  q : Str
  params : Arguments
  body : Expr
  scope : Scope
/-- the lambda's function object at a, its code object at c -/
def LamO (t : LamT) (a c : Addr) : HO := .ext fun h => ∃ pm ctv, h.get? a = some (PySem.W.kla_obj "<lambda>" t.q t.params t.body t.scope [] pm c ctv)
structure Sc where
  K : PySem.W.Frag
  /-- fields whose tuple is known to have no dict of its own -/
  tz : List Str
  G : Nat → Option Addr
  lam : Nat → Option LamT
  F : List Addr
  Φ : Nat → Hp → Prop
  stab : ∀ m H H', Φ m H → (∀ a ∈ F, H' a = H a) → (∀ b φ, H b = some (.ext φ) → H' b = some (.ext φ)) → Φ m H'
  trk : ∀ m H, Φ m H → ∀ a ∈ F, ∃ o, H a = some o
  wid : ∀ m m' H, Φ m H → m ≤ m' → Φ m' H
abbrev Rho := Bn → Option Addr
section
variable (S : Sc)
mutual
def Rel (ρ : Rho) (H : Hp) : A → V → Prop
  | .non, v => v = .non
  | .bl b, v => v = .bl b
  | .int i, v => v = .int i
  | .str x, v => v = .str x
  | .ty n, v => v = .ty (tyN n)
  | .loc l, v => ∃ a, ρ l = some a ∧ v = .ref a
  | .glo g, v => ∃ a, S.G g = some a ∧ v = .ref a
  | .tup xs, v => ∃ a vs, v = .ref a ∧ SqT S.K H a vs ∧ Rels ρ H xs vs
def Rels (ρ : Rho) (H : Hp) : List A → List V → Prop
  | [], vs => vs = []
  | x :: xs, vs => ∃ v r, vs = v :: r ∧ Rel ρ H x v ∧ Rels ρ H xs r
end
/-- later: more places, tuples as they were -/
structure Ext (ρ : Rho) (H : Hp) (ρ' : Rho) (H' : Hp) : Prop where
  le : ∀ l a, ρ l = some a → ρ' l = some a
  tu : ∀ a vs, SqT S.K H a vs → SqT S.K H' a vs
  fz : ∀ a o u, H a = some (.frz o u) → H' a = some (.frz o u)
end
section
variable {S : Sc} {ρ ρ' ρ1 : Rho} {H H' H1 : Hp}
theorem Ext.refl : Ext S ρ H ρ H := ⟨fun _ _ h => h, fun _ _ h => h, fun _ _ _ h => h⟩
theorem Ext.trans (a : Ext S ρ H ρ1 H1) (b : Ext S ρ1 H1 ρ' H') : Ext S ρ H ρ' H' := ⟨fun l x h => b.le l x (a.le l x h), fun x vs h => b.tu x vs (a.tu x vs h), fun x o u h => b.fz x o u (a.fz x o u h)⟩
mutual
theorem Rel.mono (e : Ext S ρ H ρ' H') : ∀ {x : A} {v : V}, Rel S ρ H x v → Rel S ρ' H' x v
  | .non, _, h => h
  | .bl _, _, h => h
  | .int _, _, h => h
  | .str _, _, h => h
  | .ty _, _, h => h
  | .loc l, _, ⟨a, h1, h2⟩ => ⟨a, e.le _ _ h1, h2⟩
  | .glo _, _, h => h
  | .tup xs, _, ⟨a, vs, h1, h2, h3⟩ => ⟨a, vs, h1, e.tu _ _ h2, Rels.mono e h3⟩
theorem Rels.mono (e : Ext S ρ H ρ' H') : ∀ {xs : List A} {vs : List V}, Rels S ρ H xs vs → Rels S ρ' H' xs vs
  | [], _, h => h
  | _ :: _, _, ⟨v, r, h1, h2, h3⟩ => ⟨v, r, h1, Rel.mono e h2, Rels.mono e h3⟩
end
theorem Rels.length : ∀ {xs : List A} {vs : List V}, Rels S ρ H xs vs → vs.length = xs.length
  | [], _, h => by rw [show _ = ([] : List V) from h]; rfl
  | _ :: _, _, ⟨v, r, h1, h2, h3⟩ => by rw [h1, List.length_cons, List.length_cons, Rels.length h3]
theorem Rels.append : ∀ {xs ys : List A} {vs us : List V}, Rels S ρ H xs vs → Rels S ρ H ys us → Rels S ρ H (xs ++ ys) (vs ++ us)
  | [], _, _, _, h, g => by rw [show _ = ([] : List V) from h]; exact g
  | _ :: _, _, _, _, ⟨v, r, h1, h2, h3⟩, g => ⟨v, r ++ _, by rw [h1]; rfl, h2, Rels.append h3 g⟩
theorem Rels.one {x : A} {v : V} (h : Rel S ρ H x v) : Rels S ρ H [x] [v] := ⟨v, [], rfl, h, rfl⟩
theorem Rels.get : ∀ {xs : List A} {vs : List V} {i : Nat} {v : V}, Rels S ρ H xs vs → vs[i]? = some v → ∃ x, xs[i]? = some x ∧ Rel S ρ H x v
  | [], _, i, v, h, e => by rw [show _ = ([] : List V) from h] at e; simp at e
  | x :: _, _, 0, v, ⟨w, r, h1, h2, h3⟩, e => by
    rw [h1] at e
    simp at e
    subst e
    exact ⟨x, rfl, h2⟩
  | _ :: _, _, i + 1, v, ⟨w, r, h1, h2, h3⟩, e => by
    rw [h1] at e
    simp at e
    obtain ⟨y, q1, q2⟩ := Rels.get (i := i) h3 e
    exact ⟨y, by simpa using q1, q2⟩
theorem Rels.getA : ∀ {xs : List A} {vs : List V} {i : Nat} {x : A}, Rels S ρ H xs vs → xs[i]? = some x → ∃ v, vs[i]? = some v ∧ Rel S ρ H x v
  | [], _, i, x, h, e => by simp at e
  | x :: _, _, 0, y, ⟨w, r, h1, h2, h3⟩, e => by
    simp at e
    subst e
    exact ⟨w, by rw [h1]; rfl, h2⟩
  | _ :: _, _, i + 1, y, ⟨w, r, h1, h2, h3⟩, e => by
    simp at e
    obtain ⟨v, q1, q2⟩ := Rels.getA (i := i) h3 e
    exact ⟨v, by rw [h1]; simpa using q1, q2⟩
end
/-- fields by name -/
def RelF (S : Sc) (ρ : Rho) (H : Hp) : List (Str × A) → List (Str × V) → Prop
  | [], vs => vs = []
  | (f, x) :: xs, vs => ∃ v r, vs = (f, v) :: r ∧ Rel S ρ H x v ∧ RelF S ρ H xs r
section
variable {S : Sc} {ρ ρ' : Rho} {H H' : Hp}
theorem RelF.mono (e : Ext S ρ H ρ' H') : ∀ {xs : List (Str × A)} {vs : List (Str × V)}, RelF S ρ H xs vs → RelF S ρ' H' xs vs
  | [], _, h => h
  | (_, _) :: _, _, ⟨v, r, h1, h2, h3⟩ => ⟨v, r, h1, Rel.mono e h2, RelF.mono e h3⟩
theorem RelF.look {f : Str} : ∀ {xs : List (Str × A)} {vs : List (Str × V)}, RelF S ρ H xs vs → (∀ x, xs.lookup f = some x → ∃ v, vs.lookup f = some v ∧ Rel S ρ H x v) ∧ (xs.lookup f = none → vs.lookup f = none)
  | [], vs, h => by
    rw [show vs = [] from h]
    exact ⟨fun x e => by simp at e, fun _ => rfl⟩
  | (g, y) :: xs, vs, ⟨v, r, h1, h2, h3⟩ => by
    subst h1
    have ih := RelF.look (f := f) h3
    by_cases q : f = g
    · subst q
      refine ⟨fun x e => ⟨v, by simp [List.lookup], ?_⟩, fun e => ?_⟩
      · simp [List.lookup] at e
        subst e
        exact h2
      · simp [List.lookup] at e
    · have eb : (f == g) = false := by simpa using q
      simp only [List.lookup, eb]
      exact ih
end
/-- keys of dicts -/
def keyOf : A → Option Key
  | .int i => some (.inl i)
  | .str x => some (.inr x)
  | _ => none
def keysOf : List A → Option (List Key)
  | [] => some []
  | x :: xs => (keyOf x).bind fun k => (keysOf xs).map (k :: ·)
def RelK (S : Sc) (ρ : Rho) (H : Hp) : List (A × A) → List (Key × V) → Prop
  | [], vs => vs = []
  | (k, x) :: xs, vs => ∃ c v r, vs = (c, v) :: r ∧ keyOf k = some c ∧ Rel S ρ H x v ∧ RelK S ρ H xs r
def RelT (S : Sc) (ρ : Rho) (H : Hp) : List (A × A) → List (List Key × V) → Prop
  | [], vs => vs = []
  | (k, x) :: xs, vs => ∃ ks c v r, vs = (c, v) :: r ∧ k = .tup ks ∧ keysOf ks = some c ∧ Rel S ρ H x v ∧ RelT S ρ H xs r
section
variable {S : Sc} {ρ ρ' : Rho} {H H' : Hp}
theorem RelK.mono (e : Ext S ρ H ρ' H') : ∀ {xs : List (A × A)} {vs : List (Key × V)}, RelK S ρ H xs vs → RelK S ρ' H' xs vs
  | [], _, h => h
  | (_, _) :: _, _, ⟨c, v, r, h1, h2, h3, h4⟩ => ⟨c, v, r, h1, h2, Rel.mono e h3, RelK.mono e h4⟩
theorem RelT.mono (e : Ext S ρ H ρ' H') : ∀ {xs : List (A × A)} {vs : List (List Key × V)}, RelT S ρ H xs vs → RelT S ρ' H' xs vs
  | [], _, h => h
  | (_, _) :: _, _, ⟨ks, c, v, r, h1, h2, h3, h4, h5⟩ => ⟨ks, c, v, r, h1, h2, h3, Rel.mono e h4, RelT.mono e h5⟩
end
/-- an exception's own dict -/
def XdOk (S : Sc) (ρ : Rho) (H : Hp) (fs : List (Str × A)) (d : Option Addr) : Prop := (fs = [] ∧ d = none) ∨ ∃ dx vs, d = some dx ∧ H dx = some (.xd vs) ∧ RelF S ρ H fs vs
def TZv (H : Hp) (v : V) : Prop := ∃ p o xs, v = .ref p ∧ H p = some (.frz o (.tup xs)) ∧ o.dict = none
def TzOk (S : Sc) (H : Hp) (vs : List (Str × V)) : Prop := ∀ f v, f ∈ S.tz → vs.lookup f = some v → TZv H v
theorem TzOk.mono {S : Sc} {ρ ρ' : Rho} {H H' : Hp} {vs : List (Str × V)} (e : Ext S ρ H ρ' H') (t : TzOk S H vs) : TzOk S H' vs := fun f v h1 h2 => by
  obtain ⟨p, o, xs, q1, q2, q3⟩ := t f v h1 h2
  exact ⟨p, o, xs, q1, e.fz _ _ _ q2, q3⟩
def COk (S : Sc) (ρ : Rho) (H : Hp) (c : Cell) (a : Addr) : Prop := match c with
  | .lst xs => ∃ vs, H a = some (.lst vs) ∧ Rels S ρ H xs vs
  | .dct kvs => ∃ o vs, H a = some (.frz o (.dK vs)) ∧ RelK S ρ H kvs vs
  | .dic kvs => ∃ vs, H a = some (.dK vs) ∧ RelK S ρ H kvs vs
  | .lam n => ∃ t c, S.lam n = some t ∧ H a = some (LamO t a c) ∧ H c = some (LamX.CodeO c t.q)
  | .ins C fs => ∃ Ca dx vs, S.G C = some Ca ∧ H a = some (.ins Ca dx vs) ∧ RelF S ρ H fs vs ∧ TzOk S H vs
  | .exc C fs => ∃ Ca, S.G C = some Ca ∧ ((fs = [] ∧ H a = some (exo a Ca none)) ∨ ∃ d vs, H a = some (exo a Ca (some d)) ∧ H d = some (exd d vs) ∧ RelF S ρ H fs vs)
structure Rep (S : Sc) (ρ : Rho) (h : Hh) (H : Hp) : Prop where
  cell : ∀ l c, h.get l = some c → ∃ a, ρ l = some a ∧ COk S ρ H c a
  dom : ∀ l a, ρ l = some a → ∃ c, h.get l = some c
  inj : ∀ l l' a, ρ l = some a → ρ l' = some a → l = l'
  fresh : ∀ l c, h.get l = some c → l.nat < h.nx.nat
  fo : S.Φ h.cnt H
  foF : ∀ l a, ρ l = some a → a ∉ S.F

/-! ### how the abstract heap may turn -/
/-- an address of a list, a dict, an instance: what may be written -/
def Wr (o : HO) : Prop := match o with
  | .lst _ => True
  | .dK _ => True
  | .dT _ => True
  | .ins _ _ _ => True
  | _ => False
section
variable {S : Sc} {ρ ρ' : Rho} {H H' : Hp} {h : Hh}
theorem sqT_new {p : Addr} {o : HO} (n : H p = none) : ∀ a vs, SqT S.K H a vs → SqT S.K (upd H p o) a vs := fun a vs q => by
  rcases q with (q | ⟨ob, q⟩) | q
  · exact .inl (.inl (by rw [upd_ne (ne_of_none q n)]; exact q))
  · exact .inl (.inr ⟨ob, by rw [upd_ne (ne_of_none q n)]; exact q⟩)
  · exact .inr q
theorem fz_new {p : Addr} {o : HO} (n : H p = none) : ∀ a q u, H a = some (.frz q u) → upd H p o a = some (.frz q u) := fun a q u z => by rw [upd_ne (ne_of_none z n)]; exact z
theorem fz_wr {p : Addr} {o o' : HO} (n : H p = some o) (w : Wr o) : ∀ a q u, H a = some (.frz q u) → upd H p o' a = some (.frz q u) := fun a q u z => by rw [upd_ne (ne_of z n (by rintro rfl; exact w))]; exact z
theorem ext_wr {p : Addr} {o o' : HO} (n : H p = some o) (w : Wr o) : ∀ b φ, H b = some (.ext φ) → upd H p o' b = some (.ext φ) := fun b φ z => by rw [upd_ne (ne_of z n (by rintro rfl; exact w))]; exact z
theorem sqT_wr {p : Addr} {o o' : HO} (n : H p = some o) (w : Wr o) : ∀ a vs, SqT S.K H a vs → SqT S.K (upd H p o') a vs := fun a vs q => by
  rcases q with (q | ⟨ob, q⟩) | q
  · exact .inl (.inl (by rw [upd_ne (ne_of q n (by rintro rfl; exact w))]; exact q))
  · exact .inl (.inr ⟨ob, by rw [upd_ne (ne_of q n (by rintro rfl; exact w))]; exact q⟩)
  · exact .inr q
/-- a cell stays where its own address and, of an exception, its dict's, stay -/
theorem COk.stay {c : Cell} {a : Addr} (x : COk S ρ H c a) (e : Ext S ρ H ρ' H') (k : ∀ b o, H b = some o → (b = a ∨ ∃ φ, o = HO.ext φ) → H' b = some o) : COk S ρ' H' c a := by
  cases c with
  | lst xs =>
    obtain ⟨vs, q, r⟩ := x
    exact ⟨vs, k _ _ q (.inl rfl), Rels.mono e r⟩
  | dct kvs =>
    obtain ⟨o, vs, q, r⟩ := x
    exact ⟨o, vs, k _ _ q (.inl rfl), RelK.mono e r⟩
  | dic kvs =>
    obtain ⟨vs, q, r⟩ := x
    exact ⟨vs, k _ _ q (.inl rfl), RelK.mono e r⟩
  | lam n =>
    obtain ⟨t, c, g, q, r⟩ := x
    exact ⟨t, c, g, k _ _ q (.inl rfl), k _ _ r (.inr ⟨_, rfl⟩)⟩
  | ins C fs =>
    obtain ⟨Ca, dx, vs, g, q, r⟩ := x
    exact ⟨Ca, dx, vs, g, k _ _ q (.inl rfl), RelF.mono e r.1, r.2.mono e⟩
  | exc C fs =>
    obtain ⟨Ca, g, x⟩ := x
    refine ⟨Ca, g, ?_⟩
    rcases x with ⟨z, q⟩ | ⟨d, vs, q, q2, r⟩
    · exact .inl ⟨z, k _ _ q (.inl rfl)⟩
    · exact .inr ⟨d, vs, k _ _ q (.inl rfl), k _ _ q2 (.inr ⟨_, rfl⟩), RelF.mono e r⟩
theorem COk.noTbl {c : Cell} {a : Addr} {u : HO} (x : COk S ρ H c a) (z : H a = some u) : ∀ ps, u ≠ .tbl ps := by
  cases c with
  | lst xs => obtain ⟨vs, q, r⟩ := x; rw [z] at q; cases q; nofun
  | dct kvs => obtain ⟨o, vs, q, r⟩ := x; rw [z] at q; cases q; nofun
  | dic kvs => obtain ⟨vs, q, r⟩ := x; rw [z] at q; cases q; nofun
  | lam n => obtain ⟨t, c, g, q, r⟩ := x; rw [z] at q; cases q; exact fun ps e => by unfold LamO at e; cases e
  | ins C fs => obtain ⟨Ca, dx, vs, g, q, r⟩ := x; rw [z] at q; cases q; nofun
  | exc C fs =>
    obtain ⟨Ca, g, x⟩ := x
    rcases x with ⟨_, q⟩ | ⟨d, vs, q, q2, r⟩
    · rw [z] at q; cases q; exact fun ps e => by unfold exo at e; cases e
    · rw [z] at q; cases q; exact fun ps e => by unfold exo at e; cases e
/-- something new that no cell tells of -/
theorem Rep.more {p : Addr} {o : HO} (R : Rep S ρ h H) (n : H p = none) : Rep S ρ h (upd H p o) where
  cell := fun l c q => by
    obtain ⟨a, q1, q2⟩ := R.cell l c q
    exact ⟨a, q1, q2.stay ⟨fun _ _ z => z, sqT_new n, fz_new n⟩ fun b u z _ => by rw [upd_ne (ne_of_none z n)]; exact z⟩
  dom := R.dom
  inj := R.inj
  fresh := R.fresh
  fo := S.stab _ _ _ R.fo (fun a ha => by
    obtain ⟨u, hu⟩ := S.trk _ _ R.fo a ha
    rw [upd_ne (ne_of_none hu n)]) fun b φ z => by rw [upd_ne (ne_of_none z n)]; exact z
  foF := R.foF
theorem Ext.more {p : Addr} {o : HO} (n : H p = none) : Ext S ρ H ρ (upd H p o) := ⟨fun _ _ z => z, sqT_new n, fz_new n⟩
/-- a place more -/
def rhoNew (ρ : Rho) (l : Bn) (p : Addr) : Rho := fun j => if j = l then some p else ρ j
theorem Rep.nxNone (R : Rep S ρ h H) : ρ h.nx = none := by
  cases q : ρ h.nx with
  | none => rfl
  | some a =>
    obtain ⟨c, e⟩ := R.dom _ _ q
    exact absurd (R.fresh _ _ e) (Nat.lt_irrefl _)
theorem Ext.new {p : Addr} {o : HO} (R : Rep S ρ h H) (n : H p = none) : Ext S ρ H (rhoNew ρ h.nx p) (upd H p o) := ⟨fun l a z => by
    unfold rhoNew
    rw [if_neg (fun e => by rw [e, R.nxNone] at z; cases z)]
    exact z, sqT_new n, fz_new n⟩
/-- a new cell: H' is H with p and, perhaps, other new addresses -/
theorem Rep.newN {p : Addr} {c : Cell} (R : Rep S ρ h H) (n : H p = none) (k : LamX.ExtN H H') (fo : S.Φ h.cnt H') (hc : COk S (rhoNew ρ h.nx p) H' c p) : Rep S (rhoNew ρ h.nx p) (h.new c) H' where
  cell := fun l c' q => by
    rw [Hh.get_new] at q
    by_cases e : l = h.nx
    · rw [if_pos e] at q
      cases q
      exact ⟨p, by unfold rhoNew; rw [if_pos e], hc⟩
    · rw [if_neg e] at q
      obtain ⟨a, q1, q2⟩ := R.cell l c' q
      refine ⟨a, by unfold rhoNew; rw [if_neg e]; exact q1, q2.stay ⟨fun j b z => ?_, fun b vs z => ?_, fun b o u z => k _ _ z nofun⟩ fun b u z zz => k b u z ?_⟩
      · unfold rhoNew
        rw [if_neg (fun e => by rw [e, R.nxNone] at z; cases z)]
        exact z
      · rcases z with (z | ⟨ob, z⟩) | z
        · exact .inl (.inl (k _ _ z nofun))
        · exact .inl (.inr ⟨ob, k _ _ z nofun⟩)
        · exact .inr z
      · rcases zz with zz | ⟨φ, zz⟩
        · rw [zz] at z
          exact COk.noTbl q2 z
        · rw [zz]; nofun
  dom := fun l a q => by
    unfold rhoNew at q
    rw [Hh.get_new]
    by_cases e : l = h.nx
    · rw [if_pos e]
      exact ⟨c, rfl⟩
    · rw [if_neg e] at q ⊢
      exact R.dom l a q
  inj := fun l l' a q q' => by
    have key : ∀ j, ρ j = some p → False := fun j z => by
      obtain ⟨c0, z2⟩ := R.dom j p z
      obtain ⟨a0, z3, z4⟩ := R.cell j c0 z2
      rw [z] at z3
      cases z3
      cases c0 with
      | lst xs => obtain ⟨vs, y, _⟩ := z4; rw [n] at y; cases y
      | dct kvs => obtain ⟨_, vs, y, _⟩ := z4; rw [n] at y; cases y
      | dic kvs => obtain ⟨vs, y, _⟩ := z4; rw [n] at y; cases y
      | lam _ => obtain ⟨_, _, _, y, _⟩ := z4; rw [n] at y; cases y
      | ins C fs => obtain ⟨_, _, vs, _, y, _⟩ := z4; rw [n] at y; cases y
      | exc C fs =>
        obtain ⟨_, _, z4⟩ := z4
        rcases z4 with ⟨_, y⟩ | ⟨_, _, y, _⟩
        · rw [n] at y; cases y
        · rw [n] at y; cases y
    unfold rhoNew at q q'
    by_cases e : l = h.nx
    · rw [if_pos e] at q
      cases q
      by_cases e' : l' = h.nx
      · rw [e, e']
      · rw [if_neg e'] at q'
        exact (key l' q').elim
    · rw [if_neg e] at q
      by_cases e' : l' = h.nx
      · rw [if_pos e'] at q'
        cases q'
        exact (key l q).elim
      · rw [if_neg e'] at q'
        exact R.inj l l' a q q'
  fresh := fun l c' q => by
    show l.nat < h.nx.suc.nat
    rw [Bn.nat_suc]
    rw [Hh.get_new] at q
    by_cases e : l = h.nx
    · rw [e]
      exact Nat.lt_succ_self _
    · rw [if_neg e] at q
      exact Nat.lt_succ_of_lt (R.fresh l c' q)
  fo := fo
  foF := fun l a q => by
    unfold rhoNew at q
    by_cases e : l = h.nx
    · rw [if_pos e] at q
      cases q
      intro ha
      obtain ⟨u, hu⟩ := S.trk _ _ R.fo _ ha
      rw [n] at hu
      cases hu
    · rw [if_neg e] at q
      exact R.foF l a q
theorem Rep.new' {p : Addr} {c : Cell} (R : Rep S ρ h H) (n : H p = none) (k : ∀ b o, H b = some o → H' b = some o) (hc : COk S (rhoNew ρ h.nx p) H' c p) : Rep S (rhoNew ρ h.nx p) (h.new c) H' :=
  R.newN n (LamX.ExtN.of k) (S.stab _ _ _ R.fo (fun a ha => by
    obtain ⟨u, hu⟩ := S.trk _ _ R.fo a ha
    rw [k a u hu, hu]) fun b φ z => k _ _ z) hc
theorem Rep.new {p : Addr} {o : HO} {c : Cell} (R : Rep S ρ h H) (n : H p = none) (hc : COk S (rhoNew ρ h.nx p) (upd H p o) c p) : Rep S (rhoNew ρ h.nx p) (h.new c) (upd H p o) :=
  R.new' n (fun b u z => by rw [upd_ne (ne_of_none z n)]; exact z) hc
/-- a cell is written -/
theorem Rep.put {l : Bn} {a : Addr} {o o' : HO} {c' : Cell} (R : Rep S ρ h H) (hl : ρ l = some a) (ha : H a = some o) (w : Wr o) (hc : COk S ρ (upd H a o') c' a) : Rep S ρ (h.put l c') (upd H a o') where
  cell := fun j c q => by
    rw [Hh.get_put] at q
    by_cases e : j = l
    · rw [if_pos e] at q
      cases q
      exact ⟨a, by rw [e]; exact hl, hc⟩
    · rw [if_neg e] at q
      obtain ⟨b, q1, q2⟩ := R.cell j c q
      have nb : b ≠ a := fun z => e (R.inj _ _ _ q1 (by rw [z]; exact hl))
      refine ⟨b, q1, q2.stay ⟨fun _ _ z => z, sqT_wr ha w, fz_wr ha w⟩ fun d u z hz => ?_⟩
      rcases hz with z1 | ⟨φ, z1⟩
      · rw [z1, upd_ne nb, ← z1]; exact z
      · rw [upd_ne (ne_of z ha (by rw [z1]; rintro rfl; exact w))]; exact z
  dom := fun j b q => by
    rw [Hh.get_put]
    by_cases e : j = l
    · rw [if_pos e]; exact ⟨_, rfl⟩
    · rw [if_neg e]; exact R.dom j b q
  inj := R.inj
  fresh := fun j c q => by
    show j.nat < h.nx.nat
    rw [Hh.get_put] at q
    by_cases e : j = l
    · obtain ⟨c0, q0⟩ := R.dom _ _ hl
      rw [e]
      exact R.fresh _ _ q0
    · rw [if_neg e] at q
      exact R.fresh j c q
  fo := S.stab _ _ _ R.fo (fun b hb => by
    rw [upd_ne fun z => R.foF _ _ hl (by rw [← z]; exact hb)]) (ext_wr ha w)
  foF := R.foF
theorem Ext.put {a : Addr} {o o' : HO} (ha : H a = some o) (w : Wr o) : Ext S ρ H ρ (upd H a o') := ⟨fun _ _ z => z, sqT_wr ha w, fz_wr ha w⟩
end

/-! ### slots -/
abbrev Sl := List (Option A)
def RelS (S : Sc) (ρ : Rho) (H : Hp) (s : Sl) (σ : L2.St) : Prop := s.length = σ.length ∧ ∀ (i : Nat) (x : A), s[i]? = some (some x) → ∃ v, σ[i]? = some (some v) ∧ Rel S ρ H x v
section
variable {S : Sc} {ρ ρ' : Rho} {H H' : Hp} {s : Sl} {σ : L2.St}
theorem RelS.mono (e : Ext S ρ H ρ' H') (r : RelS S ρ H s σ) : RelS S ρ' H' s σ := ⟨r.1, fun i x h => by
  obtain ⟨v, q1, q2⟩ := r.2 i x h
  exact ⟨v, q1, Rel.mono e q2⟩⟩
theorem RelS.set {i : Nat} {x : A} {v : V} (r : RelS S ρ H s σ) (q : Rel S ρ H x v) : RelS S ρ H (s.set i (some x)) (σ.set i (some v)) := by
  refine ⟨by rw [List.length_set, List.length_set]; exact r.1, fun j y h => ?_⟩
  by_cases e : i = j
  · subst e
    have hi : i < s.length := by
      by_cases z : i < s.length
      · exact z
      · rw [List.getElem?_eq_none (by rw [List.length_set]; omega)] at h
        cases h
    rw [List.getElem?_set_self hi] at h
    cases h
    exact ⟨v, List.getElem?_set_self (by rw [← r.1]; exact hi), q⟩
  · rw [List.getElem?_set_ne e] at h
    obtain ⟨u, q1, q2⟩ := r.2 j y h
    exact ⟨u, by rw [List.getElem?_set_ne e]; exact q1, q2⟩
end

/-! ### the readings -/
def XW (S : Sc) (ρ : Rho) (H : Hp) (E : XK) (C : Nat) (fs : List (Str × A)) (h' : Hh) : Prop :=
  ∀ ρ' H' Ca d, Ext S ρ H ρ' H' → Rep S ρ' h' H' → S.G C = some Ca → XdOk S ρ' H' fs d → E (.ref Ca) d H'
def QW (S : Sc) (ρ : Rho) (H : Hp) (Q : VK) (a : A) (h' : Hh) : Prop := ∀ ρ' H' v, Ext S ρ H ρ' H' → Rep S ρ' h' H' → Rel S ρ' H' a v → Q v H'
def tE (S : Sc) (E : XK) (ev : Sl → Hh → Out A) : TE := fun σ H Q => ∃ ρ h s, Rep S ρ h H ∧ RelS S ρ H s σ ∧ (ev s h).All (QW S ρ H Q) (XW S ρ H E)
section
variable {S : Sc} {ρ ρ' : Rho} {H H' : Hp} {E : XK}
theorem XW.mono (e : Ext S ρ H ρ' H') {C : Nat} {fs : List (Str × A)} {h' : Hh} (x : XW S ρ H E C fs h') : XW S ρ' H' E C fs h' := fun ρ2 H2 Ca d e2 => x ρ2 H2 Ca d (e.trans e2)
theorem QW.mono (e : Ext S ρ H ρ' H') {Q : VK} {a : A} {h' : Hh} (x : QW S ρ H Q a h') : QW S ρ' H' Q a h' := fun ρ2 H2 v e2 => x ρ2 H2 v (e.trans e2)
theorem tE_of {ev : Sl → Hh → Out A} {σ : L2.St} {Q : VK} {h : Hh} {s : Sl} (R : Rep S ρ h H) (r : RelS S ρ H s σ) (q : (ev s h).All (QW S ρ H Q) (XW S ρ H E)) : tE S E ev σ H Q := ⟨ρ, h, s, R, r, q⟩
/-- one expression after another -/
theorem tE_bind {ev : Sl → Hh → Out A} {f : A → Hh → Out A} {σ : L2.St} {Q Q' : VK} {h : Hh} {s : Sl} (R : Rep S ρ h H) (r : RelS S ρ H s σ) (q : ((ev s h).bind f).All (QW S ρ H Q) (XW S ρ H E))
    (k : ∀ a h1 ρ1 H1 v, Ext S ρ H ρ1 H1 → Rep S ρ1 h1 H1 → RelS S ρ1 H1 s σ → Rel S ρ1 H1 a v → (f a h1).All (QW S ρ1 H1 Q) (XW S ρ1 H1 E) → Q' v H1) : tE S E ev σ H Q' :=
  ⟨ρ, h, s, R, r, (Out.all_bind q).mono (fun a h1 z ρ1 H1 v e1 R1 rv => k a h1 ρ1 H1 v e1 R1 (r.mono e1) rv (z.mono (fun _ _ y => y.mono e1) fun _ _ _ y => y.mono e1)) fun _ _ _ y => y⟩
theorem PE.imp {X : Cx} {e : Expr} {t t' : TE} (h : PE X e t) (k : ∀ σ H Q, t' σ H Q → t σ H Q) : PE X e t' := ⟨fun pins s σ H Q I q => h.run pins s σ H Q I (k _ _ _ q)⟩
theorem PT.imp {X : Cx} {e : Expr} {t t' : TT} (h : PT X e t) (k : ∀ σ H Q, t' σ H Q → t σ H Q) : PT X e t' := ⟨fun pins s σ H Q I q => h.run pins s σ H Q I (k _ _ _ q)⟩
theorem PA.imp {X : Cx} {e : List Expr} {t t' : TA} (h : PA X e t) (k : ∀ σ H Q, t' σ H Q → t σ H Q) : PA X e t' := ⟨fun pos pins s σ H Q I q => h.run pos pins s σ H Q I (k _ _ _ q)⟩
theorem PS.imp {X : Cx} {e : Stmt} {t t' : TS} (h : PS X e t) (k : ∀ D σ H, t' D σ H → t D σ H) : PS X e t' := ⟨fun pins s σ H D I q => h.run pins s σ H D I (k _ _ _ q)⟩
theorem PSs.imp {X : Cx} {e : List Stmt} {t t' : TS} (h : PSs X e t) (k : ∀ D σ H, t' D σ H → t D σ H) : PSs X e t' := ⟨fun pins s σ H D I q => h.run pins s σ H D I (k _ _ _ q)⟩
end
end EV
set_option Elab.async false
set_option linter.all false
set_option maxRecDepth 100000
set_option maxHeartbeats 4000000
namespace EV
open PySem PySem.Spec PyProof.Rows L2

/-! ### the little language -/
inductive Bop where
  | add | sub | mul | fdiv | mod | pow
  deriving DecidableEq
inductive Cop where
  | eq | ne | lt | le | gt | ge | isN | notN | inn | nin
  deriving DecidableEq
inductive Bi where
  | len | isi | all | any
  deriving DecidableEq
inductive Mt where
  | app | ext
  deriving DecidableEq
inductive Tg where
  | nm (i : Nat) | tp (ts : List Tg)
mutual
inductive E where
  | var (i : Nat) | cst (a : A)
  | bin (op : Bop) (x y : E) | cmp (op : Cop) (x y : E)
  | and (x y : E) | or (x y : E) | not (x : E) | ife (t x y : E)
  | tup (xs : List E) | lst (xs : List E) | dct (k v : A)
  | idx (x y : E)
  | bi (b : Bi) (xs : List E)
  | call (f n : Nat) (xs : List E)
  | err (kw : Bool) (C : Nat) (f : Str) (x : E) | err0 (C : Nat)
  | mt (m : Mt) (o : E) (xs : List E)
  | fld (o : E) (f : Str)
  | lam (n : Nat) | callL (i : Nat) (x : E)
  | comp (elt : E) (tg : Tg) (it : It) (cond : List E) (own : List Nat)
inductive It where
  | seq (e : E) | rng (e : E) | enm (e : E) | zp (a b : E)
end
inductive Sm where
  | asg (t : Tg) (e : E) | asgC (i : Nat) (elt : E) (tg : Tg) (it : It) (cond : List E) (own : List Nat) | ex (e : E) | ret (e : E) | ife (t : E) (a b : List Sm) | for (t : Tg) (it : It) (b : List Sm) | pass
inductive Fl where
  | nx (s : Sl) | rt (a : A) | bk (s : Sl) | ct (s : Sl)

/-! ### values read deep -/
def lim : Nat := 100000
mutual
def toD (h : Hh) : Nat → A → Option PyData
  | 0, _ => none
  | n + 1, a => match a with
    | .non => some .none
    | .bl b => some (.bool b)
    | .int i => some (.int i)
    | .str x => some (.str x)
    | .tup xs => (toDs h n xs).map .tuple
    | .loc l => match h.get l with
      | some (.lst xs) => (toDs h n xs).map .list
      | _ => none
    | _ => none
def toDs (h : Hh) : Nat → List A → Option (List PyData)
  | 0, _ => none
  | n + 1, xs => match xs with
    | [] => some []
    | x :: r => (toD h n x).bind fun d => (toDs h n r).map (d :: ·)
end
def deep : Nat := 200
def evEq (x y : A) (h : Hh) : Option Bool := (toD h deep x).bind fun d => (toD h deep y).bind fun e => if SeqAt.shaped d && SeqAt.shaped e then some (PyData.eqv d e) else none
def lstOf (x : A) (h : Hh) : Option (List A) := match x with
  | .loc l => match h.get l with
    | some (.lst xs) => some xs
    | _ => none
  | _ => none
def newL (xs : List A) (h : Hh) : Out A := if xs.length ≤ lim then .ok (.loc h.nx) (h.new (.lst xs)) else .bad

def evBin (op : Bop) (x y : A) (h : Hh) : Out A := match op, x, y with
  | .add, .int i, .int j => .ok (.int (i + j)) h
  | .add, .loc a, .loc b => match h.get a, h.get b with
    | some (.lst xs), some (.lst ys) => newL (xs ++ ys) h
    | _, _ => .bad
  | .sub, .int i, .int j => .ok (.int (i - j)) h
  | .mul, .int i, .int j => if (-(2 ^ 64) < i ∧ i < 2 ^ 64) ∨ (-(2 ^ 64) < j ∧ j < 2 ^ 64) then .ok (.int (i * j)) h else .bad
  | .fdiv, .int i, .int j => if j ≠ 0 ∧ j.natAbs < 1073741824 then .ok (.int (i.fdiv j)) h else .bad
  | .mod, .int i, .int j => if j ≠ 0 then .ok (.int (i.fmod j)) h else .bad
  | .pow, .int i, .int j => if 0 ≤ j ∧ j ≤ 1000000 ∧ i.natAbs < 2 ^ 64 then .ok (.int (i ^ j.toNat)) h else .bad
  | _, _, _ => .bad
def dGet (c : Key) : List (A × A) → Option A
  | [] => none
  | (k, x) :: r => if keyOf k = some c then some x else dGet c r
def evIn (x y : A) (h : Hh) : Option Bool := match y with
  | .loc l => match h.get l with
    | some (.dct kvs) => (keyOf x).map fun c => (dGet c kvs).isSome
    | _ => none
  | _ => none
def evCmp (op : Cop) (x y : A) (h : Hh) : Out A := match op with
  | .eq => match evEq x y h with
    | some b => .ok (.bl b) h
    | none => .bad
  | .ne => match evEq x y h with
    | some b => .ok (.bl (!b)) h
    | none => .bad
  | .lt => match x, y with
    | .int i, .int j => .ok (.bl (decide (i < j))) h
    | _, _ => .bad
  | .le => match x, y with
    | .int i, .int j => .ok (.bl (decide (i ≤ j))) h
    | _, _ => .bad
  | .gt => match x, y with
    | .int i, .int j => .ok (.bl (decide (j < i))) h
    | _, _ => .bad
  | .ge => match x, y with
    | .int i, .int j => .ok (.bl (decide (j ≤ i))) h
    | _, _ => .bad
  | .inn => match evIn x y h with
    | some b => .ok (.bl b) h
    | none => .bad
  | .nin => match evIn x y h with
    | some b => .ok (.bl (!b)) h
    | none => .bad
  | _ => .bad
/-- what isinstance tells: types by numbers, own classes behind -/
structure Kit where
  /-- of an own class: the own classes, the built-in types that it is under -/
  anc : List (List Nat × List Nat)
  /-- the field of an own error class -/
  fld : List (Option Str)
def tyA (x : A) (h : Hh) : Option A := match x with
  | .non => some (.ty 6)
  | .bl _ => some (.ty 1)
  | .int _ => some (.ty 0)
  | .str _ => some (.ty 2)
  | .tup _ => some (.ty 4)
  | .loc l => match h.get l with
    | some (.lst _) => some (.ty 3)
    | some (.dct _) => some (.ty 5)
    | some (.exc C _) => some (.glo C)
    | _ => none
  | _ => none
def isi1 (k : Kit) (t c : A) : Option Bool := match t, c with
  | .ty a, .ty b => if a ≤ 6 ∧ b ≤ 6 then some (a == b || (a == 1 && b == 0)) else none
  | .ty a, .glo g => if a ≤ 6 then (k.anc[g]?).map fun _ => false else none
  | .glo g, .ty b => if b ≤ 10 then (k.anc[g]?).map fun p => p.2.contains b else none
  | .glo g, .glo g' => (k.anc[g]?).bind fun p => (k.anc[g']?).map fun _ => p.1.contains g'
  | _, _ => none
def isiAny (k : Kit) (t : A) : List A → Option Bool
  | [] => some false
  | c :: r => match isi1 k t c with
    | some true => some true
    | some false => isiAny k t r
    | none => none
def boolsOf : List A → Option (List Bool)
  | [] => some []
  | .bl b :: r => (boolsOf r).map (b :: ·)
  | _ => none
def evBi (k : Kit) (b : Bi) (xs : List A) (h : Hh) : Out A := match b, xs with
  | .len, [x] => match x with
    | .tup ys => .ok (.int ys.length) h
    | .loc l => match h.get l with
      | some (.lst ys) => .ok (.int ys.length) h
      | some (.dct kvs) => .ok (.int kvs.length) h
      | _ => .bad
    | _ => .bad
  | .isi, [x, c] => match tyA x h with
    | some t => match c with
      | .tup cs => if !cs.isEmpty && cs.all (fun c => (isi1 k t c).isSome) then match isiAny k t cs with
          | some b => .ok (.bl b) h
          | none => .bad
        else .bad
      | c => match isi1 k t c with
        | some b => .ok (.bl b) h
        | none => .bad
    | none => .bad
  | .all, [x] => match (lstOf x h).bind boolsOf with
    | some bs => .ok (.bl (bs.all id)) h
    | none => .bad
  | .any, [x] => match (lstOf x h).bind boolsOf with
    | some bs => .ok (.bl (bs.any id)) h
    | none => .bad
  | _, _ => .bad
def evApp (o x : A) (h : Hh) : Out A := match o with
  | .loc l => match h.get l with
    | some (.lst ys) => if ys.length < lim then .ok .non (h.put l (.lst (ys ++ [x]))) else .bad
    | _ => .bad
  | _ => .bad
def evExt (o x : A) (h : Hh) : Out A := match o with
  | .loc l => match h.get l with
    | some (.lst ys) => match lstOf x h with
      | some zs => if ys.length + zs.length ≤ lim then .ok .non (h.put l (.lst (ys ++ zs))) else .bad
      | none => .bad
    | _ => .bad
  | _ => .bad
def evMt (m : Mt) (o : A) (xs : List A) (h : Hh) : Out A := match xs with
  | [x] => match m with
    | .app => evApp o x h
    | .ext => evExt o x h
  | _ => .bad
def evIdxD (kvs : List (A × A)) (y : A) (h : Hh) : Out A := match keyOf y with
  | some c => match dGet c kvs with
    | some a => .ok a h
    | none => .bad
  | none => .bad
def evIdx (x y : A) (h : Hh) : Out A := match x, y with
  | .loc l, y => match h.get l with
    | some (.lst xs) => match y with
      | .int i => match atI xs i with
        | some a => .ok a h
        | none => .bad
      | _ => .bad
    | some (.dct kvs) => evIdxD kvs y h
    | _ => .bad
  | .tup xs, .int i => match atI xs i with
    | some a => .ok a h
    | none => .bad
  | _, _ => .bad
def evFld (k : Kit) (o : A) (f : Str) (h : Hh) : Out A := match o with
  | .loc l => match h.get l with
    | some (.exc C fs) => match k.fld[C]? with
      | some (some g) => if g = f then match fs.lookup f with
          | some a => .ok a h
          | none => .bad
        else .bad
      | _ => .bad
    | _ => .bad
  | _ => .bad
mutual
def slotsT : Tg → List Nat
  | .nm i => [i]
  | .tp ts => slotsTs ts
def slotsTs : List Tg → List Nat
  | [] => []
  | t :: ts => slotsT t ++ slotsTs ts
end
mutual
def evTg : Tg → A → Sl → Option Sl
  | .nm i, a, s => some (s.set i (some a))
  | .tp ts, .tup xs, s => evTgs ts xs s
  | .tp _, _, _ => none
def evTgs : List Tg → List A → Sl → Option Sl
  | [], [], s => some s
  | t :: ts, x :: xs, s => (evTg t x s).bind fun s' => evTgs ts xs s'
  | _, _, _ => none
end
/-! ### evaluation -/
structure Rec where
  e : E → Sl → Hh → Out A
  ss : List Sm → Sl → Hh → Out Fl
def evEs (r : Rec) : List E → Sl → Hh → Out (List A)
  | [], _, h => .ok [] h
  | e :: es, s, h => (r.e e s h).bind fun x h1 => (evEs r es s h1).bind fun xs h2 => .ok (x :: xs) h2
/-- what an iterator is: a list by place, a tuple, a range, pairs -/
inductive Jt where
  | lst (l : Bn) | tup (xs : List A) | rng (n : Nat) | enm (l : Bn) | zp (a b : Bn) | zpT (xs ys : List A) | keys (l : Bn) | str (cs : List Nat) | rngA (lo : Int) (n : Nat)
/-- at turn i: bad, the end, an item -/
def pairAt (x y : Option A) : Option A := match x, y with
  | some a, some b => some (.tup [a, b])
  | _, _ => none
def Jt.at (j : Jt) (i : Nat) (h : Hh) : Option (Option A) := match j with
  | .lst l => match h.get l with
    | some (.lst xs) => some xs[i]?
    | _ => none
  | .tup xs => some xs[i]?
  | .rng n => some (if i < n then some (.int (i : Int)) else none)
  | .enm l => match h.get l with
    | some (.lst xs) => some (xs[i]?.map fun x => .tup [.int (i : Int), x])
    | _ => none
  | .zp a b => match h.get a, h.get b with
    | some (.lst xs), some (.lst ys) => some (pairAt xs[i]? ys[i]?)
    | _, _ => none
  | .zpT xs ys => some (pairAt xs[i]? ys[i]?)
  | .keys l => match h.get l with
    | some (.dct kvs) => some (kvs[i]?.map (·.1))
    | _ => none
  | .str cs => some (cs[i]?.map fun c => .str ⟨⟨[c]⟩⟩)
  | .rngA lo n => some (if i < n then some (.int (lo + (i : Int))) else none)
def evIt (r : Rec) (it : It) (s : Sl) (h : Hh) : Out (Option Jt) := match it with
  | .seq e => (r.e e s h).bind fun x h1 => match x with
    | .loc l => match h1.get l with
      | some (.lst _) => .ok (some (.lst l)) h1
      | some (.dct _) => .ok (some (.keys l)) h1
      | _ => .bad
    | .tup xs => .ok (some (.tup xs)) h1
    | _ => .bad
  | .rng e => (r.e e s h).bind fun x h1 => match x with
    | .int i => if 0 ≤ i ∧ i ≤ 100000 then .ok (some (.rng i.toNat)) h1 else .bad
    | _ => .bad
  | .enm e => (r.e e s h).bind fun x h1 => match x with
    | .loc l => match h1.get l with
      | some (.lst _) => .ok (some (.enm l)) h1
      | _ => .bad
    | _ => .bad
  | .zp a b => (r.e a s h).bind fun x h1 => (r.e b s h1).bind fun y h2 => match x, y with
    | .loc l, .loc j => match h2.get l, h2.get j with
      | some (.lst _), some (.lst _) => .ok (some (.zp l j)) h2
      | _, _ => .bad
    | .tup xs, .tup ys => .ok (some (.zpT xs ys)) h2
    | _, _ => .bad
/-- a for's turns -/
def evFor (r : Rec) (j : Jt) (t : Tg) (b : List Sm) : Nat → Nat → Sl → Hh → Out Fl
  | 0, _, _, _ => .bad
  | m + 1, i, s, h => match j.at i h with
    | none => .bad
    | some none => .ok (.nx s) h
    | some (some x) => match evTg t x s with
      | none => .bad
      | some s1 => (r.ss b s1 h).bind fun f h1 => match f with
        | .nx s2 => evFor r j t b m (i + 1) s2 h1
        | .ct s2 => evFor r j t b m (i + 1) s2 h1
        | .bk s2 => .ok (.nx s2) h1
        | .rt a => .ok (.rt a) h1
def wipeA (s : Sl) : List Nat → Sl
  | [] => s
  | v :: vs => (wipeA s vs).set v none
def evConds (r : Rec) (cs : List E) (s : Sl) (h : Hh) : Out A := match cs with
  | [] => .ok (.bl true) h
  | [c] => (r.e c s h).nox
  | _ => .bad
/-- a comprehension's turns: the new list at d -/
def evComp (r : Rec) (j : Jt) (t : Tg) (cs : List E) (elt : E) (s : Sl) (d : Bn) : Nat → Nat → Hh → Out A
  | 0, _, _ => .bad
  | m + 1, i, h => match j.at i h with
    | none => .bad
    | some none => .ok (.loc d) h
    | some (some x) => match evTg t x s with
      | none => .bad
      | some s1 => (evConds r cs s1 h).bind fun b h1 => match b with
        | .bl true => (r.e elt s1 h1).nox.bind fun y h2 => match h2.get d with
          | some (.lst acc) => if acc.length < lim then evComp r j t cs elt s d m (i + 1) (h2.put d (.lst (acc ++ [y]))) else .bad
          | _ => .bad
        | .bl false => evComp r j t cs elt s d m (i + 1) h1
        | _ => .bad
def isNonA : A → Bool
  | .non => true
  | _ => false
def turns : Nat := 1000000
def evLc (r : Rec) (elt : E) (tg : Tg) (it : It) (cond : List E) (own : List Nat) (s : Sl) (h : Hh) : Out A := (evIt r it s h).bind fun j h1 => match j with
  | none => .bad
  | some j => evComp r j tg cond elt (wipeA s own) h1.nx turns 0 (h1.new (.lst []))
def stepE (k : Kit) (call : Nat → List A → Hh → Out A) (r : Rec) (e : E) (s : Sl) (h : Hh) : Out A := match e with
  | .var i => match s[i]? with
    | some (some a) => .ok a h
    | _ => .bad
  | .cst a => .ok a h
  | .bin op x y => (r.e x s h).bind fun a h1 => (r.e y s h1).bind fun b h2 => evBin op a b h2
  | .cmp .isN x _ => (r.e x s h).bind fun a h1 => .ok (.bl (isNonA a)) h1
  | .cmp .notN x _ => (r.e x s h).bind fun a h1 => .ok (.bl (!isNonA a)) h1
  | .cmp op x y => (r.e x s h).bind fun a h1 => (r.e y s h1).bind fun b h2 => evCmp op a b h2
  | .and x y => (r.e x s h).bind fun a h1 => match a with
    | .bl true => r.e y s h1
    | .bl false => .ok (.bl false) h1
    | _ => .bad
  | .or x y => (r.e x s h).bind fun a h1 => match a with
    | .bl false => r.e y s h1
    | .bl true => .ok (.bl true) h1
    | _ => .bad
  | .not x => (r.e x s h).bind fun a h1 => match a with
    | .bl b => .ok (.bl (!b)) h1
    | _ => .bad
  | .ife t x y => (r.e t s h).bind fun a h1 => match a with
    | .bl true => r.e x s h1
    | .bl false => r.e y s h1
    | _ => .bad
  | .tup xs => (evEs r xs s h).bind fun as h1 => if as.length ≤ lim then .ok (.tup as) h1 else .bad
  | .lst xs => (evEs r xs s h).bind fun as h1 => newL as h1
  | .idx x y => (r.e x s h).bind fun a h1 => (r.e y s h1).bind fun b h2 => evIdx a b h2
  | .bi b xs => (evEs r xs s h).bind fun as h1 => evBi k b as h1
  | .call f n xs => (evEs r xs s h).bind fun as h1 => if as.length = n then call f as h1 else .bad
  | .err _ C f x => (r.e x s h).bind fun a h1 => .ok (.loc h1.nx) (h1.new (.exc C [(f, a)]))
  | .err0 C => .ok (.loc h.nx) (h.new (.exc C []))
  | .mt m o xs => (r.e o s h).bind fun a h1 => match lstOf a h1 with
    | some _ => (evEs r xs s h1).bind fun as h2 => evMt m a as h2
    | none => .bad
  | .fld o f => (r.e o s h).bind fun a h1 => evFld k a f h1
  | .comp elt tg it cond own => evLc r elt tg it cond own s h
  | .dct k v => match keyOf k with
    | some _ => .ok (.loc h.nx) (h.new (.dct [(k, v)]))
    | none => .bad
  | .lam n => .ok (.loc h.nx) (h.new (.lam n))
  | .callL i x => match s[i]? with
    | some (some (.loc l)) => match h.get l with
      | some (.lam n) => (r.e x s h).bind fun a h1 => match h1.get l with
        | some (.lam m) => if m = n then call n [a] h1 else .bad
        | _ => .bad
      | _ => .bad
    | _ => .bad
def stepS (r : Rec) (st : Sm) (s : Sl) (h : Hh) : Out Fl := match st with
  | .asg t e => (r.e e s h).bind fun a h1 => match evTg t a s with
    | some s1 => .ok (.nx s1) h1
    | none => .bad
  | .asgC i elt tg it cond own => (evLc r elt tg it cond own s h).bind fun a h1 => .ok (.nx (s.set i (some a))) h1
  | .ex e => (r.e e s h).bind fun _ h1 => .ok (.nx s) h1
  | .ret e => (r.e e s h).bind fun a h1 => .ok (.rt a) h1
  | .ife t a b => (r.e t s h).bind fun x h1 => match x with
    | .bl true => r.ss a s h1
    | .bl false => r.ss b s h1
    | _ => .bad
  | .for t it b => (evIt r it s h).bind fun j h1 => match j with
    | none => .bad
    | some j => evFor r j t b turns 0 s h1
  | .pass => .ok (.nx s) h
def stepSs (r : Rec) (l : List Sm) (s : Sl) (h : Hh) : Out Fl := match l with
  | [] => .ok (.nx s) h
  | st :: rest => (stepS r st s h).bind fun f h1 => match f with
    | .nx s1 => r.ss rest s1 h1
    | f => .ok f h1
def evR (k : Kit) (call : Nat → List A → Hh → Out A) : Nat → Rec
  | 0 => ⟨fun _ _ _ => .bad, fun _ _ _ => .bad⟩
  | n + 1 => ⟨stepE k call (evR k call n), stepSs (evR k call n)⟩
/-- a def: how many names, its body -/
structure Fn where
  names : Nat
  body : List Sm
  lam : Option E := none
def evC (F : Nat) (k : Kit) (fns : List Fn) (pick : Nat → Option (List A → Hh → Out A)) : Nat → Nat → List A → Hh → Out A
  | 0, _, _, _ => .bad
  | d + 1, f, as, h => match pick f with
    | some g => g as h
    | none => match fns[f]? with
      | none => .bad
      | some fn => match fn.lam with
        | some e => (evR k (evC F k fns pick d) F).e e (as.map some ++ List.replicate (fn.names - as.length) none) h
        | none => ((evR k (evC F k fns pick d) F).ss fn.body (as.map some ++ List.replicate (fn.names - as.length) none) h).bind fun f h1 => match f with
          | .rt a => .ok a h1
          | .nx _ => .ok .non h1
          | _ => .bad
end EV
set_option Elab.async false
set_option linter.all false
set_option maxRecDepth 100000
set_option maxHeartbeats 4000000
namespace EV
open PySem PySem.Spec PyProof.Rows L2 LamX
/-! ### a lambda made, kept, called -/
theorem lamO_ok {P : Program} {w : World} {H : Hp} {h : Heap} {t : LamT} {a c : Addr} {pm ctv : Value} (e : h.get? a = some (PySem.W.kla_obj "<lambda>" t.q t.params t.body t.scope [] pm c ctv)) : ObjOk P w H h a (LamO t a c) :=
  ⟨⟨pm, ctv, e⟩, ⟨_, e⟩, fun _ _ ⟨pm, ctv, e⟩ st => ⟨pm, ctv, st _ e⟩⟩
/-- what a lambda's making gives -/
def tLamMk (T : List (Addr × Str)) (t : LamT) : TE := fun _ H Q => Tabs T H ∧ ∀ (H1 : Hp) (f c : Addr), ExtN H H1 → Tabs T H1 → H f = none → H1 f = none → H1 c = some (CodeO c t.q) → Q (.ref f) (upd H1 f (LamO t f c))
section
variable {X : Cx}
theorem clo_nil {cells : List (Str × Addr)} : ∀ {ns : List (Str × NameKind)} {acc : List (Str × Addr)}, (∀ y ∈ ns, y.2 ≠ .free) → cloFrom cells ns acc = acc
  | [], acc, _ => rfl
  | (n, k) :: r, acc, h => by
    have hk : k ≠ .free := h (n, k) (List.mem_cons_self ..)
    have ih := clo_nil (cells := cells) (ns := r) (acc := acc) fun y hy => h y (List.mem_cons_of_mem _ hy)
    unfold cloFrom
    split
    · rename_i e
      exact absurd (by simpa using e) hk
    · exact ih
theorem pe_lam {T : List (Addr × Str)} {c P : Addr} {params : Arguments} {body : Expr} {scope : Scope} {pos : Pos} (TB : TabB X.base X.mg c P) (hcode : X.env.code = .ref c) (hm : (P, X.env.qual ++ "<lambda>") ∈ T) (hu : ∀ p ∈ T, p.1 = P → p.2 = X.env.qual ++ "<lambda>")
    (hdef : defaultsOf params X.env = ([], [])) (hnf : ∀ y ∈ scope.names, y.2 ≠ .free) : PE X (.Lambda params body scope pos) (tLamMk T ⟨X.env.qual ++ "<lambda>", params, body, scope⟩) := by
  refine ⟨fun pins s σ H Q I hq => ?_⟩
  obtain ⟨hT, h⟩ := hq
  obtain ⟨ps, hP, ht, ha⟩ := hT _ hm
  refine PySem.W.kla_eval hdef ?_
  have bP : s.heap.BuiltinsAt X.mg P := TB.bm.keeps I.bk
  have hP' : s.heap.get? P = some { cls := .none, data := .fields ps } := I.hok P _ hP
  have ecl : closureFor scope X.env = pure [] := by
    have z : closureFor scope X.env = pure (cloFrom X.env.cells scope.names []) := closure_ok fun y hy e => absurd e (hnf y hy)
    rw [z, clo_nil hnf]
  cases hc : codeAmong pos ps.toList with
  | none =>
    refine PySem.W.kla_makeFunction (mg := X.mg) (c := c) (P := P) (ps := ps) ecl I.ok.glob (I.mod.glob.keeps I.bk) hcode (TB.code.keeps I.bk) hP' ht hc TB.gP bP fun c' ctv h' tk hx hge hlt hrec htb => ?_
    obtain ⟨c2, oc, vs, t, e2, hoc, hd, hv⟩ := hrec
    cases e2
    have hsz : s.heap.objs.size ≤ h'.objs.size := Nat.le_trans hge (Nat.le_of_lt hlt)
    have nC : H c' = none := I.hok.fresh hge
    have I1 := inv_table (t' := tk) (more := #[rawInt pos.line, rawInt pos.col, .ref c']) (h' := h') I hP (fun b o hb e => hx b o hb e) htb hge ⟨oc, vs, t, hoc, hd, hv⟩
    have hE : ExtN H (upd (upd H P (.tbl (ps ++ #[rawInt pos.line, rawInt pos.col, .ref c']))) c' (CodeO c' (X.env.qual ++ "<lambda>"))) := fun b o e n => by
      rw [upd_ne (ne_of_none e nC), upd_ne (fun z => n ps (Option.some.inj (e.symm.trans (by rw [z]; exact hP))))]
      exact e
    have eL : (ps ++ #[rawInt pos.line, rawInt pos.col, .ref c']).toList = ps.toList ++ [rawInt pos.line, rawInt pos.col, .ref c'] := by simp
    have nf1 : upd (upd H P (.tbl (ps ++ #[rawInt pos.line, rawInt pos.col, .ref c']))) c' (CodeO c' (X.env.qual ++ "<lambda>")) h'.objs.size = none := I1.hok.fresh (Nat.le_refl _)
    have I2 := I1.laid (a := h'.objs.size) (o := LamO ⟨X.env.qual ++ "<lambda>", params, body, scope⟩ h'.objs.size c') (t' := tk) (h' := h'.push (PySem.W.kla_obj "<lambda>" (X.env.qual ++ "<lambda>") params body scope [] ((X.mg "__name__").getD .none) c' ctv)) (fun b o e => Heap.get?_push_of_some _ e) (Nat.le_refl _) (lamO_ok (Heap.get?_push_size _ rfl))
    refine ⟨.ref h'.objs.size, _, I2, rfl, h _ _ c' hE (fun p hp => ?_) (I.hok.fresh hsz) nf1 upd_same⟩
    by_cases hb : p.1 = P
    · rw [hu p hp hb, hb]
      refine ⟨_, by rw [upd_ne (ne_of_none hP nC), upd_same], by rw [eL]; exact PySem.TriplesOk_snoc _ _ _ _ ht, fun p' cv hcv => ?_⟩
      rw [eL] at hcv
      rcases among_app _ ht hcv with z | z
      · obtain ⟨c0, e1, e2⟩ := ha p' cv z
        exact ⟨c0, e1, hE _ _ e2 codeO_ne⟩
      · exact ⟨c', z, upd_same⟩
    · obtain ⟨ps', a1, a2, a3⟩ := hT p hp
      refine ⟨ps', by rw [upd_ne (ne_of_none a1 nC), upd_ne hb]; exact a1, a2, fun p' cv hcv => ?_⟩
      obtain ⟨c0, e1, e2⟩ := a3 p' cv hcv
      exact ⟨c0, e1, hE _ _ e2 codeO_ne⟩
  | some cv =>
    obtain ⟨c', e, hco⟩ := ha pos cv hc
    subst e
    refine PySem.W.kla_makeFunctionHit (mg := X.mg) (c := c) (P := P) (ps := ps) ecl I.ok.glob (I.mod.glob.keeps I.bk) hcode (TB.code.keeps I.bk) hP' ht hc bP fun ctv h' tk hx hsz => ?_
    have I2 := I.laid (a := h'.objs.size) (o := LamO ⟨X.env.qual ++ "<lambda>", params, body, scope⟩ h'.objs.size c') (t' := tk) (h' := h'.push (PySem.W.kla_obj "<lambda>" (X.env.qual ++ "<lambda>") params body scope [] ((X.mg "__name__").getD .none) c' ctv)) (fun b o e => Heap.get?_push_of_some _ (hx b o e)) hsz (lamO_ok (Heap.get?_push_size _ rfl))
    exact ⟨.ref h'.objs.size, _, I2, rfl, h H _ c' (ExtN.refl H) hT (I.hok.fresh hsz) (I.hok.fresh hsz) hco⟩
end
/-- what the call of such a lambda promises -/
def LamRun (P : Program) (w : World) (K : PySem.W.Frag) (mg : Str → Option Value) (base : Heap) (k : Nat) (t : LamT) (sp : Sp) : Prop :=
  ∀ (A : Around) (outer : List Env) (s : Shared) (H : Hp) (f c : Addr) (v : V) (u : Value) (Q : VK) (E : XK), Room k A → Env0 P w K mg base A outer s H → H f = some (LamO t f c) → H c = some (CodeO c t.q) → RelV v u → sp [v] H Q E →
    codeAny (model P w) A (.call (.ref f) ⟨[u], []⟩) (CR (L2.CX P w) outer P w H s Q E) s
theorem lam_run {P : Program} {w : World} {K : PySem.W.Frag} {mg : Str → Option Value} {base : Heap} {k : Nat} {t : LamT} {sp : Sp} {N : List Str} {x : Str} (S : FnScope N [x] t.scope)
    (hb : ∀ (pm cv ctv u : Value), bindArgs (PySem.W.kla_fn "<lambda>" t.q t.params t.body t.scope [] pm cv ctv) ⟨[u], []⟩ = pure [(x, u)])
    (hbody : ∀ (A : Around) (outer : List Env) (s : Shared) (H : Hp) (E : XK) (f c : Addr) (v : V) (Q : VK), Room k (A.deeper (envOfC t.q t.scope s.heap.objs.size f (.ref c))) → sp [v] H Q E →
      ∃ te, PE (cxOf (L2.CX P w) P w K mg base N t.q t.scope f (.ref c) A outer s H E) t.body te ∧ te (L2.start N [v]) H Q) : LamRun P w K mg base (k + 1) t sp := by
  intro A outer s H f c v u Q E hr e0 hf hc rv hq
  have lim : s.heap.NoLimit := e0.mod.nolimit.keeps fun b o e => (e0.bs b o e).1
  obtain ⟨⟨pm, ctv, of⟩, _, _⟩ := e0.hok f _ hf
  obtain ⟨⟨oc, vs, tt, hoc, hdc, hvc⟩, _, _⟩ := e0.hok c _ hc
  refine PySem.W.kla_callFunE hr.depth of rfl S.co S.gen rfl ⟨c, oc, vs, tt, rfl, hoc, hdc, hvc⟩ ?_
  rw [hb]
  refine wpAny_pure ?_
  have hkind : ∀ y ∈ [(x, u)], t.scope.names.lookup y.1 = some .local ∨ (t.scope.names.lookup y.1 = some .cell ∧ ((cellsFrom (s.heap.objs.size + 1) t.scope.names []).lookup y.1).isSome = true) := fun y hy => by
    rw [List.mem_singleton] at hy
    subst hy
    rcases S.par x (List.mem_singleton.mpr rfl) with q | q
    · exact .inl q
    · exact .inr ⟨q, PySem.W.cellsFrom_some _ _ _ (.inl q)⟩
  refine wpAny_newFunctionEnv_cells S.kind hkind fun env he s1 z => ?_
  subst he
  refine ⟨lim.keeps z.toInCall.keep, ?_⟩
  obtain ⟨te, ht, hq⟩ := hbody A outer s H E f c v Q (hr.deeper _) hq
  have I : Inv (cxOf (L2.CX P w) P w K mg base N t.q t.scope f (.ref c) A outer s H E) [] (L2.start N [v]) H s1 := inv_start (ps := [x]) (us := [u]) S hr.hd e0 rfl (.cons rv .nil) z
  refine PySem.W.kla_codeExpr (wpAny_mono (ht.run [] s1 (L2.start N [v]) H _ I hq) (fun v' s' hs => ?_) fun e s' hs => hs)
  obtain ⟨w', H', J, rv', q⟩ := hs
  exact ⟨w', H', J.os, J.bare, J.base, J.hok, rv', q⟩
/-- x(e), the slot holds a lambda -/
def tCallLam (i : Nat) (t : LamT) (sp : Sp) (E : XK) (ta : TE) : TE := fun σ H Q => ∃ f, σ[i]? = some (some (.ref f)) ∧ (∃ c, H f = some (LamO t f c)) ∧ ta σ H fun v H1 => ∃ c, H1 f = some (LamO t f c) ∧ H1 c = some (CodeO c t.q) ∧ sp [v] H1 Q E
section
variable {X : Cx}
theorem pe_callLam {k i : Nat} {t : LamT} {sp : Sp} {E : XK} {x : Str} {e : Expr} {ta : TE} {p pos : Pos} (F : LamRun X.prog X.w X.K X.mg X.base k t sp) (hr : Room k X.A) (hN : X.N[i]? = some x) (hv : Vis X.env.scope x) (hx : Passes (L2.CX X.prog X.w) X E) (ha : PE X e ta)
    (hdb : (x == ("__debug__" : Str)) = false) (hcd : (x == ("__classdict__" : Str)) = false) (he : starEach [e] X.env = (false, eval e X.env) :: starEach [] X.env) : PE X (.Call (.Name x p) [e] [] pos) (tCallLam i t sp E ta) := by
  refine ⟨fun pins s σ H Q I h => ?_⟩
  obtain ⟨f, hs, ⟨c0, hf0⟩, ht⟩ := h
  refine wpAny_Call_Name_kw (thn ((pe_var (pos := p) hN hv hdb hcd).run pins s σ H (fun v H1 => v = .ref f ∧ H1 = H) I ⟨.ref f, hs, rfl, rfl⟩) fun u s1 ⟨v, H1, I1, r1, q1⟩ => ?_)
  obtain ⟨rfl, rfl⟩ := q1
  cases r1
  obtain ⟨⟨pm0, ctv0, of0⟩, _, _⟩ := I1.hok f _ hf0
  refine PySem.W.callWith_F (first := []) ⟨_, _, _, _, of0⟩ ?_ he rfl
  rw [he]
  show wpAny _ _ (spliced ((false, eval e X.env) :: backTo pos (starEach [] X.env))) _ _ s1
  refine Calls.spliced_cons (thn (ha.run pins s1 σ _ _ I1 ht) fun u2 s2 ⟨v2, H2, I2, r2, q2⟩ => ?_)
  obtain ⟨c, hf, hc, q⟩ := q2
  obtain ⟨⟨pm, ctv, of⟩, _, _⟩ := I2.hok f _ hf
  refine Calls.spliced_nil ⟨⟨_, _, _, _, of⟩, ?_⟩
  have rc := F X.A X.stack s2 H2 f c v2 u2 Q E hr I2.env0 hf hc r2 q
  refine wpAny_call (codeAny_mono rc fun r s' hq => ?_)
  cases r with
  | error e => exact hx pins σ H2 s2 e s' I2 hq
  | ok fl =>
    cases fl with
    | ret u => exact I2.after hq
    | next => exact False.elim hq
    | brk => exact False.elim hq
    | cont => exact False.elim hq
end
end EV
set_option Elab.async false
set_option linter.all false
set_option maxRecDepth 100000
set_option maxHeartbeats 4000000
namespace ER
open PySem PySem.Spec PySem.Calls PyProof.Rows L2

/-- the statements of an error's __init__ -/
abbrev stSuper (msg : Str) (p0 p1 p2 p3 p4 p5 : Pos) (j : Nat) : Stmt :=
  .Expr (.Call (.Attribute (.Call (.Name "super" p0) [] [] p1) "__init__" p2) [.Constant (.str msg) j p3] [] p4) p5
abbrev stKeep (f : Str) (p0 p1 p2 p3 : Pos) : Stmt := .Assign [.Attribute (.Name "self" p0) f p1] (.Name f p2) p3

/-- what the written part says of the __init__ at fI of the class C -/
structure ErrT (P : Program) (K : PySem.W.Frag) (mg : Str → Option Value) (C cc cda : Addr) : Prop where
  T : OexC K C
  code : ∃ ccl cdd vs ccs file tf, K.lookup cda = some ⟨ccl, cdd, .fields vs, ccs⟩ ∧ vs[2]? = some (.str file tf) ∧ ((P.main.file : Str) == file) = true
  cell : ∃ cl cld csl, K.lookup cc = some ⟨cl, cld, .cell (some (.ref C)), csl⟩
  noSuper : mg "super" = none
  sup : PySem.W.ks_superIn K C C "__init__" = some (some (.builtin "ValueError.__init__"))
  tp : PySem.W.nsIn K cStatics "thirdparty.any" = some none
  top : (P.main.scope.names.lookup ("super" : Str)).isSome = false

section
variable {P : Program} {w : World} {K : PySem.W.Frag} {mg : Str → Option Value} {base : Heap} {C cc cda fI : Addr}

/-- super().__init__('..') in a frame of such an __init__: nothing that is told of changes -/
theorem super_run {X : Cx} {pins : List (Addr × Obj)} {σ : L2.St} {H : Hp} {s : Shared} {a : Addr} {body : List Stmt} {msg : Str} {j : Nat} {p0 p1 p2 p3 p4 : Pos} {E : Value → Shared → Prop} {A : Around} {fd : FuncData} {oc : Value} {od : Option Addr} {osl : Array (Option Value)} {ar : Arg} {qual : Str} {scope : Scope} {L : Addr} {m : Str → Option Value}
    {Q : Value → Shared → Prop} (T : ErrT X.prog X.K X.mg C cc cda) (I : Inv X pins σ H s) (he : X.env = PySem.W.ksEnv qual scope L fI (.ref cda) cc) (hx : H a = some (exo a C none))
    (hf : X.K.lookup fI = some ⟨oc, od, .func fd, osl⟩) (hp : (fd.params.posonlyargs ++ fd.params.args).head? = some ar) (hs : s.heap.Ns L m) (hv : m ar.arg = some (.ref a))
    (hks : scope.names.lookup ("super" : Str) = some .globalImplicit) (hkc : scope.names.lookup ("__class__" : Str) = some .free) (hka : scope.names.lookup ar.arg = some .local) (hk : scope.kind = .function)
    (hpos : (p2.endLine == p4.line) = true) (h : ∀ s', Inv X pins σ H s' → Q .none s') :
    _root_.PySem.wpAt (model X.prog X.w) A (.func body X.env) (eval (.Call (.Attribute (.Call (.Name "super" p0) [] [] p1) "__init__" p2) [.Constant (.str msg) j p3] [] p4) X.env) Q E s := by
  obtain ⟨nm, q, N, bs, bm, sn, sub, ab, col, dd, k0, k1, k2, k3, k5, hC, hbm⟩ := T.T.cls
  obtain ⟨ccl, cdd, vs, ccs, file, tf, hcode, hvs, hfile⟩ := T.code
  obtain ⟨cl, cld, csl, hcell⟩ := T.cell
  have hcl : PySem.W.clsIn X.K C = some { name := nm, bases := bs, mro := .ref C :: bm, ns := N, qualname := q, hasDict := true, slotNames := sn, subclasses := sub, abstract := ab, collection := col, hasDel := false } := by unfold PySem.W.clsIn; rw [hC] <;> rfl
  have KX := I.kIn
  obtain ⟨t1, ho⟩ := exo_at I.hok hx
  obtain ⟨mb, hb1, hb2⟩ := I.mod.blt
  have hglob : s.heap.Ns mainGlobals X.mg := I.mod.glob.keeps I.bk
  have hblt : s.heap.Ns builtinsNs mb := hb1.keeps I.bk
  have hmro : PySem.W.mroIn X.K C (.ref C) = some true := by
    unfold PySem.W.mroIn
    rw [hcl]
    simp
  have hsubVE : PySem.W.mroIn X.K C (.type "ValueError") = some true := by
    have z : (Value.ref C :: bm).contains (.type "ValueError") = true := by
      rw [List.contains_cons, PySem.HandSPX.refsVE_contains "ValueError" bm hbm]
      rw [show PySem.HandSPX.veTail.contains (Value.type "ValueError") = true by decide +kernel, Bool.or_true]
    unfold PySem.W.mroIn
    rw [hcl, Option.bind_some, if_neg (show ¬ ((Value.ref C :: bm).isEmpty = true) from Bool.false_ne_true), z]
  rw [he]
  refine ks_wpAt_MethodCall (pl := (do return (← importBound (.Call (.Name "super" p0) [] [] p1) (PySem.W.ksEnv qual scope L fI (.ref cda) cc)).getD true)) ?_ (by
    show (do
      let ov ← attributeBase (.Call (.Name "super" p0) [] [] p1) "__init__" (PySem.W.ksEnv qual scope L fI (.ref cda) cc) (eval (.Call (.Name "super" p0) [] [] p1) (PySem.W.ksEnv qual scope L fI (.ref cda) cc))
      standAt p2.atName
      methodCall (.Call (.Name "super" p0) [] [] p1) "__init__" p2 p4 (PySem.W.ksEnv qual scope L fI (.ref cda) cc) ov 1 (backTo p4 (starEach [.Constant (.str msg) j p3] (PySem.W.ksEnv qual scope L fI (.ref cda) cc))) []) = _
    have e1 : methodCallPos true (.Call (.Name "super" p0) [] [] p1) (PySem.W.ksEnv qual scope L fI (.ref cda) cc) p2 p4 = pure p4 := by
      unfold methodCallPos
      rw [hpos]
      rfl
    have e2 : ∀ ov, methodCall (.Call (.Name "super" p0) [] [] p1) "__init__" p2 p4 (PySem.W.ksEnv qual scope L fI (.ref cda) cc) ov 1 (backTo p4 (starEach [.Constant (.str msg) j p3] (PySem.W.ksEnv qual scope L fI (.ref cda) cc))) [] = (do
      let (f, first) ← holding [ov] (getMethod ov "__init__" (do return (← importBound (.Call (.Name "super" p0) [] [] p1) (PySem.W.ksEnv qual scope L fI (.ref cda) cc)).getD true))
      callWith p4 f first (backTo p4 (starEach [.Constant (.str msg) j p3] (PySem.W.ksEnv qual scope L fI (.ref cda) cc))) []) := fun ov => by
      show (do
        let (f, first) ← holding [ov] (getMethod ov "__init__" (do return (← importBound (.Call (.Name "super" p0) [] [] p1) (PySem.W.ksEnv qual scope L fI (.ref cda) cc)).getD true))
        let callPos ← methodCallPos true (.Call (.Name "super" p0) [] [] p1) (PySem.W.ksEnv qual scope L fI (.ref cda) cc) p2 p4
        callWith callPos f first (backTo p4 (starEach [.Constant (.str msg) j p3] (PySem.W.ksEnv qual scope L fI (.ref cda) cc))) []) = _
      rw [e1]
      rfl
    simp only [e2])
  refine ks_wpAt_super_base (env := PySem.W.ksEnv qual scope L fI (.ref cda) cc) hks hkc (by decide) rfl (KX _ _ hf) rfl hp rfl (KX _ _ hcode) rfl hvs hfile T.top ?_
  refine PySem.W.ks_loadName_global hk hks (loadGlobal_builtin (env := PySem.W.ksEnv qual scope L fI (.ref cda) cc) hglob T.noSuper hblt ((hb2 _ (by decide +kernel)).trans (by decide +kernel)) ⟨rfl, ?_⟩)
  refine wpAny_loadName_free hk hkc rfl ⟨_, KX _ _ hcell, rfl⟩ ?_
  refine wpAny_loadName_local hk hka hs hv ?_
  obtain ⟨hh, g, d, t, os⟩ := s
  have hCo := KX _ _ hC
  refine ks_wpAny_isType_cls hCo rfl ⟨rfl, ?_⟩
  refine ks_wpAny_call_super hCo rfl ho rfl (fun c e => by cases e) (PySem.W.looks_mroIn KX hmro) (fun h1 e1 kp1 => ?_)
  have I1 : Inv X pins σ H ⟨h1, g, d, t, os⟩ := I.kept (t' := t) kp1
  have KX1 := I1.kIn
  have ho1 := kp1 _ _ ho
  have J1 : PySem.W.InstAt h1 a { cls := .ref C, dict := none, data := .fields #[.ref t1, .none, .none, .none, .bool false, .none] } C none := ⟨ho1, rfl, rfl, trivial⟩
  have hI : PySem.W.Looks (model X.prog X.w) h1 (isInstance (.ref a) (.type "ValueError")) true := J1.type.andThen (PySem.W.looks_mroIn KX1 hsubVE)
  have hsup := T.sup
  unfold PySem.W.ks_superIn at hsup
  rw [hcl] at hsup
  refine PySem.W.kxs_getMethod PySem.W.kxs_ValueError e1 (PySem.W.looks_opaque KX1 T.tp) (l₀ := .ref C :: bm) ?_ rfl KX1 hsup hI (PySem.W.ks_ne KX1 J1 hcl) (by decide) ?_
  · exact fun A Q E s k q => wpAny_bind ((PySem.W.looks_clsIn KX1 hcl) A _ E s k (wpAny_pure q))
  have kp2 : ∀ b o, h1.get? b = some o → (h1.push (PySem.W.kxs_mw "ValueError.__init__" a)).get? b = some o := fun b o e => Heap.get?_push_of_some _ e
  have hu : (h1.push (PySem.W.kxs_mw "ValueError.__init__" a)).get? h1.objs.size = some (PySem.W.kxs_mw "ValueError.__init__" a) := Heap.get?_push_at rfl rfl
  have I2 : Inv X pins σ H ⟨h1.push (PySem.W.kxs_mw "ValueError.__init__" a), g, d, t + 1, os⟩ := I1.kept (t' := t + 1) kp2
  refine PySem.W.kxs_callWith (i := "ValueError.__init__") (x := a) rfl ?_
  refine evalArgs_plain ?_
  refine Calls.spliced_cons ?_
  show wpAny _ _ (eval (.Constant (.str msg) j p3) (PySem.W.ksEnv qual scope L fI (.ref cda) cc)) _ _ _
  refine Calls.Constant_str (Calls.spliced_nil ⟨hu, ?_⟩)
  show wpAny _ _ (call (.ref h1.objs.size) [.str msg (t + 1)]) _ _ _
  have I3 : Inv X pins σ H ⟨h1.push (PySem.W.kxs_mw "ValueError.__init__" a), g, d, t + 1 + 1, os⟩ := I2.tok _
  refine wpAny_call (codeAny_of_tree ?_)
  show wpAny _ A.in1 (callAny (.ref h1.objs.size) ⟨[.str msg (t + 1)], []⟩) _ _ _
  simp only [callAny]
  refine wpAny_bind (wpAny_load hu ?_)
  simp only [PySem.W.kxs_mw, show (Value.type "method-wrapper" == Value.type "method" || Value.type "method-wrapper" == Value.type "builtin_function_or_method" || Value.type "method-wrapper" == Value.type "method-wrapper") = true by decide, if_true]
  refine PySem.W.KFB.if_so (by decide) ?_
  have hC2 := kp2 _ _ (kp1 _ _ hCo)
  have ho2 := kp2 _ _ ho1
  refine wpAny_bind (PySem.W.check_bound_init F.excBase_ValueError.toExcCallFacts hC2 ho2 rfl ?_)
  refine wpAny_bind (wpAny_pure (wpAny_pure ?_))
  refine ⟨plainId_quiet F.excBase_ValueError.init.plain _, codeAny_builtin F.excBase_ValueError.initEntry ?_⟩
  refine PySem.W.exc_init_tree (cls := .ref C) (t0 := t1) (dv := none) (c2 := .none) (c3 := .none) (b4 := .bool false) ho2 (by show 1 ≤ sizeLine; rw [sizeLine_eq]; omega) (fun h3 kp3 e3 _ => ?_)
  have J := I3.write (t' := t + 1 + 1) (x := a) (e := a) (o := exo a C none) (by rw [hx]; exact True.intro) (.inl rfl) kp3 ⟨_, e3⟩ (exo_ok e3)
  have eu : upd H a (exo a C none) = H := by
    funext b
    by_cases hb : b = a
    · rw [hb, upd_same, hx]
    · rw [upd_ne hb]
  rw [eu] at J
  exact h _ J

abbrev errEnv (qual : Str) (scope : Scope) (L fI cda cc : Addr) : Env := PySem.W.ksEnv qual scope L fI (.ref cda) cc
/-- the context of such an __init__'s body -/
def errCx (CX : CXT) (P : Program) (w : World) (K : PySem.W.Frag) (mg : Str → Option Value) (base : Heap) (N : List Str) (qual : Str) (scope : Scope) (fI cda cc : Addr) (A : Around) (outer : List Env) (s : Shared) (H : Hp) (E : XK) : Cx where
  prog := P
  w := w
  K := K
  mg := mg
  base := base
  A := A.deeper (errEnv qual scope s.heap.objs.size fI cda cc)
  N := N
  s_0 := s
  H_0 := H
  env := errEnv qual scope s.heap.objs.size fI cda cc
  outer := outer
  stack := errEnv qual scope s.heap.objs.size fI cda cc :: outer
  ex := []
  calm := true
  fn := fun _ => false
  pn := []
  xe := fun e s' => wpAny (model P w) (A.deeper (errEnv qual scope s.heap.objs.size fI cda cc)) (leaving (errEnv qual scope s.heap.objs.size fI cda cc) e) (fun _ s'' => CX outer H s E e s'') (fun e' s'' => CX outer H s E e' s'') s'

/-- the names of such an __init__ -/
structure ErrS (scope : Scope) : Prop where
  kind : scope.kind = .function
  co : scope.isCoroutine = false
  gen : scope.isGenerator = false
  cell : ∀ x ∈ scope.names, x.2 ≠ .cell
  free : ∀ x, scope.names.lookup x = some .free → x = "__class__"
  sup : scope.names.lookup ("super" : Str) = some .globalImplicit
  cls : scope.names.lookup ("__class__" : Str) = some .free
  self : scope.names.lookup ("self" : Str) = some .local

theorem err_inv {CX : CXT} {N : List Str} {qual : Str} {scope : Scope} {A : Around} {outer : List Env} {s : Shared} {H : Hp} {E : XK} {h₀ : Heap} {m : Str → Option Value} {σ : L2.St} {tk : Nat} (T : ErrT P K mg C cc cda) (S : ErrS scope) (hd : A.handled = none) (e0 : Env0 P w K mg base A outer s H)
    (hns : h₀.Ns s.heap.objs.size m) (hk : ∀ b o, s.heap.get? b = some o → h₀.get? b = some o) (hl : σ.length = N.length)
    (hv : ∀ (i : Nat) (x : Str) (v : V), N[i]? = some x → σ[i]? = some (some v) → ∃ u, RelV v u ∧ scope.names.lookup x = some .local ∧ m x = some u) :
    Inv (errCx CX P w K mg base N qual scope fI cda cc A outer s H E) [] σ H { s with heap := h₀, toks := tk } := by
  obtain ⟨cl, cld, csl, hcell⟩ := T.cell
  have hb := e0.mod.kin _ _ hcell
  have hccs := (e0.bs _ _ hb).1
  have lk : ∀ x c, (errEnv qual scope s.heap.objs.size fI cda cc).cells.lookup x = some c → x = "__class__" ∧ c = cc := fun x c e => by
    have e' : (match x == ("__class__" : Str) with | true => some cc | false => none) = some c := e
    cases q : (x == ("__class__" : Str)) with
    | true =>
      rw [q] at e'
      exact ⟨eq_of_beq q, (Option.some.inj e').symm⟩
    | false =>
      rw [q] at e'
      cases e'
  have noA : ∀ b : Addr, b ∉ (errCx CX P w K mg base N qual scope fI cda cc A outer s H E).ex := fun b z => absurd (show b ∈ ([] : List Addr) from z) (by simp)
  refine ⟨⟨e0.mod, S.kind, rfl, rfl, Nat.le_refl _, fun y z c h1 h2 => ?_, fun y hy => ?_, fun y c hf _ => ?_, fun _ => hd, Around.frames_deeper e0.frames, .inr ⟨rfl, rfl⟩, fun b z => absurd z (noA b), e0.bs, e0.bsz, fun b _ _ => noA b, fun b z => absurd z (noA b), e0.funs, e0.frf⟩,
    rfl, e0.bare, Un.kept hk, ⟨_, hns, fun i y v h1 h2 h3 => ?_⟩, fun y c h => ?_, e0.hok.fresh (Nat.le_refl _), fun y c h => ?_, fun p hp => absurd (show p ∈ ([] : List (Addr × Obj)) from hp) (by simp), e0.hok.kept hk, hl⟩
  · rw [(lk y c h1).1, (lk z c h2).1]
  · have hy : scope.names.lookup y = some .cell ∨ scope.names.lookup y = some .free := hy
    rcases hy with hy | hy
    · exact absurd rfl (S.cell _ (PySem.mem_of_lookup hy))
    · rw [S.free y hy]
      exact ⟨cc, rfl⟩
  · cases hf
  · obtain ⟨u, r, q1, q2⟩ := hv i y v h1 h2
    exact ⟨u, r, .inl ⟨q1, q2⟩⟩
  · rw [(lk y c h).2]
    exact ⟨_, _, hk _ _ hccs, rfl⟩
  · rw [(lk y c h).2]
    exact (e0.bs _ _ hb).2

/-- the promise of __init__(self, f) -/
def spErr1 (C : Addr) (f : Str) : Sp := fun vs H Q _ => ∃ (a : Addr) (v : V), vs = [.ref a, v] ∧ H a = some (exo a C none) ∧ ∀ dx, H dx = none → dx ≠ a → Q .non (upd (upd H dx (exd dx [(f, v)])) a (exo a C (some dx)))
/-- the promise of __init__(self) -/
def spErr0 (C : Addr) : Sp := fun vs H Q _ => ∃ (a : Addr), vs = [.ref a] ∧ H a = some (exo a C none) ∧ Q .non H

theorem err_init1 {CX : CXT} {qual f msg : Str} {params : Arguments} {scope : Scope} {dV kV doc pm ct oc : Value} {an od : Option Addr} {osl : Array (Option Value)} {p0 p1 p2 p3 p4 p5 q0 q1 q2 q3 : Pos} {j : Nat} {ar : Arg}
    (T : ErrT P K mg C cc cda) (S : ErrS scope) (lk : K.lookup fI = some ⟨oc, od, .func (PySem.W.ksFn "__init__" qual params [stSuper msg p0 p1 p2 p3 p4 p5 j, stKeep f q0 q1 q2 q3] scope dV kV doc pm an (.ref cda) ct cc), osl⟩)
    (hcd : PySem.W.codeIn K (.ref cda) qual = true) (hp : (params.posonlyargs ++ params.args).head? = some ar) (har : ar.arg = "self") (hf : scope.names.lookup f = some .local) (hfs : f ≠ "self") (hfd : (f == ("__debug__" : Str)) = false) (hfc : (f == ("__classdict__" : Str)) = false)
    (hno : PySem.W.findIn K (.ref C) f = some none) (hpos : (p2.endLine == p4.line) = true) (hsw1 : ∀ env, swapsWith (.Call (.Attribute (.Call (.Name "super" p0) [] [] p1) "__init__" p2) [.Constant (.str msg) j p3] [] p4) none p5.line env = pure false)
    (hsw2 : ∀ env, swapsWith (.Name f q2) (some (.Attribute (.Name "self" q0) f q1)) q3.line env = pure false) :
    FnOk P w K mg base CX 1 fI (PySem.W.ksFn "__init__" qual params [stSuper msg p0 p1 p2 p3 p4 p5 j, stKeep f q0 q1 q2 q3] scope dV kV doc pm an (.ref cda) ct cc) ["self", f] (spErr1 C f) := by
  refine ⟨fun vs H Q E h => ?_, fun A outer s H args us vs Q E hr e0 hb r hsp => ?_⟩
  · obtain ⟨a, v, rfl, _⟩ := h
    rfl
  obtain ⟨a, v, rfl, ha, k⟩ := hsp
  cases r with
  | @cons _ u0 _ ur ra rr =>
    obtain rfl : u0 = Value.ref a := ra
    cases rr with
    | @cons _ u _ ur2 ru rr2 =>
      cases rr2
      have KX : K.In s.heap := e0.mod.kin.keeps fun b o e => (e0.bs b o e).1
      have lim : s.heap.NoLimit := e0.mod.nolimit.keeps fun b o e => (e0.bs b o e).1
      refine ks_codeAny_call_defAt (fd := PySem.W.ksFn "__init__" qual params [stSuper msg p0 p1 p2 p3 p4 p5 j, stKeep f q0 q1 q2 q3] scope dV kV doc pm an (.ref cda) ct cc) (body := [stSuper msg p0 p1 p2 p3 p4 p5 j, stKeep f q0 q1 q2 q3]) (binds := (["self", f] : List Str).zip [.ref a, u]) hr.depth (KX _ _ lk) rfl lim (PySem.W.codeRec_of KX hcd) rfl hb S.cell (fun x hx => ?_) (fun h₀ hns hk => ?_) S.co S.gen S.kind
      · have hx' : x ∈ ([("self", .ref a), (f, u)] : List (Str × Value)) := hx
        rcases List.mem_cons.mp hx' with rfl | hx'
        · exact S.self
        · rcases List.mem_cons.mp hx' with rfl | hx'
          · exact hf
          · cases hx'
      have hm : ∀ x, ((["self", f] : List Str).zip [Value.ref a, u]).reverse.lookup x = (if x = f then some u else if x = "self" then some (.ref a) else none) := fun x => by
        show ([(f, u), ("self", .ref a)] : List (Str × Value)).lookup x = _
        by_cases h1 : x = f
        · subst h1
          simp [List.lookup]
        · have e1 : (x == f) = false := by simpa using h1
          by_cases h2 : x = "self"
          · subst h2
            simp [List.lookup, h1, e1]
          · have e2 : (x == ("self" : Str)) = false := by simpa using h2
            simp [List.lookup, h1, h2, e1, e2]
      have I : Inv (errCx CX P w K mg base ["self", f] qual scope fI cda cc A outer s H E) [] [some (.ref a), some v] H { s with heap := h₀, toks := s.toks + ((["self", f] : List Str).zip [Value.ref a, u]).length } := err_inv T S hr.hd e0 hns hk rfl (fun i x v' h1 h2 => by
        match i, h1, h2 with
        | 0, h1, h2 =>
          have e1 : ("self" : Str) = x := Option.some.inj h1
          have e2 : V.ref a = v' := Option.some.inj (Option.some.inj h2)
          subst e1 e2
          exact ⟨.ref a, rfl, S.self, by rw [hm, if_neg (Ne.symm hfs), if_pos rfl]⟩
        | 1, h1, h2 =>
          have e1 : f = x := Option.some.inj h1
          have e2 : v = v' := Option.some.inj (Option.some.inj h2)
          subst e1 e2
          exact ⟨u, ru, hf, by rw [hm, if_pos rfl]⟩
        | i + 2, h1, h2 => simp at h1)
      refine ks_wpAt_execs_cons (ks_wpAt_Expr_any ?_ (by show interactive (errEnv qual scope s.heap.objs.size fI cda cc) = false; unfold interactive; simp [S.kind]) (hsw1 _))
      refine super_run (X := errCx CX P w K mg base ["self", f] qual scope fI cda cc A outer s H E) (qual := qual) (scope := scope) (L := s.heap.objs.size) T I rfl ha lk hp hns (by rw [har, hm, if_neg (Ne.symm hfs), if_pos rfl]) S.sup S.cls (by rw [har]; exact S.self) S.kind hpos (fun s1 I1 => ?_)
      refine wpAt_of_wpAny ?_
      have hbody : PSs (errCx CX P w K mg base ["self", f] qual scope fI cda cc A outer s H E) [stKeep f q0 q1 q2 q3] (tOst K f (tVar 0) (tVar 1)) :=
        pss_one (ps_ost (pe_var (i := 0) rfl (.inl S.self)) (pe_var (i := 1) rfl (.inl hf) hfd hfc) (hsw2 _))
      refine wpAny_mono (hbody.run [] s1 _ H { nx := fun _ H' => Q .non H', rt := Q } I1 ⟨v, rfl, _, rfl, a, C, rfl, T.T, hno, .inl ⟨ha, k⟩⟩) (fun fl s' hs => ?_) fun e s' hs => hs
      have fin : ∀ {σ' : L2.St} {H' : Hp} {v : V} {u : Value}, Inv (errCx CX P w K mg base ["self", f] qual scope fI cda cc A outer s H E) [] σ' H' s' → RelV v u → Q v H' → CE outer P w H s Q u s' :=
        fun {σ' H' v u} J rv q => ⟨v, H', J.os, J.bare, J.base, J.hok, rv, q⟩
      cases fl with
      | ret u =>
        obtain ⟨v, σ', H', J, rv, q⟩ := hs
        exact fin J rv q
      | next =>
        obtain ⟨σ', H', J, q⟩ := hs
        exact fin (v := V.non) (u := Value.none) J rfl q
      | brk =>
        obtain ⟨_, _, _, q⟩ := hs
        exact False.elim q
      | cont =>
        obtain ⟨_, _, _, q⟩ := hs
        exact False.elim q

theorem err_init0 {CX : CXT} {qual msg : Str} {params : Arguments} {scope : Scope} {dV kV doc pm ct oc : Value} {an od : Option Addr} {osl : Array (Option Value)} {p0 p1 p2 p3 p4 p5 : Pos} {j : Nat} {ar : Arg}
    (T : ErrT P K mg C cc cda) (S : ErrS scope) (lk : K.lookup fI = some ⟨oc, od, .func (PySem.W.ksFn "__init__" qual params [stSuper msg p0 p1 p2 p3 p4 p5 j] scope dV kV doc pm an (.ref cda) ct cc), osl⟩)
    (hcd : PySem.W.codeIn K (.ref cda) qual = true) (hp : (params.posonlyargs ++ params.args).head? = some ar) (har : ar.arg = "self")
    (hpos : (p2.endLine == p4.line) = true) (hsw1 : ∀ env, swapsWith (.Call (.Attribute (.Call (.Name "super" p0) [] [] p1) "__init__" p2) [.Constant (.str msg) j p3] [] p4) none p5.line env = pure false) :
    FnOk P w K mg base CX 1 fI (PySem.W.ksFn "__init__" qual params [stSuper msg p0 p1 p2 p3 p4 p5 j] scope dV kV doc pm an (.ref cda) ct cc) ["self"] (spErr0 C) := by
  refine ⟨fun vs H Q E h => ?_, fun A outer s H args us vs Q E hr e0 hb r hsp => ?_⟩
  · obtain ⟨a, rfl, _⟩ := h
    rfl
  obtain ⟨a, rfl, ha, k⟩ := hsp
  cases r with
  | @cons _ u0 _ ur ra rr =>
    obtain rfl : u0 = Value.ref a := ra
    cases rr
    have KX : K.In s.heap := e0.mod.kin.keeps fun b o e => (e0.bs b o e).1
    have lim : s.heap.NoLimit := e0.mod.nolimit.keeps fun b o e => (e0.bs b o e).1
    refine ks_codeAny_call_defAt (fd := PySem.W.ksFn "__init__" qual params [stSuper msg p0 p1 p2 p3 p4 p5 j] scope dV kV doc pm an (.ref cda) ct cc) (body := [stSuper msg p0 p1 p2 p3 p4 p5 j]) (binds := (["self"] : List Str).zip [.ref a]) hr.depth (KX _ _ lk) rfl lim (PySem.W.codeRec_of KX hcd) rfl hb S.cell (fun x hx => ?_) (fun h₀ hns hk => ?_) S.co S.gen S.kind
    · have hx' : x ∈ ([("self", .ref a)] : List (Str × Value)) := hx
      rcases List.mem_cons.mp hx' with rfl | hx'
      · exact S.self
      · cases hx'
    have hm : ((["self"] : List Str).zip [Value.ref a]).reverse.lookup ("self" : Str) = some (Value.ref a) := by show ([(("self" : Str), Value.ref a)] : List (Str × Value)).lookup ("self" : Str) = some (Value.ref a); simp [List.lookup]
    have I : Inv (errCx CX P w K mg base ["self"] qual scope fI cda cc A outer s H E) [] [some (.ref a)] H { s with heap := h₀, toks := s.toks + ((["self"] : List Str).zip [Value.ref a]).length } := err_inv T S hr.hd e0 hns hk rfl (fun i x v' h1 h2 => by
      match i, h1, h2 with
      | 0, h1, h2 =>
        have e1 : ("self" : Str) = x := Option.some.inj h1
        have e2 : V.ref a = v' := Option.some.inj (Option.some.inj h2)
        subst e1 e2
        exact ⟨.ref a, rfl, S.self, hm⟩
      | i + 1, h1, h2 => simp at h1)
    refine ks_wpAt_execs_cons (ks_wpAt_Expr_any ?_ (by show interactive (errEnv qual scope s.heap.objs.size fI cda cc) = false; unfold interactive; simp [S.kind]) (hsw1 _))
    refine super_run (X := errCx CX P w K mg base ["self"] qual scope fI cda cc A outer s H E) (qual := qual) (scope := scope) (L := s.heap.objs.size) T I rfl ha lk hp hns (by rw [har]; exact hm) S.sup S.cls (by rw [har]; exact S.self) S.kind hpos (fun s1 I1 => ?_)
    refine wpAt_of_wpAny (wpAny_execs_nil ?_)
    exact ⟨.non, H, I1.os, I1.bare, I1.base, I1.hok, rfl, k⟩
end
end ER
set_option Elab.async false
set_option linter.all false
set_option maxRecDepth 100000
set_option maxHeartbeats 4000000
namespace PySem
namespace ER2
open HandSPX
section
variable {M : Model} {A : Around} {E : Value → Shared → Prop} {h : Heap} {g : Array GenState} {d : Drawn} {t : Nat} {os : OsState}
variable {nm q : Str} {C N : Addr} {bs bm bmB : List Value} {hdct : Bool} {sn : List Str} {sub : List Value} {ab : Bool} {col : Option Bool} {dd : Option Addr} {k0 k1 k2 k3 k5 : Option Value} {B newId initId : String}

theorem check_new_kw (F : ExcBaseFacts B newId initId bmB) (hT : ∀ X : String, bm.contains (.type X) = bmB.contains (.type X)) {kw : List (Str × Value)} {Q : Unit → Shared → Prop}
    (hC : h.get? C = some (excClassObj nm q C N bs bm hdct sn sub ab col dd k0 k1 k2 k3 k5 newId)) (hq : Q () ⟨h, g, d, t, os⟩) : wpAny M A (checkBuiltinCall newId ⟨[.ref C], kw⟩) Q E ⟨h, g, d, t, os⟩ := by
  have hcont : (Value.ref C :: bm).contains (.type B) = true := by rw [List.contains_cons, hT, F.hasB, Bool.or_true]
  have hstar := F.noStar
  simp only [checkBuiltinCall, F.newKind, F.newSplit, F.newRow]
  repeat (first | refine wpAny_loadPart_at hC ?_ | (refine wpAny_isSubtype_exc hC ?_; rw [hcont]) | refine wpAny_staticBase_exc hC ?_ | refine wpAny_madeBy_exc hC ?_ | simp only [bne_self_eq_false, Bool.false_eq_true, if_false] | wp_step)
  exact hq
end
section
variable {prog : Program} {w : World} {A : Around} {E : Value → Shared → Prop} {R : Result → Shared → Prop} {h : Heap} {g : Array GenState} {d : Drawn} {t : Nat} {os : OsState}
variable {nm q : Str} {C N : Addr} {bs bm bmB : List Value} {hdct : Bool} {sn : List Str} {sub : List Value} {ab : Bool} {col : Option Bool} {dd : Option Addr} {k0 k1 k2 k3 k5 : Option Value} {B newId initId : String}

theorem new_kw (F : ExcBaseFacts B newId initId bmB) (hT : ∀ X : String, bm.contains (.type X) = bmB.contains (.type X)) {kw : List (Str × Value)}
    (hC : h.get? C = some (excClassObj nm q C N bs bm hdct sn sub ab col dd k0 k1 k2 k3 k5 newId))
    (hq : R (.ok (.ret (.ref (h.objs.size + 1)))) ⟨(h.push { cls := .type "tuple", data := .seq ([] : List Value).toArray }).push
      { cls := .ref C, data := .fields #[.ref h.objs.size, .none, .none, .none, .bool false, .none] }, g, d, t, os⟩) :
    codeAny (model prog w) A (.builtin newId ⟨[.ref C], kw⟩) R ⟨h, g, d, t, os⟩ := by
  have hends := F.ends
  have hcB : (Value.ref C :: bm).contains (.type B) = true := by rw [List.contains_cons, hT, F.hasB, Bool.or_true]
  have hcA : (Value.ref C :: bm).contains (.type "AttributeError") = false := by rw [List.contains_cons, hT, F.noAttr]; rfl
  have hcN : (Value.ref C :: bm).contains (.type "NameError") = false := by rw [List.contains_cons, hT, F.noName]; rfl
  refine codeAny_builtinAt F.entry ?_
  unfold Builtin.«BaseException.__new__»
  refine wpAt_bind ?_
  show wpAt _ _ _ (stack >>= _) _ _ _
  refine wpAt_bind (wpAt_stack fun p below => wpAt_of_wpAny ?_)
  wp_walk
  refine wpAt_of_wpAny ?_
  rw [F.owner]
  repeat (first | with_reducible refine wpAny_madeHere_exc F.canon hC ?_ | with_reducible refine wpAny_loadPart_at hC ?_ | (with_reducible refine wpAny_isSubtype_exc hC ?_; first | rw [hcB] | rw [hcA] | rw [hcN]) | wp_step)
  show R _ _
  rw [Heap.size_push]
  exact hq

theorem type_call_kw (F : ExcBaseFacts B newId initId bmB) (hT : ∀ X : String, bm.contains (.type X) = bmB.contains (.type X)) {kw : List (Str × Value)} {fI : Addr} {Q : Fin → Shared → Prop}
    (hC : h.get? C = some (excClassObj nm q C N bs bm hdct sn sub ab col dd k0 k1 k2 k3 k5 newId))
    (hi : W.Looks (model prog w) h (typeLookup (.ref C) "__init__") (some (.ref fI))) (hb : ∀ self, W.Looks (model prog w) h (bindSpecial (.ref fI) self) (.ref fI, [self]))
    (hq : codeAny (model prog w) A (.call (.ref fI) ⟨[.ref (h.objs.size + 1)], kw⟩)
      (fun r s' => match r with | .ok (.ret v) => v = .none ∧ Q (.done (.ret (.ref (h.objs.size + 1)))) s' | .ok _ => False | .error e => E e s')
      ⟨(h.push (W.kdv_tup [])).push (excO C h.objs.size), g, d, t, os⟩) :
    wpAny (model prog w) A (Builtin.«type.__call__» ⟨[.ref C], kw⟩) Q E ⟨h, g, d, t, os⟩ := by
  repeat (first | with_reducible refine wpAny_loadPart_at hC ?_ | with_reducible refine wpAny_madeBy_exc hC ?_ | wp_step)
  refine codeAny_call_builtin_code (Code.quiet_builtin _ F.quiet) (check_new_kw F hT hC ?_)
  refine new_kw F hT hC ?_
  show wpAny _ _ _ _ _ _
  have k : ∀ b o, h.get? b = some o → ((h.push (W.kdv_tup [])).push (excO C h.objs.size)).get? b = some o := fun b o e => Heap.get?_push_of_some _ (Heap.get?_push_of_some _ e)
  have hC₁ := k _ _ hC
  have hget : ((h.push (W.kdv_tup [])).push (excO C h.objs.size)).get? (h.objs.size + 1) = some (excO C h.objs.size) := by heap_get
  have hcC : (Value.ref C :: bm).contains (.ref C) = true := by simp
  have i1 := hi.keeps k
  have b1 := (hb (.ref (h.objs.size + 1))).keeps k
  unfold isInstance
  repeat (first | with_reducible refine wpAny_loadPart_at hget ?_ | (with_reducible refine wpAny_isSubtype_exc hC₁ ?_; rw [hcC]) | wp_step)
  show wpAny _ _ (typeLookup (.ref C) _) _ _ _
  refine i1.at ?_
  refine wpAny_holding (wpAny_bind (b1.at ?_))
  refine wpAny_bind (wpAny_call (codeAny_mono hq fun r s' z => ?_))
  rcases r with e | (v | _ | _ | _) <;> first | exact z | exact z.elim | skip
  obtain ⟨rfl, z⟩ := z
  first
    | exact wpAny_pure (wpAny_pure z)
    | (wp_walk; exact z)

theorem call_kw (F : ExcBaseFacts B newId initId bmB) (hT : ∀ X : String, bm.contains (.type X) = bmB.contains (.type X)) {kw : List (Str × Value)} {fI : Addr}
    (hC : h.get? C = some (excClassObj nm q C N bs bm hdct sn sub ab col dd k0 k1 k2 k3 k5 newId))
    (hi : W.Looks (model prog w) h (typeLookup (.ref C) "__init__") (some (.ref fI))) (hb : ∀ self, W.Looks (model prog w) h (bindSpecial (.ref fI) self) (.ref fI, [self]))
    (hq : codeAny (model prog w) (A.under (.builtin "type.__call__" ⟨[.ref C], kw⟩)) (.call (.ref fI) ⟨[.ref (h.objs.size + 1)], kw⟩) (W.InitBack (h.objs.size + 1) R)
      ⟨(h.push (W.kdv_tup [])).push (excO C h.objs.size), g, d, t, os⟩) :
    codeAny (model prog w) A (.call (.ref C) ⟨[], kw⟩) R ⟨h, g, d, t, os⟩ := by
  have f1 := tc_lookup
  have f2 := tc_bind (.ref C)
  have hTy : (⟨h, g, d, t, os⟩ : Shared).TypeIs (.ref C) "type" := ⟨_, hC, rfl⟩
  refine codeAny_of_tree ?_
  show wpAny _ _ (callAny (.ref C) _) _ _ _
  repeat (any_goals (first | assumption | with_reducible refine wpAny_loadPart_at hC ?_ | wp_step))
  refine ⟨rfl, ?_⟩
  refine codeAny_call_builtin_at (Code.quiet_builtin _ (by decide +kernel)) entry_typeCall (wpAny_check_type_call_sub hC (type_call_kw F hT hC hi hb ?_))
  refine codeAny_mono hq fun r s' z => ?_
  rcases r with e | (v | _ | _ | _) <;> exact z
end
end ER2
end PySem
set_option Elab.async false
set_option linter.all false
set_option maxRecDepth 100000
set_option maxHeartbeats 4000000
namespace ER
open PySem PySem.Spec PySem.Calls PyProof.Rows L2

/-- an error class of one field, as the written part has it -/
structure Err1Ok (P : Program) (w : World) (K : PySem.W.Frag) (mg : Str → Option Value) (base : Heap) (C : Addr) (f : Str) (fI : Addr) (fd : FuncData) : Prop where
  T : OexC K C
  init : PySem.W.findIn K (.ref C) "__init__" = some (some (.ref fI))
  tI : PySem.W.typeIn K (.ref fI) = some (.type "function")
  F : ∀ CX, FnOk P w K mg base CX 1 fI fd ["self", f] (spErr1 C f)
  b : ∀ (s : Shared) (a u : Value), BindsTo s fd ⟨[a, u], []⟩ ((["self", f] : List Str).zip [a, u])
  bk : ∀ (s : Shared) (a u : Value), BindsTo s fd ⟨[a], [(f, u)]⟩ ((["self", f] : List Str).zip [a, u])
structure Err0Ok (P : Program) (w : World) (K : PySem.W.Frag) (mg : Str → Option Value) (base : Heap) (C : Addr) (fI : Addr) (fd : FuncData) : Prop where
  T : OexC K C
  init : PySem.W.findIn K (.ref C) "__init__" = some (some (.ref fI))
  tI : PySem.W.typeIn K (.ref fI) = some (.type "function")
  F : ∀ CX, FnOk P w K mg base CX 1 fI fd ["self"] (spErr0 C)
  b : ∀ (s : Shared) (a : Value), BindsTo s fd ⟨[a], []⟩ ((["self"] : List Str).zip [a])

/-- C(e): a new exception and its dict -/
def tErr (C : Addr) (f : Str) (ta : TA) : TE := fun σ H Q => ta σ H fun vs H1 => ∃ v, vs = [v] ∧ ∀ a d, H1 a = none → H1 d = none → d ≠ a → Q (.ref a) (upd (upd H1 d (exd d [(f, v)])) a (exo a C (some d)))
def tErr0 (C : Addr) : TE := fun _ H Q => ∀ a, H a = none → Q (.ref a) (upd H a (exo a C none))
theorem upd3 {H : Hp} {a d : Addr} {o o' o2 : HO} (h : d ≠ a) : upd (upd (upd H a o) d o2) a o' = upd (upd H d o2) a o' := by
  funext b
  by_cases h1 : b = a
  · rw [h1, upd_same, upd_same]
  · rw [upd_ne h1, upd_ne h1]
    by_cases h2 : b = d
    · rw [h2, upd_same, upd_same]
    · rw [upd_ne h2, upd_ne h2, upd_ne h1]
section
variable {X : Cx} {C fI : Addr} {fd : FuncData} {f x : Str} {p pos : Pos} {e : Expr} {te : TE}
theorem run_err {pins : List (Addr × Obj)} {σ : L2.St} {H : Hp} {s : Shared} {Q : VK} {v : V} {u : Value} {kw : Bool} (T : Err1Ok X.prog X.w X.K X.mg X.base C f fI fd) (hr : Room 2 X.A) (I : Inv X pins σ H s) (rv : RelV v u)
    (h : ∀ a d, H a = none → H d = none → d ≠ a → Q (.ref a) (upd (upd H d (exd d [(f, v)])) a (exo a C (some d)))) :
    wpAny (model X.prog X.w) X.A (call (.ref C) (if kw then [] else [u]) (if kw then [(f, u)] else [])) (EP X pins σ Q) X.xe s := by
  obtain ⟨nm, q, N, bs, bm, sn, sub, ab, col, dd, k0, k1, k2, k3, k5, hC, hbm⟩ := T.T.cls
  obtain ⟨hp, g, dr, tk, os⟩ := s
  have hsz : hp.objs.size ≤ hp.objs.size + 1 := Nat.le_succ _
  have hn : H (hp.objs.size + 1) = none := I.hok.fresh hsz
  have main : ∀ us0 : List Value, us0.length ≤ 1 → ∀ ar : Args, BindsTo ⟨(hp.push (PySem.W.kdv_tup us0)).push (PySem.HandSPX.excO C hp.objs.size), g, dr, tk, os⟩ fd ar ((["self", f] : List Str).zip [.ref (hp.objs.size + 1), u]) → ∀ A' : Around, Room 1 A' → A'.frames = X.A.frames →
      codeAny (model X.prog X.w) A' (.call (.ref fI) ar) (PySem.W.InitBack (hp.objs.size + 1) fun r s' => match r with | .ok (.ret v) => EP X pins σ Q v s' | .ok _ => False | .error e => X.xe e s') ⟨(hp.push (PySem.W.kdv_tup us0)).push (PySem.HandSPX.excO C hp.objs.size), g, dr, tk, os⟩ := fun us0 hus0 ar hb A' hr' hfr => by
    have kk : ∀ b o, hp.get? b = some o → ((hp.push (PySem.W.kdv_tup us0)).push (PySem.HandSPX.excO C hp.objs.size)).get? b = some o := fun b o e => Heap.get?_push_of_some _ (Heap.get?_push_of_some _ e)
    have hget : ((hp.push (PySem.W.kdv_tup us0)).push (PySem.HandSPX.excO C hp.objs.size)).get? (hp.objs.size + 1) = some (PySem.HandSPX.excO C hp.objs.size) := by heap_get
    have I2 : Inv X pins σ (upd H (hp.objs.size + 1) (exo (hp.objs.size + 1) C none)) ⟨(hp.push (PySem.W.kdv_tup us0)).push (PySem.HandSPX.excO C hp.objs.size), g, dr, tk, os⟩ :=
      I.laid (t' := tk) (a := hp.objs.size + 1) (o := exo (hp.objs.size + 1) C none) (h' := (hp.push (PySem.W.kdv_tup us0)).push (PySem.HandSPX.excO C hp.objs.size)) kk hsz (exo_ok hget)
    have r2 : Vals [V.ref (hp.objs.size + 1), v] [Value.ref (hp.objs.size + 1), u] := .cons rfl (.cons rv .nil)
    have e0 : Env0 X.prog X.w X.K X.mg X.base A' X.stack ⟨(hp.push (PySem.W.kdv_tup us0)).push (PySem.HandSPX.excO C hp.objs.size), g, dr, tk, os⟩ (upd H (hp.objs.size + 1) (exo (hp.objs.size + 1) C none)) := by
      obtain ⟨a1, a2, a3, a4, a5, a6, a7, a8⟩ := I2.env0
      exact ⟨by rw [hfr]; exact a1, a2, a3, a4, a5, a6, a7, a8⟩
    refine codeAny_mono ((T.F CX0).run A' X.stack _ _ ar [.ref (hp.objs.size + 1), u] [.ref (hp.objs.size + 1), v] (fun v' H2 => v' = .non ∧ Q (.ref (hp.objs.size + 1)) H2) (fun _ _ _ => False) hr' e0 hb r2
      ⟨hp.objs.size + 1, v, rfl, upd_same, fun dx hdx hne => ⟨rfl, ?_⟩⟩) fun r s' hq' => ?_
    · rw [upd3 hne]
      exact h _ dx hn (by rw [upd_ne hne] at hdx; exact hdx) hne
    · cases r with
      | error er => exact False.elim hq'
      | ok fl =>
        cases fl with
        | ret u' =>
          obtain ⟨v', H', I3, rv', ev, q3⟩ := I2.after hq'
          subst ev
          exact ⟨rv', ⟨V.ref (hp.objs.size + 1), H', I3, rfl, q3⟩⟩
        | next => exact False.elim hq'
        | brk => exact False.elim hq'
        | cont => exact False.elim hq'
  refine wpAny_call ?_
  cases kw with
  | false =>
    refine codeAny_mono (R := fun r s' => match r with | .ok (.ret v) => EP X pins σ Q v s' | .ok _ => False | .error e => X.xe e s') (PySem.HandSPX.call_own (rest := [u]) F.excBase_ValueError (fun Y => PySem.HandSPX.refsVE_contains Y bm hbm) (I.kIn _ _ hC) (PySem.W.looks_findIn I.kIn T.init) (fun self => PySem.W.bind_fn I.kIn self T.tI) (by show 1 ≤ sizeLine; rw [sizeLine_eq]; omega)
      (main [u] (Nat.le_refl _) ⟨[.ref (hp.objs.size + 1), u], []⟩ (T.b _ _ _) _ (hr.make C [u] []) ?_)) fun r s' z => ?_
    · first | rfl | simp [Around.under, Code.envs, Code.isFrame, pushEnvs]
    · rcases r with er | (v' | _ | _ | _) <;> exact z
  | true =>
    refine codeAny_mono (R := fun r s' => match r with | .ok (.ret v) => EP X pins σ Q v s' | .ok _ => False | .error e => X.xe e s') (PySem.ER2.call_kw (kw := [(f, u)]) F.excBase_ValueError (fun Y => PySem.HandSPX.refsVE_contains Y bm hbm) (I.kIn _ _ hC) (PySem.W.looks_findIn I.kIn T.init) (fun self => PySem.W.bind_fn I.kIn self T.tI)
      (main [] (Nat.zero_le _) ⟨[.ref (hp.objs.size + 1)], [(f, u)]⟩ (T.bk _ _ _) _ (hr.make C [] [(f, u)]) ?_)) fun r s' z => ?_
    · first | rfl | simp [Around.under, Code.envs, Code.isFrame, pushEnvs]
    · rcases r with er | (v' | _ | _ | _) <;> exact z
variable {ta : TA} {kpos : Pos}
theorem pe_err (T : Err1Ok X.prog X.w X.K X.mg X.base C f fI fd) (hr : Room 2 X.A) (hg : Gl X x) (hm : X.mg x = some (.ref C)) (ha : PA X [e] ta)
    (hdb : (x == ("__debug__" : Str)) = false) (hst : starEach [e] X.env = (false, eval e X.env) :: starEach [] X.env) : PE X (.Call (.Name x p) [e] [] pos) (tErr C f ta) := by
  refine ⟨fun pins s σ H Q I h => ?_⟩
  refine wpAny_Call_Name_kw (ld_glob I hg hm ?_ hdb)
  refine PySem.W.callWith_K (h₀ := X.base) I.ok.mod.kin T.T.kC (thn (ha.run pos pins s σ H _ I h) fun us s1 ⟨vs, H1, I1, r, v, ev, q⟩ => ⟨I1.kIn, ?_⟩) hst (by rfl)
  subst ev
  cases r with
  | cons rv rr =>
    cases rr
    exact run_err (kw := false) T hr I1 rv q
theorem pe_errK (T : Err1Ok X.prog X.w X.K X.mg X.base C f fI fd) (hr : Room 2 X.A) (hg : Gl X x) (hm : X.mg x = some (.ref C)) (ha : PK X [⟨some f, e, kpos⟩] ta)
    (hdb : (x == ("__debug__" : Str)) = false) : PE X (.Call (.Name x p) [] [⟨some f, e, kpos⟩] pos) (tErr C f ta) := by
  refine ⟨fun pins s σ H Q I h => ?_⟩
  refine wpAny_Call_Name_kw (ld_glob I hg hm ?_ hdb)
  refine PySem.W.callWith_KW0 (h₀ := X.base) I.ok.mod.kin T.T.kC (by rfl) (thn (ha.run pos pins s σ H _ I h) fun us s1 ⟨vs, H1, I1, r, v, ev, q⟩ => ⟨I1.kIn, ?_⟩) (by rfl)
  subst ev
  cases r with
  | cons rv rr =>
    cases rr
    exact run_err (kw := true) T hr I1 rv q
theorem pe_err0 (T : Err0Ok X.prog X.w X.K X.mg X.base C fI fd) (hr : Room 2 X.A) (hg : Gl X x) (hm : X.mg x = some (.ref C)) (hdb : (x == ("__debug__" : Str)) = false) : PE X (.Call (.Name x p) [] [] pos) (tErr0 C) := by
  refine ⟨fun pins s σ H Q I h => ?_⟩
  refine wpAny_Call_Name_kw (ld_glob I hg hm ?_ hdb)
  refine PySem.W.callWith_K0 I.kIn T.T.kC ?_
  obtain ⟨nm, q, N, bs, bm, sn, sub, ab, col, dd, k0, k1, k2, k3, k5, hC, hbm⟩ := T.T.cls
  obtain ⟨hp, g, dr, tk, os⟩ := s
  have hsz : hp.objs.size ≤ hp.objs.size + 1 := Nat.le_succ _
  have hn : H (hp.objs.size + 1) = none := I.hok.fresh hsz
  have kk : ∀ b o, hp.get? b = some o → ((hp.push (PySem.W.kdv_tup [])).push (PySem.HandSPX.excO C hp.objs.size)).get? b = some o := fun b o e => Heap.get?_push_of_some _ (Heap.get?_push_of_some _ e)
  have hget : ((hp.push (PySem.W.kdv_tup [])).push (PySem.HandSPX.excO C hp.objs.size)).get? (hp.objs.size + 1) = some (PySem.HandSPX.excO C hp.objs.size) := by heap_get
  have I2 : Inv X pins σ (upd H (hp.objs.size + 1) (exo (hp.objs.size + 1) C none)) ⟨(hp.push (PySem.W.kdv_tup [])).push (PySem.HandSPX.excO C hp.objs.size), g, dr, tk, os⟩ :=
    I.laid (t' := tk) (a := hp.objs.size + 1) (o := exo (hp.objs.size + 1) C none) (h' := (hp.push (PySem.W.kdv_tup [])).push (PySem.HandSPX.excO C hp.objs.size)) kk hsz (exo_ok hget)
  have r2 : Vals [V.ref (hp.objs.size + 1)] [Value.ref (hp.objs.size + 1)] := .cons rfl .nil
  refine wpAny_call ?_
  refine codeAny_mono (R := fun r s' => match r with | .ok (.ret v) => EP X pins σ Q v s' | .ok _ => False | .error e => X.xe e s') (PySem.HandSPX.call_own (rest := []) F.excBase_ValueError (fun Y => PySem.HandSPX.refsVE_contains Y bm hbm) (I.kIn _ _ hC) (PySem.W.looks_findIn I.kIn T.init) (fun self => PySem.W.bind_fn I.kIn self T.tI) (Nat.zero_le _)
    (codeAny_mono ((T.F CX0).run _ X.stack _ _ ⟨[.ref (hp.objs.size + 1)], []⟩ [.ref (hp.objs.size + 1)] [.ref (hp.objs.size + 1)] (fun v' H2 => v' = .non ∧ Q (.ref (hp.objs.size + 1)) H2) (fun _ _ _ => False) (hr.make C [] []) (I2.env0.make C [] []) (T.b _ _) r2
      ⟨hp.objs.size + 1, rfl, upd_same, rfl, h _ hn⟩) fun r s' hq' => ?_)) fun r s' z => ?_
  · cases r with
    | error er => exact False.elim hq'
    | ok fl =>
      cases fl with
      | ret u' =>
        obtain ⟨v', H', I3, rv', ev, q3⟩ := I2.after hq'
        subst ev
        exact ⟨rv', ⟨V.ref (hp.objs.size + 1), H', I3, rfl, q3⟩⟩
      | next => exact False.elim hq'
      | brk => exact False.elim hq'
      | cont => exact False.elim hq'
  · rcases r with er | (v' | _ | _ | _) <;> exact z
end
end ER
set_option Elab.async false
set_option linter.all false
set_option maxRecDepth 100000
set_option maxHeartbeats 4000000
namespace PySem.W
open PySem PySem.Spec PySem.Calls PyProof.Rows
section
variable {prog : Program} {w : World} {A : Around} {E : Value → Shared → Prop} {s : Shared} {K : Frag} {x D : Addr} {ox : Obj} {od : Option Obj}
theorem findObj_dataO {C : Addr} {name : Str} {a g : Value} (hc : (clsIn K C).isSome = true) (ha : findIn K (.ref C) name = some (some a)) (hg : specialIn K a "__get__" = some (some g)) (ht : takesIn K a = some true) : findObj K C od name = some (.bind g a) := by
  obtain ⟨cd, hc⟩ := Option.isSome_iff_exists.mp hc
  unfold findObj
  rw [hc, Option.bind_some, ha, Option.bind_some]
  simp [hg, ht]
theorem kin_classO {Q : Option Value → Shared → Prop} (hga : findIn K (.ref D) "__getattribute__" = some (some (.builtin "BaseException.__getattribute__"))) (hgt : findIn K (.ref D) "__getattr__" = some none) (hsub : subIn K (.ref D) (.type "BaseException") = some true)
    (hdct : hasDictIn K D = true) (ha : findIn K (.ref D) "__class__" = some (some (.builtin "object.__class__")))
    (hn : specialIn K (.builtin "object.__class__") "__get__" = some (some (.builtin "getset_descriptor.__get__"))) (htk : takesIn K (.builtin "object.__class__") = some true) (hm : mroIn K D (.type "object") = some true)
    (X : K.In s.heap) (I : InstAt s.heap x ox D od) (h : Q (some (.ref D)) { s with toks := s.toks + 1 }) : wpAny (model prog w) A (getAttr? (.ref x) "__class__") Q E s := by
  have hf : findObj K D od "__class__" = some (.bind (.builtin "getset_descriptor.__get__") (.builtin "object.__class__")) := findObj_dataO (by obtain ⟨cd, hc, _⟩ := any_some hdct; rw [hc]; rfl) ha hn htk
  obtain ⟨hp, g, d, t, os⟩ := s
  have L0 := I.type (M := model prog w)
  have L1 := looks_findIn (M := model prog w) X hga
  have L2 := looks_findIn (M := model prog w) X hgt
  have L3 := looks_find (M := model prog w) X I hf
  have sub : Looks (model prog w) hp (isInstance (.ref x) (.type "BaseException")) true := L0.andThen (looks_subIn X hsub)
  have hx0 : (false && onTheHeap (Value.builtin "BaseException.__getattribute__")) = false := rfl
  have hx2 : (Value.builtin "BaseException.__getattribute__" == Value.builtin "object.__getattribute__") = false := by decide +kernel
  have hx1 : (onTheHeap (Value.ref D) && Value.builtin "BaseException.__getattribute__" == Value.builtin "object.__getattribute__") = false := by rw [hx2]; rfl
  unfold getAttr? getAttrBy? getAttrBy
  refine wpAny_bind (wpAny_mkText (wpAny_bind (wpAny_attempt (wpAny_holding (wpAny_bind (L0.at (wpAny_bind (L1.at ?_))))))))
  show wpAny _ _ (if (onTheHeap (Value.ref D) && Value.builtin "BaseException.__getattribute__" == Value.builtin "object.__getattribute__") = true then _ else _) _ _ _
  rw [hx1, if_neg Bool.false_ne_true]
  unfold getAttrByItsOwn hookBefore
  refine wpAny_bind ?_
  rw [if_pos (show onTheHeap (Value.ref D) = true from rfl)]
  refine L2.at ?_
  refine wpAny_bind (wpAny_attempt (wpAny_holding ?_))
  unfold callGetattribute
  rw [hx0, if_neg Bool.false_ne_true]
  unfold boundAndCalled
  rw [PySem.F.excAttr_ValueError.ga.bind (.ref x)]
  refine wpAny_bind (wpAny_pure ?_)
  show wpAny _ _ (call (.builtin "BaseException.__getattribute__") [.ref x, .str "__class__" t]) _ _ _
  refine wpAny_call (codeAny_call_builtin PySem.F.excAttr_ValueError.ga.plain PySem.F.entry_bexc_ga ?_)
  refine @check_slot (model prog w) _ _ ⟨hp, g, d, t + 1, os⟩ "BaseException.__getattribute__" "BaseException" "__getattribute__" (.ref x) [.str "__class__" t] [] _ (by decide +kernel) (by decide +kernel) sub (PySem.F.args_bexc_ga (.ref x) (.str "__class__" t)) ?_
  unfold Builtin.«object.__getattribute__»
  refine wpAny_bind (wpAny_of_eq (a := ((Value.ref x : Value), [Value.str "__class__" t])) (by first | rfl | (simp only [slotArgs]; rfl)) ?_)
  refine wpAny_bind (wpAny_pure (wpAny_bind (L0.at (wpAny_bind (L3.at ?_)))))
  show wpAny _ _ (holding [Value.builtin "object.__class__"] (call (.builtin "getset_descriptor.__get__") [.builtin "object.__class__", .ref x, .ref D]) >>= ret) _ _ _
  refine wpAny_bind (wpAny_holding (wpAny_call (class_get (s := ⟨hp, g, d, t + 1, os⟩) (ox := ox) (od := od) X I hm ?_)))
  refine wpAny_pure ?_
  show wpAny _ _ (handedOut (.ref D)) _ _ _
  rw [handedOut_of (v := .ref D) rfl]
  first
    | exact wpAny_pure (wpAny_pure h)
    | exact wpAny_pure h
    | exact wpAny_pure (wpAny_bind (wpAny_pure (wpAny_pure h)))
theorem kitx_excO (hga : findIn K (.ref D) "__getattribute__" = some (some (.builtin "BaseException.__getattribute__"))) (hgt : findIn K (.ref D) "__getattr__" = some none) (hsub : subIn K (.ref D) (.type "BaseException") = some true) (hdct : hasDictIn K D = true) (ha : findIn K (.ref D) "__class__" = some (some (.builtin "object.__class__")))
    (hn : specialIn K (.builtin "object.__class__") "__get__" = some (some (.builtin "getset_descriptor.__get__"))) (htk : takesIn K (.builtin "object.__class__") = some true) (hm : mroIn K D (.type "object") = some true) :
    KitX K (.ref x) (.ref D) (fun h => InstAt h x ox D od) where
  ty := fun _ _ _ I => I.type
  it := fun _ _ X _ => by
    obtain ⟨cdD, hcD, _⟩ := any_some hdct
    unfold clsIn at hcD
    split at hcD
    · rename_i c' d' cd' sl' ho
      intro A' Q' E' s' k q
      unfold isType loadHead
      exact wpAny_bind (wpAny_loadPart (k _ _ (X _ _ ho)) (wpAny_pure q))
    · cases hcD
  ne := fun h tp dd its n sl X htp => by
    obtain ⟨cdD, hcD, _⟩ := any_some hdct
    refine Bool.eq_false_iff.mpr fun q => ?_
    have e : D = tp := Value.ref.inj (beq_iff_eq.mp q)
    subst e
    unfold clsIn at hcD
    split at hcD
    · rename_i c' d' cd' sl' ho
      have z := (X _ _ ho).symm.trans htp
      cases z
    · cases hcD
  ca := fun X I k => kin_classO hga hgt hsub hdct ha hn htk hm X I k
end
end PySem.W
namespace ER
open PySem PySem.Spec PySem.Calls PyProof.Rows L2
/-- an exception that stands at a, with its dict or without -/
def ExAt (H : Hp) (a C : Addr) : Prop := H a = some (exo a C none) ∨ ∃ d fs, H a = some (exo a C (some d)) ∧ H d = some (exd d fs)
/-- a value's type, exceptions too -/
inductive TyZ (K : PySem.W.Frag) (H : Hp) : V → Value → Prop where
  | base {x : V} {t : Value} (h : TyX K H x t) : TyZ K H x t
  | exc {a C : Addr} (h : ExAt H a C) (c : ExcC K C) : TyZ K H (.ref a) (.ref C)
section
variable {X : Cx} {pins : List (Addr × Obj)} {σ : L2.St} {H : Hp} {s : Shared}
theorem ex_inst (I : Inv X pins σ H s) {a C : Addr} (h : ExAt H a C) : ∃ ox od, PySem.W.InstAt s.heap a ox C od := by
  rcases h with h | ⟨d, fs, h, h2⟩
  · obtain ⟨t1, e⟩ := exo_at I.hok h
    exact ⟨_, none, ⟨e, rfl, rfl, trivial⟩⟩
  · obtain ⟨t1, e⟩ := exo_at I.hok h
    obtain ⟨mA, ⟨o, es, ep, e2, _⟩, _⟩ := exd_at I.hok h2
    exact ⟨_, some o, ⟨e, rfl, rfl, e2⟩⟩
theorem kit_ofZ {x : V} {u t : Value} (I : Inv X pins σ H s) (rx : RelV x u) (ty : TyZ X.K H x t) : ∃ P : Heap → Prop, PySem.W.KitX X.K u t P ∧ P s.heap ∧ u ≠ .builtin "__main__.__loader__#opaque" := by
  cases ty with
  | base b => exact kit_of I rx b
  | @exc a C h c =>
    cases (show u = Value.ref a from rx)
    obtain ⟨ox, od, J⟩ := ex_inst I h
    exact ⟨_, PySem.W.kitx_excO (ox := ox) (od := od) c.hg c.hk c.hs c.hd c.ha c.hn c.ht c.hm, J, fun z => nomatch z⟩
def rIsZ (K : PySem.W.Frag) : List V → Hp → VK → Prop := fun xs H Q => ∃ (x c : V) (t u : Value) (b : Bool), xs = [x, c] ∧ ClsV c u ∧ TyZ K H x t ∧ PySem.W.kitOne K t u = some b ∧ Q (.bl b) H
def rIsZT (K : PySem.W.Frag) : List V → Hp → VK → Prop := fun xs H Q => ∃ (x : V) (tp : Addr) (cs : List V) (t : Value) (us : List Value) (b : Bool), xs = [x, .ref tp] ∧ SqT K H tp cs ∧ Paired ClsV cs us ∧ TyZ K H x t ∧ PySem.W.kitAny K t us = some b ∧ Q (.bl b) H
theorem call_isZ : CallR X (.builtin "isinstance") (rIsZ X.K) := by
  intro pins s σ H xs us Q I r h
  obtain ⟨x, c, t, u, b, rfl, k, ty, e, q⟩ := h
  obtain ⟨u1, u2, rfl, r1, r2⟩ := vals2 r
  have e2 := k.eq r2
  subst e2
  obtain ⟨P, Z, p, hx⟩ := kit_ofZ I r1 ty
  exact PySem.W.kia_one Z I.kIn p e hx fun tk => ⟨.bl b, H, I.tok tk, rfl, q⟩
theorem call_isZT : CallR X (.builtin "isinstance") (rIsZT X.K) := by
  intro pins s σ H xs us Q I r h
  obtain ⟨x, tp, cs, t, ws, b, rfl, hT, k, ty, e, q⟩ := h
  obtain ⟨u1, u2, rfl, r1, r2⟩ := vals2 r
  cases (show u2 = Value.ref tp from r2)
  obtain ⟨P, Z, p, hx⟩ := kit_ofZ I r1 ty
  obtain ⟨its, rv, ⟨o, h1, h2, n, h3⟩, _⟩ := I.tuple hT
  have e3 := ClsV.all k rv
  subst e3
  obtain ⟨oc, od, dt, sl⟩ := o
  simp only at h2 h3
  subst h2 h3
  exact PySem.W.kia_tup Z I.kIn p h1 e hx fun tk => ⟨.bl b, H, I.tok tk, rfl, q⟩
end
/-- e.f of an exception that stands there -/
def tXg (K : PySem.W.Frag) (f : Str) (te : TE) : TE := fun σ H Q => te σ H fun x H1 => ∃ (a C d : Addr) (fs : List (Str × V)) (v : V), x = .ref a ∧ XfC K C ∧ PySem.W.findIn K (.ref C) f = some none ∧ H1 a = some (exo a C (some d)) ∧ H1 d = some (exd d fs) ∧ fs.lookup f = some v ∧ Q v H1
theorem pe_xg {X : Cx} {e : Expr} {te : TE} {pos : Pos} {n : Str} (he : PE X e te) (hb : attributeBase e n X.env (eval e X.env) = eval e X.env) : PE X (.Attribute e n pos) (tXg X.K n te) := by
  refine ⟨fun pins s σ H Q I h => ?_⟩
  refine attr_of hb (thn (he.run pins s σ H _ I h) fun u s1 hh => ?_)
  obtain ⟨x, H1, I1, rx, a, C, dd, fs, v, ex, T, hno, ha, hd, l, q⟩ := hh
  subst ex
  obtain rfl : u = Value.ref a := rx
  obtain ⟨t1, e1⟩ := exo_at I1.hok ha
  obtain ⟨mA, hns, hr⟩ := exd_at I1.hok hd
  obtain ⟨od, ho, hl⟩ := lookIn_ns hns
  obtain ⟨u, hu, ru⟩ := RelO.some_of (v := v) (o := mA n) (by rw [← l]; exact hr n)
  have J : PySem.W.InstAt s1.heap a _ C (some od) := ⟨e1, rfl, rfl, ho⟩
  exact PySem.HandSPX.exc_get I1.kIn J T.ga T.gg T.exC (PySem.W.findObj_own T.hdC hno rfl (by rw [hl, hu])) (handed_of ru) ⟨v, H1, I1.tok _, ru, q⟩
end ER
set_option Elab.async false
set_option linter.all false
set_option maxRecDepth 100000
set_option maxHeartbeats 4000000
namespace ER
open PySem PySem.Spec PyProof.Rows L2
section
variable {X : Cx}
/-- C(), an own exception class without own __init__ -/
theorem pe_bare {C : Addr} {bmB : List Value} {B newId initId : String} {x : Str} {p pos : Pos} (F : ExcBaseFacts B newId initId bmB) (q : PySem.W.excIn X.K C bmB newId = true) (gC : X.mg x = some (.ref C)) (kC : PySem.W.keepIn X.K (.ref C) = true) (hg : Gl X x)
    (hdb : (x == ("__debug__" : Str)) = false) : PE X (.Call (.Name x p) [] [] pos) (tErr0 C) := by
  refine ⟨fun pins s σ H Q I h => ?_⟩
  refine wpAny_Call_Name_kw (ld_glob I hg gC ?_ hdb)
  refine PySem.W.callWith_K0 I.kIn kC ?_
  show wpAny _ _ (call (.ref C) []) _ _ _
  obtain ⟨bm, N, nm, qn, bs, hdct, sn, sub, ab, col, dd, k0, k1, k2, k3, k5, mN, hC, hN, hni, T⟩ := exc_obj I.kIn q
  refine wpAny_call_exc_subT F T hC hN hni (fun h' a hm => ?_) (by show 0 ≤ sizeLine; omega)
  have hn : H a = none := I.hok.gone hm.new
  obtain ⟨t, ht, _, _⟩ := hm.there
  exact ⟨.ref a, upd H a (exo a C none), I.laidN hm.keeps hm.new hn (exo_ok ht), rfl, h a hn⟩
end
end ER
set_option Elab.async false
set_option linter.all false
set_option maxRecDepth 100000
set_option maxHeartbeats 4000000
namespace EV
open PySem PySem.Spec PyProof.Rows L2 ER

/-! ### what the text's names are -/
inductive GV where
  | fn (f ar : Nat) | err (C : Nat) (f : Str) | err0 (C : Nat) | bare (C : Nat) | cls (C : Nat)
structure Tb where
  gl : List (Str × GV)
  free : List Str
  kit : Kit
  lam : Nat → Option LamT
structure Cc where
  N : List Str
  sc : Scope
  q : Option Str := none
def GV.val : GV → Option A
  | .fn _ _ => none
  | .err C _ => some (.glo C)
  | .err0 C => some (.glo C)
  | .bare C => some (.glo C)
  | .cls C => some (.glo C)
def okName (x : Str) : Bool := !(x == ("__debug__" : Str)) && !(x == ("__classdict__" : Str))
def kindIs (sc : Scope) (x : Str) (k : NameKind) : Bool := match sc.names.lookup x with
  | some j => j == k
  | none => false
def visB (sc : Scope) (x : Str) : Bool := kindIs sc x .local || kindIs sc x .cell || kindIs sc x .free
def notStar : Expr → Bool
  | .Starred _ _ => false
  | _ => true
def noSup : Expr → Bool
  | .Call (.Name _ _) [] [] _ => false
  | _ => true
/-- an expression whose truth is asked of its value -/
def plainT : Expr → Bool
  | .UnaryOp .Not _ _ => false
  | .BoolOp _ _ _ => false
  | .IfExp _ _ _ _ => false
  | .Compare _ _ _ _ => false
  | _ => true
def notComp : Expr → Bool
  | .ListComp _ _ _ _ => false
  | .SetComp _ _ _ _ => false
  | .DictComp _ _ _ _ _ => false
  | _ => true
def tyOf? (x : Str) : Option Nat := if x == "int" then some 0 else if x == "bool" then some 1 else if x == "str" then some 2 else if x == "list" then some 3 else if x == "tuple" then some 4 else if x == "dict" then some 5
  else if x == "ValueError" then some 7 else if x == "LookupError" then some 8 else if x == "TypeError" then some 9 else if x == "ArithmeticError" then some 10 else none
def opOf : Operator → Option Bop
  | .Add => some .add | .Sub => some .sub | .Mult => some .mul | .FloorDiv => some .fdiv | .Mod => some .mod | .Pow => some .pow
  | _ => none
def cmpOf : CmpOp → Option Cop
  | .Eq => some .eq | .NotEq => some .ne | .Lt => some .lt | .LtE => some .le | .Gt => some .gt | .GtE => some .ge | .In => some .inn | .NotIn => some .nin
  | _ => none
def biOf (x : Str) : Option Bi := if x == "len" then some .len else if x == "isinstance" then some .isi else if x == "all" then some .all else if x == "any" then some .any else none
def mtOf (x : Str) : Option Mt := if x == "append" then some .app else if x == "extend" then some .ext else none

/-! ### the text and the little language -/
mutual
inductive Ct (c : Cc) : Expr → Tg → Prop where
  | nm {x : Str} {pos : Pos} {i : Nat} : c.N[i]? = some x → (kindIs c.sc x .local || kindIs c.sc x .cell) = true → Ct c (.Name x pos) (.nm i)
  | tp {es : List Expr} {k : Nat} {pos : Pos} {ts : List Tg} : Cts c es ts → Ct c (.Tuple es k pos) (.tp ts)
inductive Cts (c : Cc) : List Expr → List Tg → Prop where
  | nil : Cts c [] []
  | cons {e : Expr} {es : List Expr} {t : Tg} {ts : List Tg} : Ct c e t → Cts c es ts → Cts c (e :: es) (t :: ts)
end
mutual
inductive Cp (T : Tb) : Cc → Expr → E → Prop where
  | var {c : Cc} {x : Str} {pos : Pos} {i : Nat} : c.N[i]? = some x → visB c.sc x = true → okName x = true → Cp T c (.Name x pos) (.var i)
  | glob {c : Cc} {x : Str} {pos : Pos} {g : GV} {a : A} : kindIs c.sc x .globalImplicit = true → T.gl.lookup x = some g → g.val = some a → okName x = true → Cp T c (.Name x pos) (.cst a)
  | tyn {c : Cc} {x : Str} {pos : Pos} {n : Nat} : kindIs c.sc x .globalImplicit = true → T.free.contains x = true → tyOf? x = some n → Cp T c (.Name x pos) (.cst (.ty n))
  | int {c : Cc} {i : Int} {j : Nat} {pos : Pos} : Cp T c (.Constant (.int i) j pos) (.cst (.int i))
  | str {c : Cc} {x : Str} {j : Nat} {pos : Pos} : Cp T c (.Constant (.str x) j pos) (.cst (.str x))
  | bl {c : Cc} {b : Bool} {j : Nat} {pos : Pos} : Cp T c (.Constant (.bool b) j pos) (.cst (.bl b))
  | non {c : Cc} {j : Nat} {pos : Pos} : Cp T c (.Constant .none j pos) (.cst .non)
  | bin {c : Cc} {a b : Expr} {op : Operator} {o : Bop} {x y : E} {pos : Pos} : opOf op = some o → Cp T c a x → Cp T c b y → Cp T c (.BinOp a op b pos) (.bin o x y)
  | cmp {c : Cc} {a b : Expr} {op : CmpOp} {o : Cop} {x y : E} {pos : Pos} : cmpOf op = some o → behindInMarks op b = false → Cp T c a x → Cp T c b y → Cp T c (.Compare a [op] [b] pos) (.cmp o x y)
  | isN {c : Cc} {a : Expr} {x y : E} {j : Nat} {pos p2 : Pos} : Cp T c a x → Cp T c (.Compare a [.Is] [.Constant .none j p2] pos) (.cmp .isN x y)
  | notN {c : Cc} {a : Expr} {x y : E} {j : Nat} {pos p2 : Pos} : Cp T c a x → Cp T c (.Compare a [.IsNot] [.Constant .none j p2] pos) (.cmp .notN x y)
  | and2 {c : Cc} {a b : Expr} {x y : E} {pos : Pos} : Cp T c a x → Cp T c b y → Cp T c (.BoolOp .And [a, b] pos) (.and x y)
  | andN {c : Cc} {a b d : Expr} {r : List Expr} {x y : E} {pos : Pos} : Cp T c a x → Cp T c (.BoolOp .And (b :: d :: r) pos) y → Cp T c (.BoolOp .And (a :: b :: d :: r) pos) (.and x y)
  | or2 {c : Cc} {a b : Expr} {x y : E} {pos : Pos} : Cp T c a x → Cp T c b y → Cp T c (.BoolOp .Or [a, b] pos) (.or x y)
  | orN {c : Cc} {a b d : Expr} {r : List Expr} {x y : E} {pos : Pos} : Cp T c a x → Cp T c (.BoolOp .Or (b :: d :: r) pos) y → Cp T c (.BoolOp .Or (a :: b :: d :: r) pos) (.or x y)
  | not {c : Cc} {a : Expr} {x : E} {pos : Pos} : Cp T c a x → Cp T c (.UnaryOp .Not a pos) (.not x)
  | neg {c : Cc} {i : Int} {j : Nat} {p pos : Pos} : Cp T c (.UnaryOp .USub (.Constant (.int i) j p) pos) (.cst (.int (-i)))
  | ife {c : Cc} {t a b : Expr} {u x y : E} {pos : Pos} : Cp T c t u → Cp T c a x → Cp T c b y → Cp T c (.IfExp t a b pos) (.ife u x y)
  | tup {c : Cc} {es : List Expr} {k : Nat} {pos : Pos} {xs : List E} : Cps T c es xs → Cp T c (.Tuple es k pos) (.tup xs)
  | lst {c : Cc} {es : List Expr} {pos : Pos} {xs : List E} : Cps T c es xs → Cp T c (.List es pos) (.lst xs)
  | idx {c : Cc} {a b : Expr} {x y : E} {pos : Pos} : (match b with | .Slice _ _ _ _ => false | .Tuple _ _ _ => false | _ => true) = true → Cp T c a x → Cp T c b y → Cp T c (.Subscript a b pos) (.idx x y)
  | bi {c : Cc} {f : Str} {e : Expr} {es : List Expr} {b : Bi} {xs : List E} {p pos : Pos} : kindIs c.sc f .globalImplicit = true → T.free.contains f = true → biOf f = some b → Cps T c (e :: es) xs → Cp T c (.Call (.Name f p) (e :: es) [] pos) (.bi b xs)
  | call {c : Cc} {f : Str} {es : List Expr} {n ar : Nat} {xs : List E} {p pos : Pos} : kindIs c.sc f .globalImplicit = true → T.gl.lookup f = some (.fn n ar) → okName f = true → Cps T c es xs → Cp T c (.Call (.Name f p) es [] pos) (.call n ar xs)
  | err {c : Cc} {f : Str} {e : Expr} {x : E} {n : Nat} {fl : Str} {p pos : Pos} : kindIs c.sc f .globalImplicit = true → T.gl.lookup f = some (.err n fl) → okName f = true → notStar e = true → Cp T c e x → Cp T c (.Call (.Name f p) [e] [] pos) (.err false n fl x)
  | errK {c : Cc} {f : Str} {e : Expr} {x : E} {n : Nat} {fl : Str} {p pos kp : Pos} : kindIs c.sc f .globalImplicit = true → T.gl.lookup f = some (.err n fl) → okName f = true → Cp T c e x → Cp T c (.Call (.Name f p) [] [⟨some fl, e, kp⟩] pos) (.err true n fl x)
  | err0 {c : Cc} {f : Str} {n : Nat} {p pos : Pos} : kindIs c.sc f .globalImplicit = true → T.gl.lookup f = some (.err0 n) → okName f = true → Cp T c (.Call (.Name f p) [] [] pos) (.err0 n)
  | bare {c : Cc} {f : Str} {n : Nat} {p pos : Pos} : kindIs c.sc f .globalImplicit = true → T.gl.lookup f = some (.bare n) → okName f = true → Cp T c (.Call (.Name f p) [] [] pos) (.err0 n)
  | dct {c : Cc} {x : Str} {j j' : Nat} {p p' pos : Pos} : Cp T c (.Dict [some (.Constant (.str x) j p)] [.Constant .none j' p'] pos) (.dct (.str x) .non)
  | lam {c : Cc} {q : Str} {n : Nat} {params : Arguments} {body : Expr} {scope : Scope} {pos : Pos} : c.q = some q → T.lam n = some ⟨q ++ "<lambda>", params, body, scope⟩ → (∀ env, defaultsOf params env = ([], [])) → (scope.names.all fun y => !(y.2 == NameKind.free)) = true → Cp T c (.Lambda params body scope pos) (.lam n)
  | callL {c : Cc} {x : Str} {i : Nat} {e : Expr} {y : E} {p pos : Pos} : c.N[i]? = some x → visB c.sc x = true → okName x = true → notStar e = true → Cp T c e y → Cp T c (.Call (.Name x p) [e] [] pos) (.callL i y)
  | mt {c : Cc} {o e : Expr} {m : Str} {k : Mt} {x y : E} {ap pos : Pos} : mtOf m = some k → noSup o = true → (ap.endLine == pos.line) = true → notStar e = true → Cp T c o x → Cp T c e y → Cp T c (.Call (.Attribute o m ap) [e] [] pos) (.mt k x [y])
  | fld {c : Cc} {o : Expr} {f : Str} {x : E} {pos : Pos} : noSup o = true → Cp T c o x → Cp T c (.Attribute o f pos) (.fld x f)
  | comp {c : Cc} {elt tg iter : Expr} {ifs : List Expr} {scope : Scope} {pos : Pos} {x : E} {t : Tg} {it : It} {cs : List E} {own : List (Str × Nat)} : blkC c.N c.sc scope own = true → (match iter with | .Set _ _ _ => false | _ => true) = true → Ci T c tg iter it → Ct ⟨c.N, scope, none⟩ tg t → ((slotsT t).all fun i => (own.map (·.2)).contains i) = true → Cps T ⟨c.N, scope, none⟩ ifs cs → cs.length ≤ 1 → Cp T ⟨c.N, scope, none⟩ elt x →
      Cp T c (.ListComp elt [⟨tg, iter, ifs, 0⟩] scope pos) (.comp x t it cs (own.map (·.2)))
inductive Cps (T : Tb) : Cc → List Expr → List E → Prop where
  | nil {c : Cc} : Cps T c [] []
  | cons {c : Cc} {e : Expr} {es : List Expr} {x : E} {xs : List E} : notStar e = true → Cp T c e x → Cps T c es xs → Cps T c (e :: es) (x :: xs)
/-- what is walked -/
inductive Ci (T : Tb) : Cc → Expr → Expr → It → Prop where
  | seq {c : Cc} {tg e : Expr} {x : E} : Cp T c e x → Ci T c tg e (.seq x)
  | rng {c : Cc} {tg e : Expr} {x : E} {p pos : Pos} : kindIs c.sc "range" .globalImplicit = true → T.free.contains "range" = true → notStar e = true → Cp T c e x → Ci T c tg (.Call (.Name "range" p) [e] [] pos) (.rng x)
  | enm {c : Cc} {ts : List Expr} {k : Nat} {tp : Pos} {e : Expr} {x : E} {p pos : Pos} : kindIs c.sc "enumerate" .globalImplicit = true → T.free.contains "enumerate" = true → notStar e = true → Cp T c e x → Ci T c (.Tuple ts k tp) (.Call (.Name "enumerate" p) [e] [] pos) (.enm x)
  | zp {c : Cc} {ts : List Expr} {k : Nat} {tp : Pos} {a b : Expr} {x y : E} {p pos : Pos} : kindIs c.sc "zip" .globalImplicit = true → T.free.contains "zip" = true → notStar a = true → notStar b = true → Cp T c a x → Cp T c b y → Ci T c (.Tuple ts k tp) (.Call (.Name "zip" p) [a, b] [] pos) (.zp x y)
end
mutual
inductive Cs (T : Tb) : Cc → Stmt → Sm → Prop where
  | asg {c : Cc} {tg e : Expr} {t : Tg} {x : E} {pos : Pos} : notComp e = true → (match tg, e with | .Tuple _ _ _, .Tuple _ _ _ => false | _, _ => true) = true → Ct c tg t → Cp T c e x → Cs T c (.Assign [tg] e pos) (.asg t x)
  | asgC {c : Cc} {y : Str} {i : Nat} {elt tg iter : Expr} {ifs : List Expr} {scope : Scope} {py pos spos : Pos} {x : E} {t : Tg} {it : It} {cs : List E} {own : List (Str × Nat)} : c.N[i]? = some y → kindIs c.sc y .local = true → (py.line == pos.line) = true → (scope.names.any fun (n, k) => n == y && (k == .local || k == .cell)) = false → blkC c.N c.sc scope own = true → (match iter with | .Set _ _ _ => false | _ => true) = true → Ci T c tg iter it → Ct ⟨c.N, scope, none⟩ tg t → ((slotsT t).all fun i => (own.map (·.2)).contains i) = true → Cps T ⟨c.N, scope, none⟩ ifs cs → cs.length ≤ 1 → Cp T ⟨c.N, scope, none⟩ elt x →
      Cs T c (.Assign [.Name y py] (.ListComp elt [⟨tg, iter, ifs, 0⟩] scope pos) spos) (.asgC i x t it cs (own.map (·.2)))
  | ex {c : Cc} {e : Expr} {x : E} {pos : Pos} : notComp e = true → Cp T c e x → Cs T c (.Expr e pos) (.ex x)
  | ret {c : Cc} {e : Expr} {x : E} {pos : Pos} : Cp T c e x → Cs T c (.Return (some e) pos) (.ret x)
  | ife {c : Cc} {t : Expr} {a b : List Stmt} {x : E} {as bs : List Sm} {pos : Pos} : Cp T c t x → Css T c a as → Css T c b bs → Cs T c (.If t a b pos) (.ife x as bs)
  | for {c : Cc} {tg iter : Expr} {b : List Stmt} {t : Tg} {it : It} {bs : List Sm} {pos : Pos} : (match iter with | .Set _ _ _ => false | _ => true) = true → Ci T c tg iter it → Ct c tg t → Css T c b bs → Cs T c (.For tg iter b [] pos) (.for t it bs)
  | pass {c : Cc} {pos : Pos} : Cs T c (.Pass pos) .pass
inductive Css (T : Tb) : Cc → List Stmt → List Sm → Prop where
  | nil {c : Cc} : Css T c [] []
  | cons {c : Cc} {st : Stmt} {r : List Stmt} {x : Sm} {xs : List Sm} : Cs T c st x → Css T c r xs → Css T c (st :: r) (x :: xs)
end

/-! ### the ground -/
structure Bs where
  S : Sc
  P : Program
  w : World
  mg : Str → Option Value
  base : Heap
  T : Tb
  tabs : List (Addr × Str)
/-- a type, a class, as the model has it -/
def TyVal (S : Sc) : A → Value → Prop
  | .ty n, v => v = .type (tyN n)
  | .glo g, v => ∃ a, S.G g = some a ∧ v = .ref a
  | _, _ => False
structure BOk (B : Bs) : Prop where
  free : ∀ x, B.T.free.contains x = true → B.mg x = none
  glv : ∀ x g a, B.T.gl.lookup x = some g → g.val = some a → ∃ C v, a = .glo C ∧ B.S.G C = some v ∧ B.mg x = some (.ref v)
  err : ∀ x C f, B.T.gl.lookup x = some (.err C f) → ∃ Ca fI fd, B.S.G C = some Ca ∧ B.mg x = some (.ref Ca) ∧ Err1Ok B.P B.w B.S.K B.mg B.base Ca f fI fd
  err0 : ∀ x C, B.T.gl.lookup x = some (.err0 C) → ∃ Ca fI fd, B.S.G C = some Ca ∧ B.mg x = some (.ref Ca) ∧ Err0Ok B.P B.w B.S.K B.mg B.base Ca fI fd
  bare : ∀ x C, B.T.gl.lookup x = some (.bare C) → ∃ Ca bmB Bn newId initId, B.S.G C = some Ca ∧ B.mg x = some (.ref Ca) ∧ ExcBaseFacts Bn newId initId bmB ∧ PySem.W.excIn B.S.K Ca bmB newId = true ∧ PySem.W.keepIn B.S.K (.ref Ca) = true
  lamT : ∀ n t, B.T.lam n = some t → B.S.lam n = some t
  lamS : ∀ n t, B.S.lam n = some t → B.T.lam n = some t
  tabs : ∀ m H, B.S.Φ m H → LamX.Tabs B.tabs H
  lamF : ∀ m H H', B.S.Φ m H → LamX.ExtN H H' → LamX.Tabs B.tabs H' → B.S.Φ m H'
  kit : ∀ t c b tv cv, isi1 B.T.kit t c = some b → TyVal B.S t tv → TyVal B.S c cv → PySem.W.kitOne B.S.K tv cv = some b
  exc : ∀ (C : Nat) (Ca : Addr), B.S.G C = some Ca → (∃ p, B.T.kit.anc[C]? = some p) → ExcC B.S.K Ca
  xno : ∀ (C : Nat) (f : Str) (Ca : Addr), B.T.kit.fld[C]? = some (some f) → B.S.G C = some Ca → PySem.W.findIn B.S.K (.ref Ca) f = some none ∧ XfC B.S.K Ca
/-- how a def is called -/
def spF (B : Bs) (call : Nat → List A → Hh → Out A) (f n : Nat) : Sp := fun vs H Q E => vs.length = n ∧ ∃ ρ h as, Rep B.S ρ h H ∧ Rels B.S ρ H as vs ∧ (call f as h).All (QW B.S ρ H Q) (XW B.S ρ H E)
structure CallOk (B : Bs) (k : Nat) (call : Nat → List A → Hh → Out A) : Prop where
  fn : ∀ x f n, B.T.gl.lookup x = some (.fn f n) → ∃ a fd ps, ps.length = n ∧ B.mg x = some (.ref a) ∧ PySem.W.keepIn B.S.K (.ref a) = true ∧ FnOk B.P B.w B.S.K B.mg B.base (L2.CX B.P B.w) k a fd ps (spF B call f n) ∧ Binds B.S.K fd ps []
  lam : ∀ n t, B.T.lam n = some t → LamRun B.P B.w B.S.K B.mg B.base k t (spF B call n 1)
/-- a context -/
structure Ok (B : Bs) (k : Nat) (c : Cc) (X : Cx) (E : XK) : Prop where
  P : X.prog = B.P
  w : X.w = B.w
  K : X.K = B.S.K
  mg : X.mg = B.mg
  bs : X.base = B.base
  N : X.N = c.N
  nd : c.N.Nodup
  calm : X.calm = true
  room : Room k X.A
  r2 : Room 2 X.A
  pass : Passes (L2.CX X.prog X.w) X E
  tk : Takes X (fun cls d _ H => E cls d H)
  own : PassesOwn (model X.prog X.w) X.A X.env X.xe
  loc : ∀ x, c.sc.names.lookup x = some .local → X.env.scope.names.lookup x = some .local
  cell : ∀ x, c.sc.names.lookup x = some .cell → X.env.scope.names.lookup x = some .cell ∧ X.fn x = true
  free : ∀ x, c.sc.names.lookup x = some .free → X.env.scope.names.lookup x = some .cell ∨ X.env.scope.names.lookup x = some .free
  gi : ∀ x, c.sc.names.lookup x = some .globalImplicit → X.env.scope.names.lookup x = some .globalImplicit
  qual : ∀ q, c.q = some q → X.env.qual = q ∧ ∃ ca P, X.env.code = .ref ca ∧ LamX.TabB X.base X.mg ca P ∧ (P, q ++ "<lambda>") ∈ B.tabs ∧ ∀ p ∈ B.tabs, p.1 = P → p.2 = q ++ "<lambda>"
theorem kindIs_ok {sc : Scope} {x : Str} {k : NameKind} (h : kindIs sc x k = true) : sc.names.lookup x = some k := by
  unfold kindIs at h
  split at h
  · rename_i j e
    rw [e, eq_of_beq h]
  · cases h
section
variable {B : Bs} {k : Nat} {c : Cc} {X : Cx} {E : XK}
theorem Ok.vis (o : Ok B k c X E) {x : Str} (h : visB c.sc x = true) : Vis X.env.scope x := by
  unfold visB at h
  rw [Bool.or_eq_true, Bool.or_eq_true] at h
  rcases h with (h | h) | h
  · exact .inl (o.loc x (kindIs_ok h))
  · exact .inr (.inl (o.cell x (kindIs_ok h)).1)
  · exact .inr (o.free x (kindIs_ok h))
theorem okName_d {x : Str} (h : okName x = true) : (x == ("__debug__" : Str)) = false ∧ (x == ("__classdict__" : Str)) = false := by
  unfold okName at h
  rw [Bool.and_eq_true, Bool.not_eq_true', Bool.not_eq_true'] at h
  exact h
theorem star_cons {e : Expr} {es : List Expr} {env : Env} (h : notStar e = true) : starEach (e :: es) env = (false, eval e env) :: starEach es env := by
  cases e <;> first | rfl | cases h
theorem star_any {T : Tb} {c : Cc} {pos : Pos} {env : Env} : ∀ {es : List Expr} {xs : List EV.E}, Cps T c es xs → (backTo pos (starEach es env)).any (·.1) = false
  | _, _, .nil => rfl
  | _, _, .cons (e := e) (es := es) h1 _ h3 => by
    rw [star_cons h1]
    show (false || (backTo pos (starEach es env)).any (·.1)) = false
    rw [star_any h3]
    rfl
end
end EV
set_option Elab.async false
set_option linter.all false
set_option maxRecDepth 100000
set_option maxHeartbeats 4000000
namespace EV
open PySem PySem.Spec PyProof.Rows L2 ER

def TW (S : Sc) (ρ : Rho) (H : Hp) (Q : Bool → Hp → Prop) (a : A) (h' : Hh) : Prop := ∃ b, a = .bl b ∧ ∀ ρ' H', Ext S ρ H ρ' H' → Rep S ρ' h' H' → Q b H'
def tT (S : Sc) (E : XK) (ev : Sl → Hh → Out A) : TT := fun σ H Q => ∃ ρ h s, Rep S ρ h H ∧ RelS S ρ H s σ ∧ (ev s h).All (TW S ρ H Q) (XW S ρ H E)
def AW (S : Sc) (ρ : Rho) (H : Hp) (Q : List V → Hp → Prop) (as : List A) (h' : Hh) : Prop := ∀ ρ' H' vs, Ext S ρ H ρ' H' → Rep S ρ' h' H' → Rels S ρ' H' as vs → Q vs H'
def tAs (S : Sc) (E : XK) (ev : Sl → Hh → Out (List A)) : TA := fun σ H Q => ∃ ρ h s, Rep S ρ h H ∧ RelS S ρ H s σ ∧ (ev s h).All (AW S ρ H Q) (XW S ρ H E)
def FW (S : Sc) (ρ : Rho) (H : Hp) (D : Ends) (f : Fl) (h' : Hh) : Prop := ∀ ρ' H', Ext S ρ H ρ' H' → Rep S ρ' h' H' → match f with
  | .nx s => ∀ σ, RelS S ρ' H' s σ → D.nx σ H'
  | .rt a => ∀ v, Rel S ρ' H' a v → D.rt v H'
  | .bk s => ∀ σ, RelS S ρ' H' s σ → D.bk σ H'
  | .ct s => ∀ σ, RelS S ρ' H' s σ → D.ct σ H'
def tSs (S : Sc) (E : XK) (ev : Sl → Hh → Out Fl) : TS := fun D σ H => ∃ ρ h s, Rep S ρ h H ∧ RelS S ρ H s σ ∧ (ev s h).All (FW S ρ H D) (XW S ρ H E)
section
variable {S : Sc} {ρ ρ' : Rho} {H H' : Hp} {E : XK}
theorem TW.mono (e : Ext S ρ H ρ' H') {Q : Bool → Hp → Prop} {a : A} {h' : Hh} (x : TW S ρ H Q a h') : TW S ρ' H' Q a h' := by
  obtain ⟨b, q, k⟩ := x
  exact ⟨b, q, fun ρ2 H2 e2 => k ρ2 H2 (e.trans e2)⟩
theorem AW.mono (e : Ext S ρ H ρ' H') {Q : List V → Hp → Prop} {a : List A} {h' : Hh} (x : AW S ρ H Q a h') : AW S ρ' H' Q a h' := fun ρ2 H2 v e2 => x ρ2 H2 v (e.trans e2)
theorem FW.mono (e : Ext S ρ H ρ' H') {D : Ends} {f : Fl} {h' : Hh} (x : FW S ρ H D f h') : FW S ρ' H' D f h' := fun ρ2 H2 e2 => x ρ2 H2 (e.trans e2)
theorem all_mono {α : Type} {m : Out α} {P P' : α → Hh → Prop} (e : Ext S ρ H ρ' H') (hp : ∀ a h, P a h → P' a h) (q : m.All P (XW S ρ H E)) : m.All P' (XW S ρ' H' E) := q.mono hp fun _ _ _ y => y.mono e
/-- one thing after another: the general step -/
theorem go {α β : Type} {m : Out α} {f : α → Hh → Out β} {P : β → Hh → Prop} {P' : α → Hh → Prop} (q : (m.bind f).All P (XW S ρ H E)) (k : ∀ a h1, (f a h1).All P (XW S ρ H E) → P' a h1) : m.All P' (XW S ρ H E) :=
  (Out.all_bind q).mono k fun _ _ _ y => y
end
structure Snd (B : Bs) (k : Nat) (r : Rec) : Prop where
  pe : ∀ {c X E e x}, Ok B k c X E → Cp B.T c e x → PE X e (tE B.S E (r.e x))
  pt : ∀ {c X E e x}, Ok B k c X E → Cp B.T c e x → PT X e (tT B.S E (r.e x))
  ss : ∀ {c X E l xs}, Ok B k c X E → Css B.T c l xs → PSs X l (tSs B.S E (r.ss xs))

section
variable {B : Bs} {k : Nat} {r : Rec} {c : Cc} {X : Cx} {E : XK}
/-! ### arguments -/
theorem pas (O : Ok B k c X E) (I : Snd B k r) : ∀ {es : List Expr} {xs : List EV.E}, Cps B.T c es xs → PA X es (tAs B.S E (evEs r xs))
  | _, _, .nil => PA.imp pa_nil fun σ H Q q => by
    obtain ⟨ρ, h, s, R, rs, q⟩ := q
    exact q ρ H [] Ext.refl R rfl
  | _, _, .cons h1 h2 h3 => PA.imp (pa_cons (I.pe O h2) (pas O I h3) (star_cons h1)) fun σ H Q q => by
    obtain ⟨ρ, h, s, R, rs, q⟩ := q
    refine ⟨ρ, h, s, R, rs, go q fun a h1 q1 ρ1 H1 v e1 R1 rv => ?_⟩
    refine ⟨ρ1, h1, s, R1, rs.mono e1, go (all_mono e1 (fun _ _ y => y) q1) fun as h2 q2 ρ2 H2 vs e2 R2 rvs => ?_⟩
    exact q2 ρ2 H2 (v :: vs) (e1.trans e2) R2 ⟨v, vs, rfl, rv.mono e2, rvs⟩
/-! ### operators by values -/
theorem OpR.or {f : Value → Value → Sem Value} {r1 r2 : R2} (h1 : OpR X f r1) (h2 : OpR X f r2) : OpR X f (fun x y H Q => r1 x y H Q ∨ r2 x y H Q) := by
  intro pins s σ H x y v u Q I rx ry h
  rcases h with h | h
  · exact h1 pins s σ H x y v u Q I rx ry h
  · exact h2 pins s σ H x y v u Q I rx ry h
theorem CallR.or {f : Value} {r1 r2 : List V → Hp → VK → Prop} (h1 : CallR X f r1) (h2 : CallR X f r2) : CallR X f (fun xs H Q => r1 xs H Q ∨ r2 xs H Q) := by
  intro pins s σ H xs us Q I rx h
  rcases h with h | h
  · exact h1 pins s σ H xs us Q I rx h
  · exact h2 pins s σ H xs us Q I rx h
/-- two parts, then an operator -/
theorem two {f : A → A → Hh → Out A} {r2 : R2} {x y : EV.E} (hop : ∀ {ρ h H a b v w Q}, Rep B.S ρ h H → Rel B.S ρ H a v → Rel B.S ρ H b w → (f a b h).All (QW B.S ρ H Q) (XW B.S ρ H E) → r2 v w H Q)
    {σ : L2.St} {H : Hp} {Q : VK} (q : tE B.S E (fun s h => (r.e x s h).bind fun a h1 => (r.e y s h1).bind fun b h2 => f a b h2) σ H Q) : tOp r2 (tE B.S E (r.e x)) (tE B.S E (r.e y)) σ H Q := by
  obtain ⟨ρ, h, s, R, rs, q⟩ := q
  refine ⟨ρ, h, s, R, rs, go q fun a h1 q1 ρ1 H1 v e1 R1 rv => ?_⟩
  refine ⟨ρ1, h1, s, R1, rs.mono e1, go (all_mono e1 (fun _ _ y => y) q1) fun b h2 q2 ρ2 H2 w e2 R2 rw => ?_⟩
  exact hop R2 (rv.mono e2) rw (all_mono e2 (fun _ _ y => (y.mono e1).mono e2) q2)
/-- a new list's place -/
theorem newL_ok {ρ : Rho} {h : Hh} {H : Hp} {xs : List A} {vs : List V} {Q : VK} {p : Addr} (R : Rep B.S ρ h H) (rv : Rels B.S ρ H xs vs) (q : (newL xs h).All (QW B.S ρ H Q) (XW B.S ρ H E)) (n : H p = none) : vs.length ≤ sizeLine ∧ Q (.ref p) (upd H p (.lst vs)) := by
  unfold newL at q
  by_cases hl : xs.length ≤ lim
  · rw [if_pos hl] at q
    refine ⟨by rw [Rels.length rv]; exact Nat.le_trans hl (by decide), ?_⟩
    exact q _ _ _ (Ext.new R n) (R.new n ⟨vs, upd_same, Rels.mono (Ext.new R n) rv⟩) ⟨p, by unfold rhoNew; rw [if_pos rfl], rfl⟩
  · rw [if_neg hl] at q
    exact q.elim
theorem lst_at {ρ : Rho} {h : Hh} {H : Hp} {l : Bn} {xs : List A} {v : V} (R : Rep B.S ρ h H) (rv : Rel B.S ρ H (.loc l) v) (e : h.get l = some (.lst xs)) : ∃ a vs, v = .ref a ∧ ρ l = some a ∧ H a = some (.lst vs) ∧ Rels B.S ρ H xs vs := by
  obtain ⟨a, e1, e2⟩ := rv
  obtain ⟨a', e3, vs, e4, e5⟩ := R.cell l _ e
  rw [e1] at e3
  cases e3
  exact ⟨a, vs, e2, e1, e4, e5⟩
abbrev rAddA : R2 := fun x y H Q => (rI0 fun i j => .int (i + j)) x y H Q ∨ rCat x y H Q
theorem add_ok {ρ : Rho} {h : Hh} {H : Hp} {a b : A} {v w : V} {Q : VK} (R : Rep B.S ρ h H) (ra : Rel B.S ρ H a v) (rb : Rel B.S ρ H b w) (q : (evBin .add a b h).All (QW B.S ρ H Q) (XW B.S ρ H E)) : rAddA v w H Q := by
  unfold evBin at q
  split at q
  all_goals (rename_i e; try cases e)
  · exact .inl ⟨_, _, ra, rb, q _ _ _ Ext.refl R rfl⟩
  · split at q
    · rename_i xs ys e1 e2
      obtain ⟨p1, vs, rfl, _, h1, r1⟩ := lst_at R ra e1
      obtain ⟨p2, ws, rfl, _, h2, r2⟩ := lst_at R rb e2
      have hz := fun (p : Addr) (n : H p = none) => newL_ok R (r1.append r2) q n
      refine .inr ⟨p1, p2, vs, ws, rfl, rfl, h1, h2, ?_, fun p n => (hz p n).2⟩
      have key : (newL (xs ++ ys) h).All (QW B.S ρ H Q) (XW B.S ρ H E) := q
      unfold newL at key
      by_cases hl : (xs ++ ys).length ≤ lim
      · rw [List.length_append] at hl
        rw [Rels.length r1, Rels.length r2]
        exact Nat.le_trans hl (by decide)
      · rw [if_neg hl] at key
        exact key.elim
    · exact q.elim
  · exact q.elim
/-! ### ints -/
theorem intop {ρ : Rho} {h : Hh} {H : Hp} {a b : A} {v w : V} (ra : Rel B.S ρ H a v) (rb : Rel B.S ρ H b w) {i j : Int} (e1 : a = .int i) (e2 : b = .int j) : v = .int i ∧ w = .int j := by
  subst e1 e2
  exact ⟨ra, rb⟩
theorem sub_ok {ρ : Rho} {h : Hh} {H : Hp} {a b : A} {v w : V} {Q : VK} (R : Rep B.S ρ h H) (ra : Rel B.S ρ H a v) (rb : Rel B.S ρ H b w) (q : (evBin .sub a b h).All (QW B.S ρ H Q) (XW B.S ρ H E)) : (rI0 fun i j => .int (i - j)) v w H Q := by
  unfold evBin at q
  split at q
  all_goals (rename_i e; try cases e)
  · exact ⟨_, _, ra, rb, q _ _ _ Ext.refl R rfl⟩
  · exact q.elim
theorem mul_ok {ρ : Rho} {h : Hh} {H : Hp} {a b : A} {v w : V} {Q : VK} (R : Rep B.S ρ h H) (ra : Rel B.S ρ H a v) (rb : Rel B.S ρ H b w) (q : (evBin .mul a b h).All (QW B.S ρ H Q) (XW B.S ρ H E)) : (rI CMul fun i j => .int (i * j)) v w H Q := by
  unfold evBin at q
  split at q
  all_goals (rename_i e; try cases e)
  · split at q
    · rename_i hc
      exact ⟨_, _, ra, rb, hc, q _ _ _ Ext.refl R rfl⟩
    · exact q.elim
  · exact q.elim
theorem fdiv_ok {ρ : Rho} {h : Hh} {H : Hp} {a b : A} {v w : V} {Q : VK} (R : Rep B.S ρ h H) (ra : Rel B.S ρ H a v) (rb : Rel B.S ρ H b w) (q : (evBin .fdiv a b h).All (QW B.S ρ H Q) (XW B.S ρ H E)) : (rI CDivN fun i j => .int (i.fdiv j)) v w H Q := by
  unfold evBin at q
  split at q
  all_goals (rename_i e; try cases e)
  · split at q
    · rename_i hc
      exact ⟨_, _, ra, rb, hc, q _ _ _ Ext.refl R rfl⟩
    · exact q.elim
  · exact q.elim
theorem mod_ok {ρ : Rho} {h : Hh} {H : Hp} {a b : A} {v w : V} {Q : VK} (R : Rep B.S ρ h H) (ra : Rel B.S ρ H a v) (rb : Rel B.S ρ H b w) (q : (evBin .mod a b h).All (QW B.S ρ H Q) (XW B.S ρ H E)) : (rI (fun _ j => j ≠ 0) fun i j => .int (i.fmod j)) v w H Q := by
  unfold evBin at q
  split at q
  all_goals (rename_i e; try cases e)
  · split at q
    · rename_i hc
      exact ⟨_, _, ra, rb, hc, q _ _ _ Ext.refl R rfl⟩
    · exact q.elim
  · exact q.elim
theorem pow_ok {ρ : Rho} {h : Hh} {H : Hp} {a b : A} {v w : V} {Q : VK} (R : Rep B.S ρ h H) (ra : Rel B.S ρ H a v) (rb : Rel B.S ρ H b w) (q : (evBin .pow a b h).All (QW B.S ρ H Q) (XW B.S ρ H E)) : (rI CPow fun i j => .int (i ^ j.toNat)) v w H Q := by
  unfold evBin at q
  split at q
  all_goals (rename_i e; try cases e)
  · split at q
    · rename_i hc
      exact ⟨_, _, ra, rb, hc, q _ _ _ Ext.refl R rfl⟩
    · exact q.elim
  · exact q.elim
/-! ### data read deep -/
mutual
theorem toD_ok {ρ : Rho} {h : Hh} {H : Hp} (R : Rep B.S ρ h H) : ∀ (n : Nat) (a : A) (v : V) (d : PyData), toD h n a = some d → Rel B.S ρ H a v → Dp B.S.K H v d
  | 0, _, _, _, e, _ => by unfold toD at e; cases e
  | n + 1, .non, _, _, e, rv => by unfold toD at e; cases e; rw [show _ = V.non from rv]; exact .non
  | n + 1, .bl b, _, _, e, rv => by unfold toD at e; cases e; rw [show _ = V.bl b from rv]; exact .bl b
  | n + 1, .int i, _, _, e, rv => by unfold toD at e; cases e; rw [show _ = V.int i from rv]; exact .int i
  | n + 1, .str x, _, _, e, rv => by unfold toD at e; cases e; rw [show _ = V.str x from rv]; exact .str x
  | n + 1, .ty _, _, _, e, _ => by unfold toD at e; cases e
  | n + 1, .glo _, _, _, e, _ => by unfold toD at e; cases e
  | n + 1, .tup xs, v, d, e, rv => by
    unfold toD at e
    obtain ⟨a, vs, e1, hs, rs⟩ := rv
    cases q : toDs h n xs with
    | none =>
      dsimp only at e
      rw [q] at e
      cases e
    | some ds =>
      dsimp only at e
      rw [q] at e
      cases e
      rw [e1]
      exact .tup hs (toDs_ok R n xs vs ds q rs)
  | n + 1, .loc l, v, d, e, rv => by
    unfold toD at e
    dsimp only at e
    split at e
    · rename_i xs g
      obtain ⟨a, vs, e1, _, hs, rs⟩ := lst_at R rv g
      cases q : toDs h n xs with
      | none =>
        rw [q] at e
        cases e
      | some ds =>
        rw [q] at e
        cases e
        rw [e1]
        exact .lst (SqL.of hs) (toDs_ok R n xs vs ds q rs)
    · cases e
theorem toDs_ok {ρ : Rho} {h : Hh} {H : Hp} (R : Rep B.S ρ h H) : ∀ (n : Nat) (as : List A) (vs : List V) (ds : List PyData), toDs h n as = some ds → Rels B.S ρ H as vs → DpAll B.S.K H vs ds
  | 0, _, _, _, e, _ => by unfold toDs at e; cases e
  | n + 1, [], _, _, e, rv => by unfold toDs at e; cases e; rw [show _ = ([] : List V) from rv]; exact .nil
  | n + 1, x :: r, _, ds, e, rv => by
    unfold toDs at e
    obtain ⟨v, vr, e1, r1, r2⟩ := rv
    dsimp only at e
    cases q1 : toD h n x with
    | none =>
      rw [q1] at e
      cases e
    | some d =>
      rw [q1, Option.bind_some] at e
      cases q2 : toDs h n r with
      | none =>
        rw [q2] at e
        cases e
      | some ds2 =>
        rw [q2] at e
        cases e
        rw [e1]
        exact .cons (toD_ok R n x v d q1 r1) (toDs_ok R n r vr ds2 q2 r2)
end
theorem evEq_ok {ρ : Rho} {h : Hh} {H : Hp} {a b : A} {v w : V} {t : Bool} (R : Rep B.S ρ h H) (ra : Rel B.S ρ H a v) (rb : Rel B.S ρ H b w) (q : evEq a b h = some t) :
    ∃ d e, Dp B.S.K H v d ∧ Dp B.S.K H w e ∧ SeqAt.shaped d = true ∧ SeqAt.shaped e = true ∧ t = PyData.eqv d e := by
  unfold evEq at q
  cases q1 : toD h deep a with
  | none => rw [q1] at q; cases q
  | some d =>
    rw [q1, Option.bind_some] at q
    cases q2 : toD h deep b with
    | none => rw [q2] at q; cases q
    | some e =>
      rw [q2, Option.bind_some] at q
      split at q
      · rename_i hs
        rw [Bool.and_eq_true] at hs
        cases q
        exact ⟨d, e, toD_ok R _ a v d q1 ra, toD_ok R _ b w e q2 rb, hs.1, hs.2, rfl⟩
      · cases q
theorem eq_ok {ρ : Rho} {h : Hh} {H : Hp} {a b : A} {v w : V} {Q : VK} (R : Rep B.S ρ h H) (ra : Rel B.S ρ H a v) (rb : Rel B.S ρ H b w) (q : (evCmp .eq a b h).All (QW B.S ρ H Q) (XW B.S ρ H E)) : rEqD B.S.K v w H Q := by
  unfold evCmp at q
  dsimp only at q
  split at q
  · rename_i t e
    obtain ⟨d, e', h1, h2, h3, h4, rfl⟩ := evEq_ok R ra rb e
    exact ⟨d, e', h1, h2, h3, h4, q _ _ _ Ext.refl R rfl⟩
  · exact q.elim
theorem ne_ok {ρ : Rho} {h : Hh} {H : Hp} {a b : A} {v w : V} {Q : VK} (R : Rep B.S ρ h H) (ra : Rel B.S ρ H a v) (rb : Rel B.S ρ H b w) (q : (evCmp .ne a b h).All (QW B.S ρ H Q) (XW B.S ρ H E)) : rNeD B.S.K v w H Q := by
  unfold evCmp at q
  dsimp only at q
  split at q
  · rename_i t e
    obtain ⟨d, e', h1, h2, h3, h4, rfl⟩ := evEq_ok R ra rb e
    exact ⟨d, e', h1, h2, h3, h4, q _ _ _ Ext.refl R rfl⟩
  · exact q.elim
theorem lt_ok {ρ : Rho} {h : Hh} {H : Hp} {a b : A} {v w : V} {Q : VK} (R : Rep B.S ρ h H) (ra : Rel B.S ρ H a v) (rb : Rel B.S ρ H b w) (q : (evCmp .lt a b h).All (QW B.S ρ H Q) (XW B.S ρ H E)) : (rI0 fun i j => .bl (decide (i < j))) v w H Q := by
  unfold evCmp at q
  dsimp only at q
  split at q
  · exact ⟨_, _, ra, rb, q _ _ _ Ext.refl R rfl⟩
  · exact q.elim
theorem le_ok {ρ : Rho} {h : Hh} {H : Hp} {a b : A} {v w : V} {Q : VK} (R : Rep B.S ρ h H) (ra : Rel B.S ρ H a v) (rb : Rel B.S ρ H b w) (q : (evCmp .le a b h).All (QW B.S ρ H Q) (XW B.S ρ H E)) : (rI0 fun i j => .bl (decide (i ≤ j))) v w H Q := by
  unfold evCmp at q
  dsimp only at q
  split at q
  · exact ⟨_, _, ra, rb, q _ _ _ Ext.refl R rfl⟩
  · exact q.elim
theorem gt_ok {ρ : Rho} {h : Hh} {H : Hp} {a b : A} {v w : V} {Q : VK} (R : Rep B.S ρ h H) (ra : Rel B.S ρ H a v) (rb : Rel B.S ρ H b w) (q : (evCmp .gt a b h).All (QW B.S ρ H Q) (XW B.S ρ H E)) : (rI0 fun i j => .bl (decide (j < i))) v w H Q := by
  unfold evCmp at q
  dsimp only at q
  split at q
  · exact ⟨_, _, ra, rb, q _ _ _ Ext.refl R rfl⟩
  · exact q.elim
theorem ge_ok {ρ : Rho} {h : Hh} {H : Hp} {a b : A} {v w : V} {Q : VK} (R : Rep B.S ρ h H) (ra : Rel B.S ρ H a v) (rb : Rel B.S ρ H b w) (q : (evCmp .ge a b h).All (QW B.S ρ H Q) (XW B.S ρ H E)) : (rI0 fun i j => .bl (decide (j ≤ i))) v w H Q := by
  unfold evCmp at q
  dsimp only at q
  split at q
  · exact ⟨_, _, ra, rb, q _ _ _ Ext.refl R rfl⟩
  · exact q.elim
/-! ### items -/
theorem atI_map {xs : List A} {vs : List V} {i : Int} {x : A} {ρ : Rho} {H : Hp} (rs : Rels B.S ρ H xs vs) (e : atI xs i = some x) : ∃ v, atI vs i = some v ∧ Rel B.S ρ H x v := by
  have hl := Rels.length rs
  unfold atI at e ⊢
  rw [hl]
  cases z : ixN xs.length i with
  | none => rw [z] at e; cases e
  | some j =>
    rw [z, Option.bind_some] at e
    rw [Option.bind_some]
    exact Rels.getA rs e
theorem cell_at {ρ : Rho} {h : Hh} {H : Hp} {l : Bn} {ce : Cell} {v : V} (R : Rep B.S ρ h H) (rv : Rel B.S ρ H (.loc l) v) (e : h.get l = some ce) : ∃ a, v = .ref a ∧ ρ l = some a ∧ COk B.S ρ H ce a := by
  obtain ⟨a, e1, e2⟩ := rv
  obtain ⟨a', e3, e4⟩ := R.cell l _ e
  rw [e1] at e3
  cases e3
  exact ⟨a, e2, e1, e4⟩
theorem key_rel {S : Sc} {ρ : Rho} {H : Hp} {a : A} {c : Key} {v : V} (e : keyOf a = some c) (r : Rel S ρ H a v) : v = kV c := by
  cases a <;> first | (cases e; exact r) | cases e
theorem RelK.get {S : Sc} {ρ : Rho} {H : Hp} {c : Key} : ∀ {xs : List (A × A)} {vs : List (Key × V)}, RelK S ρ H xs vs → (∀ x, dGet c xs = some x → ∃ v, valV vs c = some v ∧ Rel S ρ H x v) ∧ (dGet c xs = none → valV vs c = none)
  | [], vs, h => by
    rw [show vs = [] from h]
    exact And.intro (fun x e => by cases e) fun _ => rfl
  | (k, y) :: r, vs, ⟨c', v, r', h1, h2, h3, h4⟩ => by
    subst h1
    have ih := RelK.get (c := c) h4
    unfold dGet
    by_cases e : c' = c
    · subst e
      rw [if_pos h2, valV_pos (by rfl)]
      exact ⟨fun x q => ⟨v, rfl, by cases q; exact h3⟩, fun q => nomatch q⟩
    · rw [if_neg (by rw [h2]; exact fun z => e (Option.some.inj z)), valV_neg e]
      exact ih
def rIxD : R2 := fun x y H Q => ∃ a v, x = .ref a ∧ DGet H a y (some v) ∧ Q v H
def rInD : R2 := fun y x H Q => ∃ a o, x = .ref a ∧ DGet H a y o ∧ Q (.bl o.isSome) H
def rNinD : R2 := fun y x H Q => ∃ a o, x = .ref a ∧ DGet H a y o ∧ Q (.bl (!o.isSome)) H
theorem evIn_ok {ρ : Rho} {h : Hh} {H : Hp} {a b : A} {v w : V} {bb : Bool} (R : Rep B.S ρ h H) (ra : Rel B.S ρ H a v) (rb : Rel B.S ρ H b w) (e : evIn a b h = some bb) : ∃ p o, w = .ref p ∧ DGet H p v o ∧ o.isSome = bb := by
  unfold evIn at e
  split at e
  · split at e
    · rename_i kvs g
      cases ek : keyOf a with
      | none => rw [ek] at e; cases e
      | some kc =>
        rw [ek] at e
        obtain ⟨p, rfl, _, o, us, hs, rs⟩ := cell_at R rb g
        refine ⟨p, valV us kc, rfl, .inl ⟨us, kc, .inr ⟨o, hs⟩, key_rel ek ra, rfl⟩, ?_⟩
        have z := RelK.get (c := kc) rs
        cases e
        cases ed : dGet kc kvs with
        | none => rw [z.2 ed]; show _ = (dGet kc kvs).isSome; rw [ed]; rfl
        | some y => obtain ⟨u, e1, _⟩ := z.1 y ed; rw [e1]; show _ = (dGet kc kvs).isSome; rw [ed]; rfl
    · cases e
  · cases e
theorem in_ok {ρ : Rho} {h : Hh} {H : Hp} {a b : A} {v w : V} {Q : VK} (R : Rep B.S ρ h H) (ra : Rel B.S ρ H a v) (rb : Rel B.S ρ H b w) (q : (evCmp .inn a b h).All (QW B.S ρ H Q) (XW B.S ρ H E)) : rInD v w H Q := by
  unfold evCmp at q
  dsimp only at q
  split at q
  · rename_i bb e
    obtain ⟨p, o, e1, e2, e3⟩ := evIn_ok R ra rb e
    exact ⟨p, o, e1, e2, by rw [e3]; exact q _ _ _ Ext.refl R rfl⟩
  · exact q.elim
theorem nin_ok {ρ : Rho} {h : Hh} {H : Hp} {a b : A} {v w : V} {Q : VK} (R : Rep B.S ρ h H) (ra : Rel B.S ρ H a v) (rb : Rel B.S ρ H b w) (q : (evCmp .nin a b h).All (QW B.S ρ H Q) (XW B.S ρ H E)) : rNinD v w H Q := by
  unfold evCmp at q
  dsimp only at q
  split at q
  · rename_i bb e
    obtain ⟨p, o, e1, e2, e3⟩ := evIn_ok R ra rb e
    exact ⟨p, o, e1, e2, by rw [e3]; exact q _ _ _ Ext.refl R rfl⟩
  · exact q.elim
theorem idx_ok {ρ : Rho} {h : Hh} {H : Hp} {a b : A} {v w : V} {Q : VK} (R : Rep B.S ρ h H) (ra : Rel B.S ρ H a v) (rb : Rel B.S ρ H b w) (q : (evIdx a b h).All (QW B.S ρ H Q) (XW B.S ρ H E)) : (rIxL B.S.K v w H Q ∨ rIxT B.S.K v w H Q) ∨ rIxD v w H Q := by
  unfold evIdx at q
  split at q
  · split at q
    · rename_i xs g
      split at q
      · split at q
        · rename_i x e
          obtain ⟨p, vs, rfl, _, hs, rs⟩ := lst_at R ra g
          obtain ⟨u, e1, r1⟩ := atI_map rs e
          exact .inl (.inl ⟨p, vs, _, u, rfl, rb, SqL.of hs, e1, q _ _ _ Ext.refl R r1⟩)
        · exact q.elim
      · exact q.elim
    · rename_i kvs g
      unfold evIdxD at q
      split at q
      · rename_i kc ek
        split at q
        · rename_i x e
          obtain ⟨p, rfl, _, o, us, hs, rs⟩ := cell_at R ra g
          obtain ⟨u, e1, r1⟩ := (RelK.get rs).1 x e
          exact .inr ⟨p, u, rfl, .inl ⟨us, kc, .inr ⟨o, hs⟩, key_rel ek rb, e1.symm⟩, q _ _ _ Ext.refl R r1⟩
        · exact q.elim
      · exact q.elim
    · exact q.elim
  · split at q
    · rename_i x e
      obtain ⟨p, vs, rfl, hs, rs⟩ := ra
      obtain ⟨u, e1, r1⟩ := atI_map rs e
      exact .inl (.inr ⟨p, vs, _, u, rfl, rb, hs, e1, q _ _ _ Ext.refl R r1⟩)
    · exact q.elim
  · exact q.elim
/-! ### types, isinstance -/
theorem exAt_of {ρ : Rho} {H : Hp} {C : Nat} {fs : List (Str × A)} {a : Addr} (x : COk B.S ρ H (.exc C fs) a) : ∃ Ca, B.S.G C = some Ca ∧ ExAt H a Ca := by
  obtain ⟨Ca, g, x⟩ := x
  refine ⟨Ca, g, ?_⟩
  rcases x with ⟨_, q⟩ | ⟨d, vs, q, q2, _⟩
  · exact .inl q
  · exact .inr ⟨d, vs, q, q2⟩
theorem isi1_glo {kt : Kit} {g : Nat} {c : A} {b : Bool} (h : isi1 kt (.glo g) c = some b) : ∃ p, kt.anc[g]? = some p := by
  unfold isi1 at h
  cases c with
  | ty n =>
    dsimp only at h
    split at h
    · cases e : kt.anc[g]? with
      | none => rw [e] at h; cases h
      | some p => exact ⟨p, rfl⟩
    · cases h
  | glo g' =>
    dsimp only at h
    cases e : kt.anc[g]? with
    | none => rw [e] at h; cases h
    | some p => exact ⟨p, rfl⟩
  | _ => cases h
theorem tyA_ok (BO : BOk B) {ρ : Rho} {h : Hh} {H : Hp} {a t : A} {v : V} (R : Rep B.S ρ h H) (ra : Rel B.S ρ H a v) (e : tyA a h = some t) (hg : ∀ g, t = .glo g → ∃ p, B.T.kit.anc[g]? = some p) :
    ∃ tv, TyVal B.S t tv ∧ TyZ B.S.K H v tv := by
  unfold tyA at e
  split at e
  · cases e; rw [show v = V.non from ra]; exact ⟨_, rfl, .base (.base .non)⟩
  · cases e; rename_i b; rw [show v = V.bl b from ra]; exact ⟨_, rfl, .base (.base (.bl b))⟩
  · cases e; rename_i b; rw [show v = V.int b from ra]; exact ⟨_, rfl, .base (.base (.int b))⟩
  · cases e; rename_i b; rw [show v = V.str b from ra]; exact ⟨_, rfl, .base (.base (.str b))⟩
  · cases e
    obtain ⟨p, vs, rfl, hs, _⟩ := ra
    rcases hs with (hs | ⟨o, hs⟩) | ⟨o, its, n, hk, hc, _⟩
    · exact ⟨_, rfl, .base (.base (.tup hs))⟩
    · exact ⟨_, rfl, .base (.fTuple hs)⟩
    · exact ⟨_, rfl, .base (.kTuple hk hc)⟩
  · split at e
    · rename_i xs g
      cases e
      obtain ⟨p, vs, rfl, _, hs, _⟩ := lst_at R ra g
      exact ⟨_, rfl, .base (.base (.lst hs))⟩
    · rename_i kvs g
      cases e
      obtain ⟨p, rfl, _, x⟩ := cell_at R ra g
      obtain ⟨o, vs, hs, _⟩ := x
      exact ⟨_, rfl, .base (.fDict hs)⟩
    · rename_i C fs g
      cases e
      obtain ⟨p, rfl, _, x⟩ := cell_at R ra g
      obtain ⟨Ca, hG, hx⟩ := exAt_of x
      exact ⟨.ref Ca, ⟨Ca, hG, rfl⟩, .exc hx (BO.exc C Ca hG (hg C rfl))⟩
    · cases e
  · cases e
theorem cls_of {S : Sc} {ρ : Rho} {H : Hp} {cA : A} {v : V} {kt : Kit} {t : A} {b : Bool} (e : isi1 kt t cA = some b) (rc : Rel S ρ H cA v) : ∃ u, TyVal S cA u ∧ ClsV v u := by
  unfold isi1 at e
  split at e
  · rw [show v = V.ty _ from rc]; exact ⟨_, rfl, .ty _⟩
  · obtain ⟨a, g, rfl⟩ := rc; exact ⟨.ref a, ⟨a, g, rfl⟩, .own a⟩
  · rw [show v = V.ty _ from rc]; exact ⟨_, rfl, .ty _⟩
  · obtain ⟨a, g, rfl⟩ := rc; exact ⟨.ref a, ⟨a, g, rfl⟩, .own a⟩
  · cases e
theorem isiAny_okK {kt : Kit} (BK : ∀ t c b tv cv, isi1 kt t c = some b → TyVal B.S t tv → TyVal B.S c cv → PySem.W.kitOne B.S.K tv cv = some b) {ρ : Rho} {H : Hp} {t : A} {tv : Value} (ht : TyVal B.S t tv) : ∀ {cs : List A} {vs : List V} {b : Bool}, isiAny kt t cs = some b → Rels B.S ρ H cs vs → (∀ c ∈ cs, ∃ b', isi1 kt t c = some b') → ∃ us, Paired ClsV vs us ∧ PySem.W.kitAny B.S.K tv us = some b
  | [], _, b, e, rs, _ => by
    rw [show _ = ([] : List V) from rs]
    cases e
    exact ⟨[], .nil, rfl⟩
  | c :: cs, _, b, e, ⟨v, r, e1, r1, r2⟩, hall => by
    obtain ⟨b', hb'⟩ := hall c (List.mem_cons_self ..)
    obtain ⟨u, hu, hcv⟩ := cls_of hb' r1
    have hk := BK t c b' tv u hb' ht hu
    unfold isiAny at e
    rw [hb'] at e
    subst e1
    cases b' with
    | true =>
      have rest : ∃ us, Paired ClsV r us := pr cs r r2 fun c' hc' => hall c' (List.mem_cons_of_mem _ hc')
      obtain ⟨us, pu⟩ := rest
      refine ⟨u :: us, .cons hcv pu, ?_⟩
      dsimp only at e
      unfold PySem.W.kitAny
      rw [hk]
      exact e
    | false =>
      obtain ⟨us, pu, ku⟩ := isiAny_okK BK ht (show isiAny kt t cs = some b from e) r2 fun c' hc' => hall c' (List.mem_cons_of_mem _ hc')
      refine ⟨u :: us, .cons hcv pu, ?_⟩
      unfold PySem.W.kitAny
      rw [hk]
      exact ku
where
  pr {t : A} : ∀ (cs : List A) (vs : List V), Rels B.S ρ H cs vs → (∀ c ∈ cs, ∃ b', isi1 kt t c = some b') → ∃ us, Paired ClsV vs us
  | [], vs, rs, _ => by rw [show vs = [] from rs]; exact ⟨[], .nil⟩
  | c :: cs, vs, ⟨v, r, e1, r1, r2⟩, hall => by
    obtain ⟨b', hb'⟩ := hall c (List.mem_cons_self ..)
    obtain ⟨u, _, hcv⟩ := cls_of hb' r1
    obtain ⟨us, pu⟩ := pr cs r r2 fun c' hc' => hall c' (List.mem_cons_of_mem _ hc')
    subst e1
    exact ⟨u :: us, .cons hcv pu⟩
theorem isiAny_ok (BO : BOk B) {ρ : Rho} {H : Hp} {t : A} {tv : Value} (ht : TyVal B.S t tv) {cs : List A} {vs : List V} {b : Bool} (e : isiAny B.T.kit t cs = some b) (rs : Rels B.S ρ H cs vs) (hall : ∀ c ∈ cs, ∃ b', isi1 B.T.kit t c = some b') : ∃ us, Paired ClsV vs us ∧ PySem.W.kitAny B.S.K tv us = some b := isiAny_okK BO.kit ht e rs hall
theorem tyA_glo {a t : A} {h : Hh} (e : tyA a h = some t) : (∃ n, t = .ty n) ∨ ∃ g, t = .glo g := by
  unfold tyA at e
  split at e
  all_goals first
    | (cases e; exact .inl ⟨_, rfl⟩)
    | (split at e <;> first | (cases e; exact .inl ⟨_, rfl⟩) | (cases e; exact .inr ⟨_, rfl⟩) | cases e)
    | cases e
theorem isi_ok (BO : BOk B) {ρ : Rho} {h : Hh} {H : Hp} {as : List A} {vs : List V} {Q : VK} (R : Rep B.S ρ h H) (ra : Rels B.S ρ H as vs) (q : (evBi B.T.kit .isi as h).All (QW B.S ρ H Q) (XW B.S ρ H E)) : rIsZ B.S.K vs H Q ∨ rIsZT B.S.K vs H Q := by
  unfold evBi at q
  split at q
  all_goals (rename_i hb; try cases hb)
  · rename_i x cA
    obtain ⟨v, r1, rfl, rx, w, r2, rfl, rc, e⟩ := ra
    rw [show r2 = [] from e]
    split at q
    · rename_i t et
      split at q
      · rename_i cs
        split at q
        · rename_i hne
          rw [Bool.and_eq_true] at hne
          obtain ⟨hne, hall⟩ := hne
          split at q
          · rename_i b eb
            obtain ⟨p, us, rfl, hs, rs⟩ := rc
            have hall' : ∀ c ∈ cs, ∃ b', isi1 B.T.kit t c = some b' := fun c hc => Option.isSome_iff_exists.mp (List.all_eq_true.mp hall c hc)
            have hg : ∀ g, t = .glo g → ∃ p, B.T.kit.anc[g]? = some p := fun g e => by
              cases cs with
              | nil => cases hne
              | cons c0 cr =>
                obtain ⟨b', hb'⟩ := hall' c0 (List.mem_cons_self ..)
                rw [e] at hb'
                exact isi1_glo hb'
            obtain ⟨tv, htv, hz⟩ := tyA_ok BO R rx et hg
            obtain ⟨ws, pw, kw⟩ := isiAny_ok BO htv eb rs hall'
            exact .inr ⟨v, p, us, tv, ws, b, rfl, hs, pw, hz, kw, q _ _ _ Ext.refl R rfl⟩
          · exact q.elim
        · exact q.elim
      · split at q
        · rename_i b eb
          have hg : ∀ g, t = .glo g → ∃ p, B.T.kit.anc[g]? = some p := fun g e => by
            rw [e] at eb
            exact isi1_glo eb
          obtain ⟨tv, htv, hz⟩ := tyA_ok BO R rx et hg
          obtain ⟨u, hu, hcv⟩ := cls_of eb rc
          exact .inl ⟨v, w, tv, u, b, rfl, hcv, hz, BO.kit _ _ _ _ _ eb htv hu, q _ _ _ Ext.refl R rfl⟩
        · exact q.elim
    · exact q.elim
  · exact q.elim
abbrev rLenA (K : PySem.W.Frag) : List V → Hp → VK → Prop := fun xs H Q => (∃ p ys, xs = [.ref p] ∧ (SqL K H p ys ∨ SqT K H p ys) ∧ Q (.int ys.length) H) ∨ ∃ a kvs, xs = [V.ref a] ∧ Rd H a (.dK kvs) ∧ Q (.int kvs.length) H
theorem RelK.length {S : Sc} {ρ : Rho} {H : Hp} : ∀ {xs : List (A × A)} {vs : List (Key × V)}, RelK S ρ H xs vs → vs.length = xs.length
  | [], _, h => by rw [show _ = [] from h]; rfl
  | (_, _) :: _, _, ⟨c, v, r, h1, _, _, h4⟩ => by rw [h1, List.length_cons, List.length_cons, RelK.length h4]
theorem len_ok {ρ : Rho} {h : Hh} {H : Hp} {as : List A} {vs : List V} {Q : VK} (R : Rep B.S ρ h H) (ra : Rels B.S ρ H as vs) (q : (evBi B.T.kit .len as h).All (QW B.S ρ H Q) (XW B.S ρ H E)) : rLenA B.S.K vs H Q := by
  unfold evBi at q
  split at q
  all_goals (rename_i hb; try cases hb)
  · rename_i x
    obtain ⟨v, r1, rfl, rx, e⟩ := ra
    rw [show r1 = [] from e]
    split at q
    · rename_i ys
      obtain ⟨p, us, rfl, hs, rs⟩ := rx
      exact .inl ⟨p, us, rfl, .inr hs, by rw [Rels.length rs]; exact q _ _ _ Ext.refl R rfl⟩
    · split at q
      · rename_i l ys g
        obtain ⟨p, us, rfl, _, hs, rs⟩ := lst_at R rx g
        exact .inl ⟨p, us, rfl, .inl (SqL.of hs), by rw [Rels.length rs]; exact q _ _ _ Ext.refl R rfl⟩
      · rename_i l kvs g
        obtain ⟨p, rfl, _, o, us, hs, rs⟩ := cell_at R rx g
        exact .inr ⟨p, us, rfl, .inr ⟨o, hs⟩, by rw [RelK.length rs]; exact q _ _ _ Ext.refl R rfl⟩
      · exact q.elim
    · exact q.elim
  · exact q.elim
theorem bools_ok {S : Sc} {ρ : Rho} {H : Hp} : ∀ {xs : List A} {bs : List Bool} {vs : List V}, boolsOf xs = some bs → Rels S ρ H xs vs → vs = bs.map V.bl
  | [], _, _, e, rs => by cases e; exact rs
  | .bl b :: r, bs, _, e, ⟨v, vr, h1, h2, h3⟩ => by
    unfold boolsOf at e
    cases q : boolsOf r with
    | none => rw [q] at e; cases e
    | some br =>
      rw [q] at e
      cases e
      rw [h1, show v = V.bl b from h2, bools_ok q h3]
      rfl
  | .non :: _, _, _, e, _ => by cases e
  | .int _ :: _, _, _, e, _ => by cases e
  | .str _ :: _, _, _, e, _ => by cases e
  | .ty _ :: _, _, _, e, _ => by cases e
  | .loc _ :: _, _, _, e, _ => by cases e
  | .glo _ :: _, _, _, e, _ => by cases e
  | .tup _ :: _, _, _, e, _ => by cases e
theorem lstOf_ok {ρ : Rho} {h : Hh} {H : Hp} {x : A} {xs : List A} {v : V} (R : Rep B.S ρ h H) (rx : Rel B.S ρ H x v) (e : lstOf x h = some xs) : ∃ a vs, v = .ref a ∧ H a = some (.lst vs) ∧ Rels B.S ρ H xs vs := by
  unfold lstOf at e
  split at e
  · split at e
    · rename_i l ys g
      cases e
      obtain ⟨p, us, rfl, _, hs, rs⟩ := lst_at R rx g
      exact ⟨p, us, rfl, hs, rs⟩
    · cases e
  · cases e
theorem allB_ok {ρ : Rho} {h : Hh} {H : Hp} {as : List A} {vs : List V} {Q : VK} (R : Rep B.S ρ h H) (ra : Rels B.S ρ H as vs) (q : (evBi B.T.kit .all as h).All (QW B.S ρ H Q) (XW B.S ρ H E)) : rAll B.S.K vs H Q := by
  unfold evBi at q
  split at q
  all_goals (rename_i hb; try cases hb)
  · rename_i x
    obtain ⟨v, r1, rfl, rx, e⟩ := ra
    rw [show r1 = [] from e]
    split at q
    · rename_i bs e
      cases e1 : lstOf x h with
      | none => rw [e1] at e; cases e
      | some xs =>
        rw [e1, Option.bind_some] at e
        obtain ⟨p, us, rfl, hs, rs⟩ := lstOf_ok R rx e1
        rw [bools_ok e rs] at hs
        exact ⟨p, bs, rfl, SqL.of hs, q _ _ _ Ext.refl R rfl⟩
    · exact q.elim
  · exact q.elim
theorem anyB_ok {ρ : Rho} {h : Hh} {H : Hp} {as : List A} {vs : List V} {Q : VK} (R : Rep B.S ρ h H) (ra : Rels B.S ρ H as vs) (q : (evBi B.T.kit .any as h).All (QW B.S ρ H Q) (XW B.S ρ H E)) : rAny B.S.K vs H Q := by
  unfold evBi at q
  split at q
  all_goals (rename_i hb; try cases hb)
  · rename_i x
    obtain ⟨v, r1, rfl, rx, e⟩ := ra
    rw [show r1 = [] from e]
    split at q
    · rename_i bs e
      cases e1 : lstOf x h with
      | none => rw [e1] at e; cases e
      | some xs =>
        rw [e1, Option.bind_some] at e
        obtain ⟨p, us, rfl, hs, rs⟩ := lstOf_ok R rx e1
        rw [bools_ok e rs] at hs
        exact ⟨p, bs, rfl, SqL.of hs, q _ _ _ Ext.refl R rfl⟩
    · exact q.elim
  · exact q.elim
end
end EV
set_option Elab.async false
set_option linter.all false
set_option maxRecDepth 100000
set_option maxHeartbeats 4000000
namespace EV
open PySem PySem.Spec PyProof.Rows L2 ER
section
variable {B : Bs} {k : Nat} {r : Rec} {c : Cc} {X : Cx} {E : XK} {call : Nat → List A → Hh → Out A}
/-! ### tests by values -/
theorem tT_E {ev : Sl → Hh → Out A} {σ : L2.St} {H : Hp} {Q : Bool → Hp → Prop} (q : tT B.S E ev σ H Q) : tE B.S E ev σ H (fun x H1 => ∃ b, x = .bl b ∧ Q b H1) := by
  obtain ⟨ρ, h, s, R, rs, q⟩ := q
  refine ⟨ρ, h, s, R, rs, q.mono (fun a h1 z ρ1 H1 v e1 R1 rv => ?_) fun _ _ _ y => y⟩
  obtain ⟨b, rfl, z⟩ := z
  exact ⟨b, rv, z ρ1 H1 e1 R1⟩
theorem plain_true {e : Expr} {env : Env} (h : plainT e = true) (whole : Sem Value) : isTrue e env whole = (do let v ← whole; standAt e.pos; holding [v] (truthy v)) := by
  cases e with
  | UnaryOp op a p => cases op <;> first | rfl | cases h
  | BoolOp _ _ _ => cases h
  | IfExp _ _ _ _ => cases h
  | Compare _ _ _ _ => cases h
  | _ => rfl
theorem pt_plain {e : Expr} {ev : Sl → Hh → Out A} (hp : plainT e = true) (h : PE X e (tE B.S E ev)) : PT X e (tT B.S E ev) :=
  PT.imp (pt_val h (plain_true hp)) fun _ _ _ q => tT_E q
theorem pw_of {op : BoolOp} {es : List Expr} {pos : Pos} {t : TT} (h : PT X (.BoolOp op es pos) t) : PW X (.BoolOp op es pos) t := ⟨fun _ pins s σ H Q I q => h.run pins s σ H Q I q⟩
theorem noSup_base {o : Expr} {n : Str} {env : Env} (h : noSup o = true) : attributeBase o n env (eval o env) = eval o env := by
  unfold attributeBase
  split
  · cases h
  · rfl
theorem Ok.gl (O : Ok B k c X E) {x : Str} (h : kindIs c.sc x .globalImplicit = true) : Gl X x := O.gi x (kindIs_ok h)
theorem Ok.fr (O : Ok B k c X E) (BO : BOk B) {x : Str} (h : B.T.free.contains x = true) : X.mg x = none := by
  rw [O.mg]
  exact BO.free x h
/-! ### names and constants -/
theorem e_var (O : Ok B k c X E) {x : Str} {pos : Pos} {i : Nat} (h1 : c.N[i]? = some x) (h2 : visB c.sc x = true) (h3 : okName x = true) : PE X (.Name x pos) (tE B.S E (stepE B.T.kit call r (.var i))) :=
  PE.imp (pe_var (i := i) (by rw [O.N]; exact h1) (O.vis h2) (okName_d h3).1 (okName_d h3).2) fun σ H Q q => by
    obtain ⟨ρ, h, s, R, rs, q⟩ := q
    unfold stepE at q
    dsimp only at q
    split at q
    · rename_i a e
      obtain ⟨v, q1, q2⟩ := rs.2 i a e
      exact ⟨v, q1, q ρ H v Ext.refl R q2⟩
    · exact q.elim
theorem e_cst {e : Expr} {v : V} {a : A} (h : PE X e (tC v)) (hr : ∀ ρ H, Rel B.S ρ H a v) : PE X e (tE B.S E (stepE B.T.kit call r (.cst a))) :=
  PE.imp h fun σ H Q q => by
    obtain ⟨ρ, h, s, R, rs, q⟩ := q
    exact q ρ H v Ext.refl R (hr ρ H)
theorem ty_boot {x : Str} {n : Nat} (h : tyOf? x = some n) : bootBuiltins x = some (.type (tyN n)) ∧ x ≠ "__name__" ∧ (x == ("__debug__" : Str)) = false := by
  unfold tyOf? at h
  repeat' split at h
  all_goals first
    | (cases h; rename_i e; rw [eq_of_beq e]; exact ⟨by decide +kernel, by decide +kernel, by decide +kernel⟩)
    | cases h
/-! ### operators -/
theorem e_bin (O : Ok B k c X E) (I : Snd B k r) {a b : Expr} {op : Operator} {o : Bop} {x y : EV.E} {pos : Pos} (h : opOf op = some o) (h1 : Cp B.T c a x) (h2 : Cp B.T c b y) : PE X (.BinOp a op b pos) (tE B.S E (stepE B.T.kit call r (.bin o x y))) := by
  have ha := I.pe O h1
  have hb := I.pe O h2
  cases op <;> first | (cases h) | skip
  · exact PE.imp (pe_op (OpR.or op_add op_cat) ha hb) fun σ H Q q => two add_ok q
  · exact PE.imp (pe_op op_sub ha hb) fun σ H Q q => two sub_ok q
  · exact PE.imp (pe_op op_mul ha hb) fun σ H Q q => two mul_ok q
  · exact PE.imp (pe_op op_modN ha hb) fun σ H Q q => two mod_ok q
  · exact PE.imp (pe_op op_pow ha hb) fun σ H Q q => two pow_ok q
  · exact PE.imp (pe_op op_fdivN ha hb) fun σ H Q q => two fdiv_ok q
end
end EV
set_option Elab.async false
set_option linter.all false
set_option maxRecDepth 100000
set_option maxHeartbeats 4000000
namespace EV
open PySem PySem.Spec PyProof.Rows L2 ER
section
variable {B : Bs} {k : Nat} {r : Rec} {c : Cc} {X : Cx} {E : XK} {call : Nat → List A → Hh → Out A}
theorem cmpE {op : CmpOp} {o : Cop} (h : cmpOf op = some o) {x y : EV.E} {s : Sl} {h0 : Hh} : stepE B.T.kit call r (.cmp o x y) s h0 = ((r.e x s h0).bind fun a h1 => (r.e y s h1).bind fun b h2 => evCmp o a b h2) := by
  cases op <;> first | (cases h; rfl) | cases h
/-- a comparison, as a value and as a test -/
theorem e_cmp (O : Ok B k c X E) (I : Snd B k r) {a b : Expr} {op : CmpOp} {o : Cop} {x y : EV.E} {pos : Pos} (h : cmpOf op = some o) (hm : behindInMarks op b = false) (h1 : Cp B.T c a x) (h2 : Cp B.T c b y) :
    PE X (.Compare a [op] [b] pos) (tE B.S E (stepE B.T.kit call r (.cmp o x y))) ∧ PT X (.Compare a [op] [b] pos) (tT B.S E (stepE B.T.kit call r (.cmp o x y))) := by
  have ha := I.pe O h1
  have hb := I.pe O h2
  have hu : X.A.units + 64 < cLine := O.room.units
  have hfn : stepE B.T.kit call r (.cmp o x y) = fun s h0 => ((r.e x s h0).bind fun a h1 => (r.e y s h1).bind fun b h2 => evCmp o a b h2) := by funext s h0; exact cmpE h
  rw [hfn]
  cases op <;> first | (cases h; done) | skip
  · cases h
    have ho : OpR X (compareOp .Eq) (rEqD B.S.K) := by rw [← O.K]; exact op_eqD hu
    exact ⟨PE.imp (pe_cmpR ho ha hb (nomark _)) fun σ H Q q => two eq_ok q, PT.imp (pt_cmpR ho ha hb (nomark _)) fun σ H Q q => two eq_ok (tT_E q)⟩
  · cases h
    have ho : OpR X (compareOp .NotEq) (rNeD B.S.K) := by rw [← O.K]; exact op_neD hu
    exact ⟨PE.imp (pe_cmpR ho ha hb (nomark _)) fun σ H Q q => two ne_ok q, PT.imp (pt_cmpR ho ha hb (nomark _)) fun σ H Q q => two ne_ok (tT_E q)⟩
  · cases h
    exact ⟨PE.imp (pe_cmpR op_lt ha hb (nomark _)) fun σ H Q q => two lt_ok q, PT.imp (pt_cmpR op_lt ha hb (nomark _)) fun σ H Q q => two lt_ok (tT_E q)⟩
  · cases h
    exact ⟨PE.imp (pe_cmpR op_le ha hb (nomark _)) fun σ H Q q => two le_ok q, PT.imp (pt_cmpR op_le ha hb (nomark _)) fun σ H Q q => two le_ok (tT_E q)⟩
  · cases h
    exact ⟨PE.imp (pe_cmpR op_gt ha hb (nomark _)) fun σ H Q q => two gt_ok q, PT.imp (pt_cmpR op_gt ha hb (nomark _)) fun σ H Q q => two gt_ok (tT_E q)⟩
  · cases h
    exact ⟨PE.imp (pe_cmpR op_ge ha hb (nomark _)) fun σ H Q q => two ge_ok q, PT.imp (pt_cmpR op_ge ha hb (nomark _)) fun σ H Q q => two ge_ok (tT_E q)⟩
  · cases h
    exact ⟨PE.imp (pe_cmp (pc_din (by omega) ha hb) hm) fun σ H Q q => two in_ok q, PT.imp (pt_cmp (pc_din (by omega) ha hb) hm) fun σ H Q q => two in_ok (tT_E q)⟩
  · cases h
    exact ⟨PE.imp (pe_cmp (pc_dnotin (by omega) ha hb) hm) fun σ H Q q => two nin_ok q, PT.imp (pt_cmp (pc_dnotin (by omega) ha hb) hm) fun σ H Q q => two nin_ok (tT_E q)⟩
/-! ### is None -/
theorem isN_rel {ρ : Rho} {H : Hp} {a : A} {v : V} (rv : Rel B.S ρ H a v) : decide (v = .non) = isNonA a := by
  cases a with
  | non => rw [show v = V.non from rv]; rfl
  | bl b => rw [show v = V.bl b from rv]; rfl
  | int b => rw [show v = V.int b from rv]; rfl
  | str b => rw [show v = V.str b from rv]; rfl
  | ty b => rw [show v = V.ty _ from rv]; rfl
  | loc l => obtain ⟨p, _, rfl⟩ := rv; rfl
  | glo g => obtain ⟨p, _, rfl⟩ := rv; rfl
  | tup xs => obtain ⟨p, _, rfl, _⟩ := rv; rfl
theorem q_isN {x y : EV.E} {σ : L2.St} {H : Hp} {Q : VK} (q : tE B.S E (stepE B.T.kit call r (.cmp .isN x y)) σ H Q) : tIsN (tE B.S E (r.e x)) σ H Q := by
  obtain ⟨ρ, h, s, R, rs, q⟩ := q
  refine ⟨ρ, h, s, R, rs, go q fun a h1 q1 ρ1 H1 v e1 R1 rv => ?_⟩
  dsimp only
  rw [isN_rel rv]
  exact q1 ρ1 H1 _ e1 R1 rfl
theorem q_notN {x y : EV.E} {σ : L2.St} {H : Hp} {Q : VK} (q : tE B.S E (stepE B.T.kit call r (.cmp .notN x y)) σ H Q) : tNotN (tE B.S E (r.e x)) σ H Q := by
  obtain ⟨ρ, h, s, R, rs, q⟩ := q
  refine ⟨ρ, h, s, R, rs, go q fun a h1 q1 ρ1 H1 v e1 R1 rv => ?_⟩
  dsimp only
  rw [isN_rel rv]
  exact q1 ρ1 H1 _ e1 R1 rfl
theorem e_isN (O : Ok B k c X E) (I : Snd B k r) {a : Expr} {x y : EV.E} {j : Nat} {pos p2 : Pos} (h1 : Cp B.T c a x) :
    PE X (.Compare a [.Is] [.Constant .none j p2] pos) (tE B.S E (stepE B.T.kit call r (.cmp .isN x y))) ∧ PT X (.Compare a [.Is] [.Constant .none j p2] pos) (tT B.S E (stepE B.T.kit call r (.cmp .isN x y))) :=
  ⟨PE.imp (pe_cmp (pc_isN (I.pe O h1)) rfl) fun _ _ _ q => q_isN q, PT.imp (pt_cmp (pc_isN (I.pe O h1)) rfl) fun _ _ _ q => q_isN (tT_E q)⟩
theorem e_notN (O : Ok B k c X E) (I : Snd B k r) {a : Expr} {x y : EV.E} {j : Nat} {pos p2 : Pos} (h1 : Cp B.T c a x) :
    PE X (.Compare a [.IsNot] [.Constant .none j p2] pos) (tE B.S E (stepE B.T.kit call r (.cmp .notN x y))) ∧ PT X (.Compare a [.IsNot] [.Constant .none j p2] pos) (tT B.S E (stepE B.T.kit call r (.cmp .notN x y))) :=
  ⟨PE.imp (pe_cmp (pc_notN (I.pe O h1)) rfl) fun _ _ _ q => q_notN q, PT.imp (pt_cmp (pc_notN (I.pe O h1)) rfl) fun _ _ _ q => q_notN (tT_E q)⟩
/-! ### and, or, not, if -/
theorem bl_of {a : A} {b : Bool} {ρ : Rho} {H : Hp} {v : V} (e : a = .bl b) (rv : Rel B.S ρ H a v) : v = .bl b := by subst e; exact rv
theorem q_and {x y : EV.E} {σ : L2.St} {H : Hp} {Q : VK} (q : tE B.S E (stepE B.T.kit call r (.and x y)) σ H Q) : tAndV (tE B.S E (r.e x)) (tE B.S E (r.e y)) σ H Q := by
  obtain ⟨ρ, h, s, R, rs, q⟩ := q
  refine ⟨ρ, h, s, R, rs, go q fun a h1 q1 ρ1 H1 v e1 R1 rv => ?_⟩
  split at q1
  · exact ⟨true, rv, by rw [if_pos rfl]; exact ⟨ρ1, h1, s, R1, rs.mono e1, all_mono e1 (fun _ _ y => y.mono e1) q1⟩⟩
  · exact ⟨false, rv, by rw [if_neg Bool.false_ne_true]; exact q1 ρ1 H1 _ e1 R1 rfl⟩
  · exact q1.elim
theorem q_or {x y : EV.E} {σ : L2.St} {H : Hp} {Q : VK} (q : tE B.S E (stepE B.T.kit call r (.or x y)) σ H Q) : tOrV (tE B.S E (r.e x)) (tE B.S E (r.e y)) σ H Q := by
  obtain ⟨ρ, h, s, R, rs, q⟩ := q
  refine ⟨ρ, h, s, R, rs, go q fun a h1 q1 ρ1 H1 v e1 R1 rv => ?_⟩
  split at q1
  · exact ⟨false, rv, by rw [if_neg Bool.false_ne_true]; exact ⟨ρ1, h1, s, R1, rs.mono e1, all_mono e1 (fun _ _ y => y.mono e1) q1⟩⟩
  · exact ⟨true, rv, by rw [if_pos rfl]; exact q1 ρ1 H1 _ e1 R1 rfl⟩
  · exact q1.elim
theorem q_not {x : EV.E} {σ : L2.St} {H : Hp} {Q : VK} (q : tE B.S E (stepE B.T.kit call r (.not x)) σ H Q) : tNotV (tE B.S E (r.e x)) σ H Q := by
  obtain ⟨ρ, h, s, R, rs, q⟩ := q
  refine ⟨ρ, h, s, R, rs, go q fun a h1 q1 ρ1 H1 v e1 R1 rv => ?_⟩
  split at q1
  · rename_i b
    exact ⟨b, rv, q1 ρ1 H1 _ e1 R1 rfl⟩
  · exact q1.elim
/-- the same as tests -/
theorem t_and {x y : EV.E} {σ : L2.St} {H : Hp} {Q : Bool → Hp → Prop} (q : tT B.S E (stepE B.T.kit call r (.and x y)) σ H Q) : tAnd (tT B.S E (r.e x)) (tT B.S E (r.e y)) σ H Q := by
  obtain ⟨ρ, h, s, R, rs, q⟩ := q
  refine ⟨ρ, h, s, R, rs, go q fun a h1 q1 => ?_⟩
  split at q1
  · exact ⟨true, rfl, fun ρ1 H1 e1 R1 => by dsimp only; rw [if_pos rfl]; exact ⟨ρ1, h1, s, R1, rs.mono e1, all_mono e1 (fun _ _ y => y.mono e1) q1⟩⟩
  · refine ⟨false, rfl, fun ρ1 H1 e1 R1 => ?_⟩
    dsimp only
    rw [if_neg Bool.false_ne_true]
    obtain ⟨b, e, z⟩ := q1
    cases e
    exact z ρ1 H1 e1 R1
  · exact q1.elim
theorem t_or {x y : EV.E} {σ : L2.St} {H : Hp} {Q : Bool → Hp → Prop} (q : tT B.S E (stepE B.T.kit call r (.or x y)) σ H Q) : tOr (tT B.S E (r.e x)) (tT B.S E (r.e y)) σ H Q := by
  obtain ⟨ρ, h, s, R, rs, q⟩ := q
  refine ⟨ρ, h, s, R, rs, go q fun a h1 q1 => ?_⟩
  split at q1
  · exact ⟨false, rfl, fun ρ1 H1 e1 R1 => by dsimp only; rw [if_neg Bool.false_ne_true]; exact ⟨ρ1, h1, s, R1, rs.mono e1, all_mono e1 (fun _ _ y => y.mono e1) q1⟩⟩
  · refine ⟨true, rfl, fun ρ1 H1 e1 R1 => ?_⟩
    dsimp only
    rw [if_pos rfl]
    obtain ⟨b, e, z⟩ := q1
    cases e
    exact z ρ1 H1 e1 R1
  · exact q1.elim
theorem t_not {x : EV.E} {σ : L2.St} {H : Hp} {Q : Bool → Hp → Prop} (q : tT B.S E (stepE B.T.kit call r (.not x)) σ H Q) : tNot (tT B.S E (r.e x)) σ H Q := by
  obtain ⟨ρ, h, s, R, rs, q⟩ := q
  refine ⟨ρ, h, s, R, rs, go q fun a h1 q1 => ?_⟩
  split at q1
  · rename_i b
    obtain ⟨b', e, z⟩ := q1
    cases e
    exact ⟨b, rfl, fun ρ1 H1 e1 R1 => z ρ1 H1 e1 R1⟩
  · exact q1.elim
theorem q_ife {t x y : EV.E} {σ : L2.St} {H : Hp} {Q : VK} (q : tE B.S E (stepE B.T.kit call r (.ife t x y)) σ H Q) : tIf (tT B.S E (r.e t)) (tE B.S E (r.e x)) (tE B.S E (r.e y)) σ H Q := by
  obtain ⟨ρ, h, s, R, rs, q⟩ := q
  refine ⟨ρ, h, s, R, rs, go q fun a h1 q1 => ?_⟩
  split at q1
  · exact ⟨true, rfl, fun ρ1 H1 e1 R1 => by dsimp only; rw [if_pos rfl]; exact ⟨ρ1, h1, s, R1, rs.mono e1, all_mono e1 (fun _ _ y => y.mono e1) q1⟩⟩
  · exact ⟨false, rfl, fun ρ1 H1 e1 R1 => by dsimp only; rw [if_neg Bool.false_ne_true]; exact ⟨ρ1, h1, s, R1, rs.mono e1, all_mono e1 (fun _ _ y => y.mono e1) q1⟩⟩
  · exact q1.elim
theorem t_ife {t x y : EV.E} {σ : L2.St} {H : Hp} {Q : Bool → Hp → Prop} (q : tT B.S E (stepE B.T.kit call r (.ife t x y)) σ H Q) : tT B.S E (r.e t) σ H fun b H1 => if b = true then tT B.S E (r.e x) σ H1 Q else tT B.S E (r.e y) σ H1 Q := by
  obtain ⟨ρ, h, s, R, rs, q⟩ := q
  refine ⟨ρ, h, s, R, rs, go q fun a h1 q1 => ?_⟩
  split at q1
  · exact ⟨true, rfl, fun ρ1 H1 e1 R1 => by dsimp only; rw [if_pos rfl]; exact ⟨ρ1, h1, s, R1, rs.mono e1, all_mono e1 (fun _ _ y => y.mono e1) q1⟩⟩
  · exact ⟨false, rfl, fun ρ1 H1 e1 R1 => by dsimp only; rw [if_neg Bool.false_ne_true]; exact ⟨ρ1, h1, s, R1, rs.mono e1, all_mono e1 (fun _ _ y => y.mono e1) q1⟩⟩
  · exact q1.elim
theorem pt_ifE {t a b : Expr} {tt ta tb : TT} {pos : Pos} (h : PT X t tt) (ha : PT X a ta) (hb : PT X b tb) : PT X (.IfExp t a b pos) (fun σ H Q => tt σ H fun b H1 => if b = true then ta σ H1 Q else tb σ H1 Q) := by
  refine ⟨fun pins s σ H Q I hq => ?_⟩
  show wpAny _ _ (isTrue t X.env (eval t X.env) >>= fun z => if z = true then isTrue a X.env (eval a X.env) else isTrue b X.env (eval b X.env)) _ _ _
  refine wpAny_bind (thn (h.run pins s σ H _ I hq) fun z s1 ⟨H1, I1, q1⟩ => ?_)
  cases z with
  | true => exact ha.run pins s1 σ H1 Q I1 q1
  | false => exact hb.run pins s1 σ H1 Q I1 q1
/-! ### displays -/
theorem q_tup {xs : List EV.E} {σ : L2.St} {H : Hp} {Q : VK} (q : tE B.S E (stepE B.T.kit call r (.tup xs)) σ H Q) : tTup (tAs B.S E (evEs r xs)) σ H Q := by
  obtain ⟨ρ, h, s, R, rs, q⟩ := q
  refine ⟨ρ, h, s, R, rs, go q fun as h1 q1 ρ1 H1 vs e1 R1 rv => ?_⟩
  split at q1
  · rename_i hl
    refine ⟨by rw [Rels.length rv]; exact Nat.le_trans hl (by decide), fun p n => ?_⟩
    exact q1 ρ1 _ _ (e1.trans (Ext.more n)) (R1.more n) ⟨p, vs, rfl, .inl (.inl upd_same), Rels.mono (Ext.more n) rv⟩
  · exact q1.elim
theorem q_lst {xs : List EV.E} {σ : L2.St} {H : Hp} {Q : VK} (q : tE B.S E (stepE B.T.kit call r (.lst xs)) σ H Q) : tLst (tAs B.S E (evEs r xs)) σ H Q := by
  obtain ⟨ρ, h, s, R, rs, q⟩ := q
  refine ⟨ρ, h, s, R, rs, go q fun as h1 q1 ρ1 H1 vs e1 R1 rv => ?_⟩
  have z := fun (p : Addr) (n : H1 p = none) => newL_ok (Q := Q) R1 rv (all_mono e1 (fun _ _ y => y.mono e1) q1) n
  unfold newL at q1
  split at q1
  · rename_i hl
    exact ⟨by rw [Rels.length rv]; exact Nat.le_trans hl (by decide), fun p n => (z p n).2⟩
  · exact q1.elim
/-! ### arguments, then a call by values -/
theorem q_args {xs : List EV.E} {f : List A → Hh → Out A} {rr : List V → Hp → VK → Prop} (hop : ∀ {ρ h H as vs Q}, Rep B.S ρ h H → Rels B.S ρ H as vs → (f as h).All (QW B.S ρ H Q) (XW B.S ρ H E) → rr vs H Q)
    {σ : L2.St} {H : Hp} {Q : VK} (q : tE B.S E (fun s h => (evEs r xs s h).bind fun as h1 => f as h1) σ H Q) : tCB rr (tAs B.S E (evEs r xs)) σ H Q := by
  obtain ⟨ρ, h, s, R, rs, q⟩ := q
  refine ⟨ρ, h, s, R, rs, go q fun as h1 q1 ρ1 H1 vs e1 R1 rv => ?_⟩
  exact hop R1 rv (all_mono e1 (fun _ _ y => y.mono e1) q1)
theorem call_lenF : CallR X (.builtin "len") (fun xs H Q => ∃ a kvs, xs = [V.ref a] ∧ Rd H a (.dK kvs) ∧ Q (.int kvs.length) H) := by
  intro pins s σ H xs us Q I rx h
  obtain ⟨a, kvs, rfl, e, q⟩ := h
  cases rx with
  | cons r1 r2 =>
    cases r2
    cases r1
    exact d_len I e fun t s' I' => ⟨.int kvs.length, H, I', ⟨t, rfl⟩, q⟩
theorem e_bi (BO : BOk B) (O : Ok B k c X E) (I : Snd B k r) {f : Str} {e : Expr} {es : List Expr} {b : Bi} {xs : List EV.E} {p pos : Pos} (h1 : kindIs c.sc f .globalImplicit = true) (h2 : B.T.free.contains f = true) (h3 : biOf f = some b) (h4 : Cps B.T c (e :: es) xs) :
    PE X (.Call (.Name f p) (e :: es) [] pos) (tE B.S E (stepE B.T.kit call r (.bi b xs))) := by
  have ha := pas O I h4
  have hst : starEach (e :: es) X.env = (false, eval e X.env) :: starEach es X.env := by cases h4 with | cons z _ _ => exact star_cons z
  have hpl : (backTo pos (starEach es X.env)).any (·.1) = false := by cases h4 with | cons _ _ z => exact star_any z
  have hg := O.gl h1
  have hm := O.fr BO h2
  unfold biOf at h3
  split at h3
  · rename_i ef
    cases h3
    obtain rfl := eq_of_beq ef
    have hr : CallR X (.builtin "len") (rLenA B.S.K) := by rw [← O.K]; exact CallR.or call_len_seq call_lenF
    exact PE.imp (pe_callB hr hg hm (by decide +kernel) ha (by decide +kernel) (by decide +kernel) hst hpl) fun _ _ _ q => q_args (f := evBi B.T.kit .len) len_ok q
  split at h3
  · rename_i ef
    cases h3
    obtain rfl := eq_of_beq ef
    have hr : CallR X (.builtin "isinstance") (fun vs H Q => rIsZ B.S.K vs H Q ∨ rIsZT B.S.K vs H Q) := by rw [← O.K]; exact CallR.or call_isZ call_isZT
    exact PE.imp (pe_callB hr hg hm (by decide +kernel) ha (by decide +kernel) (by decide +kernel) hst hpl) fun _ _ _ q => q_args (f := evBi B.T.kit .isi) (isi_ok BO) q
  split at h3
  · rename_i ef
    cases h3
    obtain rfl := eq_of_beq ef
    have hr : CallR X (.builtin "all") (rAll B.S.K) := by rw [← O.K]; exact cr_all O.calm
    exact PE.imp (pe_callB hr hg hm (by decide +kernel) ha (by decide +kernel) (by decide +kernel) hst hpl) fun _ _ _ q => q_args (f := evBi B.T.kit .all) allB_ok q
  split at h3
  · rename_i ef
    cases h3
    obtain rfl := eq_of_beq ef
    have hr : CallR X (.builtin "any") (rAny B.S.K) := by rw [← O.K]; exact cr_any O.calm
    exact PE.imp (pe_callB hr hg hm (by decide +kernel) ha (by decide +kernel) (by decide +kernel) hst hpl) fun _ _ _ q => q_args (f := evBi B.T.kit .any) anyB_ok q
  · cases h3
end
end EV
set_option Elab.async false
set_option linter.all false
set_option maxRecDepth 100000
set_option maxHeartbeats 4000000
namespace EV
open PySem PySem.Spec PyProof.Rows L2 ER
theorem Ext.newN {S : Sc} {ρ : Rho} {h : Hh} {H H' : Hp} {p : Addr} (R : Rep S ρ h H) (k : LamX.ExtN H H') : Ext S ρ H (rhoNew ρ h.nx p) H' := ⟨fun l a z => by
    unfold rhoNew
    rw [if_neg (fun e => by rw [e, R.nxNone] at z; cases z)]
    exact z, fun a vs q => by
  rcases q with (q | ⟨ob, q⟩) | q
  · exact .inl (.inl (k _ _ q nofun))
  · exact .inl (.inr ⟨ob, k _ _ q nofun⟩)
  · exact .inr q, fun a o u q => k _ _ q nofun⟩
theorem Ext.new' {S : Sc} {ρ : Rho} {h : Hh} {H H' : Hp} {p : Addr} (R : Rep S ρ h H) (k : ∀ b o, H b = some o → H' b = some o) : Ext S ρ H (rhoNew ρ h.nx p) H' := Ext.newN R (LamX.ExtN.of k)
section
variable {B : Bs} {k : Nat} {r : Rec} {c : Cc} {X : Cx} {E : XK} {call : Nat → List A → Hh → Out A}
/-! ### calls of defs -/
theorem q_call {f n : Nat} {xs : List EV.E} {σ : L2.St} {H : Hp} {Q : VK} (q : tE B.S E (stepE B.T.kit call r (.call f n xs)) σ H Q) : tCall (spF B call f n) [] E (tAs B.S E (evEs r xs)) σ H Q := by
  obtain ⟨ρ, h, s, R, rs, q⟩ := q
  refine ⟨ρ, h, s, R, rs, go q fun as h1 q1 ρ1 H1 vs e1 R1 rv => ?_⟩
  split at q1
  · rename_i hl
    rw [List.append_nil]
    exact ⟨by rw [Rels.length rv]; exact hl, ρ1, h1, as, R1, rv, all_mono e1 (fun _ _ y => y.mono e1) q1⟩
  · exact q1.elim
theorem e_call (CO : CallOk B k call) (O : Ok B k c X E) (I : Snd B k r) {f : Str} {es : List Expr} {n ar : Nat} {xs : List EV.E} {p pos : Pos} (h1 : kindIs c.sc f .globalImplicit = true) (h2 : B.T.gl.lookup f = some (.fn n ar)) (h3 : okName f = true) (h4 : Cps B.T c es xs) :
    PE X (.Call (.Name f p) es [] pos) (tE B.S E (stepE B.T.kit call r (.call n ar xs))) := by
  have ha := pas O I h4
  obtain ⟨a, fd, ps, hl, hm, hk, F, hb⟩ := CO.fn f n ar h2
  have F' : FnOk X.prog X.w X.K X.mg X.base (L2.CX X.prog X.w) k a fd ps (spF B call n ar) := by rw [O.P, O.w, O.K, O.mg, O.bs]; exact F
  have hm' : X.mg f = some (.ref a) := by rw [O.mg]; exact hm
  have hk' : PySem.W.keepIn X.K (.ref a) = true := by rw [O.K]; exact hk
  have hb' : Binds X.K fd ps [] := by rw [O.K]; exact hb
  cases h4 with
  | nil =>
    refine PE.imp (pe_call0 F' O.room (O.gl h1) hm' hk' hb' .nil O.pass (okName_d h3).1) fun σ H Q q => ?_
    obtain ⟨ρ, h, s, R, rs, q⟩ := q_call q
    exact q ρ H [] Ext.refl R rfl
  | cons z1 z2 z3 => exact PE.imp (pe_call F' O.room (O.gl h1) hm' hk' hb' .nil O.pass ha (okName_d h3).1 (star_cons z1) (star_any z3)) fun _ _ _ q => q_call q
/-! ### errors made -/
theorem q_err {kw : Bool} {C : Nat} {f : Str} {x : EV.E} {Ca : Addr} (g : B.S.G C = some Ca) {σ : L2.St} {H : Hp} {Q : VK} (q : tE B.S E (stepE B.T.kit call r (.err kw C f x)) σ H Q) : tErr Ca f (tCons (tE B.S E (r.e x)) tNil) σ H Q := by
  obtain ⟨ρ, h, s, R, rs, q⟩ := q
  refine ⟨ρ, h, s, R, rs, go q fun a h1 q1 ρ1 H1 v e1 R1 rv => ?_⟩
  refine ⟨v, rfl, fun p d np nd ne => ?_⟩
  have kk : ∀ b o, H1 b = some o → upd (upd H1 d (exd d [(f, v)])) p (exo p Ca (some d)) b = some o := fun b o z => by
    rw [upd_ne (ne_of_none z np), upd_ne (ne_of_none z nd)]
    exact z
  have e2 : Ext B.S ρ1 H1 (rhoNew ρ1 h1.nx p) (upd (upd H1 d (exd d [(f, v)])) p (exo p Ca (some d))) := Ext.new' R1 kk
  refine q1 _ _ _ (e1.trans e2) (R1.new' np kk ⟨Ca, g, .inr ⟨d, [(f, v)], upd_same, by rw [upd_ne ne]; exact upd_same, ⟨v, [], rfl, rv.mono e2, rfl⟩⟩⟩) ⟨p, by unfold rhoNew; rw [if_pos rfl], rfl⟩
theorem q_err0 {C : Nat} {Ca : Addr} (g : B.S.G C = some Ca) {σ : L2.St} {H : Hp} {Q : VK} (q : tE B.S E (stepE B.T.kit call r (.err0 C)) σ H Q) : tErr0 Ca σ H Q := by
  obtain ⟨ρ, h, s, R, rs, q⟩ := q
  intro p np
  exact q _ _ _ (Ext.new R np) (R.new np ⟨Ca, g, .inl ⟨rfl, upd_same⟩⟩) ⟨p, by unfold rhoNew; rw [if_pos rfl], rfl⟩
theorem e_err (BO : BOk B) (O : Ok B k c X E) (I : Snd B k r) {f : Str} {e : Expr} {x : EV.E} {n : Nat} {fl : Str} {p pos : Pos} (h1 : kindIs c.sc f .globalImplicit = true) (h2 : B.T.gl.lookup f = some (.err n fl)) (h3 : okName f = true) (h4 : notStar e = true) (h5 : Cp B.T c e x) :
    PE X (.Call (.Name f p) [e] [] pos) (tE B.S E (stepE B.T.kit call r (.err false n fl x))) := by
  obtain ⟨Ca, fI, fd, g, hm, T⟩ := BO.err f n fl h2
  have T' : Err1Ok X.prog X.w X.K X.mg X.base Ca fl fI fd := by rw [O.P, O.w, O.K, O.mg, O.bs]; exact T
  exact PE.imp (pe_err T' O.r2 (O.gl h1) (by rw [O.mg]; exact hm) (pa_cons (I.pe O h5) pa_nil (star_cons h4)) (okName_d h3).1 (star_cons h4)) fun _ _ _ q => q_err g q
theorem e_errK (BO : BOk B) (O : Ok B k c X E) (I : Snd B k r) {f : Str} {e : Expr} {x : EV.E} {n : Nat} {fl : Str} {p pos kp : Pos} (h1 : kindIs c.sc f .globalImplicit = true) (h2 : B.T.gl.lookup f = some (.err n fl)) (h3 : okName f = true) (h5 : Cp B.T c e x) :
    PE X (.Call (.Name f p) [] [⟨some fl, e, kp⟩] pos) (tE B.S E (stepE B.T.kit call r (.err true n fl x))) := by
  obtain ⟨Ca, fI, fd, g, hm, T⟩ := BO.err f n fl h2
  have T' : Err1Ok X.prog X.w X.K X.mg X.base Ca fl fI fd := by rw [O.P, O.w, O.K, O.mg, O.bs]; exact T
  exact PE.imp (pe_errK T' O.r2 (O.gl h1) (by rw [O.mg]; exact hm) (pk_cons (I.pe O h5) pk_nil) (okName_d h3).1) fun _ _ _ q => q_err g q
theorem e_err0 (BO : BOk B) (O : Ok B k c X E) {f : Str} {n : Nat} {p pos : Pos} (h1 : kindIs c.sc f .globalImplicit = true) (h2 : B.T.gl.lookup f = some (.err0 n)) (h3 : okName f = true) :
    PE X (.Call (.Name f p) [] [] pos) (tE B.S E (stepE B.T.kit call r (.err0 n))) := by
  obtain ⟨Ca, fI, fd, g, hm, T⟩ := BO.err0 f n h2
  have T' : Err0Ok X.prog X.w X.K X.mg X.base Ca fI fd := by rw [O.P, O.w, O.K, O.mg, O.bs]; exact T
  exact PE.imp (pe_err0 T' O.r2 (O.gl h1) (by rw [O.mg]; exact hm) (okName_d h3).1) fun _ _ _ q => q_err0 g q
/-! ### methods of lists, fields of errors -/
theorem q_mt {m : Mt} {rr : V → List V → Hp → VK → Prop} {x y : EV.E} (hop : ∀ {ρ h H a b v w Q}, Rep B.S ρ h H → Rel B.S ρ H a v → Rel B.S ρ H b w → (evMt m a [b] h).All (QW B.S ρ H Q) (XW B.S ρ H E) → rr v [w] H Q)
    {σ : L2.St} {H : Hp} {Q : VK} (q : tE B.S E (stepE B.T.kit call r (.mt m x [y])) σ H Q) : tBM B.S.K "list" rr (tE B.S E (r.e x)) (tCons (tE B.S E (r.e y)) tNil) σ H Q := by
  obtain ⟨ρ, h, s, R, rs, q⟩ := q
  refine ⟨ρ, h, s, R, rs, go q fun a h1 q1 ρ1 H1 v e1 R1 rv => ?_⟩
  split at q1
  · rename_i zs ez
    obtain ⟨p, us, rfl, hs, _⟩ := lstOf_ok R1 rv ez
    refine ⟨.inl ⟨rfl, us, SqL.of hs⟩, ρ1, h1, s, R1, rs.mono e1, ?_⟩
    have q2 := Out.all_bind (all_mono e1 (fun _ _ y => y) q1)
    unfold evEs at q2
    refine go q2 fun b h2 q3 ρ2 H2 w e2 R2 rw => ?_
    have q4 : (evMt m a [b] h2).All (QW B.S ρ H Q) (XW B.S ρ1 H1 E) := q3
    exact hop R2 (rv.mono e2) rw (all_mono e2 (fun _ _ y => (y.mono e1).mono e2) q4)
  · exact q1.elim
theorem app_ok {ρ : Rho} {h : Hh} {H : Hp} {a b : A} {v w : V} {Q : VK} (R : Rep B.S ρ h H) (ra : Rel B.S ρ H a v) (rb : Rel B.S ρ H b w) (q : (evMt .app a [b] h).All (QW B.S ρ H Q) (XW B.S ρ H E)) : rAppend v [w] H Q := by
  have q : (evApp a b h).All (QW B.S ρ H Q) (XW B.S ρ H E) := q
  unfold evApp at q
  split at q
  · rename_i l
    split at q
    · rename_i ys g
      split at q
      · rename_i hl
        obtain ⟨p, us, rfl, hp, hs, rsu⟩ := lst_at R ra g
        refine ⟨p, us, w, rfl, rfl, hs, by rw [Rels.length rsu]; exact Nat.lt_of_lt_of_le hl (by decide), ?_⟩
        exact q ρ _ _ (Ext.put hs True.intro) (R.put hp hs True.intro ⟨us ++ [w], upd_same, Rels.append (Rels.mono (Ext.put hs True.intro) rsu) (Rels.one (rb.mono (Ext.put hs True.intro)))⟩) rfl
      · exact q.elim
    · exact q.elim
  · exact q.elim
theorem ext_ok {ρ : Rho} {h : Hh} {H : Hp} {a b : A} {v w : V} {Q : VK} (R : Rep B.S ρ h H) (ra : Rel B.S ρ H a v) (rb : Rel B.S ρ H b w) (q : (evMt .ext a [b] h).All (QW B.S ρ H Q) (XW B.S ρ H E)) : rExtend v [w] H Q := by
  have q : (evExt a b h).All (QW B.S ρ H Q) (XW B.S ρ H E) := q
  unfold evExt at q
  split at q
  · rename_i l
    split at q
    · rename_i ys g
      split at q
      · rename_i zs ez
        split at q
        · rename_i hl
          obtain ⟨p, us, rfl, hp, hs, rsu⟩ := lst_at R ra g
          obtain ⟨p2, us2, rfl, hs2, rsu2⟩ := lstOf_ok R rb ez
          refine ⟨p, p2, us, us2, rfl, rfl, hs, hs2, by rw [Rels.length rsu, Rels.length rsu2]; exact Nat.le_trans hl (by decide), ?_⟩
          exact q ρ _ _ (Ext.put hs True.intro) (R.put hp hs True.intro ⟨us ++ us2, upd_same, Rels.append (Rels.mono (Ext.put hs True.intro) rsu) (Rels.mono (Ext.put hs True.intro) rsu2)⟩) rfl
        · exact q.elim
      · exact q.elim
    · exact q.elim
  · exact q.elim
theorem e_mt (O : Ok B k c X E) (I : Snd B k r) {o e : Expr} {m : Str} {mk : Mt} {x y : EV.E} {ap pos : Pos} (h1 : mtOf m = some mk) (h2 : noSup o = true) (h3 : (ap.endLine == pos.line) = true) (h4 : notStar e = true) (h5 : Cp B.T c o x) (h6 : Cp B.T c e y) :
    PE X (.Call (.Attribute o m ap) [e] [] pos) (tE B.S E (stepE B.T.kit call r (.mt mk x [y]))) := by
  have ha := pa_cons (I.pe O h6) pa_nil (star_cons h4)
  have hfew : ((backTo pos (starEach [e] X.env)).all (fun x => !x.1) && (backToKw pos (keywordEach [] X.env)).all (fun x => x.1.isSome)
      && decide ([e].length + ([] : List Keyword).length + (if ([] : List Keyword).isEmpty then 0 else 1) < 30)) = true := by
    rw [star_cons h4]
    rfl
  unfold mtOf at h1
  split at h1
  · rename_i em
    cases h1
    obtain rfl := eq_of_beq em
    have := PE.imp (pe_bm PySem.F.plainAttrs_list PySem.F.slot_list_append PySem.F.type_list_append mt_append (I.pe O h5) ha (noSup_base h2) hfew h3 (star_cons h4) (by rfl)) (t' := tE B.S E (stepE B.T.kit call r (.mt .app x [y]))) fun _ _ _ q => by
      rw [O.K]
      exact q_mt app_ok q
    exact this
  split at h1
  · rename_i em
    cases h1
    obtain rfl := eq_of_beq em
    have := PE.imp (pe_bm PySem.F.plainAttrs_list PySem.F.slot_list_extend PySem.F.type_list_extend mt_extend (I.pe O h5) ha (noSup_base h2) hfew h3 (star_cons h4) (by rfl)) (t' := tE B.S E (stepE B.T.kit call r (.mt .ext x [y]))) fun _ _ _ q => by
      rw [O.K]
      exact q_mt ext_ok q
    exact this
  · cases h1
theorem e_fld (BO : BOk B) (O : Ok B k c X E) (I : Snd B k r) {o : Expr} {f : Str} {x : EV.E} {pos : Pos} (h1 : noSup o = true) (h2 : Cp B.T c o x) : PE X (.Attribute o f pos) (tE B.S E (stepE B.T.kit call r (.fld x f))) := by
  refine PE.imp (pe_xg (I.pe O h2) (noSup_base h1)) fun σ H Q q => ?_
  rw [O.K]
  obtain ⟨ρ, h, s, R, rs, q⟩ := q
  refine ⟨ρ, h, s, R, rs, go q fun a h1 q1 ρ1 H1 v e1 R1 rv => ?_⟩
  unfold evFld at q1
  split at q1
  · split at q1
    · rename_i C fs g
      split at q1
      · rename_i gf ek
        split at q1
        · rename_i eg
          split at q1
          · rename_i b el
            subst eg
            obtain ⟨p, rfl, _, z⟩ := cell_at R1 rv g
            obtain ⟨Ca, hG, z⟩ := z
            rcases z with ⟨z, _⟩ | ⟨d, vs, z1, z2, z3⟩
            · rw [z] at el
              cases el
            · obtain ⟨w, l1, l2⟩ := (RelF.look z3).1 b el
              obtain ⟨n1, n2⟩ := BO.xno C _ Ca ek hG
              exact ⟨p, Ca, d, vs, w, rfl, n2, n1, z1, z2, l1, q1 ρ1 H1 w e1 R1 l2⟩
          · exact q1.elim
        · exact q1.elim
      · exact q1.elim
    · exact q1.elim
  · exact q1.elim
end
end EV
set_option Elab.async false
set_option linter.all false
set_option maxRecDepth 100000
set_option maxHeartbeats 4000000
namespace EV
open PySem PySem.Spec PyProof.Rows L2 ER
theorem PG.imp {X : Cx} {e : Expr} {t t' : TG} (h : PG X e t) (k : ∀ v σ H Q, t' v σ H Q → t v σ H Q) : PG X e t' := ⟨fun pins s σ H v u Q I r q => h.run pins s σ H v u Q I r (k _ _ _ _ q)⟩
theorem PGs.imp {X : Cx} {e : List Expr} {t t' : TGs} (h : PGs X e t) (k : ∀ v σ H Q, t' v σ H Q → t v σ H Q) : PGs X e t' := ⟨fun pins s σ H v u Q I r q => h.run pins s σ H v u Q I r (k _ _ _ _ q)⟩
theorem PI.imp {X : Cx} {tg e : Expr} {t t' : TI} (h : PI X tg e t) (k : ∀ σ H R, t' σ H R → t σ H R) : PI X tg e t' := ⟨fun pins s σ H R I q => h.run pins s σ H R I (k _ _ _ q)⟩
theorem PI.or {X : Cx} {tg e : Expr} {t t' : TI} (h : PI X tg e t) (h' : PI X tg e t') : PI X tg e (fun σ H R => t σ H R ∨ t' σ H R) := ⟨fun pins s σ H R I q => by
  rcases q with q | q
  · exact h.run pins s σ H R I q
  · exact h'.run pins s σ H R I q⟩
/-! ### targets -/
/-- but for some slots as it was -/
def But (vs : List Nat) (σ σ' : L2.St) : Prop := σ'.length = σ.length ∧ ∀ i, i ∉ vs → σ'[i]? = σ[i]?
theorem But.refl {vs : List Nat} {σ : L2.St} : But vs σ σ := ⟨rfl, fun _ _ => rfl⟩
def gTg (S : Sc) (t : Tg) : TG := fun v σ H Q => ∃ ρ s a s', RelS S ρ H s σ ∧ Rel S ρ H a v ∧ evTg t a s = some s' ∧ ∀ σ', RelS S ρ H s' σ' → But (slotsT t) σ σ' → Q σ' H
def gTgs (S : Sc) (ts : List Tg) : TGs := fun vs σ H Q => ∃ ρ s as s', RelS S ρ H s σ ∧ Rels S ρ H as vs ∧ evTgs ts as s = some s' ∧ ∀ σ', RelS S ρ H s' σ' → But (slotsTs ts) σ σ' → Q σ' H
section
variable {B : Bs} {k : Nat} {r : Rec} {c : Cc} {X : Cx} {E : XK} {call : Nat → List A → Hh → Out A}
theorem tg_star {e : Expr} {es : List Expr} {t : Tg} {env : Env} (h : Ct c e t) : assignEach (e :: es) env = (false, assign e env) :: assignEach es env := by
  cases h <;> rfl
theorem tgs_len {env : Env} : ∀ {ts : List Tg} {es : List Expr}, Cts c es ts → (assignEach es env).length = ts.length ∧ (assignEach es env).findIdx? (·.1) = none
  | [], _, h => by cases h; exact ⟨rfl, rfl⟩
  | t :: ts, _, h => by
    cases h with
    | cons h1 h2 =>
      obtain ⟨z1, z2⟩ := tgs_len (env := env) h2
      rw [tg_star h1]
      refine ⟨by rw [List.length_cons, List.length_cons, z1], ?_⟩
      rw [List.findIdx?_cons]
      simp [z2]
theorem evTgs_len : ∀ {ts : List Tg} {as : List A} {s s' : Sl}, evTgs ts as s = some s' → as.length = ts.length
  | [], [], _, _, _ => rfl
  | [], _ :: _, _, _, e => by unfold evTgs at e; cases e
  | _ :: _, [], _, _, e => by unfold evTgs at e; cases e
  | t :: ts, x :: xs, s, s', e => by
    unfold evTgs at e
    cases q : evTg t x s with
    | none => rw [q] at e; cases e
    | some s1 =>
      rw [q, Option.bind_some] at e
      rw [List.length_cons, List.length_cons, evTgs_len e]
mutual
theorem pg (O : Ok B k c X E) : ∀ (t : Tg) {tg : Expr}, Ct c tg t → PG X tg (gTg B.S t)
  | .nm i, _, h => by
    cases h with
    | nm h1 h2 =>
      rename_i x pos
      have hN : X.N.Nodup := by rw [O.N]; exact O.nd
      have hi : X.N[i]? = some x := by rw [O.N]; exact h1
      have hx : Loc X.env.scope x ∧ (X.fn x = true ∨ X.env.scope.names.lookup x = some .local) := by
        rw [Bool.or_eq_true] at h2
        rcases h2 with h2 | h2
        · exact ⟨.inl (O.loc x (kindIs_ok h2)), .inr (O.loc x (kindIs_ok h2))⟩
        · exact ⟨.inr (O.cell x (kindIs_ok h2)).1, .inl (O.cell x (kindIs_ok h2)).2⟩
      refine PG.imp (pg_name hN hi hx.1 hx.2) fun v σ H Q q => ?_
      obtain ⟨ρ, s, a, s', rs, rv, e, k⟩ := q
      unfold evTg at e
      cases e
      exact k _ (rs.set rv) ⟨List.length_set .., fun j hj => List.getElem?_set_ne fun e => hj (by unfold slotsT; rw [e]; exact List.mem_cons_self ..)⟩
  | .tp ts, _, h => by
    cases h with
    | tp h1 =>
      obtain ⟨z1, z2⟩ := tgs_len (env := X.env) h1
      refine PG.imp (pg_tup O.calm (pgs O ts h1) z1 z2) fun v σ H Q q => ?_
      obtain ⟨ρ, s, a, s', rs, rv, e, k⟩ := q
      cases a with
      | tup xs =>
        obtain ⟨p, us, e1, hs, rus⟩ := rv
        have e : evTgs ts xs s = some s' := by unfold evTg at e; exact e
        exact ⟨p, us, e1, by rw [O.K]; exact hs, by rw [Rels.length rus]; exact evTgs_len e, ρ, s, xs, s', rs, rus, e, fun σ' r1 b1 => k σ' r1 (by unfold slotsT; exact b1)⟩
      | _ => unfold evTg at e; cases e
theorem pgs (O : Ok B k c X E) : ∀ (ts : List Tg) {es : List Expr}, Cts c es ts → PGs X es (gTgs B.S ts)
  | [], _, h => by
    cases h
    refine PGs.imp pgs_nil fun vs σ H Q q => ?_
    obtain ⟨ρ, s, as, s', rs, rv, e, k⟩ := q
    cases as with
    | nil => unfold evTgs at e; cases e; exact ⟨rv, k σ rs But.refl⟩
    | cons _ _ => unfold evTgs at e; cases e
  | t :: ts, _, h => by
    cases h with
    | cons h1 h2 =>
      refine PGs.imp (pgs_cons (pg O t h1) (pgs O ts h2) (by rw [tg_star h1]; rfl)) fun vs σ H Q q => ?_
      obtain ⟨ρ, s, as, s', rs, rv, e, k⟩ := q
      cases as with
      | nil => unfold evTgs at e; cases e
      | cons x xs =>
        obtain ⟨v, vr, e1, r1, r2⟩ := rv
        unfold evTgs at e
        cases q1 : evTg t x s with
        | none => rw [q1] at e; cases e
        | some s1 =>
          rw [q1, Option.bind_some] at e
          exact ⟨v, vr, e1, ρ, s, x, s1, rs, r1, q1, fun σ1 rs1 b1 => ⟨ρ, s1, xs, s', rs1, r2, e, fun σ2 rs2 b2 => k σ2 rs2 ⟨b2.1.trans b1.1, fun i hi => by
            unfold slotsTs at hi
            rw [b2.2 i fun z => hi (List.mem_append_right _ z), b1.2 i fun z => hi (List.mem_append_left _ z)]⟩⟩⟩
end
/-! ### what is walked -/
structure JOk (S : Sc) (ρ : Rho) (H : Hp) (j : Jt) (J : L2.It) : Prop where
  stop : ∀ {ρ' h' H' i}, Ext S ρ H ρ' H' → Rep S ρ' h' H' → j.at i h' = some none → J.stop i H'
  step : ∀ {ρ' h' H' i x}, Ext S ρ H ρ' H' → Rep S ρ' h' H' → j.at i h' = some (some x) → J.go i H' ∧ ∀ v H2, J.yld i H' v H2 → Ext S ρ' H' ρ' H2 ∧ Rep S ρ' h' H2 ∧ Rel S ρ' H2 x v
theorem none_le {S : Sc} {ρ : Rho} {H : Hp} {xs : List A} {vs : List V} {i : Nat} (rs : Rels S ρ H xs vs) (e : xs[i]? = none) : vs.length ≤ i := by
  rw [Rels.length rs]
  exact List.getElem?_eq_none_iff.mp e
theorem lst_at' {S : Sc} {ρ : Rho} {h : Hh} {H : Hp} {l : Bn} {xs : List A} {a : Addr} (R : Rep S ρ h H) (hl : ρ l = some a) (e : h.get l = some (.lst xs)) : ∃ vs, H a = some (.lst vs) ∧ Rels S ρ H xs vs := by
  obtain ⟨a', e3, vs, e4, e5⟩ := R.cell l _ e
  rw [hl] at e3
  cases e3
  exact ⟨vs, e4, e5⟩
theorem j_lst {S : Sc} {ρ : Rho} {H : Hp} {l : Bn} {a : Addr} (hl : ρ l = some a) : JOk S ρ H (.lst l) (Itl S.K a) where
  stop := fun {ρ' h' H' i} e R q => by
    unfold Jt.at at q
    dsimp only at q
    split at q
    · rename_i xs g
      obtain ⟨vs, h1, h2⟩ := lst_at' R (e.le _ _ hl) g
      exact ⟨vs, SqL.of h1, none_le h2 (Option.some.inj q)⟩
    · cases q
  step := fun {ρ' h' H' i x} e R q => by
    unfold Jt.at at q
    dsimp only at q
    split at q
    · rename_i xs g
      obtain ⟨vs, h1, h2⟩ := lst_at' R (e.le _ _ hl) g
      obtain ⟨v0, g1, g2⟩ := Rels.getA h2 (Option.some.inj q)
      refine ⟨⟨vs, v0, SqL.of h1, g1⟩, fun v H2 y => ?_⟩
      obtain ⟨rfl, y2⟩ := y
      have e2 := y2 vs (SqL.of h1)
      rw [g1] at e2
      cases e2
      exact ⟨Ext.refl, R, g2⟩
    · cases q
theorem j_tup {S : Sc} {ρ : Rho} {H : Hp} {xs : List A} {vs : List V} {a : Addr} (hs : SqT S.K H a vs) (rs : Rels S ρ H xs vs) : JOk S ρ H (.tup xs) (Itt S.K a) where
  stop := fun {ρ' h' H' i} e R q => ⟨vs, e.tu _ _ hs, none_le rs (Option.some.inj q)⟩
  step := fun {ρ' h' H' i x} e R q => by
    obtain ⟨v0, g1, g2⟩ := Rels.getA rs (Option.some.inj q)
    refine ⟨⟨vs, v0, e.tu _ _ hs, g1⟩, fun v H2 y => ?_⟩
    obtain ⟨rfl, y2⟩ := y
    have e2 := y2 vs (e.tu _ _ hs)
    rw [g1] at e2
    cases e2
    exact ⟨Ext.refl, R, g2.mono e⟩
theorem j_rng {S : Sc} {ρ : Rho} {H : Hp} {n : Nat} : JOk S ρ H (.rng n) (Itr 0 n) where
  stop := fun {ρ' h' H' i} e R q => by
    unfold Jt.at at q
    dsimp only at q
    show n ≤ i
    by_cases h : i < n
    · rw [if_pos h] at q; cases q
    · omega
  step := fun {ρ' h' H' i x} e R q => by
    unfold Jt.at at q
    dsimp only at q
    by_cases h : i < n
    · rw [if_pos h] at q
      cases q
      refine ⟨h, fun v H2 y => ?_⟩
      obtain ⟨rfl, rfl⟩ := y
      refine ⟨Ext.refl, R, ?_⟩
      show V.int (0 + (i : Int)) = V.int (i : Int)
      rw [Int.zero_add]
    · rw [if_neg h] at q; cases q
theorem j_enm {S : Sc} {ρ : Rho} {H : Hp} {l : Bn} {a : Addr} (hl : ρ l = some a) : JOk S ρ H (.enm l) (Ite S.K a) where
  stop := fun {ρ' h' H' i} e R q => by
    unfold Jt.at at q
    dsimp only at q
    split at q
    · rename_i xs g
      obtain ⟨vs, h1, h2⟩ := lst_at' R (e.le _ _ hl) g
      refine ⟨vs, SqL.of h1, none_le h2 ?_⟩
      cases z : xs[i]? with
      | none => rfl
      | some x => rw [z] at q; cases q
    · cases q
  step := fun {ρ' h' H' i x} e R q => by
    unfold Jt.at at q
    dsimp only at q
    split at q
    · rename_i xs g
      obtain ⟨vs, h1, h2⟩ := lst_at' R (e.le _ _ hl) g
      cases z : xs[i]? with
      | none => rw [z] at q; cases q
      | some y =>
        rw [z] at q
        cases q
        obtain ⟨v0, g1, g2⟩ := Rels.getA h2 z
        refine ⟨⟨vs, v0, SqL.of h1, g1⟩, fun v H2 yy => ?_⟩
        obtain ⟨T, x2, rfl, nT, rfl, y2⟩ := yy
        have e2 := y2 vs (SqL.of h1)
        rw [g1] at e2
        cases e2
        exact ⟨Ext.more nT, R.more nT, ⟨T, [.int (i : Nat), v0], rfl, .inl (.inl upd_same), ⟨.int (i : Nat), [v0], rfl, rfl, v0, [], rfl, g2.mono (Ext.more nT), rfl⟩⟩⟩
    · cases q
theorem pair_none {x y : Option A} (h : pairAt x y = none) : x = none ∨ y = none := by
  cases x with
  | none => exact .inl rfl
  | some a => cases y with
    | none => exact .inr rfl
    | some b => cases h
theorem pair_some {x y : Option A} {z : A} (h : pairAt x y = some z) : ∃ a b, x = some a ∧ y = some b ∧ z = .tup [a, b] := by
  cases x with
  | none => cases h
  | some a => cases y with
    | none => cases h
    | some b => cases h; exact ⟨a, b, rfl, rfl, rfl⟩
theorem j_zp {S : Sc} {ρ : Rho} {H : Hp} {l m : Bn} {a b : Addr} (hl : ρ l = some a) (hm : ρ m = some b) : JOk S ρ H (.zp l m) (Itz S.K a b) where
  stop := fun {ρ' h' H' i} e R q => by
    unfold Jt.at at q
    dsimp only at q
    split at q
    · rename_i xs ys g1 g2
      obtain ⟨vs, h1, h2⟩ := lst_at' R (e.le _ _ hl) g1
      obtain ⟨us, h3, h4⟩ := lst_at' R (e.le _ _ hm) g2
      refine ⟨vs, us, SqL.of h1, SqL.of h3, ?_⟩
      rcases pair_none (Option.some.inj q) with z | z
      · exact .inl (none_le h2 z)
      · exact .inr (none_le h4 z)
    · cases q
  step := fun {ρ' h' H' i x} e R q => by
    unfold Jt.at at q
    dsimp only at q
    split at q
    · rename_i xs ys g1 g2
      obtain ⟨vs, h1, h2⟩ := lst_at' R (e.le _ _ hl) g1
      obtain ⟨us, h3, h4⟩ := lst_at' R (e.le _ _ hm) g2
      obtain ⟨x1, x2, z1, z2, rfl⟩ := pair_some (Option.some.inj q)
      obtain ⟨v0, k1, k2⟩ := Rels.getA h2 z1
      obtain ⟨u0, k3, k4⟩ := Rels.getA h4 z2
      refine ⟨⟨vs, us, v0, u0, SqL.of h1, SqL.of h3, k1, k3⟩, fun v H2 yy => ?_⟩
      obtain ⟨T, y1, y2, rfl, nT, rfl, w1, w2⟩ := yy
      have e2 := w1 vs (SqL.of h1)
      have e3 := w2 us (SqL.of h3)
      rw [k1] at e2
      rw [k3] at e3
      cases e2
      cases e3
      exact ⟨Ext.more nT, R.more nT, ⟨T, [v0, u0], rfl, .inl (.inl upd_same), ⟨v0, [u0], rfl, k2.mono (Ext.more nT), u0, [], rfl, k4.mono (Ext.more nT), rfl⟩⟩⟩
    · cases q
theorem RelK.at {S : Sc} {ρ : Rho} {H : Hp} : ∀ {xs : List (A × A)} {vs : List (Key × V)} {i : Nat} {p : A × A}, RelK S ρ H xs vs → xs[i]? = some p → ∃ c v, vs[i]? = some (c, v) ∧ keyOf p.1 = some c
  | [], _, i, p, _, e => by simp at e
  | (k, y) :: r, _, 0, p, ⟨c', v, r', h1, h2, h3, h4⟩, e => by
    subst h1
    simp only [List.getElem?_cons_zero, Option.some.injEq] at e
    subst e
    exact ⟨c', v, rfl, h2⟩
  | (k, y) :: r, _, i + 1, p, ⟨c', v, r', h1, h2, h3, h4⟩, e => by
    subst h1
    simp only [List.getElem?_cons_succ] at e ⊢
    exact RelK.at h4 e
theorem rel_key {S : Sc} {ρ : Rho} {H : Hp} {a : A} {c : Key} (e : keyOf a = some c) : Rel S ρ H a (kV c) := by
  cases a <;> first | (cases e; rfl) | cases e
theorem keys_at {S : Sc} {ρ : Rho} {H ρ' H'} {h' : Hh} {l : Bn} {d : Addr} {o : Obj} {us : List (Key × V)} {oi : Option A} {i : Nat} (hl : ρ l = some d) (hd : H d = some (.frz o (.dK us))) (e : Ext S ρ H ρ' H') (R : Rep S ρ' h' H') (q : (Jt.keys l).at i h' = some oi) :
    ∃ kvs, oi = kvs[i]?.map (·.1) ∧ H' d = some (.frz o (.dK us)) ∧ RelK S ρ' H' kvs us := by
  unfold Jt.at at q
  dsimp only at q
  split at q
  · rename_i kvs g
    obtain ⟨a', e3, o', us', e4, e5⟩ := R.cell l _ g
    rw [e.le _ _ hl] at e3
    cases e3
    have z := e.fz _ _ _ hd
    rw [z] at e4
    cases e4
    exact ⟨kvs, (Option.some.inj q).symm, z, e5⟩
  · cases q
theorem j_keys {S : Sc} {ρ : Rho} {H : Hp} {l : Bn} {d : Addr} {o : Obj} {us : List (Key × V)} (hl : ρ l = some d) (hd : H d = some (.frz o (.dK us))) : JOk S ρ H (.keys l) (Itk d o us) where
  stop := fun {ρ' h' H' i} e R q => by
    obtain ⟨kvs, e1, e2, e3⟩ := keys_at hl hd e R q
    refine ⟨e2, ?_⟩
    rw [RelK.length e3]
    cases z : kvs[i]? with
    | none => exact List.getElem?_eq_none_iff.mp z
    | some p => rw [z] at e1; cases e1
  step := fun {ρ' h' H' i x} e R q => by
    obtain ⟨kvs, e1, e2, e3⟩ := keys_at hl hd e R q
    cases z : kvs[i]? with
    | none => rw [z] at e1; cases e1
    | some p =>
      rw [z] at e1
      cases e1
      obtain ⟨c, v, e4, e5⟩ := RelK.at e3 z
      refine ⟨⟨e2, ?_⟩, fun w H2 y => ?_⟩
      · exact (List.getElem?_eq_some_iff.mp e4).1
      · obtain ⟨rfl, c', v', y1, y2⟩ := y
        rw [e4] at y1
        cases y1
        rw [y2]
        exact ⟨Ext.refl, R, rel_key e5⟩
theorem j_zpT {S : Sc} {ρ : Rho} {H : Hp} {xs ys : List A} {vs us : List V} {a b : Addr} (h1 : SqT S.K H a vs) (h2 : Rels S ρ H xs vs) (h3 : SqT S.K H b us) (h4 : Rels S ρ H ys us) : JOk S ρ H (.zpT xs ys) (RZ.ItzT S.K a b) where
  stop := fun {ρ' h' H' i} e R q => by
    refine ⟨vs, us, e.tu _ _ h1, e.tu _ _ h3, ?_⟩
    rcases pair_none (Option.some.inj q) with z | z
    · exact .inl (none_le h2 z)
    · exact .inr (none_le h4 z)
  step := fun {ρ' h' H' i x} e R q => by
    obtain ⟨x1, x2, z1, z2, rfl⟩ := pair_some (Option.some.inj q)
    obtain ⟨v0, k1, k2⟩ := Rels.getA h2 z1
    obtain ⟨u0, k3, k4⟩ := Rels.getA h4 z2
    refine ⟨⟨vs, us, v0, u0, e.tu _ _ h1, e.tu _ _ h3, k1, k3⟩, fun v H2 yy => ?_⟩
    obtain ⟨T, y1, y2, rfl, nT, rfl, w1, w2⟩ := yy
    have e2 := w1 vs (e.tu _ _ h1)
    have e3 := w2 us (e.tu _ _ h3)
    rw [k1] at e2
    rw [k3] at e3
    cases e2
    cases e3
    exact ⟨Ext.more nT, R.more nT, ⟨T, [v0, u0], rfl, .inl (.inl upd_same), ⟨v0, [u0], rfl, (k2.mono e).mono (Ext.more nT), u0, [], rfl, (k4.mono e).mono (Ext.more nT), rfl⟩⟩⟩
end
end EV
set_option Elab.async false
set_option linter.all false
set_option maxRecDepth 100000
set_option maxHeartbeats 4000000
namespace EV
open PySem PySem.Spec PyProof.Rows L2 ER
def JW (S : Sc) (ρ : Rho) (H : Hp) (R : L2.It → Hp → Prop) (oj : Option Jt) (h' : Hh) : Prop := ∀ ρ' H', Ext S ρ H ρ' H' → Rep S ρ' h' H' → ∃ j, oj = some j ∧ ∀ J, JOk S ρ' H' j J → R J H'
def iA (S : Sc) (E : XK) (ev : Sl → Hh → Out (Option Jt)) : TI := fun σ H R => ∃ ρ h s, Rep S ρ h H ∧ RelS S ρ H s σ ∧ (ev s h).All (JW S ρ H R) (XW S ρ H E)
section
variable {B : Bs} {k : Nat} {r : Rec} {c : Cc} {X : Cx} {E : XK} {call : Nat → List A → Hh → Out A}
/-- a list or a tuple -/
def iSeq (K : PySem.W.Frag) (tl : TE) : TI := fun σ H R => tl σ H fun x H1 => (∃ a, x = .ref a ∧ (∃ xs, SqL K H1 a xs) ∧ R (Itl K a) H1) ∨ (∃ a, x = .ref a ∧ (∃ xs, SqT K H1 a xs) ∧ R (Itt K a) H1) ∨ ∃ d o kvs, x = .ref d ∧ H1 d = some (.frz o (.dK kvs)) ∧ R (Itk d o kvs) H1
theorem pi_seq {tg l : Expr} {tl : TE} (hl : PE X l tl) : PI X tg l (iSeq X.K tl) := by
  refine ⟨fun pins s σ H R I h => ?_⟩
  refine thn (hl.run pins s σ H _ I h) fun v s1 ⟨x, H1, I1, r1, q1⟩ => ?_
  have fin : ∀ b, b ∈ [s1.heap.objs.size] → FpOk X pins H1 b := fun b hb => by
    have e : b = s1.heap.objs.size := by simpa using hb
    subst e
    exact I1.fpOk (Nat.le_refl _) (I1.hok.fresh (Nat.le_refl _))
  rcases q1 with ⟨a, e, ⟨xs, hq⟩, q⟩ | ⟨a, e, ⟨xs, hq⟩, q⟩ | ⟨d, o, kvs, e, hd, q⟩
  · subst e
    cases r1
    obtain ⟨its, rv, p, hz⟩ := I1.list hq
    refine wpAny_pyIter_list p.isList ?_
    exact ⟨s1.heap.objs.size, [s1.heap.objs.size], _, _, H1, rfl, I1.kept (t' := s1.toks) fun b o e => Heap.get?_push_of_some _ e, turn_list a _, ⟨_, Heap.get?_push_size _ rfl, rfl, rfl⟩, fin, q⟩
  · subst e
    cases r1
    obtain ⟨its, rv, p, hz⟩ := I1.tuple hq
    refine wpAny_pyIter_tuple p ?_
    exact ⟨s1.heap.objs.size, [s1.heap.objs.size], _, _, H1, rfl, I1.kept (t' := s1.toks) fun b o e => Heap.get?_push_of_some _ e, turn_tuple a _, ⟨_, Heap.get?_push_size _ rfl, rfl, rfl⟩, fin, q⟩
  · subst e
    cases r1
    obtain ⟨hs, hgd, hx, es, ep, vs, hdt, hsz, kv, hm⟩ := I1.frzK hd
    refine iter_keys hs hgd hx hdt (pi_one (tk := s1.toks) I1 _ (turn_keys _ hdt) ⟨_, Heap.get?_push_size _ rfl, rfl, ?_⟩ q)
    rw [hsz] <;> rfl
theorem p_it (BO : BOk B) (O : Ok B k c X E) (I : Snd B k r) {tg e : Expr} {it : EV.It} (h : Ci B.T c tg e it) : PI X tg e (iA B.S E (evIt r it)) := by
  cases h with
  | seq h1 =>
    refine PI.imp (pi_seq (I.pe O h1)) fun σ H R q => ?_
    rw [O.K]
    obtain ⟨ρ, h, s, Rp, rs, q⟩ := q
    refine ⟨ρ, h, s, Rp, rs, go q fun a h1 q1 ρ1 H1 v e1 R1 rv => ?_⟩
    split at q1
    · rename_i l
      split at q1
      · rename_i xs g
        obtain ⟨p, us, rfl, hp, hs, _⟩ := lst_at R1 rv g
        obtain ⟨j, ej, k⟩ := q1 ρ1 H1 e1 R1
        cases ej
        exact .inl ⟨p, rfl, ⟨us, SqL.of hs⟩, k _ (j_lst hp)⟩
      · rename_i kvs g
        obtain ⟨p, rfl, hp, o, us, hs, rus⟩ := cell_at R1 rv g
        obtain ⟨j, ej, k⟩ := q1 ρ1 H1 e1 R1
        cases ej
        exact .inr (.inr ⟨p, o, us, rfl, hs, k _ (j_keys hp hs)⟩)
      · exact q1.elim
    · obtain ⟨p, us, rfl, hs, rus⟩ := rv
      obtain ⟨j, ej, k⟩ := q1 ρ1 H1 e1 R1
      cases ej
      exact .inr (.inl ⟨p, rfl, ⟨us, hs⟩, k _ (j_tup hs rus)⟩)
    · exact q1.elim
  | rng h1 h2 h3 h4 =>
    refine PI.imp (pi_range1 (O.gl h1) (O.fr BO h2) (pa_cons (I.pe O h4) pa_nil (star_cons h3)) (star_cons h3)) fun σ H R q => ?_
    obtain ⟨ρ, h, s, Rp, rs, q⟩ := q
    refine ⟨ρ, h, s, Rp, rs, go q fun a h1 q1 ρ1 H1 v e1 R1 rv => ?_⟩
    split at q1
    · rename_i i
      split at q1
      · rename_i hi
        obtain ⟨j, ej, k⟩ := q1 ρ1 H1 e1 R1
        cases ej
        exact ⟨i, by rw [show v = V.int i from rv], by omega, by omega, k _ j_rng⟩
      · exact q1.elim
    · exact q1.elim
  | enm h1 h2 h3 h4 =>
    refine PI.imp (pi_enum (O.gl h1) (O.fr BO h2) (pa_cons (I.pe O h4) pa_nil (star_cons h3)) (star_cons h3)) fun σ H R q => ?_
    rw [O.K]
    obtain ⟨ρ, h, s, Rp, rs, q⟩ := q
    refine ⟨ρ, h, s, Rp, rs, go q fun a h1 q1 ρ1 H1 v e1 R1 rv => ?_⟩
    split at q1
    · rename_i l
      split at q1
      · rename_i xs g
        obtain ⟨p, us, rfl, hp, hs, _⟩ := lst_at R1 rv g
        obtain ⟨j, ej, k⟩ := q1 ρ1 H1 e1 R1
        cases ej
        exact ⟨p, us, rfl, SqL.of hs, k _ (j_enm hp)⟩
      · exact q1.elim
    · exact q1.elim
  | zp h1 h2 h3 h4 h5 h6 =>
    refine PI.imp (RZ.pi_zipA (O.gl h1) (O.fr BO h2) (pa_cons (I.pe O h5) (pa_cons (I.pe O h6) pa_nil (star_cons h4)) (star_cons h3)) (star_cons h3) (by rw [star_cons h4]; rfl)) fun σ H R q => ?_
    rw [O.K]
    obtain ⟨ρ, h, s, Rp, rs, q⟩ := q
    refine ⟨ρ, h, s, Rp, rs, go q fun a h1 q1 ρ1 H1 v e1 R1 rv => ?_⟩
    refine ⟨ρ1, h1, s, R1, rs.mono e1, go (all_mono e1 (fun _ _ y => y) q1) fun b h2 q2 ρ2 H2 w e2 R2 rw => ?_⟩
    split at q2
    · rename_i l m
      split at q2
      · rename_i xs ys g1 g2
        obtain ⟨p, us, rfl, hp, hs, _⟩ := lst_at R2 (rv.mono e2) g1
        obtain ⟨p', us', rfl, hp', hs', _⟩ := lst_at R2 rw g2
        obtain ⟨j, ej, k⟩ := q2 ρ2 H2 (e1.trans e2) R2
        cases ej
        exact ⟨p, p', us, us', rfl, .inl ⟨SqL.of hs, SqL.of hs', k _ (j_zp hp hp')⟩⟩
      · exact q2.elim
    · obtain ⟨p, us, rfl, hs, rus⟩ := rv.mono e2
      obtain ⟨p', us', rfl, hs', rus'⟩ := rw
      obtain ⟨j, ej, k⟩ := q2 ρ2 H2 (e1.trans e2) R2
      cases ej
      exact ⟨p, p', us, us', rfl, .inr ⟨hs, hs', k _ (j_zpT hs rus hs' rus')⟩⟩
    · exact q2.elim
/-! ### for -/
theorem q_for {t : Tg} {it : EV.It} {b : List Sm} {D : Ends} {σ : L2.St} {H : Hp} (q : tSs B.S E (stepS r (.for t it b)) D σ H) : tFor (iA B.S E (evIt r it)) (gTg B.S t) (tSs B.S E (r.ss b)) D σ H := by
  obtain ⟨ρ, h, s, Rp, rs, q⟩ := q
  refine ⟨ρ, h, s, Rp, rs, go q fun oj h1 q1 ρ1 H1 e1 R1 => ?_⟩
  cases oj with
  | none => exact q1.elim
  | some j =>
    refine ⟨j, rfl, fun J hJ => ?_⟩
    refine ⟨fun i m σ' H' => ∃ ρ2 h2 s2, Ext B.S ρ1 H1 ρ2 H' ∧ Rep B.S ρ2 h2 H' ∧ RelS B.S ρ2 H' s2 σ' ∧ (evFor r j t b m i s2 h2).All (FW B.S ρ2 H' D) (XW B.S ρ2 H' E), ⟨turns, ρ1, h1, s, Ext.refl, R1, rs.mono e1, all_mono e1 (fun _ _ y => y.mono e1) q1⟩, ?_⟩
    rintro i m σ' H' ⟨ρ2, h2, s2, e2, R2, rs2, q2⟩
    cases m with
    | zero => exact q2.elim
    | succ m =>
      unfold evFor at q2
      split at q2
      · exact q2.elim
      · rename_i ej
        exact .inl ⟨hJ.stop e2 R2 ej, q2 ρ2 H' Ext.refl R2 σ' rs2⟩
      · rename_i x ej
        obtain ⟨g1, g2⟩ := hJ.step e2 R2 ej
        split at q2
        · exact q2.elim
        · rename_i s3 et
          refine .inr ⟨g1, fun σ4 H4 => ∃ ρ4 h4 s4, Ext B.S ρ1 H1 ρ4 H4 ∧ Rep B.S ρ4 h4 H4 ∧ RelS B.S ρ4 H4 s4 σ4 ∧ (evFor r j t b m (i + 1) s4 h4).All (FW B.S ρ4 H4 D) (XW B.S ρ4 H4 E), fun σ4 H4 z => ⟨m, Nat.lt_succ_self m, z⟩, fun v H3 y => ?_⟩
          obtain ⟨e3, R3, rv⟩ := g2 v H3 y
          refine ⟨ρ2, s2, x, s3, rs2.mono e3, rv, et, fun σ3 rs3 _ => ?_⟩
          refine ⟨ρ2, h2, s3, R3, rs3, go (all_mono e3 (fun _ _ y => y) q2) fun f h5 q5 ρ5 H5 e5 R5 => ?_⟩
          cases f with
          | nx s5 => exact fun σ5 rs5 => ⟨ρ5, h5, s5, e2.trans (e3.trans e5), R5, rs5, all_mono e5 (fun _ _ y => (y.mono e3).mono e5) q5⟩
          | ct s5 => exact fun σ5 rs5 => ⟨ρ5, h5, s5, e2.trans (e3.trans e5), R5, rs5, all_mono e5 (fun _ _ y => (y.mono e3).mono e5) q5⟩
          | bk s5 => exact fun σ5 rs5 => q5 ρ5 H5 (e3.trans e5) R5 σ5 rs5
          | rt a => exact fun v rv => q5 ρ5 H5 (e3.trans e5) R5 v rv
/-! ### comprehensions -/
theorem look_rel {env : Env} : ∀ {names : List (Str × NameKind)} {x : Str} {kd : NameKind}, names.lookup x = some kd →
    (names.map fun (n, k) => if (k == NameKind.free && env.scope.kind == .function && env.kindOf n == some .cell) then (n, NameKind.cell) else (n, k)).lookup x = some (if (kd == NameKind.free && env.scope.kind == .function && env.kindOf x == some .cell) = true then .cell else kd)
  | [], _, _, h => by simp at h
  | (n, kn) :: rest, x, kd, h => by
    show List.lookup x ((if (kn == NameKind.free && env.scope.kind == .function && env.kindOf n == some .cell) = true then (n, NameKind.cell) else (n, kn)) :: _) = _
    cases hx : x == n with
    | true =>
      simp only [List.lookup_cons, hx] at h
      cases h
      have exn := eq_of_beq hx
      subst exn
      by_cases hc : (kn == NameKind.free && env.scope.kind == .function && env.kindOf x == some .cell) = true
      · rw [if_pos hc, if_pos hc]; simp [List.lookup_cons]
      · rw [if_neg hc, if_neg hc]; simp [List.lookup_cons]
    | false =>
      simp only [List.lookup_cons, hx] at h
      by_cases hc : (kn == NameKind.free && env.scope.kind == .function && env.kindOf n == some .cell) = true
      · rw [if_pos hc]; simp only [List.lookup_cons, hx]; exact look_rel h
      · rw [if_neg hc]; simp only [List.lookup_cons, hx]; exact look_rel h
theorem ok_blk (O : Ok B k c X E) {scope : Scope} {s : Shared} {H : Hp} {C : Addr} {cl : List (Str × Addr)} {fp : List Addr} : Ok B k ⟨c.N, scope, none⟩ (X.blk s H scope (compEnvC scope cl C X.env) fp) E0 where
  P := O.P
  w := O.w
  K := O.K
  mg := O.mg
  bs := O.bs
  N := O.N
  nd := O.nd
  calm := O.calm
  room := O.room
  r2 := O.r2
  pass := passL
  tk := LamX.takes0
  own := PassesOwn.never
  loc := fun x h => by
    have z := look_rel (env := X.env) h
    rw [if_neg (by simp)] at z
    exact z
  cell := fun x h => by
    have z := look_rel (env := X.env) h
    rw [if_neg (by simp)] at z
    exact ⟨z, by show (scope.names.lookup x == some .cell) = true; rw [show scope.names.lookup x = some .cell from h]; rfl⟩
  free := fun x h => by
    have z := look_rel (env := X.env) h
    by_cases hc : (NameKind.free == NameKind.free && X.env.scope.kind == .function && X.env.kindOf x == some .cell) = true
    · rw [if_pos hc] at z; exact .inl z
    · rw [if_neg hc] at z; exact .inr z
  gi := fun x h => by
    have z := look_rel (env := X.env) h
    rw [if_neg (by simp)] at z
    exact z
  qual := fun q h => nomatch h
theorem blk_ok (O : Ok B k c X E) {scope : Scope} {own : List (Str × Nat)} (h : blkC c.N c.sc scope own = true) : BlkOk X.N X.env.scope scope own := by
  obtain ⟨a1, a2, a3, a4, a5⟩ := blkOk_by h
  rw [O.N]
  refine ⟨a1, a2, a3, fun y hy e => ?_, a5⟩
  rcases a4 y hy e with z | z
  · exact .inl (O.cell _ z).1
  · exact O.free _ z
theorem wipe_rel {S : Sc} {ρ : Rho} {H : Hp} {s : Sl} {σ : L2.St} (rs : RelS S ρ H s σ) : ∀ vs : List Nat, RelS S ρ H (wipeA s vs) (wipe σ vs)
  | [] => rs
  | v :: vs => by
    have ih := wipe_rel rs vs
    refine ⟨by unfold wipeA wipe; rw [List.length_set, List.length_set]; exact ih.1, fun i x h => ?_⟩
    unfold wipeA at h
    unfold wipe
    by_cases e : v = i
    · subst e
      by_cases hv : v < (wipeA s vs).length
      · rw [List.getElem?_set_self hv] at h; cases h
      · rw [List.getElem?_eq_none (by rw [List.length_set]; omega)] at h; cases h
    · rw [List.getElem?_set_ne e] at h ⊢
      exact ih.2 i x h
theorem wipe_at {σ : L2.St} : ∀ {vs : List Nat} {i : Nat}, (wipe σ vs)[i]? = if i ∈ vs then (if i < σ.length then some none else none) else σ[i]?
  | [], i => by simp [wipe]
  | v :: vs, i => by
    unfold wipe
    by_cases e : v = i
    · subst e
      rw [if_pos (List.mem_cons_self ..)]
      by_cases hv : v < σ.length
      · rw [if_pos hv, List.getElem?_set_self (by rw [wipe_length]; exact hv)]
      · rw [if_neg hv, List.getElem?_eq_none (by rw [List.length_set, wipe_length]; omega)]
    · rw [List.getElem?_set_ne e, wipe_at]
      by_cases hm : i ∈ vs
      · rw [if_pos hm, if_pos (List.mem_cons_of_mem _ hm)]
      · rw [if_neg hm, if_neg (by intro z; rcases List.mem_cons.mp z with z | z; exact e z.symm; exact hm z)]
theorem wipe_but {vs ws : List Nat} {σ σ2 : L2.St} (b : But ws (wipe σ vs) σ2) (hw : ∀ i ∈ ws, i ∈ vs) : wipe σ2 vs = wipe σ vs := by
  have hl : σ2.length = σ.length := by rw [b.1, wipe_length]
  apply List.ext_getElem?
  intro i
  rw [wipe_at, wipe_at, hl]
  by_cases hm : i ∈ vs
  · rw [if_pos hm, if_pos hm]
  · rw [if_neg hm, if_neg hm, b.2 i fun z => hm (hw i z), wipe_at, if_neg hm]
end
end EV
set_option Elab.async false
set_option linter.all false
set_option maxRecDepth 100000
set_option maxHeartbeats 4000000
namespace EV
open PySem PySem.Spec PyProof.Rows L2 ER
section
variable {B : Bs} {k : Nat} {r : Rec} {c : Cc} {X : Cx} {E : XK} {call : Nat → List A → Hh → Out A}
theorem PTs.imp {X : Cx} {e : List Expr} {t t' : TT} (h : PTs X e t) (k : ∀ σ H Q, t' σ H Q → t σ H Q) : PTs X e t' := ⟨fun pins s σ H Q I q => h.run pins s σ H Q I (k _ _ _ q)⟩
theorem p_conds (O : Ok B k c X E0) (I : Snd B k r) : ∀ {ifs : List Expr} {cs : List EV.E}, Cps B.T c ifs cs → cs.length ≤ 1 → PTs X ifs (tT B.S E0 (evConds r cs))
  | _, _, .nil, _ => PTs.imp pts_nil fun σ H Q q => by
    obtain ⟨ρ, h, s, R, rs, q⟩ := q
    obtain ⟨b, e, k⟩ := q
    cases e
    exact k ρ H Ext.refl R
  | _, _, .cons h1 h2 .nil, _ => PTs.imp (pts_one (I.pt O h2)) fun σ H Q q => by
    obtain ⟨ρ, h, s, R, rs, q⟩ := q
    exact ⟨ρ, h, s, R, rs, Out.all_nox q⟩
  | _, _, .cons h1 h2 (.cons h3 h4 h5), hl => by
    simp at hl
theorem nox_nox {α : Type} {P : α → Hh → Prop} {X X' : Nat → List (Str × A) → Hh → Prop} : ∀ {m : Out α}, m.nox.All P X → m.nox.All P X'
  | .ok a h, q => q
  | .exc C fs h, q => q
  | .bad, q => q
  | .pick n k, q => fun r hr => nox_nox (q r hr)
theorem conds_nox {cs : List EV.E} {s : Sl} {h : Hh} {P : A → Hh → Prop} {X X' : Nat → List (Str × A) → Hh → Prop} (q : (evConds r cs s h).All P X) : (evConds r cs s h).All P X' := by
  cases cs with
  | nil => exact q
  | cons c0 cr => cases cr with
    | nil => exact nox_nox q
    | cons _ _ => exact q.elim
theorem q_comp {x : EV.E} {t : Tg} {it : EV.It} {cs : List EV.E} {own : List Nat} (hs : ∀ i ∈ slotsT t, i ∈ own) {σ : L2.St} {H : Hp} {Q : VK} {kit : Kit} (q : tE B.S E (stepE kit call r (.comp x t it cs own)) σ H Q) :
    tLc (iA B.S E (evIt r it)) (gTg B.S t) (tT B.S E0 (evConds r cs)) (tE B.S E0 (r.e x)) own σ H Q := by
  obtain ⟨ρ, h, s, Rp, rs, q⟩ := q
  refine ⟨ρ, h, s, Rp, rs, go q fun oj h1 q1 ρ1 H1 e1 R1 => ?_⟩
  cases oj with
  | none => exact q1.elim
  | some j =>
    refine ⟨j, rfl, fun J hJ D hD => ?_⟩
    have eN : Ext B.S ρ1 H1 (rhoNew ρ1 h1.nx D) (upd H1 D (.lst [])) := Ext.new R1 hD
    refine ⟨fun i m H' => ∃ ρ2 h2, Ext B.S (rhoNew ρ1 h1.nx D) (upd H1 D (.lst [])) ρ2 H' ∧ Rep B.S ρ2 h2 H' ∧ (evComp r j t cs x (wipeA s own) h1.nx m i h2).All (QW B.S ρ2 H' Q) (XW B.S ρ2 H' E), ⟨turns, _, h1.new (.lst []), Ext.refl, R1.new hD ⟨[], upd_same, rfl⟩, all_mono (e1.trans eN) (fun _ _ y => (y.mono e1).mono eN) q1⟩, ?_⟩
    rintro i m H' ⟨ρ2, h2, e2, R2, q2⟩
    have e02 : Ext B.S ρ1 H1 ρ2 H' := eN.trans e2
    have hd2 : ρ2 h1.nx = some D := e2.le _ _ (by unfold rhoNew; rw [if_pos rfl])
    have rs2 : RelS B.S ρ2 H' (wipeA s own) (wipe σ own) := (wipe_rel (rs.mono e1) own).mono e02
    cases m with
    | zero => exact q2.elim
    | succ m =>
      unfold evComp at q2
      split at q2
      · exact q2.elim
      · rename_i ej
        exact .inl ⟨hJ.stop e02 R2 ej, q2 ρ2 H' _ Ext.refl R2 ⟨D, hd2, rfl⟩⟩
      · rename_i y ej
        obtain ⟨g1, g2⟩ := hJ.step e02 R2 ej
        split at q2
        · exact q2.elim
        · rename_i s3 et
          refine .inr ⟨g1, fun H4 => ∃ ρ4 h4, Ext B.S (rhoNew ρ1 h1.nx D) (upd H1 D (.lst [])) ρ4 H4 ∧ Rep B.S ρ4 h4 H4 ∧ (evComp r j t cs x (wipeA s own) h1.nx m (i + 1) h4).All (QW B.S ρ4 H4 Q) (XW B.S ρ4 H4 E), fun H4 z => ⟨m, Nat.lt_succ_self m, z⟩, fun v H3 yy => ?_⟩
          obtain ⟨e3, R3, rv⟩ := g2 v H3 yy
          refine ⟨ρ2, wipeA s own, y, s3, rs2.mono e3, rv, et, fun σ3 rs3 bt => ⟨wipe_but bt hs, ?_⟩⟩
          have q3' := conds_nox (X' := XW B.S ρ2 H3 E0) (Out.all_bind (all_mono e3 (fun _ _ y => y) q2))
          refine ⟨ρ2, h2, s3, R3, rs3, q3'.mono (fun b h3 q4 => ?_) fun _ _ _ y => y⟩
          split at q4
          · refine ⟨true, rfl, fun ρ3 H5 e5 R5 => ?_⟩
            simp only [if_true]
            refine ⟨ρ3, h3, s3, R5, rs3.mono e5, ?_⟩
            have q5 := Out.all_bind (all_mono e5 (fun _ _ y => y) q4)
            refine (Out.all_nox q5).mono (fun z h4 q6 ρ4 H6 w e6 R6 rw6 => ?_) fun _ _ _ y => y
            split at q6
            · rename_i acc ga
              split at q6
              · rename_i hlen
                have e26 : Ext B.S (rhoNew ρ1 h1.nx D) (upd H1 D (.lst [])) ρ4 H6 := (e2.trans e3).trans (e5.trans e6)
                have hd4 : ρ4 h1.nx = some D := e26.le _ _ (by unfold rhoNew; rw [if_pos rfl])
                obtain ⟨us, hus, rus⟩ := lst_at' R6 hd4 ga
                have eP : Ext B.S ρ4 H6 ρ4 (upd H6 D (.lst (us ++ [w]))) := Ext.put hus True.intro
                refine ⟨us, hus, ?_, ρ4, h4.put h1.nx (.lst (acc ++ [z])), e26.trans eP, R6.put hd4 hus True.intro ⟨us ++ [w], upd_same, Rels.append (Rels.mono eP rus) (Rels.one (rw6.mono eP))⟩, ?_⟩
                · rw [Rels.length rus]
                  exact Nat.lt_of_lt_of_le hlen (by decide)
                · exact all_mono (e6.trans eP) (fun _ _ y => (y.mono (e3.trans e5)).mono (e6.trans eP)) q6
              · exact q6.elim
            · exact q6.elim
          · refine ⟨false, rfl, fun ρ3 H5 e5 R5 => ?_⟩
            simp only [Bool.false_eq_true, if_false]
            exact ⟨ρ3, h3, (e2.trans e3).trans e5, R5, all_mono e5 (fun _ _ y => y.mono (e3.trans e5)) q4⟩
          · exact q4.elim
end
end EV
set_option Elab.async false
set_option linter.all false
set_option maxRecDepth 100000
set_option maxHeartbeats 4000000
namespace EV
open PySem PySem.Spec PyProof.Rows L2 ER
section
variable {B : Bs} {k : Nat} {r : Rec} {c : Cc} {X : Cx} {E : XK} {call : Nat → List A → Hh → Out A}
theorem e_bare (BO : BOk B) (O : Ok B k c X E) {f : Str} {n : Nat} {p pos : Pos} (h1 : kindIs c.sc f .globalImplicit = true) (h2 : B.T.gl.lookup f = some (.bare n)) (h3 : okName f = true) :
    PE X (.Call (.Name f p) [] [] pos) (tE B.S E (stepE B.T.kit call r (.err0 n))) := by
  obtain ⟨Ca, bmB, Bn, newId, initId, g, hm, F, hx, hk⟩ := BO.bare f n h2
  exact PE.imp (pe_bare F (by rw [O.K]; exact hx) (by rw [O.mg]; exact hm) (by rw [O.K]; exact hk) (O.gl h1) (okName_d h3).1) fun _ _ _ q => q_err0 g q
/-! ### a dict made: it stays as it is -/
def tFrz (t : TE) : TE := fun σ H Q => t σ H fun v H1 => ∃ a u, v = .ref a ∧ H1 a = some u ∧ Mut (some u) ∧ ∀ od, Q v (upd H1 a (.frz od u))
theorem pe_frz {e : Expr} {t : TE} (h : PE X e t) : PE X e (tFrz t) := by
  refine ⟨fun pins s σ H Q I hq => ?_⟩
  refine thn (h.run pins s σ H _ I hq) fun u s1 ⟨v, H1, I1, r1, a, o, e, hv, mu, q⟩ => ?_
  obtain ⟨od, I2⟩ := I1.lock hv mu
  exact ⟨v, _, I2, r1, q od⟩
theorem upd2 {H : Hp} {p : Addr} {o o' : HO} : upd (upd H p o) p o' = upd H p o' := by
  funext b
  by_cases e : b = p
  · rw [e, upd_same, upd_same]
  · rw [upd_ne e, upd_ne e, upd_ne e]
theorem e_dct {x : Str} {j j' : Nat} {p p' pos : Pos} : PE X (.Dict [some (.Constant (.str x) j p)] [.Constant .none j' p'] pos) (tE B.S E (stepE B.T.kit call r (.dct (.str x) .non))) := by
  refine PE.imp (pe_frz (pe_disp (pps_cons pe_str pe_non pps_nil) rfl rfl (by simp) (by show 1 ≤ 15; decide))) fun σ H Q q => ?_
  obtain ⟨ρ, h, s, R, rs, q⟩ := q
  intro a na
  refine ⟨upd_same, [(.inr x, .non)], rfl, by show 1 ≤ 15; decide, a, _, rfl, upd_same, True.intro, fun od => ?_⟩
  rw [upd2, upd2]
  exact q _ _ _ (Ext.new R na) (R.new na ⟨od, _, upd_same, .inr x, .non, [], rfl, rfl, rfl, rfl⟩) ⟨a, by unfold rhoNew; rw [if_pos rfl], rfl⟩
theorem e_lam (BO : BOk B) (O : Ok B k c X E) {q : Str} {n : Nat} {params : Arguments} {body : Expr} {scope : Scope} {pos : Pos} (h1 : c.q = some q) (h2 : B.T.lam n = some ⟨q ++ "<lambda>", params, body, scope⟩) (h3 : ∀ env, defaultsOf params env = ([], [])) (h4 : (scope.names.all fun y => !(y.2 == NameKind.free)) = true) :
    PE X (.Lambda params body scope pos) (tE B.S E (stepE B.T.kit call r (.lam n))) := by
  obtain ⟨hq, ca, P, hc, TB, hm, hu⟩ := O.qual q h1
  subst hq
  refine PE.imp (pe_lam TB hc hm hu (h3 _) fun y hy => ?_) fun σ H Q q => ?_
  · have z := List.all_eq_true.mp h4 y hy
    simpa using z
  · obtain ⟨ρ, h, s, R, rs, q⟩ := q
    refine ⟨BO.tabs _ H R.fo, fun H1 f ca eN T1 nf nf1 hco => ?_⟩
    have eN2 : LamX.ExtN H (upd H1 f (LamO ⟨X.env.qual ++ "<lambda>", params, body, scope⟩ f ca)) := fun b o e n => by
      have z := eN b o e n
      rw [upd_ne (ne_of_none z nf1)]
      exact z
    have fo1 : B.S.Φ h.cnt (upd H1 f (LamO ⟨X.env.qual ++ "<lambda>", params, body, scope⟩ f ca)) := BO.lamF _ H _ R.fo eN2 (T1.ext fun b o e => by rw [upd_ne (ne_of_none e nf1)]; exact e)
    have hco2 : upd H1 f (LamO ⟨X.env.qual ++ "<lambda>", params, body, scope⟩ f ca) ca = some (LamX.CodeO ca (X.env.qual ++ "<lambda>")) := by rw [upd_ne (ne_of_none hco nf1)]; exact hco
    exact q _ _ _ (Ext.newN R eN2) (R.newN nf eN2 fo1 ⟨_, ca, BO.lamT _ _ h2, upd_same, hco2⟩) ⟨f, by unfold rhoNew; rw [if_pos rfl], rfl⟩
/-- a call of a local name: each lambda in turn -/
def tAnyLam (B : Bs) (call : Nat → List A → Hh → Out A) (i : Nat) (E : XK) (ta : TE) : TE := fun σ H Q => ∃ n t, B.T.lam n = some t ∧ tCallLam i t (spF B call n 1) E ta σ H Q
theorem e_callL (BO : BOk B) (CO : CallOk B k call) (O : Ok B k c X E) (I : Snd B k r) {x : Str} {i : Nat} {e : Expr} {y : EV.E} {p pos : Pos} (h1 : c.N[i]? = some x) (h2 : visB c.sc x = true) (h3 : okName x = true) (h4 : notStar e = true) (h5 : Cp B.T c e y) :
    PE X (.Call (.Name x p) [e] [] pos) (tE B.S E (stepE B.T.kit call r (.callL i y))) := by
  have key : PE X (.Call (.Name x p) [e] [] pos) (tAnyLam B call i E (tE B.S E (r.e y))) := by
    refine ⟨fun pins s σ H Q J hq => ?_⟩
    obtain ⟨n, t, hn, hq⟩ := hq
    have F : LamRun X.prog X.w X.K X.mg X.base k t (spF B call n 1) := by rw [O.P, O.w, O.K, O.mg, O.bs]; exact CO.lam n t hn
    exact (pe_callLam F O.room (by rw [O.N]; exact h1) (O.vis h2) O.pass (I.pe O h5) (okName_d h3).1 (okName_d h3).2 (star_cons h4)).run pins s σ H Q J hq
  refine PE.imp key fun σ H Q q => ?_
  obtain ⟨ρ, h, s, R, rs, q⟩ := q
  unfold stepE at q
  dsimp only at q
  split at q
  · rename_i l es
    split at q
    · rename_i n g
      obtain ⟨v, es1, rv⟩ := rs.2 i _ es
      obtain ⟨f, rfl, hf, t, ca, hn, hfo, hco⟩ := cell_at R rv g
      refine ⟨n, t, BO.lamS n t hn, f, es1, ⟨ca, hfo⟩, ρ, h, s, R, rs, go q fun a h1 q1 ρ1 H1 v1 e1 R1 rv1 => ?_⟩
      split at q1
      · rename_i m g1
        split at q1
        · rename_i em
          subst em
          obtain ⟨f2, ef, hf2, t2, ca2, hn2, hfo2, hco2⟩ := cell_at R1 (rv.mono e1) g1
          cases ef
          rw [hn] at hn2
          cases hn2
          exact ⟨ca2, hfo2, hco2, rfl, ρ1, h1, [a], R1, Rels.one rv1, all_mono e1 (fun _ _ y => y.mono e1) q1⟩
        · exact q1.elim
      · exact q1.elim
    · exact q.elim
  · exact q.elim
theorem ix_dict (hu : X.A.units + 1 < cLine) : IxR X rIxD := by
  intro a b pins s σ H x y v u Q I rx ry h hs
  obtain ⟨d, w, rfl, g, q⟩ := h
  cases rx
  have hT := dict_typeIs I g
  unfold subscriptTail
  refine wpAny_bind ?_
  rw [getitemInPython_of_ne hT.not_modules]
  refine wpAny_bind (wpAny_specialOf hT PySem.F.slot_dict_getitem.lookup ?_)
  have fin : wpAny (model X.prog X.w) X.A (subscripted b false (.ref d) u) (fun r s₃ => wpAny (model X.prog X.w) X.A (letTemporaryGo a (.ref d) r >>= fun _ => pure r) (EP X pins σ Q) X.xe s₃) X.xe s := by
    rw [hs]
    exact wpAny_operating (wpAny_mono (d_getItem (Q := EP X pins σ Q) hu I g ry fun w' s' I' r' => ⟨w, H, I', r', q⟩) (fun r s₃ h₃ => wpAny_bind (wpAny_letTemporaryGo (wpAny_pure h₃))) fun _ _ x => x)
  first
    | exact wpAny_pure (wpAny_bind fin)
    | exact wpAny_bind (wpAny_pure (wpAny_bind fin))
    | exact wpAny_bind fin
theorem e_idx (O : Ok B k c X E) (I : Snd B k r) {a b : Expr} {x y : EV.E} {pos : Pos} (h0 : (match b with | .Slice _ _ _ _ => false | .Tuple _ _ _ => false | _ => true) = true) (h1 : Cp B.T c a x) (h2 : Cp B.T c b y) : PE X (.Subscript a b pos) (tE B.S E (stepE B.T.kit call r (.idx x y))) := by
  have hu : X.A.units + 64 < cLine := O.room.units
  have hx : IxR X (fun v w H Q => (rIxL B.S.K v w H Q ∨ rIxT B.S.K v w H Q) ∨ rIxD v w H Q) := by
    rw [← O.K]
    exact IxR.or (IxR.or ix_list ix_tup) (ix_dict (by omega))
  refine PE.imp (pe_ix hx (I.pe O h1) (I.pe O h2) fun o i => ?_) fun σ H Q q => two idx_ok q
  cases h2 <;> rfl
end
end EV
set_option Elab.async false
set_option linter.all false
set_option maxRecDepth 100000
set_option maxHeartbeats 4000000
namespace EV
open PySem PySem.Spec PyProof.Rows L2 ER
section
variable {B : Bs} {k : Nat} {r : Rec} {c : Cc} {X : Cx} {E : XK} {call : Nat → List A → Hh → Out A}
theorem pl {e : Expr} {x : EV.E} (hp : plainT e = true) (h : PE X e (tE B.S E (stepE B.T.kit call r x))) : PE X e (tE B.S E (stepE B.T.kit call r x)) ∧ PT X e (tT B.S E (stepE B.T.kit call r x)) := ⟨h, pt_plain hp h⟩
theorem e_comp (BO : BOk B) (O : Ok B k c X E) (I : Snd B k r) {elt tg iter : Expr} {ifs : List Expr} {scope : Scope} {pos : Pos} {x : EV.E} {t : Tg} {it : EV.It} {cs : List EV.E} {own : List (Str × Nat)} (h1 : blkC c.N c.sc scope own = true) (h2 : (match iter with | .Set _ _ _ => false | _ => true) = true)
    (h3 : Ci B.T c tg iter it) (h4 : Ct ⟨c.N, scope, none⟩ tg t) (h5 : ((slotsT t).all fun i => (own.map (·.2)).contains i) = true) (h6 : Cps B.T ⟨c.N, scope, none⟩ ifs cs) (h7 : cs.length ≤ 1) (h8 : Cp B.T ⟨c.N, scope, none⟩ elt x) :
    PE X (.ListComp elt [⟨tg, iter, ifs, 0⟩] scope pos) (tE B.S E (stepE B.T.kit call r (.comp x t it cs (own.map (·.2))))) := by
  refine PE.imp (pe_lc O.calm (by rw [O.N]; exact O.nd) (p_it BO O I h3) (blk_ok O h1) (fun s H C cl fp => pg (ok_blk O) t h4) (fun s H C cl fp => p_conds (ok_blk O) I h6 h7) (fun s H C cl fp => I.pe (ok_blk O) h8) fun v => ?_) fun σ H Q q => q_comp (fun i hi => ?_) q
  · cases iter <;> first | rfl | cases h2
  · have z := List.all_eq_true.mp h5 i hi
    simpa using z
theorem e_of (BO : BOk B) (CO : CallOk B k call) (I : Snd B k r) (O : Ok B k c X E) {e : Expr} {x : EV.E} (h : Cp B.T c e x) : PE X e (tE B.S E (stepE B.T.kit call r x)) ∧ PT X e (tT B.S E (stepE B.T.kit call r x)) := by
  cases h with
  | var h1 h2 h3 => exact pl rfl (e_var O h1 h2 h3)
  | glob h1 h2 h3 h4 =>
    obtain ⟨C, v, rfl, g, hm⟩ := BO.glv _ _ _ h2 h3
    exact pl rfl (e_cst (pe_glob (O.gl h1) (by rw [O.mg]; exact hm) (v := .ref v) rfl (okName_d h4).1) fun ρ H => ⟨v, g, rfl⟩)
  | tyn h1 h2 h3 =>
    obtain ⟨z1, z2, z3⟩ := ty_boot h3
    exact pl rfl (e_cst (pe_bltn (O.gl h1) (O.fr BO h2) z1 (v := .ty _) rfl z2 z3) fun ρ H => rfl)
  | int => exact pl rfl (e_cst pe_int fun ρ H => rfl)
  | str => exact pl rfl (e_cst pe_str fun ρ H => rfl)
  | bl => exact pl rfl (e_cst pe_bl fun ρ H => rfl)
  | non => exact pl rfl (e_cst pe_non fun ρ H => rfl)
  | bin h1 h2 h3 => exact pl rfl (e_bin O I h1 h2 h3)
  | cmp h1 h2 h3 h4 => exact e_cmp O I h1 h2 h3 h4
  | isN h1 => exact e_isN O I h1
  | notN h1 => exact e_notN O I h1
  | and2 h1 h2 => exact ⟨PE.imp (pe_and (I.pe O h1) (pe_one (I.pe O h2))) fun _ _ _ q => q_and q, PT.imp (PW.pt (pw_and (I.pt O h1) (pw_and1 (I.pt O h2)))) fun _ _ _ q => t_and q⟩
  | andN h1 h2 => exact ⟨PE.imp (pe_and (I.pe O h1) (I.pe O h2)) fun _ _ _ q => q_and q, PT.imp (PW.pt (pw_and (I.pt O h1) (pw_of (I.pt O h2)))) fun _ _ _ q => t_and q⟩
  | or2 h1 h2 => exact ⟨PE.imp (pe_or (I.pe O h1) (pe_one (I.pe O h2))) fun _ _ _ q => q_or q, PT.imp (PW.pt (pw_or (I.pt O h1) (pw_or1 (I.pt O h2)))) fun _ _ _ q => t_or q⟩
  | orN h1 h2 => exact ⟨PE.imp (pe_or (I.pe O h1) (I.pe O h2)) fun _ _ _ q => q_or q, PT.imp (PW.pt (pw_or (I.pt O h1) (pw_of (I.pt O h2)))) fun _ _ _ q => t_or q⟩
  | not h1 => exact ⟨PE.imp (pe_not (I.pe O h1)) fun _ _ _ q => q_not q, PT.imp (pt_not (I.pt O h1)) fun _ _ _ q => t_not q⟩
  | neg => exact pl rfl (PE.imp (pe_un un_neg pe_int) fun σ H Q q => by
    obtain ⟨ρ, h, s, R, rs, q⟩ := q
    exact ⟨_, rfl, q ρ H _ Ext.refl R rfl⟩)
  | ife h1 h2 h3 => exact ⟨PE.imp (pe_ifExp (I.pt O h1) (I.pe O h2) (I.pe O h3)) fun _ _ _ q => q_ife q, PT.imp (pt_ifE (I.pt O h1) (I.pt O h2) (I.pt O h3)) fun _ _ _ q => t_ife q⟩
  | tup h1 => exact pl rfl (PE.imp (pe_tup (pas O I h1)) fun _ _ _ q => q_tup q)
  | lst h1 => exact pl rfl (PE.imp (pe_lst (pas O I h1)) fun _ _ _ q => q_lst q)
  | idx h0 h1 h2 => exact pl rfl (e_idx O I h0 h1 h2)
  | bi h1 h2 h3 h4 => exact pl rfl (e_bi BO O I h1 h2 h3 h4)
  | call h1 h2 h3 h4 => exact pl rfl (e_call CO O I h1 h2 h3 h4)
  | err h1 h2 h3 h4 h5 => exact pl rfl (e_err BO O I h1 h2 h3 h4 h5)
  | errK h1 h2 h3 h4 => exact pl rfl (e_errK BO O I h1 h2 h3 h4)
  | err0 h1 h2 h3 => exact pl rfl (e_err0 BO O h1 h2 h3)
  | bare h1 h2 h3 => exact pl rfl (e_bare BO O h1 h2 h3)
  | dct => exact pl rfl e_dct
  | lam h1 h2 h3 h4 => exact pl rfl (e_lam BO O h1 h2 h3 h4)
  | callL h1 h2 h3 h4 h5 => exact pl rfl (e_callL BO CO O I h1 h2 h3 h4 h5)
  | mt h1 h2 h3 h4 h5 h6 => exact pl rfl (e_mt O I h1 h2 h3 h4 h5 h6)
  | fld h1 h2 => exact pl rfl (e_fld BO O I h1 h2)
  | comp h1 h2 h3 h4 h5 h6 h7 h8 => exact pl rfl (e_comp BO O I h1 h2 h3 h4 h5 h6 h7 h8)
/-! ### statements -/
theorem sw_no {e : Expr} {tg : Option Expr} {l : Nat} {env : Env} (h : notComp e = true) : swapsWith e tg l env = pure false := by
  cases e <;> first | rfl | cases h
theorem q_asg {t : Tg} {x : EV.E} {D : Ends} {σ : L2.St} {H : Hp} {m : Sl → Hh → Out A} (q : tSs B.S E (fun s h => (m s h).bind fun a h1 => match evTg t a s with | some s1 => .ok (.nx s1) h1 | none => .bad) D σ H) : tAsg (tE B.S E m) (gTg B.S t) D σ H := by
  obtain ⟨ρ, h, s, R, rs, q⟩ := q
  refine ⟨ρ, h, s, R, rs, go q fun a h1 q1 ρ1 H1 v e1 R1 rv => ?_⟩
  split at q1
  · rename_i s1 et
    exact ⟨ρ1, s, a, s1, rs.mono e1, rv, et, fun σ' rs' _ => q1 ρ1 H1 e1 R1 σ' rs'⟩
  · exact q1.elim
theorem s_of (BO : BOk B) (CO : CallOk B k call) (I : Snd B k r) (O : Ok B k c X E) {st : Stmt} {x : Sm} (h : Cs B.T c st x) : PS X st (tSs B.S E (stepS r x)) := by
  cases h with
  | asg h1 h2 h3 h4 =>
    rename_i tg e t x pos
    have hst : (assignEach [tg] X.env).map (·.2) = [assign tg X.env] := by rw [tg_star h3]; rfl
    have hsw : swapsWithSole [tg] e pos.line X.env = pure false := sw_no h1
    have hss : swappedStores [tg] e X.env = pure none := by
      cases h3 with
      | nm _ _ => cases e <;> rfl
      | tp _ => cases e <;> first | rfl | cases h2
    exact PS.imp (ps_asg (I.pe O h4) (pg O t h3) hsw hss hst) fun D σ H q => q_asg (x := x) q
  | asgC g1 g2 g3 g4 h1 h2 h3 h4 h5 h6 h7 h8 =>
    rename_i y i elt tg iter ifs scope py pos spos x t it cs own
    have hyl : X.env.scope.names.lookup y = some .local := O.loc y (kindIs_ok g2)
    have lc : PS X (.Assign [.Name y py] (.ListComp elt [⟨tg, iter, ifs, 0⟩] scope pos) spos) (tAsg (tLc (iA B.S E (evIt r it)) (gTg B.S t) (tT B.S E0 (evConds r cs)) (tE B.S E0 (r.e x)) (own.map (·.2))) (gName i)) := by
      refine ⟨fun pins s σ H D J hq => ?_⟩
      exact (ps_setLc O.calm (by rw [O.N]; exact O.nd) (by rw [O.N]; exact g1) hyl (sw_true J.ok.kind hyl g3 g4) (p_it BO O I h3) (blk_ok O h1) (fun s H C cl fp => pg (ok_blk O) t h4) (fun s H C cl fp => p_conds (ok_blk O) I h6 h7) (fun s H C cl fp => I.pe (ok_blk O) h8) (fun v => by cases iter <;> first | rfl | cases h2)).run pins s σ H D J hq
    refine PS.imp lc fun D σ H q => q_comp (kit := B.T.kit) (call := call) (fun i hi => by simpa using List.all_eq_true.mp h5 i hi) ?_
    obtain ⟨ρ, h, s, R, rs, q⟩ := q
    exact ⟨ρ, h, s, R, rs, go q fun a h1 q1 ρ1 H1 v e1 R1 rv => q1 ρ1 H1 e1 R1 _ ((rs.mono e1).set rv)⟩
  | ex h1 h2 =>
    refine PS.imp (ps_expr (I.pe O h2) (sw_no h1)) fun D σ H q => ?_
    obtain ⟨ρ, h, s, R, rs, q⟩ := q
    exact ⟨ρ, h, s, R, rs, go q fun a h1 q1 ρ1 H1 v e1 R1 rv => q1 ρ1 H1 e1 R1 σ (rs.mono e1)⟩
  | ret h1 =>
    refine PS.imp (ps_ret (I.pe O h1)) fun D σ H q => ?_
    obtain ⟨ρ, h, s, R, rs, q⟩ := q
    exact ⟨ρ, h, s, R, rs, go q fun a h1 q1 ρ1 H1 v e1 R1 rv => q1 ρ1 H1 e1 R1 v rv⟩
  | ife h1 h2 h3 =>
    refine PS.imp (ps_if (I.pt O h1) (I.ss O h2) (I.ss O h3)) fun D σ H q => ?_
    obtain ⟨ρ, h, s, R, rs, q⟩ := q
    refine ⟨ρ, h, s, R, rs, go q fun a h1 q1 => ?_⟩
    split at q1
    · exact ⟨true, rfl, fun ρ1 H1 e1 R1 => by dsimp only; rw [if_pos rfl]; exact ⟨ρ1, h1, s, R1, rs.mono e1, all_mono e1 (fun _ _ y => y.mono e1) q1⟩⟩
    · exact ⟨false, rfl, fun ρ1 H1 e1 R1 => by dsimp only; rw [if_neg Bool.false_ne_true]; exact ⟨ρ1, h1, s, R1, rs.mono e1, all_mono e1 (fun _ _ y => y.mono e1) q1⟩⟩
    · exact q1.elim
  | «for» h0 h1 h2 h3 =>
    rename_i tg iter b t it bs pos
    exact PS.imp (ps_for O.own O.calm (p_it BO O I h1) (pg O t h2) (I.ss O h3) fun v => by cases iter <;> first | rfl | cases h0) fun D σ H q => q_for q
  | pass =>
    refine PS.imp ps_pass fun D σ H q => ?_
    obtain ⟨ρ, h, s, R, rs, q⟩ := q
    exact q ρ H Ext.refl R σ rs
theorem ss_of (BO : BOk B) (CO : CallOk B k call) (I : Snd B k r) (O : Ok B k c X E) {l : List Stmt} {xs : List Sm} (h : Css B.T c l xs) : PSs X l (tSs B.S E (stepSs r xs)) := by
  cases h with
  | nil =>
    refine PSs.imp pss_nil fun D σ H q => ?_
    obtain ⟨ρ, h, s, R, rs, q⟩ := q
    exact q ρ H Ext.refl R σ rs
  | cons h1 h2 =>
    refine PSs.imp (pss_cons (s_of BO CO I O h1) (I.ss O h2)) fun D σ H q => ?_
    obtain ⟨ρ, h, s, R, rs, q⟩ := q
    refine ⟨ρ, h, s, R, rs, go q fun f h1 q1 ρ1 H1 e1 R1 => ?_⟩
    cases f with
    | nx s1 => exact fun σ1 rs1 => ⟨ρ1, h1, s1, R1, rs1, all_mono e1 (fun _ _ y => y.mono e1) q1⟩
    | rt a => exact fun v rv => q1 ρ1 H1 e1 R1 v rv
    | bk s1 => exact fun σ1 rs1 => q1 ρ1 H1 e1 R1 σ1 rs1
    | ct s1 => exact fun σ1 rs1 => q1 ρ1 H1 e1 R1 σ1 rs1
theorem snd_evR (BO : BOk B) (CO : CallOk B k call) : ∀ n, Snd B k (evR B.T.kit call n)
  | 0 => ⟨fun O h => ⟨fun pins s σ H Q I q => by obtain ⟨_, _, _, _, _, q⟩ := q; exact q.elim⟩, fun O h => ⟨fun pins s σ H Q I q => by obtain ⟨_, _, _, _, _, q⟩ := q; exact q.elim⟩, fun O h => ⟨fun pins s σ H D I q => by obtain ⟨_, _, _, _, _, q⟩ := q; exact q.elim⟩⟩
  | n + 1 => ⟨fun O h => (e_of BO CO (snd_evR BO CO n) O h).1, fun O h => (e_of BO CO (snd_evR BO CO n) O h).2, fun O h => ss_of BO CO (snd_evR BO CO n) O h⟩
end
end EV
set_option Elab.async false
set_option linter.all false
set_option maxRecDepth 100000
set_option maxHeartbeats 4000000
namespace DV
open PySem PySem.Spec PyProof.Rows L2 ER EV
noncomputable section
/-! ### quick parts: by recursors, results laid out -/
def bnd {α β : Type} (m : Out α) (f : α → Hh → Out β) : Out β := Out.rec (motive := fun _ => Out β) (fun a h => f a h) (fun C fs h => .exc C fs h) .bad (fun n _ ih => .pick n ih) m
theorem all_bnd {α β : Type} {P : β → Hh → Prop} {X : Nat → List (Str × A) → Hh → Prop} {f : α → Hh → Out β} : ∀ {m : Out α}, (bnd m f).All P X → m.All (fun a h => (f a h).All P X) X
  | .ok _ _, q => q
  | .exc _ _ _, q => q
  | .bad, q => q
  | .pick _ _, q => fun r hr => all_bnd (q r hr)
theorem gob {S : Sc} {ρ : Rho} {H : Hp} {E : XK} {α β : Type} {m : Out α} {f : α → Hh → Out β} {P : β → Hh → Prop} {P' : α → Hh → Prop} (q : (bnd m f).All P (XW S ρ H E)) (k : ∀ a h1, (f a h1).All P (XW S ρ H E) → P' a h1) : m.All P' (XW S ρ H E) :=
  (all_bnd q).mono k fun _ _ _ y => y
section
variable {R : Type}
def frNat (n : Nat) (k : Nat → R) : R := Nat.rec (motive := fun _ => R) (k 0) (fun m _ => k (Nat.succ m)) n
theorem frNat_eq (n : Nat) (k : Nat → R) : frNat n k = k n := by cases n <;> rfl
def frInt (n : Int) (k : Int → R) : R := Int.rec (motive := fun _ => R) (fun n => frNat n fun n => k (.ofNat n)) (fun n => frNat n fun n => k (.negSucc n)) n
theorem frInt_eq (n : Int) (k : Int → R) : frInt n k = k n := by
  cases n with
  | ofNat n => exact frNat_eq n fun n => k (.ofNat n)
  | negSucc n => exact frNat_eq n fun n => k (.negSucc n)
def frB (b : Bool) (k : Bool → R) : R := Bool.rec (motive := fun _ => R) (k false) (k true) b
theorem frB_eq (b : Bool) (k : Bool → R) : frB b k = k b := by cases b <;> rfl
/-- the heap's tree -/
def getT (i : Bn) : Tr → Option Cell := Bn.rec (motive := fun _ => Tr → Option Cell) (fun t => Tr.rec (motive := fun _ => Option Cell) none (fun v _ _ _ _ => v) t) (fun _ ih t => Tr.rec (motive := fun _ => Option Cell) none (fun _ l _ _ _ => ih l) t) (fun _ ih t => Tr.rec (motive := fun _ => Option Cell) none (fun _ _ r _ _ => ih r) t) i
theorem getT_eq : ∀ (i : Bn) (t : Tr), getT i t = Tr.get i t
  | .z, .e => rfl
  | .z, .b _ _ _ => rfl
  | .s _, .e => rfl
  | .s i, .b _ l _ => getT_eq i l
  | .t _, .e => rfl
  | .t i, .b _ _ r => getT_eq i r
def putT (i : Bn) (c : Cell) : Tr → (Tr → R) → R := Bn.rec (motive := fun _ => Tr → (Tr → R) → R) (fun t k => Tr.rec (motive := fun _ => R) (k (.b (some c) .e .e)) (fun _ l r _ _ => k (.b (some c) l r)) t)
  (fun _ ih t k => Tr.rec (motive := fun _ => R) (ih .e fun l => k (.b none l .e)) (fun v l r _ _ => ih l fun l => k (.b v l r)) t) (fun _ ih t k => Tr.rec (motive := fun _ => R) (ih .e fun r => k (.b none .e r)) (fun v l r _ _ => ih r fun r => k (.b v l r)) t) i
theorem putT_eq (c : Cell) : ∀ (i : Bn) (t : Tr) (k : Tr → R), putT i c t k = k (Tr.put i c t)
  | .z, .e, _ => rfl
  | .z, .b _ _ _, _ => rfl
  | .s i, .e, _ => putT_eq c i .e _
  | .s i, .b _ l _, _ => putT_eq c i l _
  | .t i, .e, _ => putT_eq c i .e _
  | .t i, .b _ _ r, _ => putT_eq c i r _
def sucK (b : Bn) : (Bn → R) → R := Bn.rec (motive := fun _ => (Bn → R) → R) (fun k => k (.s .z)) (fun b _ k => k (.t b)) (fun _ ih k => ih fun b => k (.s b)) b
theorem sucK_eq : ∀ (b : Bn) (k : Bn → R), sucK b k = k b.suc
  | .z, _ => rfl
  | .s _, _ => rfl
  | .t b, _ => sucK_eq b _
def getH (h : Hh) (l : Bn) : Option Cell := Hh.rec (motive := fun _ => Option Cell) (fun _ t _ => getT l t) h
theorem getH_eq (h : Hh) (l : Bn) : getH h l = h.get l := getT_eq l h.t
def putH (h : Hh) (l : Bn) (c : Cell) (k : Hh → R) : R := Hh.rec (motive := fun _ => R) (fun nx t n => putT l c t fun t => k ⟨nx, t, n⟩) h
theorem putH_eq (h : Hh) (l : Bn) (c : Cell) (k : Hh → R) : putH h l c k = k (h.put l c) := by
  obtain ⟨nx, t, n⟩ := h
  exact putT_eq c l t _
def newH (h : Hh) (c : Cell) (k : Bn → Hh → R) : R := Hh.rec (motive := fun _ => R) (fun nx t n => putT nx c t fun t => sucK nx fun m => k nx ⟨m, t, n⟩) h
theorem newH_eq (h : Hh) (c : Cell) (k : Bn → Hh → R) : newH h c k = k h.nx (h.new c) := by
  obtain ⟨nx, t, n⟩ := h
  show putT nx c t (fun t => sucK nx fun m => k nx ⟨m, t, n⟩) = _
  rw [putT_eq, sucK_eq]
  rfl
/-- lists -/
def catK {β : Type} (xs ys : List β) : (List β → R) → R := List.rec (motive := fun _ => (List β → R) → R) (fun k => k ys) (fun x _ ih k => ih fun r => k (x :: r)) xs
theorem catK_eq {β : Type} (ys : List β) : ∀ (xs : List β) (k : List β → R), catK xs ys k = k (xs ++ ys)
  | [], _ => rfl
  | _ :: xs, _ => catK_eq ys xs _
def lenK {β : Type} (s : List β) : Nat → (Nat → R) → R := List.rec (motive := fun _ => Nat → (Nat → R) → R) (fun n k => k n) (fun _ _ ih n k => frNat (Nat.succ n) fun n => ih n k) s
theorem lenK_eq {β : Type} : ∀ (s : List β) (n : Nat) (k : Nat → R), lenK s n k = k (n + s.length)
  | [], _, _ => rfl
  | _ :: s, n, k => by
    show frNat (Nat.succ n) (fun n => lenK s n k) = _
    rw [frNat_eq, lenK_eq s]
    congr 1
    rw [List.length_cons]
    omega
end
def nth {β : Type} (s : List β) : Nat → Option β := List.rec (motive := fun _ => Nat → Option β) (fun _ => none) (fun x _ ih i => Nat.rec (motive := fun _ => Option β) (some x) (fun i _ => ih i) i) s
theorem nth_eq {β : Type} : ∀ (s : List β) (i : Nat), nth s i = s[i]?
  | [], i => by simp [nth]
  | x :: _, 0 => rfl
  | _ :: s, i + 1 => by
    show nth s i = _
    rw [nth_eq s i, List.getElem?_cons_succ]
/-- slots -/
def slot (s : Sl) : Nat → Option A := List.rec (motive := fun _ => Nat → Option A) (fun _ => none) (fun x _ ih i => Nat.rec (motive := fun _ => Option A) x (fun i _ => ih i) i) s
theorem slot_ok : ∀ {s : Sl} {i : Nat} {a : A}, slot s i = some a → s[i]? = some (some a)
  | [], _, _, h => nomatch (show (none : Option A) = some _ from h)
  | x :: _, 0, a, h => by
    have h : x = some a := h
    rw [h]
    rfl
  | _ :: s, i + 1, _, h => by
    rw [List.getElem?_cons_succ]
    exact slot_ok (s := s) h
def setK {R : Type} (s : Sl) (a : A) : Nat → (Sl → R) → R := List.rec (motive := fun _ => Nat → (Sl → R) → R) (fun _ k => k []) (fun x r ih i k => Nat.rec (motive := fun _ => R) (k (some a :: r)) (fun i _ => ih i fun r => k (x :: r)) i) s
theorem setK_eq {R : Type} (a : A) : ∀ (s : Sl) (i : Nat) (k : Sl → R), setK s a i k = k (s.set i (some a))
  | [], _, _ => rfl
  | _ :: _, 0, _ => rfl
  | _ :: s, i + 1, k => setK_eq a s i _
/-! ### values by kind -/
section
variable {β : Type} {P : β → Hh → Prop} {X : Nat → List (Str × A) → Hh → Prop}
def opt {γ : Type} (o : Option γ) (k : γ → Out β) : Out β := Option.rec (motive := fun _ => Out β) .bad k o
theorem opt_all {γ : Type} {o : Option γ} {k : γ → Out β} (q : (opt o k).All P X) : ∃ x, o = some x ∧ (k x).All P X := by
  cases o with
  | none => exact q.elim
  | some x => exact ⟨x, rfl, q⟩
def intK (a : A) (k : Int → Out β) : Out β := A.casesOn (motive_1 := fun _ => Out β) a .bad (fun _ => .bad) k (fun _ => .bad) (fun _ => .bad) (fun _ => .bad) (fun _ => .bad) (fun _ => .bad)
theorem intK_all {a : A} {k : Int → Out β} (q : (intK a k).All P X) : ∃ i, a = .int i ∧ (k i).All P X := by
  cases a with
  | int i => exact ⟨i, rfl, q⟩
  | _ => exact q.elim
def blK (a : A) (kt kf : Out β) : Out β := A.casesOn (motive_1 := fun _ => Out β) a .bad (fun b => Bool.rec (motive := fun _ => Out β) kf kt b) (fun _ => .bad) (fun _ => .bad) (fun _ => .bad) (fun _ => .bad) (fun _ => .bad) (fun _ => .bad)
theorem blK_all {a : A} {kt kf : Out β} (q : (blK a kt kf).All P X) : (a = .bl true ∧ kt.All P X) ∨ (a = .bl false ∧ kf.All P X) := by
  cases a with
  | bl b =>
    cases b with
    | true => exact .inl ⟨rfl, q⟩
    | false => exact .inr ⟨rfl, q⟩
  | _ => exact q.elim
def strK (a : A) (k : Str → Out β) : Out β := A.casesOn (motive_1 := fun _ => Out β) a .bad (fun _ => .bad) (fun _ => .bad) k (fun _ => .bad) (fun _ => .bad) (fun _ => .bad) (fun _ => .bad)
theorem strK_all {a : A} {k : Str → Out β} (q : (strK a k).All P X) : ∃ i, a = .str i ∧ (k i).All P X := by
  cases a with
  | str i => exact ⟨i, rfl, q⟩
  | _ => exact q.elim
def locK (a : A) (k : Bn → Out β) : Out β := A.casesOn (motive_1 := fun _ => Out β) a .bad (fun _ => .bad) (fun _ => .bad) (fun _ => .bad) (fun _ => .bad) k (fun _ => .bad) (fun _ => .bad)
theorem locK_all {a : A} {k : Bn → Out β} (q : (locK a k).All P X) : ∃ i, a = .loc i ∧ (k i).All P X := by
  cases a with
  | loc i => exact ⟨i, rfl, q⟩
  | _ => exact q.elim
def tupK (a : A) (k : List A → Out β) : Out β := A.casesOn (motive_1 := fun _ => Out β) a .bad (fun _ => .bad) (fun _ => .bad) (fun _ => .bad) (fun _ => .bad) (fun _ => .bad) (fun _ => .bad) k
theorem tupK_all {a : A} {k : List A → Out β} (q : (tupK a k).All P X) : ∃ i, a = .tup i ∧ (k i).All P X := by
  cases a with
  | tup i => exact ⟨i, rfl, q⟩
  | _ => exact q.elim
/-- a cell by kind -/
def lstC (o : Option Cell) (k : List A → Out β) : Out β := Option.rec (motive := fun _ => Out β) .bad (fun c => Cell.rec (motive := fun _ => Out β) k (fun _ => .bad) (fun _ => .bad) (fun _ _ => .bad) (fun _ _ => .bad) (fun _ => .bad) c) o
theorem lstC_all {o : Option Cell} {k : List A → Out β} (q : (lstC o k).All P X) : ∃ xs, o = some (.lst xs) ∧ (k xs).All P X := by
  cases o with
  | none => exact q.elim
  | some c => cases c with
    | lst xs => exact ⟨xs, rfl, q⟩
    | _ => exact q.elim
def dicC (o : Option Cell) (k : List (A × A) → Out β) : Out β := Option.rec (motive := fun _ => Out β) .bad (fun c => Cell.rec (motive := fun _ => Out β) (fun _ => .bad) (fun _ => .bad) k (fun _ _ => .bad) (fun _ _ => .bad) (fun _ => .bad) c) o
theorem dicC_all {o : Option Cell} {k : List (A × A) → Out β} (q : (dicC o k).All P X) : ∃ xs, o = some (.dic xs) ∧ (k xs).All P X := by
  cases o with
  | none => exact q.elim
  | some c => cases c with
    | dic xs => exact ⟨xs, rfl, q⟩
    | _ => exact q.elim
def insC (o : Option Cell) (k : Nat → List (Str × A) → Out β) : Out β := Option.rec (motive := fun _ => Out β) .bad (fun c => Cell.rec (motive := fun _ => Out β) (fun _ => .bad) (fun _ => .bad) (fun _ => .bad) k (fun _ _ => .bad) (fun _ => .bad) c) o
theorem insC_all {o : Option Cell} {k : Nat → List (Str × A) → Out β} (q : (insC o k).All P X) : ∃ C fs, o = some (.ins C fs) ∧ (k C fs).All P X := by
  cases o with
  | none => exact q.elim
  | some c => cases c with
    | ins C fs => exact ⟨C, fs, rfl, q⟩
    | _ => exact q.elim
/-- a list's items by its place -/
def lstK (a : A) (h : Hh) (k : Bn → List A → Out β) : Out β := locK a fun l => lstC (getH h l) fun xs => k l xs
theorem lstK_all {a : A} {h : Hh} {k : Bn → List A → Out β} (q : (lstK a h k).All P X) : ∃ l xs, a = .loc l ∧ h.get l = some (.lst xs) ∧ (k l xs).All P X := by
  obtain ⟨l, rfl, q⟩ := locK_all q
  obtain ⟨xs, e, q⟩ := lstC_all q
  rw [getH_eq] at e
  exact ⟨l, xs, rfl, e, q⟩
/-- the items of a list or a tuple -/
def seqK (a : A) (h : Hh) (k : List A → Out β) : Out β := A.casesOn (motive_1 := fun _ => Out β) a .bad (fun _ => .bad) (fun _ => .bad) (fun _ => .bad) (fun _ => .bad) (fun l => lstC (getH h l) k) (fun _ => .bad) k
theorem seqK_all {a : A} {h : Hh} {k : List A → Out β} (q : (seqK a h k).All P X) : (∃ l xs, a = .loc l ∧ h.get l = some (.lst xs) ∧ (k xs).All P X) ∨ ∃ xs, a = .tup xs ∧ (k xs).All P X := by
  cases a with
  | loc l =>
    obtain ⟨xs, e, q⟩ := lstC_all (show (lstC (getH h l) k).All P X from q)
    rw [getH_eq] at e
    exact .inl ⟨l, xs, rfl, e, q⟩
  | tup xs => exact .inr ⟨xs, rfl, q⟩
  | _ => exact q.elim
end
/-! ### the tables, the ground -/
abbrev Cl := Bn → List A → Hh → Out A
abbrev Den := Cl → Sl → Hh → Out A
abbrev Dst := Cl → Sl → Hh → Out Fl
/-- parts of what an except clause makes -/
inductive HP where
  | con (a : A) | ef (f : Str)
inductive HX where
  | one (p : HP) | tup (ps : List HP)
/-- a clause: the class, the name's slot, the target's slot (none: return), what is made -/
structure HdD where
  Ch : Nat
  i : Option Nat
  j : Option Nat
  x : HX
/-- a def that calls what it is given, in a try: its slots, the slot told in the end, the tag, what is told first, the clauses -/
structure TrD where
  n : Nat
  j : Nat
  tag : Option Str
  iv : A
  hs : List HdD
inductive GV where
  | fn (f : Bn) (n : Nat) | con (a : A) | mk (C : Nat) (f : Bn) (n : Nat)
structure DTb where
  tb : Tb
  /-- classes of all kinds, for isinstance -/
  kit : Kit
  gl : List (Str × GV)
  mth : List ((Nat × Str) × (Bn × Nat))
  fld : List (Nat × Str)
  ins : List Nat
  /-- whether the error C is caught by the class Ch -/
  xm : List (List (Option Bool))
  tr : List (Str × TrD)
  /-- own operators: by the method's name, by the class of both sides -/
  bop : List (Str × List (Nat × Bn))
  tz : List Str
def xmQ (m : List (List (Option Bool))) (C Ch : Nat) : Option Bool := Option.rec (motive := fun _ => Option Bool) none (fun r => Option.rec (motive := fun _ => Option Bool) none (fun o => o) (nth r Ch)) (nth m C)
structure DBs where
  bs : Bs
  D : DTb
  fa : Bn → Option (Nat × Addr)
def hpB (n : Option Str) : Expr → Option HP
  | .Constant (.str x) _ _ => some (.con (.str x))
  | .Constant .none _ _ => some (.con .non)
  | .Constant (.bool b) _ _ => some (.con (.bl b))
  | .Constant (.int i) _ _ => some (.con (.int i))
  | .Attribute (.Name y _) f _ => if n = some y then some (.ef f) else none
  | _ => none
def hpsB (n : Option Str) : List Expr → Option (List HP)
  | [] => some []
  | e :: es => (hpB n e).bind fun p => (hpsB n es).map (p :: ·)
def hxB (n : Option Str) : Expr → Option HX
  | .Tuple es _ _ => (hpsB n es).map .tup
  | e => (hpB n e).map .one
/-- the target of a clause -/
inductive HtR (c : Cc) (n : Option Str) (i : Option Nat) : Stmt → Option Nat → HX → Prop
  | asg {y : Str} {j : Nat} {e : Expr} {x : HX} {py pos : Pos} : c.N[j]? = some y → kindIs c.sc y .local = true → i ≠ some j → notComp e = true → hxB n e = some x → HtR c n i (.Assign [.Name y py] e pos) (some j) x
  | ret {e : Expr} {x : HX} {pos : Pos} : hxB n e = some x → HtR c n i (.Return (some e) pos) none x
inductive HdR (D : DTb) (c : Cc) : List ExceptHandler → List HdD → Prop
  | nil : HdR D c [] []
  | cons {x : Str} {g : EV.GV} {Ch : Nat} {st : Stmt} {j : Option Nat} {hx : HX} {np pos : Pos} {hds : List ExceptHandler} {l : List HdD} : kindIs c.sc x .globalImplicit = true → D.tb.gl.lookup x = some g → g.val = some (.glo Ch) → okName x = true → HtR c none none st j hx → HdR D c hds l → HdR D c (.ExceptHandler (some (.Name x np)) none [st] pos :: hds) (⟨Ch, none, j, hx⟩ :: l)
  | as {x n : Str} {i : Nat} {g : EV.GV} {Ch : Nat} {st : Stmt} {j : Option Nat} {hx : HX} {np pos : Pos} {hds : List ExceptHandler} {l : List HdD} : kindIs c.sc x .globalImplicit = true → D.tb.gl.lookup x = some g → g.val = some (.glo Ch) → okName x = true → c.N[i]? = some n → kindIs c.sc n .local = true → okName n = true → HtR c (some n) (some i) st j hx → HdR D c hds l →
      HdR D c (.ExceptHandler (some (.Name x np)) (some n) [st] pos :: hds) (⟨Ch, some i, j, hx⟩ :: l)
/-- the body of a def that calls what it is given -/
inductive TrB (D : DTb) (c : Cc) (a : Str) : List Stmt → TrD → Prop
  | one {y : Str} {j : Nat} {init : Expr} {h₀ : ExceptHandler} {hds : List ExceptHandler} {hs : List HdD} {iv : A} {p1 p2 p3 p4 p5 p6 p7 p8 : Pos} : c.N[j]? = some y → kindIs c.sc y .local = true → okName y = true → j ≠ 0 → (match init with | .Constant .none _ _ => iv = .non | .Tuple [] _ _ => iv = .tup [] | _ => False) → HdR D c (h₀ :: hds) hs →
      TrB D c a [.Assign [.Name y p1] init p2, .Try [.Expr (.Call (.Name a p3) [] [] p4) p5] (h₀ :: hds) [] [] p6, .Return (some (.Name y p7)) p8] ⟨c.N.length, j, none, iv, hs⟩
/-- what is known of the def x -/
structure TrOk (bs : Bs) (D : DTb) (x : Str) (t : TrD) (g : Addr) (pg : Arguments) (bg : List Stmt) (sg : Scope) (dV kV doc pm cdv ct oc : Value) (an od : Option Addr) (osl : Array (Option Value)) (Ng : List Str) (a : Str) : Prop where
  mg : bs.mg x = some (.ref g)
  keep : PySem.W.keepIn bs.S.K (.ref g) = true
  lk : bs.S.K.lookup g = some ⟨oc, od, .func (PySem.W.fnOf x x pg bg sg dV kV doc pm an cdv ct), osl⟩
  code : PySem.W.codeIn bs.S.K cdv x = true
  b : L2.Binds bs.S.K (PySem.W.fnOf x x pg bg sg dV kV doc pm an cdv ct) [a] []
  S : FnScope Ng [a] sg
  n0 : Ng[0]? = some a
  vis : visB sg a = true
  ok : okName a = true
  body : TrB D ⟨Ng, sg, none⟩ a bg t
/-- an own class: what isinstance asks -/
structure InsK (K : PySem.W.Frag) (C : Addr) : Prop where
  cl : Cls K C
  ha : PySem.W.findIn K (.ref C) "__class__" = some (some (.builtin "object.__class__"))
  hn : PySem.W.specialIn K (.builtin "object.__class__") "__get__" = some (some (.builtin "getset_descriptor.__get__"))
  ht : PySem.W.takesIn K (.builtin "object.__class__") = some true
  hm : PySem.W.mroIn K C (.type "object") = some true
structure DOk (B : DBs) : Prop where
  bo : BOk B.bs
  kit : ∀ t c b tv cv, isi1 B.D.kit t c = some b → TyVal B.bs.S t tv → TyVal B.bs.S c cv → PySem.W.kitOne B.bs.S.K tv cv = some b
  tb : B.bs.T = B.D.tb
  fn : ∀ x f n, B.D.gl.lookup x = some (.fn f n) → ∃ a, B.fa f = some (n, a) ∧ B.bs.mg x = some (.ref a)
  con : ∀ x a, B.D.gl.lookup x = some (.con a) → ∃ u v, B.bs.mg x = some u ∧ RelV v u ∧ ∀ ρ H, Rel B.bs.S ρ H a v
  mkr : ∀ x C f n, B.D.gl.lookup x = some (.mk C f n) → ∃ Ca a, B.bs.S.G C = some Ca ∧ B.bs.mg x = some (.ref Ca) ∧ B.fa f = some (n + 1, a) ∧ Mk B.bs.S.K Ca a
  mth : ∀ C m f n, B.D.mth.lookup (C, m) = some (f, n) → ∃ Ca a, B.bs.S.G C = some Ca ∧ B.fa f = some (n + 1, a) ∧ Cls B.bs.S.K Ca ∧ Meth B.bs.S.K Ca m a
  fld : ∀ C f, (C, f) ∈ B.D.fld → ∃ Ca, B.bs.S.G C = some Ca ∧ Cls B.bs.S.K Ca ∧ NoAttr B.bs.S.K Ca f
  ins : ∀ C, C ∈ B.D.ins → ∃ Ca, B.bs.S.G C = some Ca ∧ InsK B.bs.S.K Ca
  xm : ∀ C Ch b Ca Cha, xmQ B.D.xm C Ch = some b → B.bs.S.G C = some Ca → B.bs.S.G Ch = some Cha → PySem.W.exmOne B.bs.S.K (.ref Ca) (.ref Cha) = some b
  tz : B.bs.S.tz = B.D.tz
  bop : ∀ m l C f, B.D.bop.lookup m = some l → l.lookup C = some f → ∃ Ca a, B.bs.S.G C = some Ca ∧ B.fa f = some (2, a) ∧ Meth B.bs.S.K Ca m a ∧ PySem.W.selfFirst B.bs.S.K Ca = true
  tr : ∀ x t, B.D.tr.lookup x = some t → ∃ g pg bg sg dV kV doc pm cdv ct oc an od osl Ng a, TrOk B.bs B.D x t g pg bg sg dV kV doc pm cdv ct oc an od osl Ng a
def spG (B : DBs) (call : Cl) (f : Bn) (n : Nat) : Sp := fun vs H Q E => vs.length = n ∧ ∃ ρ h as, Rep B.bs.S ρ h H ∧ Rels B.bs.S ρ H as vs ∧ (call f as h).All (QW B.bs.S ρ H Q) (XW B.bs.S ρ H E)
structure CallG (B : DBs) (k : Nat) (call : Cl) : Prop where
  fn : ∀ f n a, B.fa f = some (n, a) → ∃ fd ps, ps.length = n ∧ PySem.W.keepIn B.bs.S.K (.ref a) = true ∧ FnOk B.bs.P B.bs.w B.bs.S.K B.bs.mg B.bs.base (L2.CX B.bs.P B.bs.w) k a fd ps (spG B call f n) ∧ Binds B.bs.S.K fd ps []
/-- the setting in which parts are read -/
structure Sg (D : DTb) (c : Cc) (B : DBs) (k : Nat) (call : Cl) (X : Cx) (E : XK) : Prop where
  d : B.D = D
  ok : DOk B
  cl : CallG B k call
  o : Ok B.bs (k + 1) c X E
  rm : c.q.isSome = true → 1 ≤ k ∧ Room (k + 3) X.A
def SE (D : DTb) (c : Cc) (e : Expr) (d : Den) : Prop := ∀ {B k call X E}, Sg D c B k call X E → PE X e (tE B.bs.S E (d call)) ∧ PT X e (tT B.bs.S E (d call))
def SA (D : DTb) (c : Cc) (es : List Expr) (ds : Cl → Sl → Hh → Out (List A)) : Prop := ∀ {B k call X E}, Sg D c B k call X E → PA X es (tAs B.bs.S E (ds call)) ∧ (∀ pos, (backTo pos (starEach es X.env)).any (·.1) = false)
def SS (D : DTb) (c : Cc) (st : Stmt) (d : Dst) : Prop := ∀ {B k call X E}, Sg D c B k call X E → PS X st (tSs B.bs.S E (d call))
def SSs (D : DTb) (c : Cc) (l : List Stmt) (d : Dst) : Prop := ∀ {B k call X E}, Sg D c B k call X E → PSs X l (tSs B.bs.S E (d call))
/-- what is not served -/
def xBad : Den := fun _ _ _ => .bad
theorem s_bad {D : DTb} {c : Cc} {e : Expr} : SE D c e xBad := fun _ => ⟨⟨fun _ _ _ _ _ _ q => by obtain ⟨_, _, _, _, _, q⟩ := q; exact q.elim⟩, ⟨fun _ _ _ _ _ _ q => by obtain ⟨_, _, _, _, _, q⟩ := q; exact q.elim⟩⟩
def sBad : Dst := fun _ _ _ => .bad
theorem s_badS {D : DTb} {c : Cc} {st : Stmt} : SS D c st sBad := fun _ => ⟨fun _ _ _ _ _ _ q => by obtain ⟨_, _, _, _, _, q⟩ := q; exact q.elim⟩
/-- where the truth is that of the value -/
theorem plE {D : DTb} {c : Cc} {e : Expr} {d : Den} (hp : plainT e = true) (h : ∀ {B k call X E}, Sg D c B k call X E → PE X e (tE B.bs.S E (d call))) : SE D c e d := fun s => ⟨h s, pt_plain hp (h s)⟩
end
end DV
set_option Elab.async false
set_option linter.all false
set_option maxRecDepth 100000
set_option maxHeartbeats 4000000
namespace DV
open PySem PySem.Spec PyProof.Rows L2 ER EV
noncomputable section
/-! ### names, constants -/
def xVar (i : Nat) : Den := fun _ s h => opt (slot s i) fun a => .ok a h
def xCst (a : A) : Den := fun _ _ h => .ok a h
section
variable {D : DTb} {c : Cc}
theorem s_var {x : Str} {pos : Pos} {i : Nat} (h1 : c.N[i]? = some x) (h2 : visB c.sc x = true) (h3 : okName x = true) : SE D c (.Name x pos) (xVar i) := plE rfl fun s => by
  refine PE.imp (pe_var (i := i) (by rw [s.o.N]; exact h1) (s.o.vis h2) (okName_d h3).1 (okName_d h3).2) fun σ H Q q => ?_
  obtain ⟨ρ, h, sl, R, rs, q⟩ := q
  obtain ⟨a, e, q1⟩ := opt_all q
  obtain ⟨v, z1, z2⟩ := rs.2 i a (slot_ok e)
  exact ⟨v, z1, q1 ρ H v Ext.refl R z2⟩
theorem cstE {X : Cx} {E : XK} {S : Sc} {call : Cl} {e : Expr} {v : V} {a : A} (h : PE X e (tC v)) (hr : ∀ ρ H, Rel S ρ H a v) : PE X e (tE S E (xCst a call)) :=
  PE.imp h fun σ H Q q => by
    obtain ⟨ρ, h, s, R, rs, q⟩ := q
    exact q ρ H v Ext.refl R (hr ρ H)
theorem s_int {i : Int} {j : Nat} {pos : Pos} : SE D c (.Constant (.int i) j pos) (xCst (.int i)) := plE rfl fun {B} _ _ _ _ _ => cstE (S := B.bs.S) (a := .int i) pe_int fun ρ H => rfl
theorem s_str {x : Str} {j : Nat} {pos : Pos} : SE D c (.Constant (.str x) j pos) (xCst (.str x)) := plE rfl fun {B} _ _ _ _ _ => cstE (S := B.bs.S) (a := .str x) pe_str fun ρ H => rfl
theorem s_bl {b : Bool} {j : Nat} {pos : Pos} : SE D c (.Constant (.bool b) j pos) (xCst (.bl b)) := plE rfl fun {B} _ _ _ _ _ => cstE (S := B.bs.S) (a := .bl b) pe_bl fun ρ H => rfl
theorem s_non {j : Nat} {pos : Pos} : SE D c (.Constant .none j pos) (xCst .non) := plE rfl fun {B} _ _ _ _ _ => cstE (S := B.bs.S) (a := .non) pe_non fun ρ H => rfl
theorem s_tyn {x : Str} {pos : Pos} {n : Nat} (h1 : kindIs c.sc x .globalImplicit = true) (h2 : D.tb.free.contains x = true) (h3 : tyOf? x = some n) : SE D c (.Name x pos) (xCst (.ty n)) := plE rfl fun s => by
  obtain ⟨z1, z2, z3⟩ := ty_boot h3
  exact cstE (pe_bltn (s.o.gl h1) (s.o.fr s.ok.bo (by rw [s.ok.tb, s.d]; exact h2)) z1 (v := .ty _) rfl z2 z3) fun ρ H => rfl
theorem s_cls {x : Str} {pos : Pos} {g : EV.GV} {a : A} (h1 : kindIs c.sc x .globalImplicit = true) (h2 : D.tb.gl.lookup x = some g) (h3 : g.val = some a) (h4 : okName x = true) : SE D c (.Name x pos) (xCst a) := plE rfl fun s => by
  obtain ⟨C, v, rfl, g, hm⟩ := s.ok.bo.glv _ _ _ (by rw [s.ok.tb, s.d]; exact h2) h3
  exact cstE (pe_glob (s.o.gl h1) (by rw [s.o.mg]; exact hm) (v := .ref v) rfl (okName_d h4).1) fun ρ H => ⟨v, g, rfl⟩
theorem s_con {x : Str} {pos : Pos} {a : A} (h1 : kindIs c.sc x .globalImplicit = true) (h2 : D.gl.lookup x = some (.con a)) (h4 : okName x = true) : SE D c (.Name x pos) (xCst a) := plE rfl fun s => by
  obtain ⟨u, v, hm, rv, hr⟩ := s.ok.con x a (by rw [s.d]; exact h2)
  exact cstE (pe_glob (s.o.gl h1) (by rw [s.o.mg]; exact hm) rv (okName_d h4).1) hr
theorem s_neg {i : Int} {j : Nat} {p pos : Pos} : SE D c (.UnaryOp .USub (.Constant (.int i) j p) pos) (xCst (.int (-i))) := plE rfl fun _ => PE.imp (pe_un un_neg pe_int) fun σ H Q q => by
  obtain ⟨ρ, h, s, R, rs, q⟩ := q
  exact ⟨_, rfl, q ρ H _ Ext.refl R rfl⟩
end
/-! ### two parts, then an operator -/
def x2 (f : A → A → Hh → Out A) (x y : Den) : Den := fun c s h => bnd (x c s h) fun a h => bnd (y c s h) fun b h => f a b h
abbrev Leaf2 (S : Sc) (E : XK) (f : A → A → Hh → Out A) (r2 : R2) : Prop := ∀ {ρ h H a b v w Q}, Rep S ρ h H → Rel S ρ H a v → Rel S ρ H b w → (f a b h).All (QW S ρ H Q) (XW S ρ H E) → r2 v w H Q
theorem two {S : Sc} {E : XK} {call : Cl} {f : A → A → Hh → Out A} {r2 : R2} {x y : Den} (hop : Leaf2 S E f r2) {σ : L2.St} {H : Hp} {Q : VK} (q : tE S E (x2 f x y call) σ H Q) : tOp r2 (tE S E (x call)) (tE S E (y call)) σ H Q := by
  obtain ⟨ρ, h, s, R, rs, q⟩ := q
  refine ⟨ρ, h, s, R, rs, gob q fun a h1 q1 ρ1 H1 v e1 R1 rv => ?_⟩
  refine ⟨ρ1, h1, s, R1, rs.mono e1, gob (all_mono e1 (fun _ _ y => y) q1) fun b h2 q2 ρ2 H2 w e2 R2 rw => ?_⟩
  exact hop R2 (rv.mono e2) rw (all_mono e2 (fun _ _ y => (y.mono e1).mono e2) q2)
/-! ### new places -/
def newLst (xs : List A) (h : Hh) : Out A := lenK xs 0 fun n => Bool.rec (motive := fun _ => Out A) .bad (newH h (.lst xs) fun l h => .ok (.loc l) h) (Nat.ble n lim)
theorem newLst_eq (xs : List A) (h : Hh) : newLst xs h = newL xs h := by
  unfold newLst newL
  rw [lenK_eq, Nat.zero_add]
  by_cases e : xs.length ≤ lim
  · rw [if_pos e, Nat.ble_eq_true_of_le e]
    exact newH_eq h _ _
  · rw [if_neg e]
    have z : Nat.ble xs.length lim = false := by
      cases q : Nat.ble xs.length lim with
      | false => rfl
      | true => exact absurd (Nat.le_of_ble_eq_true q) e
    rw [z]
def newTup (xs : List A) (h : Hh) : Out A := lenK xs 0 fun n => Bool.rec (motive := fun _ => Out A) .bad (.ok (.tup xs) h) (Nat.ble n lim)
theorem newTup_all {xs : List A} {h : Hh} {P : A → Hh → Prop} {X : Nat → List (Str × A) → Hh → Prop} (q : (newTup xs h).All P X) : xs.length ≤ sizeLine ∧ P (.tup xs) h := by
  unfold newTup at q
  rw [lenK_eq, Nat.zero_add] at q
  cases e : Nat.ble xs.length lim with
  | false => rw [e] at q; exact q.elim
  | true => rw [e] at q; exact ⟨Nat.le_trans (Nat.le_of_ble_eq_true e) (by decide), q⟩
theorem newLst_ok {S : Sc} {E : XK} {ρ : Rho} {h : Hh} {H : Hp} {xs : List A} {vs : List V} {Q : VK} (R : Rep S ρ h H) (rv : Rels S ρ H xs vs) (q : (newLst xs h).All (QW S ρ H Q) (XW S ρ H E)) : vs.length ≤ sizeLine ∧ ∀ p, H p = none → Q (.ref p) (upd H p (.lst vs)) := by
  rw [newLst_eq] at q
  unfold newL at q
  by_cases hl : xs.length ≤ lim
  · rw [if_pos hl] at q
    refine ⟨by rw [Rels.length rv]; exact Nat.le_trans hl (by decide), fun p n => ?_⟩
    exact q _ _ _ (Ext.new R n) (R.new n ⟨vs, upd_same, Rels.mono (Ext.new R n) rv⟩) ⟨p, by unfold rhoNew; rw [if_pos rfl], rfl⟩
  · rw [if_neg hl] at q
    exact q.elim
/-! ### + - * // % ** -/
def dStrCat (x y : Str) (h : Hh) : Out A := lenK x.cps.toList 0 fun n => lenK y.cps.toList n fun m => Bool.rec (motive := fun _ => Out A) .bad (catK x.cps.toList y.cps.toList fun z => .ok (.str ⟨⟨z⟩⟩) h) (Nat.ble m lim)
def dAdd (a b : A) (h : Hh) : Out A := A.casesOn (motive_1 := fun _ => Out A) a .bad (fun _ => .bad) (fun i => intK b fun j => frInt (i + j) fun z => .ok (.int z) h) (fun x => strK b fun y => dStrCat x y h) (fun _ => .bad)
  (fun l => lstC (getH h l) fun xs => lstK b h fun _ ys => catK xs ys fun z => newLst z h) (fun _ => .bad) (fun xs => tupK b fun ys => catK xs ys fun z => newTup z h)
abbrev rAdds (K : PySem.W.Frag) : R2 := fun x y H Q => (((rI0 fun i j => .int (i + j)) x y H Q ∨ rCat x y H Q) ∨ (∃ i j, x = .str i ∧ y = .str j ∧ i.length + j.length ≤ sizeLine ∧ Q (.str (i ++ j)) H)) ∨ rCatA K x y H Q
theorem rels_nil {S : Sc} {ρ : Rho} {H : Hp} {xs : List A} (r : Rels S ρ H xs []) : xs = [] := by
  have := Rels.length r
  exact List.length_eq_zero_iff.mp this.symm
theorem dAdd_ok {B : DBs} {E : XK} : Leaf2 B.bs.S E dAdd (rAdds B.bs.S.K) := by
  intro ρ h H a b v w Q R ra rb q
  unfold dAdd at q
  cases a with
  | int i =>
    obtain ⟨j, rfl, q1⟩ := intK_all q
    rw [frInt_eq] at q1
    exact .inl (.inl (.inl ⟨_, _, ra, rb, q1 _ _ _ Ext.refl R rfl⟩))
  | str x =>
    obtain ⟨y, rfl, q1⟩ := strK_all q
    unfold dStrCat at q1
    rw [lenK_eq, lenK_eq, Nat.zero_add] at q1
    cases e : Nat.ble (x.cps.toList.length + y.cps.toList.length) lim with
    | false => rw [e] at q1; exact q1.elim
    | true =>
      rw [e] at q1
      have q2 : (catK x.cps.toList y.cps.toList fun z => Out.ok (A.str ⟨⟨z⟩⟩) h).All _ _ := q1
      rw [catK_eq] at q2
      refine .inl (.inr ⟨x, y, ra, rb, Nat.le_trans (Nat.le_of_ble_eq_true e) (by decide), ?_⟩)
      have z : (⟨⟨x.cps.toList ++ y.cps.toList⟩⟩ : Str) = x ++ y := by
        show Str.mk _ = Str.mk (x.cps ++ y.cps)
        congr 1
        apply Array.ext'
        simp
      rw [← z]
      exact q2 _ _ _ Ext.refl R rfl
  | loc l =>
    obtain ⟨xs, e, q1⟩ := lstC_all q
    rw [getH_eq] at e
    obtain ⟨l2, ys, rfl, e2, q2⟩ := lstK_all q1
    rw [catK_eq] at q2
    obtain ⟨p1, vs, rfl, _, h1, r1⟩ := lst_at R ra e
    obtain ⟨p2, ws, rfl, _, h2, r2⟩ := lst_at R rb e2
    obtain ⟨hz, hq⟩ := newLst_ok R (r1.append r2) q2
    rw [List.length_append] at hz
    exact .inl (.inl (.inr ⟨p1, p2, vs, ws, rfl, rfl, h1, h2, hz, hq⟩))
  | tup xs =>
    obtain ⟨ys, rfl, q1⟩ := tupK_all q
    rw [catK_eq] at q1
    obtain ⟨hl, q2⟩ := newTup_all q1
    obtain ⟨p1, vs, rfl, s1, r1⟩ := ra
    obtain ⟨p2, ws, rfl, s2, r2⟩ := rb
    refine .inr ⟨p1, p2, vs, ws, rfl, rfl, s1, s2, by rw [Rels.length r1, Rels.length r2, ← List.length_append]; exact hl, fun e => ?_, fun _ e => ?_, fun _ _ p n => ?_⟩
    · subst e
      rw [rels_nil r1, List.nil_append] at q2
      exact q2 _ _ _ Ext.refl R ⟨p2, ws, rfl, s2, r2⟩
    · subst e
      rw [rels_nil r2, List.append_nil] at q2
      exact q2 _ _ _ Ext.refl R ⟨p1, vs, rfl, s1, r1⟩
    · exact q2 _ _ _ (Ext.more n) (R.more n) ⟨p, vs ++ ws, rfl, .inl (.inl upd_same), Rels.mono (Ext.more n) (r1.append r2)⟩
  | _ => exact q.elim
def dSub (a b : A) (h : Hh) : Out A := intK a fun i => intK b fun j => frInt (i - j) fun z => .ok (.int z) h
theorem dSub_ok {B : DBs} {E : XK} : Leaf2 B.bs.S E dSub (rI0 fun i j => .int (i - j)) := by
  intro ρ h H a b v w Q R ra rb q
  obtain ⟨i, rfl, q1⟩ := intK_all q
  obtain ⟨j, rfl, q2⟩ := intK_all q1
  rw [frInt_eq] at q2
  exact ⟨_, _, ra, rb, q2 _ _ _ Ext.refl R rfl⟩
def guard (b : Bool) (k : Out A) : Out A := Bool.rec (motive := fun _ => Out A) .bad k b
theorem guard_all {b : Bool} {k : Out A} {P : A → Hh → Prop} {X : Nat → List (Str × A) → Hh → Prop} (q : (guard b k).All P X) : b = true ∧ k.All P X := by
  cases b with
  | false => exact q.elim
  | true => exact ⟨rfl, q⟩
/-- a list's items so many times -/
def repK (xs : List A) (n : Nat) : List A := Nat.rec (motive := fun _ => List A) [] (fun _ ih => catK xs ih fun z => z) n
theorem repK_eq (xs : List A) : ∀ n, repK xs n = (List.replicate n xs).flatten
  | 0 => rfl
  | n + 1 => by
    show catK xs (repK xs n) (fun z => z) = _
    rw [catK_eq, repK_eq xs n, List.replicate_succ, List.flatten_cons]
def dMul (a b : A) (h : Hh) : Out A := A.casesOn (motive_1 := fun _ => Out A) a .bad (fun _ => .bad)
  (fun i => intK b fun j => guard (decide ((-(2 ^ 64) < i ∧ i < 2 ^ 64) ∨ (-(2 ^ 64) < j ∧ j < 2 ^ 64))) (frInt (i * j) fun z => .ok (.int z) h)) (fun _ => .bad) (fun _ => .bad)
  (fun l => lstC (getH h l) fun xs => intK b fun k => guard (decide (0 ≤ k ∧ k ≤ 1000)) (newLst (repK xs k.toNat) h)) (fun _ => .bad) (fun _ => .bad)
theorem rels_rep {S : Sc} {ρ : Rho} {H : Hp} {xs : List A} {vs : List V} (r : Rels S ρ H xs vs) : ∀ n, Rels S ρ H (List.replicate n xs).flatten (List.replicate n vs).flatten
  | 0 => rfl
  | n + 1 => by
    rw [List.replicate_succ, List.replicate_succ, List.flatten_cons, List.flatten_cons]
    exact r.append (rels_rep r n)
theorem rep_len {α : Type} (xs : List α) : ∀ n, (List.replicate n xs).flatten.length = xs.length * n
  | 0 => by simp
  | n + 1 => by
    rw [List.replicate_succ, List.flatten_cons, List.length_append, rep_len xs n, Nat.mul_succ]
    omega
theorem dMul_ok {B : DBs} {E : XK} : Leaf2 B.bs.S E dMul (fun x y H Q => (rI CMul fun i j => .int (i * j)) x y H Q ∨ rRep x y H Q) := by
  intro ρ h H a b v w Q R ra rb q
  unfold dMul at q
  cases a with
  | int i =>
    obtain ⟨j, rfl, q1⟩ := intK_all q
    obtain ⟨hc, q2⟩ := guard_all q1
    have hc := of_decide_eq_true hc
    rw [frInt_eq] at q2
    exact .inl ⟨_, _, ra, rb, hc, q2 _ _ _ Ext.refl R rfl⟩
  | loc l =>
    obtain ⟨xs, e, q1⟩ := lstC_all q
    rw [getH_eq] at e
    obtain ⟨j, rfl, q2⟩ := intK_all q1
    obtain ⟨hc, q3⟩ := guard_all q2
    have hc := of_decide_eq_true hc
    rw [repK_eq] at q3
    obtain ⟨p1, vs, rfl, _, h1, r1⟩ := lst_at R ra e
    obtain ⟨hz, hq⟩ := newLst_ok R (rels_rep r1 j.toNat) q3
    rw [rep_len] at hz
    exact .inr ⟨p1, j, vs, rfl, rb, h1, by omega, by omega, hz, hq⟩
  | _ => exact q.elim
def dFdiv (a b : A) (h : Hh) : Out A := intK a fun i => intK b fun j => guard (decide (j ≠ 0 ∧ j.natAbs < 1073741824)) (frInt (i.fdiv j) fun z => .ok (.int z) h)
theorem dFdiv_ok {B : DBs} {E : XK} : Leaf2 B.bs.S E dFdiv (rI CDivN fun i j => .int (i.fdiv j)) := by
  intro ρ h H a b v w Q R ra rb q
  obtain ⟨i, rfl, q1⟩ := intK_all q
  obtain ⟨j, rfl, q2⟩ := intK_all q1
  obtain ⟨hc, q3⟩ := guard_all q2
  have hc := of_decide_eq_true hc
  rw [frInt_eq] at q3
  exact ⟨_, _, ra, rb, hc, q3 _ _ _ Ext.refl R rfl⟩
def dMod (a b : A) (h : Hh) : Out A := intK a fun i => intK b fun j => guard (decide (j ≠ 0)) (frInt (i.fmod j) fun z => .ok (.int z) h)
theorem dMod_ok {B : DBs} {E : XK} : Leaf2 B.bs.S E dMod (rI (fun _ j => j ≠ 0) fun i j => .int (i.fmod j)) := by
  intro ρ h H a b v w Q R ra rb q
  obtain ⟨i, rfl, q1⟩ := intK_all q
  obtain ⟨j, rfl, q2⟩ := intK_all q1
  obtain ⟨hc, q3⟩ := guard_all q2
  have hc := of_decide_eq_true hc
  rw [frInt_eq] at q3
  exact ⟨_, _, ra, rb, hc, q3 _ _ _ Ext.refl R rfl⟩
def dPow (a b : A) (h : Hh) : Out A := intK a fun i => intK b fun j => guard (decide (0 ≤ j ∧ j ≤ 1000000 ∧ i.natAbs < 2 ^ 64)) (frInt (i ^ j.toNat) fun z => .ok (.int z) h)
theorem dPow_ok {B : DBs} {E : XK} : Leaf2 B.bs.S E dPow (rI CPow fun i j => .int (i ^ j.toNat)) := by
  intro ρ h H a b v w Q R ra rb q
  obtain ⟨i, rfl, q1⟩ := intK_all q
  obtain ⟨j, rfl, q2⟩ := intK_all q1
  obtain ⟨hc, q3⟩ := guard_all q2
  have hc := of_decide_eq_true hc
  rw [frInt_eq] at q3
  exact ⟨_, _, ra, rb, hc, q3 _ _ _ Ext.refl R rfl⟩
def opF : Operator → Option (A → A → Hh → Out A)
  | .Add => some dAdd | .Sub => some dSub | .Mult => some dMul | .FloorDiv => some dFdiv | .Mod => some dMod | .Pow => some dPow
  | _ => none
section
variable {D : DTb} {c : Cc}
theorem s_bin {a b : Expr} {op : Operator} {f : A → A → Hh → Out A} {x y : Den} {pos : Pos} (h : opF op = some f) (ha : SE D c a x) (hb : SE D c b y) : SE D c (.BinOp a op b pos) (x2 f x y) := plE rfl fun s => by
  have ha := (ha s).1
  have hb := (hb s).1
  have eK := s.o.K
  cases op <;> first | (cases h; done) | skip
  · cases h
    exact PE.imp (pe_op (L2.OpR.or (L2.OpR.or (L2.OpR.or op_add op_cat) op_add_str) op_catA) ha hb) fun σ H Q q => by rw [eK]; exact two dAdd_ok q
  · cases h
    exact PE.imp (pe_op op_sub ha hb) fun σ H Q q => two dSub_ok q
  · cases h
    exact PE.imp (pe_op (L2.OpR.or op_mul op_rep) ha hb) fun σ H Q q => two dMul_ok q
  · cases h
    exact PE.imp (pe_op op_modN ha hb) fun σ H Q q => two dMod_ok q
  · cases h
    exact PE.imp (pe_op op_pow ha hb) fun σ H Q q => two dPow_ok q
  · cases h
    exact PE.imp (pe_op op_fdivN ha hb) fun σ H Q q => two dFdiv_ok q
end
end
end DV
set_option Elab.async false
set_option linter.all false
set_option maxRecDepth 100000
set_option maxHeartbeats 4000000
namespace DV
open PySem PySem.Spec PyProof.Rows L2 ER EV
noncomputable section
/-! ### equality -/
def natsEq (xs : List Nat) : List Nat → Bool := List.rec (motive := fun _ => List Nat → Bool) (fun ys => List.rec (motive := fun _ => Bool) true (fun _ _ _ => false) ys) (fun x _ ih ys => List.rec (motive := fun _ => Bool) false (fun y r _ => Bool.rec (motive := fun _ => Bool) false (ih r) (Nat.beq x y)) ys) xs
theorem natsEq_iff : ∀ (xs ys : List Nat), natsEq xs ys = true ↔ xs = ys
  | [], [] => ⟨fun _ => rfl, fun _ => rfl⟩
  | [], _ :: _ => Iff.intro (fun h => Bool.noConfusion (show false = true from h)) (fun h => by cases h)
  | _ :: _, [] => Iff.intro (fun h => Bool.noConfusion (show false = true from h)) (fun h => by cases h)
  | x :: xs, y :: ys => by
    show Bool.rec (motive := fun _ => Bool) false (natsEq xs ys) (Nat.beq x y) = true ↔ _
    cases e : Nat.beq x y with
    | false => exact Iff.intro (fun h => Bool.noConfusion (show false = true from h)) (fun h => by cases h; rw [Nat.beq_refl] at e; cases e)
    | true =>
      have exy := Nat.eq_of_beq_eq_true e
      subst exy
      exact ⟨fun h => by rw [(natsEq_iff xs ys).mp h], fun h => by cases h; exact (natsEq_iff xs xs).mpr rfl⟩
def strEq (x y : Str) : Bool := natsEq x.cps.toList y.cps.toList
theorem strEq_eq (x y : Str) : strEq x y = (x == y) := by
  cases e : (x == y) with
  | true =>
    rw [eq_of_beq e]
    exact (natsEq_iff _ _).mpr rfl
  | false =>
    cases q : strEq x y with
    | false => rfl
    | true =>
      have z := (natsEq_iff _ _).mp q
      have : x = y := by
        obtain ⟨⟨x⟩⟩ := x
        obtain ⟨⟨y⟩⟩ := y
        have z : x = y := z
        rw [z]
      rw [this] at e
      simp at e
def eqB (a b : A) (h : Hh) : Option Bool := A.casesOn (motive_1 := fun _ => Option Bool) a (evEq a b h) (fun _ => evEq a b h)
  (fun i => A.casesOn (motive_1 := fun _ => Option Bool) b (evEq a b h) (fun _ => evEq a b h) (fun j => some (decide (i = j))) (fun _ => evEq a b h) (fun _ => evEq a b h) (fun _ => evEq a b h) (fun _ => evEq a b h) (fun _ => evEq a b h))
  (fun x => A.casesOn (motive_1 := fun _ => Option Bool) b (evEq a b h) (fun _ => evEq a b h) (fun _ => evEq a b h) (fun y => some (strEq x y)) (fun _ => evEq a b h) (fun _ => evEq a b h) (fun _ => evEq a b h) (fun _ => evEq a b h))
  (fun _ => evEq a b h) (fun _ => evEq a b h) (fun _ => evEq a b h) (fun _ => evEq a b h)
theorem eqB_ok {B : Bs} {ρ : Rho} {h : Hh} {H : Hp} {a b : A} {v w : V} {t : Bool} (R : Rep B.S ρ h H) (ra : Rel B.S ρ H a v) (rb : Rel B.S ρ H b w) (q : eqB a b h = some t) :
    (∃ d e, Dp B.S.K H v d ∧ Dp B.S.K H w e ∧ SeqAt.shaped d = true ∧ SeqAt.shaped e = true ∧ t = PyData.eqv d e) ∨ (scal v w = true ∧ t = decide (v = w)) := by
  cases a with
  | int i =>
    cases b with
    | int j =>
      have q : some (decide (i = j)) = some t := q
      cases q
      rw [show v = V.int i from ra, show w = V.int j from rb]
      refine .inr ⟨rfl, ?_⟩
      exact decide_eq_decide.mpr ⟨fun z => by rw [z], fun z => by cases z; rfl⟩
    | _ => exact .inl (evEq_ok R ra rb q)
  | str x =>
    cases b with
    | str y =>
      have q : some (strEq x y) = some t := q
      cases q
      rw [show v = V.str x from ra, show w = V.str y from rb]
      refine .inr ⟨rfl, ?_⟩
      rw [strEq_eq]
      cases e : (x == y) with
      | true => rw [eq_of_beq e]; exact (decide_eq_true rfl).symm
      | false => exact (decide_eq_false fun z => by cases z; simp at e).symm
    | _ => exact .inl (evEq_ok R ra rb q)
  | _ => exact .inl (evEq_ok R ra rb q)
def dEq (a b : A) (h : Hh) : Out A := opt (eqB a b h) fun t => frB t fun t => .ok (.bl t) h
def dNe (a b : A) (h : Hh) : Out A := opt (eqB a b h) fun t => frB (!t) fun t => .ok (.bl t) h
theorem dEq_ok {B : DBs} {E : XK} : Leaf2 B.bs.S E dEq (fun x y H Q => rEqD B.bs.S.K x y H Q ∨ rEq x y H Q) := by
  intro ρ h H a b v w Q R ra rb q
  obtain ⟨t, e, q1⟩ := opt_all q
  rw [frB_eq] at q1
  rcases eqB_ok R ra rb e with ⟨d, e', h1, h2, h3, h4, rfl⟩ | ⟨h1, rfl⟩
  · exact .inl ⟨d, e', h1, h2, h3, h4, q1 _ _ _ Ext.refl R rfl⟩
  · exact .inr ⟨h1, q1 _ _ _ Ext.refl R rfl⟩
theorem dNe_ok {B : DBs} {E : XK} : Leaf2 B.bs.S E dNe (fun x y H Q => rNeD B.bs.S.K x y H Q ∨ rNe x y H Q) := by
  intro ρ h H a b v w Q R ra rb q
  obtain ⟨t, e, q1⟩ := opt_all q
  rw [frB_eq] at q1
  rcases eqB_ok R ra rb e with ⟨d, e', h1, h2, h3, h4, rfl⟩ | ⟨h1, rfl⟩
  · exact .inl ⟨d, e', h1, h2, h3, h4, q1 _ _ _ Ext.refl R rfl⟩
  · exact .inr ⟨h1, q1 _ _ _ Ext.refl R rfl⟩
/-! ### order of ints -/
def dLt (a b : A) (h : Hh) : Out A := intK a fun i => intK b fun j => frB (decide (i < j)) fun t => .ok (.bl t) h
def dLe (a b : A) (h : Hh) : Out A := intK a fun i => intK b fun j => frB (decide (i ≤ j)) fun t => .ok (.bl t) h
def dGt (a b : A) (h : Hh) : Out A := intK a fun i => intK b fun j => frB (decide (j < i)) fun t => .ok (.bl t) h
def dGe (a b : A) (h : Hh) : Out A := intK a fun i => intK b fun j => frB (decide (j ≤ i)) fun t => .ok (.bl t) h
theorem dLt_ok {B : DBs} {E : XK} : Leaf2 B.bs.S E dLt (rI0 fun i j => .bl (decide (i < j))) := by
  intro ρ h H a b v w Q R ra rb q
  obtain ⟨i, rfl, q1⟩ := intK_all q
  obtain ⟨j, rfl, q2⟩ := intK_all q1
  rw [frB_eq] at q2
  exact ⟨_, _, ra, rb, q2 _ _ _ Ext.refl R rfl⟩
theorem dLe_ok {B : DBs} {E : XK} : Leaf2 B.bs.S E dLe (rI0 fun i j => .bl (decide (i ≤ j))) := by
  intro ρ h H a b v w Q R ra rb q
  obtain ⟨i, rfl, q1⟩ := intK_all q
  obtain ⟨j, rfl, q2⟩ := intK_all q1
  rw [frB_eq] at q2
  exact ⟨_, _, ra, rb, q2 _ _ _ Ext.refl R rfl⟩
theorem dGt_ok {B : DBs} {E : XK} : Leaf2 B.bs.S E dGt (rI0 fun i j => .bl (decide (j < i))) := by
  intro ρ h H a b v w Q R ra rb q
  obtain ⟨i, rfl, q1⟩ := intK_all q
  obtain ⟨j, rfl, q2⟩ := intK_all q1
  rw [frB_eq] at q2
  exact ⟨_, _, ra, rb, q2 _ _ _ Ext.refl R rfl⟩
theorem dGe_ok {B : DBs} {E : XK} : Leaf2 B.bs.S E dGe (rI0 fun i j => .bl (decide (j ≤ i))) := by
  intro ρ h H a b v w Q R ra rb q
  obtain ⟨i, rfl, q1⟩ := intK_all q
  obtain ⟨j, rfl, q2⟩ := intK_all q1
  rw [frB_eq] at q2
  exact ⟨_, _, ra, rb, q2 _ _ _ Ext.refl R rfl⟩
/-! ### in -/
/-- a sign in a text -/
def natIn (c : Nat) (xs : List Nat) : Bool := List.rec (motive := fun _ => Bool) false (fun x _ ih => Bool.rec (motive := fun _ => Bool) ih true (Nat.beq c x)) xs
theorem natIn_eq (c : Nat) : ∀ xs : List Nat, natIn c xs = decide (c ∈ xs)
  | [] => by simp [natIn]
  | x :: xs => by
    show Bool.rec (motive := fun _ => Bool) (natIn c xs) true (Nat.beq c x) = _
    cases e : Nat.beq c x with
    | true =>
      have z := Nat.eq_of_beq_eq_true e
      subst z
      simp
    | false =>
      have z : c ≠ x := fun z => by subst z; rw [Nat.beq_refl] at e; cases e
      show natIn c xs = _
      rw [natIn_eq c xs]
      simp [z]
def one? (x : Str) : Option Nat := List.rec (motive := fun _ => Option Nat) none (fun c r _ => List.rec (motive := fun _ => Option Nat) (some c) (fun _ _ _ => none) r) x.cps.toList
theorem one_ok {x : Str} {c : Nat} (h : one? x = some c) : x = ⟨#[c]⟩ := by
  obtain ⟨⟨xs⟩⟩ := x
  match xs, h with
  | [d], h =>
    have z : d = c := Option.some.inj h
    rw [z]
/-- flat values -/
def flatA (a : A) : Bool := A.casesOn (motive_1 := fun _ => Bool) a true (fun _ => true) (fun _ => true) (fun _ => true) (fun _ => false) (fun _ => false) (fun _ => false) (fun _ => false)
def flats (xs : List A) : Bool := List.rec (motive := fun _ => Bool) true (fun x _ ih => Bool.rec (motive := fun _ => Bool) false ih (flatA x)) xs
def toV : A → V
  | .non => .non
  | .bl b => .bl b
  | .int i => .int i
  | .str x => .str x
  | _ => .non
theorem flat_rel {S : Sc} {ρ : Rho} {H : Hp} {a : A} {v : V} (f : flatA a = true) (r : Rel S ρ H a v) : v = toV a ∧ flatV v = true := by
  cases a with
  | non => rw [show v = V.non from r]; exact ⟨rfl, rfl⟩
  | bl b => rw [show v = V.bl b from r]; exact ⟨rfl, rfl⟩
  | int b => rw [show v = V.int b from r]; exact ⟨rfl, rfl⟩
  | str b => rw [show v = V.str b from r]; exact ⟨rfl, rfl⟩
  | _ => cases (show false = true from f)
theorem flats_rel {S : Sc} {ρ : Rho} {H : Hp} : ∀ {xs : List A} {vs : List V}, flats xs = true → Rels S ρ H xs vs → vs = xs.map toV ∧ vs.all flatV = true
  | [], vs, _, r => by rw [show vs = [] from r]; exact ⟨rfl, rfl⟩
  | x :: xs, vs, f, ⟨v, r, e, r1, r2⟩ => by
    have f' : Bool.rec (motive := fun _ => Bool) false (flats xs) (flatA x) = true := f
    cases fx : flatA x with
    | false => rw [fx] at f'; cases f'
    | true =>
      rw [fx] at f'
      obtain ⟨h1, h2⟩ := flat_rel fx r1
      obtain ⟨h3, h4⟩ := flats_rel (xs := xs) f' r2
      subst e
      exact ⟨by rw [List.map_cons, ← h1, ← h3], by rw [List.all_cons, h2, h4]; rfl⟩
/-- == of flat values -/
def eqFl (a b : A) : Bool := A.casesOn (motive_1 := fun _ => Bool) a (eqV (toV a) (toV b)) (fun _ => eqV (toV a) (toV b))
  (fun i => A.casesOn (motive_1 := fun _ => Bool) b (eqV (toV a) (toV b)) (fun _ => eqV (toV a) (toV b)) (fun j => decide (i = j)) (fun _ => eqV (toV a) (toV b)) (fun _ => eqV (toV a) (toV b)) (fun _ => eqV (toV a) (toV b)) (fun _ => eqV (toV a) (toV b)) (fun _ => eqV (toV a) (toV b)))
  (fun x => A.casesOn (motive_1 := fun _ => Bool) b (eqV (toV a) (toV b)) (fun _ => eqV (toV a) (toV b)) (fun _ => eqV (toV a) (toV b)) (fun y => strEq x y) (fun _ => eqV (toV a) (toV b)) (fun _ => eqV (toV a) (toV b)) (fun _ => eqV (toV a) (toV b)) (fun _ => eqV (toV a) (toV b)))
  (fun _ => eqV (toV a) (toV b)) (fun _ => eqV (toV a) (toV b)) (fun _ => eqV (toV a) (toV b)) (fun _ => eqV (toV a) (toV b))
theorem eqFl_eq (a b : A) : eqFl a b = eqV (toV a) (toV b) := by
  cases a with
  | int i => cases b with
    | int j => rfl
    | _ => rfl
  | str x => cases b with
    | str y => exact strEq_eq x y
    | _ => rfl
  | _ => rfl
def inFl (x : A) (xs : List A) : Bool := List.rec (motive := fun _ => Bool) false (fun y _ ih => Bool.rec (motive := fun _ => Bool) ih true (eqFl y x)) xs
theorem inFl_eq (x : A) : ∀ xs : List A, inFl x xs = inV (toV x) (xs.map toV)
  | [] => rfl
  | y :: xs => by
    show Bool.rec (motive := fun _ => Bool) (inFl x xs) true (eqFl y x) = ((eqV (toV y) (toV x)) || inV (toV x) (xs.map toV))
    rw [eqFl_eq]
    cases eqV (toV y) (toV x) with
    | true => rfl
    | false => exact inFl_eq x xs
/-- among items of any depth -/
def deepIn (x : A) (xs : List A) (h : Hh) : Option Bool := (toD h deep x).bind fun d => (toDs h deep xs).bind fun ds => if SeqAt.shaped d && SeqAt.shaped (.list ds) then some (ds.any fun z => PyData.eqv z d) else none
def kvIn (c : Key) (kvs : List (A × A)) : Option A := dGet c kvs
/-- in: b, whether it is there -/
def inB (a b : A) (h : Hh) : Option Bool := A.casesOn (motive_1 := fun _ => Option Bool) b none (fun _ => none) (fun _ => none)
  (fun y => A.casesOn (motive_1 := fun _ => Option Bool) a none (fun _ => none) (fun _ => none) (fun x => Option.rec (motive := fun _ => Option Bool) none (fun c => some (natIn c y.cps.toList)) (one? x)) (fun _ => none) (fun _ => none) (fun _ => none) (fun _ => none)) (fun _ => none)
  (fun l => Option.rec (motive := fun _ => Option Bool) none (fun ce => Cell.rec (motive := fun _ => Option Bool) (fun xs => Bool.rec (motive := fun _ => Option Bool) (deepIn a xs h) (some (inFl a xs)) (flatA a && flats xs)) (fun _ => none) (fun kvs => (keyOf a).map fun c => (dGet c kvs).isSome) (fun _ _ => none) (fun _ _ => none) (fun _ => none) ce) (getH h l)) (fun _ => none)
  (fun xs => Bool.rec (motive := fun _ => Option Bool) none (some (inFl a xs)) (flatA a && flats xs))
abbrev rIns (K : PySem.W.Frag) (n : Bool) : R2 := fun x y H Q => ((L2.rIn K n x y H Q ∨ (∃ (c : Nat) (z : Str), x = .str ⟨#[c]⟩ ∧ y = .str z ∧ Q (.bl (n ^^ decide (c ∈ z.cps.toList))) H)) ∨ (∃ d ds, Dp K H x d ∧ Dp K H y (.list ds) ∧ SeqAt.shaped d = true ∧ SeqAt.shaped (.list ds) = true ∧ Q (.bl (n ^^ ds.any fun z => PyData.eqv z d)) H)) ∨ (∃ a o, y = .ref a ∧ DGet H a x o ∧ Q (.bl (n ^^ o.isSome)) H)
theorem inB_ok {B : Bs} {ρ : Rho} {h : Hh} {H : Hp} {a b : A} {v w : V} {t n : Bool} {Q : VK} (R : Rep B.S ρ h H) (ra : Rel B.S ρ H a v) (rb : Rel B.S ρ H b w) (q : inB a b h = some t) (hq : Q (.bl (n ^^ t)) H) : rIns B.S.K n v w H Q := by
  cases b with
  | str y =>
    cases a with
    | str x =>
      have q : Option.rec (motive := fun _ => Option Bool) none (fun c => some (natIn c y.cps.toList)) (one? x) = some t := q
      cases e : one? x with
      | none => rw [e] at q; cases q
      | some c =>
        rw [e] at q
        have z : natIn c y.cps.toList = t := Option.some.inj q
        rw [natIn_eq] at z
        rw [show v = V.str x from ra, show w = V.str y from rb, one_ok e]
        exact .inl (.inl (.inr ⟨c, y, rfl, rfl, by rw [z]; exact hq⟩))
    | _ => cases (show (none : Option Bool) = some t from q)
  | tup xs =>
    have q : Bool.rec (motive := fun _ => Option Bool) none (some (inFl a xs)) (flatA a && flats xs) = some t := q
    cases e : (flatA a && flats xs) with
    | false => rw [e] at q; cases q
    | true =>
      rw [e] at q
      have z : inFl a xs = t := Option.some.inj q
      rw [Bool.and_eq_true] at e
      obtain ⟨p, us, rfl, hs, rs⟩ := rb
      obtain ⟨h1, h2⟩ := flat_rel e.1 ra
      obtain ⟨h3, h4⟩ := flats_rel e.2 rs
      refine .inl (.inl (.inl ⟨p, us, rfl, .inr hs, h2, h4, ?_⟩))
      rw [h1, h3, ← inFl_eq, z]
      cases n with
      | false => simpa using hq
      | true => simpa using hq
  | loc l =>
    have q : Option.rec (motive := fun _ => Option Bool) none (fun ce => Cell.rec (motive := fun _ => Option Bool) (fun xs => Bool.rec (motive := fun _ => Option Bool) (deepIn a xs h) (some (inFl a xs)) (flatA a && flats xs)) (fun _ => none) (fun kvs => (keyOf a).map fun c => (dGet c kvs).isSome) (fun _ _ => none) (fun _ _ => none) (fun _ => none) ce) (getH h l) = some t := q
    rw [getH_eq] at q
    cases g : h.get l with
    | none => rw [g] at q; cases q
    | some ce =>
      rw [g] at q
      cases ce with
      | lst xs =>
        have q : Bool.rec (motive := fun _ => Option Bool) (deepIn a xs h) (some (inFl a xs)) (flatA a && flats xs) = some t := q
        obtain ⟨p, us, rfl, _, hs, rs⟩ := lst_at R rb g
        cases e : (flatA a && flats xs) with
        | true =>
          rw [e] at q
          have z : inFl a xs = t := Option.some.inj q
          rw [Bool.and_eq_true] at e
          obtain ⟨h1, h2⟩ := flat_rel e.1 ra
          obtain ⟨h3, h4⟩ := flats_rel e.2 rs
          refine .inl (.inl (.inl ⟨p, us, rfl, .inl (SqL.of hs), h2, h4, ?_⟩))
          rw [h1, h3, ← inFl_eq, z]
          cases n with
          | false => simpa using hq
          | true => simpa using hq
        | false =>
          rw [e] at q
          have q : deepIn a xs h = some t := q
          unfold deepIn at q
          cases q1 : toD h deep a with
          | none => rw [q1] at q; cases q
          | some d =>
            rw [q1, Option.bind_some] at q
            cases q2 : toDs h deep xs with
            | none => rw [q2] at q; cases q
            | some ds =>
              rw [q2, Option.bind_some] at q
              split at q
              · rename_i hsh
                rw [Bool.and_eq_true] at hsh
                have z := Option.some.inj q
                exact .inl (.inr ⟨d, ds, toD_ok R _ a v d q1 ra, .lst (SqL.of hs) (toDs_ok R _ xs us ds q2 rs), hsh.1, hsh.2, by rw [z]; exact hq⟩)
              · cases q
      | dic kvs =>
        have q : ((keyOf a).map fun c => (dGet c kvs).isSome) = some t := q
        cases ek : keyOf a with
        | none => rw [ek] at q; cases q
        | some kc =>
          rw [ek] at q
          have z : (dGet kc kvs).isSome = t := Option.some.inj q
          obtain ⟨p, rfl, _, x⟩ := cell_at R rb g
          obtain ⟨us, hs, rs⟩ := x
          · refine .inr ⟨p, valV us kc, rfl, .inl ⟨us, kc, .inl hs, key_rel ek ra, rfl⟩, ?_⟩
            have y := RelK.get (c := kc) rs
            have e2 : (valV us kc).isSome = t := by
              rw [← z]
              cases ed : dGet kc kvs with
              | none => rw [y.2 ed]; rfl
              | some b => obtain ⟨u, e1, _⟩ := y.1 b ed; rw [e1]; rfl
            rw [e2]
            exact hq
      | _ => cases (show (none : Option Bool) = some t from q)
  | _ => cases (show (none : Option Bool) = some t from q)
def dIn (a b : A) (h : Hh) : Out A := opt (inB a b h) fun t => frB t fun t => .ok (.bl t) h
def dNin (a b : A) (h : Hh) : Out A := opt (inB a b h) fun t => frB (!t) fun t => .ok (.bl t) h
theorem dIn_ok {B : DBs} {E : XK} : Leaf2 B.bs.S E dIn (rIns B.bs.S.K false) := by
  intro ρ h H a b v w Q R ra rb q
  obtain ⟨t, e, q1⟩ := opt_all q
  rw [frB_eq] at q1
  exact inB_ok R ra rb e (by rw [Bool.false_xor]; exact q1 _ _ _ Ext.refl R rfl)
theorem dNin_ok {B : DBs} {E : XK} : Leaf2 B.bs.S E dNin (rIns B.bs.S.K true) := by
  intro ρ h H a b v w Q R ra rb q
  obtain ⟨t, e, q1⟩ := opt_all q
  rw [frB_eq] at q1
  exact inB_ok R ra rb e (by rw [Bool.true_xor]; exact q1 _ _ _ Ext.refl R rfl)
end
end DV
set_option Elab.async false
set_option linter.all false
set_option maxRecDepth 100000
set_option maxHeartbeats 4000000
namespace DV
open PySem PySem.Spec PyProof.Rows L2 ER EV
noncomputable section
/-! ### comparisons -/
section
variable {X : Cx}
theorem op_in_all (hu : X.A.units + 65 < cLine) : OpR X (compareOp .In) (rIns X.K false) := by
  intro pins s σ H x y v u Q I rx ry h
  rcases h with ((h | h) | h) | h
  · exact op_in_seq pins s σ H x y v u Q I rx ry h
  · refine op_in_sign pins s σ H x y v u Q I rx ry ?_
    obtain ⟨c, z, h1, h2, h3⟩ := h
    exact ⟨c, z, h1, h2, by rw [Bool.false_xor] at h3; exact h3⟩
  · refine op_inD hu pins s σ H x y v u Q I rx ry ?_
    obtain ⟨d, ds, h1, h2, h3, h4, h5⟩ := h
    exact ⟨d, ds, h1, h2, h3, h4, by rw [Bool.false_xor] at h5; exact h5⟩
  · obtain ⟨a, o, rfl, h2, h3⟩ := h
    obtain rfl : u = Value.ref a := ry
    rw [Bool.false_xor] at h3
    exact d_in (by omega) I h2 rx fun s3 I3 => ⟨.bl o.isSome, H, I3, rfl, h3⟩
theorem op_nin_all (hu : X.A.units + 65 < cLine) : OpR X (compareOp .NotIn) (rIns X.K true) := by
  intro pins s σ H x y v u Q I rx ry h
  rcases h with ((h | h) | h) | h
  · exact op_notIn_seq pins s σ H x y v u Q I rx ry h
  · refine op_notIn_sign pins s σ H x y v u Q I rx ry ?_
    obtain ⟨c, z, h1, h2, h3⟩ := h
    exact ⟨c, z, h1, h2, by rw [Bool.true_xor] at h3; exact h3⟩
  · refine op_notInD hu pins s σ H x y v u Q I rx ry ?_
    obtain ⟨d, ds, h1, h2, h3, h4, h5⟩ := h
    exact ⟨d, ds, h1, h2, h3, h4, by rw [Bool.true_xor] at h5; exact h5⟩
  · obtain ⟨a, o, rfl, h2, h3⟩ := h
    obtain rfl : u = Value.ref a := ry
    rw [Bool.true_xor] at h3
    exact d_notIn (by omega) I h2 rx fun s3 I3 => ⟨.bl (!o.isSome), H, I3, rfl, h3⟩
end
def cmpF : CmpOp → Option (A → A → Hh → Out A)
  | .Eq => some dEq | .NotEq => some dNe | .Lt => some dLt | .LtE => some dLe | .Gt => some dGt | .GtE => some dGe | .In => some dIn | .NotIn => some dNin
  | _ => none
/-- what a comparison's reading asks -/
def cmpR (K : PySem.W.Frag) : CmpOp → R2
  | .Eq => fun x y H Q => rEqD K x y H Q ∨ rEq x y H Q
  | .NotEq => fun x y H Q => rNeD K x y H Q ∨ rNe x y H Q
  | .Lt => rI0 fun i j => .bl (decide (i < j))
  | .LtE => rI0 fun i j => .bl (decide (i ≤ j))
  | .Gt => rI0 fun i j => .bl (decide (j < i))
  | .GtE => rI0 fun i j => .bl (decide (j ≤ i))
  | .In => rIns K false
  | .NotIn => rIns K true
  | _ => fun _ _ _ _ => False
theorem cmp_op {X : Cx} {op : CmpOp} {f : A → A → Hh → Out A} (h : cmpF op = some f) (hu : X.A.units + 65 < cLine) : OpR X (compareOp op) (cmpR X.K op) := by
  cases op <;> first | (cases h; done) | skip
  · exact L2.OpR.or (op_eqD (by omega)) op_eq
  · exact L2.OpR.or (op_neD (by omega)) op_ne
  · exact op_lt
  · exact op_le
  · exact op_gt
  · exact op_ge
  · exact op_in_all hu
  · exact op_nin_all hu
theorem cmp_leaf {B : DBs} {E : XK} {op : CmpOp} {f : A → A → Hh → Out A} (h : cmpF op = some f) : Leaf2 B.bs.S E f (cmpR B.bs.S.K op) := by
  cases op <;> first | (cases h; done) | skip
  · cases h; exact dEq_ok
  · cases h; exact dNe_ok
  · cases h; exact dLt_ok
  · cases h; exact dLe_ok
  · cases h; exact dGt_ok
  · cases h; exact dGe_ok
  · cases h; exact dIn_ok
  · cases h; exact dNin_ok
theorem Sg.hu {D : DTb} {c : Cc} {B : DBs} {k : Nat} {call : Cl} {X : Cx} {E : XK} (s : Sg D c B k call X E) : X.A.units + 65 < cLine := by
  have := s.o.room.un
  omega
section
variable {D : DTb} {c : Cc}
theorem s_cmp {a b : Expr} {op : CmpOp} {f : A → A → Hh → Out A} {x y : Den} {pos : Pos} (h : cmpF op = some f) (hm : behindInMarks op b = false) (ha : SE D c a x) (hb : SE D c b y) : SE D c (.Compare a [op] [b] pos) (x2 f x y) := fun s => by
  have ho := cmp_op h s.hu
  rw [s.o.K] at ho
  exact ⟨PE.imp (pe_cmpR ho (ha s).1 (hb s).1 hm) fun σ H Q q => two (cmp_leaf h) q, PT.imp (pt_cmpR ho (ha s).1 (hb s).1 hm) fun σ H Q q => two (cmp_leaf h) (tT_E (B := _) q)⟩
/-! ### a < b < c -/
def xChain (f g : A → A → Hh → Out A) (x y z : Den) : Den := fun c s h => bnd (x c s h) fun a h => bnd (y c s h) fun b h => bnd (f a b h) fun t h => blK t (bnd (z c s h) fun d h => g b d h) (.ok (.bl false) h)
theorem q_chain {B : DBs} {E : XK} {call : Cl} {f g : A → A → Hh → Out A} {r r' : R2} {x y z : Den} (h1 : Leaf2 B.bs.S E f r) (h2 : Leaf2 B.bs.S E g r') {σ : L2.St} {H : Hp} {Q : VK} (q : tE B.bs.S E (xChain f g x y z call) σ H Q) : tChain r r' (tE B.bs.S E (x call)) (tE B.bs.S E (y call)) (tE B.bs.S E (z call)) σ H Q := by
  obtain ⟨ρ, h, s, R, rs, q⟩ := q
  refine ⟨ρ, h, s, R, rs, gob q fun a h1' q1 ρ1 H1 v e1 R1 rv => ?_⟩
  refine ⟨ρ1, h1', s, R1, rs.mono e1, gob (all_mono e1 (fun _ _ y => y) q1) fun b h2' q2 ρ2 H2 w e2 R2 rw => ?_⟩
  refine h1 R2 (rv.mono e2) rw (gob (all_mono e2 (fun _ _ y => y) q2) fun t h3 q3 ρ3 H3 u e3 R3 ru => ?_)
  rcases blK_all q3 with ⟨rfl, q4⟩ | ⟨rfl, q4⟩
  · refine ⟨true, ru, ?_⟩
    rw [if_pos rfl]
    refine ⟨ρ3, h3, s, R3, (rs.mono (e1.trans e2)).mono e3, gob (all_mono e3 (fun _ _ y => y) q4) fun d h4 q5 ρ4 H4 w2 e4 R4 rw2 => ?_⟩
    exact h2 R4 ((rw.mono e3).mono e4) rw2 (all_mono e4 (fun _ _ y => (y.mono ((e1.trans e2).trans e3)).mono e4) q5)
  · refine ⟨false, ru, ?_⟩
    rw [if_neg Bool.false_ne_true]
    exact q4 ρ3 H3 _ ((e1.trans e2).trans e3) R3 rfl
theorem s_chain {a b d : Expr} {op op' : CmpOp} {f g : A → A → Hh → Out A} {x y z : Den} {pos : Pos} (h : cmpF op = some f) (h' : cmpF op' = some g) (hm : lastMarks [op, op'] [b, d] = false) (ha : SE D c a x) (hb : SE D c b y) (hd : SE D c d z) : SE D c (.Compare a [op, op'] [b, d] pos) (xChain f g x y z) := fun s => by
  have ho := cmp_op h s.hu
  have ho' := cmp_op h' s.hu
  rw [s.o.K] at ho ho'
  exact ⟨PE.imp (pe_chain ho ho' (ha s).1 (hb s).1 (hd s).1 hm) fun σ H Q q => q_chain (cmp_leaf h) (cmp_leaf h') q,
    PT.imp (pt_chain ho ho' (ha s).1 (hb s).1 (hd s).1 hm) fun σ H Q q => q_chain (cmp_leaf h) (cmp_leaf h') (tT_E (B := _) q)⟩
/-! ### is None -/
def isNonB (a : A) : Bool := A.casesOn (motive_1 := fun _ => Bool) a true (fun _ => false) (fun _ => false) (fun _ => false) (fun _ => false) (fun _ => false) (fun _ => false) (fun _ => false)
theorem isNonB_eq (a : A) : isNonB a = isNonA a := by cases a <;> rfl
def xIsN (x : Den) : Den := fun c s h => bnd (x c s h) fun a h => .ok (.bl (isNonB a)) h
def xNotN (x : Den) : Den := fun c s h => bnd (x c s h) fun a h => .ok (.bl (!isNonB a)) h
theorem q_isN {B : DBs} {E : XK} {call : Cl} {x : Den} {σ : L2.St} {H : Hp} {Q : VK} (q : tE B.bs.S E (xIsN x call) σ H Q) : tIsN (tE B.bs.S E (x call)) σ H Q := by
  obtain ⟨ρ, h, s, R, rs, q⟩ := q
  refine ⟨ρ, h, s, R, rs, gob q fun a h1 q1 ρ1 H1 v e1 R1 rv => ?_⟩
  dsimp only
  rw [isN_rel rv, ← isNonB_eq]
  exact q1 ρ1 H1 _ e1 R1 rfl
theorem q_notN {B : DBs} {E : XK} {call : Cl} {x : Den} {σ : L2.St} {H : Hp} {Q : VK} (q : tE B.bs.S E (xNotN x call) σ H Q) : tNotN (tE B.bs.S E (x call)) σ H Q := by
  obtain ⟨ρ, h, s, R, rs, q⟩ := q
  refine ⟨ρ, h, s, R, rs, gob q fun a h1 q1 ρ1 H1 v e1 R1 rv => ?_⟩
  dsimp only
  rw [isN_rel rv, ← isNonB_eq]
  exact q1 ρ1 H1 _ e1 R1 rfl
theorem s_isN {a : Expr} {x : Den} {j : Nat} {pos p2 : Pos} (ha : SE D c a x) : SE D c (.Compare a [.Is] [.Constant .none j p2] pos) (xIsN x) := fun s =>
  ⟨PE.imp (pe_cmp (pc_isN (ha s).1) rfl) fun _ _ _ q => q_isN q, PT.imp (pt_cmp (pc_isN (ha s).1) rfl) fun _ _ _ q => q_isN (tT_E (B := _) q)⟩
theorem s_notN {a : Expr} {x : Den} {j : Nat} {pos p2 : Pos} (ha : SE D c a x) : SE D c (.Compare a [.IsNot] [.Constant .none j p2] pos) (xNotN x) := fun s =>
  ⟨PE.imp (pe_cmp (pc_notN (ha s).1) rfl) fun _ _ _ q => q_notN q, PT.imp (pt_cmp (pc_notN (ha s).1) rfl) fun _ _ _ q => q_notN (tT_E (B := _) q)⟩
/-! ### and, or, not, if -/
def xAnd (x y : Den) : Den := fun c s h => bnd (x c s h) fun a h => blK a (y c s h) (.ok (.bl false) h)
def xOr (x y : Den) : Den := fun c s h => bnd (x c s h) fun a h => blK a (.ok (.bl true) h) (y c s h)
def xNot (x : Den) : Den := fun c s h => bnd (x c s h) fun a h => blK a (.ok (.bl false) h) (.ok (.bl true) h)
def xIfe (t x y : Den) : Den := fun c s h => bnd (t c s h) fun a h => blK a (x c s h) (y c s h)
section
variable {B : DBs} {E : XK} {call : Cl} {x y t : Den} {σ : L2.St} {H : Hp}
theorem q_and {Q : VK} (q : tE B.bs.S E (xAnd x y call) σ H Q) : tAndV (tE B.bs.S E (x call)) (tE B.bs.S E (y call)) σ H Q := by
  obtain ⟨ρ, h, s, R, rs, q⟩ := q
  refine ⟨ρ, h, s, R, rs, gob q fun a h1 q1 ρ1 H1 v e1 R1 rv => ?_⟩
  rcases blK_all q1 with ⟨rfl, q2⟩ | ⟨rfl, q2⟩
  · exact ⟨true, rv, by rw [if_pos rfl]; exact ⟨ρ1, h1, s, R1, rs.mono e1, all_mono e1 (fun _ _ y => y.mono e1) q2⟩⟩
  · exact ⟨false, rv, by rw [if_neg Bool.false_ne_true]; exact q2 ρ1 H1 _ e1 R1 rfl⟩
theorem q_or {Q : VK} (q : tE B.bs.S E (xOr x y call) σ H Q) : tOrV (tE B.bs.S E (x call)) (tE B.bs.S E (y call)) σ H Q := by
  obtain ⟨ρ, h, s, R, rs, q⟩ := q
  refine ⟨ρ, h, s, R, rs, gob q fun a h1 q1 ρ1 H1 v e1 R1 rv => ?_⟩
  rcases blK_all q1 with ⟨rfl, q2⟩ | ⟨rfl, q2⟩
  · exact ⟨true, rv, by rw [if_pos rfl]; exact q2 ρ1 H1 _ e1 R1 rfl⟩
  · exact ⟨false, rv, by rw [if_neg Bool.false_ne_true]; exact ⟨ρ1, h1, s, R1, rs.mono e1, all_mono e1 (fun _ _ y => y.mono e1) q2⟩⟩
theorem q_not {Q : VK} (q : tE B.bs.S E (xNot x call) σ H Q) : tNotV (tE B.bs.S E (x call)) σ H Q := by
  obtain ⟨ρ, h, s, R, rs, q⟩ := q
  refine ⟨ρ, h, s, R, rs, gob q fun a h1 q1 ρ1 H1 v e1 R1 rv => ?_⟩
  rcases blK_all q1 with ⟨rfl, q2⟩ | ⟨rfl, q2⟩
  · exact ⟨true, rv, q2 ρ1 H1 _ e1 R1 rfl⟩
  · exact ⟨false, rv, q2 ρ1 H1 _ e1 R1 rfl⟩
theorem tw_of {ρ1 : Rho} {h1 : Hh} {ρ : Rho} {b : Bool} {Q : Bool → Hp → Prop} {H1 : Hp} (q : (Out.ok (A.bl b) h1).All (TW B.bs.S ρ H Q) (XW B.bs.S ρ H E)) (e1 : Ext B.bs.S ρ H ρ1 H1) (R1 : Rep B.bs.S ρ1 h1 H1) : Q b H1 := by
  obtain ⟨b', e, z⟩ := q
  cases e
  exact z ρ1 H1 e1 R1
theorem t_and {Q : Bool → Hp → Prop} (q : tT B.bs.S E (xAnd x y call) σ H Q) : tAnd (tT B.bs.S E (x call)) (tT B.bs.S E (y call)) σ H Q := by
  obtain ⟨ρ, h, s, R, rs, q⟩ := q
  refine ⟨ρ, h, s, R, rs, gob q fun a h1 q1 => ?_⟩
  rcases blK_all q1 with ⟨rfl, q2⟩ | ⟨rfl, q2⟩
  · exact ⟨true, rfl, fun ρ1 H1 e1 R1 => by dsimp only; rw [if_pos rfl]; exact ⟨ρ1, h1, s, R1, rs.mono e1, all_mono e1 (fun _ _ y => y.mono e1) q2⟩⟩
  · exact ⟨false, rfl, fun ρ1 H1 e1 R1 => by dsimp only; rw [if_neg Bool.false_ne_true]; exact tw_of q2 e1 R1⟩
theorem t_or {Q : Bool → Hp → Prop} (q : tT B.bs.S E (xOr x y call) σ H Q) : tOr (tT B.bs.S E (x call)) (tT B.bs.S E (y call)) σ H Q := by
  obtain ⟨ρ, h, s, R, rs, q⟩ := q
  refine ⟨ρ, h, s, R, rs, gob q fun a h1 q1 => ?_⟩
  rcases blK_all q1 with ⟨rfl, q2⟩ | ⟨rfl, q2⟩
  · exact ⟨true, rfl, fun ρ1 H1 e1 R1 => by dsimp only; rw [if_pos rfl]; exact tw_of q2 e1 R1⟩
  · exact ⟨false, rfl, fun ρ1 H1 e1 R1 => by dsimp only; rw [if_neg Bool.false_ne_true]; exact ⟨ρ1, h1, s, R1, rs.mono e1, all_mono e1 (fun _ _ y => y.mono e1) q2⟩⟩
theorem t_not {Q : Bool → Hp → Prop} (q : tT B.bs.S E (xNot x call) σ H Q) : tNot (tT B.bs.S E (x call)) σ H Q := by
  obtain ⟨ρ, h, s, R, rs, q⟩ := q
  refine ⟨ρ, h, s, R, rs, gob q fun a h1 q1 => ?_⟩
  rcases blK_all q1 with ⟨rfl, q2⟩ | ⟨rfl, q2⟩
  · exact ⟨true, rfl, fun ρ1 H1 e1 R1 => tw_of q2 e1 R1⟩
  · exact ⟨false, rfl, fun ρ1 H1 e1 R1 => tw_of q2 e1 R1⟩
theorem q_ife {Q : VK} (q : tE B.bs.S E (xIfe t x y call) σ H Q) : tIf (tT B.bs.S E (t call)) (tE B.bs.S E (x call)) (tE B.bs.S E (y call)) σ H Q := by
  obtain ⟨ρ, h, s, R, rs, q⟩ := q
  refine ⟨ρ, h, s, R, rs, gob q fun a h1 q1 => ?_⟩
  rcases blK_all q1 with ⟨rfl, q2⟩ | ⟨rfl, q2⟩
  · exact ⟨true, rfl, fun ρ1 H1 e1 R1 => by dsimp only; rw [if_pos rfl]; exact ⟨ρ1, h1, s, R1, rs.mono e1, all_mono e1 (fun _ _ y => y.mono e1) q2⟩⟩
  · exact ⟨false, rfl, fun ρ1 H1 e1 R1 => by dsimp only; rw [if_neg Bool.false_ne_true]; exact ⟨ρ1, h1, s, R1, rs.mono e1, all_mono e1 (fun _ _ y => y.mono e1) q2⟩⟩
theorem t_ife {Q : Bool → Hp → Prop} (q : tT B.bs.S E (xIfe t x y call) σ H Q) : tT B.bs.S E (t call) σ H fun b H1 => if b = true then tT B.bs.S E (x call) σ H1 Q else tT B.bs.S E (y call) σ H1 Q := by
  obtain ⟨ρ, h, s, R, rs, q⟩ := q
  refine ⟨ρ, h, s, R, rs, gob q fun a h1 q1 => ?_⟩
  rcases blK_all q1 with ⟨rfl, q2⟩ | ⟨rfl, q2⟩
  · exact ⟨true, rfl, fun ρ1 H1 e1 R1 => by dsimp only; rw [if_pos rfl]; exact ⟨ρ1, h1, s, R1, rs.mono e1, all_mono e1 (fun _ _ y => y.mono e1) q2⟩⟩
  · exact ⟨false, rfl, fun ρ1 H1 e1 R1 => by dsimp only; rw [if_neg Bool.false_ne_true]; exact ⟨ρ1, h1, s, R1, rs.mono e1, all_mono e1 (fun _ _ y => y.mono e1) q2⟩⟩
end
theorem s_and2 {a b : Expr} {x y : Den} {pos : Pos} (ha : SE D c a x) (hb : SE D c b y) : SE D c (.BoolOp .And [a, b] pos) (xAnd x y) := fun s =>
  ⟨PE.imp (pe_and (ha s).1 (pe_one (hb s).1)) fun _ _ _ q => q_and q, PT.imp (PW.pt (pw_and (ha s).2 (pw_and1 (hb s).2))) fun _ _ _ q => t_and q⟩
theorem s_andN {a b d : Expr} {r : List Expr} {x y : Den} {pos : Pos} (ha : SE D c a x) (hb : SE D c (.BoolOp .And (b :: d :: r) pos) y) : SE D c (.BoolOp .And (a :: b :: d :: r) pos) (xAnd x y) := fun s =>
  ⟨PE.imp (pe_and (ha s).1 (hb s).1) fun _ _ _ q => q_and q, PT.imp (PW.pt (pw_and (ha s).2 (pw_of (hb s).2))) fun _ _ _ q => t_and q⟩
theorem s_or2 {a b : Expr} {x y : Den} {pos : Pos} (ha : SE D c a x) (hb : SE D c b y) : SE D c (.BoolOp .Or [a, b] pos) (xOr x y) := fun s =>
  ⟨PE.imp (pe_or (ha s).1 (pe_one (hb s).1)) fun _ _ _ q => q_or q, PT.imp (PW.pt (pw_or (ha s).2 (pw_or1 (hb s).2))) fun _ _ _ q => t_or q⟩
theorem s_orN {a b d : Expr} {r : List Expr} {x y : Den} {pos : Pos} (ha : SE D c a x) (hb : SE D c (.BoolOp .Or (b :: d :: r) pos) y) : SE D c (.BoolOp .Or (a :: b :: d :: r) pos) (xOr x y) := fun s =>
  ⟨PE.imp (pe_or (ha s).1 (hb s).1) fun _ _ _ q => q_or q, PT.imp (PW.pt (pw_or (ha s).2 (pw_of (hb s).2))) fun _ _ _ q => t_or q⟩
theorem s_not {a : Expr} {x : Den} {pos : Pos} (ha : SE D c a x) : SE D c (.UnaryOp .Not a pos) (xNot x) := fun s =>
  ⟨PE.imp (pe_not (ha s).1) fun _ _ _ q => q_not q, PT.imp (pt_not (ha s).2) fun _ _ _ q => t_not q⟩
theorem s_ife {t a b : Expr} {u x y : Den} {pos : Pos} (ht : SE D c t u) (ha : SE D c a x) (hb : SE D c b y) : SE D c (.IfExp t a b pos) (xIfe u x y) := fun s =>
  ⟨PE.imp (pe_ifExp (ht s).2 (ha s).1 (hb s).1) fun _ _ _ q => q_ife q, PT.imp (pt_ifE (ht s).2 (ha s).2 (hb s).2) fun _ _ _ q => t_ife q⟩
end
end
end DV
set_option Elab.async false
set_option linter.all false
set_option maxRecDepth 100000
set_option maxHeartbeats 4000000
namespace DV
open PySem PySem.Spec PyProof.Rows L2 ER EV
noncomputable section
/-! ### arguments, displays -/
abbrev Dar := Cl → Sl → Hh → Out (List A)
def aNil : Dar := fun _ _ h => .ok [] h
def aCons (x : Den) (xs : Dar) : Dar := fun c s h => bnd (x c s h) fun a h => bnd (xs c s h) fun as h => .ok (a :: as) h
section
variable {D : DTb} {c : Cc}
theorem s_nil : SA D c [] aNil := fun s => ⟨PA.imp pa_nil fun σ H Q q => by
  obtain ⟨ρ, h, s, R, rs, q⟩ := q
  exact q ρ H [] Ext.refl R rfl, fun _ => rfl⟩
theorem s_cons {e : Expr} {es : List Expr} {x : Den} {xs : Dar} (hn : notStar e = true) (he : SE D c e x) (hs : SA D c es xs) : SA D c (e :: es) (aCons x xs) := fun s => by
  refine ⟨PA.imp (pa_cons (he s).1 (hs s).1 (star_cons hn)) fun σ H Q q => ?_, fun pos => ?_⟩
  · obtain ⟨ρ, h, s, R, rs, q⟩ := q
    refine ⟨ρ, h, s, R, rs, gob q fun a h1 q1 ρ1 H1 v e1 R1 rv => ?_⟩
    refine ⟨ρ1, h1, s, R1, rs.mono e1, gob (all_mono e1 (fun _ _ y => y) q1) fun as h2 q2 ρ2 H2 vs e2 R2 rvs => ?_⟩
    exact q2 ρ2 H2 (v :: vs) (e1.trans e2) R2 ⟨v, vs, rfl, rv.mono e2, rvs⟩
  · rw [star_cons hn]
    show (false || _) = false
    rw [Bool.false_or]
    exact (hs s).2 pos
def xTup (xs : Dar) : Den := fun c s h => bnd (xs c s h) fun as h => newTup as h
def xLst (xs : Dar) : Den := fun c s h => bnd (xs c s h) fun as h => newLst as h
theorem s_tup {es : List Expr} {k : Nat} {pos : Pos} {xs : Dar} (hs : SA D c es xs) : SE D c (.Tuple es k pos) (xTup xs) := plE rfl fun s => PE.imp (pe_tup (hs s).1) fun σ H Q q => by
  obtain ⟨ρ, h, s, R, rs, q⟩ := q
  refine ⟨ρ, h, s, R, rs, gob q fun as h1 q1 ρ1 H1 vs e1 R1 rv => ?_⟩
  obtain ⟨hl, q2⟩ := newTup_all q1
  refine ⟨by rw [Rels.length rv]; exact hl, fun p n => ?_⟩
  exact q2 ρ1 _ _ (e1.trans (Ext.more n)) (R1.more n) ⟨p, vs, rfl, .inl (.inl upd_same), Rels.mono (Ext.more n) rv⟩
theorem s_lst {es : List Expr} {pos : Pos} {xs : Dar} (hs : SA D c es xs) : SE D c (.List es pos) (xLst xs) := plE rfl fun s => PE.imp (pe_lst (hs s).1) fun σ H Q q => by
  obtain ⟨ρ, h, s, R, rs, q⟩ := q
  refine ⟨ρ, h, s, R, rs, gob q fun as h1 q1 ρ1 H1 vs e1 R1 rv => ?_⟩
  exact newLst_ok (Q := Q) R1 rv (all_mono e1 (fun _ _ y => y.mono e1) q1)
end
/-! ### built-ins by values -/
def xBi (f : List A → Hh → Out A) (xs : Dar) : Den := fun c s h => bnd (xs c s h) fun as h => f as h
theorem q_args {B : DBs} {E : XK} {call : Cl} {xs : Dar} {f : List A → Hh → Out A} {rr : List V → Hp → VK → Prop} (hop : ∀ {ρ h H as vs Q}, Rep B.bs.S ρ h H → Rels B.bs.S ρ H as vs → (f as h).All (QW B.bs.S ρ H Q) (XW B.bs.S ρ H E) → rr vs H Q)
    {σ : L2.St} {H : Hp} {Q : VK} (q : tE B.bs.S E (xBi f xs call) σ H Q) : tCB rr (tAs B.bs.S E (xs call)) σ H Q := by
  obtain ⟨ρ, h, s, R, rs, q⟩ := q
  refine ⟨ρ, h, s, R, rs, gob q fun as h1 q1 ρ1 H1 vs e1 R1 rv => ?_⟩
  exact hop R1 rv (all_mono e1 (fun _ _ y => y.mono e1) q1)
def one {β : Type} (as : List A) (k : A → Out β) : Out β := List.rec (motive := fun _ => Out β) .bad (fun a r _ => List.rec (motive := fun _ => Out β) (k a) (fun _ _ _ => .bad) r) as
theorem one_all {β : Type} {as : List A} {k : A → Out β} {P : β → Hh → Prop} {X : Nat → List (Str × A) → Hh → Prop} (q : (one as k).All P X) : ∃ a, as = [a] ∧ (k a).All P X := by
  match as, q with
  | [], q => exact q.elim
  | [a], q => exact ⟨a, rfl, q⟩
  | _ :: _ :: _, q => exact q.elim
def pair {β : Type} (as : List A) (k : A → A → Out β) : Out β := List.rec (motive := fun _ => Out β) .bad (fun a r _ => List.rec (motive := fun _ => Out β) .bad (fun b r _ => List.rec (motive := fun _ => Out β) (k a b) (fun _ _ _ => .bad) r) r) as
theorem pair_all {β : Type} {as : List A} {k : A → A → Out β} {P : β → Hh → Prop} {X : Nat → List (Str × A) → Hh → Prop} (q : (pair as k).All P X) : ∃ a b, as = [a, b] ∧ (k a b).All P X := by
  match as, q with
  | [], q => exact q.elim
  | [a], q => exact q.elim
  | [a, b], q => exact ⟨a, b, rfl, q⟩
  | _ :: _ :: _ :: _, q => exact q.elim
/-- len -/
def dLen (as : List A) (h : Hh) : Out A := one as fun a => A.casesOn (motive_1 := fun _ => Out A) a .bad (fun _ => .bad) (fun _ => .bad) (fun x => lenK x.cps.toList 0 fun n => guard (Nat.ble n lim) (.ok (.int (.ofNat n)) h)) (fun _ => .bad)
  (fun l => Option.rec (motive := fun _ => Out A) .bad (fun ce => Cell.rec (motive := fun _ => Out A) (fun xs => lenK xs 0 fun n => .ok (.int (.ofNat n)) h) (fun kvs => lenK kvs 0 fun n => .ok (.int (.ofNat n)) h) (fun kvs => lenK kvs 0 fun n => .ok (.int (.ofNat n)) h) (fun _ _ => .bad) (fun _ _ => .bad) (fun _ => .bad) ce) (getH h l)) (fun _ => .bad) (fun xs => lenK xs 0 fun n => .ok (.int (.ofNat n)) h)
abbrev rLens (K : PySem.W.Frag) : List V → Hp → VK → Prop := fun xs H Q => rLenA K xs H Q ∨ ∃ z, xs = [.str z] ∧ z.length ≤ sizeLine ∧ Q (.int z.length) H
theorem dLen_ok {B : DBs} {E : XK} {ρ : Rho} {h : Hh} {H : Hp} {as : List A} {vs : List V} {Q : VK} (R : Rep B.bs.S ρ h H) (ra : Rels B.bs.S ρ H as vs) (q : (dLen as h).All (QW B.bs.S ρ H Q) (XW B.bs.S ρ H E)) : rLens B.bs.S.K vs H Q := by
  obtain ⟨a, rfl, q1⟩ := one_all q
  obtain ⟨v, r1, rfl, rx, e⟩ := ra
  rw [show r1 = [] from e]
  cases a with
  | str x =>
    have q2 : (lenK x.cps.toList 0 fun n => guard (Nat.ble n lim) (.ok (.int (.ofNat n)) h)).All (QW B.bs.S ρ H Q) (XW B.bs.S ρ H E) := q1
    rw [lenK_eq, Nat.zero_add] at q2
    obtain ⟨hc, q3⟩ := guard_all q2
    rw [show v = V.str x from rx]
    exact .inr ⟨x, rfl, Nat.le_trans (Nat.le_of_ble_eq_true hc) (by decide), q3 _ _ _ Ext.refl R rfl⟩
  | tup xs =>
    have q2 : (lenK xs 0 fun n => Out.ok (.int (.ofNat n)) h).All (QW B.bs.S ρ H Q) (XW B.bs.S ρ H E) := q1
    rw [lenK_eq, Nat.zero_add] at q2
    obtain ⟨p, us, rfl, hs, rs⟩ := rx
    exact .inl (.inl ⟨p, us, rfl, .inr hs, by rw [Rels.length rs]; exact q2 _ _ _ Ext.refl R rfl⟩)
  | loc l =>
    have q2 : (Option.rec (motive := fun _ => Out A) .bad (fun ce => Cell.rec (motive := fun _ => Out A) (fun xs => lenK xs 0 fun n => .ok (.int (.ofNat n)) h) (fun kvs => lenK kvs 0 fun n => .ok (.int (.ofNat n)) h) (fun kvs => lenK kvs 0 fun n => .ok (.int (.ofNat n)) h) (fun _ _ => .bad) (fun _ _ => .bad) (fun _ => .bad) ce) (getH h l)).All (QW B.bs.S ρ H Q) (XW B.bs.S ρ H E) := q1
    rw [getH_eq] at q2
    cases g : h.get l with
    | none => rw [g] at q2; exact q2.elim
    | some ce =>
      rw [g] at q2
      cases ce with
      | lst xs =>
        have q3 : (lenK xs 0 fun n => Out.ok (.int (.ofNat n)) h).All (QW B.bs.S ρ H Q) (XW B.bs.S ρ H E) := q2
        rw [lenK_eq, Nat.zero_add] at q3
        obtain ⟨p, us, rfl, _, hs, rs⟩ := lst_at R rx g
        exact .inl (.inl ⟨p, us, rfl, .inl (SqL.of hs), by rw [Rels.length rs]; exact q3 _ _ _ Ext.refl R rfl⟩)
      | dic kvs =>
        have q3 : (lenK kvs 0 fun n => Out.ok (.int (.ofNat n)) h).All (QW B.bs.S ρ H Q) (XW B.bs.S ρ H E) := q2
        rw [lenK_eq, Nat.zero_add] at q3
        obtain ⟨p, rfl, _, us, hs, rs⟩ := cell_at R rx g
        exact .inl (.inr ⟨p, us, rfl, .inl hs, by rw [RelK.length rs]; exact q3 _ _ _ Ext.refl R rfl⟩)
      | dct kvs =>
        have q3 : (lenK kvs 0 fun n => Out.ok (.int (.ofNat n)) h).All (QW B.bs.S ρ H Q) (XW B.bs.S ρ H E) := q2
        rw [lenK_eq, Nat.zero_add] at q3
        obtain ⟨p, rfl, _, o, us, hs, rs⟩ := cell_at R rx g
        exact .inl (.inr ⟨p, us, rfl, .inr ⟨o, hs⟩, by rw [RelK.length rs]; exact q3 _ _ _ Ext.refl R rfl⟩)
      | _ => exact q2.elim
  | _ => exact q1.elim
/-- all, any of a list of truth values -/
def blsK (xs : List A) : (List Bool → Out A) → Out A := List.rec (motive := fun _ => (List Bool → Out A) → Out A) (fun k => k []) (fun x _ ih k => blK x (ih fun r => k (true :: r)) (ih fun r => k (false :: r))) xs
theorem blsK_all {P : A → Hh → Prop} {X : Nat → List (Str × A) → Hh → Prop} : ∀ {xs : List A} {k : List Bool → Out A}, (blsK xs k).All P X → ∃ bs, boolsOf xs = some bs ∧ (k bs).All P X
  | [], k, q => ⟨[], rfl, q⟩
  | x :: xs, k, q => by
    rcases blK_all (show (blK x (blsK xs fun r => k (true :: r)) (blsK xs fun r => k (false :: r))).All P X from q) with ⟨rfl, q1⟩ | ⟨rfl, q1⟩
    · obtain ⟨bs, e, q2⟩ := blsK_all q1
      exact ⟨true :: bs, by unfold boolsOf; rw [e]; rfl, q2⟩
    · obtain ⟨bs, e, q2⟩ := blsK_all q1
      exact ⟨false :: bs, by unfold boolsOf; rw [e]; rfl, q2⟩
def allL (bs : List Bool) : Bool := List.rec (motive := fun _ => Bool) true (fun b _ ih => Bool.rec (motive := fun _ => Bool) false ih b) bs
def anyL (bs : List Bool) : Bool := List.rec (motive := fun _ => Bool) false (fun b _ ih => Bool.rec (motive := fun _ => Bool) ih true b) bs
theorem allL_eq : ∀ bs : List Bool, allL bs = bs.all id
  | [] => rfl
  | true :: bs => allL_eq bs
  | false :: _ => rfl
theorem anyL_eq : ∀ bs : List Bool, anyL bs = bs.any id
  | [] => rfl
  | false :: bs => anyL_eq bs
  | true :: _ => rfl
def dAll (as : List A) (h : Hh) : Out A := one as fun a => lstK a h fun _ xs => blsK xs fun bs => frB (allL bs) fun t => .ok (.bl t) h
def dAny (as : List A) (h : Hh) : Out A := one as fun a => lstK a h fun _ xs => blsK xs fun bs => frB (anyL bs) fun t => .ok (.bl t) h
theorem dAll_ok {B : DBs} {E : XK} {ρ : Rho} {h : Hh} {H : Hp} {as : List A} {vs : List V} {Q : VK} (R : Rep B.bs.S ρ h H) (ra : Rels B.bs.S ρ H as vs) (q : (dAll as h).All (QW B.bs.S ρ H Q) (XW B.bs.S ρ H E)) : rAll B.bs.S.K vs H Q := by
  obtain ⟨a, rfl, q1⟩ := one_all q
  obtain ⟨v, r1, rfl, rx, e⟩ := ra
  rw [show r1 = [] from e]
  obtain ⟨l, xs, rfl, g, q2⟩ := lstK_all q1
  obtain ⟨bs, eb, q3⟩ := blsK_all q2
  rw [frB_eq, allL_eq] at q3
  obtain ⟨p, us, rfl, _, hs, rs⟩ := lst_at R rx g
  rw [bools_ok eb rs] at hs
  exact ⟨p, bs, rfl, SqL.of hs, q3 _ _ _ Ext.refl R rfl⟩
theorem dAny_ok {B : DBs} {E : XK} {ρ : Rho} {h : Hh} {H : Hp} {as : List A} {vs : List V} {Q : VK} (R : Rep B.bs.S ρ h H) (ra : Rels B.bs.S ρ H as vs) (q : (dAny as h).All (QW B.bs.S ρ H Q) (XW B.bs.S ρ H E)) : rAny B.bs.S.K vs H Q := by
  obtain ⟨a, rfl, q1⟩ := one_all q
  obtain ⟨v, r1, rfl, rx, e⟩ := ra
  rw [show r1 = [] from e]
  obtain ⟨l, xs, rfl, g, q2⟩ := lstK_all q1
  obtain ⟨bs, eb, q3⟩ := blsK_all q2
  rw [frB_eq, anyL_eq] at q3
  obtain ⟨p, us, rfl, _, hs, rs⟩ := lst_at R rx g
  rw [bools_ok eb rs] at hs
  exact ⟨p, bs, rfl, SqL.of hs, q3 _ _ _ Ext.refl R rfl⟩
/-! ### isinstance -/
theorem beqN (a b : Nat) : Nat.beq a b = (a == b) := by
  cases e : (a == b) with
  | true => rw [eq_of_beq e]; exact Nat.beq_refl b
  | false =>
    cases q : Nat.beq a b with
    | false => rfl
    | true => rw [Nat.eq_of_beq_eq_true q] at e; simp at e
def tyQ (xa : List (List Nat × List Nat)) (ik : List Nat) (a : A) (h : Hh) : Option A := A.casesOn (motive_1 := fun _ => Option A) a (some (.ty 6)) (fun _ => some (.ty 1)) (fun _ => some (.ty 0)) (fun _ => some (.ty 2)) (fun _ => none)
  (fun l => Option.rec (motive := fun _ => Option A) none (fun ce => Cell.rec (motive := fun _ => Option A) (fun _ => some (.ty 3)) (fun _ => some (.ty 5)) (fun _ => some (.ty 5)) (fun C _ => Bool.rec (motive := fun _ => Option A) none (some (.glo C)) (natIn C ik)) (fun C _ => Option.rec (motive := fun _ => Option A) none (fun _ => some (.glo C)) (nth xa C)) (fun _ => none) ce) (getH h l)) (fun _ => none) (fun _ => some (.ty 4))
def isiQ (k : Kit) (t c : A) : Option Bool := A.casesOn (motive_1 := fun _ => Option Bool) t none (fun _ => none) (fun _ => none) (fun _ => none)
  (fun a => A.casesOn (motive_1 := fun _ => Option Bool) c none (fun _ => none) (fun _ => none) (fun _ => none) (fun b => Bool.rec (motive := fun _ => Option Bool) none (some (Nat.beq a b || (Nat.beq a 1 && Nat.beq b 0))) (Nat.ble a 6 && Nat.ble b 6)) (fun _ => none) (fun g => Bool.rec (motive := fun _ => Option Bool) none ((nth k.anc g).map fun _ => false) (Nat.ble a 6)) (fun _ => none))
  (fun _ => none) (fun g => A.casesOn (motive_1 := fun _ => Option Bool) c none (fun _ => none) (fun _ => none) (fun _ => none) (fun b => isi1 k (.glo g) (.ty b)) (fun _ => none) (fun g' => isi1 k (.glo g) (.glo g')) (fun _ => none)) (fun _ => none)
theorem isiQ_eq (k : Kit) (t c : A) : isiQ k t c = isi1 k t c := by
  cases t with
  | ty a => cases c with
    | ty b =>
      unfold isi1
      show Bool.rec (motive := fun _ => Option Bool) none (some (Nat.beq a b || (Nat.beq a 1 && Nat.beq b 0))) (Nat.ble a 6 && Nat.ble b 6) = _
      dsimp only
      by_cases h : a ≤ 6 ∧ b ≤ 6
      · rw [if_pos h, Nat.ble_eq_true_of_le h.1, Nat.ble_eq_true_of_le h.2, beqN, beqN, beqN]
        rfl
      · rw [if_neg h]
        have z : (Nat.ble a 6 && Nat.ble b 6) = false := by
          cases e : (Nat.ble a 6 && Nat.ble b 6) with
          | false => rfl
          | true =>
            rw [Bool.and_eq_true] at e
            exact absurd ⟨Nat.le_of_ble_eq_true e.1, Nat.le_of_ble_eq_true e.2⟩ h
        rw [z]
    | glo g =>
      unfold isi1
      show Bool.rec (motive := fun _ => Option Bool) none ((nth k.anc g).map fun _ => false) (Nat.ble a 6) = _
      dsimp only
      rw [nth_eq]
      by_cases h : a ≤ 6
      · rw [if_pos h, Nat.ble_eq_true_of_le h]
      · rw [if_neg h]
        have z : Nat.ble a 6 = false := by
          cases e : Nat.ble a 6 with
          | false => rfl
          | true => exact absurd (Nat.le_of_ble_eq_true e) h
        rw [z]
    | _ => rfl
  | glo g => cases c <;> rfl
  | _ => cases c <;> rfl
def isiAnyQ (k : Kit) (t : A) (cs : List A) : Option Bool := List.rec (motive := fun _ => Option Bool) (some false) (fun c _ ih => Option.rec (motive := fun _ => Option Bool) none (fun b => Bool.rec (motive := fun _ => Option Bool) ih (some true) b) (isiQ k t c)) cs
theorem isiAnyQ_eq (k : Kit) (t : A) : ∀ cs, isiAnyQ k t cs = isiAny k t cs
  | [] => rfl
  | c :: cs => by
    show Option.rec (motive := fun _ => Option Bool) none (fun b => Bool.rec (motive := fun _ => Option Bool) (isiAnyQ k t cs) (some true) b) (isiQ k t c) = _
    unfold isiAny
    rw [isiQ_eq, isiAnyQ_eq k t cs]
    cases isi1 k t c with
    | none => rfl
    | some b => cases b <;> rfl
def isiAllQ (k : Kit) (t : A) (cs : List A) : Bool := List.rec (motive := fun _ => Bool) true (fun c _ ih => Option.rec (motive := fun _ => Bool) false (fun _ => ih) (isiQ k t c)) cs
theorem isiAllQ_ok {k : Kit} {t : A} : ∀ {cs : List A}, isiAllQ k t cs = true → ∀ c ∈ cs, ∃ b', isi1 k t c = some b'
  | [], _, _, h => nomatch h
  | c :: cs, q, d, h => by
    have q : Option.rec (motive := fun _ => Bool) false (fun _ => isiAllQ k t cs) (isiQ k t c) = true := q
    rw [isiQ_eq] at q
    cases e : isi1 k t c with
    | none => rw [e] at q; cases q
    | some b =>
      rw [e] at q
      rcases List.mem_cons.mp h with rfl | h
      · exact ⟨b, e⟩
      · exact isiAllQ_ok (cs := cs) q d h
def dIsi (k : Kit) (xa : List (List Nat × List Nat)) (ik : List Nat) (as : List A) (h : Hh) : Out A := pair as fun a c => opt (tyQ xa ik a h) fun t => A.casesOn (motive_1 := fun _ => Out A) c .bad (fun _ => .bad) (fun _ => .bad) (fun _ => .bad) (fun n => opt (isiQ k t (.ty n)) fun b => frB b fun b => .ok (.bl b) h) (fun _ => .bad) (fun g => opt (isiQ k t (.glo g)) fun b => frB b fun b => .ok (.bl b) h)
  (fun cs => guard (!cs.isEmpty && isiAllQ k t cs) (opt (isiAnyQ k t cs) fun b => frB b fun b => .ok (.bl b) h))
theorem tyQ_ok {B : DBs} (BO : DOk B) {ρ : Rho} {h : Hh} {H : Hp} {a t : A} {v : V} (R : Rep B.bs.S ρ h H) (ra : Rel B.bs.S ρ H a v) (e : tyQ B.bs.T.kit.anc B.D.ins a h = some t) :
    ∃ tv, TyVal B.bs.S t tv ∧ TyZ B.bs.S.K H v tv := by
  cases a with
  | non => cases e; rw [show v = V.non from ra]; exact ⟨_, rfl, .base (.base .non)⟩
  | bl b => cases e; rw [show v = V.bl b from ra]; exact ⟨_, rfl, .base (.base (.bl b))⟩
  | int b => cases e; rw [show v = V.int b from ra]; exact ⟨_, rfl, .base (.base (.int b))⟩
  | str b => cases e; rw [show v = V.str b from ra]; exact ⟨_, rfl, .base (.base (.str b))⟩
  | ty n => cases (show (none : Option A) = some t from e)
  | glo n => cases (show (none : Option A) = some t from e)
  | tup xs =>
    cases e
    obtain ⟨p, vs, rfl, hs, _⟩ := ra
    rcases hs with (hs | ⟨o, hs⟩) | ⟨o, its, n, hk, hc, _⟩
    · exact ⟨_, rfl, .base (.base (.tup hs))⟩
    · exact ⟨_, rfl, .base (.fTuple hs)⟩
    · exact ⟨_, rfl, .base (.kTuple hk hc)⟩
  | loc l =>
    have e : Option.rec (motive := fun _ => Option A) none (fun ce => Cell.rec (motive := fun _ => Option A) (fun _ => some (.ty 3)) (fun _ => some (.ty 5)) (fun _ => some (.ty 5)) (fun C _ => Bool.rec (motive := fun _ => Option A) none (some (.glo C)) (natIn C B.D.ins)) (fun C _ => Option.rec (motive := fun _ => Option A) none (fun _ => some (.glo C)) (nth B.bs.T.kit.anc C)) (fun _ => none) ce) (getH h l) = some t := e
    rw [getH_eq] at e
    cases g : h.get l with
    | none => rw [g] at e; cases e
    | some ce =>
      rw [g] at e
      cases ce with
      | lst xs =>
        cases e
        obtain ⟨p, vs, rfl, _, hs, _⟩ := lst_at R ra g
        exact ⟨_, rfl, .base (.base (.lst hs))⟩
      | dct kvs =>
        cases e
        obtain ⟨p, rfl, _, o, vs, hs, _⟩ := cell_at R ra g
        exact ⟨_, rfl, .base (.fDict hs)⟩
      | dic kvs =>
        cases e
        obtain ⟨p, rfl, _, vs, hs, _⟩ := cell_at R ra g
        exact ⟨_, rfl, .base (.base (.dK hs))⟩
      | ins C fs =>
        have e : Bool.rec (motive := fun _ => Option A) none (some (.glo C)) (natIn C B.D.ins) = some t := e
        cases z : natIn C B.D.ins with
        | false => rw [z] at e; cases e
        | true =>
          rw [z] at e
          cases e
          rw [natIn_eq] at z
          obtain ⟨Ca, hG, ik⟩ := BO.ins C (of_decide_eq_true z)
          obtain ⟨p, rfl, _, Ca', dx, vs, hG', hs, _⟩ := cell_at R ra g
          rw [hG] at hG'
          cases hG'
          exact ⟨.ref Ca, ⟨Ca, hG, rfl⟩, .base (.base (.ins hs ik.cl ik.ha ik.hn ik.ht ik.hm))⟩
      | exc C fs =>
        have e : Option.rec (motive := fun _ => Option A) none (fun _ => some (.glo C)) (nth B.bs.T.kit.anc C) = some t := e
        rw [nth_eq] at e
        cases z : B.bs.T.kit.anc[C]? with
        | none => rw [z] at e; cases e
        | some pz =>
        rw [z] at e
        cases e
        obtain ⟨p, rfl, _, x⟩ := cell_at R ra g
        obtain ⟨Ca, hG, hx⟩ := exAt_of x
        exact ⟨.ref Ca, ⟨Ca, hG, rfl⟩, .exc hx (BO.bo.exc C Ca hG ⟨pz, z⟩)⟩
      | lam n => cases (show (none : Option A) = some t from e)
theorem isi_some {k : Kit} {g : Nat} {c : A} {b : Bool} (h : isi1 k (.glo g) c = some b) : ∃ p, k.anc[g]? = some p := isi1_glo h
theorem dIsi_ok {B : DBs} (BO : DOk B) {E : XK} {ρ : Rho} {h : Hh} {H : Hp} {as : List A} {vs : List V} {Q : VK} (R : Rep B.bs.S ρ h H) (ra : Rels B.bs.S ρ H as vs) (q : (dIsi B.D.kit B.bs.T.kit.anc B.D.ins as h).All (QW B.bs.S ρ H Q) (XW B.bs.S ρ H E)) : rIsZ B.bs.S.K vs H Q ∨ rIsZT B.bs.S.K vs H Q := by
  obtain ⟨a, cA, rfl, q1⟩ := pair_all q
  obtain ⟨t, et, q2⟩ := opt_all q1
  obtain ⟨v, r1, rfl, rx, w, r2, rfl, rc, e⟩ := ra
  rw [show r2 = [] from e]
  have single : ∀ {c : A}, Rel B.bs.S ρ H c w → (opt (isiQ B.D.kit t c) fun b => frB b fun b => .ok (.bl b) h).All (QW B.bs.S ρ H Q) (XW B.bs.S ρ H E) → rIsZ B.bs.S.K [v, w] H Q := fun {c} rc q3 => by
    obtain ⟨b, eb, q4⟩ := opt_all q3
    rw [frB_eq] at q4
    rw [isiQ_eq] at eb
    obtain ⟨tv, htv, hz⟩ := tyQ_ok BO R rx et
    obtain ⟨u, hu, hcv⟩ := cls_of eb rc
    exact ⟨v, w, tv, u, b, rfl, hcv, hz, BO.kit _ _ _ _ _ eb htv hu, q4 _ _ _ Ext.refl R rfl⟩
  cases cA with
  | ty n => exact .inl (single rc q2)
  | glo g => exact .inl (single rc q2)
  | tup cs =>
    obtain ⟨hc, q3⟩ := guard_all q2
    obtain ⟨b, eb, q4⟩ := opt_all q3
    rw [frB_eq] at q4
    rw [isiAnyQ_eq] at eb
    rw [Bool.and_eq_true] at hc
    have hall := isiAllQ_ok hc.2
    obtain ⟨tv, htv, hz⟩ := tyQ_ok BO R rx et
    obtain ⟨p, us, rfl, hs, rs⟩ := rc
    obtain ⟨ws, pw, kw⟩ := isiAny_okK BO.kit htv eb rs hall
    exact .inr ⟨v, p, us, tv, ws, b, rfl, hs, pw, hz, kw, q4 _ _ _ Ext.refl R rfl⟩
  | _ => exact q2.elim
/-! ### their calls -/
section
variable {D : DTb} {c : Cc}
theorem callB {f : Str} {b : String} {e : Expr} {es : List Expr} {xs : Dar} {p pos : Pos} {g : List A → Hh → Out A} (hn : notStar e = true) (h1 : kindIs c.sc f .globalImplicit = true) (h2 : D.tb.free.contains f = true) (hb : bootBuiltins f = some (.builtin b)) (hx : f ≠ "__name__") (hd : (f == ("__debug__" : Str)) = false) (ha : SA D c (e :: es) xs)
    (hr : ∀ {B k call X E}, Sg D c B k call X E → ∃ rr, CallR X (.builtin b) rr ∧ ∀ {ρ h H as vs Q}, Rep B.bs.S ρ h H → Rels B.bs.S ρ H as vs → (g as h).All (QW B.bs.S ρ H Q) (XW B.bs.S ρ H E) → rr vs H Q) : SE D c (.Call (.Name f p) (e :: es) [] pos) (xBi g xs) := plE rfl fun {B k call X E} s => by
  obtain ⟨rr, hc, hop⟩ := hr s
  have hst := star_cons (es := es) (env := X.env) hn
  have hpl : (backTo pos (starEach es X.env)).any (·.1) = false := by
    have z := (ha s).2 pos
    rw [hst] at z
    exact z
  exact PE.imp (pe_callB hc (s.o.gl h1) (s.o.fr s.ok.bo (by rw [s.ok.tb, s.d]; exact h2)) hb (ha s).1 hx hd hst hpl) fun _ _ _ q => q_args hop q
theorem s_len {e : Expr} {xs : Dar} {p pos : Pos} (hn : notStar e = true) (h1 : kindIs c.sc "len" .globalImplicit = true) (h2 : D.tb.free.contains "len" = true) (ha : SA D c [e] xs) : SE D c (.Call (.Name "len" p) [e] [] pos) (xBi dLen xs) :=
  callB (b := "len") hn h1 h2 (by decide +kernel) (by decide +kernel) (by decide +kernel) ha fun {B k call X E} s => ⟨rLens B.bs.S.K, by rw [← s.o.K]; exact L2.CallR.or (L2.CallR.or call_len_seq call_lenF) call_len_str, dLen_ok⟩
theorem s_all {e : Expr} {xs : Dar} {p pos : Pos} (hn : notStar e = true) (h1 : kindIs c.sc "all" .globalImplicit = true) (h2 : D.tb.free.contains "all" = true) (ha : SA D c [e] xs) : SE D c (.Call (.Name "all" p) [e] [] pos) (xBi dAll xs) :=
  callB (b := "all") hn h1 h2 (by decide +kernel) (by decide +kernel) (by decide +kernel) ha fun {B k call X E} s => ⟨rAll B.bs.S.K, by rw [← s.o.K]; exact cr_all s.o.calm, dAll_ok⟩
theorem s_any {e : Expr} {xs : Dar} {p pos : Pos} (hn : notStar e = true) (h1 : kindIs c.sc "any" .globalImplicit = true) (h2 : D.tb.free.contains "any" = true) (ha : SA D c [e] xs) : SE D c (.Call (.Name "any" p) [e] [] pos) (xBi dAny xs) :=
  callB (b := "any") hn h1 h2 (by decide +kernel) (by decide +kernel) (by decide +kernel) ha fun {B k call X E} s => ⟨rAny B.bs.S.K, by rw [← s.o.K]; exact cr_any s.o.calm, dAny_ok⟩
theorem s_isi {e : Expr} {es : List Expr} {xs : Dar} {p pos : Pos} (hn : notStar e = true) (h1 : kindIs c.sc "isinstance" .globalImplicit = true) (h2 : D.tb.free.contains "isinstance" = true) (ha : SA D c (e :: es) xs) : SE D c (.Call (.Name "isinstance" p) (e :: es) [] pos) (xBi (dIsi D.kit D.tb.kit.anc D.ins) xs) :=
  callB (b := "isinstance") hn h1 h2 (by decide +kernel) (by decide +kernel) (by decide +kernel) ha fun {B k call X E} s => ⟨fun vs H Q => rIsZ B.bs.S.K vs H Q ∨ rIsZT B.bs.S.K vs H Q, by rw [← s.o.K]; exact L2.CallR.or call_isZ call_isZT, fun {ρ h H as vs Q} R ra q => by
    have q' : (dIsi B.D.kit B.bs.T.kit.anc B.D.ins as h).All (QW B.bs.S ρ H Q) (XW B.bs.S ρ H E) := by rw [s.ok.tb, s.d]; exact q
    exact dIsi_ok s.ok R ra q'⟩
end
end
end DV
set_option Elab.async false
set_option linter.all false
set_option maxRecDepth 100000
set_option maxHeartbeats 4000000
namespace DV
open PySem PySem.Spec PyProof.Rows L2 ER EV
noncomputable section
/-! ### subscripts -/
def ixQ {β : Type} (xs : List β) (i : Int) : Option β := Int.rec (motive := fun _ => Option β) (fun n => nth xs n) (fun n => lenK xs 0 fun m => Bool.rec (motive := fun _ => Option β) none (frNat (m - Nat.succ n) fun j => nth xs j) (Nat.ble (Nat.succ n) m)) i
theorem ixQ_eq {β : Type} (xs : List β) (i : Int) : ixQ xs i = atI xs i := by
  unfold atI ixN
  cases i with
  | ofNat n =>
    show nth xs n = _
    rw [nth_eq]
    have h0 : (0 : Int) ≤ Int.ofNat n := Int.natCast_nonneg n
    rw [if_pos h0]
    by_cases h : (Int.ofNat n) < (xs.length : Int)
    · rw [if_pos h]
      rfl
    · rw [if_neg h]
      have : xs.length ≤ n := by
        have h : ¬ ((n : Int) < (xs.length : Int)) := h
        omega
      rw [List.getElem?_eq_none this]
      rfl
  | negSucc n =>
    show lenK xs 0 (fun m => Bool.rec (motive := fun _ => Option β) none (frNat (m - Nat.succ n) fun j => nth xs j) (Nat.ble (Nat.succ n) m)) = _
    rw [lenK_eq, Nat.zero_add]
    have h0 : ¬ (0 : Int) ≤ Int.negSucc n := by omega
    rw [if_neg h0]
    cases e : Nat.ble (Nat.succ n) xs.length with
    | true =>
      have hle := Nat.le_of_ble_eq_true e
      have h1 : -(xs.length : Int) ≤ Int.negSucc n := by omega
      rw [if_pos h1]
      show frNat (xs.length - Nat.succ n) (fun j => nth xs j) = _
      rw [frNat_eq, nth_eq]
      show _ = xs[(Int.negSucc n + (xs.length : Int)).toNat]?
      congr 1
      omega
    | false =>
      have h1 : ¬ -(xs.length : Int) ≤ Int.negSucc n := fun z => by
        have : Nat.succ n ≤ xs.length := by omega
        rw [Nat.ble_eq_true_of_le this] at e
        cases e
      rw [if_neg h1]
      rfl
def keyQ (a : A) : Option Key := A.casesOn (motive_1 := fun _ => Option Key) a none (fun _ => none) (fun i => some (.inl i)) (fun x => some (.inr x)) (fun _ => none) (fun _ => none) (fun _ => none) (fun _ => none)
theorem keyQ_eq (a : A) : keyQ a = keyOf a := by cases a <;> rfl
/-- a dict's value by a key of the same kind -/
def kvK (y : A) (kvs : List (A × A)) : Option A := List.rec (motive := fun _ => Option A) none (fun kv _ ih => Bool.rec (motive := fun _ => Option A) ih (some kv.2) (A.casesOn (motive_1 := fun _ => Bool) y false (fun _ => false) (fun i => A.casesOn (motive_1 := fun _ => Bool) kv.1 false (fun _ => false) (fun j => decide (i = j)) (fun _ => false) (fun _ => false) (fun _ => false) (fun _ => false) (fun _ => false)) (fun x => A.casesOn (motive_1 := fun _ => Bool) kv.1 false (fun _ => false) (fun _ => false) (fun z => strEq x z) (fun _ => false) (fun _ => false) (fun _ => false) (fun _ => false)) (fun _ => false) (fun _ => false) (fun _ => false) (fun _ => false))) kvs
theorem kvK_eq {y : A} {c : Key} (h : keyOf y = some c) : ∀ kvs, kvK y kvs = dGet c kvs
  | [] => rfl
  | (k, v) :: kvs => by
    have ih := kvK_eq h kvs
    unfold dGet
    cases y with
    | int i =>
      cases h
      cases k with
      | int j =>
        show Bool.rec (motive := fun _ => Option A) (kvK (.int i) kvs) (some v) (decide (i = j)) = _
        by_cases e : i = j
        · subst e
          rw [if_pos (show keyOf (A.int i) = some (Sum.inl i) from rfl), decide_eq_true rfl]
        · rw [if_neg (fun z => e (by cases z; rfl)), decide_eq_false e]
          exact ih
      | _ => rw [if_neg (fun z => by cases z)]; exact ih
    | str x =>
      cases h
      cases k with
      | str z =>
        show Bool.rec (motive := fun _ => Option A) (kvK (.str x) kvs) (some v) (strEq x z) = _
        rw [strEq_eq]
        by_cases e : x = z
        · subst e
          rw [if_pos (show keyOf (A.str x) = some (Sum.inr x) from rfl)]
          simp
        · rw [if_neg (fun q => e (by cases q; rfl))]
          have : (x == z) = false := by simpa using e
          rw [this]
          exact ih
      | _ => rw [if_neg (fun z => by cases z)]; exact ih
    | _ => cases h
def dIdx (a b : A) (h : Hh) : Out A := A.casesOn (motive_1 := fun _ => Out A) a .bad (fun _ => .bad) (fun _ => .bad) (fun x => intK b fun i => guard (lenK x.cps.toList 0 fun n => Nat.ble n lim) (opt (ixQ x.cps.toList i) fun c => .ok (.str ⟨⟨[c]⟩⟩) h)) (fun _ => .bad)
  (fun l => Option.rec (motive := fun _ => Out A) .bad (fun ce => Cell.rec (motive := fun _ => Out A) (fun xs => intK b fun i => opt (ixQ xs i) fun v => .ok v h) (fun _ => .bad) (fun kvs => opt (keyQ b) fun _ => opt (kvK b kvs) fun v => .ok v h) (fun _ _ => .bad) (fun _ _ => .bad) (fun _ => .bad) ce) (getH h l)) (fun _ => .bad) (fun xs => intK b fun i => opt (ixQ xs i) fun v => .ok v h)
abbrev rIdx (K : PySem.W.Frag) : R2 := fun x y H Q => ((rIxL K x y H Q ∨ rIxT K x y H Q) ∨ rIxS x y H Q) ∨ EV.rIxD x y H Q
theorem dIdx_ok {B : DBs} {E : XK} : Leaf2 B.bs.S E dIdx (rIdx B.bs.S.K) := by
  intro ρ h H a b v w Q R ra rb q
  cases a with
  | str x =>
    obtain ⟨i, rfl, q1⟩ := intK_all q
    obtain ⟨hc, q2⟩ := guard_all q1
    obtain ⟨d, e, q3⟩ := opt_all q2
    rw [lenK_eq, Nat.zero_add] at hc
    rw [ixQ_eq] at e
    exact .inl (.inr ⟨x, i, d, ra, rb, Nat.le_trans (Nat.le_of_ble_eq_true hc) (by decide), e, q3 _ _ _ Ext.refl R rfl⟩)
  | tup xs =>
    obtain ⟨i, rfl, q1⟩ := intK_all q
    obtain ⟨d, e, q3⟩ := opt_all q1
    rw [ixQ_eq] at e
    obtain ⟨p, vs, rfl, hs, rs⟩ := ra
    obtain ⟨u, e1, r1⟩ := atI_map rs e
    exact .inl (.inl (.inr ⟨p, vs, _, u, rfl, rb, hs, e1, q3 _ _ _ Ext.refl R r1⟩))
  | loc l =>
    have q1 : (Option.rec (motive := fun _ => Out A) .bad (fun ce => Cell.rec (motive := fun _ => Out A) (fun xs => intK b fun i => opt (ixQ xs i) fun v => .ok v h) (fun _ => .bad) (fun kvs => opt (keyQ b) fun _ => opt (kvK b kvs) fun v => .ok v h) (fun _ _ => .bad) (fun _ _ => .bad) (fun _ => .bad) ce) (getH h l)).All (QW B.bs.S ρ H Q) (XW B.bs.S ρ H E) := q
    rw [getH_eq] at q1
    cases g : h.get l with
    | none => rw [g] at q1; exact q1.elim
    | some ce =>
      rw [g] at q1
      cases ce with
      | lst xs =>
        obtain ⟨i, rfl, q2⟩ := intK_all (show (intK b fun i => opt (ixQ xs i) fun v => .ok v h).All _ _ from q1)
        obtain ⟨d, e, q3⟩ := opt_all q2
        rw [ixQ_eq] at e
        obtain ⟨p, vs, rfl, _, hs, rs⟩ := lst_at R ra g
        obtain ⟨u, e1, r1⟩ := atI_map rs e
        exact .inl (.inl (.inl ⟨p, vs, _, u, rfl, rb, SqL.of hs, e1, q3 _ _ _ Ext.refl R r1⟩))
      | dic kvs =>
        obtain ⟨kc, ek, q2⟩ := opt_all (show (opt (keyQ b) fun _ => opt (kvK b kvs) fun v => .ok v h).All _ _ from q1)
        obtain ⟨d, e, q3⟩ := opt_all q2
        rw [keyQ_eq] at ek
        rw [kvK_eq ek] at e
        obtain ⟨p, rfl, _, us, hs, rs⟩ := cell_at R ra g
        obtain ⟨u, e1, r1⟩ := (RelK.get rs).1 d e
        exact .inr ⟨p, u, rfl, .inl ⟨us, kc, .inl hs, key_rel ek rb, e1.symm⟩, q3 _ _ _ Ext.refl R r1⟩
      | _ => exact q1.elim
  | _ => exact q.elim
/-! ### slices -/
abbrev Dpt := Cl → Sl → Hh → Out (Option Int)
def pNone : Dpt := fun _ _ h => .ok none h
def pSome (x : Den) : Dpt := fun c s h => bnd (x c s h) fun a h => intK a fun i => .ok (some i) h
def OW (S : Sc) (ρ : Rho) (H : Hp) (Q : Option Int → Hp → Prop) (o : Option Int) (h' : Hh) : Prop := ∀ ρ' H', Ext S ρ H ρ' H' → Rep S ρ' h' H' → Q o H'
def tPt (S : Sc) (E : XK) (ev : Sl → Hh → Out (Option Int)) : TO := fun σ H Q => ∃ ρ h s, Rep S ρ h H ∧ RelS S ρ H s σ ∧ (ev s h).All (OW S ρ H Q) (XW S ρ H E)
def SP (D : DTb) (c : Cc) (e : Option Expr) (d : Dpt) : Prop := ∀ {B k call X E}, Sg D c B k call X E → PO X e (tPt B.bs.S E (d call))
theorem PO.imp {X : Cx} {e : Option Expr} {t t' : TO} (h : PO X e t) (k : ∀ σ H Q, t' σ H Q → t σ H Q) : PO X e t' := ⟨fun pins s σ H Q I q => h.run pins s σ H Q I (k _ _ _ q)⟩
def sIxQ (n d : Nat) (o : Option Int) : Nat := Option.rec (motive := fun _ => Nat) d (fun v => Int.rec (motive := fun _ => Nat) (fun k => Bool.rec (motive := fun _ => Nat) n k (Nat.ble k n)) (fun k => n - Nat.succ k) v) o
theorem sIxQ_eq (n d : Nat) (o : Option Int) : sIxQ n d o = HT.sIx n d o := by
  cases o with
  | none => rfl
  | some v =>
    cases v with
    | ofNat k =>
      show Bool.rec (motive := fun _ => Nat) n k (Nat.ble k n) = if Int.ofNat k < 0 then (Int.ofNat k + (n : Int)).toNat else min (Int.ofNat k).toNat n
      rw [if_neg (by have := Int.natCast_nonneg k; intro z; have z : (k : Int) < 0 := z; omega)]
      show _ = min k n
      cases e : Nat.ble k n with
      | true => exact (Nat.min_eq_left (Nat.le_of_ble_eq_true e)).symm
      | false =>
        refine (Nat.min_eq_right ?_).symm
        rcases Nat.le_total n k with z | z
        · exact z
        · rw [Nat.ble_eq_true_of_le z] at e; cases e
    | negSucc k =>
      show n - Nat.succ k = if Int.negSucc k < 0 then (Int.negSucc k + (n : Int)).toNat else min (Int.negSucc k).toNat n
      rw [if_pos (by omega)]
      omega
def dropQ {β : Type} (xs : List β) : Nat → List β := List.rec (motive := fun _ => Nat → List β) (fun _ => []) (fun x r ih n => Nat.rec (motive := fun _ => List β) (x :: r) (fun n _ => ih n) n) xs
theorem dropQ_eq {β : Type} : ∀ (xs : List β) (n : Nat), dropQ xs n = xs.drop n
  | [], n => by simp [dropQ]
  | _ :: _, 0 => rfl
  | _ :: xs, n + 1 => dropQ_eq xs n
def takeQ {β R : Type} (xs : List β) : Nat → (List β → R) → R := List.rec (motive := fun _ => Nat → (List β → R) → R) (fun _ k => k []) (fun x _ ih n k => Nat.rec (motive := fun _ => R) (k []) (fun n _ => ih n fun r => k (x :: r)) n) xs
theorem takeQ_eq {β R : Type} : ∀ (xs : List β) (n : Nat) (k : List β → R), takeQ xs n k = k (xs.take n)
  | [], n, k => by simp [takeQ]
  | _ :: _, 0, _ => rfl
  | _ :: xs, n + 1, k => takeQ_eq xs n _
def cutK {β R : Type} (xs : List β) (lo hi : Option Int) (k : List β → R) : R := lenK xs 0 fun n => frNat (sIxQ n 0 lo) fun a => frNat (sIxQ n n hi) fun b => takeQ (dropQ xs a) (b - a) k
def cutA {β : Type} (xs : List β) (lo hi : Option Int) : List β := (xs.drop (HT.sIx xs.length 0 lo)).take (HT.sIx xs.length xs.length hi - HT.sIx xs.length 0 lo)
theorem cutK_eq {β R : Type} (xs : List β) (lo hi : Option Int) (k : List β → R) : cutK xs lo hi k = k (cutA xs lo hi) := by
  unfold cutK cutA
  rw [lenK_eq, Nat.zero_add, frNat_eq, frNat_eq, takeQ_eq, dropQ_eq, sIxQ_eq, sIxQ_eq]
theorem Rels.drop {S : Sc} {ρ : Rho} {H : Hp} : ∀ {xs : List A} {vs : List V} (n : Nat), Rels S ρ H xs vs → Rels S ρ H (xs.drop n) (vs.drop n)
  | _, _, 0, h => h
  | [], _, n + 1, h => by rw [show _ = ([] : List V) from h]; rfl
  | _ :: _, _, n + 1, ⟨v, r, e, _, h3⟩ => by subst e; exact Rels.drop n h3
theorem Rels.take {S : Sc} {ρ : Rho} {H : Hp} : ∀ {xs : List A} {vs : List V} (n : Nat), Rels S ρ H xs vs → Rels S ρ H (xs.take n) (vs.take n)
  | _, _, 0, h => rfl
  | [], _, n + 1, h => by rw [show _ = ([] : List V) from h]; rfl
  | _ :: _, _, n + 1, ⟨v, r, e, h2, h3⟩ => by subst e; exact ⟨v, r.take n, rfl, h2, Rels.take n h3⟩
theorem Rels.cut {S : Sc} {ρ : Rho} {H : Hp} {xs : List A} {vs : List V} (lo hi : Option Int) (h : Rels S ρ H xs vs) : Rels S ρ H (cutA xs lo hi) (cutV vs lo hi) := by
  unfold cutA cutV
  rw [Rels.length h]
  exact Rels.take _ (Rels.drop _ h)
def dCut (a : A) (lo hi : Option Int) (h : Hh) : Out A := A.casesOn (motive_1 := fun _ => Out A) a .bad (fun _ => .bad) (fun _ => .bad) (fun _ => .bad) (fun _ => .bad) (fun l => lstC (getH h l) fun xs => cutK xs lo hi fun ys => newH h (.lst ys) fun l h => .ok (.loc l) h) (fun _ => .bad) (fun xs => cutK xs lo hi fun ys => .ok (.tup ys) h)
def xCut (x : Den) (lo hi : Dpt) : Den := fun c s h => bnd (x c s h) fun a h => bnd (lo c s h) fun l h => bnd (hi c s h) fun u h => dCut a l u h
theorem cut_all {xs : List V} {lo hi : Option Int} (h : HT.sIx xs.length 0 lo = 0 ∧ HT.sIx xs.length xs.length hi = xs.length) : cutV xs lo hi = xs := by
  unfold cutV
  rw [h.1, h.2]
  simp
section
variable {D : DTb} {c : Cc}
theorem s_idx {a b : Expr} {x y : Den} {pos : Pos} (h0 : (match b with | .Slice _ _ _ _ => false | .Tuple _ _ _ => false | _ => true) = true) (ha : SE D c a x) (hb : SE D c b y) : SE D c (.Subscript a b pos) (x2 dIdx x y) := plE rfl fun {B k call X E} s => by
  have ho : IxR X (rIdx B.bs.S.K) := by
    rw [← s.o.K]
    exact IxR.or (IxR.or (IxR.or ix_list ix_tup) ix_str) (ix_dict (by have := s.hu; omega))
  exact PE.imp (pe_ix ho (ha s).1 (hb s).1 fun o i => by cases b <;> first | rfl | cases h0) fun σ H Q q => two dIdx_ok q
theorem s_pNone : SP D c none pNone := fun s => PO.imp po_none fun σ H Q q => by
  obtain ⟨ρ, h, s, R, rs, q⟩ := q
  exact q ρ H Ext.refl R
theorem s_pSome {e : Expr} {x : Den} (he : SE D c e x) : SP D c (some e) (pSome x) := fun s => PO.imp (po_some (he s).1) fun σ H Q q => by
  obtain ⟨ρ, h, s, R, rs, q⟩ := q
  refine ⟨ρ, h, s, R, rs, gob q fun a h1 q1 ρ1 H1 v e1 R1 rv => ?_⟩
  obtain ⟨i, rfl, q2⟩ := intK_all q1
  exact ⟨i, rv, q2 ρ1 H1 e1 R1⟩
theorem s_cut {a : Expr} {lo hi : Option Expr} {x : Den} {dl dh : Dpt} {p2 pos : Pos} (ha : SE D c a x) (hl : SP D c lo dl) (hh : SP D c hi dh) : SE D c (.Subscript a (.Slice lo hi none p2) pos) (xCut x dl dh) := plE rfl fun {B k call X E} s => by
  have ho : SlR X (fun x lo hi H Q => rSlL B.bs.S.K x lo hi H Q ∨ rSlA B.bs.S.K x lo hi H Q) := by
    rw [← s.o.K]
    intro pins s σ H x v vl vu lo hi sl Q I rx hs pl pu h
    rcases h with h | h
    · exact sl_list pins s σ H x v vl vu lo hi sl Q I rx hs pl pu h
    · exact sl_tupA pins s σ H x v vl vu lo hi sl Q I rx hs pl pu h
  refine PE.imp (pe_slice ho (ha s).1 (hl s) (hh s)) fun σ H Q q => ?_
  obtain ⟨ρ, h, s, R, rs, q⟩ := q
  refine ⟨ρ, h, s, R, rs, gob q fun a h1 q1 ρ1 H1 v e1 R1 rv => ?_⟩
  refine ⟨ρ1, h1, s, R1, rs.mono e1, gob (all_mono e1 (fun _ _ y => y) q1) fun l h2 q2 ρ2 H2 e2 R2 => ?_⟩
  refine ⟨ρ2, h2, s, R2, (rs.mono e1).mono e2, gob (all_mono e2 (fun _ _ y => y) q2) fun u h3 q3 ρ3 H3 e3 R3 => ?_⟩
  have rv3 := (rv.mono e2).mono e3
  have e := (e1.trans e2).trans e3
  cases a with
  | loc p =>
    obtain ⟨xs, g, q4⟩ := lstC_all q3
    rw [getH_eq] at g
    rw [cutK_eq, newH_eq] at q4
    obtain ⟨b, us, rfl, _, hs, rsu⟩ := lst_at R3 rv3 g
    refine .inl ⟨b, us, rfl, SqL.of hs, fun p np => ?_⟩
    exact q4 _ _ _ (e.trans (Ext.new R3 np)) (R3.new np ⟨_, upd_same, Rels.mono (Ext.new R3 np) (Rels.cut l u rsu)⟩) ⟨p, by unfold rhoNew; rw [if_pos rfl], rfl⟩
  | tup xs =>
    have q4 : (cutK xs l u fun ys => Out.ok (.tup ys) h3).All (QW B.bs.S ρ H Q) (XW B.bs.S ρ2 H2 E) := q3
    rw [cutK_eq] at q4
    obtain ⟨b, us, rfl, hs, rsu⟩ := rv3
    have rc := Rels.cut l u rsu
    refine .inr ⟨b, us, rfl, hs, fun z => ?_, fun z p np => ?_⟩
    · rw [cut_all z] at rc
      exact q4 ρ3 H3 _ e R3 ⟨b, us, rfl, hs, rc⟩
    · exact q4 ρ3 _ _ (e.trans (Ext.more np)) (R3.more np) ⟨p, _, rfl, .inl (.inl upd_same), Rels.mono (Ext.more np) rc⟩
  | _ => exact q3.elim
end
end
end DV
set_option Elab.async false
set_option linter.all false
set_option maxRecDepth 100000
set_option maxHeartbeats 4000000
namespace DV
open PySem PySem.Spec PyProof.Rows L2 ER EV
noncomputable section
/-! ### calls of defs -/
def xCall (f : Bn) (n : Nat) (xs : Dar) : Den := fun c s h => bnd (xs c s h) fun as h => Bool.rec (motive := fun _ => Out A) .bad (c f as h) (lenK as 0 fun m => Nat.beq m n)
theorem lenB {as : List A} {n : Nat} {k : Out A} {P : A → Hh → Prop} {X : Nat → List (Str × A) → Hh → Prop} (q : (Bool.rec (motive := fun _ => Out A) .bad k (lenK as 0 fun m => Nat.beq m n)).All P X) : as.length = n ∧ k.All P X := by
  rw [lenK_eq, Nat.zero_add] at q
  cases e : Nat.beq as.length n with
  | false => rw [e] at q; exact q.elim
  | true => rw [e] at q; exact ⟨Nat.eq_of_beq_eq_true e, q⟩
section
variable {D : DTb} {c : Cc}
theorem q_call {B : DBs} {E : XK} {call : Cl} {f : Bn} {n : Nat} {xs : Dar} {σ : L2.St} {H : Hp} {Q : VK} (q : tE B.bs.S E (xCall f n xs call) σ H Q) : tCall (spG B call f n) [] E (tAs B.bs.S E (xs call)) σ H Q := by
  obtain ⟨ρ, h, s, R, rs, q⟩ := q
  refine ⟨ρ, h, s, R, rs, gob q fun as h1 q1 ρ1 H1 vs e1 R1 rv => ?_⟩
  obtain ⟨hl, q2⟩ := lenB q1
  rw [List.append_nil]
  exact ⟨by rw [Rels.length rv]; exact hl, ρ1, h1, as, R1, rv, all_mono e1 (fun _ _ y => y.mono e1) q2⟩
theorem s_call {f : Str} {e : Expr} {es : List Expr} {g : Bn} {n : Nat} {xs : Dar} {p pos : Pos} (hn : notStar e = true) (h1 : kindIs c.sc f .globalImplicit = true) (h2 : D.gl.lookup f = some (.fn g n)) (h3 : okName f = true) (ha : SA D c (e :: es) xs) : SE D c (.Call (.Name f p) (e :: es) [] pos) (xCall g n xs) := plE rfl fun {B k call X E} s => by
  obtain ⟨a, hf, hm⟩ := s.ok.fn f g n (by rw [s.d]; exact h2)
  obtain ⟨fd, ps, hl, hk, F, hb⟩ := s.cl.fn g n a hf
  have F' : FnOk X.prog X.w X.K X.mg X.base (L2.CX X.prog X.w) k a fd ps (spG B call g n) := by rw [s.o.P, s.o.w, s.o.K, s.o.mg, s.o.bs]; exact F
  have hst := star_cons (es := es) (env := X.env) hn
  have hpl : (backTo pos (starEach es X.env)).any (·.1) = false := by
    have z := (ha s).2 pos
    rw [hst] at z
    exact z
  exact PE.imp (pe_call F' (s.o.room.mono (by omega)) (s.o.gl h1) (by rw [s.o.mg]; exact hm) (by rw [s.o.K]; exact hk) (by rw [s.o.K]; exact hb) .nil s.o.pass (ha s).1 (okName_d h3).1 hst hpl) fun _ _ _ q => q_call q
theorem s_call0 {f : Str} {g : Bn} {p pos : Pos} (h1 : kindIs c.sc f .globalImplicit = true) (h2 : D.gl.lookup f = some (.fn g 0)) (h3 : okName f = true) : SE D c (.Call (.Name f p) [] [] pos) (xCall g 0 aNil) := plE rfl fun {B k call X E} s => by
  obtain ⟨a, hf, hm⟩ := s.ok.fn f g 0 (by rw [s.d]; exact h2)
  obtain ⟨fd, ps, hl, hk, F, hb⟩ := s.cl.fn g 0 a hf
  have F' : FnOk X.prog X.w X.K X.mg X.base (L2.CX X.prog X.w) k a fd ps (spG B call g 0) := by rw [s.o.P, s.o.w, s.o.K, s.o.mg, s.o.bs]; exact F
  refine PE.imp (pe_call0 F' (s.o.room.mono (by omega)) (s.o.gl h1) (by rw [s.o.mg]; exact hm) (by rw [s.o.K]; exact hk) (by rw [s.o.K]; exact hb) .nil s.o.pass (okName_d h3).1) fun σ H Q q => ?_
  obtain ⟨ρ, h, s, R, rs, q⟩ := q_call q
  exact q ρ H [] Ext.refl R rfl
/-! ### a new instance -/
def nonK (a : A) (k : Out A) : Out A := A.casesOn (motive_1 := fun _ => Out A) a k (fun _ => .bad) (fun _ => .bad) (fun _ => .bad) (fun _ => .bad) (fun _ => .bad) (fun _ => .bad) (fun _ => .bad)
theorem nonK_all {a : A} {k : Out A} {P : A → Hh → Prop} {X : Nat → List (Str × A) → Hh → Prop} (q : (nonK a k).All P X) : a = .non ∧ k.All P X := by
  cases a with
  | non => exact ⟨rfl, q⟩
  | _ => exact q.elim
def xMake (C : Nat) (f : Bn) (n : Nat) (xs : Dar) : Den := fun c s h => bnd (xs c s h) fun as h => Bool.rec (motive := fun _ => Out A) .bad (newH h (.ins C []) fun l h => bnd (c f (.loc l :: as) h) fun r h => nonK r (.ok (.loc l) h)) (lenK as 0 fun m => Nat.beq m n)
theorem make_ok {B : DBs} {E : XK} {call : Cl} {C : Nat} {Ca : Addr} {f : Bn} {n : Nat} {as : List A} {vs : List V} {ρ : Rho} {h : Hh} {H : Hp} {Q : VK} (hG : B.bs.S.G C = some Ca) (R : Rep B.bs.S ρ h H) (rv : Rels B.bs.S ρ H as vs) (hl : as.length = n)
    (q : (newH h (.ins C []) fun l h => bnd (call f (.loc l :: as) h) fun r h => nonK r (.ok (.loc l) h)).All (QW B.bs.S ρ H Q) (XW B.bs.S ρ H E)) (x dx : Addr) (nx : H x = none) (ndx : H dx = none) (ne : dx ≠ x) :
    spG B call f (n + 1) (.ref x :: (vs ++ [])) (upd (upd H dx (.own x)) x (.ins Ca dx [])) (fun v H2 => v = .non ∧ Q (.ref x) H2) E := by
  rw [newH_eq] at q
  have kk : ∀ b o, H b = some o → upd (upd H dx (.own x)) x (.ins Ca dx []) b = some o := fun b o z => by
    rw [upd_ne (ne_of_none z nx), upd_ne (ne_of_none z ndx)]
    exact z
  have e2 : Ext B.bs.S ρ H (rhoNew ρ h.nx x) (upd (upd H dx (.own x)) x (.ins Ca dx [])) := Ext.new' R kk
  have R2 := R.new' (c := .ins C []) nx kk ⟨Ca, dx, [], hG, upd_same, rfl, fun _ _ _ h => nomatch h⟩
  rw [List.append_nil]
  have rl : Rel B.bs.S (rhoNew ρ h.nx x) (upd (upd H dx (.own x)) x (.ins Ca dx [])) (.loc h.nx) (.ref x) := ⟨x, by unfold rhoNew; rw [if_pos rfl], rfl⟩
  refine ⟨by rw [List.length_cons, Rels.length rv, hl], _, _, .loc h.nx :: as, R2, ⟨.ref x, vs, rfl, rl, Rels.mono e2 rv⟩, ?_⟩
  refine gob (all_mono e2 (fun _ _ y => y) q) fun r h2 q2 ρ3 H3 v e3 R3 rv3 => ?_
  obtain ⟨rfl, q3⟩ := nonK_all q2
  exact ⟨rv3, q3 ρ3 H3 _ (e2.trans e3) R3 (rl.mono e3)⟩
theorem s_make {f : Str} {e : Expr} {es : List Expr} {C : Nat} {g : Bn} {n : Nat} {xs : Dar} {p pos : Pos} (hn : notStar e = true) (h1 : kindIs c.sc f .globalImplicit = true) (h2 : D.gl.lookup f = some (.mk C g n)) (h3 : okName f = true) (ha : SA D c (e :: es) xs) : SE D c (.Call (.Name f p) (e :: es) [] pos) (xMake C g n xs) := plE rfl fun {B k call X E} s => by
  obtain ⟨Ca, a, hG, hm, hf, hM⟩ := s.ok.mkr f C g n (by rw [s.d]; exact h2)
  obtain ⟨fd, ps, hl, hk, F, hb⟩ := s.cl.fn g (n + 1) a hf
  have F' : FnOk X.prog X.w X.K X.mg X.base (L2.CX X.prog X.w) k a fd ps (spG B call g (n + 1)) := by rw [s.o.P, s.o.w, s.o.K, s.o.mg, s.o.bs]; exact F
  have hst := star_cons (es := es) (env := X.env) hn
  have hpl : (backTo pos (starEach es X.env)).any (·.1) = false := by
    have z := (ha s).2 pos
    rw [hst] at z
    exact z
  refine PE.imp (pe_make (by rw [s.o.K]; exact hM) F' s.o.room (s.o.gl h1) (by rw [s.o.mg]; exact hm) (by rw [s.o.K]; exact hb) .nil s.o.pass (ha s).1 (okName_d h3).1 hst hpl) fun σ H Q q => ?_
  obtain ⟨ρ, h, s, R, rs, q⟩ := q
  refine ⟨ρ, h, s, R, rs, gob q fun as h1 q1 ρ1 H1 vs e1 R1 rv => ?_⟩
  obtain ⟨hl, q2⟩ := lenB q1
  exact fun x dx nx ndx ne => make_ok hG R1 rv hl (all_mono e1 (fun _ _ y => y.mono e1) q2) x dx nx ndx ne
/-! ### fields -/
def fldQ (f : Str) (fs : List (Str × A)) : Option A := List.rec (motive := fun _ => Option A) none (fun kv _ ih => Bool.rec (motive := fun _ => Option A) ih (some kv.2) (strEq f kv.1)) fs
theorem fldQ_eq (f : Str) : ∀ fs : List (Str × A), fldQ f fs = fs.lookup f
  | [] => rfl
  | (k, v) :: fs => by
    show Bool.rec (motive := fun _ => Option A) (fldQ f fs) (some v) (strEq f k) = _
    rw [strEq_eq, fldQ_eq f fs]
    cases e : (f == k) with
    | true => simp [List.lookup, e]
    | false => simp [List.lookup, e]
def memQ (C : Nat) (f : Str) (l : List (Nat × Str)) : Bool := List.rec (motive := fun _ => Bool) false (fun p _ ih => Bool.rec (motive := fun _ => Bool) ih true (Nat.beq C p.1 && strEq f p.2)) l
theorem memQ_ok {C : Nat} {f : Str} : ∀ {l : List (Nat × Str)}, memQ C f l = true → (C, f) ∈ l
  | [], h => nomatch (show false = true from h)
  | (C', f') :: l, h => by
    have h : Bool.rec (motive := fun _ => Bool) (memQ C f l) true (Nat.beq C C' && strEq f f') = true := h
    cases e : (Nat.beq C C' && strEq f f') with
    | true =>
      rw [Bool.and_eq_true] at e
      have e1 := Nat.eq_of_beq_eq_true e.1
      have e2 := e.2
      rw [strEq_eq] at e2
      rw [e1, eq_of_beq e2]
      exact List.mem_cons_self ..
    | false =>
      rw [e] at h
      exact List.mem_cons_of_mem _ (memQ_ok h)
def xFld (fl : List (Nat × Str)) (x : Den) (f : Str) : Den := fun c s h => bnd (x c s h) fun a h => locK a fun l => insC (getH h l) fun C fs => guard (memQ C f fl) (opt (fldQ f fs) fun v => .ok v h)
theorem s_fld {o : Expr} {f : Str} {x : Den} {pos : Pos} (h1 : noSup o = true) (ho : SE D c o x) : SE D c (.Attribute o f pos) (xFld D.fld x f) := plE rfl fun {B k call X E} s => by
  refine PE.imp (pe_fld (ho s).1 (noSup_base h1)) fun σ H Q q => ?_
  rw [s.o.K]
  obtain ⟨ρ, h, sl, R, rs, q⟩ := q
  refine ⟨ρ, h, sl, R, rs, gob q fun a h1 q1 ρ1 H1 v e1 R1 rv => ?_⟩
  obtain ⟨l, rfl, q2⟩ := locK_all q1
  obtain ⟨C, fs, g, q3⟩ := insC_all q2
  obtain ⟨hc, q4⟩ := guard_all q3
  obtain ⟨w, e, q5⟩ := opt_all q4
  rw [getH_eq] at g
  rw [fldQ_eq] at e
  obtain ⟨Ca, hG, cl, na⟩ := s.ok.fld C f (by rw [s.d]; exact memQ_ok hc)
  obtain ⟨p, rfl, _, Ca', dx, vs, hG', hs, rf⟩ := cell_at R1 rv g
  rw [hG] at hG'
  cases hG'
  obtain ⟨u, l1, l2⟩ := (RelF.look rf.1).1 w e
  exact ⟨p, Ca, dx, vs, u, rfl, hs, cl, na, l1, q5 ρ1 H1 u e1 R1 l2⟩
/-! ### types called -/
theorem callTy {f : Str} {b : String} {e : Expr} {es : List Expr} {xs : Dar} {p pos : Pos} {g : List A → Hh → Out A} (hn : notStar e = true) (h1 : kindIs c.sc f .globalImplicit = true) (h2 : D.tb.free.contains f = true) (hb : bootBuiltins f = some (.type b)) (hx : f ≠ "__name__") (hd : (f == ("__debug__" : Str)) = false) (ha : SA D c (e :: es) xs)
    (hr : ∀ {B k call X E}, Sg D c B k call X E → ∃ rr, CallR X (.type b) rr ∧ ∀ {ρ h H as vs Q}, Rep B.bs.S ρ h H → Rels B.bs.S ρ H as vs → (g as h).All (QW B.bs.S ρ H Q) (XW B.bs.S ρ H E) → rr vs H Q) : SE D c (.Call (.Name f p) (e :: es) [] pos) (xBi g xs) := plE rfl fun {B k call X E} s => by
  obtain ⟨rr, hc, hop⟩ := hr s
  have hst := star_cons (es := es) (env := X.env) hn
  have hpl : (backTo pos (starEach es X.env)).any (·.1) = false := by
    have z := (ha s).2 pos
    rw [hst] at z
    exact z
  exact PE.imp (pe_callTy hc (s.o.gl h1) (s.o.fr s.ok.bo (by rw [s.ok.tb, s.d]; exact h2)) hb (ha s).1 hx hd hst hpl) fun _ _ _ q => q_args hop q
def dListOf (as : List A) (h : Hh) : Out A := one as fun a => seqK a h fun xs => newH h (.lst xs) fun l h => .ok (.loc l) h
def dTupOf (as : List A) (h : Hh) : Out A := one as fun a => seqK a h fun xs => .ok (.tup xs) h
theorem s_list {e : Expr} {xs : Dar} {p pos : Pos} (hn : notStar e = true) (h1 : kindIs c.sc "list" .globalImplicit = true) (h2 : D.tb.free.contains "list" = true) (ha : SA D c [e] xs) : SE D c (.Call (.Name "list" p) [e] [] pos) (xBi dListOf xs) :=
  callTy (b := "list") hn h1 h2 (by decide +kernel) (by decide +kernel) (by decide +kernel) ha fun {B k call X E} s => ⟨fun xs H Q => ∃ p ys, xs = [.ref p] ∧ (SqL B.bs.S.K H p ys ∨ SqT B.bs.S.K H p ys) ∧ ∀ l, H l = none → Q (.ref l) (upd H l (.lst ys)), by rw [← s.o.K]; exact call_list_of, fun {ρ h H as vs Q} R ra q => by
    obtain ⟨a, rfl, q1⟩ := one_all q
    obtain ⟨v, r1, rfl, rx, e⟩ := ra
    rw [show r1 = [] from e]
    rcases seqK_all q1 with ⟨l, ys, rfl, g, q2⟩ | ⟨ys, rfl, q2⟩
    · rw [newH_eq] at q2
      obtain ⟨p, us, rfl, _, hs, rs⟩ := lst_at R rx g
      exact ⟨p, us, rfl, .inl (SqL.of hs), fun l n => q2 _ _ _ (Ext.new R n) (R.new n ⟨us, upd_same, Rels.mono (Ext.new R n) rs⟩) ⟨l, by unfold rhoNew; rw [if_pos rfl], rfl⟩⟩
    · rw [newH_eq] at q2
      obtain ⟨p, us, rfl, hs, rs⟩ := rx
      exact ⟨p, us, rfl, .inr hs, fun l n => q2 _ _ _ (Ext.new R n) (R.new n ⟨us, upd_same, Rels.mono (Ext.new R n) rs⟩) ⟨l, by unfold rhoNew; rw [if_pos rfl], rfl⟩⟩⟩
theorem s_tuple {e : Expr} {xs : Dar} {p pos : Pos} (hn : notStar e = true) (h1 : kindIs c.sc "tuple" .globalImplicit = true) (h2 : D.tb.free.contains "tuple" = true) (ha : SA D c [e] xs) : SE D c (.Call (.Name "tuple" p) [e] [] pos) (xBi dTupOf xs) :=
  callTy (b := "tuple") hn h1 h2 (by decide +kernel) (by decide +kernel) (by decide +kernel) ha fun {B k call X E} s => ⟨fun xs H Q => ∃ p ys, xs = [.ref p] ∧ ((SqL B.bs.S.K H p ys ∧ ∀ l, H l = none → Q (.ref l) (upd H l (.tup ys))) ∨ (SqT B.bs.S.K H p ys ∧ Q (.ref p) H)), by rw [← s.o.K]; exact call_tuple_of, fun {ρ h H as vs Q} R ra q => by
    obtain ⟨a, rfl, q1⟩ := one_all q
    obtain ⟨v, r1, rfl, rx, e⟩ := ra
    rw [show r1 = [] from e]
    rcases seqK_all q1 with ⟨l, ys, rfl, g, q2⟩ | ⟨ys, rfl, q2⟩
    · obtain ⟨p, us, rfl, _, hs, rs⟩ := lst_at R rx g
      exact ⟨p, us, rfl, .inl ⟨SqL.of hs, fun l n => q2 _ _ _ (Ext.more n) (R.more n) ⟨l, us, rfl, .inl (.inl upd_same), Rels.mono (Ext.more n) rs⟩⟩⟩
    · obtain ⟨p, us, rfl, hs, rs⟩ := rx
      exact ⟨p, us, rfl, .inr ⟨hs, q2 _ _ _ Ext.refl R ⟨p, us, rfl, hs, rs⟩⟩⟩⟩
/-- str(n), n below 100 -/
def digs (n : Nat) : List Nat := Bool.rec (motive := fun _ => List Nat) [48 + n / 10, 48 + n % 10] [48 + n] (Nat.ble n 9)
theorem digs_ok : ∀ n : Nat, n < 100 → (⟨⟨digs n⟩⟩ : Str) = (toString ((n : Nat) : Int) : String) := by
  have : ((List.range 100).all fun n => decide ((⟨⟨digs n⟩⟩ : Str) = Str.ofString (toString ((n : Nat) : Int)))) = true := by decide +kernel
  intro n hn
  exact of_decide_eq_true (List.all_eq_true.mp this n (List.mem_range.mpr hn))
def dStr (as : List A) (h : Hh) : Out A := one as fun a => intK a fun i => Int.rec (motive := fun _ => Out A) (fun n => guard (Nat.blt n 100) (.ok (.str ⟨⟨digs n⟩⟩) h)) (fun _ => .bad) i
end
end
end DV
set_option Elab.async false
set_option linter.all false
set_option maxRecDepth 100000
set_option maxHeartbeats 4000000
namespace DV
open PySem PySem.Spec PyProof.Rows L2 ER EV
noncomputable section
theorem bnd_eq {α β : Type} (f : α → Hh → Out β) : ∀ m : Out α, bnd m f = m.bind f
  | .ok _ _ => rfl
  | .exc _ _ _ => rfl
  | .bad => rfl
  | .pick n k => by
    show Out.pick n (fun r => bnd (k r) f) = Out.pick n fun r => (k r).bind f
    congr 1
    funext r
    exact bnd_eq f (k r)
/-! ### targets -/
abbrev TgD := (β : Type) → A → Sl → (Sl → Out β) → Out β
abbrev TgsD := (β : Type) → List A → Sl → (Sl → Out β) → Out β
def TgOk (t : Tg) (d : TgD) : Prop := ∀ (β : Type) (a : A) (s : Sl) (k : Sl → Out β), d β a s k = match evTg t a s with | some s' => k s' | none => .bad
def TgsOk (ts : List Tg) (d : TgsD) : Prop := ∀ (β : Type) (as : List A) (s : Sl) (k : Sl → Out β), d β as s k = match evTgs ts as s with | some s' => k s' | none => .bad
def gNm (i : Nat) : TgD := fun _ a s k => setK s a i k
theorem gNm_ok (i : Nat) : TgOk (.nm i) (gNm i) := fun _ a s k => by
  show setK s a i k = _
  rw [setK_eq]
  unfold evTg
  rfl
def gNil0 : TgsD := fun β as s k => List.rec (motive := fun _ => Out β) (k s) (fun _ _ _ => .bad) as
theorem gNil0_ok : TgsOk [] gNil0 := fun _ as s k => by cases as <;> (unfold evTgs; rfl)
def gCons0 (d : TgD) (ds : TgsD) : TgsD := fun β as s k => List.rec (motive := fun _ => Out β) .bad (fun a r _ => d β a s fun s => ds β r s k) as
theorem gCons0_ok {t : Tg} {ts : List Tg} {d : TgD} {ds : TgsD} (h : TgOk t d) (hs : TgsOk ts ds) : TgsOk (t :: ts) (gCons0 d ds) := fun β as s k => by
  cases as with
  | nil => unfold evTgs; rfl
  | cons a r =>
    show d β a s (fun s => ds β r s k) = _
    rw [h]
    unfold evTgs
    cases evTg t a s with
    | none => rfl
    | some s1 => exact hs β r s1 k
def gTp (ds : TgsD) : TgD := fun β a s k => tupK a fun xs => ds β xs s k
theorem gTp_ok {ts : List Tg} {ds : TgsD} (hs : TgsOk ts ds) : TgOk (.tp ts) (gTp ds) := fun β a s k => by
  unfold evTg
  cases a with
  | tup xs => exact hs β xs s k
  | _ => rfl
/-! ### what is walked -/
abbrev Dit := Cl → Sl → Hh → Out (Option Jt)
def SI (D : DTb) (c : Cc) (tg e : Expr) (d : Dit) : Prop := ∀ {B k call X E}, Sg D c B k call X E → PI X tg e (iA B.bs.S E (d call))
def atL (h : Hh) (l : Bn) (k : List A → Option A) : Option (Option A) := Option.rec (motive := fun _ => Option (Option A)) none (fun c => Cell.rec (motive := fun _ => Option (Option A)) (fun xs => some (k xs)) (fun _ => none) (fun _ => none) (fun _ _ => none) (fun _ _ => none) (fun _ => none) c) (getH h l)
theorem atL_eq (h : Hh) (l : Bn) (k : List A → Option A) : atL h l k = match h.get l with | some (.lst xs) => some (k xs) | _ => none := by
  unfold atL
  rw [getH_eq]
  cases h.get l with
  | none => rfl
  | some c => cases c <;> rfl
def pairQ (x y : Option A) : Option A := Option.rec (motive := fun _ => Option A) none (fun a => Option.rec (motive := fun _ => Option A) none (fun b => some (.tup [a, b])) y) x
theorem pairQ_eq (x y : Option A) : pairQ x y = pairAt x y := by cases x <;> cases y <;> rfl
def atJ (j : Jt) (i : Nat) (h : Hh) : Option (Option A) := Jt.rec (motive := fun _ => Option (Option A)) (fun l => atL h l fun xs => nth xs i) (fun xs => some (nth xs i)) (fun n => some (Bool.rec (motive := fun _ => Option A) none (some (.int (.ofNat i))) (Nat.blt i n))) (fun l => atL h l fun xs => Option.rec (motive := fun _ => Option A) none (fun x => some (.tup [.int (.ofNat i), x])) (nth xs i))
  (fun a b => Jt.at (.zp a b) i h) (fun xs ys => some (pairQ (nth xs i) (nth ys i))) (fun l => Jt.at (.keys l) i h) (fun cs => some (Option.rec (motive := fun _ => Option A) none (fun c => some (.str ⟨⟨[c]⟩⟩)) (nth cs i))) (fun lo n => Jt.at (.rngA lo n) i h) j
theorem bltN {i n : Nat} : Nat.blt i n = decide (i < n) := by
  cases e : Nat.blt i n with
  | true => exact (decide_eq_true (Nat.le_of_ble_eq_true e)).symm
  | false => exact (decide_eq_false fun z => by rw [show Nat.blt i n = true from Nat.ble_eq_true_of_le z] at e; cases e).symm
theorem atJ_eq (j : Jt) (i : Nat) (h : Hh) : atJ j i h = j.at i h := by
  cases j with
  | lst l => show atL h l (fun xs => nth xs i) = _; rw [atL_eq]; unfold Jt.at; dsimp only; cases h.get l with | none => rfl | some c => (cases c <;> simp [nth_eq])
  | tup xs => show some (nth xs i) = _; rw [nth_eq]; rfl
  | rng n =>
    show some (Bool.rec (motive := fun _ => Option A) none (some (.int (.ofNat i))) (Nat.blt i n)) = _
    unfold Jt.at
    dsimp only
    rw [bltN]
    by_cases e : i < n
    · rw [if_pos e, decide_eq_true e]; rfl
    · rw [if_neg e, decide_eq_false e]
  | enm l =>
    show atL h l (fun xs => Option.rec (motive := fun _ => Option A) none (fun x => some (.tup [.int (.ofNat i), x])) (nth xs i)) = _
    rw [atL_eq]
    unfold Jt.at
    dsimp only
    cases h.get l with
    | none => rfl
    | some c => cases c with
      | lst xs =>
        dsimp only
        rw [nth_eq]
        cases xs[i]? <;> rfl
      | _ => rfl
  | zp a b => rfl
  | zpT xs ys => show some (pairQ (nth xs i) (nth ys i)) = _; rw [pairQ_eq, nth_eq, nth_eq]; rfl
  | keys l => rfl
  | str cs =>
    show some (Option.rec (motive := fun _ => Option A) none (fun c => some (.str ⟨⟨[c]⟩⟩)) (nth cs i)) = _
    rw [nth_eq]
    unfold Jt.at
    dsimp only
    cases cs[i]? <;> rfl
  | rngA lo n => rfl
/-! ### for -/
def evForG (bf : Sl → Hh → Out Fl) (j : Jt) (t : Tg) : Nat → Nat → Sl → Hh → Out Fl
  | 0, _, _, _ => .bad
  | m + 1, i, s, h => match j.at i h with
    | none => .bad
    | some none => .ok (.nx s) h
    | some (some x) => match evTg t x s with
      | none => .bad
      | some s1 => (bf s1 h).bind fun f h1 => match f with
        | .nx s2 => evForG bf j t m (i + 1) s2 h1
        | .ct s2 => evForG bf j t m (i + 1) s2 h1
        | .bk s2 => .ok (.nx s2) h1
        | .rt a => .ok (.rt a) h1
def forD (bf : Sl → Hh → Out Fl) (j : Jt) (d : TgD) (m : Nat) : Nat → Sl → Hh → Out Fl := Nat.rec (motive := fun _ => Nat → Sl → Hh → Out Fl) (fun _ _ _ => .bad) (fun _ ih i s h => Option.rec (motive := fun _ => Out Fl) .bad (fun o => Option.rec (motive := fun _ => Out Fl) (.ok (.nx s) h) (fun x => d Fl x s fun s1 => bnd (bf s1 h) fun f h1 => Fl.rec (motive := fun _ => Out Fl) (fun s2 => frNat (Nat.succ i) fun i => ih i s2 h1) (fun a => .ok (.rt a) h1) (fun s2 => .ok (.nx s2) h1) (fun s2 => frNat (Nat.succ i) fun i => ih i s2 h1) f) o) (atJ j i h)) m
theorem forD_eq {bf : Sl → Hh → Out Fl} {j : Jt} {t : Tg} {d : TgD} (hd : TgOk t d) : ∀ (m i : Nat) (s : Sl) (h : Hh), forD bf j d m i s h = evForG bf j t m i s h
  | 0, _, _, _ => rfl
  | m + 1, i, s, h => by
    show Option.rec (motive := fun _ => Out Fl) .bad (fun o => Option.rec (motive := fun _ => Out Fl) (.ok (.nx s) h) (fun x => d Fl x s fun s1 => bnd (bf s1 h) fun f h1 => Fl.rec (motive := fun _ => Out Fl) (fun s2 => frNat (Nat.succ i) fun i => forD bf j d m i s2 h1) (fun a => .ok (.rt a) h1) (fun s2 => .ok (.nx s2) h1) (fun s2 => frNat (Nat.succ i) fun i => forD bf j d m i s2 h1) f) o) (atJ j i h) = _
    rw [atJ_eq]
    unfold evForG
    cases e : j.at i h with
    | none => rfl
    | some o =>
      cases o with
      | none => rfl
      | some x =>
        show d Fl x s _ = _
        rw [hd]
        dsimp only
        cases evTg t x s with
        | none => rfl
        | some s1 =>
          dsimp only
          rw [bnd_eq]
          congr 1
          funext f h1
          cases f with
          | nx s2 => show frNat (Nat.succ i) (fun i => forD bf j d m i s2 h1) = _; rw [frNat_eq]; exact forD_eq hd m (i + 1) s2 h1
          | ct s2 => show frNat (Nat.succ i) (fun i => forD bf j d m i s2 h1) = _; rw [frNat_eq]; exact forD_eq hd m (i + 1) s2 h1
          | bk s2 => rfl
          | rt a => rfl
def sFor (d : TgD) (it : Dit) (b : Dst) : Dst := fun c s h => bnd (it c s h) fun oj h => opt oj fun j => forD (b c) j d turns 0 s h
theorem q_for {B : DBs} {E : XK} {call : Cl} {t : Tg} {d : TgD} {it : Dit} {b : Dst} (hd : TgOk t d) {D : Ends} {σ : L2.St} {H : Hp} (q : tSs B.bs.S E (sFor d it b call) D σ H) : tFor (iA B.bs.S E (it call)) (gTg B.bs.S t) (tSs B.bs.S E (b call)) D σ H := by
  obtain ⟨ρ, h, s, Rp, rs, q⟩ := q
  refine ⟨ρ, h, s, Rp, rs, gob q fun oj h1 q1 ρ1 H1 e1 R1 => ?_⟩
  obtain ⟨j, rfl, q1a⟩ := opt_all q1
  rw [forD_eq hd] at q1a
  refine ⟨j, rfl, fun J hJ => ?_⟩
  refine ⟨fun i m σ' H' => ∃ ρ2 h2 s2, Ext B.bs.S ρ1 H1 ρ2 H' ∧ Rep B.bs.S ρ2 h2 H' ∧ RelS B.bs.S ρ2 H' s2 σ' ∧ (evForG (b call) j t m i s2 h2).All (FW B.bs.S ρ2 H' D) (XW B.bs.S ρ2 H' E), ⟨turns, ρ1, h1, s, Ext.refl, R1, rs.mono e1, all_mono e1 (fun _ _ y => y.mono e1) q1a⟩, ?_⟩
  rintro i m σ' H' ⟨ρ2, h2, s2, e2, R2, rs2, q2⟩
  cases m with
  | zero => exact q2.elim
  | succ m =>
    unfold evForG at q2
    split at q2
    · exact q2.elim
    · rename_i ej
      exact .inl ⟨hJ.stop e2 R2 ej, q2 ρ2 H' Ext.refl R2 σ' rs2⟩
    · rename_i x ej
      obtain ⟨g1, g2⟩ := hJ.step e2 R2 ej
      split at q2
      · exact q2.elim
      · rename_i s3 et
        refine .inr ⟨g1, fun σ4 H4 => ∃ ρ4 h4 s4, Ext B.bs.S ρ1 H1 ρ4 H4 ∧ Rep B.bs.S ρ4 h4 H4 ∧ RelS B.bs.S ρ4 H4 s4 σ4 ∧ (evForG (b call) j t m (i + 1) s4 h4).All (FW B.bs.S ρ4 H4 D) (XW B.bs.S ρ4 H4 E), fun σ4 H4 z => ⟨m, Nat.lt_succ_self m, z⟩, fun v H3 y => ?_⟩
        obtain ⟨e3, R3, rv⟩ := g2 v H3 y
        refine ⟨ρ2, s2, x, s3, rs2.mono e3, rv, et, fun σ3 rs3 _ => ?_⟩
        refine ⟨ρ2, h2, s3, R3, rs3, go (all_mono e3 (fun _ _ y => y) q2) fun f h5 q5 ρ5 H5 e5 R5 => ?_⟩
        cases f with
        | nx s5 => exact fun σ5 rs5 => ⟨ρ5, h5, s5, e2.trans (e3.trans e5), R5, rs5, all_mono e5 (fun _ _ y => (y.mono e3).mono e5) q5⟩
        | ct s5 => exact fun σ5 rs5 => ⟨ρ5, h5, s5, e2.trans (e3.trans e5), R5, rs5, all_mono e5 (fun _ _ y => (y.mono e3).mono e5) q5⟩
        | bk s5 => exact fun σ5 rs5 => q5 ρ5 H5 (e3.trans e5) R5 σ5 rs5
        | rt a => exact fun v rv => q5 ρ5 H5 (e3.trans e5) R5 v rv
section
variable {D : DTb} {c : Cc}
theorem s_for {tg iter : Expr} {b : List Stmt} {t : Tg} {d : TgD} {it : Dit} {bd : Dst} {pos : Pos} (h0 : (match iter with | .Set _ _ _ => false | _ => true) = true) (hi : SI D c tg iter it) (ht : Ct c tg t) (hd : TgOk t d) (hb : SSs D c b bd) : SS D c (.For tg iter b [] pos) (sFor d it bd) := fun s =>
  PS.imp (ps_for s.o.own s.o.calm (hi s) (pg s.o t ht) (hb s) fun v => by cases iter <;> first | rfl | cases h0) fun D σ H q => q_for hd q
/-! ### iterators -/
def seqC {β : Type} (o : Option Cell) (k kd : Out β) : Out β := Option.rec (motive := fun _ => Out β) .bad (fun c => Cell.rec (motive := fun _ => Out β) (fun _ => k) (fun _ => kd) (fun _ => .bad) (fun _ _ => .bad) (fun _ _ => .bad) (fun _ => .bad) c) o
theorem seqC_all {β : Type} {o : Option Cell} {k kd : Out β} {P : β → Hh → Prop} {X : Nat → List (Str × A) → Hh → Prop} (q : (seqC o k kd).All P X) : (∃ xs, o = some (.lst xs) ∧ k.All P X) ∨ ∃ kvs, o = some (.dct kvs) ∧ kd.All P X := by
  cases o with
  | none => exact q.elim
  | some c => cases c with
    | lst xs => exact .inl ⟨xs, rfl, q⟩
    | dct xs => exact .inr ⟨xs, rfl, q⟩
    | _ => exact q.elim
def iSeqD (x : Den) : Dit := fun c s h => bnd (x c s h) fun a h => A.casesOn (motive_1 := fun _ => Out (Option Jt)) a .bad (fun _ => .bad) (fun _ => .bad) (fun z => .ok (some (.str z.cps.toList)) h) (fun _ => .bad) (fun l => seqC (getH h l) (.ok (some (.lst l)) h) (.ok (some (.keys l)) h)) (fun _ => .bad) (fun xs => .ok (some (.tup xs)) h)
theorem j_str {S : Sc} {ρ : Rho} {H : Hp} {z : Str} : JOk S ρ H (.str z.cps.toList) (Its z) where
  stop := fun {ρ' h' H' i} e R q => by
    unfold Jt.at at q
    dsimp only at q
    show z.cps.size ≤ i
    cases g : z.cps.toList[i]? with
    | none =>
      have := List.getElem?_eq_none_iff.mp g
      simpa using this
    | some x => rw [g] at q; cases q
  step := fun {ρ' h' H' i x} e R q => by
    unfold Jt.at at q
    dsimp only at q
    cases g : z.cps.toList[i]? with
    | none => rw [g] at q; cases q
    | some y =>
      rw [g] at q
      cases q
      have hi : i < z.cps.size := by
        have := (List.getElem?_eq_some_iff.mp g).1
        simpa using this
      refine ⟨hi, fun v H2 yy => ?_⟩
      obtain ⟨rfl, cc, w1, rfl⟩ := yy
      refine ⟨Ext.refl, R, ?_⟩
      have e2 : z.cps.toList[i]? = some cc := by simpa using w1
      rw [g] at e2
      cases e2
      rfl
/-- a list, a tuple or a text -/
def iSeqS (K : PySem.W.Frag) (tl : TE) : TI := fun σ H R => tl σ H fun x H1 => (∃ a, x = .ref a ∧ (∃ xs, SqL K H1 a xs) ∧ R (Itl K a) H1) ∨ (∃ a, x = .ref a ∧ (∃ xs, SqT K H1 a xs) ∧ R (Itt K a) H1) ∨ (∃ z, x = .str z ∧ R (Its z) H1) ∨ ∃ d o kvs, x = .ref d ∧ H1 d = some (.frz o (.dK kvs)) ∧ R (Itk d o kvs) H1
theorem pi_seqS {X : Cx} {tg l : Expr} {tl : TE} (hl : PE X l tl) : PI X tg l (iSeqS X.K tl) := by
  refine ⟨fun pins s σ H R I h => ?_⟩
  refine thn (hl.run pins s σ H _ I h) fun v s1 ⟨x, H1, I1, r1, q1⟩ => ?_
  have fin : ∀ b, b ∈ [s1.heap.objs.size] → FpOk X pins H1 b := fun b hb => by
    have e : b = s1.heap.objs.size := by simpa using hb
    subst e
    exact I1.fpOk (Nat.le_refl _) (I1.hok.fresh (Nat.le_refl _))
  rcases q1 with ⟨a, e, ⟨xs, hq⟩, q⟩ | ⟨a, e, ⟨xs, hq⟩, q⟩ | ⟨z, e, q⟩ | ⟨d, o, kvs, e, hd, q⟩
  · subst e
    cases r1
    obtain ⟨its, rv, p, hz⟩ := I1.list hq
    refine wpAny_pyIter_list p.isList ?_
    exact ⟨s1.heap.objs.size, [s1.heap.objs.size], _, _, H1, rfl, I1.kept (t' := s1.toks) fun b o e => Heap.get?_push_of_some _ e, turn_list a _, ⟨_, Heap.get?_push_size _ rfl, rfl, rfl⟩, fin, q⟩
  · subst e
    cases r1
    obtain ⟨its, rv, p, hz⟩ := I1.tuple hq
    refine wpAny_pyIter_tuple p ?_
    exact ⟨s1.heap.objs.size, [s1.heap.objs.size], _, _, H1, rfl, I1.kept (t' := s1.toks) fun b o e => Heap.get?_push_of_some _ e, turn_tuple a _, ⟨_, Heap.get?_push_size _ rfl, rfl, rfl⟩, fin, q⟩
  · subst e
    obtain ⟨t, rfl⟩ := r1
    cases ha : z.cps.all (· < 128)
    · exact wpAny_pyIter_wide ha (pi_one (tk := s1.toks) I1 _ (turn_str _ z t "str_iterator" (.inr rfl)) ⟨_, Heap.get?_push_size _ rfl, rfl, rfl⟩ q)
    · exact wpAny_pyIter_ascii ha (pi_one (tk := s1.toks) I1 _ (turn_str _ z t "str_ascii_iterator" (.inl rfl)) ⟨_, Heap.get?_push_size _ rfl, rfl, rfl⟩ q)
  · subst e
    obtain rfl : v = Value.ref d := r1
    obtain ⟨hs, hgd, hx, es, ep, vs, hdt, hsz, kv, hm⟩ := I1.frzK hd
    refine iter_keys hs hgd hx hdt (pi_one (tk := s1.toks) I1 _ (turn_keys _ hdt) ⟨_, Heap.get?_push_size _ rfl, rfl, ?_⟩ q)
    rw [hsz] <;> rfl
theorem s_iSeq {tg e : Expr} {x : Den} (he : SE D c e x) : SI D c tg e (iSeqD x) := fun {B k call X E} s => by
  refine PI.imp (pi_seqS (he s).1) fun σ H R q => ?_
  rw [s.o.K]
  obtain ⟨ρ, h, sl, Rp, rs, q⟩ := q
  refine ⟨ρ, h, sl, Rp, rs, gob q fun a h1 q1 ρ1 H1 v e1 R1 rv => ?_⟩
  cases a with
  | str z =>
    rw [show v = V.str z from rv]
    obtain ⟨j, ej, k⟩ := (show JW B.bs.S ρ H R _ h1 from q1) ρ1 H1 e1 R1
    cases ej
    exact .inr (.inr (.inl ⟨z, rfl, k _ j_str⟩))
  | loc l =>
    rcases seqC_all q1 with ⟨xs, g, q2⟩ | ⟨xs, g, q2⟩
    · rw [getH_eq] at g
      obtain ⟨p, us, rfl, hp, hs, _⟩ := lst_at R1 rv g
      obtain ⟨j, ej, k⟩ := q2 ρ1 H1 e1 R1
      cases ej
      exact .inl ⟨p, rfl, ⟨us, SqL.of hs⟩, k _ (j_lst hp)⟩
    · rw [getH_eq] at g
      obtain ⟨p, rfl, hp, o, us, hs, _⟩ := cell_at R1 rv g
      obtain ⟨j, ej, k⟩ := q2 ρ1 H1 e1 R1
      cases ej
      exact .inr (.inr (.inr ⟨p, o, us, rfl, hs, k _ (j_keys hp hs)⟩))
  | tup xs =>
    obtain ⟨p, us, rfl, hs, rus⟩ := rv
    obtain ⟨j, ej, k⟩ := (show JW B.bs.S ρ H R _ h1 from q1) ρ1 H1 e1 R1
    cases ej
    exact .inr (.inl ⟨p, rfl, ⟨us, hs⟩, k _ (j_tup hs rus)⟩)
  | _ => exact q1.elim
def gd {β : Type} (b : Bool) (k : Out β) : Out β := Bool.rec (motive := fun _ => Out β) .bad k b
theorem gd_all {β : Type} {b : Bool} {k : Out β} {P : β → Hh → Prop} {X : Nat → List (Str × A) → Hh → Prop} (q : (gd b k).All P X) : b = true ∧ k.All P X := by
  cases b with
  | false => exact q.elim
  | true => exact ⟨rfl, q⟩
def iRngD (x : Den) : Dit := fun c s h => bnd (x c s h) fun a h => intK a fun i => Int.rec (motive := fun _ => Out (Option Jt)) (fun n => gd (Nat.ble n 100000) (.ok (some (.rng n)) h)) (fun _ => .bad) i
theorem s_iRng {tg e : Expr} {x : Den} {p pos : Pos} (h1 : kindIs c.sc "range" .globalImplicit = true) (h2 : D.tb.free.contains "range" = true) (h3 : notStar e = true) (he : SE D c e x) : SI D c tg (.Call (.Name "range" p) [e] [] pos) (iRngD x) := fun {B k call X E} s => by
  refine PI.imp (pi_range1 (s.o.gl h1) (s.o.fr s.ok.bo (by rw [s.ok.tb, s.d]; exact h2)) (pa_cons (he s).1 pa_nil (star_cons h3)) (star_cons h3)) fun σ H R q => ?_
  obtain ⟨ρ, h, sl, Rp, rs, q⟩ := q
  refine ⟨ρ, h, sl, Rp, rs, gob q fun a h1 q1 ρ1 H1 v e1 R1 rv => ?_⟩
  obtain ⟨i, rfl, q2⟩ := intK_all q1
  cases i with
  | ofNat n =>
    obtain ⟨hc, q3⟩ := gd_all (show (gd (Nat.ble n 100000) (Out.ok (some (Jt.rng n)) h1)).All _ _ from q2)
    have hn := Nat.le_of_ble_eq_true hc
    obtain ⟨j, ej, k⟩ := q3 ρ1 H1 e1 R1
    cases ej
    exact ⟨(n : Int), by rw [show v = V.int (Int.ofNat n) from rv]; rfl, by omega, by omega, k _ j_rng⟩
  | negSucc n => exact q2.elim
def iEnmD (x : Den) : Dit := fun c s h => bnd (x c s h) fun a h => lstK a h fun l _ => .ok (some (.enm l)) h
theorem s_iEnm {ts : List Expr} {kk : Nat} {tp : Pos} {e : Expr} {x : Den} {p pos : Pos} (h1 : kindIs c.sc "enumerate" .globalImplicit = true) (h2 : D.tb.free.contains "enumerate" = true) (h3 : notStar e = true) (he : SE D c e x) : SI D c (.Tuple ts kk tp) (.Call (.Name "enumerate" p) [e] [] pos) (iEnmD x) := fun {B k call X E} s => by
  refine PI.imp (pi_enum (s.o.gl h1) (s.o.fr s.ok.bo (by rw [s.ok.tb, s.d]; exact h2)) (pa_cons (he s).1 pa_nil (star_cons h3)) (star_cons h3)) fun σ H R q => ?_
  rw [s.o.K]
  obtain ⟨ρ, h, sl, Rp, rs, q⟩ := q
  refine ⟨ρ, h, sl, Rp, rs, gob q fun a h1 q1 ρ1 H1 v e1 R1 rv => ?_⟩
  obtain ⟨l, xs, rfl, g, q2⟩ := lstK_all q1
  obtain ⟨p, us, rfl, hp, hs, _⟩ := lst_at R1 rv g
  obtain ⟨j, ej, k⟩ := q2 ρ1 H1 e1 R1
  cases ej
  exact ⟨p, us, rfl, SqL.of hs, k _ (j_enm hp)⟩
def iZipD (x y : Den) : Dit := fun c s h => bnd (x c s h) fun a h => bnd (y c s h) fun b h => A.casesOn (motive_1 := fun _ => Out (Option Jt)) a .bad (fun _ => .bad) (fun _ => .bad) (fun _ => .bad) (fun _ => .bad) (fun l => lstC (getH h l) fun _ => lstK b h fun m _ => .ok (some (.zp l m)) h) (fun _ => .bad) (fun xs => tupK b fun ys => .ok (some (.zpT xs ys)) h)
theorem s_iZip {ts : List Expr} {kk : Nat} {tp : Pos} {a b : Expr} {x y : Den} {p pos : Pos} (h1 : kindIs c.sc "zip" .globalImplicit = true) (h2 : D.tb.free.contains "zip" = true) (h3 : notStar a = true) (h4 : notStar b = true) (ha : SE D c a x) (hb : SE D c b y) : SI D c (.Tuple ts kk tp) (.Call (.Name "zip" p) [a, b] [] pos) (iZipD x y) := fun {B k call X E} s => by
  refine PI.imp (RZ.pi_zipA (s.o.gl h1) (s.o.fr s.ok.bo (by rw [s.ok.tb, s.d]; exact h2)) (pa_cons (ha s).1 (pa_cons (hb s).1 pa_nil (star_cons h4)) (star_cons h3)) (star_cons h3) (by rw [star_cons h4]; rfl)) fun σ H R q => ?_
  rw [s.o.K]
  obtain ⟨ρ, h, sl, Rp, rs, q⟩ := q
  refine ⟨ρ, h, sl, Rp, rs, gob q fun a h1 q1 ρ1 H1 v e1 R1 rv => ?_⟩
  refine ⟨ρ1, h1, sl, R1, rs.mono e1, gob (all_mono e1 (fun _ _ y => y) q1) fun b h2 q2 ρ2 H2 w e2 R2 rw => ?_⟩
  cases a with
  | loc l =>
    obtain ⟨xs, g1, q3⟩ := lstC_all q2
    rw [getH_eq] at g1
    obtain ⟨m, ys, rfl, g2, q4⟩ := lstK_all q3
    obtain ⟨p, us, rfl, hp, hs, _⟩ := lst_at R2 (rv.mono e2) g1
    obtain ⟨p', us', rfl, hp', hs', _⟩ := lst_at R2 rw g2
    obtain ⟨j, ej, k⟩ := q4 ρ2 H2 (e1.trans e2) R2
    cases ej
    exact ⟨p, p', us, us', rfl, .inl ⟨SqL.of hs, SqL.of hs', k _ (j_zp hp hp')⟩⟩
  | tup xs =>
    obtain ⟨ys, rfl, q3⟩ := tupK_all q2
    obtain ⟨p, us, rfl, hs, rus⟩ := rv.mono e2
    obtain ⟨p', us', rfl, hs', rus'⟩ := rw
    obtain ⟨j, ej, k⟩ := q3 ρ2 H2 (e1.trans e2) R2
    cases ej
    exact ⟨p, p', us, us', rfl, .inr ⟨hs, hs', k _ (j_zpT hs rus hs' rus')⟩⟩
  | _ => exact q2.elim
end
end
end DV
set_option Elab.async false
set_option linter.all false
set_option maxRecDepth 100000
set_option maxHeartbeats 4000000
namespace DV
open PySem PySem.Spec PyProof.Rows L2 ER EV
noncomputable section
/-! ### comprehensions -/
def noxQ {α : Type} (m : Out α) : Out α := Out.rec (motive := fun _ => Out α) (fun a h => .ok a h) (fun _ _ _ => .bad) .bad (fun n _ ih => .pick n ih) m
theorem noxQ_eq {α : Type} : ∀ m : Out α, noxQ m = m.nox
  | .ok _ _ => rfl
  | .exc _ _ _ => rfl
  | .bad => rfl
  | .pick n k => by
    show Out.pick n (fun r => noxQ (k r)) = Out.pick n fun r => (k r).nox
    congr 1
    funext r
    exact noxQ_eq (k r)
def wipeQ (s : Sl) (vs : List Nat) : Sl := List.rec (motive := fun _ => Sl) s (fun v _ ih => ih.set v none) vs
theorem wipeQ_eq (s : Sl) : ∀ vs, wipeQ s vs = wipeA s vs
  | [] => rfl
  | v :: vs => by
    show (wipeQ s vs).set v none = (wipeA s vs).set v none
    rw [wipeQ_eq s vs]
def evCompG (cf xf : Sl → Hh → Out A) (j : Jt) (t : Tg) (s : Sl) (d : Bn) : Nat → Nat → Hh → Out A
  | 0, _, _ => .bad
  | m + 1, i, h => match j.at i h with
    | none => .bad
    | some none => .ok (.loc d) h
    | some (some x) => match evTg t x s with
      | none => .bad
      | some s1 => (cf s1 h).nox.bind fun b h1 => match b with
        | .bl true => (xf s1 h1).nox.bind fun y h2 => match h2.get d with
          | some (.lst acc) => if acc.length < lim then evCompG cf xf j t s d m (i + 1) (h2.put d (.lst (acc ++ [y]))) else .bad
          | _ => .bad
        | .bl false => evCompG cf xf j t s d m (i + 1) h1
        | _ => .bad
def compD (cf xf : Sl → Hh → Out A) (j : Jt) (g : TgD) (s : Sl) (d : Bn) (m : Nat) : Nat → Hh → Out A := Nat.rec (motive := fun _ => Nat → Hh → Out A) (fun _ _ => .bad) (fun _ ih i h => Option.rec (motive := fun _ => Out A) .bad (fun o => Option.rec (motive := fun _ => Out A) (.ok (.loc d) h) (fun x => g A x s fun s1 => bnd (noxQ (cf s1 h)) fun b h1 => blK b (bnd (noxQ (xf s1 h1)) fun y h2 => lstC (getH h2 d) fun acc => lenK acc 0 fun n => Bool.rec (motive := fun _ => Out A) .bad (catK acc [y] fun z => putH h2 d (.lst z) fun h3 => frNat (Nat.succ i) fun i => ih i h3) (Nat.blt n lim)) (frNat (Nat.succ i) fun i => ih i h1)) o) (atJ j i h)) m
theorem compD_eq {cf xf : Sl → Hh → Out A} {j : Jt} {t : Tg} {g : TgD} (hg : TgOk t g) (s : Sl) (d : Bn) : ∀ (m i : Nat) (h : Hh), compD cf xf j g s d m i h = evCompG cf xf j t s d m i h
  | 0, _, _ => rfl
  | m + 1, i, h => by
    show Option.rec (motive := fun _ => Out A) .bad (fun o => Option.rec (motive := fun _ => Out A) (.ok (.loc d) h) (fun x => g A x s fun s1 => bnd (noxQ (cf s1 h)) fun b h1 => blK b (bnd (noxQ (xf s1 h1)) fun y h2 => lstC (getH h2 d) fun acc => lenK acc 0 fun n => Bool.rec (motive := fun _ => Out A) .bad (catK acc [y] fun z => putH h2 d (.lst z) fun h3 => frNat (Nat.succ i) fun i => compD cf xf j g s d m i h3) (Nat.blt n lim)) (frNat (Nat.succ i) fun i => compD cf xf j g s d m i h1)) o) (atJ j i h) = _
    rw [atJ_eq]
    unfold evCompG
    cases e : j.at i h with
    | none => rfl
    | some o =>
      cases o with
      | none => rfl
      | some x =>
        show g A x s _ = _
        rw [hg]
        dsimp only
        cases evTg t x s with
        | none => rfl
        | some s1 =>
          dsimp only
          rw [bnd_eq, noxQ_eq]
          congr 1
          funext b h1
          cases b with
          | bl b =>
            cases b with
            | true =>
              show bnd (noxQ (xf s1 h1)) _ = _
              rw [bnd_eq, noxQ_eq]
              congr 1
              funext y h2
              rw [getH_eq]
              cases h2.get d with
              | none => rfl
              | some ce =>
                cases ce with
                | lst acc =>
                  show lenK acc 0 _ = _
                  rw [lenK_eq, Nat.zero_add, bltN]
                  dsimp only
                  by_cases hl : acc.length < lim
                  · rw [if_pos hl, decide_eq_true hl]
                    show catK acc [y] _ = _
                    rw [catK_eq, putH_eq, frNat_eq]
                    exact compD_eq hg s d m (i + 1) _
                  · rw [if_neg hl, decide_eq_false hl]
                | _ => rfl
            | false =>
              show frNat (Nat.succ i) (fun i => compD cf xf j g s d m i h1) = _
              rw [frNat_eq]
              exact compD_eq hg s d m (i + 1) h1
          | _ => rfl
def xComp (x : Den) (g : TgD) (it : Dit) (cd : Den) (own : List Nat) : Den := fun c s h => bnd (it c s h) fun oj h => opt oj fun j => newH h (.lst []) fun d h => compD (cd c) (x c) j g (wipeQ s own) d turns 0 h
theorem q_comp {B : DBs} {E : XK} {call : Cl} {x cd : Den} {t : Tg} {g : TgD} {it : Dit} {own : List Nat} (hg : TgOk t g) (hs : ∀ i ∈ slotsT t, i ∈ own) {σ : L2.St} {H : Hp} {Q : VK} (q : tE B.bs.S E (xComp x g it cd own call) σ H Q) :
    tLc (iA B.bs.S E (it call)) (gTg B.bs.S t) (tT B.bs.S E0 (cd call)) (tE B.bs.S E0 (x call)) own σ H Q := by
  obtain ⟨ρ, h, s, Rp, rs, q⟩ := q
  refine ⟨ρ, h, s, Rp, rs, gob q fun oj h1 q1 ρ1 H1 e1 R1 => ?_⟩
  obtain ⟨j, rfl, q1a⟩ := opt_all q1
  rw [newH_eq, compD_eq hg, wipeQ_eq] at q1a
  refine ⟨j, rfl, fun J hJ D hD => ?_⟩
  have eN : Ext B.bs.S ρ1 H1 (rhoNew ρ1 h1.nx D) (upd H1 D (.lst [])) := Ext.new R1 hD
  refine ⟨fun i m H' => ∃ ρ2 h2, Ext B.bs.S (rhoNew ρ1 h1.nx D) (upd H1 D (.lst [])) ρ2 H' ∧ Rep B.bs.S ρ2 h2 H' ∧ (evCompG (cd call) (x call) j t (wipeA s own) h1.nx m i h2).All (QW B.bs.S ρ2 H' Q) (XW B.bs.S ρ2 H' E), ⟨turns, _, h1.new (.lst []), Ext.refl, R1.new hD ⟨[], upd_same, rfl⟩, all_mono (e1.trans eN) (fun _ _ y => (y.mono e1).mono eN) q1a⟩, ?_⟩
  rintro i m H' ⟨ρ2, h2, e2, R2, q2⟩
  have e02 : Ext B.bs.S ρ1 H1 ρ2 H' := eN.trans e2
  have hd2 : ρ2 h1.nx = some D := e2.le _ _ (by unfold rhoNew; rw [if_pos rfl])
  have rs2 : RelS B.bs.S ρ2 H' (wipeA s own) (wipe σ own) := (wipe_rel (rs.mono e1) own).mono e02
  cases m with
  | zero => exact q2.elim
  | succ m =>
    unfold evCompG at q2
    split at q2
    · exact q2.elim
    · rename_i ej
      exact .inl ⟨hJ.stop e02 R2 ej, q2 ρ2 H' _ Ext.refl R2 ⟨D, hd2, rfl⟩⟩
    · rename_i y ej
      obtain ⟨g1, g2⟩ := hJ.step e02 R2 ej
      split at q2
      · exact q2.elim
      · rename_i s3 et
        refine .inr ⟨g1, fun H4 => ∃ ρ4 h4, Ext B.bs.S (rhoNew ρ1 h1.nx D) (upd H1 D (.lst [])) ρ4 H4 ∧ Rep B.bs.S ρ4 h4 H4 ∧ (evCompG (cd call) (x call) j t (wipeA s own) h1.nx m (i + 1) h4).All (QW B.bs.S ρ4 H4 Q) (XW B.bs.S ρ4 H4 E), fun H4 z => ⟨m, Nat.lt_succ_self m, z⟩, fun v H3 yy => ?_⟩
        obtain ⟨e3, R3, rv⟩ := g2 v H3 yy
        refine ⟨ρ2, wipeA s own, y, s3, rs2.mono e3, rv, et, fun σ3 rs3 bt => ⟨wipe_but bt hs, ?_⟩⟩
        have q3' := Out.all_nox (X' := XW B.bs.S ρ2 H3 E0) (Out.all_bind (all_mono e3 (fun _ _ y => y) q2))
        refine ⟨ρ2, h2, s3, R3, rs3, q3'.mono (fun b h3 q4 => ?_) fun _ _ _ y => y⟩
        split at q4
        · refine ⟨true, rfl, fun ρ3 H5 e5 R5 => ?_⟩
          simp only [if_true]
          refine ⟨ρ3, h3, s3, R5, rs3.mono e5, ?_⟩
          have q5 := Out.all_bind (all_mono e5 (fun _ _ y => y) q4)
          refine (Out.all_nox q5).mono (fun z h4 q6 ρ4 H6 w e6 R6 rw6 => ?_) fun _ _ _ y => y
          split at q6
          · rename_i acc ga
            split at q6
            · rename_i hlen
              have e26 : Ext B.bs.S (rhoNew ρ1 h1.nx D) (upd H1 D (.lst [])) ρ4 H6 := (e2.trans e3).trans (e5.trans e6)
              have hd4 : ρ4 h1.nx = some D := e26.le _ _ (by unfold rhoNew; rw [if_pos rfl])
              obtain ⟨us, hus, rus⟩ := lst_at' R6 hd4 ga
              have eP : Ext B.bs.S ρ4 H6 ρ4 (upd H6 D (.lst (us ++ [w]))) := Ext.put hus True.intro
              refine ⟨us, hus, ?_, ρ4, h4.put h1.nx (.lst (acc ++ [z])), e26.trans eP, R6.put hd4 hus True.intro ⟨us ++ [w], upd_same, Rels.append (Rels.mono eP rus) (Rels.one (rw6.mono eP))⟩, ?_⟩
              · rw [Rels.length rus]
                exact Nat.lt_of_lt_of_le hlen (by decide)
              · exact all_mono (e6.trans eP) (fun _ _ y => (y.mono (e3.trans e5)).mono (e6.trans eP)) q6
            · exact q6.elim
          · exact q6.elim
        · refine ⟨false, rfl, fun ρ3 H5 e5 R5 => ?_⟩
          simp only [Bool.false_eq_true, if_false]
          exact ⟨ρ3, h3, (e2.trans e3).trans e5, R5, all_mono e5 (fun _ _ y => y.mono (e3.trans e5)) q4⟩
        · exact q4.elim
/-- conditions of a comprehension -/
def SC (D : DTb) (c : Cc) (ifs : List Expr) (d : Den) : Prop := ∀ {B k call X}, Sg D c B k call X E0 → PTs X ifs (tT B.bs.S E0 (d call))
section
variable {D : DTb} {c : Cc}
theorem s_c0 : SC D c [] (xCst (.bl true)) := fun s => PTs.imp pts_nil fun σ H Q q => by
  obtain ⟨ρ, h, s, R, rs, q⟩ := q
  obtain ⟨b, e, k⟩ := q
  cases e
  exact k ρ H Ext.refl R
theorem s_c1 {e : Expr} {x : Den} (he : SE D c e x) : SC D c [e] x := fun s => PTs.imp (pts_one (he s).2) fun σ H Q q => q
theorem Sg.blk {B : DBs} {k : Nat} {call : Cl} {X : Cx} {E : XK} (s : Sg D c B k call X E) {scope : Scope} {sh : Shared} {H : Hp} {C : Addr} {cl : List (Str × Addr)} {fp : List Addr} : Sg D ⟨c.N, scope, none⟩ B k call (X.blk sh H scope (compEnvC scope cl C X.env) fp) E0 := ⟨s.d, s.ok, s.cl, ok_blk s.o, fun h => nomatch h⟩
theorem s_comp {elt tg iter : Expr} {ifs : List Expr} {scope : Scope} {pos : Pos} {x cd : Den} {t : Tg} {g : TgD} {it : Dit} {own : List (Str × Nat)} (h1 : blkC c.N c.sc scope own = true) (h2 : (match iter with | .Set _ _ _ => false | _ => true) = true) (h3 : SI D c tg iter it) (h4 : Ct ⟨c.N, scope, none⟩ tg t) (hg : TgOk t g)
    (h5 : ((slotsT t).all fun i => (own.map (·.2)).contains i) = true) (h6 : SC D ⟨c.N, scope, none⟩ ifs cd) (h8 : SE D ⟨c.N, scope, none⟩ elt x) : SE D c (.ListComp elt [⟨tg, iter, ifs, 0⟩] scope pos) (xComp x g it cd (own.map (·.2))) := plE rfl fun s => by
  refine PE.imp (pe_lc s.o.calm (by rw [s.o.N]; exact s.o.nd) (h3 s) (blk_ok s.o h1) (fun sh H C cl fp => pg (ok_blk s.o) t h4) (fun sh H C cl fp => h6 s.blk) (fun sh H C cl fp => (h8 s.blk).1) fun v => ?_) fun σ H Q q => q_comp hg (fun i hi => ?_) q
  · cases iter <;> first | rfl | cases h2
  · have z := List.all_eq_true.mp h5 i hi
    simpa using z
end
/-! ### statements -/
def sAsg (g : TgD) (x : Den) : Dst := fun c s h => bnd (x c s h) fun a h => g Fl a s fun s => .ok (.nx s) h
def sEx (x : Den) : Dst := fun c s h => bnd (x c s h) fun _ h => .ok (.nx s) h
def sRet (x : Den) : Dst := fun c s h => bnd (x c s h) fun a h => .ok (.rt a) h
def sRet0 : Dst := fun _ _ h => .ok (.rt .non) h
def sPass : Dst := fun _ s h => .ok (.nx s) h
def sBk : Dst := fun _ s h => .ok (.bk s) h
def sCt : Dst := fun _ s h => .ok (.ct s) h
def sIf (t : Den) (a b : Dst) : Dst := fun c s h => bnd (t c s h) fun x h => blK x (a c s h) (b c s h)
def sSeq (a b : Dst) : Dst := fun c s h => bnd (a c s h) fun f h => Fl.rec (motive := fun _ => Out Fl) (fun s => b c s h) (fun a => .ok (.rt a) h) (fun s => .ok (.bk s) h) (fun s => .ok (.ct s) h) f
section
variable {D : DTb} {c : Cc}
theorem q_asg {B : DBs} {E : XK} {call : Cl} {t : Tg} {g : TgD} {x : Den} (hg : TgOk t g) {D : Ends} {σ : L2.St} {H : Hp} (q : tSs B.bs.S E (sAsg g x call) D σ H) : tAsg (tE B.bs.S E (x call)) (gTg B.bs.S t) D σ H := by
  obtain ⟨ρ, h, s, R, rs, q⟩ := q
  refine ⟨ρ, h, s, R, rs, gob q fun a h1 q1 ρ1 H1 v e1 R1 rv => ?_⟩
  rw [hg] at q1
  cases et : evTg t a s with
  | none => rw [et] at q1; exact q1.elim
  | some s1 =>
    rw [et] at q1
    exact ⟨ρ1, s, a, s1, rs.mono e1, rv, et, fun σ' rs' _ => q1 ρ1 H1 e1 R1 σ' rs'⟩
def notTT (tg e : Expr) : Bool := match tg, e with | .Tuple _ _ _, .Tuple _ _ _ => false | _, _ => true
theorem s_asg {tg e : Expr} {t : Tg} {g : TgD} {x : Den} {pos : Pos} (h1 : notComp e = true) (h2 : notTT tg e = true) (h3 : Ct c tg t) (hg : TgOk t g) (he : SE D c e x) : SS D c (.Assign [tg] e pos) (sAsg g x) := fun {B k call X E} s => by
  have hst : (assignEach [tg] X.env).map (·.2) = [assign tg X.env] := by rw [tg_star h3]; rfl
  have hsw : swapsWithSole [tg] e pos.line X.env = pure false := sw_no h1
  have hss : swappedStores [tg] e X.env = pure none := by
    cases h3 with
    | nm _ _ => cases e <;> rfl
    | tp _ => cases e <;> first | rfl | cases h2
  exact PS.imp (ps_asg (he s).1 (pg s.o t h3) hsw hss hst) fun D σ H q => q_asg hg q
theorem s_ex {e : Expr} {x : Den} {pos : Pos} (h1 : notComp e = true) (he : SE D c e x) : SS D c (.Expr e pos) (sEx x) := fun s => PS.imp (ps_expr (he s).1 (sw_no h1)) fun D σ H q => by
  obtain ⟨ρ, h, s, R, rs, q⟩ := q
  exact ⟨ρ, h, s, R, rs, gob q fun a h1 q1 ρ1 H1 v e1 R1 rv => q1 ρ1 H1 e1 R1 σ (rs.mono e1)⟩
theorem s_ret {e : Expr} {x : Den} {pos : Pos} (he : SE D c e x) : SS D c (.Return (some e) pos) (sRet x) := fun s => PS.imp (ps_ret (he s).1) fun D σ H q => by
  obtain ⟨ρ, h, s, R, rs, q⟩ := q
  exact ⟨ρ, h, s, R, rs, gob q fun a h1 q1 ρ1 H1 v e1 R1 rv => q1 ρ1 H1 e1 R1 v rv⟩
theorem s_pass {pos : Pos} : SS D c (.Pass pos) sPass := fun s => PS.imp ps_pass fun D σ H q => by
  obtain ⟨ρ, h, s, R, rs, q⟩ := q
  exact q ρ H Ext.refl R σ rs
theorem s_if {t : Expr} {a b : List Stmt} {x : Den} {da db : Dst} {pos : Pos} (ht : SE D c t x) (ha : SSs D c a da) (hb : SSs D c b db) : SS D c (.If t a b pos) (sIf x da db) := fun s => PS.imp (ps_if (ht s).2 (ha s) (hb s)) fun D σ H q => by
  obtain ⟨ρ, h, s, R, rs, q⟩ := q
  refine ⟨ρ, h, s, R, rs, gob q fun a h1 q1 => ?_⟩
  rcases blK_all q1 with ⟨rfl, q2⟩ | ⟨rfl, q2⟩
  · exact ⟨true, rfl, fun ρ1 H1 e1 R1 => by dsimp only; rw [if_pos rfl]; exact ⟨ρ1, h1, s, R1, rs.mono e1, all_mono e1 (fun _ _ y => y.mono e1) q2⟩⟩
  · exact ⟨false, rfl, fun ρ1 H1 e1 R1 => by dsimp only; rw [if_neg Bool.false_ne_true]; exact ⟨ρ1, h1, s, R1, rs.mono e1, all_mono e1 (fun _ _ y => y.mono e1) q2⟩⟩
theorem s_snil : SSs D c [] sPass := fun s => PSs.imp pss_nil fun D σ H q => by
  obtain ⟨ρ, h, s, R, rs, q⟩ := q
  exact q ρ H Ext.refl R σ rs
theorem s_scons {st : Stmt} {r : List Stmt} {a b : Dst} (ha : SS D c st a) (hb : SSs D c r b) : SSs D c (st :: r) (sSeq a b) := fun s => PSs.imp (pss_cons (ha s) (hb s)) fun D σ H q => by
  obtain ⟨ρ, h, s, R, rs, q⟩ := q
  refine ⟨ρ, h, s, R, rs, gob q fun f h1 q1 ρ1 H1 e1 R1 => ?_⟩
  cases f with
  | nx s1 => exact fun σ1 rs1 => ⟨ρ1, h1, s1, R1, rs1, all_mono e1 (fun _ _ y => y.mono e1) q1⟩
  | rt a => exact fun v rv => q1 ρ1 H1 e1 R1 v rv
  | bk s1 => exact fun σ1 rs1 => q1 ρ1 H1 e1 R1 σ1 rs1
  | ct s1 => exact fun σ1 rs1 => q1 ρ1 H1 e1 R1 σ1 rs1
theorem s_sone {st : Stmt} {a : Dst} (ha : SS D c st a) : SSs D c [st] a := fun s => PSs.imp (pss_one (ha s)) fun D σ H q => q
end
end
end DV
set_option Elab.async false
set_option linter.all false
set_option maxRecDepth 100000
set_option maxHeartbeats 4000000
namespace DV
open PySem PySem.Spec PyProof.Rows L2 ER EV
noncomputable section
/-! ### y = [..] -/
def sAsgC (i : Nat) (x : Den) : Dst := fun c s h => bnd (x c s h) fun a h => setK s a i fun s => .ok (.nx s) h
section
variable {D : DTb} {c : Cc}
theorem q_setE {B : DBs} {E : XK} {call : Cl} {x : Den} {i : Nat} {D : Ends} {σ : L2.St} {H : Hp} (q : tSs B.bs.S E (sAsgC i x call) D σ H) : tE B.bs.S E (x call) σ H (fun v H1 => D.nx (σ.set i (some v)) H1) := by
  obtain ⟨ρ, h, s, R, rs, q⟩ := q
  refine ⟨ρ, h, s, R, rs, gob q fun a h1 q1 ρ1 H1 v e1 R1 rv => ?_⟩
  rw [setK_eq] at q1
  exact q1 ρ1 H1 e1 R1 _ ((rs.mono e1).set rv)
theorem s_asgC {y : Str} {i : Nat} {py pos spos : Pos} {elt tg iter : Expr} {ifs : List Expr} {scope : Scope} {x cd : Den} {t : Tg} {g : TgD} {it : Dit} {own : List (Str × Nat)} (g1 : c.N[i]? = some y) (g2 : kindIs c.sc y .local = true) (g3 : (py.line == pos.line) = true) (g4 : (scope.names.any fun (n, k) => n == y && (k == .local || k == .cell)) = false)
    (h1 : blkC c.N c.sc scope own = true) (h2 : (match iter with | .Set _ _ _ => false | _ => true) = true) (h3 : SI D c tg iter it) (h4 : Ct ⟨c.N, scope, none⟩ tg t) (hg : TgOk t g) (h5 : ((slotsT t).all fun i => (own.map (·.2)).contains i) = true) (h6 : SC D ⟨c.N, scope, none⟩ ifs cd) (h8 : SE D ⟨c.N, scope, none⟩ elt x) :
    SS D c (.Assign [.Name y py] (.ListComp elt [⟨tg, iter, ifs, 0⟩] scope pos) spos) (sAsgC i (xComp x g it cd (own.map (·.2)))) := fun {B k call X E} s => by
  have hyl : X.env.scope.names.lookup y = some .local := s.o.loc y (kindIs_ok g2)
  have lc : PS X (.Assign [.Name y py] (.ListComp elt [⟨tg, iter, ifs, 0⟩] scope pos) spos) (tAsg (tLc (iA B.bs.S E (it call)) (gTg B.bs.S t) (tT B.bs.S E0 (cd call)) (tE B.bs.S E0 (x call)) (own.map (·.2))) (gName i)) := by
    refine ⟨fun pins sh σ H D J hq => ?_⟩
    exact (ps_setLc s.o.calm (by rw [s.o.N]; exact s.o.nd) (by rw [s.o.N]; exact g1) hyl (sw_true J.ok.kind hyl g3 g4) (h3 s) (blk_ok s.o h1) (fun sh H C cl fp => pg (ok_blk s.o) t h4) (fun sh H C cl fp => h6 s.blk) (fun sh H C cl fp => (h8 s.blk).1) (fun v => by cases iter <;> first | rfl | cases h2)).run pins sh σ H D J hq
  exact PS.imp lc fun D σ H q => q_comp hg (fun i hi => by simpa using List.all_eq_true.mp h5 i hi) (q_setE q)
end
/-! ### methods of lists -/
def xApp (x y : Den) : Den := fun c s h => bnd (x c s h) fun a h => locK a fun l => lstC (getH h l) fun _ => bnd (y c s h) fun b h => lstC (getH h l) fun ys => lenK ys 0 fun n => gd (Nat.blt n lim) (catK ys [b] fun z => putH h l (.lst z) fun h => .ok .non h)
def xExtd (x y : Den) : Den := fun c s h => bnd (x c s h) fun a h => locK a fun l => lstC (getH h l) fun _ => bnd (y c s h) fun b h => lstC (getH h l) fun ys => lstK b h fun _ zs => catK ys zs fun z => lenK z 0 fun n => gd (Nat.ble n lim) (putH h l (.lst z) fun h => .ok .non h)
def xPop (x : Den) : Den := fun c s h => bnd (x c s h) fun a h => lstK a h fun l xs => lenK xs 0 fun n => opt (nth xs (n - 1)) fun v => takeQ xs (n - 1) fun z => putH h l (.lst z) fun h => .ok v h
section
variable {D : DTb} {c : Cc}
theorem bm_few {X : Cx} {e : Expr} {pos : Pos} (h : notStar e = true) : ((backTo pos (starEach [e] X.env)).all (fun x => !x.1) && (backToKw pos (keywordEach [] X.env)).all (fun x => x.1.isSome) && decide ([e].length + ([] : List Keyword).length + (if ([] : List Keyword).isEmpty then 0 else 1) < 30)) = true := by
  rw [star_cons h]
  rfl
theorem s_app {o e : Expr} {x y : Den} {ap pos : Pos} (h2 : noSup o = true) (h3 : (ap.endLine == pos.line) = true) (h4 : notStar e = true) (ho : SE D c o x) (he : SE D c e y) : SE D c (.Call (.Attribute o "append" ap) [e] [] pos) (xApp x y) := plE rfl fun {B k call X E} s => by
  refine PE.imp (pe_bm PySem.F.plainAttrs_list PySem.F.slot_list_append PySem.F.type_list_append mt_append (ho s).1 (pa_cons (he s).1 pa_nil (star_cons h4)) (noSup_base h2) (bm_few h4) h3 (star_cons h4) (by rfl)) fun σ H Q q => ?_
  rw [s.o.K]
  obtain ⟨ρ, h, sl, R, rs, q⟩ := q
  refine ⟨ρ, h, sl, R, rs, gob q fun a h1 q1 ρ1 H1 v e1 R1 rv => ?_⟩
  obtain ⟨l, rfl, q2⟩ := locK_all q1
  obtain ⟨xs, g, q3⟩ := lstC_all q2
  rw [getH_eq] at g
  obtain ⟨p, us, rfl, _, hs, _⟩ := lst_at R1 rv g
  refine ⟨.inl ⟨rfl, us, SqL.of hs⟩, ρ1, h1, sl, R1, rs.mono e1, gob (all_mono e1 (fun _ _ y => y) q3) fun b h2 q4 ρ2 H2 w e2 R2 rw => ?_⟩
  obtain ⟨ys, g2, q5⟩ := lstC_all q4
  rw [getH_eq] at g2
  rw [lenK_eq, Nat.zero_add] at q5
  obtain ⟨hl, q6⟩ := gd_all q5
  rw [catK_eq, putH_eq] at q6
  rw [bltN] at hl
  have hl := of_decide_eq_true hl
  obtain ⟨p2, us2, ep, hp, hs2, rsu⟩ := lst_at R2 (rv.mono e2) g2
  cases ep
  refine ⟨p, us2, w, rfl, rfl, hs2, by rw [Rels.length rsu]; exact Nat.lt_of_lt_of_le hl (by decide), ?_⟩
  have eP : Ext B.bs.S ρ2 H2 ρ2 (upd H2 p (.lst (us2 ++ [w]))) := Ext.put hs2 True.intro
  exact q6 ρ2 _ _ ((e1.trans e2).trans eP) (R2.put hp hs2 True.intro ⟨us2 ++ [w], upd_same, Rels.append (Rels.mono eP rsu) (Rels.one (rw.mono eP))⟩) rfl
theorem s_extd {o e : Expr} {x y : Den} {ap pos : Pos} (h2 : noSup o = true) (h3 : (ap.endLine == pos.line) = true) (h4 : notStar e = true) (ho : SE D c o x) (he : SE D c e y) : SE D c (.Call (.Attribute o "extend" ap) [e] [] pos) (xExtd x y) := plE rfl fun {B k call X E} s => by
  refine PE.imp (pe_bm PySem.F.plainAttrs_list PySem.F.slot_list_extend PySem.F.type_list_extend mt_extend (ho s).1 (pa_cons (he s).1 pa_nil (star_cons h4)) (noSup_base h2) (bm_few h4) h3 (star_cons h4) (by rfl)) fun σ H Q q => ?_
  rw [s.o.K]
  obtain ⟨ρ, h, sl, R, rs, q⟩ := q
  refine ⟨ρ, h, sl, R, rs, gob q fun a h1 q1 ρ1 H1 v e1 R1 rv => ?_⟩
  obtain ⟨l, rfl, q2⟩ := locK_all q1
  obtain ⟨xs, g, q3⟩ := lstC_all q2
  rw [getH_eq] at g
  obtain ⟨p, us, rfl, _, hs, _⟩ := lst_at R1 rv g
  refine ⟨.inl ⟨rfl, us, SqL.of hs⟩, ρ1, h1, sl, R1, rs.mono e1, gob (all_mono e1 (fun _ _ y => y) q3) fun b h2 q4 ρ2 H2 w e2 R2 rw => ?_⟩
  obtain ⟨ys, g2, q5⟩ := lstC_all q4
  rw [getH_eq] at g2
  obtain ⟨m, zs, rfl, g3, q6⟩ := lstK_all q5
  rw [catK_eq, lenK_eq, Nat.zero_add] at q6
  obtain ⟨hl, q7⟩ := gd_all q6
  rw [putH_eq] at q7
  have hl := Nat.le_of_ble_eq_true hl
  obtain ⟨p2, us2, ep, hp, hs2, rsu⟩ := lst_at R2 (rv.mono e2) g2
  cases ep
  obtain ⟨p3, us3, rfl, _, hs3, rsu3⟩ := lst_at R2 rw g3
  rw [List.length_append] at hl
  refine ⟨p, p3, us2, us3, rfl, rfl, hs2, hs3, by rw [Rels.length rsu, Rels.length rsu3]; exact Nat.le_trans hl (by decide), ?_⟩
  have eP : Ext B.bs.S ρ2 H2 ρ2 (upd H2 p (.lst (us2 ++ us3))) := Ext.put hs2 True.intro
  exact q7 ρ2 _ _ ((e1.trans e2).trans eP) (R2.put hp hs2 True.intro ⟨us2 ++ us3, upd_same, Rels.append (Rels.mono eP rsu) (Rels.mono eP rsu3)⟩) rfl
theorem s_pop {o : Expr} {x : Den} {ap pos : Pos} (h2 : noSup o = true) (h3 : (ap.endLine == pos.line) = true) (ho : SE D c o x) : SE D c (.Call (.Attribute o "pop" ap) [] [] pos) (xPop x) := plE rfl fun {B k call X E} s => by
  refine PE.imp (pe_bm0 PySem.F.plainAttrs_list PySem.F.slot_list_pop PySem.F.type_list_pop mt_pop (ho s).1 (noSup_base h2) h3) fun σ H Q q => ?_
  rw [s.o.K]
  obtain ⟨ρ, h, sl, R, rs, q⟩ := q
  refine ⟨ρ, h, sl, R, rs, gob q fun a h1 q1 ρ1 H1 v e1 R1 rv => ?_⟩
  obtain ⟨l, xs, rfl, g, q2⟩ := lstK_all q1
  rw [lenK_eq, Nat.zero_add] at q2
  obtain ⟨y, ey, q3⟩ := opt_all q2
  rw [takeQ_eq, putH_eq] at q3
  rw [nth_eq] at ey
  obtain ⟨p, us, rfl, hp, hs, rsu⟩ := lst_at R1 rv g
  obtain ⟨w, ew, rw⟩ := Rels.getA rsu ey
  refine ⟨.inl ⟨rfl, us, SqL.of hs⟩, p, us, w, rfl, rfl, hs, by rw [Rels.length rsu]; exact ew, ?_⟩
  have eP : Ext B.bs.S ρ1 H1 ρ1 (upd H1 p (.lst us.dropLast)) := Ext.put hs True.intro
  have rt : Rels B.bs.S ρ1 H1 (xs.take (xs.length - 1)) us.dropLast := by
    rw [List.dropLast_eq_take, Rels.length rsu]
    exact Rels.take _ rsu
  exact q3 ρ1 _ _ (e1.trans eP) (R1.put hp hs True.intro ⟨_, upd_same, Rels.mono eP rt⟩) (rw.mono eP)
end
/-! ### o.f = e -/
def putFA (f : Str) (v : A) (fs : List (Str × A)) : List (Str × A) := List.rec (motive := fun _ => List (Str × A)) [(f, v)] (fun p r ih => Bool.rec (motive := fun _ => List (Str × A)) (p :: ih) ((p.1, v) :: r) (strEq p.1 f)) fs
theorem RelF.put {S : Sc} {ρ : Rho} {H : Hp} {f : Str} {a : A} {v : V} (r : Rel S ρ H a v) : ∀ {xs : List (Str × A)} {vs : List (Str × V)}, RelF S ρ H xs vs → RelF S ρ H (putFA f a xs) (putF f v vs)
  | [], vs, h => by rw [show vs = [] from h]; exact ⟨v, [], rfl, r, rfl⟩
  | (g, x) :: xs, vs, ⟨w, t, h1, h2, h3⟩ => by
    subst h1
    show RelF S ρ H (Bool.rec (motive := fun _ => List (Str × A)) ((g, x) :: putFA f a xs) ((g, a) :: xs) (strEq g f)) _
    unfold putF
    rw [strEq_eq]
    by_cases e : g = f
    · rw [if_pos e]
      subst e
      have : (g == g) = true := by simp
      rw [this]
      exact ⟨v, t, rfl, r, h3⟩
    · rw [if_neg e]
      have : (g == f) = false := by simpa using e
      rw [this]
      exact ⟨w, _, rfl, h2, RelF.put r h3⟩
theorem RelF.length {S : Sc} {ρ : Rho} {H : Hp} : ∀ {xs : List (Str × A)} {vs : List (Str × V)}, RelF S ρ H xs vs → vs.length = xs.length
  | [], _, h => by rw [show _ = [] from h]; rfl
  | (_, _) :: _, _, ⟨v, r, h1, _, h3⟩ => by rw [h1, List.length_cons, List.length_cons, RelF.length h3]
def sFldA (fl : List (Nat × Str)) (x : Den) (f : Str) (y : Den) : Dst := fun c s h => bnd (y c s h) fun b h => bnd (x c s h) fun a h => locK a fun l => insC (getH h l) fun C fs => gd (memQ C f fl) (lenK fs 0 fun n => gd (Nat.blt n 900) (putH h l (.ins C (putFA f b fs)) fun h => .ok (.nx s) h))
section
variable {D : DTb} {c : Cc}
theorem putF_ne {f g : Str} {w : V} (ne : g ≠ f) : ∀ vs : List (Str × V), (putF f w vs).lookup g = vs.lookup g
  | [] => by simp [putF, List.lookup, show (g == f) = false from by simpa using ne]
  | (k, v) :: vs => by
    unfold putF
    by_cases e : k = f
    · rw [if_pos e]
      subst e
      have : (g == k) = false := by simpa using ne
      simp [List.lookup, this]
    · rw [if_neg e]
      simp only [List.lookup]
      cases (g == k) with
      | true => rfl
      | false => exact putF_ne ne vs
theorem putF_eq {f : Str} {w : V} : ∀ vs : List (Str × V), (putF f w vs).lookup f = some w
  | [] => by simp [putF, List.lookup]
  | (k, v) :: vs => by
    unfold putF
    by_cases e : k = f
    · rw [if_pos e]
      subst e
      simp [List.lookup]
    · rw [if_neg e]
      have : (f == k) = false := by simpa using Ne.symm e
      simp only [List.lookup, this]
      exact putF_eq vs
theorem TzOk.put {S : Sc} {H : Hp} {f : Str} {w : V} {vs : List (Str × V)} (hf : f ∈ S.tz → TZv H w) (t : TzOk S H vs) : TzOk S H (putF f w vs) := fun g v h1 h2 => by
  by_cases e : g = f
  · subst e
    rw [putF_eq] at h2
    cases h2
    exact hf h1
  · rw [putF_ne e] at h2
    exact t g v h1 h2
theorem s_fldA {o e : Expr} {f : Str} {x y : Den} {p1 pos : Pos} (hz : D.tz.contains f = false) (ho : SE D c o x) (he : SE D c e y) : SS D c (.Assign [.Attribute o f p1] e pos) (sFldA D.fld x f y) := fun {B k call X E} s => by
  refine PS.imp (ps_fld (ho s).1 (he s).1 (by cases e <;> rfl)) fun D' σ H q => ?_
  rw [s.o.K]
  obtain ⟨ρ, h, sl, R, rs, q⟩ := q
  refine ⟨ρ, h, sl, R, rs, gob q fun b h1 q1 ρ1 H1 w e1 R1 rw => ?_⟩
  refine ⟨ρ1, h1, sl, R1, rs.mono e1, gob (all_mono e1 (fun _ _ y => y) q1) fun a h2 q2 ρ2 H2 v e2 R2 rv => ?_⟩
  obtain ⟨l, rfl, q3⟩ := locK_all q2
  obtain ⟨C, fs, g, q4⟩ := insC_all q3
  rw [getH_eq] at g
  obtain ⟨hc, q5⟩ := gd_all q4
  rw [lenK_eq, Nat.zero_add] at q5
  obtain ⟨hl, q6⟩ := gd_all q5
  rw [bltN] at hl
  have hl := of_decide_eq_true hl
  rw [putH_eq] at q6
  obtain ⟨Ca, hG, cl, na⟩ := s.ok.fld C f (by rw [s.d]; exact memQ_ok hc)
  obtain ⟨p, rfl, hp, Ca', dx, vs, hG', hs, rf⟩ := cell_at R2 rv g
  rw [hG] at hG'
  cases hG'
  refine ⟨p, Ca, dx, vs, rfl, hs, cl, na, by rw [RelF.length rf.1]; omega, ?_⟩
  have eP : Ext B.bs.S ρ2 H2 ρ2 (upd H2 p (.ins Ca dx (putF f w vs))) := Ext.put hs True.intro
  exact q6 ρ2 _ ((e1.trans e2).trans eP) (R2.put hp hs True.intro ⟨Ca, dx, _, hG, upd_same, (RelF.put (rw.mono e2) rf.1).mono eP, (TzOk.put (fun z => by rw [s.ok.tz, s.d] at z; have y := List.elem_eq_true_of_mem z; rw [show List.elem f D.tz = D.tz.contains f from rfl, hz] at y; cases y) rf.2).mono eP⟩) σ (((rs.mono e1).mono e2).mono eP)
end
end
end DV
set_option Elab.async false
set_option linter.all false
set_option maxRecDepth 100000
set_option maxHeartbeats 4000000
namespace DV
open PySem PySem.Spec PyProof.Rows L2 ER EV
noncomputable section
/-! ### while -/
def evWhG (tf : Sl → Hh → Out A) (bf : Sl → Hh → Out Fl) : Nat → Sl → Hh → Out Fl
  | 0, _, _ => .bad
  | m + 1, s, h => (tf s h).bind fun x h1 => match x with
    | .bl true => (bf s h1).bind fun f h2 => match f with
      | .nx s2 => evWhG tf bf m s2 h2
      | .ct s2 => evWhG tf bf m s2 h2
      | .bk s2 => .ok (.nx s2) h2
      | .rt a => .ok (.rt a) h2
    | .bl false => .ok (.nx s) h1
    | _ => .bad
def whD (tf : Sl → Hh → Out A) (bf : Sl → Hh → Out Fl) (m : Nat) : Sl → Hh → Out Fl := Nat.rec (motive := fun _ => Sl → Hh → Out Fl) (fun _ _ => .bad) (fun _ ih s h => bnd (tf s h) fun x h1 => blK x (bnd (bf s h1) fun f h2 => Fl.rec (motive := fun _ => Out Fl) (fun s2 => ih s2 h2) (fun a => .ok (.rt a) h2) (fun s2 => .ok (.nx s2) h2) (fun s2 => ih s2 h2) f) (.ok (.nx s) h1)) m
theorem whD_eq {tf : Sl → Hh → Out A} {bf : Sl → Hh → Out Fl} : ∀ (m : Nat) (s : Sl) (h : Hh), whD tf bf m s h = evWhG tf bf m s h
  | 0, _, _ => rfl
  | m + 1, s, h => by
    show bnd (tf s h) (fun x h1 => blK x (bnd (bf s h1) fun f h2 => Fl.rec (motive := fun _ => Out Fl) (fun s2 => whD tf bf m s2 h2) (fun a => .ok (.rt a) h2) (fun s2 => .ok (.nx s2) h2) (fun s2 => whD tf bf m s2 h2) f) (.ok (.nx s) h1)) = _
    rw [bnd_eq]
    unfold evWhG
    congr 1
    funext x h1
    cases x with
    | bl b =>
      cases b with
      | true =>
        show bnd (bf s h1) _ = _
        rw [bnd_eq]
        congr 1
        funext f h2
        cases f with
        | nx s2 => exact whD_eq m s2 h2
        | ct s2 => exact whD_eq m s2 h2
        | bk s2 => rfl
        | rt a => rfl
      | false => rfl
    | _ => rfl
def sWh (t : Den) (b : Dst) : Dst := fun c s h => whD (t c) (b c) turns s h
section
variable {D : DTb} {c : Cc}
theorem q_wh {B : DBs} {E : XK} {call : Cl} {t : Den} {b : Dst} {D : Ends} {σ : L2.St} {H : Hp} (q : tSs B.bs.S E (sWh t b call) D σ H) : tWhile (tT B.bs.S E (t call)) (tSs B.bs.S E (b call)) D σ H := by
  obtain ⟨ρ, h, s, R, rs, q⟩ := q
  have q : (evWhG (t call) (b call) turns s h).All (FW B.bs.S ρ H D) (XW B.bs.S ρ H E) := by rw [← whD_eq]; exact q
  refine ⟨fun m σ' H' => ∃ ρ2 h2 s2, Rep B.bs.S ρ2 h2 H' ∧ RelS B.bs.S ρ2 H' s2 σ' ∧ (evWhG (t call) (b call) m s2 h2).All (FW B.bs.S ρ2 H' D) (XW B.bs.S ρ2 H' E), ⟨turns, ρ, h, s, R, rs, q⟩, ?_⟩
  rintro m σ' H' ⟨ρ2, h2, s2, R2, rs2, q2⟩
  cases m with
  | zero => exact q2.elim
  | succ m =>
    unfold evWhG at q2
    refine ⟨ρ2, h2, s2, R2, rs2, go q2 fun x h3 q3 => ?_⟩
    split at q3
    · refine ⟨true, rfl, fun ρ3 H3 e3 R3 => ?_⟩
      dsimp only
      rw [if_pos rfl]
      refine ⟨fun σ4 H4 => ∃ ρ4 h4 s4, Rep B.bs.S ρ4 h4 H4 ∧ RelS B.bs.S ρ4 H4 s4 σ4 ∧ (evWhG (t call) (b call) m s4 h4).All (FW B.bs.S ρ4 H4 D) (XW B.bs.S ρ4 H4 E), fun σ4 H4 z => ⟨m, Nat.lt_succ_self m, z⟩, ρ3, h3, s2, R3, rs2.mono e3, go (all_mono e3 (fun _ _ y => y) q3) fun f h5 q5 ρ5 H5 e5 R5 => ?_⟩
      cases f with
      | nx s5 => exact fun σ5 rs5 => ⟨ρ5, h5, s5, R5, rs5, all_mono e5 (fun _ _ y => (y.mono e3).mono e5) q5⟩
      | ct s5 => exact fun σ5 rs5 => ⟨ρ5, h5, s5, R5, rs5, all_mono e5 (fun _ _ y => (y.mono e3).mono e5) q5⟩
      | bk s5 => exact fun σ5 rs5 => q5 ρ5 H5 (e3.trans e5) R5 σ5 rs5
      | rt a => exact fun v rv => q5 ρ5 H5 (e3.trans e5) R5 v rv
    · refine ⟨false, rfl, fun ρ3 H3 e3 R3 => ?_⟩
      dsimp only
      rw [if_neg Bool.false_ne_true]
      exact q3 ρ3 H3 e3 R3 σ' (rs2.mono e3)
    · exact q3.elim
theorem s_wh {t : Expr} {b : List Stmt} {x : Den} {bd : Dst} {pos : Pos} (ht : SE D c t x) (hb : SSs D c b bd) : SS D c (.While t b [] pos) (sWh x bd) := fun s => PS.imp (ps_while s.o.own (ht s).2 (hb s)) fun D σ H q => q_wh q
end
/-! ### dicts of ints and texts -/
def keyEq (y k : A) : Bool := A.casesOn (motive_1 := fun _ => Bool) y false (fun _ => false) (fun i => A.casesOn (motive_1 := fun _ => Bool) k false (fun _ => false) (fun j => decide (i = j)) (fun _ => false) (fun _ => false) (fun _ => false) (fun _ => false) (fun _ => false)) (fun x => A.casesOn (motive_1 := fun _ => Bool) k false (fun _ => false) (fun _ => false) (fun z => strEq x z) (fun _ => false) (fun _ => false) (fun _ => false) (fun _ => false)) (fun _ => false) (fun _ => false) (fun _ => false) (fun _ => false)
theorem keyEq_eq {y k : A} {c d : Key} (h1 : keyOf y = some c) (h2 : keyOf k = some d) : keyEq y k = decide (d = c) := by
  cases y with
  | int i =>
    cases h1
    cases k with
    | int j =>
      cases h2
      show decide (i = j) = _
      exact decide_eq_decide.mpr ⟨fun e => by rw [e], fun e => by cases e; rfl⟩
    | str z => cases h2; exact (decide_eq_false (fun e => nomatch e)).symm
    | _ => cases h2
  | str x =>
    cases h1
    cases k with
    | int j => cases h2; exact (decide_eq_false (fun e => nomatch e)).symm
    | str z =>
      cases h2
      show strEq x z = _
      rw [strEq_eq]
      cases e : (x == z) with
      | true => rw [eq_of_beq e]; exact (decide_eq_true rfl).symm
      | false => exact (decide_eq_false fun q => by cases q; simp at e).symm
    | _ => cases h2
  | _ => cases h1
def hasK (y : A) (kvs : List (A × A)) : Bool := List.rec (motive := fun _ => Bool) false (fun p _ ih => Bool.rec (motive := fun _ => Bool) ih true (keyEq y p.1)) kvs
def mapK (y v : A) {R : Type} (kvs : List (A × A)) : (List (A × A) → R) → R := List.rec (motive := fun _ => (List (A × A) → R) → R) (fun k => k []) (fun p _ ih k => Bool.rec (motive := fun _ => R) (ih fun r => k (p :: r)) (ih fun r => k ((p.1, v) :: r)) (keyEq y p.1)) kvs
def putQ (y v : A) {R : Type} (kvs : List (A × A)) (k : List (A × A) → R) : R := Bool.rec (motive := fun _ => R) (catK kvs [(y, v)] k) (mapK y v kvs k) (hasK y kvs)
def putKV (y v : A) (kvs : List (A × A)) : List (A × A) := putQ y v kvs fun z => z
theorem mapK_eq (y v : A) {R : Type} : ∀ (kvs : List (A × A)) (k : List (A × A) → R), mapK y v kvs k = k (mapK y v kvs fun z => z)
  | [], _ => rfl
  | p :: r, k => by
    show Bool.rec (motive := fun _ => R) (mapK y v r fun r => k (p :: r)) (mapK y v r fun r => k ((p.1, v) :: r)) (keyEq y p.1) = k (Bool.rec (motive := fun _ => List (A × A)) (mapK y v r fun r => (p :: r)) (mapK y v r fun r => ((p.1, v) :: r)) (keyEq y p.1))
    cases keyEq y p.1 with
    | true =>
      show mapK y v r _ = k (mapK y v r _)
      rw [mapK_eq y v r (fun r => k ((p.1, v) :: r)), mapK_eq y v r (fun r => ((p.1, v) :: r))]
    | false =>
      show mapK y v r _ = k (mapK y v r _)
      rw [mapK_eq y v r (fun r => k (p :: r)), mapK_eq y v r (fun r => (p :: r))]
theorem putQ_eq (y v : A) {R : Type} (kvs : List (A × A)) (k : List (A × A) → R) : putQ y v kvs k = k (putKV y v kvs) := by
  unfold putKV putQ
  cases hasK y kvs with
  | true => exact mapK_eq y v kvs k
  | false =>
    show catK kvs [(y, v)] k = k (catK kvs [(y, v)] fun z => z)
    rw [catK_eq, catK_eq]
theorem RelK.has {S : Sc} {ρ : Rho} {H : Hp} {y : A} {c : Key} (h : keyOf y = some c) : ∀ {xs : List (A × A)} {vs : List (Key × V)}, RelK S ρ H xs vs → hasK y xs = vs.any fun kv => decide (kv.1 = c)
  | [], vs, r => by rw [show vs = [] from r]; rfl
  | (k, x) :: xs, vs, ⟨d, v, t, h1, h2, h3, h4⟩ => by
    subst h1
    show Bool.rec (motive := fun _ => Bool) (hasK y xs) true (keyEq y k) = (decide (d = c) || _)
    rw [keyEq_eq h h2, RelK.has h h4]
    cases decide (d = c) <;> rfl
theorem RelK.map {S : Sc} {ρ : Rho} {H : Hp} {y a : A} {c : Key} {w : V} (h : keyOf y = some c) (ra : Rel S ρ H a w) : ∀ {xs : List (A × A)} {vs : List (Key × V)}, RelK S ρ H xs vs → RelK S ρ H (mapK y a xs fun z => z) (vs.map fun kv => if kv.1 = c then (kv.1, w) else kv)
  | [], vs, r => by rw [show vs = [] from r]; rfl
  | (k, x) :: xs, vs, ⟨d, v, t, h1, h2, h3, h4⟩ => by
    subst h1
    have ih := RelK.map h ra h4
    show RelK S ρ H (Bool.rec (motive := fun _ => List (A × A)) (mapK y a xs fun r => ((k, x) :: r)) (mapK y a xs fun r => ((k, a) :: r)) (keyEq y k)) ((if d = c then (d, w) else (d, v)) :: _)
    rw [keyEq_eq h h2]
    by_cases e : d = c
    · rw [decide_eq_true e, if_pos e]
      show RelK S ρ H (mapK y a xs fun r => ((k, a) :: r)) _
      rw [mapK_eq]
      exact ⟨d, w, _, rfl, h2, ra, ih⟩
    · rw [decide_eq_false e, if_neg e]
      show RelK S ρ H (mapK y a xs fun r => ((k, x) :: r)) _
      rw [mapK_eq]
      exact ⟨d, v, _, rfl, h2, h3, ih⟩
theorem RelK.append {S : Sc} {ρ : Rho} {H : Hp} : ∀ {xs ys : List (A × A)} {vs us : List (Key × V)}, RelK S ρ H xs vs → RelK S ρ H ys us → RelK S ρ H (xs ++ ys) (vs ++ us)
  | [], _, _, _, h, g => by rw [show _ = [] from h]; exact g
  | (_, _) :: _, _, _, _, ⟨c, v, r, h1, h2, h3, h4⟩, g => ⟨c, v, r ++ _, by rw [h1]; rfl, h2, h3, RelK.append h4 g⟩
theorem RelK.put {S : Sc} {ρ : Rho} {H : Hp} {y a : A} {c : Key} {w : V} {xs : List (A × A)} {vs : List (Key × V)} (h : keyOf y = some c) (ra : Rel S ρ H a w) (r : RelK S ρ H xs vs) : RelK S ρ H (putKV y a xs) (putK vs c w) := by
  unfold putKV putQ putK
  rw [RelK.has h r]
  cases e : (vs.any fun kv => decide (kv.1 = c)) with
  | true =>
    rw [if_pos rfl]
    exact RelK.map h ra r
  | false =>
    rw [if_neg Bool.false_ne_true]
    show RelK S ρ H (catK xs [(y, a)] fun z => z) _
    rw [catK_eq]
    exact RelK.append r ⟨c, w, [], rfl, h, ra, rfl⟩
def xDict0 : Den := fun _ _ h => newH h (.dic []) fun l h => .ok (.loc l) h
def dDictOf (as : List A) (h : Hh) : Out A := one as fun a => locK a fun l => dicC (getH h l) fun kvs => newH h (.dic kvs) fun l h => .ok (.loc l) h
def xGet2 (x y z : Den) : Den := fun c s h => bnd (x c s h) fun a h => locK a fun l => dicC (getH h l) fun _ => bnd (y c s h) fun b h => bnd (z c s h) fun d h => dicC (getH h l) fun kvs => opt (keyQ b) fun _ => Option.rec (motive := fun _ => Out A) (.ok d h) (fun v => .ok v h) (kvK b kvs)
def sPutD (x y z : Den) : Dst := fun c s h => bnd (z c s h) fun v h => bnd (x c s h) fun a h => bnd (y c s h) fun b h => locK a fun l => dicC (getH h l) fun kvs => opt (keyQ b) fun _ => lenK kvs 0 fun n => gd (Nat.blt n lim) (putQ b v kvs fun z => putH h l (.dic z) fun h => .ok (.nx s) h)
section
variable {D : DTb} {c : Cc}
theorem s_dict0 {pos : Pos} : SE D c (.Dict [] [] pos) xDict0 := plE rfl fun {B k call X E} s => PE.imp pe_dnewK fun σ H Q q => by
  obtain ⟨ρ, h, sl, R, rs, q⟩ := q
  have q1 : (newH h (.dic []) fun l h => Out.ok (.loc l) h).All (QW B.bs.S ρ H Q) (XW B.bs.S ρ H E) := q
  rw [newH_eq] at q1
  exact fun p n => q1 _ _ _ (Ext.new R n) (R.new n ⟨[], upd_same, rfl⟩) ⟨p, by unfold rhoNew; rw [if_pos rfl], rfl⟩
theorem s_dictOf {e : Expr} {xs : Dar} {p pos : Pos} (hn : notStar e = true) (h1 : kindIs c.sc "dict" .globalImplicit = true) (h2 : D.tb.free.contains "dict" = true) (ha : SA D c [e] xs) : SE D c (.Call (.Name "dict" p) [e] [] pos) (xBi dDictOf xs) :=
  callTy (b := "dict") hn h1 h2 (by decide +kernel) (by decide +kernel) (by decide +kernel) ha fun {B k call X E} s => ⟨_, call_dictD, fun {ρ h H as vs Q} R ra q => by
    obtain ⟨a, rfl, q1⟩ := one_all q
    obtain ⟨v, r1, rfl, rx, e⟩ := ra
    rw [show r1 = [] from e]
    obtain ⟨l, rfl, q2⟩ := locK_all q1
    obtain ⟨kvs, g, q3⟩ := dicC_all q2
    rw [getH_eq] at g
    rw [newH_eq] at q3
    obtain ⟨p, rfl, _, us, hs, rus⟩ := cell_at R rx g
    exact ⟨p, us, rfl, .inl hs, fun l n => q3 _ _ _ (Ext.new R n) (R.new n ⟨us, upd_same, RelK.mono (Ext.new R n) rus⟩) ⟨l, by unfold rhoNew; rw [if_pos rfl], rfl⟩⟩⟩
theorem s_get2 {o e f : Expr} {x y z : Den} {ap pos : Pos} (h2 : noSup o = true) (h3 : (ap.endLine == pos.line) = true) (h4 : notStar e = true) (h5 : notStar f = true) (ho : SE D c o x) (he : SE D c e y) (hf : SE D c f z) : SE D c (.Call (.Attribute o "get" ap) [e, f] [] pos) (xGet2 x y z) := plE rfl fun {B k call X E} s => by
  have hst : starEach [e, f] X.env = [(false, eval e X.env), (false, eval f X.env)] := by rw [star_cons h4, star_cons h5]; rfl
  have m : M2 X o "get" ap e f pos := ⟨noSup_base h2, by rw [hst]; rfl, h3, by rw [hst]; rfl⟩
  refine PE.imp (pe_dget2 (by have := s.hu; omega) (ho s).1 (he s).1 (hf s).1 m) fun σ H Q q => ?_
  obtain ⟨ρ, h, sl, R, rs, q⟩ := q
  refine ⟨ρ, h, sl, R, rs, gob q fun a h1 q1 ρ1 H1 v e1 R1 rv => ?_⟩
  obtain ⟨l, rfl, q2⟩ := locK_all q1
  obtain ⟨kvs0, g0, q3⟩ := dicC_all q2
  rw [getH_eq] at g0
  obtain ⟨p, rfl, _, us0, hs0, _⟩ := cell_at R1 rv g0
  refine ⟨p, rfl, .inl ⟨us0, .inl hs0⟩, ρ1, h1, sl, R1, rs.mono e1, gob (all_mono e1 (fun _ _ y => y) q3) fun b h2 q4 ρ2 H2 w e2 R2 rw => ?_⟩
  refine ⟨ρ2, h2, sl, R2, (rs.mono e1).mono e2, gob (all_mono e2 (fun _ _ y => y) q4) fun d h3 q5 ρ3 H3 u e3 R3 ru => ?_⟩
  obtain ⟨kvs, g, q6⟩ := dicC_all q5
  rw [getH_eq] at g
  obtain ⟨kc, ek, q7⟩ := opt_all q6
  rw [keyQ_eq] at ek
  rw [kvK_eq ek] at q7
  obtain ⟨p', ep, _, us, hs, rus⟩ := cell_at R3 ((rv.mono e2).mono e3) g
  cases ep
  have z := RelK.get (c := kc) rus
  have e := (e1.trans e2).trans e3
  refine ⟨valV us kc, .inl ⟨us, kc, .inl hs, key_rel ek (rw.mono e3), rfl⟩, ?_⟩
  cases ed : dGet kc kvs with
  | none =>
    rw [ed] at q7
    rw [z.2 ed]
    exact (show (Out.ok d h3).All (QW B.bs.S ρ H Q) (XW B.bs.S ρ2 H2 E) from q7) ρ3 H3 u e R3 ru
  | some val =>
    rw [ed] at q7
    obtain ⟨w', e1', r1'⟩ := z.1 val ed
    rw [e1']
    exact (show (Out.ok val h3).All (QW B.bs.S ρ H Q) (XW B.bs.S ρ2 H2 E) from q7) ρ3 H3 w' e R3 r1'
theorem s_putD {o i e : Expr} {x y z : Den} {p1 pos : Pos} (ho : SE D c o x) (hi : SE D c i y) (he : SE D c e z) : SS D c (.Assign [.Subscript o i p1] e pos) (sPutD x y z) := fun {B k call X E} s => by
  refine PS.imp (ps_dput (by have := s.hu; omega) (ho s).1 (hi s).1 (he s).1 (by cases e <;> rfl)) fun D' σ H q => ?_
  obtain ⟨ρ, h, sl, R, rs, q⟩ := q
  refine ⟨ρ, h, sl, R, rs, gob q fun d h1 q1 ρ1 H1 u e1 R1 ru => ?_⟩
  refine ⟨ρ1, h1, sl, R1, rs.mono e1, gob (all_mono e1 (fun _ _ y => y) q1) fun a h2 q2 ρ2 H2 v e2 R2 rv => ?_⟩
  refine ⟨ρ2, h2, sl, R2, (rs.mono e1).mono e2, gob (all_mono e2 (fun _ _ y => y) q2) fun b h3 q3 ρ3 H3 w e3 R3 rw => ?_⟩
  obtain ⟨l, rfl, q4⟩ := locK_all q3
  obtain ⟨kvs, g, q5⟩ := dicC_all q4
  rw [getH_eq] at g
  obtain ⟨kc, ek, q6⟩ := opt_all q5
  rw [keyQ_eq] at ek
  rw [lenK_eq, Nat.zero_add] at q6
  obtain ⟨hl, q7⟩ := gd_all q6
  rw [bltN] at hl
  have hl := of_decide_eq_true hl
  rw [putQ_eq, putH_eq] at q7
  obtain ⟨p, rfl, hp, us, hs, rus⟩ := cell_at R3 (rv.mono e3) g
  have ew := key_rel ek rw
  subst ew
  refine ⟨p, _, rfl, DPut.k hs (by rw [RelK.length rus]; exact Nat.lt_of_lt_of_le hl (by decide)), ?_⟩
  have eP : Ext B.bs.S ρ3 H3 ρ3 (upd H3 p (.dK (putK us kc u))) := Ext.put hs True.intro
  exact q7 ρ3 _ (((e1.trans e2).trans e3).trans eP) (R3.put hp hs True.intro ⟨_, upd_same, RelK.mono eP (RelK.put ek ((ru.mono e2).mono e3) rus)⟩) σ ((((rs.mono e1).mono e2).mono e3).mono eP)
/-! ### str, sum, max -/
theorem s_strI {e : Expr} {xs : Dar} {p pos : Pos} (hn : notStar e = true) (h1 : kindIs c.sc "str" .globalImplicit = true) (h2 : D.tb.free.contains "str" = true) (ha : SA D c [e] xs) : SE D c (.Call (.Name "str" p) [e] [] pos) (xBi dStr xs) :=
  callTy (b := "str") hn h1 h2 (by decide +kernel) (by decide +kernel) (by decide +kernel) ha fun {B k call X E} s => ⟨_, call_str_int, fun {ρ h H as vs Q} R ra q => by
    obtain ⟨a, rfl, q1⟩ := one_all q
    obtain ⟨v, r1, rfl, rx, e⟩ := ra
    rw [show r1 = [] from e]
    obtain ⟨i, rfl, q2⟩ := intK_all q1
    cases i with
    | ofNat n =>
      obtain ⟨hc, q3⟩ := guard_all (show (guard (Nat.blt n 100) (Out.ok (A.str ⟨⟨digs n⟩⟩) h)).All _ _ from q2)
      rw [bltN] at hc
      have hc := of_decide_eq_true hc
      refine ⟨Int.ofNat n, by rw [show v = V.int (Int.ofNat n) from rx], ?_, ?_⟩
      · show n.log2 < 1920
        have : n.log2 ≤ n := Nat.log2_le_self n
        omega
      · have z := q3 ρ H _ Ext.refl R rfl
        rw [digs_ok n hc] at z
        exact z
    | negSucc n => exact q2.elim⟩
def intsK (xs : List A) : (List Int → Out A) → Out A := List.rec (motive := fun _ => (List Int → Out A) → Out A) (fun k => k []) (fun x _ ih k => intK x fun i => ih fun r => k (i :: r)) xs
theorem intsK_all {P : A → Hh → Prop} {X : Nat → List (Str × A) → Hh → Prop} : ∀ {xs : List A} {k : List Int → Out A}, (intsK xs k).All P X → ∃ ns, xs = ns.map A.int ∧ (k ns).All P X
  | [], k, q => ⟨[], rfl, q⟩
  | x :: xs, k, q => by
    obtain ⟨i, rfl, q1⟩ := intK_all (show (intK x fun i => intsK xs fun r => k (i :: r)).All P X from q)
    obtain ⟨ns, rfl, q2⟩ := intsK_all q1
    exact ⟨i :: ns, rfl, q2⟩
theorem ints_rel {S : Sc} {ρ : Rho} {H : Hp} : ∀ {ns : List Int} {vs : List V}, Rels S ρ H (ns.map A.int) vs → vs = ns.map V.int
  | [], vs, r => r
  | n :: ns, vs, ⟨v, r, e, h1, h2⟩ => by rw [e, show v = V.int n from h1, ints_rel h2]; rfl
def sumQ (ns : List Int) : Int → (Int → Out A) → Out A := List.rec (motive := fun _ => Int → (Int → Out A) → Out A) (fun n k => k n) (fun m _ ih n k => frInt (n + m) fun n => ih n k) ns
theorem sumQ_eq : ∀ (ns : List Int) (n : Int) (k : Int → Out A), sumQ ns n k = k (n + ns.sum)
  | [], n, k => by show k n = _; rw [List.sum_nil, Int.add_zero]
  | m :: ns, n, k => by
    show frInt (n + m) (fun n => sumQ ns n k) = _
    rw [frInt_eq, sumQ_eq ns, List.sum_cons, Int.add_assoc]
def dSum (as : List A) (h : Hh) : Out A := one as fun a => lstK a h fun _ xs => intsK xs fun ns => sumQ ns 0 fun z => .ok (.int z) h
theorem s_sum {e : Expr} {xs : Dar} {p pos : Pos} (hn : notStar e = true) (h1 : kindIs c.sc "sum" .globalImplicit = true) (h2 : D.tb.free.contains "sum" = true) (ha : SA D c [e] xs) : SE D c (.Call (.Name "sum" p) [e] [] pos) (xBi dSum xs) :=
  callB (b := "sum") hn h1 h2 (by decide +kernel) (by decide +kernel) (by decide +kernel) ha fun {B k call X E} s => ⟨rSum B.bs.S.K, by rw [← s.o.K]; exact cr_sum s.o.calm, fun {ρ h H as vs Q} R ra q => by
    obtain ⟨a, rfl, q1⟩ := one_all q
    obtain ⟨v, r1, rfl, rx, e⟩ := ra
    rw [show r1 = [] from e]
    obtain ⟨l, xs, rfl, g, q2⟩ := lstK_all q1
    obtain ⟨ns, rfl, q3⟩ := intsK_all q2
    rw [sumQ_eq, Int.zero_add] at q3
    obtain ⟨p, us, rfl, _, hs, rsu⟩ := lst_at R rx g
    rw [ints_rel rsu] at hs
    exact ⟨p, ns, rfl, SqL.of hs, q3 ρ H _ Ext.refl R rfl⟩⟩
def maxQ (ns : List Int) : Int → (Int → Out A) → Out A := List.rec (motive := fun _ => Int → (Int → Out A) → Out A) (fun n k => k n) (fun m _ ih n k => Bool.rec (motive := fun _ => Out A) (ih n k) (ih m k) (decide (n < m))) ns
theorem maxQ_eq : ∀ (ns : List Int) (n : Int) (k : Int → Out A), ∃ m, maxQ ns n k = k m ∧ m ∈ n :: ns ∧ ∀ y ∈ n :: ns, y ≤ m
  | [], n, k => ⟨n, rfl, List.mem_cons_self .., fun y hy => by simp at hy; omega⟩
  | m :: ns, n, k => by
    show ∃ m_1, Bool.rec (motive := fun _ => Out A) (maxQ ns n k) (maxQ ns m k) (decide (n < m)) = k m_1 ∧ _
    by_cases e : n < m
    · rw [decide_eq_true e]
      obtain ⟨z, h1, h2, h3⟩ := maxQ_eq ns m k
      refine ⟨z, h1, List.mem_cons_of_mem _ h2, fun y hy => ?_⟩
      rcases List.mem_cons.mp hy with rfl | hy
      · have := h3 m (List.mem_cons_self ..); omega
      · exact h3 y hy
    · rw [decide_eq_false e]
      obtain ⟨z, h1, h2, h3⟩ := maxQ_eq ns n k
      refine ⟨z, h1, ?_, fun y hy => ?_⟩
      · rcases List.mem_cons.mp h2 with rfl | h2
        · exact List.mem_cons_self ..
        · exact List.mem_cons_of_mem _ (List.mem_cons_of_mem _ h2)
      · rcases List.mem_cons.mp hy with rfl | hy
        · exact h3 y (List.mem_cons_self ..)
        · rcases List.mem_cons.mp hy with rfl | hy
          · have := h3 n (List.mem_cons_self ..); omega
          · exact h3 y (List.mem_cons_of_mem _ hy)
def dMax (as : List A) (h : Hh) : Out A := one as fun a => lstK a h fun _ xs => intsK xs fun ns => List.rec (motive := fun _ => Out A) .bad (fun n r _ => maxQ r n fun z => .ok (.int z) h) ns
theorem s_max {e : Expr} {xs : Dar} {p pos : Pos} (hn : notStar e = true) (h1 : kindIs c.sc "max" .globalImplicit = true) (h2 : D.tb.free.contains "max" = true) (ha : SA D c [e] xs) : SE D c (.Call (.Name "max" p) [e] [] pos) (xBi dMax xs) :=
  callB (b := "max") hn h1 h2 (by decide +kernel) (by decide +kernel) (by decide +kernel) ha fun {B k call X E} s => ⟨rMax B.bs.S.K, by rw [← s.o.K]; exact cr_max s.o.calm, fun {ρ h H as vs Q} R ra q => by
    obtain ⟨a, rfl, q1⟩ := one_all q
    obtain ⟨v, r1, rfl, rx, e⟩ := ra
    rw [show r1 = [] from e]
    obtain ⟨l, xs, rfl, g, q2⟩ := lstK_all q1
    obtain ⟨ns, rfl, q3⟩ := intsK_all q2
    obtain ⟨p, us, rfl, _, hs, rsu⟩ := lst_at R rx g
    rw [ints_rel rsu] at hs
    cases ns with
    | nil => exact q3.elim
    | cons n r =>
      have q4 : (maxQ r n fun z => Out.ok (A.int z) h).All (QW B.bs.S ρ H Q) (XW B.bs.S ρ H E) := q3
      obtain ⟨m, e1, e2, e3⟩ := maxQ_eq r n fun z => Out.ok (A.int z) h
      rw [e1] at q4
      refine ⟨p, n :: r, rfl, SqL.of hs, Nat.succ_pos _, fun m' h1 h2 => ?_⟩
      have : m' = m := by
        have a1 := e3 m' h1
        have a2 := h2 m e2
        omega
      rw [this]
      exact q4 ρ H _ Ext.refl R rfl⟩
end
end
end DV
set_option Elab.async false
set_option linter.all false
set_option maxRecDepth 100000
set_option maxHeartbeats 4000000
namespace DV
open PySem PySem.Spec PyProof.Rows L2 ER EV
noncomputable section
/-! ### raise of an own error -/
def sRz (C : Nat) (f : Str) (x : Den) : Dst := fun c s h => bnd (x c s h) fun a h => .exc C [(f, a)] h
section
variable {D : DTb} {c : Cc}
theorem exx {S : Sc} {ρ : Rho} {h : Hh} {H : Hp} {p dx : Addr} {o : HO} (R : Rep S ρ h H) (n : H dx = none) : Rep S ρ h (upd H dx o) := R.more n
theorem s_rz {f fl : Str} {e : Expr} {x : Den} {C : Nat} {p pos rp : Pos} (h1 : kindIs c.sc f .globalImplicit = true) (h2 : D.tb.gl.lookup f = some (.err C fl)) (h3 : okName f = true) (h4 : notStar e = true) (he : SE D c e x) : SS D c (.Raise (some (.Call (.Name f p) [e] [] pos)) none rp) (sRz C fl x) := fun {B k call X E} s => by
  obtain ⟨Ca, fI, fd, hG, hm, T⟩ := s.ok.bo.err f C fl (by rw [s.ok.tb, s.d]; exact h2)
  have T' : Err1Ok X.prog X.w X.K X.mg X.base Ca fl fI fd := by rw [s.o.P, s.o.w, s.o.K, s.o.mg, s.o.bs]; exact T
  have hb : Binds X.K fd ["self", fl] [] := fun sh us _ hl => by
    rw [List.append_nil] at hl ⊢
    match us, hl with
    | [a, u], _ => exact T'.b sh a u
  refine PS.imp (ps_raise s.o.calm s.o.tk (pmk_oex T'.T T'.init T'.tI (T'.F CX0) s.o.r2 hb .nil pass0 (s.o.gl h1) (by rw [s.o.mg]; exact hm) (pa_cons (he s).1 pa_nil (star_cons h4)) (okName_d h3).1 (star_cons h4) (by rfl))) fun D' σ H q => ?_
  obtain ⟨ρ, h, sl, R, rs, q⟩ := q
  refine ⟨ρ, h, sl, R, rs, gob q fun a h1 q1 ρ1 H1 v e1 R1 rv => ?_⟩
  refine ⟨by show 1 ≤ 1000; decide, fun p np => ⟨p, v, rfl, upd_same, fun dx nx ne => ⟨rfl, dx, [(fl, v)], upd_same, by rw [upd_ne ne]; exact upd_same, ?_, ?_⟩⟩⟩
  · rw [upd_ne ne] at nx
    exact nx
  · rw [upd_ne ne] at nx
    have eH : upd (del (upd (upd (upd H1 p (exo p Ca none)) dx (exd dx [(fl, v)])) p (exo p Ca (some dx))) p) dx (.xd [(fl, v)]) = upd H1 dx (.xd [(fl, v)]) := by
      funext b
      by_cases h1 : b = dx
      · subst h1; rw [upd_same, upd_same]
      · rw [upd_ne h1, upd_ne h1]
        by_cases h2 : b = p
        · subst h2; rw [del_same, np]
        · rw [del_ne h2, upd_ne h2, upd_ne h1, upd_ne h2]
    rw [eH]
    have eX : Ext B.bs.S ρ1 H1 ρ1 (upd H1 dx (.xd [(fl, v)])) := Ext.more nx
    exact q1 ρ1 _ Ca (some dx) (e1.trans eX) (R1.more nx) hG (.inr ⟨dx, [(fl, v)], rfl, upd_same, ⟨v, [], rfl, rv.mono eX, rfl⟩⟩)
end
/-! ### two clauses -/
def evComp2G (cf1 xf : Sl → Hh → Out A) (j : Jt) (t : Tg) (s : Sl) (d : Bn) (fin : Hh → Out A) : Nat → Nat → Hh → Out A
  | 0, _, _ => .bad
  | m + 1, i, h => match j.at i h with
    | none => .bad
    | some none => fin h
    | some (some x) => match evTg t x s with
      | none => .bad
      | some s1 => (cf1 s1 h).nox.bind fun b h1 => match b with
        | .bl true => (xf s1 h1).nox.bind fun y h2 => match h2.get d with
          | some (.lst acc) => if acc.length < lim then evComp2G cf1 xf j t s d fin m (i + 1) (h2.put d (.lst (acc ++ [y]))) else .bad
          | _ => .bad
        | .bl false => evComp2G cf1 xf j t s d fin m (i + 1) h1
        | _ => .bad
def comp2D (cf1 xf : Sl → Hh → Out A) (j : Jt) (g : TgD) (s : Sl) (d : Bn) (fin : Hh → Out A) (m : Nat) : Nat → Hh → Out A := Nat.rec (motive := fun _ => Nat → Hh → Out A) (fun _ _ => .bad) (fun _ ih i h => Option.rec (motive := fun _ => Out A) .bad (fun o => Option.rec (motive := fun _ => Out A) (fin h) (fun x => g A x s fun s1 => bnd (noxQ (cf1 s1 h)) fun b h1 => blK b (bnd (noxQ (xf s1 h1)) fun y h2 => lstC (getH h2 d) fun acc => lenK acc 0 fun n => Bool.rec (motive := fun _ => Out A) .bad (catK acc [y] fun z => putH h2 d (.lst z) fun h3 => frNat (Nat.succ i) fun i => ih i h3) (Nat.blt n lim)) (frNat (Nat.succ i) fun i => ih i h1)) o) (atJ j i h)) m
theorem comp2D_eq {cf xf : Sl → Hh → Out A} {j : Jt} {t : Tg} {g : TgD} (hg : TgOk t g) (s : Sl) (d : Bn) {fin fin' : Hh → Out A} (hf : ∀ h, fin h = fin' h) : ∀ (m i : Nat) (h : Hh), comp2D cf xf j g s d fin m i h = evComp2G cf xf j t s d fin' m i h
  | 0, _, _ => rfl
  | m + 1, i, h => by
    show Option.rec (motive := fun _ => Out A) .bad (fun o => Option.rec (motive := fun _ => Out A) (fin h) (fun x => g A x s fun s1 => bnd (noxQ (cf s1 h)) fun b h1 => blK b (bnd (noxQ (xf s1 h1)) fun y h2 => lstC (getH h2 d) fun acc => lenK acc 0 fun n => Bool.rec (motive := fun _ => Out A) .bad (catK acc [y] fun z => putH h2 d (.lst z) fun h3 => frNat (Nat.succ i) fun i => comp2D cf xf j g s d fin m i h3) (Nat.blt n lim)) (frNat (Nat.succ i) fun i => comp2D cf xf j g s d fin m i h1)) o) (atJ j i h) = _
    rw [atJ_eq]
    unfold evComp2G
    cases e : j.at i h with
    | none => rfl
    | some o =>
      cases o with
      | none => exact hf h
      | some x =>
        show g A x s _ = _
        rw [hg]
        dsimp only
        cases evTg t x s with
        | none => rfl
        | some s1 =>
          dsimp only
          rw [bnd_eq, noxQ_eq]
          congr 1
          funext b h1
          cases b with
          | bl b =>
            cases b with
            | true =>
              show bnd (noxQ (xf s1 h1)) _ = _
              rw [bnd_eq, noxQ_eq]
              congr 1
              funext y h2
              rw [getH_eq]
              cases h2.get d with
              | none => rfl
              | some ce =>
                cases ce with
                | lst acc =>
                  show lenK acc 0 _ = _
                  rw [lenK_eq, Nat.zero_add, bltN]
                  dsimp only
                  by_cases hl : acc.length < lim
                  · rw [if_pos hl, decide_eq_true hl]
                    show catK acc [y] _ = _
                    rw [catK_eq, putH_eq, frNat_eq]
                    exact comp2D_eq hg s d hf m (i + 1) _
                  · rw [if_neg hl, decide_eq_false hl]
                | _ => rfl
            | false =>
              show frNat (Nat.succ i) (fun i => comp2D cf xf j g s d fin m i h1) = _
              rw [frNat_eq]
              exact comp2D_eq hg s d hf m (i + 1) h1
          | _ => rfl
/-- the outer clause: it1 the inner iterator, in the slots of the turn -/
def evCompOG (cf : Sl → Hh → Out A) (it1 : Sl → Hh → Out (Option Jt)) (cf1 xf : Sl → Hh → Out A) (j : Jt) (t t1 : Tg) (s : Sl) (vs1 : List Nat) (d : Bn) : Nat → Nat → Hh → Out A
  | 0, _, _ => .bad
  | m + 1, i, h => match j.at i h with
    | none => .bad
    | some none => .ok (.loc d) h
    | some (some x) => match evTg t x s with
      | none => .bad
      | some s1 => (cf s1 h).nox.bind fun b h1 => match b with
        | .bl true => (it1 s1 h1).nox.bind fun oj h2 => match oj with
          | some j1 => evComp2G cf1 xf j1 t1 (wipeA s1 vs1) d (fun h3 => evCompOG cf it1 cf1 xf j t t1 s vs1 d m (i + 1) h3) turns 0 h2
          | none => .bad
        | .bl false => evCompOG cf it1 cf1 xf j t t1 s vs1 d m (i + 1) h1
        | _ => .bad
def compOD (cf : Sl → Hh → Out A) (it1 : Sl → Hh → Out (Option Jt)) (cf1 xf : Sl → Hh → Out A) (j : Jt) (g g1 : TgD) (s : Sl) (vs1 : List Nat) (d : Bn) (m : Nat) : Nat → Hh → Out A := Nat.rec (motive := fun _ => Nat → Hh → Out A) (fun _ _ => .bad) (fun _ ih i h => Option.rec (motive := fun _ => Out A) .bad (fun o => Option.rec (motive := fun _ => Out A) (.ok (.loc d) h) (fun x => g A x s fun s1 => bnd (noxQ (cf s1 h)) fun b h1 => blK b (bnd (noxQ (it1 s1 h1)) fun oj h2 => opt oj fun j1 => comp2D cf1 xf j1 g1 (wipeQ s1 vs1) d (fun h3 => frNat (Nat.succ i) fun i => ih i h3) turns 0 h2) (frNat (Nat.succ i) fun i => ih i h1)) o) (atJ j i h)) m
theorem compOD_eq {cf cf1 xf : Sl → Hh → Out A} {it1 : Sl → Hh → Out (Option Jt)} {j : Jt} {t t1 : Tg} {g g1 : TgD} (hg : TgOk t g) (hg1 : TgOk t1 g1) (s : Sl) (vs1 : List Nat) (d : Bn) : ∀ (m i : Nat) (h : Hh), compOD cf it1 cf1 xf j g g1 s vs1 d m i h = evCompOG cf it1 cf1 xf j t t1 s vs1 d m i h
  | 0, _, _ => rfl
  | m + 1, i, h => by
    show Option.rec (motive := fun _ => Out A) .bad (fun o => Option.rec (motive := fun _ => Out A) (.ok (.loc d) h) (fun x => g A x s fun s1 => bnd (noxQ (cf s1 h)) fun b h1 => blK b (bnd (noxQ (it1 s1 h1)) fun oj h2 => opt oj fun j1 => comp2D cf1 xf j1 g1 (wipeQ s1 vs1) d (fun h3 => frNat (Nat.succ i) fun i => compOD cf it1 cf1 xf j g g1 s vs1 d m i h3) turns 0 h2) (frNat (Nat.succ i) fun i => compOD cf it1 cf1 xf j g g1 s vs1 d m i h1)) o) (atJ j i h) = _
    rw [atJ_eq]
    unfold evCompOG
    cases e : j.at i h with
    | none => rfl
    | some o =>
      cases o with
      | none => rfl
      | some x =>
        show g A x s _ = _
        rw [hg]
        dsimp only
        cases evTg t x s with
        | none => rfl
        | some s1 =>
          dsimp only
          rw [bnd_eq, noxQ_eq]
          congr 1
          funext b h1
          cases b with
          | bl b =>
            cases b with
            | true =>
              show bnd (noxQ (it1 s1 h1)) _ = _
              rw [bnd_eq, noxQ_eq]
              congr 1
              funext oj h2
              cases oj with
              | none => rfl
              | some j1 =>
                generalize turns = N
                show comp2D cf1 xf j1 g1 (wipeQ s1 vs1) d _ N 0 h2 = _
                rw [wipeQ_eq]
                exact comp2D_eq hg1 _ d (fun h3 => by rw [frNat_eq]; exact compOD_eq hg hg1 s vs1 d m (i + 1) h3) N 0 h2
            | false =>
              show frNat (Nat.succ i) (fun i => compOD cf it1 cf1 xf j g g1 s vs1 d m i h1) = _
              rw [frNat_eq]
              exact compOD_eq hg hg1 s vs1 d m (i + 1) h1
          | _ => rfl
def xComp2 (x : Den) (g : TgD) (it : Dit) (cd : Den) (g1 : TgD) (it1 : Dit) (cd1 : Den) (own vs1 : List Nat) : Den := fun c s h => bnd (it c s h) fun oj h => opt oj fun j => newH h (.lst []) fun d h => compOD (cd c) (it1 c) (cd1 c) (x c) j g g1 (wipeQ s own) vs1 d turns 0 h
theorem q_comp2 {B : DBs} {E : XK} {call : Cl} {x cd cd1 : Den} {t t1 : Tg} {g g1 : TgD} {it it1 : Dit} {own vs1 : List Nat} (hg : TgOk t g) (hg1 : TgOk t1 g1) (hs : ∀ i ∈ slotsT t, i ∈ own) (hs1 : ∀ i ∈ slotsT t1, i ∈ vs1) {σ : L2.St} {H : Hp} {Q : VK} (q : tE B.bs.S E (xComp2 x g it cd g1 it1 cd1 own vs1 call) σ H Q) :
    tLc2 (iA B.bs.S E (it call)) (gTg B.bs.S t) (tT B.bs.S E0 (cd call)) (iA B.bs.S E0 (it1 call)) (gTg B.bs.S t1) (tT B.bs.S E0 (cd1 call)) (tE B.bs.S E0 (x call)) own vs1 σ H Q := by
  obtain ⟨ρ, h, s, Rp, rs, q⟩ := q
  refine ⟨ρ, h, s, Rp, rs, gob q fun oj h1 q1 ρ1 H1 e1 R1 => ?_⟩
  obtain ⟨j, rfl, q1a⟩ := opt_all q1
  rw [newH_eq, compOD_eq hg hg1, wipeQ_eq] at q1a
  refine ⟨j, rfl, fun J hJ D hD => ?_⟩
  have eN : Ext B.bs.S ρ1 H1 (rhoNew ρ1 h1.nx D) (upd H1 D (.lst [])) := Ext.new R1 hD
  refine ⟨fun i m H' => ∃ ρ2 h2, Ext B.bs.S (rhoNew ρ1 h1.nx D) (upd H1 D (.lst [])) ρ2 H' ∧ Rep B.bs.S ρ2 h2 H' ∧ (evCompOG (cd call) (it1 call) (cd1 call) (x call) j t t1 (wipeA s own) vs1 h1.nx m i h2).All (QW B.bs.S ρ2 H' Q) (XW B.bs.S ρ2 H' E), ⟨turns, _, h1.new (.lst []), Ext.refl, R1.new hD ⟨[], upd_same, rfl⟩, all_mono (e1.trans eN) (fun _ _ y => (y.mono e1).mono eN) q1a⟩, ?_⟩
  rintro i m H' ⟨ρ2, h2, e2, R2, q2⟩
  have e02 : Ext B.bs.S ρ1 H1 ρ2 H' := eN.trans e2
  have hd2 : ρ2 h1.nx = some D := e2.le _ _ (by unfold rhoNew; rw [if_pos rfl])
  have rs2 : RelS B.bs.S ρ2 H' (wipeA s own) (wipe σ own) := (wipe_rel (rs.mono e1) own).mono e02
  cases m with
  | zero => exact q2.elim
  | succ m =>
    unfold evCompOG at q2
    split at q2
    · exact q2.elim
    · rename_i ej
      exact .inl ⟨hJ.stop e02 R2 ej, q2 ρ2 H' _ Ext.refl R2 ⟨D, hd2, rfl⟩⟩
    · rename_i y ej
      obtain ⟨g1', g2⟩ := hJ.step e02 R2 ej
      split at q2
      · exact q2.elim
      · rename_i s3 et
        refine .inr ⟨g1', fun H4 => ∃ ρ4 h4, Ext B.bs.S (rhoNew ρ1 h1.nx D) (upd H1 D (.lst [])) ρ4 H4 ∧ Rep B.bs.S ρ4 h4 H4 ∧ (evCompOG (cd call) (it1 call) (cd1 call) (x call) j t t1 (wipeA s own) vs1 h1.nx m (i + 1) h4).All (QW B.bs.S ρ4 H4 Q) (XW B.bs.S ρ4 H4 E), fun H4 z => ⟨m, Nat.lt_succ_self m, z⟩, fun v H3 yy => ?_⟩
        obtain ⟨e3, R3, rv⟩ := g2 v H3 yy
        refine ⟨ρ2, wipeA s own, y, s3, rs2.mono e3, rv, et, fun σ3 rs3 bt => ⟨wipe_but bt hs, ?_⟩⟩
        have q3' := Out.all_nox (X' := XW B.bs.S ρ2 H3 E0) (Out.all_bind (all_mono e3 (fun _ _ y => y) q2))
        refine ⟨ρ2, h2, s3, R3, rs3, q3'.mono (fun b h3 q4 => ?_) fun _ _ _ y => y⟩
        split at q4
        · refine ⟨true, rfl, fun ρ3 H5 e5 R5 => ?_⟩
          simp only [if_true]
          refine ⟨ρ3, h3, s3, R5, rs3.mono e5, ?_⟩
          have q5 := Out.all_bind (all_mono e5 (fun _ _ y => y) q4)
          refine (Out.all_nox q5).mono (fun oj1 h4 q6 ρ4 H6 e6 R6 => ?_) fun _ _ _ y => y
          cases oj1 with
          | none => exact q6.elim
          | some j1 =>
            refine ⟨j1, rfl, fun J1 hJ1 => ?_⟩
            have eA : Ext B.bs.S (rhoNew ρ1 h1.nx D) (upd H1 D (.lst [])) ρ4 H6 := (e2.trans e3).trans (e5.trans e6)
            have rs4 : RelS B.bs.S ρ4 H6 s3 σ3 := (rs3.mono e5).mono e6
            refine ⟨fun i1 m1 H7 => ∃ ρ7 h7, Ext B.bs.S ρ4 H6 ρ7 H7 ∧ Rep B.bs.S ρ7 h7 H7 ∧ (evComp2G (cd1 call) (x call) j1 t1 (wipeA s3 vs1) h1.nx (fun h3 => evCompOG (cd call) (it1 call) (cd1 call) (x call) j t t1 (wipeA s own) vs1 h1.nx m (i + 1) h3) m1 i1 h7).All (QW B.bs.S ρ7 H7 Q) (XW B.bs.S ρ7 H7 E), ⟨turns, ρ4, h4, Ext.refl, R6, all_mono e6 (fun _ _ y => (y.mono (e3.trans e5)).mono e6) q6⟩, ?_⟩
            rintro i1 m1 H7 ⟨ρ7, h7, e7, R7, q7⟩
            have e47 : Ext B.bs.S (rhoNew ρ1 h1.nx D) (upd H1 D (.lst [])) ρ7 H7 := eA.trans e7
            have hd7 : ρ7 h1.nx = some D := e47.le _ _ (by unfold rhoNew; rw [if_pos rfl])
            have rs7 : RelS B.bs.S ρ7 H7 (wipeA s3 vs1) (wipe σ3 vs1) := (wipe_rel rs4 vs1).mono e7
            cases m1 with
            | zero => exact q7.elim
            | succ m1 =>
              unfold evComp2G at q7
              split at q7
              · exact q7.elim
              · rename_i ej1
                exact .inl ⟨hJ1.stop e7 R7 ej1, ρ7, h7, e47, R7, q7⟩
              · rename_i y1 ej1
                obtain ⟨k1, k2⟩ := hJ1.step e7 R7 ej1
                split at q7
                · exact q7.elim
                · rename_i s8 et1
                  refine .inr ⟨k1, fun H8 => ∃ ρ8 h8, Ext B.bs.S ρ4 H6 ρ8 H8 ∧ Rep B.bs.S ρ8 h8 H8 ∧ (evComp2G (cd1 call) (x call) j1 t1 (wipeA s3 vs1) h1.nx (fun h3 => evCompOG (cd call) (it1 call) (cd1 call) (x call) j t t1 (wipeA s own) vs1 h1.nx m (i + 1) h3) m1 (i1 + 1) h8).All (QW B.bs.S ρ8 H8 Q) (XW B.bs.S ρ8 H8 E), fun H8 z => ⟨m1, Nat.lt_succ_self m1, z⟩, fun v1 H9 yy1 => ?_⟩
                  obtain ⟨e9, R9, rv1⟩ := k2 v1 H9 yy1
                  refine ⟨ρ7, wipeA s3 vs1, y1, s8, rs7.mono e9, rv1, et1, fun σ9 rs9 bt1 => ⟨wipe_but bt1 hs1, ?_⟩⟩
                  have q8' := Out.all_nox (X' := XW B.bs.S ρ7 H9 E0) (Out.all_bind (all_mono e9 (fun _ _ y => y) q7))
                  refine ⟨ρ7, h7, s8, R9, rs9, q8'.mono (fun b1 h9 q9 => ?_) fun _ _ _ y => y⟩
                  split at q9
                  · refine ⟨true, rfl, fun ρa Ha ea Ra => ?_⟩
                    simp only [if_true]
                    refine ⟨ρa, h9, s8, Ra, rs9.mono ea, ?_⟩
                    have qa := Out.all_bind (all_mono ea (fun _ _ y => y) q9)
                    refine (Out.all_nox qa).mono (fun z hb qb ρb Hb w eb Rb rwb => ?_) fun _ _ _ y => y
                    split at qb
                    · rename_i acc ga
                      split at qb
                      · rename_i hlen
                        have eAB : Ext B.bs.S ρ4 H6 ρb Hb := (e7.trans e9).trans (ea.trans eb)
                        have hdb : ρb h1.nx = some D := (eA.trans eAB).le _ _ (by unfold rhoNew; rw [if_pos rfl])
                        obtain ⟨us, hus, rus⟩ := lst_at' Rb hdb ga
                        have eP : Ext B.bs.S ρb Hb ρb (upd Hb D (.lst (us ++ [w]))) := Ext.put hus True.intro
                        refine ⟨us, hus, ?_, ρb, hb.put h1.nx (.lst (acc ++ [z])), eAB.trans eP, Rb.put hdb hus True.intro ⟨us ++ [w], upd_same, Rels.append (Rels.mono eP rus) (Rels.one (rwb.mono eP))⟩, ?_⟩
                        · rw [Rels.length rus]
                          exact Nat.lt_of_lt_of_le hlen (by decide)
                        · exact all_mono (eb.trans eP) (fun _ _ y => (y.mono (e9.trans ea)).mono (eb.trans eP)) qb
                      · exact qb.elim
                    · exact qb.elim
                  · refine ⟨false, rfl, fun ρa Ha ea Ra => ?_⟩
                    simp only [Bool.false_eq_true, if_false]
                    exact ⟨ρa, h9, (e7.trans e9).trans ea, Ra, all_mono ea (fun _ _ y => y.mono (e9.trans ea)) q9⟩
                  · exact q9.elim
        · refine ⟨false, rfl, fun ρ3 H5 e5 R5 => ?_⟩
          simp only [Bool.false_eq_true, if_false]
          exact ⟨ρ3, h3, (e2.trans e3).trans e5, R5, all_mono e5 (fun _ _ y => y.mono (e3.trans e5)) q4⟩
        · exact q4.elim
section
variable {D : DTb} {c : Cc}
theorem s_comp2 {elt tg iter tg1 iter1 : Expr} {ifs ifs1 : List Expr} {scope : Scope} {pos : Pos} {x cd cd1 : Den} {t t1 : Tg} {g g1 : TgD} {it it1 : Dit} {own : List (Str × Nat)} {vs1 : List Nat} (h1 : blkC c.N c.sc scope own = true) (hv : (vs1.all fun i => (own.map (·.2)).contains i) = true) (h2 : (match iter with | .Set _ _ _ => false | _ => true) = true) (h2' : (match iter1 with | .Set _ _ _ => false | _ => true) = true) (h3 : SI D c tg iter it) (h4 : Ct ⟨c.N, scope, none⟩ tg t) (hg : TgOk t g)
    (h5 : ((slotsT t).all fun i => (own.map (·.2)).contains i) = true) (h6 : SC D ⟨c.N, scope, none⟩ ifs cd) (k3 : SI D ⟨c.N, scope, none⟩ tg1 iter1 it1) (k4 : Ct ⟨c.N, scope, none⟩ tg1 t1) (hg1 : TgOk t1 g1) (k5 : ((slotsT t1).all fun i => vs1.contains i) = true) (k6 : SC D ⟨c.N, scope, none⟩ ifs1 cd1) (h8 : SE D ⟨c.N, scope, none⟩ elt x) :
    SE D c (.ListComp elt [⟨tg, iter, ifs, 0⟩, ⟨tg1, iter1, ifs1, 0⟩] scope pos) (xComp2 x g it cd g1 it1 cd1 (own.map (·.2)) vs1) := plE rfl fun s => by
  refine PE.imp (pe_lc2 s.o.calm (by rw [s.o.N]; exact s.o.nd) (h3 s) (blk_ok s.o h1) (fun i hi => by simpa using List.all_eq_true.mp hv i hi) (fun sh H C cl fp => pg (ok_blk s.o) t h4) (fun sh H C cl fp => h6 s.blk) (fun sh H C cl fp => k3 s.blk) (fun sh H C cl fp => pg (ok_blk s.o) t1 k4) (fun sh H C cl fp => k6 s.blk) (fun sh H C cl fp => (h8 s.blk).1) (fun v => ?_) (fun env v => ?_)) fun σ H Q q => q_comp2 hg hg1 (fun i hi => ?_) (fun i hi => ?_) q
  · cases iter <;> first | rfl | cases h2
  · cases iter1 <;> first | rfl | cases h2'
  · have z := List.all_eq_true.mp h5 i hi
    simpa using z
  · have z := List.all_eq_true.mp k5 i hi
    simpa using z
end
end
end DV
set_option Elab.async false
set_option linter.all false
set_option maxRecDepth 100000
set_option maxHeartbeats 4000000
namespace DV
open PySem PySem.Spec PyProof.Rows L2
/-! several except clauses, some of them with a name for the exception -/
/-- what a clause is about: the class, the slot of the name if there is one -/
abbrev Hd := Value × Option Nat × (Addr → Value → Option Addr → TS)
def undo (i : Option Nat) (σ : L2.St) : L2.St := match i with | none => σ | some i => σ.set i none
def putx (i : Option Nat) (a : Addr) (σ : L2.St) : L2.St := match i with | none => σ | some i => σ.set i (some (.ref a))
def undoE (i : Option Nat) (D : Ends) : Ends := { nx := fun σ H => D.nx (undo i σ) H, rt := D.rt, bk := fun σ H => D.bk (undo i σ) H, ct := fun σ H => D.ct (undo i σ) H }
def wMix (K : PySem.W.Frag) (n : Nat) (Wout : WX) (D : Ends) : List Hd → WX
  | [] => Wout
  | (c, i, ts) :: r => fun cls d σ H => ∃ b, PySem.W.exmOne K cls c = some b ∧ (b = true → ∀ a, H a = none → σ.length = n → ts a cls d (undoE i D) (putx i a σ) H) ∧ (b = false → wMix K n Wout D r cls d σ H)
inductive MixOk (X : Cx) : List ExceptHandler → List Hd → Prop
  | nil : MixOk X [] []
  | cons {x : Str} {c : Value} {ts : Addr → Value → Option Addr → TS} {b₀ : Stmt} {suite : List Stmt} {np pos' : Pos} {hds : List ExceptHandler} {l : List Hd} (hc : Names X x c)
      (hsu : ∀ (a : Addr) (oe : Obj) (cls : Value) (d : Option Addr) (pn : List (Addr × Obj)), Zc cls d oe → (∃ vs, oe.data = .fields vs) → PSs (X.suite a ((a, oe) :: pn)) (b₀ :: suite) (ts a cls d)) (r : MixOk X hds l) :
      MixOk X (.ExceptHandler (some (.Name x np)) none (b₀ :: suite) pos' :: hds) ((c, none, ts) :: l)
  | as {x n : Str} {i : Nat} {c : Value} {ts : Addr → Value → Option Addr → TS} {b₀ : Stmt} {suite : List Stmt} {np pos' : Pos} {hds : List ExceptHandler} {l : List Hd} (hc : Names X x c) (hi : X.N[i]? = some n) (hln : X.env.kindOf n = some .local)
      (hsu : ∀ (a : Addr) (oe : Obj) (cls : Value) (d : Option Addr) (pn : List (Addr × Obj)), Zc cls d oe → (∃ vs, oe.data = .fields vs) → PSs (X.suite a ((a, oe) :: pn)) (b₀ :: suite) (ts a cls d)) (r : MixOk X hds l) :
      MixOk X (.ExceptHandler (some (.Name x np)) (some n) (b₀ :: suite) pos' :: hds) ((c, some i, ts) :: l)
section
variable {X : Cx} {body : List Stmt} {h₀ : ExceptHandler} {hds : List ExceptHandler} {l : List Hd} {pos : Pos} {tb : WX → TS} {Wout : WX}
theorem ps_try_mix (hs : X.stack = X.env :: X.outer) (hf : X.env.frame = some X.env.locals) (hN : X.N.Nodup) (tk : Takes X Wout)
    (hb : ∀ (W : WX) (pn : List (Addr × Obj)) (xe : Value → Shared → Prop), Takes (X.tr pn xe) W → PassesOwn (model X.prog X.w) X.A X.env xe → PSs (X.tr pn xe) body (tb W))
    (hh : MixOk X (h₀ :: hds) l) : PS X (.Try body (h₀ :: hds) [] [] pos) (fun D σ H => tb (wMix X.K X.N.length Wout D l) D σ H) := by
  refine ⟨fun pins s σ H D I h => ?_⟩
  have ok := I.ok
  have hfr : X.A.frames = some (X.env :: X.outer) := by rw [ok.frames, hs]
  refine wpAny_Try_except ?_
  refine wpAny_mono ((hb (wMix X.K X.N.length Wout D l) (X.pn ++ pins) (fun e s₁ => wpAny (model X.prog X.w) X.A (noteFrame e X.env) (fun _ s₂ => wpAny (model X.prog X.w) X.A (setFlight e none) (fun _ s₃ =>
    wpAny (model X.prog X.w) X.A (handleBy e X.env (h₀ :: hds)) (L2.SP X pins D) X.xe s₃) X.xe s₂) X.xe s₁) (fun u s' xx => ?_) PassesOwn.looking).run [] s σ H D (I.toTry _) h) (fun f s1 hsp => ?_) (fun e s1 he => he)
  · -- the catch
    obtain ⟨a, B, sI, pins', σ', H', cls, d, rfl, J', nb, up, sky, na, os, ag, w⟩ := xx
    have J : Inv X pins σ' H' sI := J'.ofTry ok
    have sky' : Sky B (X.env :: X.outer) a (Zc cls d) X.env.locals s'.heap := by rw [← hs]; exact sky
    show wpAny (model X.prog X.w) X.A (noteFrame (.ref a) X.env) _ _ _
    refine Sky.land Zc.steady hfr hf sky' fun h3 fl3 up3 => ?_
    have J3 : Inv X pins σ' H' { s' with heap := h3 } := J.landed nb fl3.1 (up.trans up3) os ag
    obtain ⟨oe3, vs3, he3, hz3, hd3⟩ := fl3.there
    have notFr : ∀ {h : Heap} {o : Obj} {vs : Array Value}, h.FunFrames B (X.env :: X.outer) → h.get? a = some o → o.data = .fields vs → a ∉ frs (X.env :: X.outer) := fun {h o vs} ff e dd hm => by
      obtain ⟨_, o', e', hnf⟩ := ff.mem hm
      rw [e] at e'; cases e'
      exact hnf _ dd
    have nfr := notFr fl3.2.2.1 he3 hd3
    have nL : a ≠ X.env.locals := fun z => nfr (List.mem_filterMap.mpr ⟨X.env, List.mem_cons_self, by rw [hf, z]⟩)
    have nF : a ∉ X.fs := fun hm => by
      obtain ⟨e, he, q⟩ := List.mem_filterMap.mp hm
      exact nfr (List.mem_filterMap.mpr ⟨e, List.mem_cons_of_mem _ he, q⟩)
    have S3 := J3.suite he3 hd3 na nL nF
    have test : ∀ {x : Str} {c : Value} {np : Pos} {Q : Value → Shared → Prop} {E : Value → Shared → Prop}, Names X x c → Q c { s' with heap := h3 } → wpAny (model X.prog X.w) (X.A.mark (some (.ref a))) (eval (.Name x np) X.env) Q E { s' with heap := h3 } := fun {x c np Q E} hc q => by
      obtain ⟨hg, hdbg, hm | ⟨hm, hv, hnn⟩⟩ := hc
      · exact ld_glob (X := X.suite a ((a, oe3) :: (X.pn ++ pins))) S3 hg hm q hdbg
      · exact ld_blt (X := X.suite a ((a, oe3) :: (X.pn ++ pins))) S3 hg hm hv q hnn hdbg
    have LT : PySem.W.Looks (model X.prog X.w) h3 (typeOf (.ref a)) cls := fun A Q E s k q => wpAny_typeOf_ref (k _ _ he3) (by rw [hz3.1]; exact q)
    have go : ∀ {hds' : List ExceptHandler} {l' : List Hd}, MixOk X hds' l' → wMix X.K X.N.length Wout D l' cls d σ' H' →
        wpAny (model X.prog X.w) X.A (handleBy (.ref a) X.env hds') (L2.SP X pins D) X.xe { s' with heap := h3 } := by
      intro hds' l' hk
      induction hk with
      | nil =>
        intro w
        refine wpAny_handleBy_nil ?_
        obtain ⟨k1, k2, k3, oe, vs, T, oT, ts', he, hz, hd, h1, hr⟩ := id fl3
        unfold PySem.passOn
        refine wpAny_bind (wpAny_field he hd h1 ?_)
        rw [if_neg (show ¬ ((Value.ref T == Value.none) = true) from by simp)]
        have fin : wpAny (model X.prog X.w) X.A (setFlight (.ref a) X.env.frame) (fun _ s4 => wpAny (model X.prog X.w) X.A (throw (.ref a) : Sem Flow) (L2.SP X pins D) X.xe s4) X.xe { s' with heap := h3 } := by
          rw [hf]
          refine HandSPX.setFlight_upZ fl3 fun h4 hh4 up4 => wpAny_throw (tk _ _ ?_)
          exact ⟨a, B, sI, pins, σ', H', cls, d, rfl, J, nb, (up.trans up3).trans up4, .inr (.inr (by rw [hs]; exact hh4)), na, os, ag, w⟩
        first
          | exact wpAny_bind (wpAny_pure (wpAny_bind fin))
          | exact wpAny_bind fin
      | @cons x c ts b₀ suite np pos' hds2 l2 hc hsu r ih =>
        intro w
        obtain ⟨b, hb1, hyes, hno⟩ := w
        refine wpAny_handleBy_cons (codeAny_handlers_test ?_) (by intro q; cases q)
        have LM := PySem.W.exm_one (M := model X.prog X.w) (J3.kIn) LT hb1
        refine test hc (LM.here ?_)
        cases b with
        | true =>
          refine codeAny_handlers_suite ?_
          refine HandSPX.lands_againZ fl3 fun h4 fl4 up4 => ?_
          have J4 : Inv X pins σ' H' { s' with heap := h4 } := J.landed nb fl4.1 ((up.trans up3).trans up4) os ag
          obtain ⟨oe4, vs4, he4, hz4, hd4⟩ := fl4.there
          have S4 := J4.suite he4 hd4 na nL nF
          refine wpAny_mono ((hsu a oe4 cls d (X.pn ++ pins) hz4 ⟨_, hd4⟩).run [] _ _ H' _ S4 (hyes rfl a na J.len)) (fun f s6 hsp => ?_) (fun _ _ z => False.elim z)
          cases f with
          | next =>
            obtain ⟨σ6, H6, S6, q6⟩ := hsp
            exact ⟨_, _, S6.unsuite ok, q6⟩
          | brk =>
            obtain ⟨σ6, H6, S6, q6⟩ := hsp
            exact ⟨_, _, S6.unsuite ok, q6⟩
          | cont =>
            obtain ⟨σ6, H6, S6, q6⟩ := hsp
            exact ⟨_, _, S6.unsuite ok, q6⟩
          | ret u =>
            obtain ⟨v6, σ6, H6, S6, r6, q6⟩ := hsp
            exact ⟨_, _, _, S6.unsuite ok, r6, q6⟩
        | false =>
          show wpAny _ X.A (handleBy (.ref a) X.env hds2) _ _ _
          exact ih (hno rfl)
      | @as x n i c ts b₀ suite np pos' hds2 l2 hc hi hln hsu r ih =>
        intro w
        obtain ⟨b, hb1, hyes, hno⟩ := w
        refine wpAny_handleBy_cons (codeAny_handlers_test ?_) (by intro q; cases q)
        have LM := PySem.W.exm_one (M := model X.prog X.w) (J3.kIn) LT hb1
        refine test hc (LM.here ?_)
        cases b with
        | true =>
          refine codeAny_handlers_suite_as ?_
          refine HandSPX.lands_againZ fl3 fun h4 fl4 up4 => ?_
          have J4 : Inv X pins σ' H' { s' with heap := h4 } := J.landed nb fl4.1 ((up.trans up3).trans up4) os ag
          obtain ⟨oe4, vs4, he4, hz4, hd4⟩ := fl4.there
          have S4 := J4.suite he4 hd4 na nL nF
          refine store_ok (X := X.suite a ((a, oe4) :: (X.pn ++ pins))) (v := .ref a) S4 hN hi (.inl hln) rfl (fun s5 S5 => ?_) (.inr hln)
          refine wpAny_mono ((hsu a oe4 cls d (X.pn ++ pins) hz4 ⟨_, hd4⟩).run [] s5 _ H' _ S5 (hyes rfl a na J.len)) (fun f s6 hsp => ?_) (fun _ _ z => False.elim z)
          have end_ : ∀ {σ6 : L2.St} {H6 : Hp} {Q : Shared → Prop}, Inv (X.suite a ((a, oe4) :: (X.pn ++ pins))) [] σ6 H6 s6 → (∀ s7, Inv X pins (σ6.set i none) H6 s7 → Q s7) →
              wpAny (model X.prog X.w) X.A (do bindName X.env n .none; unbindBehindTheSuite X.env n pos') (fun _ s7 => Q s7) X.xe s6 := fun {σ6 H6 Q} S6 hq => gone_ok (S6.unsuite ok) hN hi hln hq
          cases f with
          | next =>
            obtain ⟨σ6, H6, S6, q6⟩ := hsp
            exact end_ S6 fun s7 J7 => ⟨_, _, J7, q6⟩
          | brk =>
            obtain ⟨σ6, H6, S6, q6⟩ := hsp
            exact end_ S6 fun s7 J7 => ⟨_, _, J7, q6⟩
          | cont =>
            obtain ⟨σ6, H6, S6, q6⟩ := hsp
            exact end_ S6 fun s7 J7 => ⟨_, _, J7, q6⟩
          | ret u =>
            obtain ⟨v6, σ6, H6, S6, r6, q6⟩ := hsp
            exact end_ S6 fun s7 J7 => ⟨_, _, _, J7, r6, q6⟩
        | false =>
          show wpAny _ X.A (handleBy (.ref a) X.env hds2) _ _ _
          exact ih (hno rfl)
    exact go hh w
  · cases f with
    | next =>
      obtain ⟨σ', H', J', q⟩ := hsp
      exact wpAny_execs_nil ⟨σ', H', J'.ofTry ok, q⟩
    | brk =>
      obtain ⟨σ', H', J', q⟩ := hsp
      exact ⟨σ', H', J'.ofTry ok, q⟩
    | cont =>
      obtain ⟨σ', H', J', q⟩ := hsp
      exact ⟨σ', H', J'.ofTry ok, q⟩
    | ret u =>
      obtain ⟨v, σ', H', J', r, q⟩ := hsp
      exact ⟨v, σ', H', J'.ofTry ok, r, q⟩
end
end DV
set_option Elab.async false
set_option linter.all false
set_option maxRecDepth 100000
set_option maxHeartbeats 4000000
namespace DV
open PySem PySem.Spec PyProof.Rows L2 ER EV
noncomputable section
/-! ### try at the top of a def's body -/
def Tp (X : Cx) : Prop := X.stack = X.env :: X.outer ∧ X.env.frame = some X.env.locals
def ST (D : DTb) (c : Cc) (st : Stmt) (d : Dst) : Prop := ∀ {B k call X E}, Sg D c B k call X E → Tp X → PS X st (tSs B.bs.S E (d call))
def SF (D : DTb) (c : Cc) (l : List Stmt) (d : Dst) : Prop := ∀ {B k call X E}, Sg D c B k call X E → Tp X → PSs X l (tSs B.bs.S E (d call))
def conV : A → V
  | .bl b => .bl b
  | .int i => .int i
  | .str x => .str x
  | _ => .non
def VP (K : PySem.W.Frag) (cls : Value) (d : Option Addr) (H : Hp) : HP → V → Prop
  | .con a, v => v = conV a
  | .ef f, v => ∃ Ca dd vs, cls = .ref Ca ∧ XfC K Ca ∧ PySem.W.findIn K (.ref Ca) f = some none ∧ d = some dd ∧ H dd = some (.xd vs) ∧ vs.lookup f = some v
def VPs (K : PySem.W.Frag) (cls : Value) (d : Option Addr) (H : Hp) : List HP → List V → Prop
  | [], vs => vs = []
  | p :: ps, vs => ∃ v r, vs = v :: r ∧ VP K cls d H p v ∧ VPs K cls d H ps r
def slotOk (i : Option Nat) (a : Addr) (σ : L2.St) : Prop := ∀ j, i = some j → σ[j]? = some (some (.ref a))
section
variable {X : Cx} {n : Option Str} {i : Option Nat} {a : Addr} {oe : Obj} {cls : Value} {d : Option Addr} {pn : List (Addr × Obj)}
def NmOk (X : Cx) (n : Option Str) (i : Option Nat) : Prop := ∀ y, n = some y → ∃ j, i = some j ∧ X.N[j]? = some y ∧ Vis X.env.scope y ∧ okName y = true
theorem pe_hp (hn : NmOk X n i) (hz : Zc cls d oe) (hf : ∃ vs, oe.data = .fields vs) {e : Expr} {p : HP} (h : hpB n e = some p) : PE (X.suite a ((a, oe) :: pn)) e (fun σ H Q => slotOk i a σ ∧ ∃ v, VP X.K cls d H p v ∧ Q v H) := by
  unfold hpB at h
  split at h
  · cases h
    exact PE.imp pe_str fun σ H Q ⟨_, v, e, q⟩ => by rw [show v = V.str _ from e] at q; exact q
  · cases h
    exact PE.imp pe_non fun σ H Q ⟨_, v, e, q⟩ => by rw [show v = V.non from e] at q; exact q
  · cases h
    exact PE.imp pe_bl fun σ H Q ⟨_, v, e, q⟩ => by rw [show v = V.bl _ from e] at q; exact q
  · cases h
    exact PE.imp pe_int fun σ H Q ⟨_, v, e, q⟩ => by rw [show v = V.int _ from e] at q; exact q
  · rename_i y py f pf
    split at h
    · rename_i hny
      cases h
      obtain ⟨j, rfl, h1, h2, h3⟩ := hn y hny
      refine ⟨fun pins s σ H Q I q => ?_⟩
      obtain ⟨sl, v, ⟨Ca, dd, vs, e1, T, hno, e2, e3, e4⟩, q⟩ := q
      exact (pe_xf (n := f) (pos := pf) T hno hz hf (pe_var (i := j) (pos := py) h1 h2 (okName_d h3).1 (okName_d h3).2)).run pins s σ H Q I ⟨.ref a, sl j rfl, rfl, e1, dd, vs, v, e2, e3, e4, q⟩
    · cases h
  · cases h
theorem hp_star {e : Expr} {es : List Expr} {env : Env} {p : HP} (h : hpB n e = some p) : starEach (e :: es) env = (false, eval e env) :: starEach es env := by
  unfold hpB at h
  split at h <;> first | rfl | cases h
theorem pa_hps (hn : NmOk X n i) (hz : Zc cls d oe) (hf : ∃ vs, oe.data = .fields vs) : ∀ {es : List Expr} {ps : List HP}, hpsB n es = some ps → PA (X.suite a ((a, oe) :: pn)) es (fun σ H Q => slotOk i a σ ∧ ∃ vs, VPs X.K cls d H ps vs ∧ Q vs H)
  | [], ps, h => by
    cases h
    exact PA.imp pa_nil fun σ H Q ⟨_, vs, e, q⟩ => by rw [show vs = [] from e] at q; exact q
  | e :: es, ps, h => by
    unfold hpsB at h
    cases e1 : hpB n e with
    | none => rw [e1] at h; cases h
    | some p =>
      rw [e1, Option.bind_some] at h
      cases e2 : hpsB n es with
      | none => rw [e2] at h; cases h
      | some r =>
        rw [e2, Option.map_some] at h
        cases h
        refine PA.imp (pa_cons (pe_hp hn hz hf e1) (pa_hps hn hz hf e2) (hp_star e1)) fun σ H Q q => ?_
        obtain ⟨sl, vs, ⟨v, r, e3, q1, q2⟩, q⟩ := q
        rw [e3] at q
        exact ⟨sl, v, q1, sl, r, q2, q⟩
def tHX (K : PySem.W.Frag) (i : Option Nat) (a : Addr) (cls : Value) (d : Option Addr) (x : HX) : TE := fun σ H Q => slotOk i a σ ∧ match x with
  | .one p => ∃ v, VP K cls d H p v ∧ Q v H
  | .tup ps => ∃ vs, VPs K cls d H ps vs ∧ vs.length ≤ sizeLine ∧ ∀ p, H p = none → Q (.ref p) (upd H p (.tup vs))
theorem pe_hx (hn : NmOk X n i) (hz : Zc cls d oe) (hf : ∃ vs, oe.data = .fields vs) {e : Expr} {x : HX} (h : hxB n e = some x) : PE (X.suite a ((a, oe) :: pn)) e (tHX X.K i a cls d x) := by
  unfold hxB at h
  split at h
  · rename_i es k p
    cases e1 : hpsB n es with
    | none => rw [e1] at h; cases h
    | some ps =>
      rw [e1] at h
      cases h
      refine PE.imp (pe_tup (pa_hps hn hz hf e1)) fun σ H Q q => ?_
      obtain ⟨sl, vs, q1, q2, q3⟩ := q
      exact ⟨sl, vs, q1, q2, q3⟩
  · cases e1 : hpB n e with
    | none => rw [e1] at h; cases h
    | some p =>
      rw [e1] at h
      cases h
      exact PE.imp (pe_hp hn hz hf e1) fun σ H Q q => q
end
/-! the same, of abstract values -/
def isCon : A → Bool
  | .non => true
  | .bl _ => true
  | .int _ => true
  | .str _ => true
  | _ => false
def hpV (fld : Option Str) (fs : List (Str × A)) (p : HP) : Option A := HP.rec (motive := fun _ => Option A) (fun a => Bool.rec (motive := fun _ => Option A) none (some a) (isCon a)) (fun f => Option.rec (motive := fun _ => Option A) none (fun g => Bool.rec (motive := fun _ => Option A) none (fldQ f fs) (strEq f g)) fld) p
def hpsV (fld : Option Str) (fs : List (Str × A)) (ps : List HP) : Option (List A) := List.rec (motive := fun _ => Option (List A)) (some []) (fun p _ ih => Option.rec (motive := fun _ => Option (List A)) none (fun a => Option.rec (motive := fun _ => Option (List A)) none (fun r => some (a :: r)) ih) (hpV fld fs p)) ps
def hxV (fld : Option Str) (fs : List (Str × A)) (x : HX) : Option A := HX.rec (motive := fun _ => Option A) (fun p => hpV fld fs p) (fun ps => Option.rec (motive := fun _ => Option A) none (fun r => Bool.rec (motive := fun _ => Option A) none (some (.tup r)) (Nat.ble r.length 1000)) (hpsV fld fs ps)) x
section
variable {B : DBs} {ρ : Rho} {h : Hh} {H : Hp} {fs : List (Str × A)} {d : Option Addr} {C : Nat} {Ca : Addr} {fld : Option Str}
theorem hp_ok (bo : BOk B.bs) (hG : B.bs.S.G C = some Ca) (hfl : B.bs.T.kit.fld[C]? = some fld) (xd : XdOk B.bs.S ρ H fs d) {p : HP} {av : A} (e : hpV fld fs p = some av) : ∃ v, VP B.bs.S.K (.ref Ca) d H p v ∧ Rel B.bs.S ρ H av v := by
  cases p with
  | con a =>
    have e : Bool.rec (motive := fun _ => Option A) none (some a) (isCon a) = some av := e
    cases a <;> first | cases e; exact ⟨_, rfl, rfl⟩ | cases e
  | ef f =>
    cases fld with
    | none => cases e
    | some g =>
      have e : Bool.rec (motive := fun _ => Option A) none (fldQ f fs) (strEq f g) = some av := e
      cases e1 : strEq f g with
      | false => rw [e1] at e; cases e
      | true =>
        rw [e1] at e
        have e0 : fldQ f fs = some av := e
        clear e
        rw [fldQ_eq] at e0
        rw [strEq_eq] at e1
        have e2 := eq_of_beq e1
        subst e2
        obtain ⟨x1, x2⟩ := bo.xno C f Ca hfl hG
        rcases xd with ⟨rfl, _⟩ | ⟨dx, vs, e3, e4, e5⟩
        · cases e0
        · obtain ⟨v, e6, e7⟩ := e5.look.1 av e0
          exact ⟨v, ⟨Ca, dx, vs, rfl, x2, x1, e3, e4, e6⟩, e7⟩
theorem hps_ok (bo : BOk B.bs) (hG : B.bs.S.G C = some Ca) (hfl : B.bs.T.kit.fld[C]? = some fld) (xd : XdOk B.bs.S ρ H fs d) : ∀ {ps : List HP} {av : List A}, hpsV fld fs ps = some av → ∃ vs, VPs B.bs.S.K (.ref Ca) d H ps vs ∧ Rels B.bs.S ρ H av vs
  | [], av, e => by cases e; exact ⟨[], rfl, rfl⟩
  | p :: ps, av, e => by
    have e : Option.rec (motive := fun _ => Option (List A)) none (fun a => Option.rec (motive := fun _ => Option (List A)) none (fun r => some (a :: r)) (hpsV fld fs ps)) (hpV fld fs p) = some av := e
    cases e1 : hpV fld fs p with
    | none => rw [e1] at e; cases e
    | some a =>
      rw [e1] at e
      cases e2 : hpsV fld fs ps with
      | none => rw [e2] at e; cases e
      | some r =>
        rw [e2] at e
        cases e
        obtain ⟨v, q1, q2⟩ := hp_ok bo hG hfl xd e1
        obtain ⟨vs, q3, q4⟩ := hps_ok bo hG hfl xd e2
        exact ⟨v :: vs, ⟨v, vs, rfl, q1, q3⟩, v, vs, rfl, q2, q4⟩
theorem hx_ok (bo : BOk B.bs) (hG : B.bs.S.G C = some Ca) (hfl : B.bs.T.kit.fld[C]? = some fld) (R : Rep B.bs.S ρ h H) (xd : XdOk B.bs.S ρ H fs d) {x : HX} {av : A} (e : hxV fld fs x = some av) {i : Option Nat} {a : Addr} {σ : L2.St} (sl : slotOk i a σ) {Q : VK}
    (q : ∀ v H', Ext B.bs.S ρ H ρ H' → Rep B.bs.S ρ h H' → Rel B.bs.S ρ H' av v → Q v H') : tHX B.bs.S.K i a (.ref Ca) d x σ H Q := by
  refine ⟨sl, ?_⟩
  cases x with
  | one p =>
    obtain ⟨v, q1, q2⟩ := hp_ok bo hG hfl xd (show hpV fld fs p = some av from e)
    exact ⟨v, q1, q v H Ext.refl R q2⟩
  | tup ps =>
    have e : Option.rec (motive := fun _ => Option A) none (fun r => Bool.rec (motive := fun _ => Option A) none (some (.tup r)) (Nat.ble r.length 1000)) (hpsV fld fs ps) = some av := e
    cases e1 : hpsV fld fs ps with
    | none => rw [e1] at e; cases e
    | some r =>
      rw [e1] at e
      have e : Bool.rec (motive := fun _ => Option A) none (some (.tup r)) (Nat.ble r.length 1000) = some av := e
      cases e2 : Nat.ble r.length 1000 with
      | false => rw [e2] at e; cases e
      | true =>
        rw [e2] at e
        cases e
        obtain ⟨vs, q1, q2⟩ := hps_ok bo hG hfl xd e1
        refine ⟨vs, q1, by rw [Rels.length q2]; exact Nat.le_trans (Nat.le_of_ble_eq_true e2) (by decide), fun p n => ?_⟩
        exact q _ _ (Ext.more n) (R.more n) ⟨p, vs, rfl, .inl (.inl upd_same), Rels.mono (Ext.more n) q2⟩
end
/-! ### the clauses -/
def repl (n : Nat) : Sl := Nat.rec (motive := fun _ => Sl) [] (fun _ ih => none :: ih) n
theorem repl_len : ∀ n, (repl n).length = n
  | 0 => rfl
  | n + 1 => by show (repl n).length + 1 = _; rw [repl_len n]
theorem repl_get : ∀ (n i : Nat) (a : A), (repl n)[i]? ≠ some (some a)
  | 0, i, a => by show ([] : Sl)[i]? ≠ _; simp
  | n + 1, 0, a => by show (none :: repl n)[0]? ≠ _; simp
  | n + 1, i + 1, a => by show (none :: repl n)[i + 1]? ≠ _; rw [List.getElem?_cons_succ]; exact repl_get n i a
def endC (n : Nat) (j : Option Nat) (v : A) (h : Hh) : Out Fl := Option.rec (motive := fun _ => Out Fl) (.ok (.rt v) h) (fun j => setK (repl n) v j fun s => .ok (.nx s) h) j
def catchQ (xm : List (List (Option Bool))) (fl : List (Option Str)) (n : Nat) (hs : List HdD) (C : Nat) (fs : List (Str × A)) (h : Hh) : Out Fl :=
  List.rec (motive := fun _ => Out Fl) (.exc C fs h) (fun hd _ ih => opt (xmQ xm C hd.Ch) fun b => Bool.rec (motive := fun _ => Out Fl) ih (opt (nth fl C) fun ofl => opt (hxV ofl fs hd.x) fun v => endC n hd.j v h) b) hs
def sTry (xm : List (List (Option Bool))) (fl : List (Option Str)) (n : Nat) (b : Dst) (hs : List HdD) : Dst := fun c s h => Out.rec (motive := fun _ => Out Fl) (fun f h => .ok f h) (fun C fs h => catchQ xm fl n hs C fs h) .bad (fun n _ ih => .pick n ih) (b c s h)
section
variable {D : DTb} {c : Cc} {B : DBs} {k : Nat} {call : Cl} {X : Cx} {E : XK}
/-- what a clause's suite asks -/
def tHd (K : PySem.W.Frag) (i j : Option Nat) (x : HX) (a : Addr) (cls : Value) (d : Option Addr) : TS := fun D σ H => tHX K i a cls d x σ H fun v H1 => match j with
  | some j => D.nx (σ.set j (some v)) H1
  | none => D.rt v H1
/-- the little that clauses ask of their context -/
structure OkW (B : DBs) (D : DTb) (c : Cc) (X : Cx) : Prop where
  d : B.D = D
  ok : DOk B
  K : X.K = B.bs.S.K
  mg : X.mg = B.bs.mg
  N : X.N = c.N
  nd : c.N.Nodup
  loc : ∀ x, c.sc.names.lookup x = some .local → X.env.scope.names.lookup x = some .local
  gi : ∀ x, c.sc.names.lookup x = some .globalImplicit → X.env.scope.names.lookup x = some .globalImplicit
theorem Sg.w (s : Sg D c B k call X E) : OkW B D c X := ⟨s.d, s.ok, s.o.K, s.o.mg, s.o.N, s.o.nd, s.o.loc, s.o.gi⟩
def hdL (B : DBs) (l : List HdD) : List Hd := l.map fun hd => (.ref ((B.bs.S.G hd.Ch).getD 0), hd.i, tHd B.bs.S.K hd.i hd.j hd.x)
theorem ps_ht (s : OkW B D c X) {n : Option Str} {i j : Option Nat} {st : Stmt} {x : HX} (hn : NmOk X n i) (h : HtR c n i st j x) (a : Addr) (oe : Obj) (cls : Value) (d : Option Addr) (pn : List (Addr × Obj)) (hz : Zc cls d oe) (hf : ∃ vs, oe.data = .fields vs) :
    PSs (X.suite a ((a, oe) :: pn)) [st] (tHd X.K i j x a cls d) := by
  cases h with
  | ret h1 => exact PSs.imp (pss_one (ps_ret (pe_hx hn hz hf h1))) fun D σ H q => q
  | asg h1 h2 h3 h4 h5 =>
    rename_i y j e py pos
    have hN : X.N.Nodup := by rw [s.N]; exact s.nd
    have hi : X.N[j]? = some y := by rw [s.N]; exact h1
    have hl := s.loc y (kindIs_ok h2)
    have hst : (assignEach [.Name y py] (X.suite a ((a, oe) :: pn)).env).map (·.2) = [assign (.Name y py) (X.suite a ((a, oe) :: pn)).env] := by rfl
    have hsw : swapsWithSole [.Name y py] e pos.line (X.suite a ((a, oe) :: pn)).env = pure false := by
      show swapsWith e (some (.Name y py)) pos.line (X.suite a ((a, oe) :: pn)).env = pure false
      exact sw_no h4
    have hss : swappedStores [.Name y py] e (X.suite a ((a, oe) :: pn)).env = pure none := by cases e <;> rfl
    exact PSs.imp (pss_one (ps_asg (pe_hx hn hz hf h5) (pg_name (X := X.suite a ((a, oe) :: pn)) hN hi (.inl hl) (.inr hl)) hsw hss hst)) fun D σ H q => q
def endP (i j : Option Nat) (a : Addr) (σ : L2.St) (D : Ends) (u : V) (H' : Hp) : Prop := match j with | some j => (undoE i D).nx ((putx i a σ).set j (some u)) H' | none => (undoE i D).rt u H'
theorem nm_none : NmOk X none none := fun y e => nomatch e
theorem end_ok {n : Nat} {j : Option Nat} {v : A} {h : Hh} {i : Option Nat} {ρ : Rho} {H : Hp} {D : Ends} {σ : L2.St} {a : Addr} (q : (endC n j v h).All (FW B.bs.S ρ H D) (XW B.bs.S ρ H E)) (hl : σ.length = n) (hij : i = none ∨ i ≠ j) (hj : ∀ k, j = some k → k < n) {ρ' : Rho} {H' : Hp} (e : Ext B.bs.S ρ H ρ' H') (R : Rep B.bs.S ρ' h H') {u : V} (ru : Rel B.bs.S ρ' H' v u) :
    endP i j a σ D u H' := by
  cases j with
  | none => exact q ρ' H' e R u ru
  | some j =>
    have q : (setK (repl n) v j fun s => (Out.ok (.nx s) h : Out Fl)).All (FW B.bs.S ρ H D) (XW B.bs.S ρ H E) := q
    rw [setK_eq] at q
    refine q ρ' H' e R _ ⟨?_, fun k x ex => ?_⟩
    · rw [List.length_set, repl_len]
      unfold undo putx
      cases i <;> simp [hl]
    · by_cases hk : j = k
      · subst hk
        have hlt := hj j rfl
        rw [List.getElem?_set_self (by rw [repl_len]; exact hlt)] at ex
        cases ex
        refine ⟨u, ?_, ru⟩
        unfold undo putx
        cases i with
        | none => exact List.getElem?_set_self (by rw [hl]; exact hlt)
        | some i =>
          have nij : i ≠ j := fun z => hij.elim (fun z => nomatch z) fun w => w (by rw [z])
          show (((σ.set i (some (.ref a))).set j (some u)).set i none)[j]? = _
          rw [List.getElem?_set_ne nij, List.getElem?_set_self (by rw [List.length_set, hl]; exact hlt)]
      · rw [List.getElem?_set_ne hk] at ex
        exact absurd ex (repl_get n k x)
theorem hd_ok (s : OkW B D c X) {hds : List ExceptHandler} {l : List HdD} (hr : HdR D c hds l) : MixOk X hds (hdL B l) ∧ ∀ (D' : Ends) (ρ : Rho) (H : Hp) (C : Nat) (fs : List (Str × A)) (h : Hh), (catchQ D.xm D.tb.kit.fld c.N.length l C fs h).All (FW B.bs.S ρ H D') (XW B.bs.S ρ H E) →
    ∀ ρ' H' Ca d, Ext B.bs.S ρ H ρ' H' → Rep B.bs.S ρ' h H' → B.bs.S.G C = some Ca → XdOk B.bs.S ρ' H' fs d → ∀ σ', wMix X.K X.N.length (fun cls d _ H => E cls d H) D' (hdL B l) (.ref Ca) d σ' H' := by
  have one : ∀ {i j : Option Nat} {hx : HX} {Ch : Nat} {Cha : Addr} {hs : List HdD} {L : List Hd}, B.bs.S.G Ch = some Cha → (i = none ∨ i ≠ j) → (∀ k, j = some k → k < c.N.length) → (∀ k, i = some k → k < c.N.length) →
      (∀ (D' : Ends) (ρ : Rho) (H : Hp) (C : Nat) (fs : List (Str × A)) (h : Hh), (catchQ D.xm D.tb.kit.fld c.N.length hs C fs h).All (FW B.bs.S ρ H D') (XW B.bs.S ρ H E) → ∀ ρ' H' Ca d, Ext B.bs.S ρ H ρ' H' → Rep B.bs.S ρ' h H' → B.bs.S.G C = some Ca → XdOk B.bs.S ρ' H' fs d → ∀ σ', wMix X.K X.N.length (fun cls d _ H => E cls d H) D' L (.ref Ca) d σ' H') →
      ∀ (D' : Ends) (ρ : Rho) (H : Hp) (C : Nat) (fs : List (Str × A)) (h : Hh), (catchQ D.xm D.tb.kit.fld c.N.length (⟨Ch, i, j, hx⟩ :: hs) C fs h).All (FW B.bs.S ρ H D') (XW B.bs.S ρ H E) → ∀ ρ' H' Ca d, Ext B.bs.S ρ H ρ' H' → Rep B.bs.S ρ' h H' → B.bs.S.G C = some Ca → XdOk B.bs.S ρ' H' fs d → ∀ σ', wMix X.K X.N.length (fun cls d _ H => E cls d H) D' ((.ref ((B.bs.S.G Ch).getD 0), i, tHd B.bs.S.K i j hx) :: L) (.ref Ca) d σ' H' := by
    intro i j hx Ch Cha hs L hG hij hj hi ih D' ρ H C fs h q ρ' H' Ca d e R hGC xd σ'
    have q : (opt (xmQ D.xm C Ch) fun b => Bool.rec (motive := fun _ => Out Fl) (catchQ D.xm D.tb.kit.fld c.N.length hs C fs h) (opt (nth D.tb.kit.fld C) fun ofl => opt (hxV ofl fs hx) fun v => endC c.N.length j v h) b).All (FW B.bs.S ρ H D') (XW B.bs.S ρ H E) := q
    obtain ⟨b, e1, q1⟩ := opt_all q
    have hb := s.ok.xm C Ch b Ca Cha (by rw [s.d]; exact e1) hGC hG
    refine ⟨b, by rw [s.K, hG]; exact hb, fun hbt a na hl => ?_, fun hbf => ?_⟩
    · subst hbt
      obtain ⟨ofl, e2, q2⟩ := opt_all (show (opt (nth D.tb.kit.fld C) fun ofl => opt (hxV ofl fs hx) fun v => endC c.N.length j v h).All (FW B.bs.S ρ H D') (XW B.bs.S ρ H E) from q1)
      obtain ⟨v, e3, q3⟩ := opt_all q2
      rw [nth_eq] at e2
      have hl' : σ'.length = c.N.length := by rw [hl, s.N]
      have sl : slotOk i a (putx i a σ') := fun m hm => by
        subst hm
        exact List.getElem?_set_self (by rw [hl']; exact hi m rfl)
      show tHX B.bs.S.K i a (.ref Ca) d hx (putx i a σ') H' _
      refine hx_ok s.ok.bo hGC (by rw [s.ok.tb, s.d]; exact e2) R xd e3 sl fun u H2 e4 R4 ru => ?_
      exact end_ok (a := a) q3 hl' hij hj (e.trans e4) R4 ru
    · subst hbf
      exact ih D' ρ H C fs h q1 ρ' H' Ca d e R hGC xd σ'
  have lt : ∀ {i : Nat} {y : Str}, c.N[i]? = some y → i < c.N.length := fun h => (List.getElem?_eq_some_iff.mp h).1
  have hjt : ∀ {n : Option Str} {i j : Option Nat} {st : Stmt} {x : HX}, HtR c n i st j x → (∀ k, j = some k → k < c.N.length) ∧ (i = none ∨ i ≠ j) := fun {n i j st x} ht => by
    cases ht with
    | ret h1 => exact ⟨fun k z => (nomatch z), by cases i <;> simp⟩
    | asg h1 h2 h3 h4 h5 => exact ⟨fun k z => by cases z; exact lt h1, .inr h3⟩
  have nms : ∀ {x : Str} {g : EV.GV} {Ch : Nat}, kindIs c.sc x .globalImplicit = true → D.tb.gl.lookup x = some g → g.val = some (.glo Ch) → okName x = true → ∃ Cha, B.bs.S.G Ch = some Cha ∧ Names X x (.ref Cha) := fun {x g Ch} h1 h2 h3 h4 => by
    obtain ⟨C, v, e1, e2, e3⟩ := s.ok.bo.glv x g (.glo Ch) (by rw [s.ok.tb, s.d]; exact h2) h3
    cases e1
    exact ⟨v, e2, s.gi x (kindIs_ok h1), (okName_d h4).1, .inl (by rw [s.mg]; exact e3)⟩
  induction hr with
  | nil => exact ⟨.nil, fun D' ρ H C fs h q ρ' H' Ca d e R hG xd σ' => q ρ' H' Ca d e R hG xd⟩
  | cons h1 h2 h3 h4 ht hr ih =>
    obtain ⟨m, w⟩ := ih
    obtain ⟨Cha, g1, g2⟩ := nms h1 h2 h3 h4
    refine ⟨?_, one g1 (hjt ht).2 (hjt ht).1 (fun _ z => nomatch z) w⟩
    show MixOk X _ ((.ref ((B.bs.S.G _).getD 0), none, tHd B.bs.S.K none _ _) :: hdL B _)
    rw [g1]
    exact .cons g2 (fun a oe cls d pn hz hf => by rw [← s.K]; exact ps_ht s nm_none ht a oe cls d pn hz hf) m
  | as h1 h2 h3 h4 h5 h6 h7 ht hr ih =>
    rename_i x n i g Ch st j hx np pos hds l
    obtain ⟨m, w⟩ := ih
    obtain ⟨Cha, g1, g2⟩ := nms h1 h2 h3 h4
    have hl := s.loc _ (kindIs_ok h6)
    have hi : X.N[i]? = some n := by rw [s.N]; exact h5
    refine ⟨?_, one g1 (hjt ht).2 (hjt ht).1 (fun k z => by cases z; exact lt h5) w⟩
    show MixOk X _ ((.ref ((B.bs.S.G _).getD 0), some i, tHd B.bs.S.K (some i) _ _) :: hdL B _)
    rw [g1]
    exact .as g2 hi hl (fun a oe cls d pn hz hf => by rw [← s.K]; exact ps_ht s (fun y hy => by cases hy; exact ⟨i, rfl, hi, .inl hl, h7⟩) ht a oe cls d pn hz hf) m
theorem ok_tr {pn : List (Addr × Obj)} {xe : Value → Shared → Prop} {W : WX} {E' : XK} {k : Nat} (O : Ok B.bs k c X E) (tk : Takes (X.tr pn xe) W) (hE : ∀ cls d σ H, E' cls d H → W cls d σ H) (ow : PassesOwn (model X.prog X.w) X.A X.env xe) : Ok B.bs k c (X.tr pn xe) E' :=
  { P := O.P, w := O.w, K := O.K, mg := O.mg, bs := O.bs, N := O.N, nd := O.nd, calm := O.calm, room := O.room, r2 := O.r2, pass := passes_call tk hE, tk := tk.imp hE, own := ow, loc := O.loc, cell := O.cell, free := O.free, gi := O.gi, qual := O.qual }
theorem all_try {xm : List (List (Option Bool))} {fl : List (Option Str)} {n : Nat} {hs : List HdD} {P : Fl → Hh → Prop} {Y : Nat → List (Str × A) → Hh → Prop} : ∀ {m : Out Fl}, (Out.rec (motive := fun _ => Out Fl) (fun f h => .ok f h) (fun C fs h => catchQ xm fl n hs C fs h) .bad (fun n _ ih => .pick n ih) m : Out Fl).All P Y → m.All P (fun C fs h => (catchQ xm fl n hs C fs h).All P Y)
  | .ok _ _, q => q
  | .exc _ _ _, q => q
  | .bad, q => q
  | .pick _ _, q => fun r hr => all_try (q r hr)
theorem t_try {body : List Stmt} {h₀ : ExceptHandler} {hds : List ExceptHandler} {db : Dst} {l : List HdD} {pos : Pos} (hb : SSs D c body db) (hr : HdR D c (h₀ :: hds) l) : ST D c (.Try body (h₀ :: hds) [] [] pos) (sTry D.xm D.tb.kit.fld c.N.length db l) := fun {B k call X E} s tp => by
  obtain ⟨m, w⟩ := hd_ok (E := E) s.w hr
  have hN : X.N.Nodup := by rw [s.o.N]; exact s.o.nd
  refine PS.imp (ps_try_mix tp.1 tp.2 hN s.o.tk (tb := fun W => tSs B.bs.S (fun cls d H => ∀ σ, W cls d σ H) (db call)) (fun W pn xe tk ow => hb ⟨s.d, s.ok, s.cl, ok_tr s.o tk (fun cls d σ H h => h σ) ow, s.rm⟩) m) fun D' σ H q => ?_
  obtain ⟨ρ, h, sl, R, rs, q⟩ := q
  refine ⟨ρ, h, sl, R, rs, (all_try q).mono (fun _ _ y => y) fun C fs h1 y => ?_⟩
  exact fun ρ' H' Ca d e R' hG xd σ' => w D' ρ H C fs h1 y ρ' H' Ca d e R' hG xd σ'
theorem t_of {st : Stmt} {d : Dst} (h : SS D c st d) : ST D c st d := fun s _ => h s
theorem f_of {l : List Stmt} {d : Dst} (h : SSs D c l d) : SF D c l d := fun s _ => h s
theorem f_one {st : Stmt} {a : Dst} (ha : ST D c st a) : SF D c [st] a := fun s t => PSs.imp (pss_one (ha s t)) fun D σ H q => q
theorem f_cons {st : Stmt} {r : List Stmt} {a b : Dst} (ha : ST D c st a) (hb : SF D c r b) : SF D c (st :: r) (sSeq a b) := fun s t => PSs.imp (pss_cons (ha s t) (hb s t)) fun D σ H q => by
  obtain ⟨ρ, h, s, R, rs, q⟩ := q
  refine ⟨ρ, h, s, R, rs, gob q fun f h1 q1 ρ1 H1 e1 R1 => ?_⟩
  cases f with
  | nx s1 => exact fun σ1 rs1 => ⟨ρ1, h1, s1, R1, rs1, all_mono e1 (fun _ _ y => y.mono e1) q1⟩
  | rt a => exact fun v rv => q1 ρ1 H1 e1 R1 v rv
  | bk s1 => exact fun σ1 rs1 => q1 ρ1 H1 e1 R1 σ1 rs1
  | ct s1 => exact fun σ1 rs1 => q1 ρ1 H1 e1 R1 σ1 rs1
end
end
end DV
set_option Elab.async false
set_option linter.all false
set_option maxRecDepth 100000
set_option maxHeartbeats 4000000
namespace DV
open PySem PySem.Spec PyProof.Rows L2 ER EV
noncomputable section
/-! ### f(lambda: body), f calls it in a try -/
def okv (t : TrD) (a : A) : A := Option.rec (motive := fun _ => A) t.iv (fun g => .tup [.str g, a]) t.tag
def finish (j : Nat) (m : Out Fl) : Out A := Out.rec (motive := fun _ => Out A) (fun f h => Fl.rec (motive := fun _ => Out A) (fun s => opt (slot s j) fun v => .ok v h) (fun v => .ok v h) (fun _ => .bad) (fun _ => .bad) f) (fun _ _ _ => .bad) .bad (fun n _ ih => .pick n ih) m
def xTried (xm : List (List (Option Bool))) (fl : List (Option Str)) (t : TrD) (d : Den) : Den := fun c s h => Out.rec (motive := fun _ => Out A) (fun a h => .ok (okv t a) h) (fun C fs h => finish t.j (catchQ xm fl t.n t.hs C fs h)) .bad (fun n _ ih => .pick n ih) (d c s h)
/-- the ends of the try: what is told in the end -/
def dQ (j : Nat) (Q : VK) : Ends := { nx := fun σ H => ∃ v, σ[j]? = some (some v) ∧ Q v H, rt := Q }
def iniOk (a : A) (H : Hp) (iv : V) (H1 : Hp) : Prop := match a with
  | .non => iv = .non ∧ H1 = H
  | .tup [] => ∃ p, H p = none ∧ iv = .ref p ∧ H1 = upd H p (.tup [])
  | _ => False
def okK (t : TrD) (iv : V) (Q : VK) : VK := match t.tag with
  | none => fun _ H => Q iv H
  | some g => fun v H => ∀ p, H p = none → Q (.ref p) (upd H p (.tup [.str g, v]))
def TTr (B : DBs) (t : TrD) : (XK → Hp → VK → Prop) → Hp → VK → Prop := fun tl H Q => ∀ iv H1, iniOk t.iv H iv H1 →
  tl (fun cls d H' => ∀ σ', wMix B.bs.S.K t.n (fun _ _ _ _ => False) (dQ t.j Q) (hdL B t.hs) cls d σ' H') H1 (okK t iv Q)
section
variable {D : DTb} {B : DBs} {X : Cx} {Ng : List Str} {x a q : Str} {sg : Scope} {g : Addr} {cdg : Value} {bg : List Stmt} {t : TrD}
theorem start0 (h0 : Ng[0]? = some a) (f : Addr) : (L2.start Ng [V.ref f])[0]? = some (some (V.ref f)) := rfl
theorem start_len (hl : 1 ≤ Ng.length) (f : Addr) : (L2.start Ng [V.ref f]).length = Ng.length := by
  unfold L2.start
  simp
  omega
theorem tr_gives (hd : B.D = D) (ok : DOk B) (hK : X.K = B.bs.S.K) (hmg : X.mg = B.bs.mg) (S : FnScope Ng [a] sg) (h0 : Ng[0]? = some a) (h : TrB D ⟨Ng, sg, none⟩ a bg t) : LamX.GivesTo X Ng x sg g cdg bg a q (TTr B t) := by
  intro f c' s H Q tl act hc hT
  cases h with
  | one h1 h2 h3 h4 h5 h6 =>
    rename_i y j init h₀ hds hs iv p1 p2 p3 p4 p5 p6 p7 p8
    let Z : Cx := (cxOf C8.CX0 X.prog X.w X.K X.mg X.base Ng x sg g cdg X.A X.stack s H C8.E0).nox
    have ow : OkW B D ⟨Ng, sg, none⟩ Z := ⟨hd, ok, hK, hmg, rfl, S.nd, fun _ z => z, fun _ z => z⟩
    obtain ⟨m, w⟩ := hd_ok (E := fun _ _ _ => False) ow h6
    have hl : sg.names.lookup y = some .local := kindIs_ok h2
    have lt1 : 1 ≤ Ng.length := by
      have z := (List.getElem?_eq_some_iff.mp h0).1
      omega
    have ltj : j < Ng.length := (List.getElem?_eq_some_iff.mp h1).1
    have ptry : PS Z (.Try [.Expr (.Call (.Name a p3) [] [] p4) p5] (h₀ :: hds) [] [] p6) _ := ps_try_mix (X := Z) rfl rfl S.nd LamX.takes0 (tb := fun W D' σ H' => σ[0]? = some (some (.ref f)) ∧ H' c' = some (LamX.CodeO c' q) ∧ tl (fun cls d H => ∀ σ, W cls d σ H) H' (fun _ H1 => D'.nx σ H1)) (fun W pn xe tk _ => by
      refine PSs.imp (pss_one (ps_expr (act W pn xe (fun cls d H => ∀ σ, W cls d σ H) p3 p4 tk fun cls d σ' H' z => z σ'))) fun D' σ H' z => z) m
    have pret : PSs Z [.Return (some (.Name y p7)) p8] _ := pss_one (ps_ret (pe_var (X := Z) (i := j) h1 (.inl hl) (okName_d h3).1 (okName_d h3).2))
    have fin : ∀ iv' H1, iniOk iv H iv' H1 → H1 c' = some (LamX.CodeO c' q) → ((L2.start Ng [V.ref f]).set j (some iv'))[0]? = some (some (.ref f)) ∧ H1 c' = some (LamX.CodeO c' q) ∧ tl (fun cls d H' => ∀ σ', wMix X.K Ng.length (fun _ _ _ _ => False) (dQ j Q) (hdL B hs) cls d σ' H') H1 (fun _ H2 => (dQ j Q).nx ((L2.start Ng [V.ref f]).set j (some iv')) H2) := fun iv' H1 hi hc1 => by
      refine ⟨by rw [List.getElem?_set_ne h4]; rfl, hc1, ?_⟩
      have z := hT iv' H1 hi
      rw [hK]
      have e : (fun (_ : V) (H2 : Hp) => (dQ j Q).nx ((L2.start Ng [V.ref f]).set j (some iv')) H2) = okK ⟨Ng.length, j, none, iv, hs⟩ iv' Q := by
        funext v H2
        show (∃ u, ((L2.start Ng [V.ref f]).set j (some iv'))[j]? = some (some u) ∧ Q u H2) = Q iv' H2
        rw [List.getElem?_set_self (by rw [start_len lt1]; exact ltj)]
        refine propext ⟨fun ⟨u, e, q⟩ => ?_, fun q => ⟨iv', rfl, q⟩⟩
        cases e
        exact q
      rw [e]
      exact z
    have hxl : Loc Z.env.scope y := .inl hl
    split at h5
    · subst h5
      refine ⟨_, pss_cons (ps_set (X := Z) S.nd h1 hxl pe_non rfl (.inr hl)) (pss_cons ptry pret), ?_⟩
      exact fin .non H ⟨rfl, rfl⟩ hc
    · subst h5
      refine ⟨_, pss_cons (ps_set (X := Z) S.nd h1 hxl (pe_tup pa_nil) rfl (.inr hl)) (pss_cons ptry pret), ?_⟩
      refine ⟨by decide, fun p np => ?_⟩
      exact fin (.ref p) (upd H p (.tup [])) ⟨p, np, rfl, rfl⟩ (by rw [upd_ne (ne_of_none hc np)]; exact hc)
    · exact h5.elim
end
/-! in place -/
theorem Rep.extN {S : Sc} {ρ : Rho} {h : Hh} {H H' : Hp} (R : Rep S ρ h H) (k : LamX.ExtN H H') (fo : S.Φ h.cnt H') : Rep S ρ h H' where
  cell := fun l c q => by
    obtain ⟨a, q1, q2⟩ := R.cell l c q
    refine ⟨a, q1, q2.stay ⟨fun _ _ z => z, fun b vs z => ?_, fun b o u z => k _ _ z nofun⟩ fun b u z zz => k b u z ?_⟩
    · rcases z with (z | ⟨ob, z⟩) | z
      · exact .inl (.inl (k _ _ z nofun))
      · exact .inl (.inr ⟨ob, k _ _ z nofun⟩)
      · exact .inr z
    · rcases zz with zz | ⟨φ, zz⟩
      · rw [zz] at z
        exact COk.noTbl q2 z
      · rw [zz]; nofun
  dom := R.dom
  inj := R.inj
  fresh := R.fresh
  fo := fo
  foF := R.foF
theorem Ext.extN {S : Sc} {ρ : Rho} {H H' : Hp} (k : LamX.ExtN H H') : Ext S ρ H ρ H' := ⟨fun _ _ z => z, fun b vs z => by
  rcases z with (z | ⟨ob, z⟩) | z
  · exact .inl (.inl (k _ _ z nofun))
  · exact .inl (.inr ⟨ob, k _ _ z nofun⟩)
  · exact .inr z, fun b o u z => k _ _ z nofun⟩
theorem lamS_of {B : Bs} {k : Nat} {c : Cc} {X : Cx} {E : XK} (O : Ok B k c X E) {scope : Scope} (h : LamX.lamSB c.sc scope = true) : LamX.LamS X.env.scope scope := by
  have L := LamX.lamS_by h
  refine ⟨L.kind, L.co, L.gen, L.own, fun y hy e => ?_⟩
  rcases L.free y hy e with z | z
  · exact .inl (O.cell _ z).1
  · exact O.free _ z
theorem ok_lam {B : Bs} {k m : Nat} {c : Cc} {X : Cx} {E E' : XK} (O : Ok B m c X E) {scope : Scope} {A : Around} {outer : List Env} {s : Shared} {H : Hp} {f c' : Addr} (L : LamX.LamS X.env.scope scope) (hr : Room k (A.deeper (LamX.lamEnv X scope s.heap.objs.size f c'))) (h2 : 2 ≤ k) :
    Ok B k ⟨c.N, scope, none⟩ (LamX.lamCx X A outer s H E' scope f c') E' where
  P := O.P
  w := O.w
  K := O.K
  mg := O.mg
  bs := O.bs
  N := O.N
  nd := O.nd
  calm := rfl
  room := hr
  r2 := hr.mono h2
  pass := passes_call (takes_of (X := LamX.lamCx X A outer s H E' scope f c') (E := E') rfl rfl rfl rfl) fun _ _ _ _ h => h
  tk := takes_of (X := LamX.lamCx X A outer s H E' scope f c') (E := E') rfl rfl rfl rfl
  own := passes_of (X := LamX.lamCx X A outer s H E' scope f c') rfl
  loc := fun _ h => h
  cell := fun x h => absurd rfl (L.own _ (PySem.mem_of_lookup h)).2
  free := fun _ h => .inr h
  gi := fun _ h => h
  qual := fun q h => nomatch h
theorem all_tried {xm : List (List (Option Bool))} {fl : List (Option Str)} {t : TrD} {P : A → Hh → Prop} {Y : Nat → List (Str × A) → Hh → Prop} : ∀ {m : Out A}, (Out.rec (motive := fun _ => Out A) (fun a h => .ok (okv t a) h) (fun C fs h => finish t.j (catchQ xm fl t.n t.hs C fs h)) .bad (fun n _ ih => .pick n ih) m : Out A).All P Y → m.All (fun a h => P (okv t a) h) (fun C fs h => (finish t.j (catchQ xm fl t.n t.hs C fs h)).All P Y)
  | .ok _ _, q => q
  | .exc _ _ _, q => q
  | .bad, q => q
  | .pick _ _, q => fun r hr => all_tried (q r hr)
theorem all_finish {S : Sc} {ρ : Rho} {H : Hp} {j : Nat} {Q : VK} {E : XK} : ∀ {m : Out Fl}, (finish j m).All (QW S ρ H Q) (XW S ρ H E) → m.All (FW S ρ H (dQ j Q)) (XW S ρ H fun _ _ _ => False)
  | .ok f h, q => by
    cases f with
    | nx s =>
      obtain ⟨v, e, q1⟩ := opt_all (show (opt (slot s j) fun v => (Out.ok v h : Out A)).All (QW S ρ H Q) (XW S ρ H E) from q)
      intro ρ' H' e1 R1 σ rs
      obtain ⟨u, e2, ru⟩ := rs.2 j v (slot_ok e)
      exact ⟨u, e2, q1 ρ' H' u e1 R1 ru⟩
    | rt a => exact fun ρ' H' e1 R1 v rv => q ρ' H' v e1 R1 rv
    | bk s => exact q.elim
    | ct s => exact q.elim
  | .exc _ _ _, q => q.elim
  | .bad, q => q
  | .pick _ _, q => fun r hr => all_finish (q r hr)
def lamA : Arguments := ⟨[], [], none, [], [], none, []⟩
section
variable {D : DTb} {c : Cc}
theorem s_tried {x q : Str} {t : TrD} {body : Expr} {scope : Scope} {d : Den} {p lpos pos : Pos} (hq : c.q = some q) (h1 : kindIs c.sc x .globalImplicit = true) (h2 : D.tr.lookup x = some t) (h3 : okName x = true) (h4 : LamX.lamSB c.sc scope = true) (hb : SE D ⟨c.N, scope, none⟩ body d) :
    SE D c (.Call (.Name x p) [.Lambda lamA body scope lpos] [] pos) (xTried D.xm D.tb.kit.fld t d) := plE rfl fun {B k call X E} s => by
  obtain ⟨g, pg, bg, sg, dV, kV, doc, pm, cdv, ct, oc, an, od, osl, Ng, a, T⟩ := s.ok.tr x t (by rw [s.d]; exact h2)
  obtain ⟨eq, ca, P, hcode, TB, hm, hu⟩ := s.o.qual q hq
  have L := lamS_of s.o h4
  obtain ⟨hk1, hr⟩ : 1 ≤ k ∧ Room (k + 1 + 2) X.A := s.rm (by rw [hq]; rfl)
  rw [← eq] at hm hu
  have G := tr_gives (X := X) (x := x) (g := g) (cdg := cdv) (q := X.env.qual ++ "<lambda>") (hd := s.d) s.ok s.o.K s.o.mg T.S T.n0 (by have z := T.body; rw [s.d] at z; exact z)
  refine PE.imp (LamX.pe_lamcall (k := k + 1) (T := B.bs.tabs) (t := fun E' => tE B.bs.S E' (d call)) (s.o.gl h1) (by rw [s.o.mg]; exact T.mg) (by rw [s.o.K]; exact T.keep) (by rw [s.o.K]; exact T.lk) (by rw [s.o.K]; exact T.code) (by rw [s.o.K]; exact T.b) T.S T.n0 (by
      have z := T.vis
      unfold visB at z
      rw [Bool.or_eq_true, Bool.or_eq_true] at z
      rcases z with (z | z) | z
      · exact .inl (kindIs_ok z)
      · exact .inr (.inl (kindIs_ok z))
      · exact .inr (.inr (kindIs_ok z))) G TB hcode hm hu hr L rfl (fun _ _ _ _ _ => rfl) (fun A outer s' H' E' f c' hr' => (hb ⟨s.d, s.ok, s.cl, ok_lam s.o L hr' (Nat.succ_le_succ hk1), fun z => nomatch z⟩).1) (okName_d h3).1 (okName_d T.ok).1 (okName_d T.ok).2) fun σ H Q z => ?_
  obtain ⟨ρ, h, sl, R, rs, z⟩ := z
  refine ⟨s.ok.bo.tabs _ H R.fo, fun H1 eN T1 => ?_⟩
  have R1 : Rep B.bs.S ρ h H1 := Rep.extN R eN (s.ok.bo.lamF _ H H1 R.fo eN T1)
  have e1 : Ext B.bs.S ρ H ρ H1 := Ext.extN eN
  intro iv H2 hi
  have key : Rep B.bs.S ρ h H2 ∧ Ext B.bs.S ρ H1 ρ H2 ∧ Rel B.bs.S ρ H2 t.iv iv := by
    unfold iniOk at hi
    split at hi
    · rename_i e
      obtain ⟨rfl, rfl⟩ := hi
      exact ⟨R1, Ext.refl, by rw [e]; rfl⟩
    · rename_i e
      obtain ⟨p, np, rfl, rfl⟩ := hi
      exact ⟨R1.more np, Ext.more np, by rw [e]; exact ⟨p, [], rfl, .inl (.inl upd_same), rfl⟩⟩
    · exact hi.elim
  obtain ⟨R2, e2, ri⟩ := key
  have e02 := e1.trans e2
  refine ⟨ρ, h, sl, R2, rs.mono e02, (all_tried z).mono (fun v h' y => ?_) fun C fs h' y => ?_⟩
  · intro ρ' H' u e3 R3 ru
    show okK t iv Q u H'
    unfold okK
    have y : QW B.bs.S ρ H Q (okv t v) h' := y
    unfold okv at y
    cases et : t.tag with
    | none =>
      rw [et] at y
      exact y ρ' H' iv (e02.trans e3) R3 (ri.mono e3)
    | some g =>
      rw [et] at y
      intro p np
      exact y ρ' _ _ ((e02.trans e3).trans (Ext.more np)) (R3.more np) ⟨p, _, rfl, .inl (.inl upd_same), _, _, rfl, rfl, _, _, rfl, ru.mono (Ext.more np), rfl⟩
  · intro ρ' H' Ca d' e3 R3 hG xd σ'
    have ow : OkW B D ⟨Ng, sg, none⟩ ({ X with N := Ng, env := { X.env with scope := sg } } : Cx) := ⟨s.d, s.ok, s.o.K, s.o.mg, rfl, T.S.nd, fun _ z => z, fun _ z => z⟩
    have hb := T.body
    rw [s.d] at hb
    have w : ∃ hds, HdR D ⟨Ng, sg, none⟩ hds t.hs ∧ t.n = Ng.length := by
      cases hb with
      | one _ _ _ _ _ h6 => exact ⟨_, h6, rfl⟩
    obtain ⟨hds, w1, w2⟩ := w
    have w3 := (hd_ok (E := fun _ _ _ => False) ow w1).2 (dQ t.j Q) ρ H C fs h' (by rw [← w2]; exact all_finish y) ρ' H' Ca d' (e02.trans e3) R3 hG xd σ'
    rw [w2]
    rw [← s.o.K]
    exact w3
end
end
end DV
set_option Elab.async false
set_option linter.all false
set_option maxRecDepth 100000
set_option maxHeartbeats 4000000
namespace ER
open PySem PySem.Spec PyProof.Rows L2
section
variable {X : Cx}
/-- the end of C(): the exception is let go; it has no dict -/
theorem mk_nod {pins : List (Addr × Obj)} {σ : L2.St} {H1 H2 : Hp} {hp hp2 h2 : Heap} {g1 g2 : Array GenState} {d1 d2 : Drawn} {t1 t2 : Nat} {os1 os2 : OsState} {a C : Addr} (I1 : Inv X pins σ H1 ⟨hp, g1, d1, t1, os1⟩)
    (ha : hp.objs.size ≤ a) (k : ∀ b o, hp.get? b = some o → hp2.get? b = some o) (un : Un (frs X.stack) [] (upd H1 a (exo a C none)) H2 hp2 h2) (hok : HOk X.prog X.w H2 h2) (ho : os2 = os1) (hb : AllBare g2)
    (ea : H2 a = some (exo a C none)) :
    ∃ (t0 : Addr) (G : Heap), Inv X pins σ (del H2 a) ⟨G, g2, d2, t2, os2⟩ ∧ (∀ b o, G.get? b = some o → h2.get? b = some o) ∧ G.get? a = none ∧
      h2.get? a = some ({ cls := .ref C, dict := none, data := .fields #[.ref t0, .none, .none, .none, .bool false, .none] } : Obj) := by
  obtain ⟨t0, hoe⟩ := exo_at hok ea
  have hn : H1 a = none := I1.hok.fresh ha
  obtain ⟨G, g1', g2'⟩ := restrict h2 fun b => decide (b ≠ a)
  have gk : ∀ b, b ≠ a → G.get? b = h2.get? b := fun b hb => g1' b (decide_eq_true hb)
  have ge : G.get? a = none := g2' a (by simp)
  have nha : ∀ {b : Addr} {o : Obj}, hp.get? b = some o → b ≠ a := fun {b o} z => Nat.ne_of_lt (Nat.lt_of_lt_of_le (Heap.lt_size z) ha)
  have up : ∀ {b : Addr}, b ≠ a → H1 b = none → upd H1 a (exo a C none) b = none := fun {b} hb n => by rw [upd_ne hb]; exact n
  have U : Un (frs X.stack) [] H1 (del H2 a) hp G := {
    keep := fun b o z n hf hx => by
      rw [gk b (nha z)]
      exact un.keep b o (k b o z) (up (nha z) n) hf hx
    slot := fun b o z n hf hx => by
      rw [gk b (nha z)]
      exact un.slot b o (k b o z) (up (nha z) n) hf hx
    free := fun b o z n hx => by
      rw [del_ne (nha z)]
      exact un.free b o (k b o z) (up (nha z) n) hx
    there := fun b o z hx => by
      rw [gk b (nha z)]
      exact un.there b o (k b o z) hx
    tups := fun b xs z => by
      rw [del_ne (ne_of_none z hn)]
      exact un.tups b xs (by rw [upd_ne (ne_of_none z hn)]; exact z)
    frzs := fun b o v z => by
      rw [del_ne (ne_of_none z hn)]
      exact un.frzs b o v (by rw [upd_ne (ne_of_none z hn)]; exact z)
    tbls := fun b ps z => by
      rw [del_ne (ne_of_none z hn)]
      exact un.tbls b ps (by rw [upd_ne (ne_of_none z hn)]; exact z) }
  have hok3 : HOk X.prog X.w (del H2 a) G := fun b o z => by
    have hba : b ≠ a := fun e => by
      rw [e, del_same] at z
      cases z
    rw [del_ne hba] at z
    have noa : ∀ {c : Addr}, H2 c = some (.own b) → c ≠ a := fun {c} hc => at_ne ea hc exo_own
    exact (hok b o z).stay (fun c v hc y => by
        have hca : c ≠ a := by
          rcases hc with hc | hc
          · rw [hc]
            exact hba
          · exact noa hc
        rw [gk c hca]
        exact y)
      (fun c hc => by rw [del_ne (noa hc)]; exact hc) (fun c xs hc => by rw [del_ne (at_ne ea hc exo_tup)]; exact hc)
  have J : Inv X pins σ (del H2 a) ⟨G, g2, d2, t2, os2⟩ := I1.call' (ch := []) ho U hok3 hb (fun b z => absurd z (by simp))
  refine ⟨t0, G, J, fun b o z => ?_, ge, hoe⟩
  by_cases hba : b = a
  · rw [hba, ge] at z
    cases z
  · exact (gk b hba).symm.trans z
variable {C fI : Addr} {fd : FuncData} {x : Str} {p pos : Pos}
theorem pmk_err0 (T : Err0Ok X.prog X.w X.K X.mg X.base C fI fd) (hr : Room 2 X.A) (hg : Gl X x) (hm : X.mg x = some (.ref C)) (hdb : (x == ("__debug__" : Str)) = false) : PMk X (.Call (.Name x p) [] [] pos) (fun _ H Q => Q (.ref C) none H) := by
  intro pins s σ H Q I h
  refine wpAny_Call_Name_kw (ld_glob I hg hm ?_ hdb)
  refine PySem.W.callWith_K0 I.kIn T.T.kC ?_
  obtain ⟨nm, q, N, bs, bm, sn, sub, ab, col, dd, k0, k1, k2, k3, k5, hC, hbm⟩ := T.T.cls
  obtain ⟨hp, g, dr, tk, os⟩ := s
  have hsz : hp.objs.size ≤ hp.objs.size + 1 := Nat.le_succ _
  have hn : H (hp.objs.size + 1) = none := I.hok.fresh hsz
  have kk : ∀ b o, hp.get? b = some o → ((hp.push (PySem.W.kdv_tup [])).push (PySem.HandSPX.excO C hp.objs.size)).get? b = some o := fun b o e => Heap.get?_push_of_some _ (Heap.get?_push_of_some _ e)
  have hget : ((hp.push (PySem.W.kdv_tup [])).push (PySem.HandSPX.excO C hp.objs.size)).get? (hp.objs.size + 1) = some (PySem.HandSPX.excO C hp.objs.size) := by heap_get
  have I2 : Inv X pins σ (upd H (hp.objs.size + 1) (exo (hp.objs.size + 1) C none)) ⟨(hp.push (PySem.W.kdv_tup [])).push (PySem.HandSPX.excO C hp.objs.size), g, dr, tk, os⟩ :=
    I.laid (t' := tk) (a := hp.objs.size + 1) (o := exo (hp.objs.size + 1) C none) (h' := (hp.push (PySem.W.kdv_tup [])).push (PySem.HandSPX.excO C hp.objs.size)) kk hsz (exo_ok hget)
  have r2 : Vals [V.ref (hp.objs.size + 1)] [Value.ref (hp.objs.size + 1)] := .cons rfl .nil
  have eH : del (upd H (hp.objs.size + 1) (exo (hp.objs.size + 1) C none)) (hp.objs.size + 1) = H := by
    funext b
    by_cases hb : b = hp.objs.size + 1
    · subst hb; rw [del_same, hn]
    · rw [del_ne hb, upd_ne hb]
  refine wpAny_call ?_
  refine PySem.HandSPX.call_own (rest := []) F.excBase_ValueError (fun Y => PySem.HandSPX.refsVE_contains Y bm hbm) (I.kIn _ _ hC) (PySem.W.looks_findIn I.kIn T.init) (fun self => PySem.W.bind_fn I.kIn self T.tI) (Nat.zero_le _)
    (codeAny_mono ((T.F CX0).run _ X.stack _ _ ⟨[.ref (hp.objs.size + 1)], []⟩ [.ref (hp.objs.size + 1)] [.ref (hp.objs.size + 1)] (fun v' H2 => v' = .non ∧ H2 = upd H (hp.objs.size + 1) (exo (hp.objs.size + 1) C none)) (fun _ _ _ => False) (hr.make C [] []) (I2.env0.make C [] []) (T.b _ _) r2
      ⟨hp.objs.size + 1, rfl, upd_same, rfl, rfl⟩) fun r s' hq' => ?_)
  cases r with
  | error er => exact False.elim hq'
  | ok fl =>
    cases fl with
    | ret u =>
      obtain ⟨v, H2, os2, bare2, un2, hok2, rv, ev, e2⟩ := hq'
      subst ev
      obtain ⟨h2, g2, d2, t2, os'⟩ := s'
      subst e2
      obtain ⟨t0, G, J, kG, ge, hoe⟩ := mk_nod (d2 := d2) (t2 := t2) I hsz kk un2 hok2 os2 bare2 upd_same
      rw [eH] at J
      exact ⟨rv, hp.objs.size + 1, _, _, ⟨G, g2, d2, t2, os'⟩, H, .ref C, none, rfl, J, kG, ge, hoe, ⟨rfl, rfl⟩, rfl, rfl, hn, rfl, bare2, raises_own T.T.exC T.T.tyC, h⟩
    | next => exact False.elim hq'
    | brk => exact False.elim hq'
    | cont => exact False.elim hq'
end
end ER
namespace DV
open PySem PySem.Spec PyProof.Rows L2 ER EV
noncomputable section
def sRz0 (C : Nat) : Dst := fun _ _ h => .exc C [] h
theorem s_rz0 {D : DTb} {c : Cc} {f : Str} {C : Nat} {p pos rp : Pos} (h1 : kindIs c.sc f .globalImplicit = true) (h2 : D.tb.gl.lookup f = some (.err0 C)) (h3 : okName f = true) : SS D c (.Raise (some (.Call (.Name f p) [] [] pos)) none rp) (sRz0 C) := fun {B k call X E} s => by
  obtain ⟨Ca, fI, fd, hG, hm, T⟩ := s.ok.bo.err0 f C (by rw [s.ok.tb, s.d]; exact h2)
  have T' : Err0Ok X.prog X.w X.K X.mg X.base Ca fI fd := by rw [s.o.P, s.o.w, s.o.K, s.o.mg, s.o.bs]; exact T
  refine PS.imp (ps_raise s.o.calm s.o.tk (pmk_err0 T' s.o.r2 (s.o.gl h1) (by rw [s.o.mg]; exact hm) (okName_d h3).1)) fun D' σ H q => ?_
  obtain ⟨ρ, h, sl, R, rs, q⟩ := q
  exact q ρ H Ca none Ext.refl R hG (.inl ⟨rfl, rfl⟩)
end
end DV
set_option Elab.async false
set_option linter.all false
set_option maxRecDepth 100000
set_option maxHeartbeats 4000000
namespace DV
open PySem PySem.Spec PyProof.Rows L2 ER EV
noncomputable section
/-! ### xs != [], xs == [] whatever the items are -/
def rLenNe : R2 := fun x y H Q => ∃ a b xs, x = .ref a ∧ y = .ref b ∧ H a = some (.lst xs) ∧ H b = some (.lst []) ∧ Q (.bl (!xs.isEmpty)) H
def rLenEq : R2 := fun x y H Q => ∃ a b xs, x = .ref a ∧ y = .ref b ∧ H a = some (.lst xs) ∧ H b = some (.lst []) ∧ Q (.bl xs.isEmpty) H
theorem op_neNil {X : Cx} (hu : X.A.units < cLine) : OpR X (compareOp .NotEq) rLenNe := by
  intro pins s σ H x y v u Q I rx ry h
  obtain ⟨a, b, xs, rfl, rfl, ha, hb, q⟩ := h
  cases (show v = Value.ref a from rx)
  cases (show u = Value.ref b from ry)
  obtain ⟨us, r1, p1, _⟩ := I.list (SqL.of ha)
  obtain ⟨ws, r2, p2, _⟩ := I.list (SqL.of hb)
  cases r2
  cases r1 with
  | nil => exact (SeqAt.RcNeAt.lists (e := fun _ => true) p1.isList p2.isList rfl hu fun j h1 _ => absurd h1 (Nat.not_lt_zero j)) _ _ _ _ ⟨.bl false, H, I, rfl, q⟩
  | cons h1 h2 => exact (SeqAt.RcNeAt.lists_lengths p1.isList p2.isList (by simp) hu) _ _ _ _ ⟨.bl true, H, I, rfl, q⟩
def dNeN (a b : A) (h : Hh) : Out A := lstK a h fun _ xs => lstK b h fun _ ys => List.rec (motive := fun _ => Out A) (List.rec (motive := fun _ => Out A) (.ok (.bl false) h) (fun _ _ _ => .ok (.bl true) h) xs) (fun _ _ _ => .bad) ys
theorem dNeN_ok {B : DBs} {E : XK} : Leaf2 B.bs.S E dNeN rLenNe := by
  intro ρ h H a b v w Q R ra rb q
  obtain ⟨l, xs, rfl, e1, q1⟩ := lstK_all q
  obtain ⟨m, ys, rfl, e2, q2⟩ := lstK_all q1
  obtain ⟨p, us, rfl, _, hs, rs⟩ := lst_at R ra e1
  obtain ⟨p', us', rfl, _, hs', rs'⟩ := lst_at R rb e2
  cases ys with
  | cons _ _ => exact q2.elim
  | nil =>
    rw [show us' = [] from rs'] at hs'
    refine ⟨p, p', us, rfl, rfl, hs, hs', ?_⟩
    cases xs with
    | nil =>
      rw [show us = [] from rs]
      exact q2 ρ H _ Ext.refl R rfl
    | cons x xs =>
      obtain ⟨v, r, e, _⟩ := rs
      rw [e]
      exact q2 ρ H _ Ext.refl R rfl
section
variable {D : DTb} {c : Cc}
theorem s_neN {a b : Expr} {x y : Den} {pos : Pos} (hm : behindInMarks .NotEq b = false) (ha : SE D c a x) (hb : SE D c b y) : SE D c (.Compare a [.NotEq] [b] pos) (x2 dNeN x y) := fun s => by
  have ho : OpR _ (compareOp .NotEq) rLenNe := op_neNil (Nat.lt_of_le_of_lt (Nat.le_add_right _ 65) s.hu)
  exact ⟨PE.imp (pe_cmpR ho (ha s).1 (hb s).1 hm) fun σ H Q q => two dNeN_ok q, PT.imp (pt_cmpR ho (ha s).1 (hb s).1 hm) fun σ H Q q => two dNeN_ok (tT_E (B := _) q)⟩
/-! ### {} that stays as it is -/
def xDct0 : Den := fun _ _ h => newH h (.dct []) fun l h => .ok (.loc l) h
theorem s_dct0 {pos : Pos} : SE D c (.Dict [] [] pos) xDct0 := plE rfl fun {B k call X E} s => PE.imp (pe_frz pe_dnewK) fun σ H Q q => by
  obtain ⟨ρ, h, sl, R, rs, q⟩ := q
  have q : (newH h (.dct []) fun l h => (Out.ok (.loc l) h : Out A)).All (QW B.bs.S ρ H Q) (XW B.bs.S ρ H E) := q
  rw [newH_eq] at q
  intro a na
  refine ⟨a, _, rfl, upd_same, True.intro, fun od => ?_⟩
  rw [upd2]
  exact q _ _ _ (Ext.new R na) (R.new na ⟨od, [], upd_same, rfl⟩) ⟨a, by unfold rhoNew; rw [if_pos rfl], rfl⟩
/-! ### a, b = x, y -/
theorem sw2 {env : Env} {x y : Str} {px py pt p2 : Pos} {a b : Expr} {kt k2 : Nat} (hk : env.scope.kind = .function) (hx : env.scope.names.lookup x = some .local) (hy : env.scope.names.lookup y = some .local) (hxy : x ≠ y) (hl : (py.line == px.line) = true) (na : notStar a = true) (nb : notStar b = true)
    (h6 : [a, b].all (foldedForSure 8) = false) (h7 : [a, b].all (constantsAlone 8) = false) : swappedStores [.Tuple [.Name x px, .Name y py] kt pt] (.Tuple [a, b] k2 p2) env = pure (some [x, y]) := by
  have hb : (env.blockKind != .function) = false := by
    unfold Env.blockKind
    rw [hk]
    rfl
  have kx : env.kindOf x = some .local := hx
  have ky : env.kindOf y = some .local := hy
  unfold swappedStores
  have hl' : py.line = px.line := eq_of_beq hl
  simp only [List.length_cons, List.length_nil, hb, Nat.zero_add, Nat.reduceAdd, beq_self_eq_true, Bool.true_or, Bool.not_true, bne_self_eq_false, Bool.or_self, Bool.or_false, Bool.false_or, Bool.false_eq_true, if_false, pure_bind]
  refine (if_neg ?_).trans ?_
  · intro h
    simp only [List.any_cons, List.any_nil, Bool.or_false, Bool.or_eq_true] at h
    rcases h with h | h
    · cases a <;> first | (cases h; done) | (cases na; done)
    · cases b <;> first | (cases h; done) | (cases nb; done)
  · have e1 : (([Expr.Name x px, Expr.Name y py].filterMap fun
        | .Name id pos => if env.kindOf id == some .local && pos.line == (([Expr.Name x px, Expr.Name y py].head?.map (·.pos.line)).getD 0) then some id else none
        | _ => none)) = [x, y] := by
      simp [kx, ky, Expr.pos, hl']
    have e2 : [x, y].eraseDups = [x, y] := by
      simp [List.eraseDups_cons, List.filter_cons, hxy, Ne.symm hxy]
    refine (if_neg ?_).trans ?_
    · intro h
      erw [e1] at h
      rw [e2] at h
      simp at h
    · rw [h6, h7]
      simp only [Bool.false_eq_true, if_false, pure_bind]
      erw [e1]
theorem sw3 {env : Env} {x y z : Str} {px py pz pt p2 : Pos} {a b d : Expr} {kt k2 : Nat} (hk : env.scope.kind = .function) (hx : env.scope.names.lookup x = some .local) (hy : env.scope.names.lookup y = some .local) (hz : env.scope.names.lookup z = some .local) (hxy : x ≠ y) (hxz : x ≠ z) (hyz : y ≠ z) (hl : (py.line == px.line) = true) (hl2 : (pz.line == px.line) = true) (na : notStar a = true) (nb : notStar b = true) (nd : notStar d = true)
    (h6 : [a, b, d].all (foldedForSure 8) = false) (h7 : [a, b, d].all (constantsAlone 8) = false) : swappedStores [.Tuple [.Name x px, .Name y py, .Name z pz] kt pt] (.Tuple [a, b, d] k2 p2) env = pure (some [x, y, z]) := by
  have hb : (env.blockKind != .function) = false := by
    unfold Env.blockKind
    rw [hk]
    rfl
  have kx : env.kindOf x = some .local := hx
  have ky : env.kindOf y = some .local := hy
  have kz : env.kindOf z = some .local := hz
  unfold swappedStores
  have hl' : py.line = px.line := eq_of_beq hl
  have hl'' : pz.line = px.line := eq_of_beq hl2
  simp only [List.length_cons, List.length_nil, hb, Nat.zero_add, Nat.reduceAdd, beq_self_eq_true, Bool.true_or, Bool.or_true, Bool.not_true, bne_self_eq_false, Bool.or_self, Bool.or_false, Bool.false_or, Bool.false_eq_true, if_false, pure_bind]
  refine (if_neg ?_).trans ?_
  · intro h
    simp only [List.any_cons, List.any_nil, Bool.or_false, Bool.or_eq_true] at h
    rcases h with h | h | h
    · cases a <;> first | (cases h; done) | (cases na; done)
    · cases b <;> first | (cases h; done) | (cases nb; done)
    · cases d <;> first | (cases h; done) | (cases nd; done)
  · have e1 : (([Expr.Name x px, Expr.Name y py, Expr.Name z pz].filterMap fun
        | .Name id pos => if env.kindOf id == some .local && pos.line == (([Expr.Name x px, Expr.Name y py, Expr.Name z pz].head?.map (·.pos.line)).getD 0) then some id else none
        | _ => none)) = [x, y, z] := by
      simp [kx, ky, kz, Expr.pos, hl', hl'']
    have e2 : [x, y, z].eraseDups = [x, y, z] := by
      simp [List.eraseDups_cons, List.filter_cons, hxy, Ne.symm hxy, hxz, Ne.symm hxz, hyz, Ne.symm hyz]
    refine (if_neg ?_).trans ?_
    · intro h
      erw [e1] at h
      rw [e2] at h
      simp at h
    · rw [h6, h7]
      simp only [Bool.false_eq_true, if_false, pure_bind]
      erw [e1]
/-- the first name is captured: a tuple is made -/
theorem swC {env : Env} {x : Str} {px pt p2 : Pos} {ts es : List Expr} {kt k2 : Nat} (hx : env.scope.names.lookup x = some .cell) : swappedStores [.Tuple (.Name x px :: ts) kt pt] (.Tuple es k2 p2) env = pure none := by
  have kx : env.kindOf x = some .cell := hx
  unfold swappedStores
  simp only [pure_bind]
  split
  · rfl
  · split
    · rfl
    · refine if_pos ?_
      rw [Bool.or_eq_true]
      refine .inl ?_
      rw [List.filterMap_cons]
      simp only [kx]
      have hle := fun (f : Expr → Option Str) => List.length_filterMap_le f ts
      rw [bne_iff_ne, List.length_cons]
      intro h
      rw [show (some NameKind.cell == some NameKind.local) = false from rfl] at h
      simp only [Bool.false_and, Bool.false_eq_true, if_false] at h
      exact absurd (Nat.le_trans (Nat.le_of_eq h.symm) (hle _)) (by omega)
def twoK (as : List A) (k : A → A → Out Fl) : Out Fl := List.rec (motive := fun _ => Out Fl) .bad (fun a r _ => List.rec (motive := fun _ => Out Fl) .bad (fun b r _ => List.rec (motive := fun _ => Out Fl) (k a b) (fun _ _ _ => .bad) r) r) as
theorem twoK_all {as : List A} {k : A → A → Out Fl} {P : Fl → Hh → Prop} {X : Nat → List (Str × A) → Hh → Prop} (q : (twoK as k).All P X) : ∃ a b, as = [a, b] ∧ (k a b).All P X := by
  cases as with
  | nil => exact q.elim
  | cons a r => cases r with
    | nil => exact q.elim
    | cons b r => cases r with
      | nil => exact ⟨a, b, rfl, q⟩
      | cons _ _ => exact q.elim
def threeK (as : List A) (k : A → A → A → Out Fl) : Out Fl := List.rec (motive := fun _ => Out Fl) .bad (fun a r _ => List.rec (motive := fun _ => Out Fl) .bad (fun b r _ => List.rec (motive := fun _ => Out Fl) .bad (fun d r _ => List.rec (motive := fun _ => Out Fl) (k a b d) (fun _ _ _ => .bad) r) r) r) as
theorem threeK_all {as : List A} {k : A → A → A → Out Fl} {P : Fl → Hh → Prop} {X : Nat → List (Str × A) → Hh → Prop} (q : (threeK as k).All P X) : ∃ a b d, as = [a, b, d] ∧ (k a b d).All P X := by
  cases as with
  | nil => exact q.elim
  | cons a r => cases r with
    | nil => exact q.elim
    | cons b r => cases r with
      | nil => exact q.elim
      | cons d r => cases r with
        | nil => exact ⟨a, b, d, rfl, q⟩
        | cons _ _ => exact q.elim
def sPar (i j : Nat) (xs : Dar) : Dst := fun c s h => bnd (xs c s h) fun as h => twoK as fun a b => setK s a i fun s => setK s b j fun s => .ok (.nx s) h
def sPar3 (i j l : Nat) (xs : Dar) : Dst := fun c s h => bnd (xs c s h) fun as h => threeK as fun a b d => setK s a i fun s => setK s b j fun s => setK s d l fun s => .ok (.nx s) h
theorem s_par {x y : Str} {i j : Nat} {a b : Expr} {xs : Dar} {px py pt p2 pos : Pos} {kt k2 : Nat} (hi : c.N[i]? = some x) (hj : c.N[j]? = some y) (hij : i ≠ j) (hx : kindIs c.sc x .local = true) (hy : kindIs c.sc y .local = true) (hl : (py.line == px.line) = true) (na : notStar a = true) (nb : notStar b = true)
    (h6 : [a, b].all (foldedForSure 8) = false) (h7 : [a, b].all (constantsAlone 8) = false) (ha : SA D c [a, b] xs) : SS D c (.Assign [.Tuple [.Name x px, .Name y py] kt pt] (.Tuple [a, b] k2 p2) pos) (sPar i j xs) := fun {B k call X E} s => by
  have hN : X.N.Nodup := by rw [s.o.N]; exact s.o.nd
  have hi' : X.N[i]? = some x := by rw [s.o.N]; exact hi
  have hj' : X.N[j]? = some y := by rw [s.o.N]; exact hj
  have lx := s.o.loc x (kindIs_ok hx)
  have ly := s.o.loc y (kindIs_ok hy)
  have hxy : x ≠ y := fun e => hij (nodup_ix hN hi' (e ▸ hj'))
  refine ⟨fun pins sh σ H D' I h => (ps_par s.o.calm hN hi' hj' hij lx ly (ha s).1 (sw2 I.ok.kind lx ly hxy hl na nb h6 h7)).run pins sh σ H D' I ?_⟩
  obtain ⟨ρ, hh, sl, R, rs, q⟩ := h
  refine ⟨ρ, hh, sl, R, rs, gob q fun as h1 q1 ρ1 H1 vs e1 R1 rv => ?_⟩
  obtain ⟨a1, b1, rfl, q2⟩ := twoK_all q1
  rw [setK_eq, setK_eq] at q2
  obtain ⟨v, r, rfl, r1, w, r', rfl, r2, e⟩ := rv
  rw [show r' = [] from e]
  exact ⟨v, w, rfl, q2 ρ1 H1 e1 R1 _ (((rs.mono e1).set r1).set r2)⟩
theorem s_par3 {x y z : Str} {i j l : Nat} {a b d : Expr} {xs : Dar} {px py pz pt p2 pos : Pos} {kt k2 : Nat} (hi : c.N[i]? = some x) (hj : c.N[j]? = some y) (hl : c.N[l]? = some z) (hij : i ≠ j) (hil : i ≠ l) (hjl : j ≠ l) (hx : kindIs c.sc x .local = true) (hy : kindIs c.sc y .local = true) (hz : kindIs c.sc z .local = true) (hl1 : (py.line == px.line) = true) (hl2 : (pz.line == px.line) = true) (na : notStar a = true) (nb : notStar b = true) (nd : notStar d = true)
    (h6 : [a, b, d].all (foldedForSure 8) = false) (h7 : [a, b, d].all (constantsAlone 8) = false) (ha : SA D c [a, b, d] xs) : SS D c (.Assign [.Tuple [.Name x px, .Name y py, .Name z pz] kt pt] (.Tuple [a, b, d] k2 p2) pos) (sPar3 i j l xs) := fun {B k call X E} s => by
  have hN : X.N.Nodup := by rw [s.o.N]; exact s.o.nd
  have hi' : X.N[i]? = some x := by rw [s.o.N]; exact hi
  have hj' : X.N[j]? = some y := by rw [s.o.N]; exact hj
  have hl' : X.N[l]? = some z := by rw [s.o.N]; exact hl
  have lx := s.o.loc x (kindIs_ok hx)
  have ly := s.o.loc y (kindIs_ok hy)
  have lz := s.o.loc z (kindIs_ok hz)
  have hxy : x ≠ y := fun e => hij (nodup_ix hN hi' (e ▸ hj'))
  have hxz : x ≠ z := fun e => hil (nodup_ix hN hi' (e ▸ hl'))
  have hyz : y ≠ z := fun e => hjl (nodup_ix hN hj' (e ▸ hl'))
  refine ⟨fun pins sh σ H D' I h => (ps_par3 s.o.calm hN hi' hj' hl' hij hil hjl lx ly lz (ha s).1 (sw3 I.ok.kind lx ly lz hxy hxz hyz hl1 hl2 na nb nd h6 h7)).run pins sh σ H D' I ?_⟩
  obtain ⟨ρ, hh, sl, R, rs, q⟩ := h
  refine ⟨ρ, hh, sl, R, rs, gob q fun as h1 q1 ρ1 H1 vs e1 R1 rv => ?_⟩
  obtain ⟨a1, b1, d1, rfl, q2⟩ := threeK_all q1
  rw [setK_eq, setK_eq, setK_eq] at q2
  obtain ⟨v, r, rfl, r1, w, r', rfl, r2, u, r'', rfl, r3, e⟩ := rv
  rw [show r'' = [] from e]
  exact ⟨v, w, u, rfl, q2 ρ1 H1 e1 R1 _ ((((rs.mono e1).set r1).set r2).set r3)⟩
/-- a, b = x, y where a is captured -/
theorem s_asgTC {x : Str} {ts es : List Expr} {t : Tg} {g : TgD} {d : Den} {px pt p2 pos : Pos} {kt k2 : Nat} (hx : kindIs c.sc x .cell = true) (h3 : Ct c (.Tuple (.Name x px :: ts) kt pt) t) (hg : TgOk t g) (he : SE D c (.Tuple es k2 p2) d) : SS D c (.Assign [.Tuple (.Name x px :: ts) kt pt] (.Tuple es k2 p2) pos) (sAsg g d) := fun {B k call X E} s => by
  have hst : (assignEach [.Tuple (.Name x px :: ts) kt pt] X.env).map (·.2) = [assign (.Tuple (.Name x px :: ts) kt pt) X.env] := by rw [tg_star h3]; rfl
  have hsw : swapsWithSole [.Tuple (.Name x px :: ts) kt pt] (.Tuple es k2 p2) pos.line X.env = pure false := by rfl
  exact PS.imp (ps_asg (he s).1 (pg s.o t h3) hsw (swC (s.o.cell x (kindIs_ok hx)).1) hst) fun D σ H q => q_asg hg q
end
end
end DV
set_option Elab.async false
set_option linter.all false
set_option maxRecDepth 100000
set_option maxHeartbeats 4000000
namespace DV
open PySem PySem.Spec PyProof.Rows L2 ER EV
noncomputable section
/-! ### {k: v for t in it if c} -/
def evDcG (cf kf xf : Sl → Hh → Out A) (j : Jt) (t : Tg) (s : Sl) (d : Bn) : Nat → Nat → Hh → Out A
  | 0, _, _ => .bad
  | m + 1, i, h => match j.at i h with
    | none => .bad
    | some none => .ok (.loc d) h
    | some (some x) => match evTg t x s with
      | none => .bad
      | some s1 => (cf s1 h).nox.bind fun b h1 => match b with
        | .bl true => (kf s1 h1).nox.bind fun k h2 => (xf s1 h2).nox.bind fun y h3 => match h3.get d with
          | some (.dic acc) => match keyOf k with
            | some _ => if acc.length < lim then evDcG cf kf xf j t s d m (i + 1) (h3.put d (.dic (putKV k y acc))) else .bad
            | none => .bad
          | _ => .bad
        | .bl false => evDcG cf kf xf j t s d m (i + 1) h1
        | _ => .bad
def dcD (cf kf xf : Sl → Hh → Out A) (j : Jt) (g : TgD) (s : Sl) (d : Bn) (m : Nat) : Nat → Hh → Out A := Nat.rec (motive := fun _ => Nat → Hh → Out A) (fun _ _ => .bad) (fun _ ih i h => Option.rec (motive := fun _ => Out A) .bad (fun o => Option.rec (motive := fun _ => Out A) (.ok (.loc d) h) (fun x => g A x s fun s1 => bnd (noxQ (cf s1 h)) fun b h1 => blK b (bnd (noxQ (kf s1 h1)) fun k h2 => bnd (noxQ (xf s1 h2)) fun y h3 => dicC (getH h3 d) fun acc => opt (keyQ k) fun _ => lenK acc 0 fun n => Bool.rec (motive := fun _ => Out A) .bad (putQ k y acc fun z => putH h3 d (.dic z) fun h4 => frNat (Nat.succ i) fun i => ih i h4) (Nat.blt n lim)) (frNat (Nat.succ i) fun i => ih i h1)) o) (atJ j i h)) m
theorem dcD_eq {cf kf xf : Sl → Hh → Out A} {j : Jt} {t : Tg} {g : TgD} (hg : TgOk t g) (s : Sl) (d : Bn) : ∀ (m i : Nat) (h : Hh), dcD cf kf xf j g s d m i h = evDcG cf kf xf j t s d m i h
  | 0, _, _ => rfl
  | m + 1, i, h => by
    show Option.rec (motive := fun _ => Out A) .bad (fun o => Option.rec (motive := fun _ => Out A) (.ok (.loc d) h) (fun x => g A x s fun s1 => bnd (noxQ (cf s1 h)) fun b h1 => blK b (bnd (noxQ (kf s1 h1)) fun k h2 => bnd (noxQ (xf s1 h2)) fun y h3 => dicC (getH h3 d) fun acc => opt (keyQ k) fun _ => lenK acc 0 fun n => Bool.rec (motive := fun _ => Out A) .bad (putQ k y acc fun z => putH h3 d (.dic z) fun h4 => frNat (Nat.succ i) fun i => dcD cf kf xf j g s d m i h4) (Nat.blt n lim)) (frNat (Nat.succ i) fun i => dcD cf kf xf j g s d m i h1)) o) (atJ j i h) = _
    rw [atJ_eq]
    unfold evDcG
    cases e : j.at i h with
    | none => rfl
    | some o =>
      cases o with
      | none => rfl
      | some x =>
        show g A x s _ = _
        rw [hg]
        dsimp only
        cases evTg t x s with
        | none => rfl
        | some s1 =>
          dsimp only
          rw [bnd_eq, noxQ_eq]
          congr 1
          funext b h1
          cases b with
          | bl b =>
            cases b with
            | true =>
              show bnd (noxQ (kf s1 h1)) _ = _
              rw [bnd_eq, noxQ_eq]
              congr 1
              funext k h2
              rw [bnd_eq, noxQ_eq]
              congr 1
              funext y h3
              rw [getH_eq]
              cases h3.get d with
              | none => rfl
              | some ce =>
                cases ce with
                | dic acc =>
                  show opt (keyQ k) _ = _
                  rw [keyQ_eq]
                  dsimp only
                  cases keyOf k with
                  | none => rfl
                  | some kk =>
                    show lenK acc 0 _ = _
                    rw [lenK_eq, Nat.zero_add, bltN]
                    dsimp only
                    by_cases hl : acc.length < lim
                    · rw [if_pos hl, decide_eq_true hl]
                      show putQ k y acc _ = _
                      rw [putQ_eq, putH_eq, frNat_eq]
                      exact dcD_eq hg s d m (i + 1) _
                    · rw [if_neg hl, decide_eq_false hl]
                | _ => rfl
            | false =>
              show frNat (Nat.succ i) (fun i => dcD cf kf xf j g s d m i h1) = _
              rw [frNat_eq]
              exact dcD_eq hg s d m (i + 1) h1
          | _ => rfl
def xDc (kx x : Den) (g : TgD) (it : Dit) (cd : Den) (own : List Nat) : Den := fun c s h => bnd (it c s h) fun oj h => opt oj fun j => newH h (.dic []) fun d h => dcD (cd c) (kx c) (x c) j g (wipeQ s own) d turns 0 h
theorem q_dc {B : DBs} {E : XK} {call : Cl} {kx x cd : Den} {t : Tg} {g : TgD} {it : Dit} {own : List Nat} (hg : TgOk t g) (hs : ∀ i ∈ slotsT t, i ∈ own) {σ : L2.St} {H : Hp} {Q : VK} (q : tE B.bs.S E (xDc kx x g it cd own call) σ H Q) :
    tDc (iA B.bs.S E (it call)) (gTg B.bs.S t) (tT B.bs.S E0 (cd call)) (tE B.bs.S E0 (kx call)) (tE B.bs.S E0 (x call)) own σ H Q := by
  obtain ⟨ρ, h, s, Rp, rs, q⟩ := q
  refine ⟨ρ, h, s, Rp, rs, gob q fun oj h1 q1 ρ1 H1 e1 R1 => ?_⟩
  obtain ⟨j, rfl, q1a⟩ := opt_all q1
  rw [newH_eq, dcD_eq hg, wipeQ_eq] at q1a
  refine ⟨j, rfl, fun J hJ D hD => ?_⟩
  have eN : Ext B.bs.S ρ1 H1 (rhoNew ρ1 h1.nx D) (upd H1 D (.dK [])) := Ext.new R1 hD
  refine ⟨fun i m H' => ∃ ρ2 h2, Ext B.bs.S (rhoNew ρ1 h1.nx D) (upd H1 D (.dK [])) ρ2 H' ∧ Rep B.bs.S ρ2 h2 H' ∧ (evDcG (cd call) (kx call) (x call) j t (wipeA s own) h1.nx m i h2).All (QW B.bs.S ρ2 H' Q) (XW B.bs.S ρ2 H' E), ⟨turns, _, h1.new (.dic []), Ext.refl, R1.new hD ⟨[], upd_same, rfl⟩, all_mono (e1.trans eN) (fun _ _ y => (y.mono e1).mono eN) q1a⟩, ?_⟩
  rintro i m H' ⟨ρ2, h2, e2, R2, q2⟩
  have e02 : Ext B.bs.S ρ1 H1 ρ2 H' := eN.trans e2
  have hd2 : ρ2 h1.nx = some D := e2.le _ _ (by unfold rhoNew; rw [if_pos rfl])
  have rs2 : RelS B.bs.S ρ2 H' (wipeA s own) (wipe σ own) := (wipe_rel (rs.mono e1) own).mono e02
  cases m with
  | zero => exact q2.elim
  | succ m =>
    unfold evDcG at q2
    split at q2
    · exact q2.elim
    · rename_i ej
      exact .inl ⟨hJ.stop e02 R2 ej, q2 ρ2 H' _ Ext.refl R2 ⟨D, hd2, rfl⟩⟩
    · rename_i y ej
      obtain ⟨g1, g2⟩ := hJ.step e02 R2 ej
      split at q2
      · exact q2.elim
      · rename_i s3 et
        refine .inr ⟨g1, fun H4 => ∃ ρ4 h4, Ext B.bs.S (rhoNew ρ1 h1.nx D) (upd H1 D (.dK [])) ρ4 H4 ∧ Rep B.bs.S ρ4 h4 H4 ∧ (evDcG (cd call) (kx call) (x call) j t (wipeA s own) h1.nx m (i + 1) h4).All (QW B.bs.S ρ4 H4 Q) (XW B.bs.S ρ4 H4 E), fun H4 z => ⟨m, Nat.lt_succ_self m, z⟩, fun v H3 yy => ?_⟩
        obtain ⟨e3, R3, rv⟩ := g2 v H3 yy
        refine ⟨ρ2, wipeA s own, y, s3, rs2.mono e3, rv, et, fun σ3 rs3 bt => ⟨wipe_but bt hs, ?_⟩⟩
        have q3' := Out.all_nox (X' := XW B.bs.S ρ2 H3 E0) (Out.all_bind (all_mono e3 (fun _ _ y => y) q2))
        refine ⟨ρ2, h2, s3, R3, rs3, q3'.mono (fun b h3 q4 => ?_) fun _ _ _ y => y⟩
        split at q4
        · refine ⟨true, rfl, fun ρ3 H5 e5 R5 => ?_⟩
          simp only [if_true]
          refine ⟨ρ3, h3, s3, R5, rs3.mono e5, ?_⟩
          have q5 := Out.all_bind (all_mono e5 (fun _ _ y => y) q4)
          refine (Out.all_nox q5).mono (fun kk h4 q6 ρ4 H6 w e6 R6 rw6 => ?_) fun _ _ _ y => y
          refine ⟨ρ4, h4, s3, R6, (rs3.mono e5).mono e6, ?_⟩
          have q7 := Out.all_bind (all_mono e6 (fun _ _ y => y) q6)
          refine (Out.all_nox q7).mono (fun z h5 q8 ρ5 H7 u e7 R7 ru7 => ?_) fun _ _ _ y => y
          split at q8
          · rename_i acc ga
            split at q8
            · rename_i ck hck
              split at q8
              · rename_i hlen
                have e27 : Ext B.bs.S (rhoNew ρ1 h1.nx D) (upd H1 D (.dK [])) ρ5 H7 := (e2.trans e3).trans ((e5.trans e6).trans e7)
                have hd5 : ρ5 h1.nx = some D := e27.le _ _ (by unfold rhoNew; rw [if_pos rfl])
                obtain ⟨p, ep, us, hus, rus⟩ := R7.cell _ _ ga
                rw [hd5] at ep
                cases ep
                have eP : Ext B.bs.S ρ5 H7 ρ5 (upd H7 D (.dK (putK us ck u))) := Ext.put hus True.intro
                have rw7 : Rel B.bs.S ρ5 H7 kk w := rw6.mono e7
                have ew : w = kV ck := by
                  cases kk <;> first | (cases hck; exact rw7) | cases hck
                refine ⟨us, ck, ew, hus, ?_, ρ5, h5.put h1.nx (.dic (putKV kk z acc)), e27.trans eP, R7.put hd5 hus True.intro ⟨putK us ck u, upd_same, RelK.mono eP (RelK.put hck ru7 rus)⟩, ?_⟩
                · rw [RelK.length rus]
                  exact Nat.lt_of_lt_of_le hlen (by decide)
                · exact all_mono (e7.trans eP) (fun _ _ y => (y.mono ((e3.trans e5).trans e6)).mono (e7.trans eP)) q8
              · exact q8.elim
            · exact q8.elim
          · exact q8.elim
        · refine ⟨false, rfl, fun ρ3 H5 e5 R5 => ?_⟩
          simp only [Bool.false_eq_true, if_false]
          exact ⟨ρ3, h3, (e2.trans e3).trans e5, R5, all_mono e5 (fun _ _ y => y.mono (e3.trans e5)) q4⟩
        · exact q4.elim
section
variable {D : DTb} {c : Cc}
theorem s_dc {kx elt tg iter : Expr} {ifs : List Expr} {scope : Scope} {pos : Pos} {k x cd : Den} {t : Tg} {g : TgD} {it : Dit} {own : List (Str × Nat)} (h1 : blkC c.N c.sc scope own = true) (h2 : (match iter with | .Set _ _ _ => false | _ => true) = true) (h3 : SI D c tg iter it) (h4 : Ct ⟨c.N, scope, none⟩ tg t) (hg : TgOk t g)
    (h5 : ((slotsT t).all fun i => (own.map (·.2)).contains i) = true) (h6 : SC D ⟨c.N, scope, none⟩ ifs cd) (h7 : SE D ⟨c.N, scope, none⟩ kx k) (h8 : SE D ⟨c.N, scope, none⟩ elt x) : SE D c (.DictComp kx elt [⟨tg, iter, ifs, 0⟩] scope pos) (xDc k x g it cd (own.map (·.2))) := plE rfl fun s => by
  refine PE.imp (pe_dc s.o.calm (by rw [s.o.N]; exact s.o.nd) (h3 s) (blk_ok s.o h1) (fun sh H C cl fp => pg (ok_blk s.o) t h4) (fun sh H C cl fp => h6 s.blk) (fun sh H C cl fp => (h7 s.blk).1) (fun sh H C cl fp => (h8 s.blk).1) fun v => ?_) fun σ H Q q => q_dc hg (fun i hi => ?_) q
  · cases iter <;> first | rfl | cases h2
  · have z := List.all_eq_true.mp h5 i hi
    simpa using z
end
end
end DV
set_option Elab.async false
set_option linter.all false
set_option maxRecDepth 100000
set_option maxHeartbeats 4000000
namespace DV
open PySem PySem.Spec PyProof.Rows L2 ER EV
noncomputable section
/-! ### a + b by an own method, both of the same class -/
def natLk {β : Type} (C : Nat) (l : List (Nat × β)) : Option β := List.rec (motive := fun _ => Option β) none (fun p _ ih => Bool.rec (motive := fun _ => Option β) ih (some p.2) (Nat.beq C p.1)) l
theorem natLk_ok {β : Type} {C : Nat} {f : β} : ∀ {l : List (Nat × β)}, natLk C l = some f → l.lookup C = some f
  | [], h => nomatch (show (none : Option β) = some f from h)
  | (C', f') :: l, h => by
    have h0 : Bool.rec (motive := fun _ => Option β) (natLk C l) (some f') (Nat.beq C C') = some f := h
    clear h
    cases e : Nat.beq C C' with
    | true =>
      rw [e] at h0
      have e1 := Nat.eq_of_beq_eq_true e
      subst e1
      simp only [List.lookup, beq_self_eq_true]
      exact h0
    | false =>
      rw [e] at h0
      have ne : (C == C') = false := by
        rw [beq_eq_false_iff_ne]
        intro z
        subst z
        rw [Nat.beq_refl] at e
        cases e
      simp only [List.lookup, ne]
      exact natLk_ok h0
def ownK (l : List (Nat × Bn)) (call : Cl) (a b : A) (h : Hh) (C : Nat) : Out A := opt (natLk C l) fun f => locK b fun m => insC (getH h m) fun C' _ => gd (Nat.beq C C') (bnd (call f [a, b] h) fun r h => locK r fun _ => .ok r h)
def op2 (l : List (Nat × Bn)) (f0 : A → A → Hh → Out A) (call : Cl) (a b : A) (h : Hh) : Out A := A.casesOn (motive_1 := fun _ => Out A) a (f0 a b h) (fun _ => f0 a b h) (fun _ => f0 a b h) (fun _ => f0 a b h) (fun _ => f0 a b h)
  (fun l1 => Option.rec (motive := fun _ => Out A) .bad (fun ce => Cell.rec (motive := fun _ => Out A) (fun _ => f0 a b h) (fun _ => f0 a b h) (fun _ => f0 a b h) (fun C _ => ownK l call a b h C) (fun _ _ => f0 a b h) (fun _ => f0 a b h) ce) (getH h l1)) (fun _ => f0 a b h) (fun _ => f0 a b h)
def xOp2 (l : List (Nat × Bn)) (f0 : A → A → Hh → Out A) (x y : Den) : Den := fun c s h => bnd (x c s h) fun a h => bnd (y c s h) fun b h => op2 l f0 c a b h
/-- what the own method is asked -/
def rOwn (B : DBs) (call : Cl) (E : XK) (l : List (Nat × Bn)) : R2 := fun x y H Q => ∃ C Ca f a b dx fs dx' fs', B.bs.S.G C = some Ca ∧ l.lookup C = some f ∧ x = .ref a ∧ y = .ref b ∧ H a = some (.ins Ca dx fs) ∧ H b = some (.ins Ca dx' fs') ∧ spG B call f 2 [.ref a, .ref b] H (fun v H' => (∃ c, v = .ref c) ∧ Q v H') E
section
variable {D : DTb} {c : Cc} {B : DBs} {k : Nat} {call : Cl} {X : Cx} {E : XK}
theorem op_own (s : Sg D c B k call X E) {op : Operator} {l : List (Nat × Bn)} (hl : D.bop.lookup (PySem.dunder op.info.2) = some l) : OpR X (binaryOp op) (rOwn B call E l) := by
  intro pins sh σ H x y v u Q I rx ry h
  obtain ⟨C, Ca, f, a, b, dx, fs, dx', fs', hG, hf, rfl, rfl, ha, hb, q⟩ := h
  cases (show v = Value.ref a from rx)
  cases (show u = Value.ref b from ry)
  obtain ⟨Ca', fa, hG', hfa, M, hsf⟩ := s.ok.bop _ l C f (by rw [s.d]; exact hl) hf
  rw [hG] at hG'
  cases hG'
  obtain ⟨fd, ps, hl, hk, F, hbn⟩ := s.cl.fn f 2 fa hfa
  have F' : FnOk X.prog X.w X.K X.mg X.base (L2.CX X.prog X.w) k fa fd ps (spG B call f 2) := by rw [s.o.P, s.o.w, s.o.K, s.o.mg, s.o.bs]; exact F
  obtain ⟨mA, O, _, _, _, _⟩ := ins_get I.hok ha
  obtain ⟨mB, O', _, _, _, _⟩ := ins_get I.hok hb
  obtain ⟨od, J, _⟩ := O.look
  obtain ⟨od', J', _⟩ := O'.look
  obtain ⟨m, fr⟩ := I.fr
  refine PySem.W.binop_K fr I.ok.mod.kin J J'.type (by rw [s.o.K]; exact hsf) (by rw [s.o.K]; exact M.at_) (by rw [s.o.K]; exact M.fn) ?_
  refine wpAny_mono (run_fn (us := [.ref a, .ref b]) (vs := [.ref a, .ref b]) F' (s.o.room.mono (Nat.le_succ k)) (by rw [s.o.K]; exact hbn) .nil s.o.pass I (.cons rfl (.cons rfl .nil)) q) (fun w s' z => ?_) fun _ _ z => z
  obtain ⟨v', H', I', rv, ⟨c', ev⟩, q'⟩ := z
  subst ev
  cases (show w = Value.ref c' from rv)
  exact ⟨.ref c', H', I', rfl, q'⟩
theorem op2_ok {f0 : A → A → Hh → Out A} {r0 : R2} {l : List (Nat × Bn)} (h0 : Leaf2 B.bs.S E f0 r0) (hl : ∀ C f, l.lookup C = some f → ∃ Ca, B.bs.S.G C = some Ca) : Leaf2 B.bs.S E (op2 l f0 call) (fun x y H Q => r0 x y H Q ∨ rOwn B call E l x y H Q) := by
  intro ρ h H a b v w Q R ra rb q
  cases a with
  | loc l1 =>
    have q : (Option.rec (motive := fun _ => Out A) .bad (fun ce => Cell.rec (motive := fun _ => Out A) (fun _ => f0 (.loc l1) b h) (fun _ => f0 (.loc l1) b h) (fun _ => f0 (.loc l1) b h) (fun C _ => ownK l call (.loc l1) b h C) (fun _ _ => f0 (.loc l1) b h) (fun _ => f0 (.loc l1) b h) ce) (getH h l1)).All (QW B.bs.S ρ H Q) (XW B.bs.S ρ H E) := q
    rw [getH_eq] at q
    cases g : h.get l1 with
    | none => rw [g] at q; exact q.elim
    | some ce =>
      rw [g] at q
      cases ce with
      | ins C fs =>
        obtain ⟨f, ef, q1⟩ := opt_all (show (opt (natLk C l) fun f => locK b fun m => insC (getH h m) fun C' _ => gd (Nat.beq C C') (bnd (call f [.loc l1, b] h) fun r h => locK r fun _ => .ok r h)).All (QW B.bs.S ρ H Q) (XW B.bs.S ρ H E) from q)
        obtain ⟨m, rfl, q2⟩ := locK_all q1
        obtain ⟨C', fs', g', q3⟩ := insC_all q2
        rw [getH_eq] at g'
        obtain ⟨eC, q4⟩ := gd_all q3
        have eC := Nat.eq_of_beq_eq_true eC
        subst eC
        obtain ⟨p, rfl, hp, Ca, dx, vs, hG, hs, rf⟩ := cell_at R ra g
        obtain ⟨p', rfl, hp', Ca', dx', vs', hG', hs', rf'⟩ := cell_at R rb g'
        rw [hG] at hG'
        cases hG'
        refine .inr ⟨C, Ca, f, p, p', dx, vs, dx', vs', hG, natLk_ok ef, rfl, rfl, hs, hs', rfl, ρ, h, [.loc l1, .loc m], R, ⟨_, _, rfl, ra, _, _, rfl, rb, rfl⟩, gob q4 fun r h1 q5 ρ1 H1 u e1 R1 ru => ?_⟩
        obtain ⟨n, rfl, q6⟩ := locK_all q5
        obtain ⟨a1, e2, rfl⟩ := id ru
        exact ⟨⟨a1, rfl⟩, q6 ρ1 H1 _ e1 R1 ru⟩
      | _ => exact .inl (h0 R ra rb q)
  | _ => exact .inl (h0 R ra rb q)
theorem two' {f : Cl → A → A → Hh → Out A} {r2 : R2} {x y : Den} (hop : Leaf2 B.bs.S E (f call) r2) {σ : L2.St} {H : Hp} {Q : VK} (q : tE B.bs.S E ((fun c s h => bnd (x c s h) fun a h => bnd (y c s h) fun b h => f c a b h : Den) call) σ H Q) : tOp r2 (tE B.bs.S E (x call)) (tE B.bs.S E (y call)) σ H Q :=
  two (f := f call) (x := x) (y := y) (call := call) hop q
theorem s_add {a b : Expr} {x y : Den} {pos : Pos} {l : List (Nat × Bn)} (hl : D.bop.lookup ("__add__" : Str) = some l) (ha : SE D c a x) (hb : SE D c b y) : SE D c (.BinOp a .Add b pos) (xOp2 l dAdd x y) := plE rfl fun {B k call X E} s => by
  have ha := (ha s).1
  have hb := (hb s).1
  have eK := s.o.K
  have own : OpR X (binaryOp .Add) (rOwn B call E l) := op_own s (op := .Add) hl
  refine PE.imp (pe_op (L2.OpR.or (L2.OpR.or (L2.OpR.or (L2.OpR.or op_add op_cat) op_add_str) op_catA) own) ha hb) fun σ H Q q => ?_
  rw [eK]
  exact two' (f := op2 l dAdd) (op2_ok dAdd_ok fun C f hf => by
    obtain ⟨Ca, _, hG, _⟩ := s.ok.bop _ l C f (by rw [s.d]; exact hl) hf
    exact ⟨Ca, hG⟩) q
end
end
end DV
set_option Elab.async false
set_option linter.all false
set_option maxRecDepth 100000
set_option maxHeartbeats 4000000
namespace DV
open PySem PySem.Spec PyProof.Rows L2 ER EV
noncomputable section
/-! ### o.f = tuple(e): the tuple is known to have no dict -/
section
variable {X : Cx}
def kTupZ (K : PySem.W.Frag) (x : V) (H : Hp) (Q : VK) : Prop := ∃ p xs, x = .ref p ∧ SqL K H p xs ∧ ∀ q o, H q = none → o.dict = none → Q (.ref q) (upd H q (.frz o (.tup xs)))
theorem rl_tupleZ (pins : List (Addr × Obj)) (s : Shared) (σ : L2.St) (H : Hp) (x : V) (v : Value) (Q : VK) (I : Inv X pins σ H s) (r : RelV x v) (h : kTupZ X.K x H Q) :
    wpAny (model X.prog X.w) X.A (call (.type "tuple") [v]) (EP X pins σ Q) X.xe s := by
  obtain ⟨p, xs, rfl, hs, q⟩ := h
  obtain rfl : v = .ref p := r
  obtain ⟨its, rv, pl, hz⟩ := I.list hs
  refine call_tuple_list pl.isList (fun h' hk => ?_) (by rw [List.size_toArray, ← rv.length]; exact hz)
  have I1 : Inv X pins σ H { s with heap := h' } := I.kept (t' := s.toks) hk
  have I2 : Inv X pins σ (upd H h'.objs.size (.frz { cls := .type "tuple", data := .seq its.toArray } (.tup xs))) { s with heap := h'.push { cls := .type "tuple", data := .seq its.toArray } } :=
    I1.laid (t' := s.toks) (fun b o e => Heap.get?_push_of_some _ e) (Nat.le_refl _) (show ObjOk X.prog X.w _ _ _ (.frz _ (.tup xs)) from ⟨Heap.get?_push_size _ rfl, hz, its, rv, IsTup.new _ _⟩)
  exact ⟨.ref h'.objs.size, _, I2, rfl, q _ _ (I1.hok.fresh (Nat.le_refl _)) rfl⟩
theorem pe_tupleZ {a : Expr} {ta : TE} {p pos : Pos} (hg : Gl X "tuple") (hm : X.mg "tuple" = none) (ha : PE X a ta) (na : starEach [a] X.env = (false, eval a X.env) :: starEach [] X.env := by rfl) :
    PE X (.Call (.Name "tuple" p) [a] [] pos) (tThen ta (kTupZ X.K)) := by
  refine ⟨fun pins s σ H Q I h => ?_⟩
  exact Call_ (ld_blt I hg hm boot_tuple (PyProof.Rows.callWith_type1 (one_arg ha I h (fun v s2 x H2 I2 r q => rl_tupleZ pins s2 σ H2 x v Q I2 r q) na) na))
end
def sFldT (fl : List (Nat × Str)) (x : Den) (f : Str) (y : Den) : Dst := fun c s h => bnd (y c s h) fun b h => lstK b h fun _ xs => bnd (x c s h) fun a h => locK a fun l => insC (getH h l) fun C fs => gd (memQ C f fl) (lenK fs 0 fun n => gd (Nat.blt n 900) (putH h l (.ins C (putFA f (.tup xs) fs)) fun h => .ok (.nx s) h))
section
variable {D : DTb} {c : Cc}
theorem s_fldT {o e : Expr} {f : Str} {x y : Den} {p1 p2 p3 pos : Pos} (hn : notStar e = true) (hg : kindIs c.sc "tuple" .globalImplicit = true) (hfr : D.tb.free.contains "tuple" = true) (ho : SE D c o x) (he : SE D c e y) : SS D c (.Assign [.Attribute o f p1] (.Call (.Name "tuple" p2) [e] [] p3) pos) (sFldT D.fld x f y) := fun {B k call X E} s => by
  refine PS.imp (ps_fld (ho s).1 (pe_tupleZ (p := p2) (pos := p3) (s.o.gl hg) (s.o.fr s.ok.bo (by rw [s.ok.tb, s.d]; exact hfr)) (he s).1 (star_cons hn)) rfl) fun D' σ H q => ?_
  rw [s.o.K]
  obtain ⟨ρ, h, sl, R, rs, q⟩ := q
  refine ⟨ρ, h, sl, R, rs, gob q fun b h1 q1 ρ1 H1 w e1 R1 rw => ?_⟩
  obtain ⟨m, xs, rfl, gm, q1a⟩ := lstK_all q1
  obtain ⟨pm, us, rfl, _, hsm, rsu⟩ := lst_at R1 rw gm
  refine ⟨pm, us, rfl, SqL.of hsm, fun q o nq od => ?_⟩
  have eT : Ext B.bs.S ρ1 H1 ρ1 (upd H1 q (.frz o (.tup us))) := Ext.more nq
  have e1T := e1.trans eT
  have rt : Rel B.bs.S ρ1 (upd H1 q (.frz o (.tup us))) (.tup xs) (.ref q) := ⟨q, us, rfl, .inl (.inr ⟨o, upd_same⟩), Rels.mono eT rsu⟩
  have tzq : TZv (upd H1 q (.frz o (.tup us))) (.ref q) := ⟨q, o, us, rfl, upd_same, od⟩
  refine ⟨ρ1, h1, sl, R1.more nq, rs.mono e1T, gob (all_mono e1T (fun _ _ y => y) q1a) fun a h2 q2 ρ2 H2 v e2 R2 rv => ?_⟩
  obtain ⟨l, rfl, q3⟩ := locK_all q2
  obtain ⟨C, fs, g, q4⟩ := insC_all q3
  rw [getH_eq] at g
  obtain ⟨hc, q5⟩ := gd_all q4
  rw [lenK_eq, Nat.zero_add] at q5
  obtain ⟨hl, q6⟩ := gd_all q5
  rw [bltN] at hl
  have hl := of_decide_eq_true hl
  rw [putH_eq] at q6
  obtain ⟨Ca, hG, cl, na⟩ := s.ok.fld C f (by rw [s.d]; exact memQ_ok hc)
  obtain ⟨p, rfl, hp, Ca', dx, vs, hG', hs, rf⟩ := cell_at R2 rv g
  rw [hG] at hG'
  cases hG'
  refine ⟨p, Ca, dx, vs, rfl, hs, cl, na, by rw [RelF.length rf.1]; omega, ?_⟩
  have eP : Ext B.bs.S ρ2 H2 ρ2 (upd H2 p (.ins Ca dx (putF f (.ref q) vs))) := Ext.put hs True.intro
  have tz2 : TZv H2 (.ref q) := by
    obtain ⟨p', o', xs', z1, z2, z3⟩ := tzq
    exact ⟨p', o', xs', z1, e2.fz _ _ _ z2, z3⟩
  exact q6 ρ2 _ ((e1T.trans e2).trans eP) (R2.put hp hs True.intro ⟨Ca, dx, _, hG, upd_same, (RelF.put (rt.mono e2) rf.1).mono eP, (TzOk.put (fun _ => tz2) rf.2).mono eP⟩) σ (((rs.mono e1T).mono e2).mono eP)
end
/-! ### x.f.count(y) -/
section
variable {X : Cx}
def tTM (r : V → List V → Hp → VK → Prop) (to : TE) (t : TA) : TE := fun σ H Q => to σ H fun x H1 => TZv H1 x ∧ t σ H1 fun xs H2 => r x xs H2 Q
variable {o e : Expr} {es : List Expr} {to : TE} {t : TA} {name : Str} {apos cpos : Pos} {id : String} {r : V → List V → Hp → VK → Prop}
theorem pe_tm (pa : PlainAttrs "tuple") (slot : Slot "tuple" name id) (hty : typeOf (.builtin id) = pure (.type "method_descriptor")) (hm : MtR X id r) (ho : PE X o to) (ha : PA X (e :: es) t)
    (hbase : attributeBase o name X.env (eval o X.env) = eval o X.env := by rfl)
    (hfew : ((backTo cpos (starEach (e :: es) X.env)).all (fun x => !x.1) && (backToKw cpos (keywordEach [] X.env)).all (fun x => x.1.isSome)
      && decide ((e :: es).length + ([] : List Keyword).length + (if ([] : List Keyword).isEmpty then 0 else 1) < 30)) = true := by rfl)
    (hline : (apos.endLine == cpos.line) = true := by rfl) (hs : starEach (e :: es) X.env = (false, eval e X.env) :: starEach es X.env := by rfl) (hplain : (backTo cpos (starEach es X.env)).any (·.1) = false := by rfl) :
    PE X (.Call (.Attribute o name apos) (e :: es) [] cpos) (tTM r to t) := by
  refine ⟨fun pins s σ H Q I h => ?_⟩
  refine wpAny_Call_method_late hbase hfew hline rfl (thn (ho.run pins s σ H _ I h) fun v s1 ⟨x, H1, I1, r1, ⟨p, ob, xs, ex, hp, hdn⟩, q1⟩ => ?_)
  subst ex
  obtain rfl : v = Value.ref p := r1
  obtain ⟨e1, hz, its, rv, ⟨ob', e1', e2, _⟩⟩ := (show ObjOk X.prog X.w H1 s1.heap p (.frz ob (.tup xs)) from I1.hok p _ hp)
  rw [e1] at e1'
  cases e1'
  refine ⟨"tuple", id, pa, slot, hty, ⟨ob, e1, e2⟩, fun a z => by cases z; exact ⟨ob, e1, hdn⟩, ?_⟩
  have hA := ha.run cpos pins s1 σ H1 _ I1 q1
  rw [hs] at hA ⊢
  refine Calls.callWith_builtin (by show (false || (backTo cpos (starEach es X.env)).any (·.1)) = false; rw [hplain] <;> rfl) (Calls.evalArgs_plain ?_)
  exact thn hA fun us s2 ⟨vs, H2, I2, r2, q2⟩ => hm pins s2 σ H2 (.ref p) vs (.ref p) us Q I2 rfl r2 q2
def rCountT (K : PySem.W.Frag) : V → List V → Hp → VK → Prop := fun x xs H Q => ∃ (a : Addr) (y : V) (d : PyData) (ds : List PyData), x = V.ref a ∧ xs = [y] ∧ Dp K H (V.ref a) (.tuple ds) ∧ Dp K H y d ∧ PyData.plainAll ds = true ∧ d.plain = true ∧ d.depth ≤ 60 ∧ Q (.int ((ds.countP fun z => PyData.eqv z d : Nat) : Int)) H
theorem mt_countT (hu : X.A.units + 65 < cLine) : MtR X "tuple.count" (rCountT X.K) := by
  intro pins s σ H x xs v us Q I rx rxs h
  obtain ⟨a, y, d, ds, rfl, rfl, hl, hy, p1, p2, hd, q⟩ := h
  cases rx
  cases rxs with
  | cons ry rt =>
    rename_i uy ut
    cases rt
    obtain ⟨bs, r1⟩ := Dp.reads I d y uy hy ry
    cases hl with
    | tup hs ha =>
      obtain ⟨its, rv, hI, hlen⟩ := I.tuple hs
      obtain ⟨as, h4⟩ := Dp.readsAll I ds _ its ha rv
      have hI2 := hI
      obtain ⟨ob, e1, e2, e3, e4⟩ := hI
      refine SeqAt.count_tuple_data (vs := its.toArray) ⟨ob, e1, e2, _, e4⟩ (show ReadsAll s.heap its.toArray.toList ds as from h4) r1 p1 p2 (Nat.lt_of_le_of_lt (Nat.add_le_add_left (Nat.le_trans (Nat.min_le_right _ _) hd) _) (by omega)) ?_
      exact ⟨.int _, H, I.tok _, ⟨_, rfl⟩, q⟩
end
def cntQ (ds : List PyData) (d : PyData) : Nat := ds.countP fun z => PyData.eqv z d
def xCount (fl : List (Nat × Str)) (x : Den) (f : Str) (y : Den) : Den := fun c s h => bnd (xFld fl x f c s h) fun a h => tupK a fun xs => bnd (y c s h) fun b h => opt (toD h deep b) fun d => opt (toDs h deep xs) fun ds => gd (PyData.plainAll ds && d.plain && Nat.ble d.depth 60) (frNat (cntQ ds d) fun n => .ok (.int (.ofNat n)) h)
section
variable {D : DTb} {c : Cc}
theorem s_count {o e : Expr} {f : Str} {x y : Den} {ap ap2 pos : Pos} (hz : D.tz.contains f = true) (h2 : noSup o = true) (h3 : (ap.endLine == pos.line) = true) (h4 : notStar e = true) (ho : SE D c o x) (he : SE D c e y) : SE D c (.Call (.Attribute (.Attribute o f ap2) "count" ap) [e] [] pos) (xCount D.fld x f y) := plE rfl fun {B k call X E} s => by
  refine PE.imp (pe_tm PySem.F.plainAttrs_tuple PySem.F.slot_tuple_count PySem.F.type_tuple_count (mt_countT s.hu) (pe_fld (ho s).1 (noSup_base h2)) (pa_cons (he s).1 pa_nil (star_cons h4)) (by rfl) (bm_few h4) h3 (star_cons h4) (by rfl)) fun σ H Q q => ?_
  rw [s.o.K]
  obtain ⟨ρ, h, sl, R, rs, q⟩ := q
  have q : (bnd (bnd (x call sl h) fun a h => locK a fun l => insC (getH h l) fun C fs => guard (memQ C f D.fld) (opt (fldQ f fs) fun v => .ok v h)) fun a h => tupK a fun xs => bnd (y call sl h) fun b h => opt (toD h deep b) fun d => opt (toDs h deep xs) fun ds => gd (PyData.plainAll ds && d.plain && Nat.ble d.depth 60) (frNat (cntQ ds d) fun n => (.ok (.int (.ofNat n)) h : Out A))).All (QW B.bs.S ρ H Q) (XW B.bs.S ρ H E) := q
  refine ⟨ρ, h, sl, R, rs, gob (gob q fun a h1 y => y) fun a h1 q1 ρ1 H1 v e1 R1 rv => ?_⟩
  obtain ⟨l, rfl, q2⟩ := locK_all q1
  obtain ⟨C, fs, g, q3⟩ := insC_all q2
  obtain ⟨hc, q4⟩ := guard_all q3
  obtain ⟨w, e, q5⟩ := opt_all q4
  rw [getH_eq] at g
  rw [fldQ_eq] at e
  obtain ⟨Ca, hG, cl, na⟩ := s.ok.fld C f (by rw [s.d]; exact memQ_ok hc)
  obtain ⟨p, rfl, _, Ca', dx, vs, hG', hs, rf⟩ := cell_at R1 rv g
  rw [hG] at hG'
  cases hG'
  obtain ⟨u, l1, l2⟩ := (RelF.look rf.1).1 w e
  refine ⟨p, Ca, dx, vs, u, rfl, hs, cl, na, l1, ?_⟩
  have q5 : (tupK w fun xs => bnd (y call sl h1) fun b h => opt (toD h deep b) fun d => opt (toDs h deep xs) fun ds => gd (PyData.plainAll ds && d.plain && Nat.ble d.depth 60) (frNat (cntQ ds d) fun n => (.ok (.int (.ofNat n)) h : Out A))).All (QW B.bs.S ρ H Q) (XW B.bs.S ρ H E) := q5
  obtain ⟨xs, rfl, q6⟩ := tupK_all q5
  refine ⟨rf.2 f u (by rw [s.ok.tz, s.d]; simpa using hz) l1, ρ1, h1, sl, R1, rs.mono e1, gob (all_mono e1 (fun _ _ y => y) q6) fun b h2 q7 ρ2 H2 w e2 R2 rw => ?_⟩
  obtain ⟨d, ed, q8⟩ := opt_all q7
  obtain ⟨ds, eds, q9⟩ := opt_all q8
  obtain ⟨hg, q10⟩ := gd_all q9
  rw [Bool.and_eq_true, Bool.and_eq_true] at hg
  rw [frNat_eq] at q10
  obtain ⟨p', us', ep, hs2, rus2⟩ := l2.mono e2
  subst ep
  exact ⟨p', w, d, ds, rfl, rfl, .tup hs2 (toDs_ok R2 _ _ _ _ eds rus2), toD_ok R2 _ _ _ _ ed rw, hg.1.1, hg.1.2, Nat.le_of_ble_eq_true hg.2, q10 _ _ _ (e1.trans e2) R2 rfl⟩
end
end
end DV
set_option Elab.async false
set_option linter.all false
set_option maxRecDepth 100000
set_option maxHeartbeats 4000000
namespace DV
open PySem PySem.Spec PyProof.Rows L2
/-! ### data in order: ints, texts, tuples of them, nested -/
def ltL (f : PyData → PyData → Option Bool) : List PyData → List PyData → Option Bool
  | [], [] => some false
  | [], _ :: _ => some true
  | _ :: _, [] => some false
  | x :: xs, y :: ys => (ltL f xs ys).bind fun r => if PyData.eqv x y = true then some r else f x y
def ltD : Nat → PyData → PyData → Option Bool
  | _ + 1, .int a, .int b => some (decide (a < b))
  | _ + 1, .str a, .str b => some (decide (a.cps.toList < b.cps.toList))
  | n + 1, .tuple xs, .tuple ys => ltL (ltD n) xs ys
  | _, _, _ => none
theorem reads_get {h : Heap} : ∀ {vs : List Value} {xs : List PyData} {as : List Addr}, ReadsAll h vs xs as → ∀ (j : Nat) (h1 : j < vs.length), ∃ (h2 : j < xs.length) (bs : List Addr), Reads h vs[j] xs[j] bs
  | _, _, _, .nil, j, h1 => absurd h1 (Nat.not_lt_zero j)
  | _, _, _, .cons r rs, 0, _ => ⟨Nat.zero_lt_succ _, _, r⟩
  | _, _, _, .cons r rs, j + 1, h1 => by
    obtain ⟨h2, bs, q⟩ := reads_get rs j (Nat.lt_of_succ_lt_succ h1)
    exact ⟨Nat.succ_lt_succ h2, bs, q⟩
theorem reads_len {h : Heap} : ∀ {vs : List Value} {xs : List PyData} {as : List Addr}, ReadsAll h vs xs as → vs.length = xs.length
  | _, _, _, .nil => rfl
  | _, _, _, .cons r rs => by rw [List.length_cons, List.length_cons, reads_len rs]
theorem firstLt_of {f : PyData → PyData → Option Bool} {e r : Nat → Bool} {fin : Bool} : ∀ (xs ys : List PyData) (i : Nat) (t : Bool), ltL f xs ys = some t → fin = decide (xs.length < ys.length) →
    (∀ j (h1 : j < xs.length) (h2 : j < ys.length), e (i + j) = PyData.eqv xs[j] ys[j]) → (∀ j (h1 : j < xs.length) (h2 : j < ys.length), PyData.eqv xs[j] ys[j] = false → some (r (i + j)) = f xs[j] ys[j]) → SeqAt.firstLt e r fin (List.range' i (min xs.length ys.length)) = t
  | [], [], i, t, h, hf, _, _ => by cases h; rw [hf]; rfl
  | [], _ :: _, i, t, h, hf, _, _ => by
    cases h
    rw [hf]
    simp [SeqAt.firstLt]
  | _ :: _, [], i, t, h, hf, _, _ => by
    cases h
    rw [hf]
    simp [SeqAt.firstLt]
  | x :: xs, y :: ys, i, t, h, hf, he, hr => by
    unfold ltL at h
    cases h1 : ltL f xs ys with
    | none => rw [h1] at h; cases h
    | some r1 =>
      rw [h1, Option.bind_some] at h
      have e0 : e i = PyData.eqv x y := he 0 (Nat.zero_lt_succ _) (Nat.zero_lt_succ _)
      have em : min (x :: xs).length (y :: ys).length = min xs.length ys.length + 1 := by
        rw [List.length_cons, List.length_cons]; omega
      rw [em, List.range'_succ]
      by_cases q : PyData.eqv x y = true
      · rw [if_pos q] at h
        cases h
        rw [SeqAt.firstLt_yes (by rw [e0]; exact q)]
        refine firstLt_of xs ys (i + 1) t h1 ?_ (fun j a b => ?_) fun j a b z => ?_
        · rw [hf]; simp
        · have := he (j + 1) (Nat.succ_lt_succ a) (Nat.succ_lt_succ b)
          rw [show i + 1 + j = i + (j + 1) from by omega]
          exact this
        · have := hr (j + 1) (Nat.succ_lt_succ a) (Nat.succ_lt_succ b) z
          rw [show i + 1 + j = i + (j + 1) from by omega]
          exact this
      · have qf : PyData.eqv x y = false := by simpa using q
        rw [if_neg q] at h
        rw [SeqAt.firstLt_no (by rw [e0]; exact qf)]
        have z := hr 0 (Nat.zero_lt_succ _) (Nat.zero_lt_succ _) qf
        have z' : some (r i) = f x y := z
        rw [h] at z'
        exact Option.some.inj z'
theorem ltL_some {f : PyData → PyData → Option Bool} : ∀ {xs ys : List PyData} {t : Bool}, ltL f xs ys = some t → ∀ j (h1 : j < xs.length) (h2 : j < ys.length), PyData.eqv xs[j] ys[j] = false → ∃ b, f xs[j] ys[j] = some b
  | x :: xs, y :: ys, t, h, j, h1, h2, q => by
    unfold ltL at h
    cases hr : ltL f xs ys with
    | none => rw [hr] at h; cases h
    | some r =>
      rw [hr, Option.bind_some] at h
      cases j with
      | zero =>
        have q' : PyData.eqv x y = false := q
        rw [if_neg (by rw [q']; exact Bool.false_ne_true)] at h
        exact ⟨t, h⟩
      | succ j => exact ltL_some hr j (Nat.lt_of_succ_lt_succ h1) (Nat.lt_of_succ_lt_succ h2) q
theorem plain_get : ∀ {xs : List PyData}, PyData.plainAll xs = true → ∀ j (h : j < xs.length), xs[j].plain = true
  | x :: xs, p, j, h => by
    have p' : x.plain = true ∧ PyData.plainAll xs = true := by
      have z := p
      unfold PyData.plainAll at z
      rwa [Bool.and_eq_true] at z
    cases j with
    | zero => exact p'.1
    | succ j => exact plain_get p'.2 j (Nat.lt_of_succ_lt_succ h)
theorem depth_get : ∀ {xs : List PyData} (j : Nat) (h : j < xs.length), xs[j].depth ≤ PyData.depthAll xs
  | x :: xs, 0, _ => by
    unfold PyData.depthAll
    exact Nat.le_max_left _ _
  | x :: xs, j + 1, h => by
    unfold PyData.depthAll
    exact Nat.le_trans (depth_get j (Nat.lt_of_succ_lt_succ h)) (Nat.le_max_right _ _)
theorem rc_ltD : ∀ (n : Nat) (A : Around) (s : Shared) (a b : Value) (da db : PyData) (as bs : List Addr) (t : Bool), Reads s.heap a da as → Reads s.heap b db bs → da.plain = true → db.plain = true → A.units + n + da.depth + 2 < cLine → ltD n da db = some t → SeqAt.RcLt A s a b t
  | 0, A, s, a, b, da, db, as, bs, t, _, _, _, _, _, h => by cases da <;> cases db <;> cases h
  | n + 1, A, s, a, b, da, db, as, bs, t, ra, rb, pa, pb, hu, h => by
    cases ra with
    | int i ti =>
      cases rb with
      | int j tj =>
        cases h
        exact fun prog w E Q q => PyProof.Rows.lt_int q
      | _ => cases h
    | str x tx =>
      cases rb with
      | str y ty =>
        cases h
        exact fun prog w E Q q => PyProof.Rows.lt_str q
      | _ => cases h
    | tuple ho hc hd ra =>
      cases rb with
      | tuple ho' hc' hd' rb =>
        rename_i a1 o1 vs1 n1 xs1 a2 o2 vs2 n2 xs2
        have h : ltL (ltD n) xs1 xs2 = some t := h
        have pa' : PyData.plainAll xs1 = true := by
          have z := pa
          unfold PyData.plain at z
          exact z
        have pb' : PyData.plainAll xs2 = true := by
          have z := pb
          unfold PyData.plain at z
          exact z
        have hd1 : (PyData.tuple xs1).depth = PyData.depthAll xs1 + 1 := by unfold PyData.depth; rfl
        rw [hd1] at hu
        have l1 : vs1.size = xs1.length := by rw [← Array.length_toList]; exact reads_len ra
        have l2 : vs2.size = xs2.length := by rw [← Array.length_toList]; exact reads_len rb
        have g1 : ∀ j (h1 : j < vs1.size), ∃ (h2 : j < xs1.length) (bs : List Addr), Reads s.heap vs1[j] xs1[j] bs := fun j h1 => by
          have := reads_get ra j (by rw [Array.length_toList]; exact h1)
          simpa using this
        have g2 : ∀ j (h1 : j < vs2.size), ∃ (h2 : j < xs2.length) (bs : List Addr), Reads s.heap vs2[j] xs2[j] bs := fun j h1 => by
          have := reads_get rb j (by rw [Array.length_toList]; exact h1)
          simpa using this
        have key := SeqAt.RcLt.tuples (A := A) (s := s) (e := fun j => PyData.eqv (xs1.getD j .none) (xs2.getD j .none)) (r := fun j => (ltD n (xs1.getD j .none) (xs2.getD j .none)).getD false) (l := a1) (b := a2) (items := vs1) (items2 := vs2) ⟨o1, ho, hc, n1, hd⟩ ⟨o2, ho', hc', n2, hd'⟩ (by omega)
          (fun j h1 h2 => by
            obtain ⟨k1, c1, r1⟩ := g1 j h1
            obtain ⟨k2, c2, r2⟩ := g2 j h2
            have dg := depth_get (xs := xs1) j k1
            have z := SeqAt.eqAt_plain xs1[j] xs2[j] A.in1 s vs1[j] vs2[j] c1 c2 r1 r2 (plain_get pa' j k1) (plain_get pb' j k2) (Nat.lt_of_le_of_lt (Nat.add_le_add_left (Nat.min_le_left _ _) _) (by show A.units + 1 + xs1[j].depth < cLine; omega))
            rw [List.getD_eq_getElem?_getD, List.getD_eq_getElem?_getD, List.getElem?_eq_getElem k1, List.getElem?_eq_getElem k2]
            exact z)
          (fun j h1 h2 hne => by
            obtain ⟨k1, c1, r1⟩ := g1 j h1
            obtain ⟨k2, c2, r2⟩ := g2 j h2
            have dg := depth_get (xs := xs1) j k1
            rw [List.getD_eq_getElem?_getD, List.getD_eq_getElem?_getD, List.getElem?_eq_getElem k1, List.getElem?_eq_getElem k2] at hne ⊢
            obtain ⟨b, eb⟩ := ltL_some h j k1 k2 hne
            show SeqAt.RcLt A.in1 s vs1[j] vs2[j] ((ltD n xs1[j] xs2[j]).getD false)
            rw [eb]
            exact rc_ltD n A.in1 s vs1[j] vs2[j] xs1[j] xs2[j] c1 c2 b r1 r2 (plain_get pa' j k1) (plain_get pb' j k2) (by show A.units + 1 + n + xs1[j].depth + 2 < cLine; omega) eb)
        have fin := firstLt_of (f := ltD n) (e := fun j => PyData.eqv (xs1.getD j .none) (xs2.getD j .none)) (r := fun j => (ltD n (xs1.getD j .none) (xs2.getD j .none)).getD false) (fin := decide (vs1.size < vs2.size)) xs1 xs2 0 t h (by rw [l1, l2])
          (fun j k1 k2 => by
            rw [Nat.zero_add, List.getD_eq_getElem?_getD, List.getD_eq_getElem?_getD, List.getElem?_eq_getElem k1, List.getElem?_eq_getElem k2]
            rfl)
          (fun j k1 k2 hne => by
            rw [Nat.zero_add, List.getD_eq_getElem?_getD, List.getD_eq_getElem?_getD, List.getElem?_eq_getElem k1, List.getElem?_eq_getElem k2]
            obtain ⟨b, eb⟩ := ltL_some h j k1 k2 hne
            show some ((ltD n xs1[j] xs2[j]).getD false) = _
            rw [eb]
            rfl)
        rw [l1, l2, ← List.range_eq_range'] at fin
        rw [l1, l2] at key
        rw [fin] at key
        exact key
      | _ => cases h
    | _ => cases h
/-! ### the sort's own comparison of two tuples -/
def firstOk : PyData → Bool
  | .tuple (.int _ :: _) => true
  | .tuple (.str _ :: _) => true
  | _ => false
section
variable {prog : Program} {w : World} {A : Around} {s : Shared} {fin : Bool} {Q : Bool → Shared → Prop}
theorem lexD {n : Nat} : ∀ (i : Nat) (us ws : List Value) (xs ys : List PyData) (as bs : List Addr) (t : Bool), ReadsAll s.heap us xs as → ReadsAll s.heap ws ys bs → PyData.plainAll xs = true → PyData.plainAll ys = true → A.units + n + PyData.depthAll xs + 3 < cLine → ltL (ltD (n + 1)) xs ys = some t →
    fin = decide (xs.length < ys.length) → (i = 0 → xs = [] ∨ ys = [] ∨ firstOk (.tuple xs) = true) → Q t s → PySem.W.KatLex prog w A true fin Q (us.zip ws) i s
  | i, _, _, [], [], _, _, t, .nil, .nil, _, _, _, h, hf, _, q => by
    cases h
    rw [hf]
    exact PySem.W.kat_nil q
  | i, _, _, [], y :: ys, _, _, t, .nil, .cons _ _, _, _, _, h, hf, _, q => by
    cases h
    rw [hf]
    exact PySem.W.kat_nil (by simpa using q)
  | i, _, _, x :: xs, [], _, _, t, .cons _ _, .nil, _, _, _, h, hf, _, q => by
    cases h
    rw [hf]
    exact PySem.W.kat_nil (by simpa using q)
  | i, _, _, x :: xs, y :: ys, _, _, t, .cons (v := u) (vs := us) r1 rs1, .cons (v := v) (vs := ws) r2 rs2, p1, p2, hu, h, hf, h0, q => by
    have p1' : x.plain = true ∧ PyData.plainAll xs = true := by
      have z := p1
      unfold PyData.plainAll at z
      rwa [Bool.and_eq_true] at z
    have p2' : y.plain = true ∧ PyData.plainAll ys = true := by
      have z := p2
      unfold PyData.plainAll at z
      rwa [Bool.and_eq_true] at z
    have hd : PyData.depthAll (x :: xs) = max x.depth (PyData.depthAll xs) := by conv => lhs; unfold PyData.depthAll
    rw [hd] at hu
    have hx : x.depth ≤ max x.depth (PyData.depthAll xs) := Nat.le_max_left _ _
    have hxs : PyData.depthAll xs ≤ max x.depth (PyData.depthAll xs) := Nat.le_max_right _ _
    unfold ltL at h
    cases hr : ltL (ltD (n + 1)) xs ys with
    | none => rw [hr] at h; cases h
    | some r =>
      rw [hr, Option.bind_some] at h
      show PySem.W.KatLex prog w A true fin Q ((u, v) :: us.zip ws) i s
      refine PySem.W.kat_cons (SeqAt.eqAt_plain x y A s u v _ _ r1 r2 p1'.1 p2'.1 (Nat.lt_of_le_of_lt (Nat.add_le_add_left (Nat.min_le_left _ _) _) (by omega)) prog w _ _ ?_)
      refine PySem.W.kat_go (fun e => ?_) fun e => ?_
      · rw [if_pos e] at h
        cases h
        exact PySem.W.kat_yes (lexD (i + 1) us ws xs ys _ _ t rs1 rs2 p1'.2 p2'.2 (by omega) hr (by rw [hf]; simp) (fun z => by cases z) q)
      · rw [if_neg (by rw [e]; exact Bool.false_ne_true)] at h
        refine PySem.W.kat_no ?_
        by_cases hi : i = 0
        · subst hi
          rcases h0 rfl with z | z | z
          · cases z
          · cases z
          · cases r1 with
            | int i1 t1 =>
              cases r2 with
              | int i2 t2 => cases h; exact PyProof.Rows.oneLt_int q
              | _ => cases h
            | str s1 t1 =>
              cases r2 with
              | str s2 t2 => cases h; exact PyProof.Rows.oneLt_str q
              | _ => cases h
            | _ => cases z
        · have hb : (true && i == 0) = false := by simpa using hi
          rw [hb]
          exact PySem.W.kat_one _ _ (rc_ltD (n + 1) A s u v x y _ _ t r1 r2 p1'.1 p2'.1 (by omega) h prog w _ _ q)
end
end DV
set_option Elab.async false
set_option linter.all false
set_option maxRecDepth 100000
set_option maxHeartbeats 4000000
namespace DV
open PySem PySem.Spec PyProof.Rows L2 ER EV
/-! ### tuples of ints, texts and such tuples; they stay where the tuples stay -/
mutual
def tupD : PyData → Bool
  | .int _ => true
  | .str _ => true
  | .tuple xs => tupDs xs
  | _ => false
def tupDs : List PyData → Bool
  | [] => true
  | x :: xs => tupD x && tupDs xs
end
mutual
theorem tup_reads {h h' : Heap} (k : ∀ b o, h.get? b = some o → o.cls = .type "tuple" → h'.get? b = some o) : ∀ (d : PyData) (v : Value) (as : List Addr), tupD d = true → Reads h v d as → Reads h' v d as
  | .int _, _, _, _, .int i t => .int i t
  | .str _, _, _, _, .str x t => .str x t
  | .tuple xs, _, _, p, .tuple ho hc hd r => .tuple (k _ _ ho hc) hc hd (tup_readsAll k xs _ _ (by unfold tupD at p; exact p) r)
  | .none, _, _, p, _ => by unfold tupD at p; cases p
  | .bool _, _, _, p, _ => by unfold tupD at p; cases p
  | .list _, _, _, p, _ => by unfold tupD at p; cases p
  | .dict _, _, _, p, _ => by unfold tupD at p; cases p
theorem tup_readsAll {h h' : Heap} (k : ∀ b o, h.get? b = some o → o.cls = .type "tuple" → h'.get? b = some o) : ∀ (ds : List PyData) (vs : List Value) (as : List Addr), tupDs ds = true → ReadsAll h vs ds as → ReadsAll h' vs ds as
  | [], _, _, _, .nil => .nil
  | d :: ds, _, _, p, .cons r rs => by
    unfold tupDs at p
    rw [Bool.and_eq_true] at p
    exact .cons (tup_reads k d _ _ p.1 r) (tup_readsAll k ds _ _ p.2 rs)
end
mutual
theorem tup_plain : ∀ (d : PyData), tupD d = true → d.plain = true
  | .int _, _ => by unfold PyData.plain; rfl
  | .str _, _ => by unfold PyData.plain; rfl
  | .tuple xs, p => by unfold tupD at p; unfold PyData.plain; exact tup_plainAll xs p
  | .none, p => by unfold tupD at p; cases p
  | .bool _, p => by unfold tupD at p; cases p
  | .list _, p => by unfold tupD at p; cases p
  | .dict _, p => by unfold tupD at p; cases p
theorem tup_plainAll : ∀ (ds : List PyData), tupDs ds = true → PyData.plainAll ds = true
  | [], _ => by unfold PyData.plainAll; rfl
  | d :: ds, p => by
    unfold tupDs at p
    rw [Bool.and_eq_true] at p
    unfold PyData.plainAll
    rw [Bool.and_eq_true]
    exact ⟨tup_plain d p.1, tup_plainAll ds p.2⟩
end
/-- the kind of a key's first item: true for a text -/
def firstK : PyData → Option Bool
  | .tuple (.int _ :: _) => some false
  | .tuple (.str _ :: _) => some true
  | _ => none
def tyK : Bool → Value
  | false => .type "int"
  | true => .type "str"
theorem firstK_ok {d : PyData} {b : Bool} (h : firstK d = some b) : firstOk d = true := by
  unfold firstK at h
  split at h <;> first | rfl | cases h
theorem kat_of {h : Heap} {b : Bool} : ∀ {vs : List Value} {ds : List PyData} {as : List Addr}, ReadsAll h vs ds as → (∀ d ∈ ds, firstK d = some b) → ∃ fs, PySem.W.KatTups h vs fs ∧ fs.length = vs.length ∧ ∀ f ∈ fs, (b = false ∧ ∃ i t, f = .int i t) ∨ (b = true ∧ ∃ x t, f = .str x t)
  | _, _, _, .nil, _ => ⟨[], trivial, rfl, fun f m => absurd m (by simp)⟩
  | _, _, _, .cons (v := v) (d := d) r rs, hk => by
    obtain ⟨fs, h1, h2, h3⟩ := kat_of rs fun d m => hk d (List.mem_cons_of_mem _ m)
    have k := hk d List.mem_cons_self
    unfold firstK at k
    split at k
    · cases k
      cases r with
      | tuple ho hc hd ra =>
        rename_i a o vs1 n
        cases hv : vs1.toList with
        | nil => rw [hv] at ra; cases ra
        | cons f rest =>
          rw [hv] at ra
          cases ra with
          | cons r1 _ =>
            obtain ⟨i, t, rfl⟩ : ∃ i t, f = Value.int i t := by cases r1; exact ⟨_, _, rfl⟩
            have e0 : vs1[0]? = some (.int i t) := by rw [← Array.getElem?_toList, hv]; rfl
            refine ⟨.int i t :: fs, PySem.W.KatTups.cons ho hc hd e0 h1, by rw [List.length_cons, List.length_cons, h2], fun f m => ?_⟩
            rcases List.mem_cons.mp m with e | m
            · rw [e]; exact .inl ⟨rfl, i, t, rfl⟩
            · exact h3 f m
    · cases k
      cases r with
      | tuple ho hc hd ra =>
        rename_i a o vs1 n
        cases hv : vs1.toList with
        | nil => rw [hv] at ra; cases ra
        | cons f rest =>
          rw [hv] at ra
          cases ra with
          | cons r1 _ =>
            obtain ⟨x, t, rfl⟩ : ∃ x t, f = Value.str x t := by cases r1; exact ⟨_, _, rfl⟩
            have e0 : vs1[0]? = some (.str x t) := by rw [← Array.getElem?_toList, hv]; rfl
            refine ⟨.str x t :: fs, PySem.W.KatTups.cons ho hc hd e0 h1, by rw [List.length_cons, List.length_cons, h2], fun f m => ?_⟩
            rcases List.mem_cons.mp m with e | m
            · rw [e]; exact .inr ⟨rfl, x, t, rfl⟩
            · exact h3 f m
    · cases k
theorem swo_rank {α : Type} (r : α → Int) : SrtO.Swo fun x y => decide (r x < r y) := by
  refine ⟨fun x y h => ?_, fun x y z h1 h2 => ?_⟩
  · have a := of_decide_eq_true h
    exact decide_eq_false (by omega)
  · have a := of_decide_eq_false h1
    have b := of_decide_eq_false h2
    exact decide_eq_false (by omega)
theorem mem_reads {h : Heap} : ∀ {vs : List Value} {ds : List PyData} {as : List Addr}, ReadsAll h vs ds as → ∀ v ∈ vs, ∃ d ∈ ds, ∃ bs, Reads h v d bs
  | _, _, _, .nil, v, m => absurd m (by simp)
  | _, _, _, .cons r rs, v, m => by
    rcases List.mem_cons.mp m with e | m
    · rw [e]; exact ⟨_, List.mem_cons_self, _, r⟩
    · obtain ⟨d, m1, bs, q⟩ := mem_reads rs v m
      exact ⟨d, List.mem_cons_of_mem _ m1, bs, q⟩
theorem tupDs_mem : ∀ {ds : List PyData}, tupDs ds = true → ∀ d ∈ ds, tupD d = true
  | [], _, d, m => absurd m (by simp)
  | x :: ds, p, d, m => by
    unfold tupDs at p
    rw [Bool.and_eq_true] at p
    rcases List.mem_cons.mp m with e | m
    · rw [e]; exact p.1
    · exact tupDs_mem p.2 d m
section
variable {prog : Program} {w : World} {A : Around} {s : Shared}
theorem data_sortable {a : Addr} {vs : List Value} {ds : List PyData} {as : List Addr} {n : Nat} {b : Bool} {rk : PyData → Int} (h0 : 0 < vs.length) (rs : ReadsAll s.heap vs ds as) (ht : tupDs ds = true) (hk : ∀ d ∈ ds, firstK d = some b) (hdep : ∀ d ∈ ds, A.units + n + d.depth + 3 < cLine)
    (hc : ∀ d ∈ ds, ∀ e ∈ ds, ltD (n + 2) d e = some (decide (rk d < rk e))) (ha : ∀ o, s.heap.get? a = some o → o.cls ≠ .type "tuple") {kf : Value → Int} (hkf : ∀ v ∈ vs, ∀ d ∈ ds, ∀ bs, Reads s.heap v d bs → kf v = rk d) : SrtO.SortableO prog w A s a vs fun v u => decide (kf v < kf u) := by
  intro h' keep
  have rs' := tup_readsAll (h' := h') (fun b o e c => keep b o (fun z => by subst z; exact ha o e c) e) ds vs as ht rs
  obtain ⟨fs, k1, k2, k3⟩ := kat_of rs' hk
  refine ⟨PyProof.Rows.tuples' true, fun Q E hq => ?_, ?_⟩
  · refine PySem.W.kat_kind (T := tyK b) k1 (by omega) (fun f hm => ?_) (by cases b <;> rfl) ?_
    · rcases k3 f hm with ⟨rfl, i, t, rfl⟩ | ⟨rfl, x, t, rfl⟩
      · exact PySem.W.Looks.now
      · exact PySem.W.Looks.now
    · have e : (tyK b != Value.type "tuple") = true := by cases b <;> first | decide +kernel | rfl | decide
      rw [e]
      exact hq
  · intro p q hp hq
    obtain ⟨d, m1, bs1, r1⟩ := mem_reads rs _ hp
    obtain ⟨e, m2, bs2, r2⟩ := mem_reads rs _ hq
    have t1 := tupDs_mem ht d m1
    have t2 := tupDs_mem ht e m2
    have kk : ∀ b o, s.heap.get? b = some o → o.cls = .type "tuple" → h'.get? b = some o := fun b o e c => keep b o (fun z => by subst z; exact ha o e c) e
    have r1' := tup_reads kk d _ _ t1 r1
    have r2' := tup_reads kk e _ _ t2 r2
    have e1 := hkf _ hp d m1 _ r1
    have e2 := hkf _ hq e m2 _ r2
    have f1 := firstK_ok (hk d m1)
    have f2 := firstK_ok (hk e m2)
    have hlt := hc d m1 e m2
    have hd1 := hdep d m1
    have p1 := tup_plain d t1
    have p2 := tup_plain e t2
    show wpAny (model prog w) A (keyLt' (PyProof.Rows.tuples' true) p.1 q.1) (fun r s' => s' = _ ∧ r = decide (kf p.1 < kf q.1)) (fun _ _ => False) _
    rw [e1, e2]
    generalize p.1 = u1 at r1'
    generalize q.1 = u2 at r2'
    generalize decide (rk d < rk e) = t at hlt ⊢
    clear r1 r2 e1 e2
    cases r1' with
    | tuple ho hcl hd ra =>
      cases r2' with
      | tuple ho' hcl' hd' rb =>
        rename_i a1 o1 vs1 n1 xs1 a2 o2 vs2 n2 xs2
        have hlt : ltL (ltD (n + 1)) xs1 xs2 = some t := hlt
        have dd : (PyData.tuple xs1).depth = PyData.depthAll xs1 + 1 := by unfold PyData.depth; rfl
        rw [dd] at hd1
        refine PySem.W.kat_lt ho hd ho' hd' (lexD (n := n) 0 _ _ xs1 xs2 _ _ t ra rb (by unfold PyData.plain at p1; exact p1) (by unfold PyData.plain at p2; exact p2) (by omega) hlt ?_ (fun _ => .inr (.inr f1)) ⟨rfl, rfl⟩)
        have l1 : vs1.size = xs1.length := by rw [← Array.length_toList]; exact reads_len ra
        have l2 : vs2.size = xs2.length := by rw [← Array.length_toList]; exact reads_len rb
        rw [l1, l2]
      | _ => cases f2
    | _ => cases f1
end
/-! ### as a rule -/
abbrev ltp (rk : PyData → Int) : PyData × V → PyData × V → Bool := fun x y => decide (rk x.1 < rk y.1)
def rSortedD (K : PySem.W.Frag) : List V → Hp → VK → Prop := fun vs H Q => ∃ (a : Addr) (xs : List V) (ds : List PyData) (rk : PyData → Int) (n : Nat) (b : Bool), vs = [V.ref a] ∧ SqL K H a xs ∧ DpAll K H xs ds ∧ tupDs ds = true ∧ (∀ d ∈ ds, firstK d = some b) ∧ (∀ d ∈ ds, n + d.depth ≤ 55) ∧
  (∀ d ∈ ds, ∀ e ∈ ds, ltD (n + 2) d e = some (decide (rk d < rk e))) ∧ ∀ (zs : List (PyData × V)) p, SrtO.Srtd (ltp rk) zs → SrtO.Stb (ltp rk) zs (ds.zip xs) → H p = none → Q (.ref p) (upd H p (.lst (zs.map (·.2))))
theorem dp_refs {K : PySem.W.Frag} {H : Hp} {b : Bool} : ∀ {xs : List V} {ds : List PyData}, DpAll K H xs ds → (∀ d ∈ ds, firstK d = some b) → ∀ x ∈ xs, ∃ a, x = V.ref a
  | _, _, .nil, _, x, m => absurd m (by simp)
  | _, _, .cons h hs, hk, x, m => by
    rcases List.mem_cons.mp m with e | m
    · rw [e]
      have k := hk _ List.mem_cons_self
      cases h <;> first | exact ⟨_, rfl⟩ | cases k
    · exact dp_refs hs (fun d hd => hk d (List.mem_cons_of_mem _ hd)) x m
theorem zip_map {h : Heap} : ∀ {vs : List Value} {ds : List PyData} {as : List Addr}, ReadsAll h vs ds as → PyData.plainAll ds = true → vs.map (fun u => (SeqAt.readOf h u, backV u)) = ds.zip (vs.map backV)
  | _, _, _, .nil, _ => rfl
  | _, _, _, .cons r rs, p => by
    unfold PyData.plainAll at p
    rw [Bool.and_eq_true] at p
    rw [List.map_cons, List.map_cons, List.zip_cons_cons, zip_map rs p.2, SeqAt.readOf_plain p.1 r]
theorem cr_sortedD {X : Cx} (hu : X.A.units + 65 < cLine) : CallR X (.builtin "sorted") (rSortedD X.K) := by
  intro pins s σ H vs us Q I r h
  obtain ⟨a, xs, ds, rk, n, b, rfl, hs, hd, ht, hk, hdep, hc, q⟩ := h
  obtain ⟨its, rv, hl, hz⟩ := I.list hs
  obtain ⟨u, rfl, ru⟩ := vals1 r
  obtain rfl : u = Value.ref a := ru
  obtain ⟨as, rs⟩ := Dp.readsAll I ds xs its hd rv
  obtain ⟨e1, e2⟩ := refs_back rv (dp_refs hd hk)
  have pl := tup_plainAll ds ht
  have hzi : its.length ≤ sizeLine := by rw [← rv.length]; exact hz
  refine SrtO.sorted_ord (swo_rank fun u => rk (SeqAt.readOf s.heap u)) hl.isList hzi (fun h2 h₁ a' ha' kk => ?_) fun out h1 h2 => ?_
  · have kt : ∀ b o, s.heap.get? b = some o → o.cls = .type "tuple" → h₁.get? b = some o := fun b o e _ => (kk b o e).2
    refine data_sortable (s := { s with heap := h₁ }) (n := n) (b := b) (rk := rk) (by omega) (tup_readsAll kt ds its as ht rs) ht hk (fun d hm => ?_) hc (fun o e => ?_) (kf := fun u => rk (SeqAt.readOf s.heap u)) fun v hv d hm bs rd => ?_
    · have := hdep d hm
      show X.A.units + 1 + 1 + n + d.depth + 3 < cLine
      omega
    · have e' : some o = some (seqObj "list" its.toArray 0) := e.symm.trans ha'
      cases e'
      intro c
      exact absurd (Value.type.inj c) (by decide)
    · obtain ⟨d', m', bs', r'⟩ := mem_reads rs v hv
      have z1 : SeqAt.readOf s.heap v = d' := SeqAt.readOf_plain (tup_plain d' (tupDs_mem ht d' m')) r'
      have z2 : SeqAt.readOf h₁ v = d' := SeqAt.readOf_plain (tup_plain d' (tupDs_mem ht d' m')) (tup_reads kt d' _ _ (tupDs_mem ht d' m') r')
      have z3 : SeqAt.readOf h₁ v = d := SeqAt.readOf_plain (tup_plain d (tupDs_mem ht d hm)) rd
      show rk (SeqAt.readOf s.heap v) = rk d
      rw [z1, ← z2, z3]
  · have h3 : ∀ u ∈ out, ∃ a, u = Value.ref a := fun u hu => e2 u (h2.perm.mem_iff.mp hu)
    obtain ⟨n', hn⟩ := sortedAll_at s.heap its out.toArray
    have hb : SrtO.Stb (ltp rk) (out.map fun u => (SeqAt.readOf s.heap u, backV u)) (ds.zip xs) := by
      rw [e1, ← zip_map rs pl]
      exact SrtO.Stb.map (swo_rank fun x : PyData × V => rk x.1) (fun u => (SeqAt.readOf s.heap u, backV u)) h2
    have hm : (out.map fun u => (SeqAt.readOf s.heap u, backV u)).map (·.2) = out.map backV := by
      rw [List.map_map]
      rfl
    have hlen : (out.map backV).length = xs.length := by
      rw [List.length_map, h2.perm.length_eq]
      exact rv.length.symm
    have q' := q _ (s.heap.objs.size + 1) (SrtO.srtd_map (lt := ltp rk) (f := fun u => (SeqAt.readOf s.heap u, backV u)) h1) hb (I.hok.fresh (Nat.le_succ _))
    rw [hm] at q'
    refine ⟨.ref (s.heap.objs.size + 1), upd H (s.heap.objs.size + 1) (.lst (out.map backV)), I.laid (t' := s.toks) (fun b o e => sortedAll_old e) (Nat.le_succ _) ⟨?_, out, n', vals_back h3, hn⟩, rfl, q'⟩
    rw [hlen]
    exact hz
end DV
set_option Elab.async false
set_option linter.all false
set_option maxRecDepth 100000
set_option maxHeartbeats 4000000
namespace DV
open PySem PySem.Spec PyProof.Rows L2 ER EV
noncomputable section
/-! ### a stable sort by ranks -/
section
variable {α β : Type}
def insP (rk : PyData → Int) (x : PyData × α) : List (PyData × α) → List (PyData × α)
  | [] => [x]
  | y :: l => if rk y.1 < rk x.1 then y :: insP rk x l else x :: y :: l
def isortP (rk : PyData → Int) : List (PyData × α) → List (PyData × α)
  | [] => []
  | x :: l => insP rk x (isortP rk l)
abbrev ltq (rk : PyData → Int) : PyData × α → PyData × α → Bool := fun x y => decide (rk x.1 < rk y.1)
theorem ins_mem {rk : PyData → Int} {x z : PyData × α} : ∀ {l : List (PyData × α)}, z ∈ insP rk x l → z = x ∨ z ∈ l
  | [], h => .inl (by simpa [insP] using h)
  | y :: l, h => by
    unfold insP at h
    split at h
    · rcases List.mem_cons.mp h with e | h
      · exact .inr (by rw [e]; exact List.mem_cons_self)
      · rcases ins_mem h with e | h
        · exact .inl e
        · exact .inr (List.mem_cons_of_mem _ h)
    · rcases List.mem_cons.mp h with e | h
      · exact .inl e
      · exact .inr h
theorem ins_srtd {rk : PyData → Int} {x : PyData × α} : ∀ {l : List (PyData × α)}, SrtO.Srtd (ltq rk) l → SrtO.Srtd (ltq rk) (insP rk x l)
  | [], _ => List.pairwise_singleton _ _
  | y :: l, h => by
    unfold insP
    split
    · rename_i hlt
      refine List.pairwise_cons.mpr ⟨fun z hz => ?_, ins_srtd (List.pairwise_cons.mp h).2⟩
      rcases ins_mem hz with e | hz
      · rw [e]; exact decide_eq_false (by omega)
      · exact (List.pairwise_cons.mp h).1 z hz
    · rename_i hlt
      refine List.pairwise_cons.mpr ⟨fun z hz => ?_, h⟩
      rcases List.mem_cons.mp hz with e | hz
      · rw [e]; exact decide_eq_false hlt
      · have a := of_decide_eq_false ((List.pairwise_cons.mp h).1 z hz)
        exact decide_eq_false (by omega)
theorem isort_srtd {rk : PyData → Int} : ∀ (l : List (PyData × α)), SrtO.Srtd (ltq rk) (isortP rk l)
  | [] => List.Pairwise.nil
  | x :: l => ins_srtd (isort_srtd l)
theorem ins_perm {rk : PyData → Int} {x : PyData × α} : ∀ (l : List (PyData × α)), (insP rk x l).Perm (x :: l)
  | [] => List.Perm.refl _
  | y :: l => by
    unfold insP
    split
    · exact ((ins_perm l).cons y).trans (List.Perm.swap x y l)
    · exact List.Perm.refl _
theorem ins_cls {rk : PyData → Int} {x z : PyData × α} : ∀ (l : List (PyData × α)), (insP rk x l).filter (SrtO.eqv (ltq rk) z) = (x :: l).filter (SrtO.eqv (ltq rk) z)
  | [] => rfl
  | y :: l => by
    unfold insP
    split
    · rename_i hlt
      rw [List.filter_cons, ins_cls l]
      have no : ¬ (SrtO.eqv (ltq rk) z x = true ∧ SrtO.eqv (ltq rk) z y = true) := fun ⟨h1, h2⟩ => by
        obtain ⟨a1, a2⟩ := SrtO.eqv_iff.mp h1
        obtain ⟨b1, b2⟩ := SrtO.eqv_iff.mp h2
        have a1 := of_decide_eq_false a1
        have a2 := of_decide_eq_false a2
        have b1 := of_decide_eq_false b1
        have b2 := of_decide_eq_false b2
        omega
      rw [List.filter_cons, List.filter_cons, List.filter_cons]
      by_cases h1 : SrtO.eqv (ltq rk) z x = true
      · by_cases h2 : SrtO.eqv (ltq rk) z y = true
        · exact absurd ⟨h1, h2⟩ no
        · simp [h1, h2]
      · simp [h1]
    · rfl
theorem isort_stb {rk : PyData → Int} : ∀ (l : List (PyData × α)), SrtO.Stb (ltq rk) (isortP rk l) l
  | [] => SrtO.Stb.refl _
  | x :: l => by
    have ih := isort_stb (rk := rk) l
    refine ⟨(ins_perm _).trans (ih.perm.cons x), fun z => ?_⟩
    show (insP rk x (isortP rk l)).filter _ = _
    rw [ins_cls, List.filter_cons, List.filter_cons, ih.cls z]
theorem isort_uniq {rk : PyData → Int} {l m : List (PyData × α)} (h1 : SrtO.Srtd (ltq rk) m) (h2 : SrtO.Stb (ltq rk) m l) : m = isortP rk l :=
  SrtO.stb_uniq (swo_rank fun x : PyData × α => rk x.1) h1 (isort_srtd l) (h2.trans ⟨(isort_stb l).perm.symm, fun x => ((isort_stb l).cls x).symm⟩)
end
/-- two lists side by side -/
def Rl2 (S : Sc) (ρ : Rho) (H : Hp) : List (PyData × A) → List (PyData × V) → Prop
  | [], m => m = []
  | x :: l, m => ∃ y r, m = y :: r ∧ x.1 = y.1 ∧ Rel S ρ H x.2 y.2 ∧ Rl2 S ρ H l r
section
variable {S : Sc} {ρ : Rho} {H : Hp} {rk : PyData → Int}
theorem Rl2.ins {x : PyData × A} {y : PyData × V} (e : x.1 = y.1) (r : Rel S ρ H x.2 y.2) : ∀ {l : List (PyData × A)} {m : List (PyData × V)}, Rl2 S ρ H l m → Rl2 S ρ H (insP rk x l) (insP rk y m)
  | [], m, h => by rw [show m = [] from h]; exact ⟨y, [], rfl, e, r, rfl⟩
  | x' :: l, m, ⟨y', m', h1, h2, h3, h4⟩ => by
    subst h1
    unfold insP
    rw [h2, e]
    split
    · exact ⟨y', _, rfl, h2, h3, Rl2.ins e r h4⟩
    · exact ⟨y, _, rfl, e, r, y', m', rfl, h2, h3, h4⟩
theorem Rl2.sort : ∀ {l : List (PyData × A)} {m : List (PyData × V)}, Rl2 S ρ H l m → Rl2 S ρ H (isortP rk l) (isortP rk m)
  | [], m, h => by rw [show m = [] from h]; rfl
  | x :: l, m, ⟨y, m', h1, h2, h3, h4⟩ => by
    subst h1
    exact Rl2.ins h2 h3 (Rl2.sort h4)
theorem Rl2.snd : ∀ {l : List (PyData × A)} {m : List (PyData × V)}, Rl2 S ρ H l m → Rels S ρ H (l.map (·.2)) (m.map (·.2))
  | [], m, h => by rw [show m = [] from h]; rfl
  | x :: l, m, ⟨y, m', h1, h2, h3, h4⟩ => by subst h1; exact ⟨y.2, _, rfl, h3, Rl2.snd h4⟩
theorem Rl2.zip : ∀ {ds : List PyData} {xs : List A} {vs : List V}, Rels S ρ H xs vs → Rl2 S ρ H (ds.zip xs) (ds.zip vs)
  | [], _, _, _ => rfl
  | _ :: _, [], vs, h => by rw [show vs = [] from h]; rfl
  | d :: ds, x :: xs, vs, ⟨v, r, h1, h2, h3⟩ => by subst h1; exact ⟨(d, v), ds.zip r, rfl, rfl, h2, Rl2.zip h3⟩
end
/-! ### sorted(xs) -/
def rkOf (ds : List PyData) (d : PyData) : Int := ((ds.filter fun e => ltD 6 e d == some true).length : Nat)
def okSort (ds : List PyData) : Bool := match ds with
  | [] => true
  | d₀ :: _ => tupDs ds && (firstK d₀).isSome && ds.all fun d => (firstK d == firstK d₀) && Nat.ble d.depth 50 && ds.all fun e => ltD 6 d e == some (decide (rkOf ds d < rkOf ds e))
def dSorted (as : List A) (h : Hh) : Out A := one as fun a => lstK a h fun _ xs => opt (toDs h deep xs) fun ds => gd (okSort ds) (newH h (.lst ((isortP (rkOf ds) (ds.zip xs)).map (·.2))) fun l h => .ok (.loc l) h)
theorem okSort_ok {ds : List PyData} (h : okSort ds = true) : tupDs ds = true ∧ (∃ b, ∀ d ∈ ds, firstK d = some b) ∧ (∀ d ∈ ds, 4 + d.depth ≤ 55) ∧ ∀ d ∈ ds, ∀ e ∈ ds, ltD (4 + 2) d e = some (decide (rkOf ds d < rkOf ds e)) := by
  cases ds with
  | nil => exact ⟨by unfold tupDs; rfl, ⟨false, fun d m => absurd m (by simp)⟩, fun d m => absurd m (by simp), fun d m => absurd m (by simp)⟩
  | cons d₀ r =>
    unfold okSort at h
    rw [Bool.and_eq_true, Bool.and_eq_true, List.all_eq_true] at h
    obtain ⟨⟨h1, h2⟩, h3⟩ := h
    obtain ⟨b, hb⟩ := Option.isSome_iff_exists.mp h2
    refine ⟨h1, ⟨b, fun d m => ?_⟩, fun d m => ?_, fun d m e m' => ?_⟩
    · have z := h3 d m
      rw [Bool.and_eq_true, Bool.and_eq_true] at z
      rw [eq_of_beq z.1.1]
      exact hb
    · have z := h3 d m
      rw [Bool.and_eq_true, Bool.and_eq_true] at z
      have := Nat.le_of_ble_eq_true z.1.2
      omega
    · have z := h3 d m
      rw [Bool.and_eq_true, List.all_eq_true] at z
      exact eq_of_beq (z.2 e m')
section
variable {D : DTb} {c : Cc}
theorem s_sorted {e : Expr} {xs : Dar} {p pos : Pos} (hn : notStar e = true) (h1 : kindIs c.sc "sorted" .globalImplicit = true) (h2 : D.tb.free.contains "sorted" = true) (ha : SA D c [e] xs) : SE D c (.Call (.Name "sorted" p) [e] [] pos) (xBi dSorted xs) :=
  callB (b := "sorted") hn h1 h2 (by decide +kernel) (by decide +kernel) (by decide +kernel) ha fun {B k call X E} s => ⟨rSortedD B.bs.S.K, by rw [← s.o.K]; exact cr_sortedD s.hu, fun {ρ h H as vs Q} R ra q => by
    obtain ⟨a, rfl, q1⟩ := one_all q
    obtain ⟨v, r1, rfl, rx, e⟩ := ra
    rw [show r1 = [] from e]
    obtain ⟨l, xs, rfl, g, q2⟩ := lstK_all q1
    obtain ⟨ds, ed, q3⟩ := opt_all q2
    obtain ⟨hok, q4⟩ := gd_all q3
    rw [newH_eq] at q4
    obtain ⟨o1, ⟨b, o2⟩, o3, o4⟩ := okSort_ok hok
    obtain ⟨p, us, rfl, _, hs, rsu⟩ := lst_at R rx g
    refine ⟨p, us, ds, rkOf ds, 4, b, rfl, SqL.of hs, toDs_ok R _ _ _ _ ed rsu, o1, o2, o3, o4, fun zs m h1 h2 hm => ?_⟩
    have ez : zs = isortP (rkOf ds) (ds.zip us) := isort_uniq h1 h2
    have rz : Rels B.bs.S ρ H ((isortP (rkOf ds) (ds.zip xs)).map (·.2)) (zs.map (·.2)) := by
      rw [ez]
      exact Rl2.snd (Rl2.sort (Rl2.zip rsu))
    exact q4 _ _ _ (Ext.new R hm) (R.new hm ⟨_, upd_same, Rels.mono (Ext.new R hm) rz⟩) ⟨m, by unfold rhoNew; rw [if_pos rfl], rfl⟩⟩
end
end
end DV
set_option Elab.async false
set_option linter.all false
set_option maxRecDepth 100000
set_option maxHeartbeats 4000000
namespace DV
open PySem PySem.Spec PyProof.Rows L2 ER EV
noncomputable section
/-! ### assignments to captured names -/
def cellIn (sc : Scope) (ts : List Expr) : Bool := ts.any fun | .Name x _ => kindIs sc x .cell | _ => false
theorem fm_lt {α β : Type} {f : α → Option β} : ∀ {l : List α}, (∃ t ∈ l, f t = none) → (l.filterMap f).length < l.length
  | x :: l, ⟨t, ht, e⟩ => by
    have le := List.length_filterMap_le f l
    rcases List.mem_cons.mp ht with rfl | ht
    · rw [List.filterMap_cons, e, List.length_cons]
      dsimp only
      omega
    · have := fm_lt ⟨t, ht, e⟩
      rw [List.filterMap_cons, List.length_cons]
      split
      · omega
      · rw [List.length_cons]; omega
theorem swX {env : Env} {pt p2 : Pos} {ts es : List Expr} {kt k2 : Nat} (hx : ∃ x px, (.Name x px : Expr) ∈ ts ∧ env.scope.names.lookup x = some .cell) : swappedStores [.Tuple ts kt pt] (.Tuple es k2 p2) env = pure none := by
  obtain ⟨x, px, hm, hx⟩ := hx
  have kx : env.kindOf x = some .cell := hx
  unfold swappedStores
  simp only [pure_bind]
  split
  · rfl
  · split
    · rfl
    · refine if_pos ?_
      rw [Bool.or_eq_true]
      refine .inl ?_
      refine bne_iff_ne.mpr (Nat.ne_of_lt (fm_lt ⟨_, hm, ?_⟩))
      simp only [kx]
      rfl
section
variable {D : DTb} {c : Cc}
theorem s_asgTX {ts es : List Expr} {t : Tg} {g : TgD} {d : Den} {pt p2 pos : Pos} {kt k2 : Nat} (hx : cellIn c.sc ts = true) (h3 : Ct c (.Tuple ts kt pt) t) (hg : TgOk t g) (he : SE D c (.Tuple es k2 p2) d) : SS D c (.Assign [.Tuple ts kt pt] (.Tuple es k2 p2) pos) (sAsg g d) := fun {B k call X E} s => by
  have hst : (assignEach [.Tuple ts kt pt] X.env).map (·.2) = [assign (.Tuple ts kt pt) X.env] := by rw [tg_star h3]; rfl
  have hsw : swapsWithSole [.Tuple ts kt pt] (.Tuple es k2 p2) pos.line X.env = pure false := by rfl
  have hc : ∃ x px, (.Name x px : Expr) ∈ ts ∧ X.env.scope.names.lookup x = some .cell := by
    obtain ⟨t, ht, e⟩ := List.any_eq_true.mp hx
    cases t with
    | Name x px => exact ⟨x, px, ht, (s.o.cell x (kindIs_ok e)).1⟩
    | _ => cases e
  exact PS.imp (ps_asg (he s).1 (pg s.o t h3) hsw (swX hc) hst) fun D σ H q => q_asg hg q
theorem s_asgX {y : Str} {i : Nat} {e : Expr} {g : TgD} {x : Den} {py pos : Pos} (hy : kindIs c.sc y .cell = true) (hi : c.N[i]? = some y) (hg : TgOk (.nm i) g) (he : SE D c e x) : SS D c (.Assign [.Name y py] e pos) (sAsg g x) := fun {B k call X E} s => by
  have h3 : Ct c (.Name y py) (.nm i) := .nm hi (by rw [hy, Bool.or_true])
  have hst : (assignEach [.Name y py] X.env).map (·.2) = [assign (.Name y py) X.env] := by rw [tg_star h3]; rfl
  have ky : X.env.kindOf y = some .cell := (s.o.cell y (kindIs_ok hy)).1
  have hsw : swapsWithSole [.Name y py] e pos.line X.env = pure false := by
    unfold swapsWithSole swapsWith
    cases e <;> first | rfl | (simp only [ky, pure_bind]; cases (X.env.blockKind == .function) <;> rfl)
  have hss : swappedStores [.Name y py] e X.env = pure none := by cases e <;> rfl
  exact PS.imp (ps_asg (he s).1 (pg s.o _ h3) hsw hss hst) fun D σ H q => q_asg hg q
end
end
end DV
set_option Elab.async false
set_option linter.all false
set_option maxRecDepth 100000
set_option maxHeartbeats 4000000
namespace DV
open PySem PySem.Spec PyProof.Rows L2 ER EV
/-! ### the text as a tree -/
inductive Bf where
  | len | all | any | isi | list | tuple | dict | str | sum | max | sorted
mutual
inductive X where
  | bad | var (i : Nat) | cst (a : A) | bin (op : Operator) (x y : X) | add (x y : X) | cmp (op : CmpOp) (x y : X) | neN (x y : X) | chain (op op' : CmpOp) (x y z : X)
  | isN (x : X) | notN (x : X) | and (x y : X) | or (x y : X) | not (x : X) | ife (t x y : X) | tup (xs : Xs) | lst (xs : Xs) | bi (b : Bf) (xs : Xs) | idx (x y : X) | cut (x : X) (lo hi : Po)
  | call (f : Bn) (n : Nat) (xs : Xs) | make (C : Nat) (f : Bn) (n : Nat) (xs : Xs) | fld (x : X) (f : Str)
  | comp (x : X) (t : Tg) (it : Ix) (cd : X) (own : List Nat) | comp2 (x : X) (t : Tg) (it : Ix) (cd : X) (t1 : Tg) (it1 : Ix) (cd1 : X) (own vs1 : List Nat) | dc (k x : X) (t : Tg) (it : Ix) (cd : X) (own : List Nat)
  | app (x y : X) | extd (x y : X) | pop (x : X) | dict0 | dct0 | get2 (x y z : X) | tried (t : TrD) (d : X) | count (x : X) (f : Str) (y : X)
inductive Xs where
  | nil | cons (x : X) (xs : Xs)
inductive Po where
  | none | some (x : X)
inductive Ix where
  | seq (x : X) | rng (x : X) | enm (x : X) | zip (x y : X)
end
inductive Y where
  | bad | asg (t : Tg) (x : X) | asgC (i : Nat) (x : X) | ex (x : X) | ret (x : X) | pass | ife (x : X) (a b : Y) | for (t : Tg) (it : Ix) (b : Y) | wh (x : X) (b : Y)
  | fldA (x : X) (f : Str) (y : X) | fldT (x : X) (f : Str) (y : X) | putD (x y z : X) | rz (C : Nat) (f : Str) (x : X) | rz0 (C : Nat) | par (i j : Nat) (xs : Xs) | par3 (i j l : Nat) (xs : Xs) | tr (n : Nat) (b : Y) (hs : List HdD) | seq (a b : Y)
noncomputable section
def dBf (D : DTb) : Bf → List A → Hh → Out A
  | .len => dLen | .all => dAll | .any => dAny | .isi => dIsi D.kit D.tb.kit.anc D.ins | .list => dListOf | .tuple => dTupOf | .dict => dDictOf | .str => dStr | .sum => dSum | .max => dMax | .sorted => dSorted
def noOp : A → A → Hh → Out A := fun _ _ _ => .bad
mutual
def gOf : Tg → TgD
  | .nm i => gNm i
  | .tp ts => gTp (gsOf ts)
def gsOf : List Tg → TgsD
  | [] => gNil0
  | t :: ts => gCons0 (gOf t) (gsOf ts)
end
mutual
theorem gOf_ok : ∀ t : Tg, TgOk t (gOf t)
  | .nm i => by unfold gOf; exact gNm_ok i
  | .tp ts => by unfold gOf; exact gTp_ok (gsOf_ok ts)
theorem gsOf_ok : ∀ ts : List Tg, TgsOk ts (gsOf ts)
  | [] => by unfold gsOf; exact gNil0_ok
  | t :: ts => by unfold gsOf; exact gCons0_ok (gOf_ok t) (gsOf_ok ts)
end
mutual
def dX (D : DTb) : X → Den
  | .bad => xBad
  | .var i => xVar i
  | .cst a => xCst a
  | .bin op x y => x2 ((opF op).getD noOp) (dX D x) (dX D y)
  | .add x y => xOp2 ((D.bop.lookup ("__add__" : Str)).getD []) dAdd (dX D x) (dX D y)
  | .cmp op x y => x2 ((cmpF op).getD noOp) (dX D x) (dX D y)
  | .neN x y => x2 dNeN (dX D x) (dX D y)
  | .chain op op' x y z => xChain ((cmpF op).getD noOp) ((cmpF op').getD noOp) (dX D x) (dX D y) (dX D z)
  | .isN x => xIsN (dX D x)
  | .notN x => xNotN (dX D x)
  | .and x y => xAnd (dX D x) (dX D y)
  | .or x y => xOr (dX D x) (dX D y)
  | .not x => xNot (dX D x)
  | .ife t x y => xIfe (dX D t) (dX D x) (dX D y)
  | .tup xs => xTup (dXs D xs)
  | .lst xs => xLst (dXs D xs)
  | .bi b xs => xBi (dBf D b) (dXs D xs)
  | .idx x y => x2 dIdx (dX D x) (dX D y)
  | .cut x lo hi => xCut (dX D x) (dPo D lo) (dPo D hi)
  | .call f n xs => xCall f n (dXs D xs)
  | .make C f n xs => xMake C f n (dXs D xs)
  | .fld x f => xFld D.fld (dX D x) f
  | .comp x t it cd own => xComp (dX D x) (gOf t) (dIx D it) (dX D cd) own
  | .comp2 x t it cd t1 it1 cd1 own vs1 => xComp2 (dX D x) (gOf t) (dIx D it) (dX D cd) (gOf t1) (dIx D it1) (dX D cd1) own vs1
  | .dc k x t it cd own => xDc (dX D k) (dX D x) (gOf t) (dIx D it) (dX D cd) own
  | .app x y => xApp (dX D x) (dX D y)
  | .extd x y => xExtd (dX D x) (dX D y)
  | .pop x => xPop (dX D x)
  | .dict0 => xDict0
  | .dct0 => xDct0
  | .get2 x y z => xGet2 (dX D x) (dX D y) (dX D z)
  | .tried t d => xTried D.xm D.tb.kit.fld t (dX D d)
  | .count x f y => xCount D.fld (dX D x) f (dX D y)
def dXs (D : DTb) : Xs → Dar
  | .nil => aNil
  | .cons x xs => aCons (dX D x) (dXs D xs)
def dPo (D : DTb) : Po → Dpt
  | .none => pNone
  | .some x => pSome (dX D x)
def dIx (D : DTb) : Ix → Dit
  | .seq x => iSeqD (dX D x)
  | .rng x => iRngD (dX D x)
  | .enm x => iEnmD (dX D x)
  | .zip x y => iZipD (dX D x) (dX D y)
end
def dY (D : DTb) : Y → Dst
  | .bad => sBad
  | .asg t x => sAsg (gOf t) (dX D x)
  | .asgC i x => sAsgC i (dX D x)
  | .ex x => sEx (dX D x)
  | .ret x => sRet (dX D x)
  | .pass => sPass
  | .ife x a b => sIf (dX D x) (dY D a) (dY D b)
  | .for t it b => sFor (gOf t) (dIx D it) (dY D b)
  | .wh x b => sWh (dX D x) (dY D b)
  | .fldA x f y => sFldA D.fld (dX D x) f (dX D y)
  | .fldT x f y => sFldT D.fld (dX D x) f (dX D y)
  | .putD x y z => sPutD (dX D x) (dX D y) (dX D z)
  | .rz C f x => sRz C f (dX D x)
  | .rz0 C => sRz0 C
  | .par i j xs => sPar i j (dXs D xs)
  | .par3 i j l xs => sPar3 i j l (dXs D xs)
  | .tr n b hs => sTry D.xm D.tb.kit.fld n (dY D b) hs
  | .seq a b => sSeq (dY D a) (dY D b)
end
end DV
set_option Elab.async false
set_option linter.all false
set_option maxRecDepth 100000
set_option maxHeartbeats 4000000
namespace EV
open PySem PySem.Spec PyProof.Rows L2 ER
section
variable {B : Bs} {k : Nat} {E : XK}
/-- what a context asks where its body makes lambdas -/
def QOk (B : Bs) (qual : Str) (cd : Value) (qo : Option Str) : Prop := ∀ q, qo = some q → qual ++ ".<locals>." = q ∧ ∃ ca P, cd = .ref ca ∧ LamX.TabB B.base B.mg ca P ∧ (P, q ++ "<lambda>") ∈ B.tabs ∧ ∀ p ∈ B.tabs, p.1 = P → p.2 = q ++ "<lambda>"
theorem ok_cx {qual : Str} {scope : Scope} {N ps : List Str} {f : Addr} {cd : Value} {A : Around} {outer : List Env} {s : Shared} {H : Hp} {qo : Option Str} (S : FnScope N ps scope) (hr : Room k (A.deeper (envOfC qual scope s.heap.objs.size f cd))) (h2 : 2 ≤ k) (hq : QOk B qual cd qo) :
    Ok B k ⟨N, scope, qo⟩ (cxOf (L2.CX B.P B.w) B.P B.w B.S.K B.mg B.base N qual scope f cd A outer s H E) E where
  P := rfl
  w := rfl
  K := rfl
  mg := rfl
  bs := rfl
  N := rfl
  nd := S.nd
  calm := rfl
  room := hr
  r2 := hr.mono h2
  pass := passes_call (takes_of (E := E) rfl rfl rfl rfl) fun _ _ _ _ h => h
  tk := takes_of (E := E) rfl rfl rfl rfl
  own := passes_of (X := cxOf (L2.CX B.P B.w) B.P B.w B.S.K B.mg B.base N qual scope f cd A outer s H E) rfl
  loc := fun _ h => h
  cell := fun _ h => ⟨h, rfl⟩
  free := fun _ h => .inr h
  gi := fun _ h => h
  qual := hq
theorem start_rel {S : Sc} {ρ : Rho} {H : Hp} {as : List A} {vs : List V} {N : List Str} {n : Nat} (hn : n = N.length) (r : Rels S ρ H as vs) : RelS S ρ H (as.map some ++ List.replicate (n - as.length) none) (L2.start N vs) := by
  have hl := Rels.length r
  refine ⟨by unfold L2.start; simp [hl, hn], fun i x e => ?_⟩
  unfold L2.start
  by_cases hi : i < as.length
  · rw [List.getElem?_append_left (by simpa using hi)] at e
    rw [List.getElem?_map] at e
    cases z : as[i]? with
    | none => rw [z] at e; cases e
    | some a =>
      rw [z] at e
      cases e
      obtain ⟨v, e1, e2⟩ := Rels.getA r z
      refine ⟨v, ?_, e2⟩
      rw [List.getElem?_append_left (by simpa [hl] using hi), List.getElem?_map, e1]
      rfl
  · rw [List.getElem?_append_right (by simpa using hi)] at e
    rw [List.getElem?_replicate] at e
    split at e <;> cases e
/-- a def of the text -/
def DefD (B : Bs) (fns : List Fn) (x : Str) (f n : Nat) : Prop :=
  ∃ (a : Addr) (name qual : Str) (params : Arguments) (body : List Stmt) (scope : Scope) (dV kV doc pm cdv ct oc : Value) (an od : Option Addr) (osl : Array (Option Value)) (N ps : List Str) (fn : Fn) (qo : Option Str),
    fns[f]? = some fn ∧ fn.lam = none ∧ fn.names = N.length ∧ ps.length = n ∧ B.mg x = some (.ref a) ∧ PySem.W.keepIn B.S.K (.ref a) = true ∧ B.S.K.lookup a = some ⟨oc, od, .func (PySem.W.fnOf name qual params body scope dV kV doc pm an cdv ct), osl⟩ ∧ PySem.W.codeIn B.S.K cdv qual = true ∧ FnScope N ps scope ∧
    Binds B.S.K (PySem.W.fnOf name qual params body scope dV kV doc pm an cdv ct) ps [] ∧ Css B.T ⟨N, scope, qo⟩ body fn.body ∧ QOk B qual cdv qo
/-- a def whose promise is given -/
def PickD (B : Bs) (k : Nat) (g : List A → Hh → Out A) (x : Str) (f n : Nat) : Prop :=
  ∃ a fd ps, ps.length = n ∧ B.mg x = some (.ref a) ∧ PySem.W.keepIn B.S.K (.ref a) = true ∧ FnOk B.P B.w B.S.K B.mg B.base (L2.CX B.P B.w) k a fd ps (spF B (fun _ => g) f n) ∧ Binds B.S.K fd ps []
def LamD (B : Bs) (fns : List Fn) (n : Nat) (t : LamT) : Prop :=
  ∃ (fn : Fn) (e : EV.E) (N : List Str) (x : Str), fns[n]? = some fn ∧ fn.lam = some e ∧ fn.names = N.length ∧ FnScope N [x] t.scope ∧ (∀ (pm cv ctv u : Value), bindArgs (PySem.W.kla_fn "<lambda>" t.q t.params t.body t.scope [] pm cv ctv) ⟨[u], []⟩ = pure [(x, u)]) ∧ Cp B.T ⟨N, t.scope, none⟩ t.body e
theorem spF_bad {f n : Nat} {vs : List V} {H : Hp} {Q : VK} {E : XK} (h : spF B (fun _ _ _ => .bad) f n vs H Q E) : False := by
  obtain ⟨_, ρ, h, as, _, _, q⟩ := h
  exact q
theorem fn_bad {P : Program} {w : World} {K : PySem.W.Frag} {mg : Str → Option Value} {base : Heap} {CX : CXT} {a : Addr} {fd : FuncData} {ps : List Str} {f n : Nat} : FnOk P w K mg base CX k a fd ps (spF B (fun _ _ _ => .bad) f n) :=
  ⟨fun vs H Q E q => (spF_bad q).elim, fun _ _ _ _ _ _ _ _ _ _ _ _ _ q => (spF_bad q).elim⟩
theorem call_ok {F : Nat} {fns : List Fn} {pick : Nat → Option (List A → Hh → Out A)} {k0 : Nat} (h2 : 2 ≤ k0) (BO : BOk B) (defs : ∀ x f n, B.T.gl.lookup x = some (.fn f n) → (∃ g, pick f = some g ∧ PickD B k0 g x f n) ∨ (pick f = none ∧ DefD B fns x f n)) (lams : ∀ n t, B.T.lam n = some t → pick n = none ∧ LamD B fns n t) :
    ∀ d, CallOk B (k0 + d) (evC F B.T.kit fns pick d)
  | 0 => ⟨fun x f n hx => by
      rcases defs x f n hx with ⟨g, hp, a, fd, ps, e1, e2, e3, FF, hb⟩ | ⟨hp, a, name, qual, params, body, scope, dV, kV, doc, pm, cdv, ct, oc, an, od, osl, N, ps, fn, qo, d1, d2, d3, d4, d5, d6, d7, d8, d9, d10, d11, d12⟩
      · exact ⟨a, fd, ps, e1, e2, e3, fn_bad, hb⟩
      · exact ⟨a, _, ps, d4, d5, d6, fn_bad, d10⟩, fun n t ht => fun _ _ _ _ _ _ _ _ _ _ _ _ _ _ _ q => (spF_bad q).elim⟩
  | d + 1 => by
    have CO := call_ok (F := F) h2 BO defs lams d
    have SN : Snd B (k0 + d) (evR B.T.kit (evC F B.T.kit fns pick d) F) := snd_evR BO CO F
    refine ⟨fun x f n hx => ?_, fun n t ht => ?_⟩
    · rcases defs x f n hx with ⟨g, hp, a, fd, ps, e1, e2, e3, FF, hb⟩ | ⟨hp, a, name, qual, params, body, scope, dV, kV, doc, pm, cdv, ct, oc, an, od, osl, N, ps, fn, qo, d1, d2, d3, d4, d5, d6, d7, d8, d9, d10, d11, d12⟩
      · refine ⟨a, fd, ps, e1, e2, e3, (FF.mono (by omega)).imp fun vs H Q E q => ?_, hb⟩
        obtain ⟨hl, ρ, h, as, R, rs, q⟩ := q
        unfold evC at q
        rw [hp] at q
        exact ⟨hl, ρ, h, as, R, rs, q⟩
      · refine ⟨a, _, ps, d4, d5, d6, fn_of (k := k0 + d) d7 d8 d9 (fun vs H Q E q => by rw [q.1, d4]) fun A outer s H vs Q E hr q => ?_, d10⟩
        refine ⟨_, SN.ss (ok_cx (E := E) d9 hr (by omega) d12) d11, ?_⟩
        obtain ⟨hl, ρ, h, as, R, rs, q⟩ := q
        unfold evC at q
        rw [hp] at q
        dsimp only at q
        rw [d1] at q
        dsimp only at q
        rw [d2] at q
        dsimp only at q
        refine ⟨ρ, h, _, R, start_rel d3 rs, go q fun fl h1 q1 ρ1 H1 e1 R1 => ?_⟩
        cases fl with
        | nx s1 => exact fun σ1 rs1 => q1 ρ1 H1 _ e1 R1 rfl
        | rt a => exact fun v rv => q1 ρ1 H1 _ e1 R1 rv
        | bk s1 => exact q1.elim
        | ct s1 => exact q1.elim
    · obtain ⟨hp, fn, e, N, x, l1, l2, l3, l4, l5, l6⟩ := lams n t ht
      refine lam_run (k := k0 + d) (N := N) (x := x) l4 l5 fun A outer s H E f c v Q hr q => ?_
      refine ⟨_, SN.pe (ok_cx (E := E) (qo := none) l4 hr (by omega) (fun _ z => nomatch z)) l6, ?_⟩
      obtain ⟨hl, ρ, h, as, R, rs, q⟩ := q
      unfold evC at q
      rw [hp] at q
      dsimp only at q
      rw [l1] at q
      dsimp only at q
      rw [l2] at q
      exact ⟨ρ, h, _, R, start_rel l3 rs, q⟩
end
end EV
set_option Elab.async false
set_option linter.all false
set_option maxRecDepth 100000
set_option maxHeartbeats 4000000
namespace EV
open PySem PySem.Spec PyProof.Rows L2 ER
/-! ### the text read into the little language, the derivation beside it -/
abbrev Obs := List (Nat × LamT)
def OO (T : Tb) (o : Obs) : Prop := ∀ p ∈ o, T.lam p.1 = some p.2
theorem OO.l {T : Tb} {a b : Obs} (h : OO T (a ++ b)) : OO T a := fun p hp => h p (List.mem_append_left _ hp)
theorem OO.r {T : Tb} {a b : Obs} (h : OO T (a ++ b)) : OO T b := fun p hp => h p (List.mem_append_right _ hp)
structure RE (T : Tb) (c : Cc) (e : Expr) where
  x : E
  o : Obs
  ok : OO T o → Cp T c e x
structure REs (T : Tb) (c : Cc) (e : List Expr) where
  x : List E
  o : Obs
  ok : OO T o → Cps T c e x
structure RI (T : Tb) (c : Cc) (tg e : Expr) where
  x : It
  o : Obs
  ok : OO T o → Ci T c tg e x
structure RT (c : Cc) (e : Expr) where
  x : Tg
  ok : Ct c e x
structure RTs (c : Cc) (e : List Expr) where
  x : List Tg
  ok : Cts c e x
structure RS (T : Tb) (c : Cc) (e : Stmt) where
  x : Sm
  o : Obs
  ok : OO T o → Cs T c e x
structure RSs (T : Tb) (c : Cc) (e : List Stmt) where
  x : List Sm
  o : Obs
  ok : OO T o → Css T c e x
structure Ck (T : Tb) where
  e : (c : Cc) → (e : Expr) → Option (RE T c e)
  t : (c : Cc) → (e : Expr) → Option (RT c e)
  ss : (c : Cc) → (l : List Stmt) → Option (RSs T c l)
section
variable {T : Tb}
def cTs (k : Ck T) (c : Cc) : (es : List Expr) → Option (RTs c es)
  | [] => some ⟨[], .nil⟩
  | e :: es => match k.t c e, cTs k c es with
    | some a, some b => some ⟨a.x :: b.x, .cons a.ok b.ok⟩
    | _, _ => none
def stepT (k : Ck T) (c : Cc) (e : Expr) : Option (RT c e) := match e with
  | .Name x pos => if h : c.N[c.N.idxOf x]? = some x ∧ (kindIs c.sc x .local || kindIs c.sc x .cell) = true then some ⟨.nm (c.N.idxOf x), .nm h.1 h.2⟩ else none
  | .Tuple es n pos => match cTs k c es with
    | some r => some ⟨.tp r.x, .tp r.ok⟩
    | none => none
  | _ => none
def cEs (k : Ck T) (c : Cc) : (es : List Expr) → Option (REs T c es)
  | [] => some ⟨[], [], fun _ => .nil⟩
  | e :: es => if h : notStar e = true then match k.e c e, cEs k c es with
      | some a, some b => some ⟨a.x :: b.x, a.o ++ b.o, fun q => .cons h (a.ok q.l) (b.ok q.r)⟩
      | _, _ => none
    else none
def cName (T : Tb) (c : Cc) (x : Str) (pos : Pos) : Option (RE T c (.Name x pos)) :=
  if ho : okName x = true then
    if hv : visB c.sc x = true then (if h : c.N[c.N.idxOf x]? = some x then some ⟨.var (c.N.idxOf x), [], fun _ => .var h hv ho⟩ else none)
    else if hg : kindIs c.sc x .globalImplicit = true then
      match ht : T.gl.lookup x with
      | some g => match hv : g.val with
        | some a => some ⟨.cst a, [], fun _ => .glob hg ht hv ho⟩
        | none => none
      | none => if hf : T.free.contains x = true then (match hn : tyOf? x with
          | some n => some ⟨.cst (.ty n), [], fun _ => .tyn hg hf hn⟩
          | none => none) else none
    else none
  else none
def cCallN (k : Ck T) (c : Cc) (f : Str) (p : Pos) (es : List Expr) (pos : Pos) : Option (RE T c (.Call (.Name f p) es [] pos)) :=
  if ho : okName f = true then
    if hg : kindIs c.sc f .globalImplicit = true then
      match ht : T.gl.lookup f with
      | some (.fn n ar) => match cEs k c es with
        | some r => some ⟨.call n ar r.x, r.o, fun q => .call hg ht ho (r.ok q)⟩
        | none => none
      | some (.err n fl) => match es with
        | [e] => if hs : notStar e = true then (match k.e c e with
            | some r => some ⟨.err false n fl r.x, r.o, fun q => .err hg ht ho hs (r.ok q)⟩
            | none => none) else none
        | _ => none
      | some (.err0 n) => match es with
        | [] => some ⟨.err0 n, [], fun _ => .err0 hg ht ho⟩
        | _ => none
      | some (.bare n) => match es with
        | [] => some ⟨.err0 n, [], fun _ => .bare hg ht ho⟩
        | _ => none
      | some (.cls _) => none
      | none => if hf : T.free.contains f = true then (match hb : biOf f with
          | some b => match es with
            | e :: r => match cEs k c (e :: r) with
              | some q => some ⟨.bi b q.x, q.o, fun z => .bi hg hf hb (q.ok z)⟩
              | none => none
            | [] => none
          | none => none) else none
    else if hv : visB c.sc f = true then (if h : c.N[c.N.idxOf f]? = some f then (match es with
        | [e] => if hs : notStar e = true then (match k.e c e with
            | some r => some ⟨.callL (c.N.idxOf f) r.x, r.o, fun q => .callL h hv ho hs (r.ok q)⟩
            | none => none) else none
        | _ => none) else none)
    else none
  else none
def cSeq (k : Ck T) (c : Cc) (tg e : Expr) : Option (RI T c tg e) := match k.e c e with
  | some r => some ⟨.seq r.x, r.o, fun q => .seq (r.ok q)⟩
  | none => none
def cEnm (k : Ck T) (c : Cc) (tg : Expr) (f : Str) (p : Pos) (a : Expr) (pos : Pos) : Option (RI T c tg (.Call (.Name f p) [a] [] pos)) := match tg with
  | .Tuple ts kk tp => if he : f = "enumerate" ∧ kindIs c.sc "enumerate" .globalImplicit = true ∧ T.free.contains "enumerate" = true ∧ notStar a = true then
      match k.e c a with
      | some r => some ⟨.enm r.x, r.o, fun q => by rw [he.1]; exact .enm he.2.1 he.2.2.1 he.2.2.2 (r.ok q)⟩
      | none => none
    else cSeq k c _ _
  | _ => cSeq k c _ _
def cIt (k : Ck T) (c : Cc) (tg e : Expr) : Option (RI T c tg e) := match e with
  | .Call (.Name f p) [a] [] pos =>
    if hr : f = "range" ∧ kindIs c.sc "range" .globalImplicit = true ∧ T.free.contains "range" = true ∧ notStar a = true then
      match k.e c a with
      | some r => some ⟨.rng r.x, r.o, fun q => by rw [hr.1]; exact .rng hr.2.1 hr.2.2.1 hr.2.2.2 (r.ok q)⟩
      | none => none
    else cEnm k c tg f p a pos
  | .Call (.Name f p) [a, b] [] pos => match tg with
    | .Tuple ts kk tp => if hz : f = "zip" ∧ kindIs c.sc "zip" .globalImplicit = true ∧ T.free.contains "zip" = true ∧ notStar a = true ∧ notStar b = true then
        match k.e c a, k.e c b with
        | some r, some u => some ⟨.zp r.x u.x, r.o ++ u.o, fun q => by rw [hz.1]; exact .zp hz.2.1 hz.2.2.1 hz.2.2.2.1 hz.2.2.2.2 (r.ok q.l) (u.ok q.r)⟩
        | _, _ => none
      else cSeq k c _ _
    | _ => cSeq k c _ _
  | e => cSeq k c tg e
def nset (e : Expr) : Bool := match e with | .Set _ _ _ => false | _ => true
/-- the names of a comprehension's own -/
def ownOf (N : List Str) (scope : Scope) : List (Str × Nat) := (scope.names.filter fun y => (y.2 == .local || y.2 == .cell) && N.contains y.1).map fun y => (y.1, N.idxOf y.1)
structure RC (T : Tb) (c : Cc) (elt tg iter : Expr) (ifs : List Expr) (scope : Scope) where
  x : E
  t : Tg
  it : It
  cs : List E
  own : List (Str × Nat)
  o : Obs
  h1 : blkC c.N c.sc scope own = true
  h2 : nset iter = true
  h3 : OO T o → Ci T c tg iter it
  h4 : Ct ⟨c.N, scope, none⟩ tg t
  h5 : ((slotsT t).all fun i => (own.map (·.2)).contains i) = true
  h6 : OO T o → Cps T ⟨c.N, scope, none⟩ ifs cs
  h7 : cs.length ≤ 1
  h8 : OO T o → Cp T ⟨c.N, scope, none⟩ elt x
def cComp (k : Ck T) (c : Cc) (elt tg iter : Expr) (ifs : List Expr) (scope : Scope) : Option (RC T c elt tg iter ifs scope) :=
  match cIt k c tg iter, k.t ⟨c.N, scope, none⟩ tg, cEs k ⟨c.N, scope, none⟩ ifs, k.e ⟨c.N, scope, none⟩ elt with
  | some i, some t, some cs, some x =>
    if h : blkC c.N c.sc scope (ownOf c.N scope) = true ∧ nset iter = true ∧ ((slotsT t.x).all fun i => ((ownOf c.N scope).map (·.2)).contains i) = true ∧ cs.x.length ≤ 1 then
      some ⟨x.x, t.x, i.x, cs.x, ownOf c.N scope, i.o ++ (cs.o ++ x.o), h.1, h.2.1, fun q => i.ok q.l, t.ok, h.2.2.1, fun q => cs.ok q.r.l, h.2.2.2, fun q => x.ok q.r.r⟩
    else none
  | _, _, _, _ => none
def stepC (ln : Pos → Nat) (k : Ck T) (c : Cc) (e : Expr) : Option (RE T c e) := match e with
  | .Name x pos => cName T c x pos
  | .Constant (.int i) j pos => some ⟨.cst (.int i), [], fun _ => .int⟩
  | .Constant (.str x) j pos => some ⟨.cst (.str x), [], fun _ => .str⟩
  | .Constant (.bool b) j pos => some ⟨.cst (.bl b), [], fun _ => .bl⟩
  | .Constant .none j pos => some ⟨.cst .non, [], fun _ => .non⟩
  | .BinOp a op b pos => match ho : opOf op, k.e c a, k.e c b with
    | some o, some x, some y => some ⟨.bin o x.x y.x, x.o ++ y.o, fun q => .bin ho (x.ok q.l) (y.ok q.r)⟩
    | _, _, _ => none
  | .Compare a [.Is] [.Constant .none j p2] pos => match k.e c a with
    | some x => some ⟨.cmp .isN x.x (.cst .non), x.o, fun q => .isN (x.ok q)⟩
    | none => none
  | .Compare a [.IsNot] [.Constant .none j p2] pos => match k.e c a with
    | some x => some ⟨.cmp .notN x.x (.cst .non), x.o, fun q => .notN (x.ok q)⟩
    | none => none
  | .Compare a [op] [b] pos => match ho : cmpOf op, k.e c a, k.e c b with
    | some o, some x, some y => if hm : behindInMarks op b = false then some ⟨.cmp o x.x y.x, x.o ++ y.o, fun q => .cmp ho hm (x.ok q.l) (y.ok q.r)⟩ else none
    | _, _, _ => none
  | .BoolOp .And [a, b] pos => match k.e c a, k.e c b with
    | some x, some y => some ⟨.and x.x y.x, x.o ++ y.o, fun q => .and2 (x.ok q.l) (y.ok q.r)⟩
    | _, _ => none
  | .BoolOp .And (a :: b :: d :: r) pos => match k.e c a, k.e c (.BoolOp .And (b :: d :: r) pos) with
    | some x, some y => some ⟨.and x.x y.x, x.o ++ y.o, fun q => .andN (x.ok q.l) (y.ok q.r)⟩
    | _, _ => none
  | .BoolOp .Or [a, b] pos => match k.e c a, k.e c b with
    | some x, some y => some ⟨.or x.x y.x, x.o ++ y.o, fun q => .or2 (x.ok q.l) (y.ok q.r)⟩
    | _, _ => none
  | .BoolOp .Or (a :: b :: d :: r) pos => match k.e c a, k.e c (.BoolOp .Or (b :: d :: r) pos) with
    | some x, some y => some ⟨.or x.x y.x, x.o ++ y.o, fun q => .orN (x.ok q.l) (y.ok q.r)⟩
    | _, _ => none
  | .UnaryOp .Not a pos => match k.e c a with
    | some x => some ⟨.not x.x, x.o, fun q => .not (x.ok q)⟩
    | none => none
  | .UnaryOp .USub (.Constant (.int i) j p) pos => some ⟨.cst (.int (-i)), [], fun _ => .neg⟩
  | .IfExp t a b pos => match k.e c t, k.e c a, k.e c b with
    | some u, some x, some y => some ⟨.ife u.x x.x y.x, u.o ++ (x.o ++ y.o), fun q => .ife (u.ok q.l) (x.ok q.r.l) (y.ok q.r.r)⟩
    | _, _, _ => none
  | .Tuple es n pos => match cEs k c es with
    | some r => some ⟨.tup r.x, r.o, fun q => .tup (r.ok q)⟩
    | none => none
  | .List es pos => match cEs k c es with
    | some r => some ⟨.lst r.x, r.o, fun q => .lst (r.ok q)⟩
    | none => none
  | .Subscript a b pos => if h : (match b with | .Slice _ _ _ _ => false | .Tuple _ _ _ => false | _ => true) = true then (match k.e c a, k.e c b with
      | some x, some y => some ⟨.idx x.x y.x, x.o ++ y.o, fun q => .idx h (x.ok q.l) (y.ok q.r)⟩
      | _, _ => none) else none
  | .Call (.Name f p) [] [⟨some fl, a, kp⟩] pos => if ho : okName f = true ∧ kindIs c.sc f .globalImplicit = true then (match ht : T.gl.lookup f with
      | some (.err n fl') => if hf : fl' = fl then (match k.e c a with
          | some x => some ⟨.err true n fl x.x, x.o, fun q => .errK ho.2 (by rw [ht, hf]) ho.1 (x.ok q)⟩
          | none => none) else none
      | _ => none) else none
  | .Call (.Name f p) es [] pos => cCallN k c f p es pos
  | .Call (.Attribute o m ap) [a] [] pos => match hm : mtOf m, k.e c o, k.e c a with
    | some kd, some x, some y => if h : noSup o = true ∧ (ap.endLine == pos.line) = true ∧ notStar a = true then some ⟨.mt kd x.x [y.x], x.o ++ y.o, fun q => .mt hm h.1 h.2.1 h.2.2 (x.ok q.l) (y.ok q.r)⟩ else none
    | _, _, _ => none
  | .Attribute o f pos => if h : noSup o = true then (match k.e c o with
      | some x => some ⟨.fld x.x f, x.o, fun q => .fld h (x.ok q)⟩
      | none => none) else none
  | .Dict [some (.Constant (.str x) j p)] [.Constant .none j' p'] pos => some ⟨.dct (.str x) .non, [], fun _ => .dct⟩
  | .Lambda ⟨po, ar, va, ko, [], kw, []⟩ body scope pos => match hq : c.q with
    | some q => if h : (scope.names.all fun y => !(y.2 == NameKind.free)) = true then some ⟨.lam (ln pos), [(ln pos, ⟨q ++ "<lambda>", ⟨po, ar, va, ko, [], kw, []⟩, body, scope⟩)], fun z => .lam hq (z _ (List.mem_singleton.mpr rfl)) (fun env => rfl) h⟩ else none
    | none => none
  | .ListComp elt [⟨tg, iter, ifs, 0⟩] scope pos => match cComp k c elt tg iter ifs scope with
    | some r => some ⟨.comp r.x r.t r.it r.cs (r.own.map (·.2)), r.o, fun q => .comp r.h1 r.h2 (r.h3 q) r.h4 r.h5 (r.h6 q) r.h7 (r.h8 q)⟩
    | none => none
  | _ => none
def cS (k : Ck T) (c : Cc) (st : Stmt) : Option (RS T c st) := match st with
  | .Assign [.Name y py] (.ListComp elt [⟨tg, iter, ifs, 0⟩] scope pos) spos => match cComp k c elt tg iter ifs scope with
    | some r => if h : c.N[c.N.idxOf y]? = some y ∧ kindIs c.sc y .local = true ∧ (py.line == pos.line) = true ∧ (scope.names.any fun (n, k) => n == y && (k == .local || k == .cell)) = false then
        some ⟨.asgC (c.N.idxOf y) r.x r.t r.it r.cs (r.own.map (·.2)), r.o, fun q => .asgC h.1 h.2.1 h.2.2.1 h.2.2.2 r.h1 r.h2 (r.h3 q) r.h4 r.h5 (r.h6 q) r.h7 (r.h8 q)⟩ else none
    | none => none
  | .Assign [tg] e pos => if h : notComp e = true ∧ (match tg, e with | .Tuple _ _ _, .Tuple _ _ _ => false | _, _ => true) = true then (match k.t c tg, k.e c e with
      | some t, some x => some ⟨.asg t.x x.x, x.o, fun q => .asg h.1 h.2 t.ok (x.ok q)⟩
      | _, _ => none) else none
  | .Expr e pos => if h : notComp e = true then (match k.e c e with
      | some x => some ⟨.ex x.x, x.o, fun q => .ex h (x.ok q)⟩
      | none => none) else none
  | .Return (some e) pos => match k.e c e with
    | some x => some ⟨.ret x.x, x.o, fun q => .ret (x.ok q)⟩
    | none => none
  | .If t a b pos => match k.e c t, k.ss c a, k.ss c b with
    | some x, some as, some bs => some ⟨.ife x.x as.x bs.x, x.o ++ (as.o ++ bs.o), fun q => .ife (x.ok q.l) (as.ok q.r.l) (bs.ok q.r.r)⟩
    | _, _, _ => none
  | .For tg iter b [] pos => if h : (match iter with | .Set _ _ _ => false | _ => true) = true then (match cIt k c tg iter, k.t c tg, k.ss c b with
      | some i, some t, some bs => some ⟨.for t.x i.x bs.x, i.o ++ bs.o, fun q => .for h (i.ok q.l) t.ok (bs.ok q.r)⟩
      | _, _, _ => none) else none
  | .Pass pos => some ⟨.pass, [], fun _ => .pass⟩
  | _ => none
def stepCs (k : Ck T) (c : Cc) : (l : List Stmt) → Option (RSs T c l)
  | [] => some ⟨[], [], fun _ => .nil⟩
  | st :: r => match cS k c st, k.ss c r with
    | some x, some xs => some ⟨x.x :: xs.x, x.o ++ xs.o, fun q => .cons (x.ok q.l) (xs.ok q.r)⟩
    | _, _ => none
end
def ck (T : Tb) (ln : Pos → Nat) : Nat → Ck T
  | 0 => ⟨fun _ _ => none, fun _ _ => none, fun _ _ => none⟩
  | n + 1 => ⟨stepC ln (ck T ln n), stepT (ck T ln n), stepCs (ck T ln n)⟩
/-- read: as given -/
theorem css_by {T : Tb} {ln : Pos → Nat} {n : Nat} {c : Cc} {l : List Stmt} {xs : List Sm} {o : Obs} (h : ((ck T ln n).ss c l).map (fun r => (r.x, r.o)) = some (xs, o)) (q : OO T o) : Css T c l xs := by
  cases z : (ck T ln n).ss c l with
  | none => rw [z] at h; cases h
  | some r => rw [z] at h; cases h; exact r.ok q
theorem cp_by {T : Tb} {ln : Pos → Nat} {n : Nat} {c : Cc} {e : Expr} {x : E} {o : Obs} (h : ((ck T ln n).e c e).map (fun r => (r.x, r.o)) = some (x, o)) (q : OO T o) : Cp T c e x := by
  cases z : (ck T ln n).e c e with
  | none => rw [z] at h; cases h
  | some r => rw [z] at h; cases h; exact r.ok q
end EV
set_option Elab.async false
set_option linter.all false
set_option maxRecDepth 100000
set_option maxHeartbeats 4000000
namespace DV
open PySem PySem.Spec PyProof.Rows L2 ER EV
/-! ### the reader -/
structure RX (D : DTb) (c : Cc) (e : Expr) where
  x : X
  ok : SE D c e (dX D x)
structure RXs (D : DTb) (c : Cc) (es : List Expr) where
  x : Xs
  ok : SA D c es (dXs D x)
structure RIx (D : DTb) (c : Cc) (tg e : Expr) where
  x : Ix
  ok : SI D c tg e (dIx D x)
structure RPo (D : DTb) (c : Cc) (e : Option Expr) where
  x : Po
  ok : SP D c e (dPo D x)
abbrev Rde (D : DTb) := (c : Cc) → (e : Expr) → RX D c e
section
variable {D : DTb}
def rBad (c : Cc) (e : Expr) : RX D c e := ⟨.bad, by unfold dX; exact s_bad⟩
def rTs (k : (c : Cc) → (e : Expr) → Option (RT c e)) (c : Cc) : (es : List Expr) → Option (RTs c es)
  | [] => some ⟨[], .nil⟩
  | e :: es => match k c e, rTs k c es with
    | some a, some b => some ⟨a.x :: b.x, .cons a.ok b.ok⟩
    | _, _ => none
def rT : Nat → (c : Cc) → (e : Expr) → Option (RT c e)
  | 0, _, _ => none
  | n + 1, c, e => match e with
    | .Name x pos => if h : c.N[c.N.idxOf x]? = some x ∧ (kindIs c.sc x .local || kindIs c.sc x .cell) = true then some ⟨.nm (c.N.idxOf x), .nm h.1 h.2⟩ else none
    | .Tuple es m pos => match rTs (rT n) c es with
      | some r => some ⟨.tp r.x, .tp r.ok⟩
      | none => none
    | _ => none
def rXs (k : Rde D) (c : Cc) : (es : List Expr) → Option (RXs D c es)
  | [] => some ⟨.nil, by unfold dXs; exact s_nil⟩
  | e :: es => if h : notStar e = true then match rXs k c es with
      | some b => some ⟨.cons (k c e).x b.x, by unfold dXs; exact s_cons h (k c e).ok b.ok⟩
      | none => none
    else none
def rName (c : Cc) (x : Str) (pos : Pos) : RX D c (.Name x pos) :=
  if ho : okName x = true then
    if hv : visB c.sc x = true then (if h : c.N[c.N.idxOf x]? = some x then ⟨.var (c.N.idxOf x), by unfold dX; exact s_var h hv ho⟩ else rBad c _)
    else if hg : kindIs c.sc x .globalImplicit = true then
      match ht : D.tb.gl.lookup x with
      | some g => match hv : g.val with
        | some a => ⟨.cst a, by unfold dX; exact s_cls hg ht hv ho⟩
        | none => rBad c _
      | none => match hc : D.gl.lookup x with
        | some (.con a) => ⟨.cst a, by unfold dX; exact s_con hg hc ho⟩
        | _ => if hf : D.tb.free.contains x = true then (match hn : tyOf? x with
          | some n => ⟨.cst (.ty n), by unfold dX; exact s_tyn hg hf hn⟩
          | none => rBad c _) else rBad c _
    else rBad c _
  else rBad c _
def glF (c : Cc) (D : DTb) (f : Str) : Bool := kindIs c.sc f .globalImplicit && D.tb.free.contains f
theorem glF_ok {c : Cc} {f : Str} (h : glF c D f = true) : kindIs c.sc f .globalImplicit = true ∧ D.tb.free.contains f = true := by
  unfold glF at h
  rwa [Bool.and_eq_true] at h
def rBi (k : Rde D) (c : Cc) (f : Str) (p : Pos) (e : Expr) (es : List Expr) (pos : Pos) : RX D c (.Call (.Name f p) (e :: es) [] pos) :=
  match rXs k c (e :: es) with
  | none => rBad c _
  | some r => if hn : notStar e = true then
      if h : f = "isinstance" ∧ glF c D "isinstance" = true then ⟨.bi .isi r.x, by unfold dX dBf; rw [h.1]; exact s_isi hn (glF_ok h.2).1 (glF_ok h.2).2 r.ok⟩
      else match es, r with
      | [], r =>
        if h : f = "len" ∧ glF c D "len" = true then ⟨.bi .len r.x, by unfold dX dBf; rw [h.1]; exact s_len hn (glF_ok h.2).1 (glF_ok h.2).2 r.ok⟩
        else if h : f = "all" ∧ glF c D "all" = true then ⟨.bi .all r.x, by unfold dX dBf; rw [h.1]; exact s_all hn (glF_ok h.2).1 (glF_ok h.2).2 r.ok⟩
        else if h : f = "any" ∧ glF c D "any" = true then ⟨.bi .any r.x, by unfold dX dBf; rw [h.1]; exact s_any hn (glF_ok h.2).1 (glF_ok h.2).2 r.ok⟩
        else if h : f = "list" ∧ glF c D "list" = true then ⟨.bi .list r.x, by unfold dX dBf; rw [h.1]; exact s_list hn (glF_ok h.2).1 (glF_ok h.2).2 r.ok⟩
        else if h : f = "tuple" ∧ glF c D "tuple" = true then ⟨.bi .tuple r.x, by unfold dX dBf; rw [h.1]; exact s_tuple hn (glF_ok h.2).1 (glF_ok h.2).2 r.ok⟩
        else if h : f = "dict" ∧ glF c D "dict" = true then ⟨.bi .dict r.x, by unfold dX dBf; rw [h.1]; exact s_dictOf hn (glF_ok h.2).1 (glF_ok h.2).2 r.ok⟩
        else if h : f = "str" ∧ glF c D "str" = true then ⟨.bi .str r.x, by unfold dX dBf; rw [h.1]; exact s_strI hn (glF_ok h.2).1 (glF_ok h.2).2 r.ok⟩
        else if h : f = "sum" ∧ glF c D "sum" = true then ⟨.bi .sum r.x, by unfold dX dBf; rw [h.1]; exact s_sum hn (glF_ok h.2).1 (glF_ok h.2).2 r.ok⟩
        else if h : f = "max" ∧ glF c D "max" = true then ⟨.bi .max r.x, by unfold dX dBf; rw [h.1]; exact s_max hn (glF_ok h.2).1 (glF_ok h.2).2 r.ok⟩
        else if h : f = "sorted" ∧ glF c D "sorted" = true then ⟨.bi .sorted r.x, by unfold dX dBf; rw [h.1]; exact s_sorted hn (glF_ok h.2).1 (glF_ok h.2).2 r.ok⟩
        else rBad c _
      | _, _ => rBad c _
    else rBad c _
def rLam (k : Rde D) (c : Cc) (f : Str) (p : Pos) (e : Expr) (pos : Pos) (t : TrD) (ht : D.tr.lookup f = some t) : RX D c (.Call (.Name f p) [e] [] pos) := match e with
  | .Lambda ⟨[], [], none, [], [], none, []⟩ body scope lpos => match hq : c.q with
    | some q => if h : kindIs c.sc f .globalImplicit = true ∧ okName f = true ∧ LamX.lamSB c.sc scope = true then
        ⟨.tried t (k ⟨c.N, scope, none⟩ body).x, by unfold dX; exact s_tried hq h.1 ht h.2.1 h.2.2 (k ⟨c.N, scope, none⟩ body).ok⟩ else rBad c _
    | none => rBad c _
  | _ => rBad c _
def rCallN (k : Rde D) (c : Cc) (f : Str) (p : Pos) (es : List Expr) (pos : Pos) : RX D c (.Call (.Name f p) es [] pos) :=
  match ht : D.tr.lookup f with
  | some t => match es with
    | [e] => rLam k c f p e pos t ht
    | _ => rBad c _
  | none => match hg : D.gl.lookup f with
    | some (.fn g n) => if h : kindIs c.sc f .globalImplicit = true ∧ okName f = true then (match es with
        | [] => if hn : n = 0 then ⟨.call g 0 .nil, by unfold dX dXs; subst hn; exact s_call0 h.1 hg h.2⟩ else rBad c _
        | e :: es => if hs : notStar e = true then (match rXs k c (e :: es) with
            | some r => ⟨.call g n r.x, by unfold dX; exact s_call hs h.1 hg h.2 r.ok⟩
            | none => rBad c _) else rBad c _) else rBad c _
    | some (.mk C g n) => if h : kindIs c.sc f .globalImplicit = true ∧ okName f = true then (match es with
        | [] => rBad c _
        | e :: es => if hs : notStar e = true then (match rXs k c (e :: es) with
            | some r => ⟨.make C g n r.x, by unfold dX; exact s_make hs h.1 hg h.2 r.ok⟩
            | none => rBad c _) else rBad c _) else rBad c _
    | some (.con _) => rBad c _
    | none => match es with
      | e :: es => rBi k c f p e es pos
      | [] => rBad c _
end
end DV
set_option Elab.async false
set_option linter.all false
set_option maxRecDepth 100000
set_option maxHeartbeats 4000000
namespace DV
open PySem PySem.Spec PyProof.Rows L2 ER EV
def opB : Operator → Bool
  | .Add => true | .Sub => true | .Mult => true | .FloorDiv => true | .Mod => true | .Pow => true
  | _ => false
theorem opB_ok {op : Operator} (h : opB op = true) : ∃ f, opF op = some f := by cases op <;> first | exact ⟨_, rfl⟩ | cases h
def cmpB : CmpOp → Bool
  | .Eq => true | .NotEq => true | .Lt => true | .LtE => true | .Gt => true | .GtE => true | .In => true | .NotIn => true
  | _ => false
theorem cmpB_ok {op : CmpOp} (h : cmpB op = true) : ∃ f, cmpF op = some f := by cases op <;> first | exact ⟨_, rfl⟩ | cases h
section
variable {D : DTb}
def rM1 (k : Rde D) (c : Cc) (o : Expr) (m : Str) (ap : Pos) (a : Expr) (pos : Pos) : RX D c (.Call (.Attribute o m ap) [a] [] pos) :=
  if h : noSup o = true ∧ (ap.endLine == pos.line) = true ∧ notStar a = true then
    if hm : m = "append" then ⟨.app (k c o).x (k c a).x, by unfold dX; subst hm; exact s_app h.1 h.2.1 h.2.2 (k c o).ok (k c a).ok⟩
    else if hm : m = "extend" then ⟨.extd (k c o).x (k c a).x, by unfold dX; subst hm; exact s_extd h.1 h.2.1 h.2.2 (k c o).ok (k c a).ok⟩
    else if hm : m = "count" then (match o, h with
      | .Attribute o' f ap2, h => if hz : D.tz.contains f = true ∧ noSup o' = true then ⟨.count (k c o').x f (k c a).x, by unfold dX; subst hm; exact s_count hz.1 hz.2 h.2.1 h.2.2 (k c o').ok (k c a).ok⟩ else rBad c _
      | _, _ => rBad c _)
    else rBad c _
  else rBad c _
def rM0 (k : Rde D) (c : Cc) (o : Expr) (m : Str) (ap : Pos) (pos : Pos) : RX D c (.Call (.Attribute o m ap) [] [] pos) :=
  if h : noSup o = true ∧ (ap.endLine == pos.line) = true ∧ m = "pop" then ⟨.pop (k c o).x, by unfold dX; rw [h.2.2]; exact s_pop h.1 h.2.1 (k c o).ok⟩ else rBad c _
def rM2 (k : Rde D) (c : Cc) (o : Expr) (m : Str) (ap : Pos) (a b : Expr) (pos : Pos) : RX D c (.Call (.Attribute o m ap) [a, b] [] pos) :=
  if h : noSup o = true ∧ (ap.endLine == pos.line) = true ∧ notStar a = true ∧ notStar b = true ∧ m = "get" then ⟨.get2 (k c o).x (k c a).x (k c b).x, by unfold dX; rw [h.2.2.2.2]; exact s_get2 h.1 h.2.1 h.2.2.1 h.2.2.2.1 (k c o).ok (k c a).ok (k c b).ok⟩ else rBad c _
def rSeq (k : Rde D) (c : Cc) (tg e : Expr) : RIx D c tg e := ⟨.seq (k c e).x, by unfold dIx; exact s_iSeq (k c e).ok⟩
def rEnm (k : Rde D) (c : Cc) (tg : Expr) (f : Str) (p : Pos) (a : Expr) (pos : Pos) : RIx D c tg (.Call (.Name f p) [a] [] pos) := match tg with
  | .Tuple ts kk tp => if h : f = "enumerate" ∧ glF c D "enumerate" = true ∧ notStar a = true then ⟨.enm (k c a).x, by unfold dIx; rw [h.1]; exact s_iEnm (glF_ok h.2.1).1 (glF_ok h.2.1).2 h.2.2 (k c a).ok⟩ else rSeq k c _ _
  | tg => rSeq k c tg _
def rIt (k : Rde D) (c : Cc) (tg e : Expr) : RIx D c tg e := match e with
  | .Call (.Name f p) [a] [] pos => if h : f = "range" ∧ glF c D "range" = true ∧ notStar a = true then ⟨.rng (k c a).x, by unfold dIx; rw [h.1]; exact s_iRng (glF_ok h.2.1).1 (glF_ok h.2.1).2 h.2.2 (k c a).ok⟩ else rEnm k c tg f p a pos
  | .Call (.Name f p) [a, b] [] pos => match tg with
    | .Tuple ts kk tp => if h : f = "zip" ∧ glF c D "zip" = true ∧ notStar a = true ∧ notStar b = true then ⟨.zip (k c a).x (k c b).x, by unfold dIx; rw [h.1]; exact s_iZip (glF_ok h.2.1).1 (glF_ok h.2.1).2 h.2.2.1 h.2.2.2 (k c a).ok (k c b).ok⟩ else rSeq k c _ _
    | tg => rSeq k c tg _
  | e => rSeq k c tg e
structure RCn (D : DTb) (c : Cc) (ifs : List Expr) where
  x : X
  ok : SC D c ifs (dX D x)
def rCn (k : Rde D) (c : Cc) (ifs : List Expr) : Option (RCn D c ifs) := match ifs with
  | [] => some ⟨.cst (.bl true), by unfold dX; exact s_c0⟩
  | [e] => some ⟨(k c e).x, s_c1 (k c e).ok⟩
  | _ => none
/-- what a comprehension of one clause is read as -/
structure RCp (D : DTb) (c : Cc) (tg iter : Expr) (ifs : List Expr) (scope : Scope) where
  t : Tg
  it : RIx D c tg iter
  cd : RCn D ⟨c.N, scope, none⟩ ifs
  own : List (Str × Nat)
  h1 : blkC c.N c.sc scope own = true
  h2 : nset iter = true
  h4 : Ct ⟨c.N, scope, none⟩ tg t
  h5 : ((slotsT t).all fun i => (own.map (·.2)).contains i) = true
def rCp (k : Rde D) (c : Cc) (tg iter : Expr) (ifs : List Expr) (scope : Scope) : Option (RCp D c tg iter ifs scope) :=
  match rT 3 ⟨c.N, scope, none⟩ tg, rCn k ⟨c.N, scope, none⟩ ifs with
  | some t, some cd => if h : blkC c.N c.sc scope (ownOf c.N scope) = true ∧ nset iter = true ∧ ((slotsT t.x).all fun i => ((ownOf c.N scope).map (·.2)).contains i) = true then
      some ⟨t.x, rIt k c tg iter, cd, ownOf c.N scope, h.1, h.2.1, t.ok, h.2.2⟩ else none
  | _, _ => none
def rComp (k : Rde D) (c : Cc) (elt tg iter : Expr) (ifs : List Expr) (scope : Scope) (pos : Pos) : RX D c (.ListComp elt [⟨tg, iter, ifs, 0⟩] scope pos) := match rCp k c tg iter ifs scope with
  | some r => ⟨.comp (k ⟨c.N, scope, none⟩ elt).x r.t r.it.x r.cd.x (r.own.map (·.2)), by unfold dX; exact s_comp r.h1 r.h2 r.it.ok r.h4 (gOf_ok _) r.h5 r.cd.ok (k ⟨c.N, scope, none⟩ elt).ok⟩
  | none => rBad c _
def rDc (k : Rde D) (c : Cc) (kx elt tg iter : Expr) (ifs : List Expr) (scope : Scope) (pos : Pos) : RX D c (.DictComp kx elt [⟨tg, iter, ifs, 0⟩] scope pos) := match rCp k c tg iter ifs scope with
  | some r => ⟨.dc (k ⟨c.N, scope, none⟩ kx).x (k ⟨c.N, scope, none⟩ elt).x r.t r.it.x r.cd.x (r.own.map (·.2)), by unfold dX; exact s_dc r.h1 r.h2 r.it.ok r.h4 (gOf_ok _) r.h5 r.cd.ok (k ⟨c.N, scope, none⟩ kx).ok (k ⟨c.N, scope, none⟩ elt).ok⟩
  | none => rBad c _
def rComp2 (k : Rde D) (c : Cc) (elt tg iter : Expr) (ifs : List Expr) (tg1 iter1 : Expr) (ifs1 : List Expr) (scope : Scope) (pos : Pos) : RX D c (.ListComp elt [⟨tg, iter, ifs, 0⟩, ⟨tg1, iter1, ifs1, 0⟩] scope pos) := match rCp k c tg iter ifs scope, rT 3 ⟨c.N, scope, none⟩ tg1, rCn k ⟨c.N, scope, none⟩ ifs1 with
  | some r, some t1, some cd1 => if h : nset iter1 = true ∧ ((slotsT t1.x).all fun i => (r.own.map (·.2)).contains i) = true then
      ⟨.comp2 (k ⟨c.N, scope, none⟩ elt).x r.t r.it.x r.cd.x t1.x (rIt k ⟨c.N, scope, none⟩ tg1 iter1).x cd1.x (r.own.map (·.2)) (slotsT t1.x), by
        unfold dX
        exact s_comp2 r.h1 h.2 r.h2 h.1 r.it.ok r.h4 (gOf_ok _) r.h5 r.cd.ok (rIt k ⟨c.N, scope, none⟩ tg1 iter1).ok t1.ok (gOf_ok _) (by simp) cd1.ok (k ⟨c.N, scope, none⟩ elt).ok⟩
    else rBad c _
  | _, _, _ => rBad c _
def rPo (k : Rde D) (c : Cc) (e : Option Expr) : RPo D c e := match e with
  | none => ⟨.none, by unfold dPo; exact s_pNone⟩
  | some e => ⟨.some (k c e).x, by unfold dPo; exact s_pSome (k c e).ok⟩
def rE (fz : Bool) (k : Rde D) (c : Cc) (e : Expr) : RX D c e := match e with
  | .Name x pos => rName c x pos
  | .Constant (.int i) j pos => ⟨.cst (.int i), by unfold dX; exact s_int⟩
  | .Constant (.str x) j pos => ⟨.cst (.str x), by unfold dX; exact s_str⟩
  | .Constant (.bool b) j pos => ⟨.cst (.bl b), by unfold dX; exact s_bl⟩
  | .Constant .none j pos => ⟨.cst .non, by unfold dX; exact s_non⟩
  | .BinOp a .Add b pos => match hl : D.bop.lookup ("__add__" : Str) with
    | some l => ⟨.add (k c a).x (k c b).x, by unfold dX; rw [hl]; exact s_add hl (k c a).ok (k c b).ok⟩
    | none => ⟨.bin .Add (k c a).x (k c b).x, by unfold dX; exact s_bin (op := .Add) rfl (k c a).ok (k c b).ok⟩
  | .BinOp a op b pos => if ho : opB op = true then ⟨.bin op (k c a).x (k c b).x, by obtain ⟨f, hf⟩ := opB_ok ho; unfold dX; rw [hf]; exact s_bin hf (k c a).ok (k c b).ok⟩ else rBad c _
  | .Compare a [.Is] [.Constant .none j p2] pos => ⟨.isN (k c a).x, by unfold dX; exact s_isN (k c a).ok⟩
  | .Compare a [.IsNot] [.Constant .none j p2] pos => ⟨.notN (k c a).x, by unfold dX; exact s_notN (k c a).ok⟩
  | .Compare a [.NotEq] [.List [] p2] pos => ⟨.neN (k c a).x (k c (.List [] p2)).x, by unfold dX; exact s_neN rfl (k c a).ok (k c (.List [] p2)).ok⟩
  | .Compare a [op] [b] pos => if ho : cmpB op = true ∧ behindInMarks op b = false then ⟨.cmp op (k c a).x (k c b).x, by obtain ⟨f, hf⟩ := cmpB_ok ho.1; unfold dX; rw [hf]; exact s_cmp hf ho.2 (k c a).ok (k c b).ok⟩ else rBad c _
  | .Compare a [op, op'] [b, d] pos => if ho : cmpB op = true ∧ cmpB op' = true ∧ lastMarks [op, op'] [b, d] = false then ⟨.chain op op' (k c a).x (k c b).x (k c d).x, by obtain ⟨f, hf⟩ := cmpB_ok ho.1; obtain ⟨g, hg⟩ := cmpB_ok ho.2.1; unfold dX; rw [hf, hg]; exact s_chain hf hg ho.2.2 (k c a).ok (k c b).ok (k c d).ok⟩ else rBad c _
  | .BoolOp .And [a, b] pos => ⟨.and (k c a).x (k c b).x, by unfold dX; exact s_and2 (k c a).ok (k c b).ok⟩
  | .BoolOp .And (a :: b :: d :: r) pos => ⟨.and (k c a).x (k c (.BoolOp .And (b :: d :: r) pos)).x, by unfold dX; exact s_andN (k c a).ok (k c (.BoolOp .And (b :: d :: r) pos)).ok⟩
  | .BoolOp .Or [a, b] pos => ⟨.or (k c a).x (k c b).x, by unfold dX; exact s_or2 (k c a).ok (k c b).ok⟩
  | .BoolOp .Or (a :: b :: d :: r) pos => ⟨.or (k c a).x (k c (.BoolOp .Or (b :: d :: r) pos)).x, by unfold dX; exact s_orN (k c a).ok (k c (.BoolOp .Or (b :: d :: r) pos)).ok⟩
  | .UnaryOp .Not a pos => ⟨.not (k c a).x, by unfold dX; exact s_not (k c a).ok⟩
  | .UnaryOp .USub (.Constant (.int i) j p) pos => ⟨.cst (.int (-i)), by unfold dX; exact s_neg⟩
  | .IfExp t a b pos => ⟨.ife (k c t).x (k c a).x (k c b).x, by unfold dX; exact s_ife (k c t).ok (k c a).ok (k c b).ok⟩
  | .Tuple es n pos => match rXs k c es with
    | some r => ⟨.tup r.x, by unfold dX; exact s_tup r.ok⟩
    | none => rBad c _
  | .List es pos => match rXs k c es with
    | some r => ⟨.lst r.x, by unfold dX; exact s_lst r.ok⟩
    | none => rBad c _
  | .Subscript a (.Slice lo hi none p2) pos => ⟨.cut (k c a).x (rPo k c lo).x (rPo k c hi).x, by unfold dX; exact s_cut (k c a).ok (rPo k c lo).ok (rPo k c hi).ok⟩
  | .Subscript a b pos => if h : (match b with | .Slice _ _ _ _ => false | .Tuple _ _ _ => false | _ => true) = true then ⟨.idx (k c a).x (k c b).x, by unfold dX; exact s_idx h (k c a).ok (k c b).ok⟩ else rBad c _
  | .Call (.Name f p) es [] pos => rCallN k c f p es pos
  | .Call (.Attribute o m ap) [] [] pos => rM0 k c o m ap pos
  | .Call (.Attribute o m ap) [a] [] pos => rM1 k c o m ap a pos
  | .Call (.Attribute o m ap) [a, b] [] pos => rM2 k c o m ap a b pos
  | .Attribute o f pos => if h : noSup o = true then ⟨.fld (k c o).x f, by unfold dX; exact s_fld h (k c o).ok⟩ else rBad c _
  | .Dict [] [] pos => match fz with
    | true => ⟨.dct0, by unfold dX; exact s_dct0⟩
    | false => ⟨.dict0, by unfold dX; exact s_dict0⟩
  | .ListComp elt [⟨tg, iter, ifs, 0⟩] scope pos => rComp k c elt tg iter ifs scope pos
  | .ListComp elt [⟨tg, iter, ifs, 0⟩, ⟨tg1, iter1, ifs1, 0⟩] scope pos => rComp2 k c elt tg iter ifs tg1 iter1 ifs1 scope pos
  | .DictComp kx elt [⟨tg, iter, ifs, 0⟩] scope pos => rDc k c kx elt tg iter ifs scope pos
  | e => rBad c e
def rd (fz : Bool) : Nat → Rde D
  | 0 => fun c e => rBad c e
  | n + 1 => rE fz (rd fz n)
end
end DV
set_option Elab.async false
set_option linter.all false
set_option maxRecDepth 100000
set_option maxHeartbeats 4000000
namespace DV
open PySem PySem.Spec PyProof.Rows L2 ER EV
structure RY (D : DTb) (c : Cc) (st : Stmt) where
  y : Y
  ok : SS D c st (dY D y)
structure RYs (D : DTb) (c : Cc) (l : List Stmt) where
  y : Y
  ok : SSs D c l (dY D y)
section
variable {D : DTb}
theorem ss_bad {c : Cc} {st : Stmt} : SS D c st sBad := fun _ => ⟨fun _ _ _ _ _ _ q => by obtain ⟨_, _, _, _, _, q⟩ := q; exact q.elim⟩
def yBad (c : Cc) (st : Stmt) : RY D c st := ⟨.bad, by unfold dY; exact ss_bad⟩
def rPar (k : Rde D) (c : Cc) (ts : List Expr) (kt : Nat) (pt : Pos) (es : List Expr) (k2 : Nat) (p2 pos : Pos) : RY D c (.Assign [.Tuple ts kt pt] (.Tuple es k2 p2) pos) := match ts, es with
  | [.Name x px, .Name y py], [a, b] =>
    if hc : cellIn c.sc [.Name x px, .Name y py] = true then (match rT 3 c (.Tuple [.Name x px, .Name y py] kt pt) with
      | some t => ⟨.asg t.x (k c (.Tuple [a, b] k2 p2)).x, by unfold dY; exact s_asgTX hc t.ok (gOf_ok _) (k c (.Tuple [a, b] k2 p2)).ok⟩
      | none => yBad c _)
    else (match rXs k c [a, b] with
      | some r => if h : c.N[c.N.idxOf x]? = some x ∧ c.N[c.N.idxOf y]? = some y ∧ c.N.idxOf x ≠ c.N.idxOf y ∧ kindIs c.sc x .local = true ∧ kindIs c.sc y .local = true ∧ (py.line == px.line) = true ∧ notStar a = true ∧ notStar b = true ∧ [a, b].all (foldedForSure 8) = false ∧ [a, b].all (constantsAlone 8) = false then
          ⟨.par (c.N.idxOf x) (c.N.idxOf y) r.x, by
            unfold dY
            obtain ⟨h1, h2, h3, h4, h5, h6, h7, h8, h9, h10⟩ := h
            exact s_par h1 h2 h3 h4 h5 h6 h7 h8 h9 h10 r.ok⟩ else yBad c _
      | none => yBad c _)
  | [.Name x px, .Name y py, .Name z pz], [a, b, d] =>
    if hc : cellIn c.sc [.Name x px, .Name y py, .Name z pz] = true then (match rT 3 c (.Tuple [.Name x px, .Name y py, .Name z pz] kt pt) with
      | some t => ⟨.asg t.x (k c (.Tuple [a, b, d] k2 p2)).x, by unfold dY; exact s_asgTX hc t.ok (gOf_ok _) (k c (.Tuple [a, b, d] k2 p2)).ok⟩
      | none => yBad c _)
    else (match rXs k c [a, b, d] with
      | some r => if h : c.N[c.N.idxOf x]? = some x ∧ c.N[c.N.idxOf y]? = some y ∧ c.N[c.N.idxOf z]? = some z ∧ c.N.idxOf x ≠ c.N.idxOf y ∧ c.N.idxOf x ≠ c.N.idxOf z ∧ c.N.idxOf y ≠ c.N.idxOf z ∧ kindIs c.sc x .local = true ∧ kindIs c.sc y .local = true ∧ kindIs c.sc z .local = true ∧ (py.line == px.line) = true ∧ (pz.line == px.line) = true ∧ notStar a = true ∧ notStar b = true ∧ notStar d = true ∧ [a, b, d].all (foldedForSure 8) = false ∧ [a, b, d].all (constantsAlone 8) = false then
          ⟨.par3 (c.N.idxOf x) (c.N.idxOf y) (c.N.idxOf z) r.x, by
            unfold dY
            obtain ⟨h1, h2, h3, h4, h5, h6, h7, h8, h9, h10, h11, h12, h13, h14, h15, h16⟩ := h
            exact s_par3 h1 h2 h3 h4 h5 h6 h7 h8 h9 h10 h11 h12 h13 h14 h15 h16 r.ok⟩ else yBad c _
      | none => yBad c _)
  | _, _ => yBad c _
def rFld (k : Rde D) (c : Cc) (o : Expr) (f : Str) (p1 : Pos) (e : Expr) (pos : Pos) : RY D c (.Assign [.Attribute o f p1] e pos) :=
  if hz : D.tz.contains f = false then
    ⟨.fldA (k c o).x f (k c e).x, by unfold dY; exact s_fldA hz (k c o).ok (k c e).ok⟩
  else match e with
  | .Call (.Name t p2) [a] [] p3 => if h : t = "tuple" ∧ glF c D "tuple" = true ∧ notStar a = true then ⟨.fldT (k c o).x f (k c a).x, by unfold dY; rw [h.1]; exact s_fldT h.2.2 (glF_ok h.2.1).1 (glF_ok h.2.1).2 (k c o).ok (k c a).ok⟩ else yBad c _
  | _ => yBad c _
def rRz (k : Rde D) (c : Cc) (f : Str) (p : Pos) (es : List Expr) (pos rp : Pos) : RY D c (.Raise (some (.Call (.Name f p) es [] pos)) none rp) :=
  if h : kindIs c.sc f .globalImplicit = true ∧ okName f = true then (match hg : D.tb.gl.lookup f with
    | some (.err C fl) => match es with
      | [e] => if hs : notStar e = true then ⟨.rz C fl (k c e).x, by unfold dY; exact s_rz h.1 hg h.2 hs (k c e).ok⟩ else yBad c _
      | _ => yBad c _
    | some (.err0 C) => match es with
      | [] => ⟨.rz0 C, by unfold dY; exact s_rz0 h.1 hg h.2⟩
      | _ => yBad c _
    | _ => yBad c _) else yBad c _
def rAsgN (k : Rde D) (c : Cc) (y : Str) (py : Pos) (e : Expr) (spos : Pos) : RY D c (.Assign [.Name y py] e spos) := match e with
  | .ListComp elt [⟨tg, iter, ifs, 0⟩] scope pos => match rCp k c tg iter ifs scope with
    | some r => if h : c.N[c.N.idxOf y]? = some y ∧ kindIs c.sc y .local = true ∧ (py.line == pos.line) = true ∧ (scope.names.any fun (n, k) => n == y && (k == .local || k == .cell)) = false then
        ⟨.asgC (c.N.idxOf y) (.comp (k ⟨c.N, scope, none⟩ elt).x r.t r.it.x r.cd.x (r.own.map (·.2))), by
          unfold dY dX
          exact s_asgC h.1 h.2.1 h.2.2.1 h.2.2.2 r.h1 r.h2 r.it.ok r.h4 (gOf_ok _) r.h5 r.cd.ok (k ⟨c.N, scope, none⟩ elt).ok⟩ else yBad c _
    | none => yBad c _
  | e => if h : notComp e = true ∧ notTT (.Name y py) e = true then (match rT 3 c (.Name y py) with
      | some t => ⟨.asg t.x (k c e).x, by unfold dY; exact s_asg h.1 h.2 t.ok (gOf_ok _) (k c e).ok⟩
      | none => yBad c _) else yBad c _
def rS (k : Rde D) (kss : (c : Cc) → (l : List Stmt) → RYs D c l) (c : Cc) (st : Stmt) : RY D c st := match st with
  | .Assign [.Name y py] e spos => if hc : kindIs c.sc y .cell = true ∧ c.N[c.N.idxOf y]? = some y then ⟨.asg (.nm (c.N.idxOf y)) (k c e).x, by unfold dY; exact s_asgX hc.1 hc.2 (gOf_ok _) (k c e).ok⟩ else rAsgN k c y py e spos
  | .Assign [.Tuple ts kt pt] (.Tuple es k2 p2) pos => rPar k c ts kt pt es k2 p2 pos
  | .Assign [.Attribute o f p1] e pos => rFld k c o f p1 e pos
  | .Assign [.Subscript o i p1] e pos => ⟨.putD (k c o).x (k c i).x (k c e).x, by unfold dY; exact s_putD (k c o).ok (k c i).ok (k c e).ok⟩
  | .Assign [tg] e pos => if h : notComp e = true ∧ notTT tg e = true then (match rT 3 c tg with
      | some t => ⟨.asg t.x (k c e).x, by unfold dY; exact s_asg h.1 h.2 t.ok (gOf_ok _) (k c e).ok⟩
      | none => yBad c _) else yBad c _
  | .Expr e pos => if h : notComp e = true then ⟨.ex (k c e).x, by unfold dY; exact s_ex h (k c e).ok⟩ else yBad c _
  | .Return (some e) pos => ⟨.ret (k c e).x, by unfold dY; exact s_ret (k c e).ok⟩
  | .If t a b pos => ⟨.ife (k c t).x (kss c a).y (kss c b).y, by unfold dY; exact s_if (k c t).ok (kss c a).ok (kss c b).ok⟩
  | .For tg iter b [] pos => if h : nset iter = true then (match rT 3 c tg with
      | some t => ⟨.for t.x (rIt k c tg iter).x (kss c b).y, by unfold dY; exact s_for h (rIt k c tg iter).ok t.ok (gOf_ok _) (kss c b).ok⟩
      | none => yBad c _) else yBad c _
  | .While t b [] pos => ⟨.wh (k c t).x (kss c b).y, by unfold dY; exact s_wh (k c t).ok (kss c b).ok⟩
  | .Pass pos => ⟨.pass, by unfold dY; exact s_pass⟩
  | .Raise (some (.Call (.Name f p) es [] pos)) none rp => rRz k c f p es pos rp
  | st => yBad c st
def rSs (k : Rde D) (kss : (c : Cc) → (l : List Stmt) → RYs D c l) (c : Cc) : (l : List Stmt) → RYs D c l
  | [] => ⟨.pass, by unfold dY; exact s_snil⟩
  | [st] => ⟨(rS k kss c st).y, s_sone (rS k kss c st).ok⟩
  | st :: st' :: r => ⟨.seq (rS k kss c st).y (rSs k kss c (st' :: r)).y, by
      show SSs D c (st :: st' :: r) (dY D (.seq _ _))
      unfold dY
      exact s_scons (rS k kss c st).ok (rSs k kss c (st' :: r)).ok⟩
def sBadY (c : Cc) (l : List Stmt) : RYs D c l := ⟨.bad, by
  unfold dY
  exact fun _ => ⟨fun _ _ _ _ _ _ q => by obtain ⟨_, _, _, _, _, q⟩ := q; exact q.elim⟩⟩
def rds (fz : Bool) : Nat → (c : Cc) → (l : List Stmt) → RYs D c l
  | 0 => fun c l => sBadY c l
  | n + 1 => rSs (rd fz 40) (rds fz n)
end
end DV
set_option Elab.async false
set_option linter.all false
set_option maxRecDepth 100000
set_option maxHeartbeats 4000000
namespace DV
open PySem PySem.Spec PyProof.Rows L2 ER EV
/-! ### a def's body: try at its top -/
structure RHt (c : Cc) (n : Option Str) (i : Option Nat) (st : Stmt) where
  j : Option Nat
  x : HX
  ok : HtR c n i st j x
def rHt (c : Cc) (n : Option Str) (i : Option Nat) (st : Stmt) : Option (RHt c n i st) := match st with
  | .Assign [.Name y py] e pos => match hx : hxB n e with
    | some x => if h : c.N[c.N.idxOf y]? = some y ∧ kindIs c.sc y .local = true ∧ i ≠ some (c.N.idxOf y) ∧ notComp e = true then some ⟨some (c.N.idxOf y), x, .asg h.1 h.2.1 h.2.2.1 h.2.2.2 hx⟩ else none
    | none => none
  | .Return (some e) pos => match hx : hxB n e with
    | some x => some ⟨none, x, .ret hx⟩
    | none => none
  | _ => none
structure RHd (D : DTb) (c : Cc) (hds : List ExceptHandler) where
  l : List HdD
  ok : HdR D c hds l
def gloOf : EV.GV → Option Nat := fun g => match g.val with | some (.glo C) => some C | _ => none
theorem gloOf_ok {g : EV.GV} {C : Nat} (h : gloOf g = some C) : g.val = some (.glo C) := by
  unfold gloOf at h
  split at h
  · rename_i e
    cases h
    exact e
  · cases h
def rHd (D : DTb) (c : Cc) : (hds : List ExceptHandler) → Option (RHd D c hds)
  | [] => some ⟨[], .nil⟩
  | .ExceptHandler (some (.Name x np)) none [st] pos :: hds => match rHd D c hds, rHt c none none st with
    | some r, some t => match hl : D.tb.gl.lookup x with
      | some g => match hg : gloOf g with
        | some Ch => if h : kindIs c.sc x .globalImplicit = true ∧ okName x = true then some ⟨⟨Ch, none, t.j, t.x⟩ :: r.l, .cons h.1 hl (gloOf_ok hg) h.2 t.ok r.ok⟩ else none
        | none => none
      | none => none
    | _, _ => none
  | .ExceptHandler (some (.Name x np)) (some n) [st] pos :: hds => match rHd D c hds, rHt c (some n) (some (c.N.idxOf n)) st with
    | some r, some t => match hl : D.tb.gl.lookup x with
      | some g => match hg : gloOf g with
        | some Ch => if h : kindIs c.sc x .globalImplicit = true ∧ okName x = true ∧ c.N[c.N.idxOf n]? = some n ∧ kindIs c.sc n .local = true ∧ okName n = true then some ⟨⟨Ch, some (c.N.idxOf n), t.j, t.x⟩ :: r.l, .as h.1 hl (gloOf_ok hg) h.2.1 h.2.2.1 h.2.2.2.1 h.2.2.2.2 t.ok r.ok⟩ else none
        | none => none
      | none => none
    | _, _ => none
  | _ => none
structure RFs (D : DTb) (c : Cc) (l : List Stmt) where
  y : Y
  ok : SF D c l (dY D y)
structure RF1 (D : DTb) (c : Cc) (st : Stmt) where
  y : Y
  ok : ST D c st (dY D y)
section
variable {D : DTb}
def rF1 (fz : Bool) (n : Nat) (c : Cc) (st : Stmt) : RF1 D c st := match st with
  | .Try body (h₀ :: hds) [] [] pos => match rHd D c (h₀ :: hds) with
    | some r => ⟨.tr c.N.length (rds fz n c body).y r.l, by unfold dY; exact t_try (rds fz n c body).ok r.ok⟩
    | none => ⟨.bad, by unfold dY; exact t_of ss_bad⟩
  | st => ⟨(rS (rd fz 40) (rds fz n) c st).y, t_of (rS (rd fz 40) (rds fz n) c st).ok⟩
def rF (fz : Bool) (n : Nat) (c : Cc) : (l : List Stmt) → RFs D c l
  | [] => ⟨.pass, by unfold dY; exact f_of s_snil⟩
  | [st] => ⟨(rF1 fz n c st).y, f_one (rF1 fz n c st).ok⟩
  | st :: st' :: r => ⟨.seq (rF1 fz n c st).y (rF fz n c (st' :: r)).y, by
      show SF D c (st :: st' :: r) (dY D (.seq _ _))
      unfold dY
      exact f_cons (rF1 fz n c st).ok (rF fz n c (st' :: r)).ok⟩
/-- read: as given -/
theorem rF_by {fz : Bool} {n : Nat} {c : Cc} {l : List Stmt} {y : Y} (h : (rF (D := D) fz n c l).y = y) : SF D c l (dY D y) := by
  subst h
  exact (rF fz n c l).ok
end
end DV
set_option Elab.async false
set_option linter.all false
set_option maxRecDepth 100000
set_option maxHeartbeats 4000000
namespace DV
open PySem PySem.Spec PyProof.Rows L2 ER EV
noncomputable section
/-! ### the call table, depth by depth -/
def runB (m : Out Fl) : Out A := bnd m fun f h => Fl.rec (motive := fun _ => Out A) (fun _ => .ok .non h) (fun a => .ok a h) (fun _ => .bad) (fun _ => .bad) f
def startQ (as : List A) : Nat → Sl := List.rec (motive := fun _ => Nat → Sl) (fun n => repl n) (fun a _ ih n => some a :: ih (n - 1)) as
theorem repl_eq : ∀ n, repl n = List.replicate n none
  | 0 => rfl
  | n + 1 => by show none :: repl n = _; rw [repl_eq n]; rfl
theorem startQ_eq : ∀ (as : List A) (n : Nat), startQ as n = as.map some ++ List.replicate (n - as.length) none
  | [], n => by show repl n = _; rw [repl_eq]; rfl
  | a :: as, n => by
    show some a :: startQ as (n - 1) = _
    rw [startQ_eq as (n - 1), List.map_cons, List.length_cons, List.cons_append]
    congr 3
    omega
abbrev Tab := Bn → Option (Nat × Dst)
def cD (tab : Tab) (pick : Bn → Option (List A → Hh → Out A)) (d : Nat) : Cl := Nat.rec (motive := fun _ => Cl) (fun _ _ _ => .bad) (fun _ ih f as h => Option.rec (motive := fun _ => Out A) (Option.rec (motive := fun _ => Out A) .bad (fun p => runB (p.2 ih (startQ as p.1) h)) (tab f)) (fun g => g as h) (pick f)) d
section
variable {B : DBs} {tab : Tab} {pick : Bn → Option (List A → Hh → Out A)}
/-- a def of the text -/
def DefG (B : DBs) (tab : Tab) (f : Bn) (n : Nat) (a : Addr) : Prop :=
  ∃ (name qual : Str) (params : Arguments) (body : List Stmt) (scope : Scope) (dV kV doc pm cdv ct oc : Value) (an od : Option Addr) (osl : Array (Option Value)) (N ps : List Str) (d : Dst) (qo : Option Str),
    tab f = some (N.length, d) ∧ ps.length = n ∧ PySem.W.keepIn B.bs.S.K (.ref a) = true ∧ B.bs.S.K.lookup a = some ⟨oc, od, .func (PySem.W.fnOf name qual params body scope dV kV doc pm an cdv ct), osl⟩ ∧ PySem.W.codeIn B.bs.S.K cdv qual = true ∧ FnScope N ps scope ∧
    Binds B.bs.S.K (PySem.W.fnOf name qual params body scope dV kV doc pm an cdv ct) ps [] ∧ SF B.D ⟨N, scope, qo⟩ body d ∧ QOk B.bs qual cdv qo
/-- a def whose promise is given -/
def PickG (B : DBs) (k : Nat) (g : List A → Hh → Out A) (f : Bn) (n : Nat) (a : Addr) : Prop :=
  ∃ fd ps, ps.length = n ∧ PySem.W.keepIn B.bs.S.K (.ref a) = true ∧ FnOk B.bs.P B.bs.w B.bs.S.K B.bs.mg B.bs.base (L2.CX B.bs.P B.bs.w) k a fd ps (spG B (fun _ => g) f n) ∧ Binds B.bs.S.K fd ps []
theorem spG_bad {f : Bn} {n : Nat} {vs : List V} {H : Hp} {Q : VK} {E : XK} (h : spG B (fun _ _ _ => .bad) f n vs H Q E) : False := by
  obtain ⟨_, ρ, h, as, _, _, q⟩ := h
  exact q
theorem fnG_bad {P : Program} {w : World} {K : PySem.W.Frag} {mg : Str → Option Value} {base : Heap} {CX : CXT} {k : Nat} {a : Addr} {fd : FuncData} {ps : List Str} {f : Bn} {n : Nat} : FnOk P w K mg base CX k a fd ps (spG B (fun _ _ _ => .bad) f n) :=
  ⟨fun vs H Q E q => (spG_bad q).elim, fun _ _ _ _ _ _ _ _ _ _ _ _ _ q => (spG_bad q).elim⟩
theorem call_okG {k0 : Nat} (h2 : 2 ≤ k0) (ok : DOk B) (defs : ∀ f n a, B.fa f = some (n, a) → (∃ g, pick f = some g ∧ PickG B k0 g f n a) ∨ (pick f = none ∧ DefG B tab f n a)) : ∀ d, CallG B (k0 + 4 * d) (cD tab pick d)
  | 0 => ⟨fun f n a hf => by
      rcases defs f n a hf with ⟨g, hp, fd, ps, e1, e3, FF, hb⟩ | ⟨hp, name, qual, params, body, scope, dV, kV, doc, pm, cdv, ct, oc, an, od, osl, N, ps, d, qo, d1, d4, d6, d7, d8, d9, d10, d11, d12⟩
      · exact ⟨fd, ps, e1, e3, fnG_bad, hb⟩
      · exact ⟨_, ps, d4, d6, fnG_bad, d10⟩⟩
  | d + 1 => ⟨fun f n a hf => by
      have CO := call_okG (k0 := k0) h2 ok defs d
      rcases defs f n a hf with ⟨g, hp, fd, ps, e1, e3, FF, hb⟩ | ⟨hp, name, qual, params, body, scope, dV, kV, doc, pm, cdv, ct, oc, an, od, osl, N, ps, dd, qo, d1, d4, d6, d7, d8, d9, d10, d11, d12⟩
      · refine ⟨fd, ps, e1, e3, (FF.mono (by omega)).imp fun vs H Q E q => ?_, hb⟩
        obtain ⟨hl, ρ, h, as, R, rs, q⟩ := q
        have q : (Option.rec (motive := fun _ => Out A) (Option.rec (motive := fun _ => Out A) .bad (fun p => runB (p.2 (cD tab pick d) (startQ as p.1) h)) (tab f)) (fun g => g as h) (pick f)).All (QW B.bs.S ρ H Q) (XW B.bs.S ρ H E) := q
        rw [hp] at q
        exact ⟨hl, ρ, h, as, R, rs, q⟩
      · refine ⟨_, ps, d4, d6, fn_of (k := k0 + 4 * d + 3) d7 d8 d9 (fun vs H Q E q => by rw [q.1, d4]) fun A' outer s H vs Q E hr q => ?_, d10⟩
        have O := ok_cx (B := B.bs) (k := k0 + 4 * d + 1) (E := E) (outer := outer) (H := H) (qo := qo) d9 (hr.mono (by omega)) (by omega) d12
        refine ⟨_, d11 ⟨rfl, ok, CO, O, fun _ => ⟨by omega, hr⟩⟩ ⟨rfl, rfl⟩, ?_⟩
        obtain ⟨hl, ρ, h, as, R, rs, q⟩ := q
        have q : (Option.rec (motive := fun _ => Out A) (Option.rec (motive := fun _ => Out A) .bad (fun p => runB (p.2 (cD tab pick d) (startQ as p.1) h)) (tab f)) (fun g => g as h) (pick f)).All (QW B.bs.S ρ H Q) (XW B.bs.S ρ H E) := q
        rw [hp, d1] at q
        have q : (bnd (dd (cD tab pick d) (startQ as N.length) h) fun f h => Fl.rec (motive := fun _ => Out A) (fun _ => .ok .non h) (fun a => .ok a h) (fun _ => .bad) (fun _ => .bad) f).All (QW B.bs.S ρ H Q) (XW B.bs.S ρ H E) := q
        rw [startQ_eq] at q
        refine ⟨ρ, h, _, R, start_rel rfl rs, gob q fun fl h1 q1 ρ1 H1 e1 R1 => ?_⟩
        cases fl with
        | nx s1 => exact fun σ1 rs1 => q1 ρ1 H1 _ e1 R1 rfl
        | rt a => exact fun v rv => q1 ρ1 H1 _ e1 R1 rv
        | bk s1 => exact q1.elim
        | ct s1 => exact q1.elim⟩
end
end
end DV
set_option Elab.async false
set_option linter.all false
set_option maxRecDepth 100000
set_option maxHeartbeats 4000000
namespace DV
open PySem PySem.Spec PyProof.Rows L2 ER EV
/-! ### printing: a tree as text of the quick parts -/
def pStr (x : Str) : String := "⟨⟨[" ++ ", ".intercalate (x.cps.toList.map toString) ++ "]⟩⟩"
def pBn : Bn → String
  | .z => ".z"
  | .s b => "(.s " ++ pBn b ++ ")"
  | .t b => "(.t " ++ pBn b ++ ")"
mutual
def pA : A → String
  | .non => ".non"
  | .bl b => "(.bl " ++ toString b ++ ")"
  | .int (.ofNat n) => "(.int (.ofNat " ++ toString n ++ "))"
  | .int (.negSucc n) => "(.int (.negSucc " ++ toString n ++ "))"
  | .str x => "(.str " ++ pStr x ++ ")"
  | .ty n => "(.ty " ++ toString n ++ ")"
  | .loc l => "(.loc " ++ pBn l ++ ")"
  | .glo n => "(.glo " ++ toString n ++ ")"
  | .tup xs => "(.tup [" ++ pAs xs ++ "])"
def pAs : List A → String
  | [] => ""
  | [x] => pA x
  | x :: y :: r => pA x ++ ", " ++ pAs (y :: r)
end
def pOp : Operator → String
  | .Add => "dAdd" | .Sub => "dSub" | .Mult => "dMul" | .FloorDiv => "dFdiv" | .Mod => "dMod" | .Pow => "dPow"
  | _ => "noOp"
def pCm : CmpOp → String
  | .Eq => "dEq" | .NotEq => "dNe" | .Lt => "dLt" | .LtE => "dLe" | .Gt => "dGt" | .GtE => "dGe" | .In => "dIn" | .NotIn => "dNin"
  | _ => "noOp"
def pBf : Bf → String
  | .len => "dLen" | .all => "dAll" | .any => "dAny" | .isi => "(dIsi kitA kitE.anc insL)" | .list => "dListOf" | .tuple => "dTupOf" | .dict => "dDictOf" | .str => "dStr" | .sum => "dSum" | .max => "dMax" | .sorted => "dSorted"
mutual
def pTg : Tg → String
  | .nm i => "(gNm " ++ toString i ++ ")"
  | .tp ts => "(gTp " ++ pTgs ts ++ ")"
def pTgs : List Tg → String
  | [] => "gNil0"
  | t :: ts => "(gCons0 " ++ pTg t ++ " " ++ pTgs ts ++ ")"
end
def pNs (l : List Nat) : String := toString l
def pHP : HP → String
  | .con a => ".con " ++ pA a
  | .ef f => ".ef " ++ pStr f
def pHX : HX → String
  | .one p => "(.one (" ++ pHP p ++ "))"
  | .tup ps => "(.tup [" ++ ", ".intercalate (ps.map pHP) ++ "])"
def pON : Option Nat → String
  | none => "none"
  | some n => "(some " ++ toString n ++ ")"
def pHd (h : HdD) : String := "⟨" ++ toString h.Ch ++ ", " ++ pON h.i ++ ", " ++ pON h.j ++ ", " ++ pHX h.x ++ "⟩"
def pHds (hs : List HdD) : String := "[" ++ ", ".intercalate (hs.map pHd) ++ "]"
def pTrD (t : TrD) : String := "⟨" ++ toString t.n ++ ", " ++ toString t.j ++ ", none, " ++ pA t.iv ++ ", " ++ pHds t.hs ++ "⟩"
mutual
def pX : X → String
  | .bad => "xBad"
  | .var i => "(xVar " ++ toString i ++ ")"
  | .cst a => "(xCst " ++ pA a ++ ")"
  | .bin op x y => "(x2 " ++ pOp op ++ " " ++ pX x ++ " " ++ pX y ++ ")"
  | .add x y => "(xOp2 bop_add dAdd " ++ pX x ++ " " ++ pX y ++ ")"
  | .cmp op x y => "(x2 " ++ pCm op ++ " " ++ pX x ++ " " ++ pX y ++ ")"
  | .neN x y => "(x2 dNeN " ++ pX x ++ " " ++ pX y ++ ")"
  | .chain op op' x y z => "(xChain " ++ pCm op ++ " " ++ pCm op' ++ " " ++ pX x ++ " " ++ pX y ++ " " ++ pX z ++ ")"
  | .isN x => "(xIsN " ++ pX x ++ ")"
  | .notN x => "(xNotN " ++ pX x ++ ")"
  | .and x y => "(xAnd " ++ pX x ++ " " ++ pX y ++ ")"
  | .or x y => "(xOr " ++ pX x ++ " " ++ pX y ++ ")"
  | .not x => "(xNot " ++ pX x ++ ")"
  | .ife t x y => "(xIfe " ++ pX t ++ " " ++ pX x ++ " " ++ pX y ++ ")"
  | .tup xs => "(xTup " ++ pXs xs ++ ")"
  | .lst xs => "(xLst " ++ pXs xs ++ ")"
  | .bi b xs => "(xBi " ++ pBf b ++ " " ++ pXs xs ++ ")"
  | .idx x y => "(x2 dIdx " ++ pX x ++ " " ++ pX y ++ ")"
  | .cut x lo hi => "(xCut " ++ pX x ++ " " ++ pPo lo ++ " " ++ pPo hi ++ ")"
  | .call f n xs => "(xCall " ++ pBn f ++ " " ++ toString n ++ " " ++ pXs xs ++ ")"
  | .make C f n xs => "(xMake " ++ toString C ++ " " ++ pBn f ++ " " ++ toString n ++ " " ++ pXs xs ++ ")"
  | .fld x f => "(xFld fldL " ++ pX x ++ " " ++ pStr f ++ ")"
  | .comp x t it cd own => "(xComp " ++ pX x ++ " " ++ pTg t ++ " " ++ pIx it ++ " " ++ pX cd ++ " " ++ pNs own ++ ")"
  | .comp2 x t it cd t1 it1 cd1 own vs1 => "(xComp2 " ++ pX x ++ " " ++ pTg t ++ " " ++ pIx it ++ " " ++ pX cd ++ " " ++ pTg t1 ++ " " ++ pIx it1 ++ " " ++ pX cd1 ++ " " ++ pNs own ++ " " ++ pNs vs1 ++ ")"
  | .dc k x t it cd own => "(xDc " ++ pX k ++ " " ++ pX x ++ " " ++ pTg t ++ " " ++ pIx it ++ " " ++ pX cd ++ " " ++ pNs own ++ ")"
  | .app x y => "(xApp " ++ pX x ++ " " ++ pX y ++ ")"
  | .extd x y => "(xExtd " ++ pX x ++ " " ++ pX y ++ ")"
  | .pop x => "(xPop " ++ pX x ++ ")"
  | .dict0 => "xDict0"
  | .dct0 => "xDct0"
  | .get2 x y z => "(xGet2 " ++ pX x ++ " " ++ pX y ++ " " ++ pX z ++ ")"
  | .tried t d => "(xTried xmL errF " ++ pTrD t ++ " " ++ pX d ++ ")"
  | .count x f y => "(xCount fldL " ++ pX x ++ " " ++ pStr f ++ " " ++ pX y ++ ")"
def pXs : Xs → String
  | .nil => "aNil"
  | .cons x xs => "(aCons " ++ pX x ++ " " ++ pXs xs ++ ")"
def pPo : Po → String
  | .none => "pNone"
  | .some x => "(pSome " ++ pX x ++ ")"
def pIx : Ix → String
  | .seq x => "(iSeqD " ++ pX x ++ ")"
  | .rng x => "(iRngD " ++ pX x ++ ")"
  | .enm x => "(iEnmD " ++ pX x ++ ")"
  | .zip x y => "(iZipD " ++ pX x ++ " " ++ pX y ++ ")"
end
def pY : Y → String
  | .bad => "sBad"
  | .asg t x => "(sAsg " ++ pTg t ++ " " ++ pX x ++ ")"
  | .asgC i x => "(sAsgC " ++ toString i ++ " " ++ pX x ++ ")"
  | .ex x => "(sEx " ++ pX x ++ ")"
  | .ret x => "(sRet " ++ pX x ++ ")"
  | .pass => "sPass"
  | .ife x a b => "(sIf " ++ pX x ++ " " ++ pY a ++ " " ++ pY b ++ ")"
  | .for t it b => "(sFor " ++ pTg t ++ " " ++ pIx it ++ " " ++ pY b ++ ")"
  | .wh x b => "(sWh " ++ pX x ++ " " ++ pY b ++ ")"
  | .fldA x f y => "(sFldA fldL " ++ pX x ++ " " ++ pStr f ++ " " ++ pX y ++ ")"
  | .fldT x f y => "(sFldT fldL " ++ pX x ++ " " ++ pStr f ++ " " ++ pX y ++ ")"
  | .putD x y z => "(sPutD " ++ pX x ++ " " ++ pX y ++ " " ++ pX z ++ ")"
  | .rz C f x => "(sRz " ++ toString C ++ " " ++ pStr f ++ " " ++ pX x ++ ")"
  | .rz0 C => "(sRz0 " ++ toString C ++ ")"
  | .par i j xs => "(sPar " ++ toString i ++ " " ++ toString j ++ " " ++ pXs xs ++ ")"
  | .par3 i j l xs => "(sPar3 " ++ toString i ++ " " ++ toString j ++ " " ++ toString l ++ " " ++ pXs xs ++ ")"
  | .tr n b hs => "(sTry xmL errF " ++ toString n ++ " " ++ pY b ++ " " ++ pHds hs ++ ")"
  | .seq a b => "(sSeq " ++ pY a ++ " " ++ pY b ++ ")"
end DV
set_option Elab.async false
set_option linter.all false
set_option maxRecDepth 100000
set_option maxHeartbeats 4000000
namespace DV
open PySem PySem.Spec PyProof.Rows L2 ER EV
noncomputable section
/-! ### the table as a tree, the check of all draws -/
inductive Tt where
  | e | b (v : Option (Nat × Dst)) (l r : Tt)
def getQ (t : Tt) (i : Bn) : Option (Nat × Dst) := Bn.rec (motive := fun _ => Tt → Option (Nat × Dst)) (fun t => Tt.rec (motive := fun _ => Option (Nat × Dst)) none (fun v _ _ _ _ => v) t) (fun _ ih t => Tt.rec (motive := fun _ => Option (Nat × Dst)) none (fun _ l _ _ _ => ih l) t) (fun _ ih t => Tt.rec (motive := fun _ => Option (Nat × Dst)) none (fun _ _ r _ _ => ih r) t) i t
def allQ (n : Nat) (f : Nat → Bool) : Bool := Nat.rec (motive := fun _ => Bool) true (fun m ih => Bool.rec (motive := fun _ => Bool) false ih (f m)) n
theorem allQ_ok {f : Nat → Bool} : ∀ {n : Nat}, allQ n f = true → ∀ r, r < n → f r = true
  | n + 1, h, r, hr => by
    have h : Bool.rec (motive := fun _ => Bool) false (allQ n f) (f n) = true := h
    cases e : f n with
    | false => rw [e] at h; cases h
    | true =>
      rw [e] at h
      by_cases q : r = n
      · rw [q]; exact e
      · exact allQ_ok h r (by omega)
def chkQ {α : Type} (p : α → Hh → Bool) (m : Out α) : Bool := Out.rec (motive := fun _ => Bool) (fun a h => p a h) (fun _ _ _ => false) false (fun n _ ih => allQ n ih) m
theorem chkQ_all {α : Type} {p : α → Hh → Bool} {X : Nat → List (Str × A) → Hh → Prop} : ∀ {m : Out α}, chkQ p m = true → m.All (fun a h => p a h = true) X
  | .ok _ _, q => q
  | .exc _ _ _, q => nomatch (show false = true from q)
  | .bad, q => nomatch (show false = true from q)
  | .pick n k, q => fun r hr => chkQ_all (m := k r) (allQ_ok (show allQ n (fun r => chkQ p (k r)) = true from q) r hr)
/-- a draw -/
def takeQ2 (as : List A) (h : Hh) : Out A := List.rec (motive := fun _ => Out A) .bad (fun a r _ => List.rec (motive := fun _ => Out A) .bad (fun b r' _ => List.rec (motive := fun _ => Out A)
  (A.casesOn (motive_1 := fun _ => Out A) a .bad (fun _ => .bad) (fun _ => .bad) (fun _ => .bad) (fun _ => .bad) (fun _ => .bad) (fun g => intK b fun n => Bool.rec (motive := fun _ => Out A) .bad
    (Hh.rec (motive := fun _ => Out A) (fun nx t c => Bool.rec (motive := fun _ => Out A) .bad (.pick n.toNat fun r => .ok (.int (.ofNat r)) ⟨nx, t, Nat.succ c⟩) (Nat.blt c 1000)) h) (Nat.beq g 99 && (decide (0 < n) && decide (n ≤ 1000)))) (fun _ => .bad)) (fun _ _ _ => .bad) r') r) as
end
end DV
set_option Elab.async false
set_option linter.all false
set_option maxRecDepth 100000
set_option maxHeartbeats 4000000
namespace K28
open PySem PySem.Spec PyProof.Rows L2 ER EV DV
def P : Program := PySem.Challenge.pw_tallytold_k28_patterns_refused_among_kno
def fdIn (x : Str) : List Stmt → Option (Arguments × List Stmt × Scope)
  | [] => none
  | .FunctionDef n a b _ _ _ s _ _ _ :: r => if n = x then some (a, b, s) else fdIn x r
  | _ :: r => fdIn x r
def clIn (C : Str) : List Stmt → List Stmt
  | [] => []
  | .ClassDef n _ _ b _ _ _ _ _ _ _ :: r => if n = C then b else clIn C r
  | _ :: r => clIn C r
def fd0 : Arguments × List Stmt × Scope := (⟨[], [], none, [], [], none, []⟩, [], ⟨.function, [], false, false, []⟩)
def fd (x : Str) : Arguments × List Stmt × Scope := (fdIn x P.main.body).getD fd0
def md (C x : Str) : Arguments × List Stmt × Scope := (fdIn x (clIn C P.main.body)).getD fd0
def clsN : List Str := ["TallyError", "BadAtom", "BadCount", "BadSize", "BadRow", "BadMany", "TooGreat", "BadPower", "BadPattern", "Unsettled", "BadCounts", "Misfit", "BadOffer", "Pattern", "Store", "Heap"]
def nErr : Nat := 13
def errF : List (Option Str) := [none, some "index", some "many", some "size", some "row", some "many", some "size", some "power", some "thing", none, some "index", none, some "index"]
def kitE : Kit := ⟨[([0], [7]), ([1, 0], [7]), ([2, 0], [7]), ([3, 0], [7]), ([4, 0], [7]), ([5, 0], [7]), ([6, 0], [7]), ([7, 0], [7]), ([8, 0], [7]), ([9, 0], [7]), ([10, 0], [7]), ([11, 0], [7]), ([12, 0], [7])], errF⟩
def kitA : Kit := ⟨[([0], [7]), ([1, 0], [7]), ([2, 0], [7]), ([3, 0], [7]), ([4, 0], [7]), ([5, 0], [7]), ([6, 0], [7]), ([7, 0], [7]), ([8, 0], [7]), ([9, 0], [7]), ([10, 0], [7]), ([11, 0], [7]), ([12, 0], [7]), ([13], []), ([14], []), ([15], [])], errF⟩
def tgl : List (Str × EV.GV) := [("TallyError", .bare 0), ("BadAtom", .err 1 "index"), ("BadCount", .err 2 "many"), ("BadSize", .err 3 "size"), ("BadRow", .err 4 "row"), ("BadMany", .err 5 "many"), ("TooGreat", .err 6 "size"), ("BadPower", .err 7 "power"), ("BadPattern", .err 8 "thing"), ("Unsettled", .err0 9), ("BadCounts", .err 10 "index"), ("Misfit", .err0 11), ("BadOffer", .err 12 "index"), ("Pattern", .cls 13), ("Store", .cls 14), ("Heap", .cls 15)]
def free : List Str := ["isinstance", "len", "all", "any", "range", "enumerate", "zip", "int", "bool", "str", "list", "tuple", "dict", "sum", "max", "sorted", "super"]
def tb : Tb := ⟨tgl, free, kitE, fun _ => none⟩
def c_is_integer : Cc := ⟨["thing"], (fd "is_integer").2.2, none⟩
def c_is_size : Cc := ⟨["thing"], (fd "is_size").2.2, none⟩
def c_is_list : Cc := ⟨["thing"], (fd "is_list").2.2, none⟩
def c_is_name : Cc := ⟨["thing", "sign"], (fd "is_name").2.2, none⟩
def c_is_led : Cc := ⟨["thing"], (fd "is_led").2.2, none⟩
def c_once : Cc := ⟨["things", "found", "thing"], (fd "once").2.2, none⟩
def c_checked_atoms : Cc := ⟨["atoms", "index", "atom", "variable"], (fd "checked_atoms").2.2, none⟩
def c_split : Cc := ⟨["atoms", "found", "atom", "apart", "joined", "some"], (fd "split").2.2, none⟩
def c_touches : Cc := ⟨["atoms", "other", "atom", "variable"], (fd "touches").2.2, none⟩
def c_orders : Cc := ⟨["things", "found", "at", "thing", "rest"], (fd "orders").2.2, none⟩
def c_numbered : Cc := ⟨["atoms", "names", "places", "at", "variable", "atom"], (fd "numbered").2.2, none⟩
def c_kind_of : Cc := ⟨["atoms", "names", "best", "order", "kind", "atom", "variable"], (fd "kind_of").2.2, none⟩
def c_width_of : Cc := ⟨["kind", "atom", "number"], (fd "width_of").2.2, none⟩
def c_ordered_kinds : Cc := ⟨["kinds", "many", "kind"], (fd "ordered_kinds").2.2, none⟩
def c_laid_out : Cc := ⟨["kinds", "found", "ahead", "kind", "number", "atom"], (fd "laid_out").2.2, none⟩
def c_named : Cc := ⟨["atoms", "number", "atom"], (fd "named").2.2, none⟩
def c_map_into : Cc := ⟨["one", "other", "goals", "found", "kind", "way", "number"], (fd "map_into").2.2, none⟩
def c_way_into : Cc := ⟨["kind", "goals", "waiting", "at", "known", "goal", "more", "number"], (fd "way_into").2.2, none⟩
def c_led : Cc := ⟨["atom", "goal", "known", "more", "number", "value"], (fd "led").2.2, none⟩
def c_stepped : Cc := ⟨["rows", "width", "left", "steps", "column", "at", "leads", "lead", "others", "lessened", "row", "k", "x", "y"], (fd "stepped").2.2, none⟩
def c_solved : Cc := ⟨["columns", "wanted", "rows", "left", "steps", "found", "at", "place", "column", "k", "row"], (fd "solved").2.2, none⟩
def c_check_patterns : Cc := ⟨["things", "thing"], (fd "check_patterns").2.2, none⟩
def c_pieces_once : Cc := ⟨["pattern"], (fd "pieces_once").2.2, none⟩
def c_helping : Cc := ⟨["known", "wished", "goal", "at", "pattern"], (fd "helping").2.2, none⟩
def c_vector : Cc := ⟨["pattern", "kinds", "kind"], (fd "vector").2.2, none⟩
def c_kinds_of : Cc := ⟨["patterns", "pattern", "kind"], (fd "kinds_of").2.2, none⟩
def c_exponents : Cc := ⟨["known", "wished", "places", "kinds", "numbers", "found", "at", "number", "pattern"], (fd "exponents").2.2, none⟩
def c_helpers : Cc := ⟨["known", "wished"], (fd "helpers").2.2, none⟩
def c_is_settled : Cc := ⟨["known", "wished"], (fd "is_settled").2.2, none⟩
def c_paper : Cc := ⟨["known", "wished", "found"], (fd "paper").2.2, none⟩
def c_is_paper : Cc := ⟨["known", "wished", "thing", "numbers", "kind", "row", "places", "part", "pattern", "at", "number"], (fd "is_paper").2.2, none⟩
def c_apart : Cc := ⟨["known", "wished", "some", "kinds", "free", "turn", "far", "powers", "pieces", "stores", "columns", "whole", "step", "copies", "moved", "bottom", "numbers", "at", "pattern", "row", "top", "kind", "piece", "store", "column", "k", "number", "power", "under"], (fd "apart").2.2, none⟩
def c_is_apart : Cc := ⟨["known", "wished", "thing", "one", "other", "home", "pattern"], (fd "is_apart").2.2, none⟩
def c_check_counts : Cc := ⟨["known", "counts", "at"], (fd "check_counts").2.2, none⟩
def c_tell : Cc := ⟨["known", "wished", "counts", "found", "places", "some", "kinds", "rows", "free", "top", "bottom", "numbers", "power", "root", "at", "kind"], (fd "tell").2.2, none⟩
def c_all_settled : Cc := ⟨["known", "wishes", "at", "wished"], (fd "all_settled").2.2, none⟩
def c_needless : Cc := ⟨["known", "found", "at", "pattern", "k", "other"], (fd "needless").2.2, none⟩
def c_least_more : Cc := ⟨["known", "wishes", "offers", "index", "thing", "found", "best", "places", "price", "more", "at", "wished", "some"], (fd "least_more").2.2, none⟩
def c_always : Cc := ⟨["one", "other"], (fd "always").2.2, none⟩
def c_always_paper : Cc := ⟨["one", "other", "found"], (fd "always_paper").2.2, none⟩
def c__law_one : Cc := ⟨["_law_spring_here", "_law_things"], (fd "_law_one").2.2, none⟩
def c__law_few : Cc := ⟨["_law_spring_here", "_law_things", "_law_thing"], (fd "_law_few").2.2, none⟩
def c__law_same : Cc := ⟨["_law_found", "_law_due", "_law_key", "_law_x", "_law_y"], (fd "_law_same").2.2, none⟩
def c__law_wished : Cc := ⟨["_law_known", "_law_wished_here", "_law_found"], (fd "_law_wished").2.2, some "_law_wished.<locals>."⟩
def c__law_lists : Cc := ⟨["_law_right", "_law_odd", "_law_worse", "_law_red", "_law_blue", "_law_known", "_law_found"], (fd "_law_lists").2.2, some "_law_lists.<locals>."⟩
def c_Pattern_init : Cc := ⟨["self", "atoms", "some", "kind"], (md "Pattern" "__init__").2.2, none⟩
def c_Pattern_add : Cc := ⟨["self", "other"], (md "Pattern" "__add__").2.2, none⟩
def c__law_tried : Cc := ⟨["_law_ask", "_law_found", "e"], (fd "_law_tried").2.2, none⟩
def c_law : Cc := ⟨["_law_script", "_law_spring_here", "_law_red", "_law_blue", "_law_turn", "_law_odd", "_law_worse", "_law_right", "_law_known", "_law_found"], (fd "law").2.2, some "law.<locals>."⟩
def dgl : List (Str × DV.GV) := [(("is_integer" : Str), DV.GV.fn .z 1), (("is_size" : Str), DV.GV.fn (.s .z) 1), (("is_list" : Str), DV.GV.fn (.t .z) 1), (("is_name" : Str), DV.GV.fn (.s (.s .z)) 1), (("is_led" : Str), DV.GV.fn (.t (.s .z)) 1), (("once" : Str), DV.GV.fn (.s (.t .z)) 1), (("checked_atoms" : Str), DV.GV.fn (.t (.t .z)) 1), (("split" : Str), DV.GV.fn (.s (.s (.s .z))) 1), (("touches" : Str), DV.GV.fn (.t (.s (.s .z))) 2), (("orders" : Str), DV.GV.fn (.s (.t (.s .z))) 1), (("numbered" : Str), DV.GV.fn (.t (.t (.s .z))) 2), (("kind_of" : Str), DV.GV.fn (.s (.s (.t .z))) 1), (("width_of" : Str), DV.GV.fn (.t (.s (.t .z))) 1), (("ordered_kinds" : Str), DV.GV.fn (.s (.t (.t .z))) 1), (("laid_out" : Str), DV.GV.fn (.t (.t (.t .z))) 1), (("named" : Str), DV.GV.fn (.s (.s (.s (.s .z)))) 1), (("map_into" : Str), DV.GV.fn (.t (.s (.s (.s .z)))) 2), (("way_into" : Str), DV.GV.fn (.s (.t (.s (.s .z)))) 2), (("led" : Str), DV.GV.fn (.t (.t (.s (.s .z)))) 3), (("stepped" : Str), DV.GV.fn (.s (.s (.t (.s .z)))) 2), (("solved" : Str), DV.GV.fn (.t (.s (.t (.s .z)))) 2), (("check_patterns" : Str), DV.GV.fn (.s (.t (.t (.s .z)))) 1), (("pieces_once" : Str), DV.GV.fn (.t (.t (.t (.s .z)))) 1), (("helping" : Str), DV.GV.fn (.s (.s (.s (.t .z)))) 2), (("vector" : Str), DV.GV.fn (.t (.s (.s (.t .z)))) 2), (("kinds_of" : Str), DV.GV.fn (.s (.t (.s (.t .z)))) 1), (("exponents" : Str), DV.GV.fn (.t (.t (.s (.t .z)))) 2), (("helpers" : Str), DV.GV.fn (.s (.s (.t (.t .z)))) 2), (("is_settled" : Str), DV.GV.fn (.t (.s (.t (.t .z)))) 2), (("paper" : Str), DV.GV.fn (.s (.t (.t (.t .z)))) 2), (("is_paper" : Str), DV.GV.fn (.t (.t (.t (.t .z)))) 3), (("apart" : Str), DV.GV.fn (.s (.s (.s (.s (.s .z))))) 2), (("is_apart" : Str), DV.GV.fn (.t (.s (.s (.s (.s .z))))) 3), (("check_counts" : Str), DV.GV.fn (.s (.t (.s (.s (.s .z))))) 2), (("tell" : Str), DV.GV.fn (.t (.t (.s (.s (.s .z))))) 3), (("all_settled" : Str), DV.GV.fn (.s (.s (.t (.s (.s .z))))) 2), (("needless" : Str), DV.GV.fn (.t (.s (.t (.s (.s .z))))) 1), (("least_more" : Str), DV.GV.fn (.s (.t (.t (.s (.s .z))))) 3), (("always" : Str), DV.GV.fn (.t (.t (.t (.s (.s .z))))) 2), (("always_paper" : Str), DV.GV.fn (.s (.s (.s (.t (.s .z))))) 2), (("_law_take" : Str), DV.GV.fn (.t (.s (.s (.t (.s .z))))) 2), (("_law_one" : Str), DV.GV.fn (.s (.t (.s (.t (.s .z))))) 2), (("_law_few" : Str), DV.GV.fn (.t (.t (.s (.t (.s .z))))) 2), (("_law_same" : Str), DV.GV.fn (.s (.s (.t (.t (.s .z))))) 2), (("_law_wished" : Str), DV.GV.fn (.t (.s (.t (.t (.s .z))))) 2), (("_law_lists" : Str), DV.GV.fn (.s (.t (.t (.t (.s .z))))) 3), (("SIGNS" : Str), DV.GV.con (.str "abcdefghijklmnopqrstuvwxyz")), (("FIGURES" : Str), DV.GV.con (.str "0123456789")), (("MOST_PLACES" : Str), DV.GV.con (.int 3)), (("ZERO" : Str), DV.GV.con (.tup [(.int 0), (.int 1)])), (("ONE" : Str), DV.GV.con (.tup [(.int 1), (.int 1)])), (("Pattern" : Str), DV.GV.mk 13 (.t (.t (.t (.t (.s .z))))) 1)]
def fldL : List (Nat × Str) := [(13, "kinds"), (13, "parts"), (13, "numbered_atoms")]
def insL : List Nat := [13]
def xmL : List (List (Option Bool)) := [[some true, some false, some false, some false, some false, some false, some false, some false, some false, some false, some false, some false, some false], [some true, some true, some false, some false, some false, some false, some false, some false, some false, some false, some false, some false, some false], [some true, some false, some true, some false, some false, some false, some false, some false, some false, some false, some false, some false, some false], [some true, some false, some false, some true, some false, some false, some false, some false, some false, some false, some false, some false, some false], [some true, some false, some false, some false, some true, some false, some false, some false, some false, some false, some false, some false, some false], [some true, some false, some false, some false, some false, some true, some false, some false, some false, some false, some false, some false, some false], [some true, some false, some false, some false, some false, some false, some true, some false, some false, some false, some false, some false, some false], [some true, some false, some false, some false, some false, some false, some false, some true, some false, some false, some false, some false, some false], [some true, some false, some false, some false, some false, some false, some false, some false, some true, some false, some false, some false, some false], [some true, some false, some false, some false, some false, some false, some false, some false, some false, some true, some false, some false, some false], [some true, some false, some false, some false, some false, some false, some false, some false, some false, some false, some true, some false, some false], [some true, some false, some false, some false, some false, some false, some false, some false, some false, some false, some false, some true, some false], [some true, some false, some false, some false, some false, some false, some false, some false, some false, some false, some false, some false, some true]]
def tr__law_tried : TrD := ⟨3, 1, none, .tup [], [⟨8, some 2, some 1, .tup [.con (.str "pattern"), .ef "thing"]⟩, ⟨9, none, some 1, .tup [.con (.str "unsettled")]⟩]⟩
def trL : List (Str × TrD) := [("_law_tried", tr__law_tried)]
def bop_add : List (Nat × Bn) := [(13, (.s (.s (.s (.s (.t .z))))))]
def bopL : List (Str × List (Nat × Bn)) := [("__add__", bop_add)]
def tzL : List Str := ["kinds"]
def D : DTb := ⟨tb, kitA, dgl, [], fldL, insL, xmL, trL, bopL, tzL⟩
def y_is_integer : Y := (rF (D := D) false 8 c_is_integer (fd "is_integer").2.1).y
def y_is_size : Y := (rF (D := D) false 8 c_is_size (fd "is_size").2.1).y
def y_is_list : Y := (rF (D := D) false 8 c_is_list (fd "is_list").2.1).y
def y_is_name : Y := (rF (D := D) false 8 c_is_name (fd "is_name").2.1).y
def y_is_led : Y := (rF (D := D) false 8 c_is_led (fd "is_led").2.1).y
def y_once : Y := (rF (D := D) false 8 c_once (fd "once").2.1).y
def y_checked_atoms : Y := (rF (D := D) false 8 c_checked_atoms (fd "checked_atoms").2.1).y
def y_split : Y := (rF (D := D) false 8 c_split (fd "split").2.1).y
def y_touches : Y := (rF (D := D) false 8 c_touches (fd "touches").2.1).y
def y_orders : Y := (rF (D := D) false 8 c_orders (fd "orders").2.1).y
def y_numbered : Y := (rF (D := D) false 8 c_numbered (fd "numbered").2.1).y
def y_kind_of : Y := (rF (D := D) false 8 c_kind_of (fd "kind_of").2.1).y
def y_width_of : Y := (rF (D := D) false 8 c_width_of (fd "width_of").2.1).y
def y_ordered_kinds : Y := (rF (D := D) false 8 c_ordered_kinds (fd "ordered_kinds").2.1).y
def y_laid_out : Y := (rF (D := D) false 8 c_laid_out (fd "laid_out").2.1).y
def y_named : Y := (rF (D := D) false 8 c_named (fd "named").2.1).y
def y_map_into : Y := (rF (D := D) false 8 c_map_into (fd "map_into").2.1).y
def y_way_into : Y := (rF (D := D) false 8 c_way_into (fd "way_into").2.1).y
def y_led : Y := (rF (D := D) false 8 c_led (fd "led").2.1).y
def y_stepped : Y := (rF (D := D) false 8 c_stepped (fd "stepped").2.1).y
def y_solved : Y := (rF (D := D) false 8 c_solved (fd "solved").2.1).y
def y_check_patterns : Y := (rF (D := D) false 8 c_check_patterns (fd "check_patterns").2.1).y
def y_pieces_once : Y := (rF (D := D) false 8 c_pieces_once (fd "pieces_once").2.1).y
def y_helping : Y := (rF (D := D) false 8 c_helping (fd "helping").2.1).y
def y_vector : Y := (rF (D := D) false 8 c_vector (fd "vector").2.1).y
def y_kinds_of : Y := (rF (D := D) false 8 c_kinds_of (fd "kinds_of").2.1).y
def y_exponents : Y := (rF (D := D) false 8 c_exponents (fd "exponents").2.1).y
def y_helpers : Y := (rF (D := D) false 8 c_helpers (fd "helpers").2.1).y
def y_is_settled : Y := (rF (D := D) false 8 c_is_settled (fd "is_settled").2.1).y
def y_paper : Y := (rF (D := D) false 8 c_paper (fd "paper").2.1).y
def y_is_paper : Y := (rF (D := D) false 8 c_is_paper (fd "is_paper").2.1).y
def y_apart : Y := (rF (D := D) false 8 c_apart (fd "apart").2.1).y
def y_is_apart : Y := (rF (D := D) false 8 c_is_apart (fd "is_apart").2.1).y
def y_check_counts : Y := (rF (D := D) false 8 c_check_counts (fd "check_counts").2.1).y
def y_tell : Y := (rF (D := D) false 8 c_tell (fd "tell").2.1).y
def y_all_settled : Y := (rF (D := D) false 8 c_all_settled (fd "all_settled").2.1).y
def y_needless : Y := (rF (D := D) false 8 c_needless (fd "needless").2.1).y
def y_least_more : Y := (rF (D := D) false 8 c_least_more (fd "least_more").2.1).y
def y_always : Y := (rF (D := D) false 8 c_always (fd "always").2.1).y
def y_always_paper : Y := (rF (D := D) false 8 c_always_paper (fd "always_paper").2.1).y
def y__law_one : Y := (rF (D := D) false 8 c__law_one (fd "_law_one").2.1).y
def y__law_few : Y := (rF (D := D) false 8 c__law_few (fd "_law_few").2.1).y
def y__law_same : Y := (rF (D := D) false 8 c__law_same (fd "_law_same").2.1).y
def y__law_wished : Y := (rF (D := D) false 8 c__law_wished (fd "_law_wished").2.1).y
def y__law_lists : Y := (rF (D := D) false 8 c__law_lists (fd "_law_lists").2.1).y
def y_Pattern_init : Y := (rF (D := D) false 8 c_Pattern_init (md "Pattern" "__init__").2.1).y
def y_Pattern_add : Y := (rF (D := D) false 8 c_Pattern_add (md "Pattern" "__add__").2.1).y
def ys : List (String × Y) := [("is_integer", y_is_integer), ("is_size", y_is_size), ("is_list", y_is_list), ("is_name", y_is_name), ("is_led", y_is_led), ("once", y_once), ("checked_atoms", y_checked_atoms), ("split", y_split), ("touches", y_touches), ("orders", y_orders), ("numbered", y_numbered), ("kind_of", y_kind_of), ("width_of", y_width_of), ("ordered_kinds", y_ordered_kinds), ("laid_out", y_laid_out), ("named", y_named), ("map_into", y_map_into), ("way_into", y_way_into), ("led", y_led), ("stepped", y_stepped), ("solved", y_solved), ("check_patterns", y_check_patterns), ("pieces_once", y_pieces_once), ("helping", y_helping), ("vector", y_vector), ("kinds_of", y_kinds_of), ("exponents", y_exponents), ("helpers", y_helpers), ("is_settled", y_is_settled), ("paper", y_paper), ("is_paper", y_is_paper), ("apart", y_apart), ("is_apart", y_is_apart), ("check_counts", y_check_counts), ("tell", y_tell), ("all_settled", y_all_settled), ("needless", y_needless), ("least_more", y_least_more), ("always", y_always), ("always_paper", y_always_paper), ("_law_one", y__law_one), ("_law_few", y__law_few), ("_law_same", y__law_same), ("_law_wished", y__law_wished), ("_law_lists", y__law_lists), ("Pattern_init", y_Pattern_init), ("Pattern_add", y_Pattern_add)]
def lawSt (i : Nat) : List Stmt := ((fd "law").2.1.drop i).take 1
def lawLoop : List Stmt := match (fd "law").2.1 with
  | [_, _, .For _ _ b _ _, _] => b
  | _ => []
def y_law1 : Y := (rds (D := D) true 8 c_law (lawSt 1)).y
def y_l1 : Y := (rds (D := D) true 8 c_law (lawLoop.take 8)).y
def y_ld : Y := (rds (D := D) true 8 c_law (lawLoop.drop 8)).y
def y_ret : Y := (rds (D := D) true 8 c_law (lawSt 3)).y
def ysL : List (String × Y) := [("law1", y_law1), ("l1", y_l1), ("ld", y_ld), ("ret", y_ret)]
end K28
set_option Elab.async false
set_option linter.all false
set_option maxRecDepth 100000
set_option maxHeartbeats 4000000
namespace K28
open PySem PySem.Spec PyProof.Rows L2 ER EV DV
noncomputable section
def d_is_integer : Dst := (sRet (xAnd (xBi (dIsi kitA kitE.anc insL) (aCons (xVar 0) (aCons (xCst (.ty 0)) aNil))) (xNot (xBi (dIsi kitA kitE.anc insL) (aCons (xVar 0) (aCons (xCst (.ty 1)) aNil))))))
def d_is_size : Dst := (sRet (xAnd (xCall .z 1 (aCons (xVar 0) aNil)) (x2 dGe (xVar 0) (xCst (.int (.ofNat 0))))))
def d_is_list : Dst := (sRet (xBi (dIsi kitA kitE.anc insL) (aCons (xVar 0) (aCons (xTup (aCons (xCst (.ty 3)) (aCons (xCst (.ty 4)) aNil))) aNil))))
def d_is_name : Dst := (sSeq (sIf (xOr (xNot (xBi (dIsi kitA kitE.anc insL) (aCons (xVar 0) (aCons (xCst (.ty 2)) aNil)))) (xOr (xNot (xChain dLe dLe (xCst (.int (.ofNat 1))) (xBi dLen (aCons (xVar 0) aNil)) (xCst (.int (.ofNat 8))))) (x2 dNin (x2 dIdx (xVar 0) (xCst (.int (.ofNat 0)))) (xCst (.str ⟨⟨[97, 98, 99, 100, 101, 102, 103, 104, 105, 106, 107, 108, 109, 110, 111, 112, 113, 114, 115, 116, 117, 118, 119, 120, 121, 122]⟩⟩))))) (sRet (xCst (.bl false))) sPass) (sRet (xBi dAll (aCons (xComp (x2 dIn (xVar 1) (xOp2 bop_add dAdd (xCst (.str ⟨⟨[97, 98, 99, 100, 101, 102, 103, 104, 105, 106, 107, 108, 109, 110, 111, 112, 113, 114, 115, 116, 117, 118, 119, 120, 121, 122]⟩⟩)) (xCst (.str ⟨⟨[48, 49, 50, 51, 52, 53, 54, 55, 56, 57]⟩⟩)))) (gNm 1) (iSeqD (xVar 0)) (xCst (.bl true)) [1]) aNil))))
def d_is_led : Dst := (sRet (xAnd (xCall (.t .z) 1 (aCons (xVar 0) aNil)) (xAnd (xChain dLe dLe (xCst (.int (.ofNat 2))) (xBi dLen (aCons (xVar 0) aNil)) (xOp2 bop_add dAdd (xCst (.int (.ofNat 3))) (xCst (.int (.ofNat 1))))) (xCall (.s (.s .z)) 1 (aCons (x2 dIdx (xVar 0) (xCst (.int (.ofNat 0)))) aNil)))))
def d_once : Dst := (sSeq (sAsg (gNm 1) (xLst aNil)) (sSeq (sFor (gNm 2) (iSeqD (xVar 0)) (sIf (x2 dNin (xVar 2) (xVar 1)) (sEx (xApp (xVar 1) (xVar 2))) sPass)) (sRet (xVar 1))))
def d_checked_atoms : Dst := (sSeq (sIf (xNot (xCall (.t .z) 1 (aCons (xVar 0) aNil))) (sRz 1 ⟨⟨[105, 110, 100, 101, 120]⟩⟩ (xCst (.int (.ofNat 0)))) sPass) (sSeq (sFor (gTp (gCons0 (gNm 1) (gCons0 (gNm 2) gNil0))) (iEnmD (xVar 0)) (sIf (xOr (xNot (xCall (.t (.s .z)) 1 (aCons (xVar 2) aNil))) (xNot (xBi dAll (aCons (xComp (xCall (.s (.s .z)) 1 (aCons (xVar 3) aNil)) (gNm 3) (iSeqD (xCut (xVar 2) (pSome (xCst (.int (.ofNat 1)))) pNone)) (xCst (.bl true)) [3]) aNil)))) (sRz 1 ⟨⟨[105, 110, 100, 101, 120]⟩⟩ (xVar 1)) sPass)) (sRet (xComp (xBi dTupOf (aCons (xVar 2) aNil)) (gNm 2) (iSeqD (xVar 0)) (xCst (.bl true)) [2]))))
def d_split : Dst := (sSeq (sAsg (gNm 1) (xLst aNil)) (sSeq (sFor (gNm 2) (iSeqD (xVar 0)) (sSeq (sAsgC 3 (xComp (xVar 5) (gNm 5) (iSeqD (xVar 1)) (xNot (xCall (.t (.s (.s .z))) 2 (aCons (xVar 5) (aCons (xVar 2) aNil)))) [5])) (sSeq (sAsg (gNm 4) (xLst (aCons (xVar 2) aNil))) (sSeq (sFor (gNm 5) (iSeqD (xComp (xVar 5) (gNm 5) (iSeqD (xVar 1)) (xCall (.t (.s (.s .z))) 2 (aCons (xVar 5) (aCons (xVar 2) aNil))) [5])) (sAsg (gNm 4) (xOp2 bop_add dAdd (xVar 5) (xVar 4)))) (sAsg (gNm 1) (xOp2 bop_add dAdd (xVar 3) (xLst (aCons (xVar 4) aNil)))))))) (sRet (xVar 1))))
def d_touches : Dst := (sRet (xBi dAny (aCons (xComp2 (x2 dIn (xVar 3) (xCut (xVar 1) (pSome (xCst (.int (.ofNat 1)))) pNone)) (gNm 2) (iSeqD (xVar 0)) (xCst (.bl true)) (gNm 3) (iSeqD (xCut (xVar 2) (pSome (xCst (.int (.ofNat 1)))) pNone)) (xCst (.bl true)) [2, 3] [3]) aNil)))
def d_orders : Dst := (sSeq (sIf (x2 dEq (xVar 0) (xLst aNil)) (sRet (xLst (aCons (xLst aNil) aNil))) sPass) (sSeq (sAsg (gNm 1) (xLst aNil)) (sSeq (sFor (gTp (gCons0 (gNm 2) (gCons0 (gNm 3) gNil0))) (iEnmD (xVar 0)) (sEx (xExtd (xVar 1) (xComp (xOp2 bop_add dAdd (xLst (aCons (xVar 3) aNil)) (xVar 4)) (gNm 4) (iSeqD (xCall (.s (.t (.s .z))) 1 (aCons (xOp2 bop_add dAdd (xCut (xVar 0) pNone (pSome (xVar 2))) (xCut (xVar 0) (pSome (xOp2 bop_add dAdd (xVar 2) (xCst (.int (.ofNat 1))))) pNone)) aNil))) (xCst (.bl true)) [4])))) (sRet (xVar 1)))))
def d_numbered : Dst := (sSeq (sAsg (gNm 2) (xDc (xVar 4) (xVar 3) (gTp (gCons0 (gNm 3) (gCons0 (gNm 4) gNil0))) (iEnmD (xVar 1)) (xCst (.bl true)) [3, 4])) (sRet (xBi dTupOf (aCons (xBi dSorted (aCons (xComp (xOp2 bop_add dAdd (xTup (aCons (x2 dIdx (xVar 5) (xCst (.int (.ofNat 0)))) aNil)) (xBi dTupOf (aCons (xComp (x2 dIdx (xVar 2) (xVar 4)) (gNm 4) (iSeqD (xCut (xVar 5) (pSome (xCst (.int (.ofNat 1)))) pNone)) (xCst (.bl true)) [4]) aNil))) (gNm 5) (iSeqD (xVar 0)) (xCst (.bl true)) [5]) aNil)) aNil))))
def d_kind_of : Dst := (sSeq (sAsg (gNm 1) (xCall (.s (.t .z)) 1 (aCons (xComp2 (xVar 6) (gNm 5) (iSeqD (xVar 0)) (xCst (.bl true)) (gNm 6) (iSeqD (xCut (xVar 5) (pSome (xCst (.int (.ofNat 1)))) pNone)) (xCst (.bl true)) [5, 6] [6]) aNil))) (sSeq (sAsg (gNm 2) (xCst .non)) (sSeq (sFor (gNm 3) (iSeqD (xCall (.s (.t (.s .z))) 1 (aCons (xVar 1) aNil))) (sSeq (sAsg (gNm 4) (xCall (.t (.t (.s .z))) 2 (aCons (xVar 0) (aCons (xVar 3) aNil)))) (sAsg (gNm 2) (xIfe (xOr (xIsN (xVar 2)) (x2 dLt (xVar 4) (xVar 2))) (xVar 4) (xVar 2))))) (sRet (xVar 2)))))
def d_width_of : Dst := (sRet (xOp2 bop_add dAdd (xCst (.int (.ofNat 1))) (xBi dMax (aCons (xComp2 (xVar 2) (gNm 1) (iSeqD (xVar 0)) (xCst (.bl true)) (gNm 2) (iSeqD (xCut (xVar 1) (pSome (xCst (.int (.ofNat 1)))) pNone)) (xCst (.bl true)) [1, 2] [2]) aNil))))
def d_ordered_kinds : Dst := (sRet (xComp (xVar 2) (gTp (gCons0 (gNm 1) (gCons0 (gNm 2) gNil0))) (iSeqD (xBi dSorted (aCons (xComp (xTup (aCons (xBi dLen (aCons (xVar 2) aNil)) (aCons (xVar 2) aNil))) (gNm 2) (iSeqD (xVar 0)) (xCst (.bl true)) [2]) aNil))) (xCst (.bl true)) [1, 2]))
def d_laid_out : Dst := (sSeq (sAsg (gTp (gCons0 (gNm 1) (gCons0 (gNm 2) gNil0))) (xTup (aCons (xLst aNil) (aCons (xCst (.int (.ofNat 0))) aNil)))) (sSeq (sFor (gNm 3) (iSeqD (xVar 0)) (sSeq (sAsg (gNm 1) (xOp2 bop_add dAdd (xVar 1) (xComp (xOp2 bop_add dAdd (xTup (aCons (x2 dIdx (xVar 5) (xCst (.int (.ofNat 0)))) aNil)) (xBi dTupOf (aCons (xComp (xOp2 bop_add dAdd (xVar 4) (xVar 2)) (gNm 4) (iSeqD (xCut (xVar 5) (pSome (xCst (.int (.ofNat 1)))) pNone)) (xCst (.bl true)) [4]) aNil))) (gNm 5) (iSeqD (xVar 3)) (xCst (.bl true)) [5]))) (sAsg (gNm 2) (xOp2 bop_add dAdd (xVar 2) (xCall (.t (.s (.t .z))) 1 (aCons (xVar 3) aNil)))))) (sRet (xVar 1))))
def d_named : Dst := (sRet (xComp (xOp2 bop_add dAdd (xTup (aCons (x2 dIdx (xVar 2) (xCst (.int (.ofNat 0)))) aNil)) (xBi dTupOf (aCons (xComp (xOp2 bop_add dAdd (xCst (.str ⟨⟨[118]⟩⟩)) (xBi dStr (aCons (xVar 1) aNil))) (gNm 1) (iSeqD (xCut (xVar 2) (pSome (xCst (.int (.ofNat 1)))) pNone)) (xCst (.bl true)) [1]) aNil))) (gNm 2) (iSeqD (xVar 0)) (xCst (.bl true)) [2]))
def d_map_into : Dst := (sSeq (sAsg (gNm 2) (xCall (.s (.t .z)) 1 (aCons (xCall (.t (.t (.t .z))) 1 (aCons (xFld fldL (xVar 1) ⟨⟨[107, 105, 110, 100, 115]⟩⟩) aNil)) aNil))) (sSeq (sAsg (gNm 3) (xLst aNil)) (sSeq (sFor (gNm 4) (iSeqD (xFld fldL (xVar 0) ⟨⟨[107, 105, 110, 100, 115]⟩⟩)) (sSeq (sAsg (gNm 5) (xCall (.s (.t (.s (.s .z)))) 2 (aCons (xVar 4) (aCons (xVar 2) aNil)))) (sSeq (sIf (xIsN (xVar 5)) (sRet (xCst .non)) sPass) (sEx (xExtd (xVar 3) (xComp (xOp2 bop_add dAdd (xCst (.str ⟨⟨[118]⟩⟩)) (xBi dStr (aCons (xVar 6) aNil))) (gNm 6) (iSeqD (xVar 5)) (xCst (.bl true)) [6])))))) (sRet (xBi dTupOf (aCons (xVar 3) aNil))))))
def d_way_into : Dst := (sSeq (sAsg (gNm 2) (xLst (aCons (xTup (aCons (xCst (.int (.ofNat 0))) (aCons xDict0 aNil))) aNil))) (sSeq (sWh (x2 dNeN (xVar 2) (xLst aNil)) (sSeq (sAsg (gTp (gCons0 (gNm 3) (gCons0 (gNm 4) gNil0))) (xPop (xVar 2))) (sSeq (sIf (x2 dEq (xVar 3) (xBi dLen (aCons (xVar 0) aNil))) (sRet (xComp (x2 dIdx (xVar 4) (xVar 7)) (gNm 7) (iRngD (xCall (.t (.s (.t .z))) 1 (aCons (xVar 0) aNil))) (xCst (.bl true)) [7])) sPass) (sFor (gNm 5) (iSeqD (xVar 1)) (sSeq (sAsg (gNm 6) (xCall (.t (.t (.s (.s .z)))) 3 (aCons (x2 dIdx (xVar 0) (xVar 3)) (aCons (xVar 5) (aCons (xVar 4) aNil))))) (sIf (xNotN (xVar 6)) (sEx (xApp (xVar 2) (xTup (aCons (xOp2 bop_add dAdd (xVar 3) (xCst (.int (.ofNat 1)))) (aCons (xVar 6) aNil))))) sPass)))))) (sRet (xCst .non))))
def d_led : Dst := (sSeq (sIf (xOr (x2 dNe (x2 dIdx (xVar 0) (xCst (.int (.ofNat 0)))) (x2 dIdx (xVar 1) (xCst (.int (.ofNat 0))))) (x2 dNe (xBi dLen (aCons (xVar 0) aNil)) (xBi dLen (aCons (xVar 1) aNil)))) (sRet (xCst .non)) sPass) (sSeq (sAsg (gNm 3) (xBi dDictOf (aCons (xVar 2) aNil))) (sSeq (sFor (gTp (gCons0 (gNm 4) (gCons0 (gNm 5) gNil0))) (iZipD (xCut (xVar 0) (pSome (xCst (.int (.ofNat 1)))) pNone) (xCut (xVar 1) (pSome (xCst (.int (.ofNat 1)))) pNone)) (sSeq (sIf (x2 dNe (xGet2 (xVar 3) (xVar 4) (xVar 5)) (xVar 5)) (sRet (xCst .non)) sPass) (sPutD (xVar 3) (xVar 4) (xVar 5)))) (sRet (xVar 3)))))
def d_stepped : Dst := (sSeq (sAsg (gTp (gCons0 (gNm 2) (gCons0 (gNm 3) gNil0))) (xTup (aCons (xComp (xBi dListOf (aCons (xVar 10) aNil)) (gNm 10) (iSeqD (xVar 0)) (xCst (.bl true)) [10]) (aCons (xLst aNil) aNil)))) (sSeq (sFor (gNm 4) (iRngD (xVar 1)) (sSeq (sAsg (gNm 5) (xBi dLen (aCons (xVar 3) aNil))) (sSeq (sAsg (gNm 6) (xComp (xVar 11) (gNm 11) (iSeqD xBad) (x2 dNe (x2 dIdx (x2 dIdx (xVar 2) (xVar 11)) (xVar 4)) (xCst (.tup [(.int (.ofNat 0)), (.int (.ofNat 1))]))) [11])) (sIf (x2 dNeN (xVar 6) (xLst aNil)) (sSeq (sAsg (gNm 7) (xComp xBad (gNm 12) (iSeqD (x2 dIdx (xVar 2) (x2 dIdx (xVar 6) (xCst (.int (.ofNat 0)))))) (xCst (.bl true)) [12])) (sSeq (sAsg (gNm 8) (xOp2 bop_add dAdd (xCut (xVar 2) pNone (pSome (x2 dIdx (xVar 6) (xCst (.int (.ofNat 0)))))) (xCut (xVar 2) (pSome (xOp2 bop_add dAdd (x2 dIdx (xVar 6) (xCst (.int (.ofNat 0)))) (xCst (.int (.ofNat 1))))) pNone))) (sSeq (sAsgC 9 (xComp (xComp xBad (gTp (gCons0 (gNm 12) (gCons0 (gNm 13) gNil0))) (iZipD (xVar 10) (xVar 7)) (xCst (.bl true)) [12, 13]) (gNm 10) (iSeqD (xVar 8)) (xCst (.bl true)) [10])) (sSeq (sAsg (gNm 2) (xOp2 bop_add dAdd (xOp2 bop_add dAdd (xCut (xVar 9) pNone (pSome (xVar 5))) (xLst (aCons (xVar 7) aNil))) (xCut (xVar 9) (pSome (xVar 5)) pNone))) (sEx (xApp (xVar 3) (xVar 4))))))) sPass)))) (sRet (xTup (aCons (xVar 2) (aCons (xVar 3) aNil))))))
def d_solved : Dst := (sSeq (sAsgC 2 (xComp (xOp2 bop_add dAdd (xComp (x2 dIdx (xVar 8) (xVar 9)) (gNm 8) (iSeqD (xVar 0)) (xCst (.bl true)) [8]) (xLst (aCons (x2 dIdx (xVar 1) (xVar 9)) aNil))) (gNm 9) (iRngD (xBi dLen (aCons (xVar 1) aNil))) (xCst (.bl true)) [9])) (sSeq (sAsg (gTp (gCons0 (gNm 3) (gCons0 (gNm 4) gNil0))) (xCall (.s (.s (.t (.s .z)))) 2 (aCons (xVar 2) (aCons (xBi dLen (aCons (xVar 0) aNil)) aNil)))) (sSeq (sIf (xBi dAny (aCons (xComp (x2 dNe (x2 dIdx (xVar 10) (xCst (.int (.negSucc 0)))) (xCst (.tup [(.int (.ofNat 0)), (.int (.ofNat 1))]))) (gNm 10) (iSeqD (xCut (xVar 3) (pSome (xBi dLen (aCons (xVar 4) aNil))) pNone)) (xCst (.bl true)) [10]) aNil)) (sRet (xCst .non)) sPass) (sSeq (sAsgC 5 (xComp (xCst (.tup [(.int (.ofNat 0)), (.int (.ofNat 1))])) (gNm 8) (iSeqD (xVar 0)) (xCst (.bl true)) [8])) (sSeq (sFor (gTp (gCons0 (gNm 6) (gCons0 (gNm 7) gNil0))) (iEnmD (xVar 4)) (sPutD (xVar 5) (xVar 7) (x2 dIdx (x2 dIdx (xVar 3) (xVar 6)) (xCst (.int (.negSucc 0)))))) (sRet (xVar 5)))))))
def d_check_patterns : Dst := (sFor (gNm 1) (iSeqD (xVar 0)) (sIf (xNot (xBi (dIsi kitA kitE.anc insL) (aCons (xVar 1) (aCons (xCst (.glo 13)) aNil)))) (sRz 8 ⟨⟨[116, 104, 105, 110, 103]⟩⟩ (xVar 1)) sPass))
def d_pieces_once : Dst := (sRet (xMake 13 (.t (.t (.t (.t (.s .z))))) 1 (aCons (xCall (.s (.s (.s (.s .z)))) 1 (aCons (xCall (.t (.t (.t .z))) 1 (aCons (xCall (.s (.t (.s (.t .z)))) 1 (aCons (xLst (aCons (xVar 0) aNil)) aNil)) aNil)) aNil)) aNil)))
def d_helping : Dst := (sSeq (sAsg (gNm 2) (xCall (.t (.t (.t (.s .z)))) 1 (aCons (xVar 1) aNil))) (sRet (xComp (xVar 3) (gTp (gCons0 (gNm 3) (gCons0 (gNm 4) gNil0))) (iEnmD (xVar 0)) (xNotN (xCall (.t (.s (.s (.s .z)))) 2 (aCons (xCall (.t (.t (.t (.s .z)))) 1 (aCons (xVar 4) aNil)) (aCons (xVar 2) aNil)))) [3, 4])))
def d_vector : Dst := (sRet (xComp (xTup (aCons (xCount fldL (xVar 0) ⟨⟨[107, 105, 110, 100, 115]⟩⟩ (xVar 2)) (aCons (xCst (.int (.ofNat 1))) aNil))) (gNm 2) (iSeqD (xVar 1)) (xCst (.bl true)) [2]))
def d_kinds_of : Dst := (sRet (xCall (.s (.t .z)) 1 (aCons (xComp2 (xVar 2) (gNm 1) (iSeqD (xVar 0)) (xCst (.bl true)) (gNm 2) (iSeqD (xFld fldL (xVar 1) ⟨⟨[107, 105, 110, 100, 115]⟩⟩)) (xCst (.bl true)) [1, 2] [2]) aNil)))
def d_exponents : Dst := (sSeq (sAsg (gNm 2) (xCall (.s (.s (.s (.t .z)))) 2 (aCons (xVar 0) (aCons (xVar 1) aNil)))) (sSeq (sAsg (gNm 3) (xCall (.s (.t (.s (.t .z)))) 1 (aCons (xOp2 bop_add dAdd (xComp (x2 dIdx (xVar 0) (xVar 6)) (gNm 6) (iSeqD (xVar 2)) (xCst (.bl true)) [6]) (xLst (aCons (xVar 1) aNil))) aNil))) (sSeq (sAsg (gNm 4) (xCall (.t (.s (.t (.s .z)))) 2 (aCons (xComp (xCall (.t (.s (.s (.t .z)))) 2 (aCons (x2 dIdx (xVar 0) (xVar 6)) (aCons (xVar 3) aNil))) (gNm 6) (iSeqD (xVar 2)) (xCst (.bl true)) [6]) (aCons (xCall (.t (.s (.s (.t .z)))) 2 (aCons (xVar 1) (aCons (xVar 3) aNil))) aNil)))) (sSeq (sIf (xIsN (xVar 4)) (sRet (xCst .non)) sPass) (sSeq (sAsgC 5 (xComp (xCst (.tup [(.int (.ofNat 0)), (.int (.ofNat 1))])) (gNm 8) (iSeqD (xVar 0)) (xCst (.bl true)) [8])) (sSeq (sFor (gTp (gCons0 (gNm 6) (gCons0 (gNm 7) gNil0))) (iZipD (xVar 2) (xVar 4)) (sPutD (xVar 5) (xVar 6) (xVar 7))) (sRet (xVar 5))))))))
def d_helpers : Dst := (sSeq (sEx (xCall (.s (.t (.t (.s .z)))) 1 (aCons (xOp2 bop_add dAdd (xBi dListOf (aCons (xVar 0) aNil)) (xLst (aCons (xVar 1) aNil))) aNil))) (sRet (xCall (.s (.s (.s (.t .z)))) 2 (aCons (xVar 0) (aCons (xVar 1) aNil)))))
def d_is_settled : Dst := (sSeq (sEx (xCall (.s (.t (.t (.s .z)))) 1 (aCons (xOp2 bop_add dAdd (xBi dListOf (aCons (xVar 0) aNil)) (xLst (aCons (xVar 1) aNil))) aNil))) (sRet (xNotN (xCall (.t (.t (.s (.t .z)))) 2 (aCons (xVar 0) (aCons (xVar 1) aNil))))))
def d_paper : Dst := (sSeq (sEx (xCall (.s (.t (.t (.s .z)))) 1 (aCons (xOp2 bop_add dAdd (xBi dListOf (aCons (xVar 0) aNil)) (xLst (aCons (xVar 1) aNil))) aNil))) (sSeq (sAsg (gNm 2) (xCall (.t (.t (.s (.t .z)))) 2 (aCons (xVar 0) (aCons (xVar 1) aNil)))) (sSeq (sIf (xIsN (xVar 2)) (sRz0 9) sPass) (sRet (xVar 2)))))
def d_is_paper : Dst := (sSeq (sEx (xCall (.s (.t (.t (.s .z)))) 1 (aCons (xOp2 bop_add dAdd (xBi dListOf (aCons (xVar 0) aNil)) (xLst (aCons (xVar 1) aNil))) aNil))) (sSeq (sIf (xOr (xNot (xCall (.t .z) 1 (aCons (xVar 2) aNil))) (xOr (x2 dNe (xBi dLen (aCons (xVar 2) aNil)) (xBi dLen (aCons (xVar 0) aNil))) (xBi dAny (aCons (xComp (xIsN xBad) (gNm 7) (iSeqD (xVar 2)) (xCst (.bl true)) [7]) aNil)))) (sRet (xCst (.bl false))) sPass) (sSeq (sAsgC 3 (xComp xBad (gNm 7) (iSeqD (xVar 2)) (xCst (.bl true)) [7])) (sSeq (sFor (gNm 4) (iSeqD (xCall (.s (.t (.s (.t .z)))) 1 (aCons (xOp2 bop_add dAdd (xBi dListOf (aCons (xVar 0) aNil)) (xLst (aCons (xVar 1) aNil))) aNil))) (sSeq (sAsgC 5 (xComp (xTup (aCons (xCount fldL (xVar 8) ⟨⟨[107, 105, 110, 100, 115]⟩⟩ (xVar 4)) (aCons (xCst (.int (.ofNat 1))) aNil))) (gNm 8) (iSeqD (xVar 0)) (xCst (.bl true)) [8])) (sIf (x2 dNe xBad (xTup (aCons (xCount fldL (xVar 1) ⟨⟨[107, 105, 110, 100, 115]⟩⟩ (xVar 4)) (aCons (xCst (.int (.ofNat 1))) aNil)))) (sRet (xCst (.bl false))) sPass))) (sSeq (sAsg (gNm 6) (xCall (.s (.s (.s (.t .z)))) 2 (aCons (xVar 0) (aCons (xVar 1) aNil)))) (sRet (xNot (xBi dAny (aCons (xComp (xAnd (x2 dNe (xVar 10) (xCst (.tup [(.int (.ofNat 0)), (.int (.ofNat 1))]))) (x2 dNin (xVar 9) (xVar 6))) (gTp (gCons0 (gNm 9) (gCons0 (gNm 10) gNil0))) (iEnmD (xVar 3)) (xCst (.bl true)) [9, 10]) aNil)))))))))
def d_apart : Dst := (sSeq (sEx (xCall (.s (.t (.t (.s .z)))) 1 (aCons (xOp2 bop_add dAdd (xBi dListOf (aCons (xVar 0) aNil)) (xLst (aCons (xVar 1) aNil))) aNil))) (sSeq (sIf (xNotN (xCall (.t (.t (.s (.t .z)))) 2 (aCons (xVar 0) (aCons (xVar 1) aNil)))) (sRet (xCst .non)) sPass) (sSeq (sAsgC 2 (xComp (x2 dIdx (xVar 0) (xVar 17)) (gNm 17) (iSeqD (xCall (.s (.s (.s (.t .z)))) 2 (aCons (xVar 0) (aCons (xVar 1) aNil)))) (xCst (.bl true)) [17])) (sSeq (sAsg (gNm 3) (xCall (.s (.t (.s (.t .z)))) 1 (aCons (xOp2 bop_add dAdd (xVar 2) (xLst (aCons (xVar 1) aNil))) aNil))) (sSeq (sAsg (gNm 4) xBad) (sSeq (sAsg (gNm 5) (x2 dIdx (xComp (xVar 19) (gNm 19) (iSeqD (xVar 4)) (x2 dNe xBad (xCst (.tup [(.int (.ofNat 0)), (.int (.ofNat 1))]))) [19]) (xCst (.int (.ofNat 0))))) (sSeq (sAsg (gNm 6) xBad) (sSeq (sAsgC 7 (xComp (x2 dMul (xVar 20) (x2 dFdiv (xVar 6) (xVar 15))) (gTp (gCons0 (gNm 20) (gCons0 (gNm 15) gNil0))) (iSeqD (xVar 5)) (xCst (.bl true)) [20, 15])) (sSeq (sAsg (gNm 8) (xComp (xMake 13 (.t (.t (.t (.t (.s .z))))) 1 (aCons (xCall (.s (.s (.s (.s .z)))) 1 (aCons (xVar 21) aNil)) aNil)) (gNm 21) (iSeqD (xVar 3)) (xCst (.bl true)) [21])) (sSeq (sAsg (gNm 9) xBad) (sSeq (sAsg (gNm 10) (xComp (xComp (xTup (aCons xBad (aCons (xCst (.int (.ofNat 1))) aNil))) (gNm 22) (iSeqD (xVar 8)) (xCst (.bl true)) [22]) (gNm 23) (iSeqD (xVar 9)) (xCst (.bl true)) [23])) (sSeq (sAsgC 11 (xComp xBad (gNm 25) (iRngD (xBi dLen (aCons (xVar 8) aNil))) (xCst (.bl true)) [25])) (sSeq (sAsg (gTp (gCons0 (gNm 12) (gCons0 (gNm 13) gNil0))) (xTup (aCons (xCst (.int (.ofNat 1))) (aCons (xLst (aCons xBad aNil)) aNil)))) (sSeq (sWh (xBi dAny (aCons (xComp (x2 dLt (x2 dIdx (xVar 26) (xCst (.int (.ofNat 0)))) (xCst (.int (.ofNat 0)))) (gNm 26) (iSeqD (xVar 13)) (xCst (.bl true)) [26]) aNil)) (sSeq (sAsg (gNm 12) (x2 dMul (xCst (.int (.ofNat 2))) (xVar 12))) (sSeq (sAsgC 14 (xComp xBad (gTp (gCons0 (gNm 26) (gCons0 (gNm 27) gNil0))) (iZipD (xVar 11) (xVar 7)) (xCst (.bl true)) [26, 27])) (sAsg (gNm 13) (xCall (.t (.s (.t (.s .z)))) 2 (aCons (xVar 10) (aCons (xVar 14) aNil))))))) (sSeq (sAsg (gNm 15) xBad) (sSeq (sAsgC 16 (xComp (x2 dMul (xVar 20) (x2 dFdiv (xVar 15) (xVar 28))) (gTp (gCons0 (gNm 20) (gCons0 (gNm 28) gNil0))) (iSeqD (xVar 13)) (xCst (.bl true)) [20, 28])) (sRet (xTup (aCons xBad (aCons xBad aNil))))))))))))))))))))
def d_is_apart : Dst := (sSeq (sEx (xCall (.s (.t (.t (.s .z)))) 1 (aCons (xOp2 bop_add dAdd (xBi dListOf (aCons (xVar 0) aNil)) (xLst (aCons (xVar 1) aNil))) aNil))) (sSeq (sIf (xOr (xNot (xCall (.t .z) 1 (aCons (xVar 2) aNil))) (xOr (x2 dNe (xBi dLen (aCons (xVar 2) aNil)) (xCst (.int (.ofNat 2)))) (xNot (xBi dAll (aCons (xComp (xBi (dIsi kitA kitE.anc insL) (aCons (xVar 5) (aCons (xTup (aCons (xCst (.glo 14)) (aCons (xCst (.glo 15)) aNil))) aNil))) (gNm 5) (iSeqD (xVar 2)) (xCst (.bl true)) [5]) aNil))))) (sRet (xCst (.bl false))) sPass) (sSeq (sAsg (gTp (gCons0 (gNm 3) (gCons0 (gNm 4) gNil0))) (xVar 2)) (sSeq (sIf (xBi dAny (aCons (xComp (x2 dNe xBad xBad) (gNm 6) (iSeqD (xVar 0)) (xCst (.bl true)) [6]) aNil)) (sRet (xCst (.bl false))) sPass) (sRet (x2 dNe xBad xBad))))))
def d_check_counts : Dst := (sSeq (sIf (xNot (xCall (.t .z) 1 (aCons (xVar 1) aNil))) (sRz 10 ⟨⟨[105, 110, 100, 101, 120]⟩⟩ (xCst (.int (.ofNat 0)))) sPass) (sSeq (sFor (gNm 2) (iRngD (xBi dLen (aCons (xVar 0) aNil))) (sIf (xOr (x2 dGe (xVar 2) (xBi dLen (aCons (xVar 1) aNil))) (xNot (xCall (.s .z) 1 (aCons (x2 dIdx (xVar 1) (xVar 2)) aNil)))) (sRz 10 ⟨⟨[105, 110, 100, 101, 120]⟩⟩ (xVar 2)) sPass)) (sIf (x2 dGt (xBi dLen (aCons (xVar 1) aNil)) (xBi dLen (aCons (xVar 0) aNil))) (sRz 10 ⟨⟨[105, 110, 100, 101, 120]⟩⟩ (xBi dLen (aCons (xVar 0) aNil))) sPass)))
def d_tell : Dst := (sSeq (sEx (xCall (.s (.t (.t (.s .z)))) 1 (aCons (xOp2 bop_add dAdd (xBi dListOf (aCons (xVar 0) aNil)) (xLst (aCons (xVar 1) aNil))) aNil))) (sSeq (sEx (xCall (.s (.t (.s (.s (.s .z))))) 2 (aCons (xVar 0) (aCons (xVar 2) aNil)))) (sSeq (sAsg (gNm 3) (xCall (.t (.t (.s (.t .z)))) 2 (aCons (xVar 0) (aCons (xVar 1) aNil)))) (sSeq (sIf (xIsN (xVar 3)) (sRz0 9) sPass) (sSeq (sAsg (gNm 4) (xCall (.s (.s (.s (.t .z)))) 2 (aCons (xVar 0) (aCons (xVar 1) aNil)))) (sSeq (sAsgC 5 (xComp (x2 dIdx (xVar 2) (xVar 14)) (gNm 14) (iSeqD (xVar 4)) (xCst (.bl true)) [14])) (sSeq (sIf (x2 dIn (xCst (.int (.ofNat 0))) (xVar 5)) (sRet (xCst (.int (.ofNat 0)))) sPass) (sSeq (sAsg (gNm 6) (xCall (.s (.t (.s (.t .z)))) 1 (aCons (xComp (x2 dIdx (xVar 0) (xVar 14)) (gNm 14) (iSeqD (xVar 4)) (xCst (.bl true)) [14]) aNil))) (sSeq (sAsgC 7 (xComp (xComp (xTup (aCons (xCount fldL (x2 dIdx (xVar 0) (xVar 14)) ⟨⟨[107, 105, 110, 100, 115]⟩⟩ (xVar 15)) (aCons (xCst (.int (.ofNat 1))) aNil))) (gNm 14) (iSeqD (xVar 4)) (xCst (.bl true)) [14]) (gNm 15) (iSeqD (xVar 6)) (xCst (.bl true)) [15])) (sSeq (sFor (gNm 8) (iSeqD xBad) (sSeq (sAsg (gTp (gCons0 (gNm 9) (gCons0 (gNm 10) gNil0))) xBad) (sIf (x2 dNe (xVar 9) (xVar 10)) (sRz0 11) sPass))) (sSeq (sAsg (gTp (gCons0 (gNm 11) (gCons0 (gNm 12) gNil0))) xBad) (sSeq (sAsg (gTp (gCons0 (gNm 9) (gCons0 (gNm 10) gNil0))) xBad) (sSeq (sAsg (gNm 13) (xIfe (x2 dEq (x2 dMod (xVar 9) (xVar 10)) (xCst (.int (.ofNat 0)))) xBad (xCst .non))) (sSeq (sIf (xIsN (xVar 13)) (sRz0 11) sPass) (sRet (xVar 13))))))))))))))))
def d_all_settled : Dst := (sSeq (sEx (xCall (.s (.t (.t (.s .z)))) 1 (aCons (xOp2 bop_add dAdd (xBi dListOf (aCons (xVar 0) aNil)) (xBi dListOf (aCons (xVar 1) aNil))) aNil))) (sRet (xComp (xVar 2) (gTp (gCons0 (gNm 2) (gCons0 (gNm 3) gNil0))) (iEnmD (xVar 1)) (xNotN (xCall (.t (.t (.s (.t .z)))) 2 (aCons (xVar 0) (aCons (xVar 3) aNil)))) [2, 3])))
def d_needless : Dst := (sSeq (sEx (xCall (.s (.t (.t (.s .z)))) 1 (aCons (xVar 0) aNil))) (sSeq (sAsg (gNm 1) (xLst aNil)) (sSeq (sFor (gTp (gCons0 (gNm 2) (gCons0 (gNm 3) gNil0))) (iEnmD (xVar 0)) (sIf (xNotN (xCall (.t (.t (.s (.t .z)))) 2 (aCons (xComp (xVar 5) (gTp (gCons0 (gNm 4) (gCons0 (gNm 5) gNil0))) (iEnmD (xVar 0)) (x2 dNe (xVar 4) (xVar 2)) [4, 5]) (aCons (xVar 3) aNil)))) (sEx (xApp (xVar 1) (xVar 2))) sPass)) (sRet (xVar 1)))))
def d_least_more : Dst := (sSeq (sEx (xCall (.s (.t (.t (.s .z)))) 1 (aCons (xOp2 bop_add dAdd (xBi dListOf (aCons (xVar 0) aNil)) (xBi dListOf (aCons (xVar 1) aNil))) aNil))) (sSeq (sIf (xNot (xCall (.t .z) 1 (aCons (xVar 2) aNil))) (sRz 12 ⟨⟨[105, 110, 100, 101, 120]⟩⟩ (xCst (.int (.ofNat 0)))) sPass) (sSeq (sFor (gTp (gCons0 (gNm 3) (gCons0 (gNm 4) gNil0))) (iEnmD (xVar 2)) (sIf (xNot xBad) (sRz 12 ⟨⟨[105, 110, 100, 101, 120]⟩⟩ (xVar 3)) sPass)) (sSeq (sAsg (gTp (gCons0 (gNm 5) (gCons0 (gNm 6) gNil0))) (xTup (aCons (xLst aNil) (aCons (xCst .non) aNil)))) (sSeq (sFor (gNm 7) (iSeqD xBad) (sSeq (sAsg (gNm 8) (xBi dSum (aCons (xComp (x2 dIdx (x2 dIdx (xVar 2) (xVar 10)) (xCst (.int (.ofNat 1)))) (gNm 10) (iSeqD (xVar 7)) (xCst (.bl true)) [10]) aNil))) (sIf (xOr (xIsN (xVar 6)) (x2 dLe (xVar 8) (xVar 6))) (sSeq (sAsg (gNm 9) (xOp2 bop_add dAdd (xBi dListOf (aCons (xVar 0) aNil)) (xComp (x2 dIdx (x2 dIdx (xVar 2) (xVar 10)) (xCst (.int (.ofNat 0)))) (gNm 10) (iSeqD (xVar 7)) (xCst (.bl true)) [10]))) (sIf (xBi dAll (aCons (xComp (xNotN (xCall (.t (.t (.s (.t .z)))) 2 (aCons (xVar 9) (aCons (xVar 11) aNil)))) (gNm 11) (iSeqD (xVar 1)) (xCst (.bl true)) [11]) aNil)) (sSeq (sAsg (gNm 5) (xOp2 bop_add dAdd (xComp (xVar 12) (gNm 12) (iSeqD (xVar 5)) (x2 dEq (xVar 8) (xVar 6)) [12]) (xLst (aCons (xVar 7) aNil)))) (sAsg (gNm 6) (xVar 8))) sPass)) sPass))) (sRet (xVar 5)))))))
def d_always : Dst := (sSeq (sEx (xCall (.s (.t (.t (.s .z)))) 1 (aCons (xLst (aCons (xVar 0) (aCons (xVar 1) aNil))) aNil))) (sRet (xNotN (xCall (.t (.s (.s (.s .z)))) 2 (aCons (xVar 1) (aCons (xVar 0) aNil))))))
def d_always_paper : Dst := (sSeq (sEx (xCall (.s (.t (.t (.s .z)))) 1 (aCons (xLst (aCons (xVar 0) (aCons (xVar 1) aNil))) aNil))) (sSeq (sAsg (gNm 2) (xCall (.t (.s (.s (.s .z)))) 2 (aCons (xVar 1) (aCons (xVar 0) aNil)))) (sSeq (sIf (xNotN (xVar 2)) (sRet (xVar 2)) sPass) (sRet xBad))))
def d__law_one : Dst := (sRet (x2 dIdx (xVar 1) (xCall (.t (.s (.s (.t (.s .z))))) 2 (aCons (xVar 0) (aCons (xBi dLen (aCons (xVar 1) aNil)) aNil)))))
def d__law_few : Dst := (sRet (xComp (xVar 2) (gNm 2) (iSeqD (xVar 1)) (x2 dEq (xCall (.t (.s (.s (.t (.s .z))))) 2 (aCons (xVar 0) (aCons (xCst (.int (.ofNat 2))) aNil))) (xCst (.int (.ofNat 0)))) [2]))
def d__law_same : Dst := (sSeq (sIf (xBi (dIsi kitA kitE.anc insL) (aCons (xVar 1) (aCons (xCst (.ty 5)) aNil))) (sSeq (sIf (xOr (xNot (xBi (dIsi kitA kitE.anc insL) (aCons (xVar 0) (aCons (xCst (.ty 5)) aNil)))) (x2 dNe (xBi dLen (aCons (xVar 0) aNil)) (xBi dLen (aCons (xVar 1) aNil)))) (sRet (xCst (.bl false))) sPass) (sRet (xBi dAll (aCons (xComp (xAnd (x2 dIn (xVar 2) (xVar 0)) (xCall (.s (.s (.t (.t (.s .z))))) 2 (aCons (x2 dIdx (xVar 0) (xVar 2)) (aCons (x2 dIdx (xVar 1) (xVar 2)) aNil)))) (gNm 2) (iSeqD (xVar 1)) (xCst (.bl true)) [2]) aNil)))) sPass) (sSeq (sIf (xBi (dIsi kitA kitE.anc insL) (aCons (xVar 1) (aCons (xTup (aCons (xCst (.ty 3)) (aCons (xCst (.ty 4)) aNil))) aNil))) (sSeq (sIf (xOr (x2 dNe (xBi (dIsi kitA kitE.anc insL) (aCons (xVar 0) (aCons (xCst (.ty 3)) aNil))) (xBi (dIsi kitA kitE.anc insL) (aCons (xVar 1) (aCons (xCst (.ty 3)) aNil)))) (x2 dNe (xBi (dIsi kitA kitE.anc insL) (aCons (xVar 0) (aCons (xCst (.ty 4)) aNil))) (xBi (dIsi kitA kitE.anc insL) (aCons (xVar 1) (aCons (xCst (.ty 4)) aNil))))) (sRet (xCst (.bl false))) sPass) (sRet (xAnd (x2 dEq (xBi dLen (aCons (xVar 0) aNil)) (xBi dLen (aCons (xVar 1) aNil))) (xBi dAll (aCons (xComp (xCall (.s (.s (.t (.t (.s .z))))) 2 (aCons (xVar 3) (aCons (xVar 4) aNil))) (gTp (gCons0 (gNm 3) (gCons0 (gNm 4) gNil0))) (iZipD (xVar 0) (xVar 1)) (xCst (.bl true)) [3, 4]) aNil))))) sPass) (sSeq (sIf (xBi (dIsi kitA kitE.anc insL) (aCons (xVar 1) (aCons (xCst (.ty 0)) aNil))) (sRet (xAnd (xBi (dIsi kitA kitE.anc insL) (aCons (xVar 0) (aCons (xCst (.ty 0)) aNil))) (xAnd (x2 dEq (xBi (dIsi kitA kitE.anc insL) (aCons (xVar 0) (aCons (xCst (.ty 1)) aNil))) (xBi (dIsi kitA kitE.anc insL) (aCons (xVar 1) (aCons (xCst (.ty 1)) aNil)))) (x2 dEq (xVar 0) (xVar 1))))) sPass) (sRet (xAnd (xNot (xBi (dIsi kitA kitE.anc insL) (aCons (xVar 0) (aCons (xTup (aCons (xCst (.ty 0)) (aCons (xCst (.ty 3)) (aCons (xCst (.ty 4)) (aCons (xCst (.ty 5)) aNil))))) aNil)))) (x2 dEq (xVar 0) (xVar 1)))))))
def d__law_wished : Dst := (sSeq (sAsg (gNm 2) (xLst (aCons (xTried xmL errF ⟨3, 1, none, (.tup []), [⟨8, (some 2), (some 1), (.tup [.con (.str ⟨⟨[112, 97, 116, 116, 101, 114, 110]⟩⟩), .ef ⟨⟨[116, 104, 105, 110, 103]⟩⟩])⟩, ⟨9, none, (some 1), (.tup [.con (.str ⟨⟨[117, 110, 115, 101, 116, 116, 108, 101, 100]⟩⟩)])⟩]⟩ (xCall (.s (.s (.t (.t .z)))) 2 (aCons (xVar 0) (aCons (xVar 1) aNil)))) aNil))) (sSeq (sEx (xApp (xVar 2) (xTried xmL errF ⟨3, 1, none, (.tup []), [⟨8, (some 2), (some 1), (.tup [.con (.str ⟨⟨[112, 97, 116, 116, 101, 114, 110]⟩⟩), .ef ⟨⟨[116, 104, 105, 110, 103]⟩⟩])⟩, ⟨9, none, (some 1), (.tup [.con (.str ⟨⟨[117, 110, 115, 101, 116, 116, 108, 101, 100]⟩⟩)])⟩]⟩ (xCall (.t (.s (.t (.t .z)))) 2 (aCons (xVar 0) (aCons (xVar 1) aNil)))))) (sSeq (sEx (xApp (xVar 2) (xTried xmL errF ⟨3, 1, none, (.tup []), [⟨8, (some 2), (some 1), (.tup [.con (.str ⟨⟨[112, 97, 116, 116, 101, 114, 110]⟩⟩), .ef ⟨⟨[116, 104, 105, 110, 103]⟩⟩])⟩, ⟨9, none, (some 1), (.tup [.con (.str ⟨⟨[117, 110, 115, 101, 116, 116, 108, 101, 100]⟩⟩)])⟩]⟩ (xCall (.s (.t (.t (.t .z)))) 2 (aCons (xVar 0) (aCons (xVar 1) aNil)))))) (sSeq (sEx (xApp (xVar 2) (xTried xmL errF ⟨3, 1, none, (.tup []), [⟨8, (some 2), (some 1), (.tup [.con (.str ⟨⟨[112, 97, 116, 116, 101, 114, 110]⟩⟩), .ef ⟨⟨[116, 104, 105, 110, 103]⟩⟩])⟩, ⟨9, none, (some 1), (.tup [.con (.str ⟨⟨[117, 110, 115, 101, 116, 116, 108, 101, 100]⟩⟩)])⟩]⟩ (xCall (.t (.t (.t (.t .z)))) 3 (aCons (xVar 0) (aCons (xVar 1) (aCons (xCst .non) aNil))))))) (sSeq (sEx (xApp (xVar 2) (xTried xmL errF ⟨3, 1, none, (.tup []), [⟨8, (some 2), (some 1), (.tup [.con (.str ⟨⟨[112, 97, 116, 116, 101, 114, 110]⟩⟩), .ef ⟨⟨[116, 104, 105, 110, 103]⟩⟩])⟩, ⟨9, none, (some 1), (.tup [.con (.str ⟨⟨[117, 110, 115, 101, 116, 116, 108, 101, 100]⟩⟩)])⟩]⟩ (xCall (.s (.s (.s (.s (.s .z))))) 2 (aCons (xVar 0) (aCons (xVar 1) aNil)))))) (sSeq (sEx (xApp (xVar 2) (xTried xmL errF ⟨3, 1, none, (.tup []), [⟨8, (some 2), (some 1), (.tup [.con (.str ⟨⟨[112, 97, 116, 116, 101, 114, 110]⟩⟩), .ef ⟨⟨[116, 104, 105, 110, 103]⟩⟩])⟩, ⟨9, none, (some 1), (.tup [.con (.str ⟨⟨[117, 110, 115, 101, 116, 116, 108, 101, 100]⟩⟩)])⟩]⟩ (xCall (.t (.s (.s (.s (.s .z))))) 3 (aCons (xVar 0) (aCons (xVar 1) (aCons (xCst .non) aNil))))))) (sRet (xOp2 bop_add dAdd (xVar 2) (xLst (aCons (xTried xmL errF ⟨3, 1, none, (.tup []), [⟨8, (some 2), (some 1), (.tup [.con (.str ⟨⟨[112, 97, 116, 116, 101, 114, 110]⟩⟩), .ef ⟨⟨[116, 104, 105, 110, 103]⟩⟩])⟩, ⟨9, none, (some 1), (.tup [.con (.str ⟨⟨[117, 110, 115, 101, 116, 116, 108, 101, 100]⟩⟩)])⟩]⟩ (xCall (.t (.t (.s (.s (.s .z))))) 3 (aCons (xVar 0) (aCons (xVar 1) (aCons (xCst .non) aNil))))) aNil))))))))))
def d__law_lists : Dst := (sSeq (sAsg (gTp (gCons0 (gNm 3) (gCons0 (gNm 4) (gCons0 (gNm 5) gNil0)))) (xTup (aCons (xMake 13 (.t (.t (.t (.t (.s .z))))) 1 (aCons (xLst (aCons (xTup (aCons (xCst (.str ⟨⟨[114, 101, 100]⟩⟩)) (aCons (xCst (.str ⟨⟨[120]⟩⟩)) aNil))) aNil)) aNil)) (aCons (xMake 13 (.t (.t (.t (.t (.s .z))))) 1 (aCons (xLst (aCons (xTup (aCons (xCst (.str ⟨⟨[98]⟩⟩)) (aCons (xCst (.str ⟨⟨[120]⟩⟩)) aNil))) aNil)) aNil)) (aCons (xOp2 bop_add dAdd (xVar 0) (xLst (aCons (xVar 1) (aCons (xVar 2) aNil)))) aNil))))) (sSeq (sAsg (gNm 6) (xLst (aCons (xTried xmL errF ⟨3, 1, none, (.tup []), [⟨8, (some 2), (some 1), (.tup [.con (.str ⟨⟨[112, 97, 116, 116, 101, 114, 110]⟩⟩), .ef ⟨⟨[116, 104, 105, 110, 103]⟩⟩])⟩, ⟨9, none, (some 1), (.tup [.con (.str ⟨⟨[117, 110, 115, 101, 116, 116, 108, 101, 100]⟩⟩)])⟩]⟩ (xCall (.s (.s (.t (.s (.s .z))))) 2 (aCons (xVar 0) (aCons (xLst (aCons (xVar 3) (aCons (xVar 1) (aCons (xVar 2) aNil)))) aNil)))) aNil))) (sSeq (sEx (xApp (xVar 6) (xTried xmL errF ⟨3, 1, none, (.tup []), [⟨8, (some 2), (some 1), (.tup [.con (.str ⟨⟨[112, 97, 116, 116, 101, 114, 110]⟩⟩), .ef ⟨⟨[116, 104, 105, 110, 103]⟩⟩])⟩, ⟨9, none, (some 1), (.tup [.con (.str ⟨⟨[117, 110, 115, 101, 116, 116, 108, 101, 100]⟩⟩)])⟩]⟩ (xCall (.s (.s (.t (.s (.s .z))))) 2 (aCons (xVar 5) (aCons (xLst (aCons (xVar 2) aNil)) aNil)))))) (sSeq (sEx (xApp (xVar 6) (xTried xmL errF ⟨3, 1, none, (.tup []), [⟨8, (some 2), (some 1), (.tup [.con (.str ⟨⟨[112, 97, 116, 116, 101, 114, 110]⟩⟩), .ef ⟨⟨[116, 104, 105, 110, 103]⟩⟩])⟩, ⟨9, none, (some 1), (.tup [.con (.str ⟨⟨[117, 110, 115, 101, 116, 116, 108, 101, 100]⟩⟩)])⟩]⟩ (xCall (.t (.s (.t (.s (.s .z))))) 1 (aCons (xVar 5) aNil))))) (sSeq (sEx (xApp (xVar 6) (xTried xmL errF ⟨3, 1, none, (.tup []), [⟨8, (some 2), (some 1), (.tup [.con (.str ⟨⟨[112, 97, 116, 116, 101, 114, 110]⟩⟩), .ef ⟨⟨[116, 104, 105, 110, 103]⟩⟩])⟩, ⟨9, none, (some 1), (.tup [.con (.str ⟨⟨[117, 110, 115, 101, 116, 116, 108, 101, 100]⟩⟩)])⟩]⟩ (xCall (.s (.t (.t (.s (.s .z))))) 3 (aCons (xVar 5) (aCons (xLst (aCons (xVar 2) aNil)) (aCons (xCst .non) aNil))))))) (sSeq (sEx (xApp (xVar 6) (xTried xmL errF ⟨3, 1, none, (.tup []), [⟨8, (some 2), (some 1), (.tup [.con (.str ⟨⟨[112, 97, 116, 116, 101, 114, 110]⟩⟩), .ef ⟨⟨[116, 104, 105, 110, 103]⟩⟩])⟩, ⟨9, none, (some 1), (.tup [.con (.str ⟨⟨[117, 110, 115, 101, 116, 116, 108, 101, 100]⟩⟩)])⟩]⟩ (xCall (.s (.t (.t (.s (.s .z))))) 3 (aCons (xVar 0) (aCons (xLst (aCons (xVar 4) (aCons (xVar 1) aNil))) (aCons (xCst .non) aNil))))))) (sSeq (sEx (xApp (xVar 6) (xTried xmL errF ⟨3, 1, none, (.tup []), [⟨8, (some 2), (some 1), (.tup [.con (.str ⟨⟨[112, 97, 116, 116, 101, 114, 110]⟩⟩), .ef ⟨⟨[116, 104, 105, 110, 103]⟩⟩])⟩, ⟨9, none, (some 1), (.tup [.con (.str ⟨⟨[117, 110, 115, 101, 116, 116, 108, 101, 100]⟩⟩)])⟩]⟩ (xCall (.t (.t (.t (.s (.s .z))))) 2 (aCons (xVar 1) (aCons (xVar 2) aNil)))))) (sSeq (sEx (xApp (xVar 6) (xTried xmL errF ⟨3, 1, none, (.tup []), [⟨8, (some 2), (some 1), (.tup [.con (.str ⟨⟨[112, 97, 116, 116, 101, 114, 110]⟩⟩), .ef ⟨⟨[116, 104, 105, 110, 103]⟩⟩])⟩, ⟨9, none, (some 1), (.tup [.con (.str ⟨⟨[117, 110, 115, 101, 116, 116, 108, 101, 100]⟩⟩)])⟩]⟩ (xCall (.t (.t (.t (.s (.s .z))))) 2 (aCons (xVar 3) (aCons (xVar 1) aNil)))))) (sSeq (sEx (xApp (xVar 6) (xTried xmL errF ⟨3, 1, none, (.tup []), [⟨8, (some 2), (some 1), (.tup [.con (.str ⟨⟨[112, 97, 116, 116, 101, 114, 110]⟩⟩), .ef ⟨⟨[116, 104, 105, 110, 103]⟩⟩])⟩, ⟨9, none, (some 1), (.tup [.con (.str ⟨⟨[117, 110, 115, 101, 116, 116, 108, 101, 100]⟩⟩)])⟩]⟩ (xCall (.s (.s (.s (.t (.s .z))))) 2 (aCons (xVar 1) (aCons (xVar 2) aNil)))))) (sRet (xOp2 bop_add dAdd (xVar 6) (xLst (aCons (xTried xmL errF ⟨3, 1, none, (.tup []), [⟨8, (some 2), (some 1), (.tup [.con (.str ⟨⟨[112, 97, 116, 116, 101, 114, 110]⟩⟩), .ef ⟨⟨[116, 104, 105, 110, 103]⟩⟩])⟩, ⟨9, none, (some 1), (.tup [.con (.str ⟨⟨[117, 110, 115, 101, 116, 116, 108, 101, 100]⟩⟩)])⟩]⟩ (xCall (.s (.s (.s (.t (.s .z))))) 2 (aCons (xVar 4) (aCons (xVar 1) aNil)))) aNil)))))))))))))
def d_Pattern_init : Dst := (sSeq (sFldT fldL (xVar 0) ⟨⟨[107, 105, 110, 100, 115]⟩⟩ (xCall (.s (.t (.t .z))) 1 (aCons (xComp (xCall (.s (.s (.t .z))) 1 (aCons (xVar 2) aNil)) (gNm 2) (iSeqD (xCall (.s (.s (.s .z))) 1 (aCons (xCall (.t (.t .z)) 1 (aCons (xVar 1) aNil)) aNil))) (xCst (.bl true)) [2]) aNil))) (sSeq (sFldA fldL (xVar 0) ⟨⟨[112, 97, 114, 116, 115]⟩⟩ (xIfe (x2 dEq (xBi dLen (aCons (xFld fldL (xVar 0) ⟨⟨[107, 105, 110, 100, 115]⟩⟩) aNil)) (xCst (.int (.ofNat 1)))) (xLst (aCons (xVar 0) aNil)) (xComp (xMake 13 (.t (.t (.t (.t (.s .z))))) 1 (aCons (xCall (.s (.s (.s (.s .z)))) 1 (aCons (xVar 3) aNil)) aNil)) (gNm 3) (iSeqD (xFld fldL (xVar 0) ⟨⟨[107, 105, 110, 100, 115]⟩⟩)) (xCst (.bl true)) [3]))) (sFldA fldL (xVar 0) ⟨⟨[110, 117, 109, 98, 101, 114, 101, 100, 95, 97, 116, 111, 109, 115]⟩⟩ (xCall (.t (.t (.t .z))) 1 (aCons (xFld fldL (xVar 0) ⟨⟨[107, 105, 110, 100, 115]⟩⟩) aNil)))))
def d_Pattern_add : Dst := (sSeq (sIf (xNot (xBi (dIsi kitA kitE.anc insL) (aCons (xVar 1) (aCons (xCst (.glo 13)) aNil)))) (sRet xBad) sPass) (sRet (xMake 13 (.t (.t (.t (.t (.s .z))))) 1 (aCons (xCall (.s (.s (.s (.s .z)))) 1 (aCons (xCall (.t (.t (.t .z))) 1 (aCons (xOp2 bop_add dAdd (xFld fldL (xVar 0) ⟨⟨[107, 105, 110, 100, 115]⟩⟩) (xFld fldL (xVar 1) ⟨⟨[107, 105, 110, 100, 115]⟩⟩)) aNil)) aNil)) aNil))))
def d_law1 : Dst := (sAsg (gTp (gCons0 (gNm 2) (gCons0 (gNm 3) gNil0))) (xTup (aCons (xMake 13 (.t (.t (.t (.t (.s .z))))) 1 (aCons (xLst (aCons (xTup (aCons (xCst (.str ⟨⟨[114, 101, 100]⟩⟩)) (aCons (xCst (.str ⟨⟨[120]⟩⟩)) aNil))) aNil)) aNil)) (aCons (xMake 13 (.t (.t (.t (.t (.s .z))))) 1 (aCons (xLst (aCons (xTup (aCons (xCst (.str ⟨⟨[98]⟩⟩)) (aCons (xCst (.str ⟨⟨[120]⟩⟩)) aNil))) aNil)) aNil)) aNil))))
def d_l1 : Dst := (sSeq (sAsg (gNm 5) (xCall (.s (.t (.s (.t (.s .z))))) 2 (aCons (xVar 1) (aCons (xLst (aCons (xCst .non) (aCons (xCst (.int (.ofNat 5))) (aCons (xCst (.str ⟨⟨[114, 101, 100, 32, 120]⟩⟩)) (aCons (xLst (aCons (xTup (aCons (xCst (.str ⟨⟨[114, 101, 100]⟩⟩)) (aCons (xCst (.str ⟨⟨[120]⟩⟩)) aNil))) aNil)) (aCons (xTup aNil) (aCons xDct0 (aCons (xCst (.bl true)) (aCons (xLst (aCons (xCst (.str ⟨⟨[114, 101, 100]⟩⟩)) aNil)) aNil))))))))) aNil)))) (sSeq (sAsg (gNm 6) (xCall (.s (.t (.s (.t (.s .z))))) 2 (aCons (xVar 1) (aCons (xLst (aCons (xCst .non) (aCons (xCst (.str ⟨⟨[97, 98]⟩⟩)) (aCons (xLst (aCons (xCst (.str ⟨⟨[98]⟩⟩)) aNil)) aNil)))) aNil)))) (sSeq (sAsg (gNm 7) (xCall (.t (.t (.s (.t (.s .z))))) 2 (aCons (xVar 1) (aCons (xLst (aCons (xVar 2) (aCons (xVar 3) (aCons (xOp2 bop_add dAdd (xVar 2) (xVar 3)) aNil)))) aNil)))) (sSeq (sAsg (gNm 8) (xOp2 bop_add dAdd (xVar 7) (xLst (aCons (xVar 5) (aCons (xVar 6) aNil))))) (sSeq (sIf (xNot (xCall (.s (.s (.t (.t (.s .z))))) 2 (aCons (xCall (.t (.s (.t (.t (.s .z))))) 2 (aCons (xVar 8) (aCons (xVar 6) aNil))) (aCons (x2 dMul (xLst (aCons (xTup (aCons (xCst (.str ⟨⟨[112, 97, 116, 116, 101, 114, 110]⟩⟩)) (aCons (xVar 5) aNil))) aNil)) (xCst (.int (.ofNat 7)))) aNil)))) (sRet (xCst (.bl false))) sPass) (sSeq (sIf (xNot (xCall (.s (.s (.t (.t (.s .z))))) 2 (aCons (xCall (.t (.s (.t (.t (.s .z))))) 2 (aCons (xVar 7) (aCons (xVar 5) aNil))) (aCons (x2 dMul (xLst (aCons (xTup (aCons (xCst (.str ⟨⟨[112, 97, 116, 116, 101, 114, 110]⟩⟩)) (aCons (xVar 5) aNil))) aNil)) (xCst (.int (.ofNat 7)))) aNil)))) (sRet (xCst (.bl false))) sPass) (sSeq (sAsg (gNm 9) (xCall (.s (.t (.t (.t (.s .z))))) 3 (aCons (xVar 7) (aCons (xVar 5) (aCons (xVar 6) aNil))))) (sIf (xNot (xCall (.s (.s (.t (.t (.s .z))))) 2 (aCons (xVar 9) (aCons (x2 dMul (xLst (aCons (xTup (aCons (xCst (.str ⟨⟨[112, 97, 116, 116, 101, 114, 110]⟩⟩)) (aCons (xVar 5) aNil))) aNil)) (xCst (.int (.ofNat 9)))) aNil)))) (sRet (xCst (.bl false))) sPass))))))))
def d_ld : Dst := (sSeq (sAsg (gNm 9) (xLst (aCons (xTried xmL errF ⟨3, 1, none, (.tup []), [⟨8, (some 2), (some 1), (.tup [.con (.str ⟨⟨[112, 97, 116, 116, 101, 114, 110]⟩⟩), .ef ⟨⟨[116, 104, 105, 110, 103]⟩⟩])⟩, ⟨9, none, (some 1), (.tup [.con (.str ⟨⟨[117, 110, 115, 101, 116, 116, 108, 101, 100]⟩⟩)])⟩]⟩ (xCall (.s (.t (.t (.t .z)))) 2 (aCons (xLst (aCons (xVar 2) aNil)) (aCons (xVar 3) aNil)))) aNil))) (sSeq (sEx (xApp (xVar 9) (xTried xmL errF ⟨3, 1, none, (.tup []), [⟨8, (some 2), (some 1), (.tup [.con (.str ⟨⟨[112, 97, 116, 116, 101, 114, 110]⟩⟩), .ef ⟨⟨[116, 104, 105, 110, 103]⟩⟩])⟩, ⟨9, none, (some 1), (.tup [.con (.str ⟨⟨[117, 110, 115, 101, 116, 116, 108, 101, 100]⟩⟩)])⟩]⟩ (xCall (.t (.t (.s (.s (.s .z))))) 3 (aCons (xLst aNil) (aCons (xVar 2) (aCons (xLst aNil) aNil))))))) (sIf (xNot (xCall (.s (.s (.t (.t (.s .z))))) 2 (aCons (xVar 9) (aCons (x2 dMul (xLst (aCons (xTup (aCons (xCst (.str ⟨⟨[117, 110, 115, 101, 116, 116, 108, 101, 100]⟩⟩)) aNil)) aNil)) (xCst (.int (.ofNat 2)))) aNil)))) (sRet (xCst (.bl false))) sPass)))
def d_ret : Dst := (sRet (xCst (.bl true)))
def tabT : Tt := (.b (some (1, d_is_integer)) (.b (some (1, d_is_size)) (.b (some (2, d_is_name)) (.b (some (6, d_split)) (.b (some (3, d_named)) (.b (some (29, d_apart)) .e .e) (.b (some (2, d_Pattern_add)) .e .e)) (.b (some (5, d_helping)) (.b (some (3, d_always_paper)) .e .e) .e)) (.b (some (7, d_kind_of)) (.b (some (14, d_stepped)) (.b (some (4, d_all_settled)) .e .e) .e) (.b (some (2, d_helpers)) (.b (some (5, d__law_same)) .e .e) .e))) (.b (some (3, d_once)) (.b (some (5, d_orders)) (.b (some (8, d_way_into)) (.b (some (3, d_check_counts)) .e .e) .e) (.b (some (3, d_kinds_of)) (.b (some (2, d__law_one)) .e .e) .e)) (.b (some (3, d_ordered_kinds)) (.b (some (2, d_check_patterns)) (.b (some (13, d_least_more)) .e .e) .e) (.b (some (3, d_paper)) (.b (some (7, d__law_lists)) .e .e) .e)))) (.b (some (1, d_is_list)) (.b (some (1, d_is_led)) (.b (some (4, d_touches)) (.b (some (7, d_map_into)) (.b (some (7, d_is_apart)) .e .e) .e) (.b (some (3, d_vector)) .e .e)) (.b (some (3, d_width_of)) (.b (some (11, d_solved)) (.b (some (6, d_needless)) .e .e) .e) (.b (some (2, d_is_settled)) (.b (some (3, d__law_wished)) .e .e) .e))) (.b (some (4, d_checked_atoms)) (.b (some (6, d_numbered)) (.b (some (6, d_led)) (.b (some (16, d_tell)) .e .e) .e) (.b (some (9, d_exponents)) (.b (some (3, d__law_few)) .e .e) .e)) (.b (some (6, d_laid_out)) (.b (some (1, d_pieces_once)) (.b (some (2, d_always)) .e .e) .e) (.b (some (11, d_is_paper)) (.b (some (4, d_Pattern_init)) .e .e) .e)))))
def pickQ (f : Bn) : Option (List A → Hh → Out A) := Bool.rec (motive := fun _ => Option (List A → Hh → Out A)) none (some takeQ2) (Nat.beq f.nat 40)
def cl (d : Nat) : Cl := cD (getQ tabT) pickQ d
end
end K28
set_option Elab.async false
set_option linter.all false
set_option maxRecDepth 100000
set_option maxHeartbeats 4000000
namespace EV
open PySem PySem.Spec PyProof.Rows L2 ER
/-! ### outcomes checked -/
def Out.chk {α : Type} (p : α → Hh → Bool) : Out α → Bool
  | .ok a h => p a h
  | .exc _ _ _ => false
  | .bad => false
  | .pick n k => (List.range n).all fun r => Out.chk p (k r)
theorem Out.chk_all {α : Type} {p : α → Hh → Bool} {X : Nat → List (Str × A) → Hh → Prop} : ∀ {m : Out α}, m.chk p = true → m.All (fun a h => p a h = true) X
  | .ok a h, q => q
  | .exc _ _ _, q => nomatch (show false = true from q)
  | .bad, q => nomatch (show false = true from q)
  | .pick n k, q => fun r hr => Out.chk_all (List.all_eq_true.mp q r (List.mem_range.mpr hr))
/-! ### a new start: what is no longer asked for is let go -/
section
variable {S : Sc} {ρ : Rho} {h : Hh} {H : Hp}
theorem Rep.none {m : Nat} (R : Rep S ρ h H) (hm : h.cnt ≤ m) : Rep S (fun _ => .none) ⟨.z, .e, m⟩ H where
  cell := fun l c q => by
    have z : Tr.get l .e = some c := q
    rw [Tr.get_e] at z
    cases z
  dom := fun l a q => nomatch q
  inj := fun l l' a q => nomatch q
  fresh := fun l c q => by
    have z : Tr.get l .e = some c := q
    rw [Tr.get_e] at z
    cases z
  fo := S.wid _ _ _ R.fo hm
  foF := fun l a q => nomatch q
theorem one_get {c c' : Cell} {l : Bn} (q : Tr.get l (.b (some c) .e .e) = some c') : l = .z ∧ c' = c := by
  cases l with
  | z => exact ⟨rfl, (Option.some.inj q).symm⟩
  | s i =>
    have z : Tr.get i .e = some c' := q
    rw [Tr.get_e] at z
    cases z
  | t i =>
    have z : Tr.get i .e = some c' := q
    rw [Tr.get_e] at z
    cases z
theorem Rep.one {m : Nat} {l : Bn} {a : Addr} {c : Cell} (R : Rep S ρ h H) (hm : h.cnt ≤ m) (hl : ρ l = some a) (hc : ∀ ρ', COk S ρ' H c a) : Rep S (fun j => if j = .z then some a else .none) ⟨.s .z, .b (some c) .e .e, m⟩ H where
  cell := fun l c' q => by
    obtain ⟨rfl, rfl⟩ := one_get q
    exact ⟨a, if_pos rfl, hc _⟩
  dom := fun l b q => by
    by_cases e : l = .z
    · subst e; exact ⟨c, rfl⟩
    · rw [if_neg e] at q; cases q
  inj := fun l l' b q q' => by
    by_cases e : l = .z
    · by_cases e' : l' = .z
      · rw [e, e']
      · rw [if_neg e'] at q'; cases q'
    · rw [if_neg e] at q; cases q
  fresh := fun l c' q => by
    obtain ⟨rfl, rfl⟩ := one_get q
    exact Nat.lt.base 0
  fo := S.wid _ _ _ R.fo hm
  foF := fun l b q => by
    by_cases e : l = .z
    · rw [if_pos e] at q
      cases q
      exact R.foF _ _ hl
    · rw [if_neg e] at q; cases q
end
/-! ### readings by cases -/
theorem ps_ex {ι : Type} {X : Cx} {st : Stmt} {t : ι → TS} (h : ∀ i, PS X st (t i)) : PS X st (fun D σ H => ∃ i, t i D σ H) := ⟨fun pins s σ H D I q => by
  obtain ⟨i, q⟩ := q
  exact (h i).run pins s σ H D I q⟩
theorem pss_ex {ι : Type} {X : Cx} {l : List Stmt} {t : ι → TS} (h : ∀ i, PSs X l (t i)) : PSs X l (fun D σ H => ∃ i, t i D σ H) := ⟨fun pins s σ H D I q => by
  obtain ⟨i, q⟩ := q
  exact (h i).run pins s σ H D I q⟩
theorem pe_ex {ι : Type} {X : Cx} {e : Expr} {t : ι → TE} (h : ∀ i, PE X e (t i)) : PE X e (fun σ H Q => ∃ i, t i σ H Q) := ⟨fun pins s σ H D I q => by
  obtain ⟨i, q⟩ := q
  exact (h i).run pins s σ H D I q⟩
end EV
set_option Elab.async false
set_option linter.all false
set_option maxRecDepth 100000
set_option maxHeartbeats 4000000
namespace DV
open PySem PySem.Spec PyProof.Rows L2 ER EV
/-! ### what is looked at behind the top, for all laws -/
def eqOB (a b : Option Bool) : Bool := decide (a = b)
def ad (cls : List Str) (K : PySem.W.Frag) (i : Nat) : Addr := He.ga K (cls.getD i "")
/-- isinstance, all pairs -/
def kitB (cls : List Str) (kt : Kit) (K : PySem.W.Frag) : Bool :=
  ((List.range 7).all fun a => ((List.range 7).all fun b => eqOB (PySem.W.kitOne K (.type (tyN a)) (.type (tyN b))) (isi1 kt (.ty a) (.ty b))) && (List.range kt.anc.length).all fun g => eqOB (PySem.W.kitOne K (.type (tyN a)) (.ref (ad cls K g))) (isi1 kt (.ty a) (.glo g))) &&
  (List.range kt.anc.length).all fun g => ((List.range 11).all fun b => eqOB (PySem.W.kitOne K (.ref (ad cls K g)) (.type (tyN b))) (isi1 kt (.glo g) (.ty b))) && (List.range kt.anc.length).all fun g' => eqOB (PySem.W.kitOne K (.ref (ad cls K g)) (.ref (ad cls K g'))) (isi1 kt (.glo g) (.glo g'))
def excB (K : PySem.W.Frag) (C : Addr) : Bool :=
  He.eqO (PySem.W.findIn K (.ref C) "__getattribute__") (some (some (.builtin "BaseException.__getattribute__"))) && (He.eqO (PySem.W.findIn K (.ref C) "__getattr__") (some none) && (eqOB (PySem.W.subIn K (.ref C) (.type "BaseException")) (some true) && (PySem.W.hasDictIn K C &&
  (He.eqO (PySem.W.findIn K (.ref C) "__class__") (some (some (.builtin "object.__class__"))) && (He.eqO (PySem.W.specialIn K (.builtin "object.__class__") "__get__") (some (some (.builtin "getset_descriptor.__get__"))) && (eqOB (PySem.W.takesIn K (.builtin "object.__class__")) (some true) && eqOB (PySem.W.mroIn K C (.type "object")) (some true)))))))
theorem excB_ok {K : PySem.W.Frag} {C : Addr} (h : excB K C = true) : ExcC K C := by
  obtain ⟨h1, h⟩ := He.ba h
  obtain ⟨h2, h⟩ := He.ba h
  obtain ⟨h3, h⟩ := He.ba h
  obtain ⟨h4, h⟩ := He.ba h
  obtain ⟨h5, h⟩ := He.ba h
  obtain ⟨h6, h⟩ := He.ba h
  obtain ⟨h7, h8⟩ := He.ba h
  exact ⟨He.eqO_ok h1, He.eqO_ok h2, of_decide_eq_true h3, h4, He.eqO_ok h5, He.eqO_ok h6, of_decide_eq_true h7, of_decide_eq_true h8⟩
/-- the class object of an own error with an __init__ -/
def clsB (K : PySem.W.Frag) (C : Addr) : Bool := match K.lookup C with
  | some ⟨.type t, dd, .cls ⟨nm, bs, .ref C' :: bm, N, qn, true, sn, sub, ab, col, false⟩, sl⟩ => (match sl.toList with
    | [k0, k1, k2, k3, some (.builtin n), k5] => decide (t = "type") && (decide (C' = C) && (decide (n = "ValueError.__new__") && PySem.HandSPX.refsVE bm))
    | _ => false)
  | _ => false
theorem clsB_ok {K : PySem.W.Frag} {C : Addr} (h : clsB K C = true) : ∃ nm q N bs bm sn sub ab col dd k0 k1 k2 k3 k5, K.lookup C = some (excClassObj nm q C N bs bm true sn sub ab col dd k0 k1 k2 k3 k5 "ValueError.__new__") ∧ PySem.HandSPX.refsVE bm = true := by
  unfold clsB at h
  split at h
  · rename_i t dd nm bs C' bm N qn sn sub ab col sl e
    split at h
    · rename_i k0 k1 k2 k3 n k5 e2
      obtain ⟨h1, h⟩ := He.ba h
      obtain ⟨h2, h⟩ := He.ba h
      obtain ⟨h3, h4⟩ := He.ba h
      have e3 : sl = #[k0, k1, k2, k3, some (.builtin n), k5] := Array.ext' e2
      have z1 := of_decide_eq_true h1
      have z2 := of_decide_eq_true h2
      have z3 := of_decide_eq_true h3
      subst z1 z2 z3 e3
      exact ⟨nm, qn, N, bs, bm, sn, sub, ab, col, dd, k0, k1, k2, k3, k5, e, h4⟩
    · cases h
  · cases h
def oexB (K : PySem.W.Frag) (C : Addr) : Bool :=
  clsB K C && (He.eqO (PySem.W.findIn K (.ref C) "__setattr__") (some (some (.builtin "object.__setattr__"))) && (eqOB (PySem.W.subIn K (.ref C) (.type "BaseException")) (some true) && (decide (PySem.W.typeIn K (.ref C) = some (.type "type")) && PySem.W.keepIn K (.ref C))))
theorem oexB_ok {K : PySem.W.Frag} {C : Addr} (h : oexB K C = true) : OexC K C := by
  obtain ⟨h1, h⟩ := He.ba h
  obtain ⟨h2, h⟩ := He.ba h
  obtain ⟨h3, h⟩ := He.ba h
  obtain ⟨h4, h5⟩ := He.ba h
  exact ⟨clsB_ok h1, He.eqO_ok h2, of_decide_eq_true h3, of_decide_eq_true h4, h5⟩
/-! ### the __init__ of an own error -/
def codeB (P : Program) (K : PySem.W.Frag) (c : Addr) : Bool := match K.lookup c with
  | some ⟨_, _, .fields vs, _⟩ => (match (vs[2]? : Option Value) with
    | some (.str file _) => P.main.file == file
    | _ => false)
  | _ => false
theorem codeB_ok {P : Program} {K : PySem.W.Frag} {c : Addr} (h : codeB P K c = true) : ∃ ccl cdd vs ccs file tf, K.lookup c = some ⟨ccl, cdd, .fields vs, ccs⟩ ∧ vs[2]? = some (.str file tf) ∧ ((P.main.file : Str) == file) = true := by
  unfold codeB at h
  split at h
  · rename_i e
    split at h
    · rename_i file tf e2
      exact ⟨_, _, _, _, file, tf, e, e2, h⟩
    · cases h
  · cases h
def cellB (K : PySem.W.Frag) (c C : Addr) : Bool := match K.lookup c with
  | some ⟨_, _, .cell (some (.ref C')), _⟩ => decide (C' = C)
  | _ => false
theorem cellB_ok {K : PySem.W.Frag} {c C : Addr} (h : cellB K c C = true) : ∃ cl cld csl, K.lookup c = some ⟨cl, cld, .cell (some (.ref C)), csl⟩ := by
  unfold cellB at h
  split at h
  · rename_i C' _ e
    have z := of_decide_eq_true h
    subst z
    exact ⟨_, _, _, e⟩
  · cases h
def scopeB : Scope → Bool
  | ⟨.function, names, false, false, _⟩ => (names.all fun y => !(y.2 == NameKind.cell) && (!(y.2 == NameKind.free) || y.1 == "__class__")) && (kindIs ⟨.function, names, false, false, []⟩ "super" .globalImplicit && (kindIs ⟨.function, names, false, false, []⟩ "__class__" .free && kindIs ⟨.function, names, false, false, []⟩ "self" .local))
  | _ => false
theorem scopeB_ok {sc : Scope} (h : scopeB sc = true) : ErrS sc := by
  unfold scopeB at h
  split at h
  · rename_i names more
    obtain ⟨h1, h⟩ := He.ba h
    obtain ⟨h2, h⟩ := He.ba h
    obtain ⟨h3, h4⟩ := He.ba h
    refine ⟨rfl, rfl, rfl, fun x hx z => ?_, fun x hx => ?_, kindIs_ok h2, kindIs_ok h3, kindIs_ok h4⟩
    · obtain ⟨q1, q2⟩ := He.ba (List.all_eq_true.mp h1 x hx)
      rw [z] at q1
      cases q1
    · obtain ⟨q1, q2⟩ := He.ba (List.all_eq_true.mp h1 _ (PySem.mem_of_lookup hx))
      rw [Bool.or_eq_true] at q2
      rcases q2 with q2 | q2
      · cases q2
      · exact eq_of_beq q2
  · cases h
/-- what is common to both kinds: the function object at fI, the class at C -/
def headB (P : Program) (K : PySem.W.Frag) (C fI : Addr) (name qual cn : Str) (scope : Scope) (gl bi cc cda : Addr) : Bool :=
  decide (name = "__init__") && (decide (gl = mainGlobals) && (decide (cn = "__class__") && (decide (bi = builtinsNs) && (PySem.W.codeIn K (.ref cda) qual && (decide (PySem.W.typeIn K (.ref fI) = some (.type "function")) && (codeB P K cda && (cellB K cc C && (scopeB scope && (oexB K C &&
  (decide (PySem.W.ks_superIn K C C "__init__" = some (some (.builtin "ValueError.__init__"))) && (He.eqO (PySem.W.nsIn K cStatics "thirdparty.any") (some none) && !(List.lookup ("super" : Str) P.main.scope.names).isSome)))))))))))
structure HeadOk (P : Program) (K : PySem.W.Frag) (mg : Str → Option Value) (C fI : Addr) (name qual cn : Str) (scope : Scope) (gl bi cc cda : Addr) : Prop where
  name : name = "__init__"
  gl : gl = mainGlobals
  cn : cn = "__class__"
  bi : bi = builtinsNs
  code : PySem.W.codeIn K (.ref cda) qual = true
  ty : PySem.W.typeIn K (.ref fI) = some (.type "function")
  sc : ErrS scope
  T : ErrT P K mg C cc cda
theorem headB_ok {P : Program} {K : PySem.W.Frag} {mg : Str → Option Value} {C fI : Addr} {name qual cn : Str} {scope : Scope} {gl bi cc cda : Addr} (ms : mg "super" = none) (h : headB P K C fI name qual cn scope gl bi cc cda = true) : HeadOk P K mg C fI name qual cn scope gl bi cc cda := by
  obtain ⟨h1, h⟩ := He.ba h
  obtain ⟨h2, h⟩ := He.ba h
  obtain ⟨h3, h⟩ := He.ba h
  obtain ⟨h4, h⟩ := He.ba h
  obtain ⟨h5, h⟩ := He.ba h
  obtain ⟨h6, h⟩ := He.ba h
  obtain ⟨h7, h⟩ := He.ba h
  obtain ⟨h8, h⟩ := He.ba h
  obtain ⟨h9, h⟩ := He.ba h
  obtain ⟨h10, h⟩ := He.ba h
  obtain ⟨h11, h⟩ := He.ba h
  obtain ⟨h12, h13⟩ := He.ba h
  exact ⟨of_decide_eq_true h1, of_decide_eq_true h2, of_decide_eq_true h3, of_decide_eq_true h4, h5, of_decide_eq_true h6, scopeB_ok h9, ⟨oexB_ok h10, codeB_ok h7, cellB_ok h8, ms, of_decide_eq_true h11, He.eqO_ok h12, by simpa using h13⟩⟩
def fieldN : List Str := ["index", "many", "size", "row", "power", "thing", "word", "at", "line", "way", "place"]
def init1B (P : Program) (K : PySem.W.Frag) (C : Addr) (f : Str) : Bool := match PySem.W.findIn K (.ref C) "__init__" with
  | some (some (.ref fI)) => (match K.lookup fI with
    | some ⟨_, _, .func ⟨name, qual, ⟨[], [⟨a0, n0, q0⟩, ⟨a1, n1, q1⟩], none, [], [], none, []⟩, .stmts [.Expr (.Call (.Attribute (.Call (.Name s0 p0) [] [] p1) s1 p2) [.Constant (.str msg) j p3] [] p4) p5, .Assign [.Attribute (.Name s2 q2) s3 q3] (.Name s4 q4) q5], scope, gl, [(cn, cc)], .none, kV, doc, pm, an, .ref cda, ct, bi⟩, _⟩ =>
      headB P K C fI name qual cn scope gl bi cc cda && (decide (a0 = "self") && (decide (a1 = f) && (decide (s0 = "super") && (decide (s1 = "__init__") && (decide (s2 = "self") && (decide (s3 = f) && (decide (s4 = f) && (kindIs scope f .local && ((p2.endLine == p4.line) && (He.eqO (PySem.W.findIn K (.ref C) f) (some none) && fieldN.contains f))))))))))
    | _ => false)
  | _ => false
def init0B (P : Program) (K : PySem.W.Frag) (C : Addr) : Bool := match PySem.W.findIn K (.ref C) "__init__" with
  | some (some (.ref fI)) => (match K.lookup fI with
    | some ⟨_, _, .func ⟨name, qual, ⟨[], [⟨a0, n0, q0⟩], none, [], [], none, []⟩, .stmts [.Expr (.Call (.Attribute (.Call (.Name s0 p0) [] [] p1) s1 p2) [.Constant (.str msg) j p3] [] p4) p5], scope, gl, [(cn, cc)], .none, kV, doc, pm, an, .ref cda, ct, bi⟩, _⟩ =>
      headB P K C fI name qual cn scope gl bi cc cda && (decide (a0 = "self") && (decide (s0 = "super") && (decide (s1 = "__init__") && (p2.endLine == p4.line))))
    | _ => false)
  | _ => false
section
variable {qual : Str} {n0 n1 : Option Expr} {q0 q1 : Pos} {body : List Stmt} {scope : Scope} {kV doc pm ct : Value} {an : Option Addr} {cdv : Value} {cc : Addr} {a u : Value}
theorem bind1 {f : Str} (hf : fieldN.contains f = true) : bindArgs (PySem.W.ksFn "__init__" qual ⟨[], [⟨"self", n0, q0⟩, ⟨f, n1, q1⟩], none, [], [], none, []⟩ body scope .none kV doc pm an cdv ct cc) ⟨[a, u], []⟩ = pure [(("self" : Str), a), (f, u)] := by
  have h := List.contains_iff_mem.mp hf
  simp only [fieldN, List.mem_cons, List.not_mem_nil, or_false] at h
  rcases h with rfl | rfl | rfl | rfl | rfl | rfl | rfl | rfl | rfl | rfl | rfl <;> rfl
theorem bindK {f : Str} (hf : fieldN.contains f = true) : bindArgs (PySem.W.ksFn "__init__" qual ⟨[], [⟨"self", n0, q0⟩, ⟨f, n1, q1⟩], none, [], [], none, []⟩ body scope .none kV doc pm an cdv ct cc) ⟨[a], [(f, u)]⟩ = pure [(("self" : Str), a), (f, u)] := by
  have h := List.contains_iff_mem.mp hf
  simp only [fieldN, List.mem_cons, List.not_mem_nil, or_false] at h
  rcases h with rfl | rfl | rfl | rfl | rfl | rfl | rfl | rfl | rfl | rfl | rfl <;> rfl
theorem bind0 : bindArgs (PySem.W.ksFn "__init__" qual ⟨[], [⟨"self", n0, q0⟩], none, [], [], none, []⟩ body scope .none kV doc pm an cdv ct cc) ⟨[a], []⟩ = pure [(("self" : Str), a)] := rfl
end
theorem field_ok {f : Str} (hf : fieldN.contains f = true) : f ≠ "self" ∧ (f == ("__debug__" : Str)) = false ∧ (f == ("__classdict__" : Str)) = false := by
  have h := List.contains_iff_mem.mp hf
  simp only [fieldN, List.mem_cons, List.not_mem_nil, or_false] at h
  rcases h with rfl | rfl | rfl | rfl | rfl | rfl | rfl | rfl | rfl | rfl | rfl <;> decide
theorem init1B_ok {P : Program} {w : World} {base : Heap} {K : PySem.W.Frag} {mg : Str → Option Value} {C : Addr} {f : Str} (ms : mg "super" = none) (h : init1B P K C f = true) : ∃ fI fd, Err1Ok P w K mg base C f fI fd := by
  unfold init1B at h
  split at h
  · rename_i fI e1
    split at h
    · rename_i name qual a0 n0 q0 a1 n1 q1 s0 p0 p1 s1 p2 msg j p3 p4 p5 s2 q2 s3 q3 s4 q4 q5 scope gl cn cc kV doc pm an cda ct bi _ e2
      obtain ⟨h0, h⟩ := He.ba h
      obtain ⟨h1, h⟩ := He.ba h
      obtain ⟨h2, h⟩ := He.ba h
      obtain ⟨h3, h⟩ := He.ba h
      obtain ⟨h4, h⟩ := He.ba h
      obtain ⟨h5, h⟩ := He.ba h
      obtain ⟨h6, h⟩ := He.ba h
      obtain ⟨h7, h⟩ := He.ba h
      obtain ⟨h8, h⟩ := He.ba h
      obtain ⟨h9, h⟩ := He.ba h
      obtain ⟨h10, h11⟩ := He.ba h
      have hd := headB_ok (mg := mg) ms h0
      have z1 := of_decide_eq_true h1
      have z2 := of_decide_eq_true h2
      have z3 := of_decide_eq_true h3
      have z4 := of_decide_eq_true h4
      have z5 := of_decide_eq_true h5
      have z6 := of_decide_eq_true h6
      have z7 := of_decide_eq_true h7
      have y1 := hd.name
      have y2 := hd.gl
      have y3 := hd.cn
      have y4 := hd.bi
      subst y1 y2 y3 y4 z1 z2 z3 z4 z5 z6
      have z7' : s4 = s3 := z7
      subst z7'
      obtain ⟨g1, g2, g3⟩ := field_ok h11
      refine ⟨fI, _, hd.T.T, e1, hd.ty, fun CX => err_init1 (CX := CX) (ar := ⟨"self", n0, q0⟩) hd.T hd.sc e2 hd.code rfl rfl (kindIs_ok h8) g1 g2 g3 (He.eqO_ok h10) h9 (fun env => rfl) (fun env => rfl), fun s a u => .of_eq (bind1 h11), fun s a u => .of_eq (bindK h11)⟩
    · cases h
  · cases h
theorem init0B_ok {P : Program} {w : World} {base : Heap} {K : PySem.W.Frag} {mg : Str → Option Value} {C : Addr} (ms : mg "super" = none) (h : init0B P K C = true) : ∃ fI fd, Err0Ok P w K mg base C fI fd := by
  unfold init0B at h
  split at h
  · rename_i fI e1
    split at h
    · rename_i name qual a0 n0 q0 s0 p0 p1 s1 p2 msg j p3 p4 p5 scope gl cn cc kV doc pm an cda ct bi _ e2
      obtain ⟨h0, h⟩ := He.ba h
      obtain ⟨h1, h⟩ := He.ba h
      obtain ⟨h3, h⟩ := He.ba h
      obtain ⟨h4, h9⟩ := He.ba h
      have hd := headB_ok (mg := mg) ms h0
      have z1 := of_decide_eq_true h1
      have z3 := of_decide_eq_true h3
      have z4 := of_decide_eq_true h4
      have y1 := hd.name
      have y2 := hd.gl
      have y3 := hd.cn
      have y4 := hd.bi
      subst y1 y2 y3 y4 z1 z3 z4
      refine ⟨fI, _, hd.T.T, e1, hd.ty, fun CX => err_init0 (CX := CX) (ar := ⟨"self", n0, q0⟩) hd.T hd.sc e2 hd.code rfl rfl h9 (fun env => rfl), fun s a => .of_eq bind0⟩
    · cases h
  · cases h
end DV
set_option Elab.async false
set_option linter.all false
set_option maxRecDepth 100000
set_option maxHeartbeats 4000000
namespace DV
open PySem PySem.Spec PyProof.Rows L2 ER EV
noncomputable section
/-! ### a law's data, its facts behind the top -/
structure Lw where
  P : Program
  D : DTb
  cls : List Str
  fns : List He.DefD
  law : List He.DefD
  lams : List He.Defn
def ar (d : He.DefD) : Nat := d.params.args.length
section
variable (L : Lw)
def Lw.defs : List He.DefD := L.fns ++ L.law
def Lw.faY : List He.Fa := L.D.tb.free.map He.Fa.free ++ (L.cls.map He.Fa.glo ++ (L.defs.filterMap fun d => match d.at_ with | (x, none) => some (He.Fa.glo x) | _ => none))
def Lw.ne : Nat := L.D.tb.kit.anc.length
def clsAllB (K : PySem.W.Frag) (i : Nat) : Bool := excB K (ad L.cls K i) && (match L.D.tb.kit.fld.getD i none with
  | some f => init1B L.P K (ad L.cls K i) f && He.eqO (PySem.W.findIn K (.ref (ad L.cls K i)) f) (some none)
  | none => i == 0 || init0B L.P K (ad L.cls K i))
def bareB (K : PySem.W.Frag) : Bool := PySem.W.excIn K (ad L.cls K 0) He.veBase "ValueError.__new__" && PySem.W.keepIn K (.ref (ad L.cls K 0))
/-- constants as values by names -/
def dvOf : A → Option He.Dv
  | .non => some .non
  | .bl b => some (.bl b)
  | .int i => some (.int i)
  | .str x => some (.str x)
  | _ => none
def dvsOf : List A → Option (List He.Dv)
  | [] => some []
  | x :: xs => (dvOf x).bind fun d => (dvsOf xs).map (d :: ·)
def conB (K : PySem.W.Frag) : Str × GV → Bool
  | (x, .con (.int i)) => (He.Fa.int x i).ok K
  | (x, .con (.str z)) => (He.Fa.str x z).ok K
  | (x, .con (.tup xs)) => (match dvsOf xs with
    | some vs => He.tupB K x vs && (He.Fa.glo x).ok K
    | none => false)
  | (_, .con _) => false
  | _ => true
def mkB (K : PySem.W.Frag) : Str × GV → Bool
  | (x, .mk C f n) => Nat.blt C L.cls.length && (decide (L.cls.getD C "" = x) && ((He.Fa.mkr x).ok K && (match L.fns[f.nat]? with
    | some d => decide (d.at_ = (x, some ("__init__" : Str))) && Nat.beq (ar d) (n + 1)
    | none => false)))
  | (x, .fn f n) => (match L.fns[f.nat]? with
    | some d => decide (d.at_ = (x, none)) && Nat.beq (ar d) n
    | none => false)
  | _ => true
def fldB (K : PySem.W.Frag) (p : Nat × Str) : Bool := Nat.blt p.1 L.cls.length && ((He.Fa.cls (L.cls.getD p.1 "")).ok K && (He.Fa.noat (L.cls.getD p.1 "") p.2).ok K)
def insB (K : PySem.W.Frag) (C : Nat) : Bool := Nat.blt C L.cls.length && ((He.Fa.cls (L.cls.getD C "")).ok K && (He.eqO (PySem.W.findIn K (.ref (ad L.cls K C)) "__class__") (some (some (.builtin "object.__class__"))) && (He.eqO (PySem.W.specialIn K (.builtin "object.__class__") "__get__") (some (some (.builtin "getset_descriptor.__get__"))) && (eqOB (PySem.W.takesIn K (.builtin "object.__class__")) (some true) && eqOB (PySem.W.mroIn K (ad L.cls K C) (.type "object")) (some true)))))
def xmB (K : PySem.W.Frag) : Bool := (Nat.ble L.D.xm.length L.cls.length && L.D.xm.all fun r => Nat.ble r.length L.cls.length) && ((List.range L.D.xm.length).all fun C => (List.range L.cls.length).all fun Ch => match xmQ L.D.xm C Ch with
  | some b => eqOB (PySem.W.exmOne K (.ref (ad L.cls K C)) (.ref (ad L.cls K Ch))) (some b)
  | none => true)
def bopB (K : PySem.W.Frag) (p : Str × List (Nat × Bn)) : Bool := p.2.all fun q => Nat.blt q.1 L.cls.length && ((He.Fa.meth (L.cls.getD q.1 "") p.1).ok K && (PySem.W.selfFirst K (ad L.cls K q.1) && (match L.fns[q.2.nat]? with
    | some d => decide (d.at_ = (L.cls.getD q.1 "", some p.1)) && Nat.beq (ar d) 2
    | none => false)))
def mthB (K : PySem.W.Frag) (p : (Nat × Str) × (Bn × Nat)) : Bool := Nat.blt p.1.1 L.cls.length && ((He.Fa.cls (L.cls.getD p.1.1 "")).ok K && ((He.Fa.meth (L.cls.getD p.1.1 "") p.1.2).ok K && (match L.fns[p.2.1.nat]? with
    | some d => decide (d.at_ = (L.cls.getD p.1.1 "", some p.1.2)) && Nat.beq (ar d) (p.2.2 + 1)
    | none => false)))
def tglB : Str × EV.GV → Bool
  | (x, .err C f) => Nat.blt C L.ne && (decide (L.cls.getD C "" = x) && decide (L.D.tb.kit.fld.getD C none = some f))
  | (x, .err0 C) => Nat.blt C L.ne && (decide (L.cls.getD C "" = x) && (decide (L.D.tb.kit.fld.getD C none = none) && !(C == 0)))
  | (x, .bare C) => (C == 0) && (Nat.blt C L.ne && decide (L.cls.getD C "" = x))
  | (x, .cls C) => Nat.blt C L.cls.length && decide (L.cls.getD C "" = x)
  | _ => false
/-- what needs no heap -/
def Lw.stat : Bool := L.D.tb.gl.all (tglB L) && (Nat.ble L.ne L.cls.length && (Nat.ble L.D.kit.anc.length L.cls.length && (Nat.blt L.cls.length 99 && (Nat.ble L.D.tb.kit.fld.length L.ne && decide (L.D.kit.anc.take L.ne = L.D.tb.kit.anc)))))
def ndB : List Addr → Bool
  | [] => true
  | a :: r => !r.contains a && ndB r
def Lw.ex (K : PySem.W.Frag) : Bool := true && (kitB L.cls L.D.kit K && ((List.range L.ne).all (clsAllB L K) && (bareB L K && (L.D.gl.all (conB K) && (L.D.gl.all (mkB L K) && (L.D.fld.all (fldB L K) && (L.D.ins.all (insB L K) && (xmB L K && (L.D.bop.all (bopB L K) && (L.D.mth.all (mthB L K) && ndB (L.lams.map fun p => (He.cT K p).2)))))))))))
structure SaysL (h : Heap) (K : PySem.W.Frag) : Prop where
  d : He.SaysD L.faY L.defs K
  more : L.ex K = true
  hd : ∀ p ∈ L.lams, PySem.W.codeHdIn K (He.cT K p).1 (He.cT K p).2 = true
  out : ∀ p ∈ L.lams, K.lookup (He.cT K p).2 = none
  empty : ∀ p ∈ L.lams, h.get? (He.cT K p).2 = some { cls := .none, data := .fields #[] }
/-- names whose objects are looked at -/
def Lw.need : List Str := L.cls ++ ((L.defs.filterMap fun d => match d.at_ with | (x, none) => some x | _ => none) ++ L.D.gl.filterMap fun p => match p.2 with | .con (.tup _) => some p.1 | _ => none)
def stepF (g : Addr → Option Obj) (a : Addr) : List Addr := match g a with
  | some o => (match o.data with
    | .func fd => He.refV fd.code ++ (He.refV fd.defaults ++ fd.closure.map (·.2))
    | _ => [])
  | none => []
def stepC (g : Addr → Option Obj) (a : Addr) : List Addr := match g a with
  | some o => (match o.data with
    | .cls cd => [cd.ns]
    | _ => [])
  | none => []
def isFun (g : Addr → Option Obj) (a : Addr) : Bool := match g a with
  | some o => (match o.data with
    | .func _ => true
    | _ => false)
  | none => false
def stepD (g : Addr → Option Obj) (a : Addr) : List Addr := match g a with
  | some o => (match o.data with
    | .dict es _ => (es.toList.flatMap fun e => He.refV e.val).filter (isFun g)
    | _ => [])
  | none => []
def asL (g : Addr → Option Obj) : List Addr :=
  let K0 := He.frG g [mainGlobals]
  let a1 := L.need.map (He.ga K0)
  let a2 := a1.flatMap (stepC g)
  let a3 := a2.flatMap (stepD g)
  mainGlobals :: cStatics :: (a1 ++ (a2 ++ (a3 ++ (a1 ++ a3).flatMap (stepF g))))
def obsLK (g : Addr → Option Obj) (K : PySem.W.Frag) : He.AlD × Bool := (He.obsD L.faY L.defs K, L.ex K && He.tabsB g L.lams K)
def obsL (g : Addr → Option Obj) : He.AlD × Bool := obsLK L g (He.frT g (asL L g))
theorem saysL_of {h : Heap} (e : obsL L h.get? = (He.valD L.defs, true)) : SaysL L h (He.frT h.get? (asL L h.get?)) := by
  generalize hK : He.frT h.get? (asL L h.get?) = K at *
  unfold obsL at e
  rw [hK] at e
  have e1 : He.obsD L.faY L.defs K = He.valD L.defs := congrArg (fun z : He.AlD × Bool => z.1) e
  have e2 : (L.ex K && He.tabsB h.get? L.lams K) = true := congrArg (fun z : He.AlD × Bool => z.2) e
  obtain ⟨h1, h2⟩ := He.ba e2
  have key : ∀ p ∈ L.lams, PySem.W.codeHdIn K (He.cT K p).1 (He.cT K p).2 = true ∧ ∃ o, h.get? (He.cT K p).2 = some o ∧ He.emptyTab o = true := fun p hp => by
    obtain ⟨h3, h4⟩ := He.ba (List.all_eq_true.mp h2 p hp)
    refine ⟨h3, ?_⟩
    cases q : h.get? (He.cT K p).2 with
    | none =>
      rw [q] at h4
      cases h4
    | some o =>
      rw [q] at h4
      exact ⟨o, rfl, h4⟩
  exact ⟨e1, h1, fun p hp => (key p hp).1, fun p hp => by
    obtain ⟨_, o, q, z⟩ := key p hp
    rw [← hK]
    rw [← hK] at q
    exact He.frT_none q z, fun p hp => by
    obtain ⟨_, o, q, z⟩ := key p hp
    rw [q, He.emptyTab_eq z]⟩
def hkL : PySem.W.Hook where
  α := He.AlD × Bool
  obs := fun s => obsL L s.heap.get?
  val := fun _ => (He.valD L.defs, true)
  says := fun _ h => ∃ K : PySem.W.Frag, K.In h ∧ SaysL L h K
  of := fun _ _ e => ⟨_, He.frT_in, saysL_of L e⟩
  keeps := fun _ _ _ ⟨K, hK, c⟩ k => ⟨K, PySem.W.Frag.In.keeps hK k, ⟨c.d, c.more, c.hd, c.out, fun p hp => k _ _ (c.empty p hp)⟩⟩
def obL (s : PySem.W.SharedT) : He.AlD × Bool := obsL L (HandSHeadRun.getT s)
theorem obL_eq (s : PySem.W.SharedT) : obL L s = (hkL L).obs s.abs := by
  have e : HandSHeadRun.getT s = s.abs.heap.get? := funext (HandSHeadRun.getT_eq s)
  show obsL L (HandSHeadRun.getT s) = obsL L s.abs.heap.get?
  rw [e]
end
end
end DV
set_option Elab.async false
set_option linter.all false
set_option maxRecDepth 100000
set_option maxHeartbeats 4000000
namespace DV
open PySem PySem.Spec PyProof.Rows L2 ER EV
noncomputable section
/-! ### from the facts to the ground -/
def faOf (L : Lw) (K : PySem.W.Frag) (f : Bn) : Option (Nat × Addr) := (L.fns[f.nat]?).map fun d => (ar d, He.fAd K d.at_)
/-- a ground over a law's facts -/
structure GrL (L : Lw) (K : PySem.W.Frag) (mg : Str → Option Value) (B : DBs) : Prop where
  kk : B.bs.S.K = K
  G : ∀ C, C < L.cls.length → B.bs.S.G C = some (ad L.cls K C)
  P : B.bs.P = L.P
  gg : B.bs.mg = mg
  T : B.bs.T = L.D.tb
  D : B.D = L.D
  tz : B.bs.S.tz = L.D.tz
  lam : ∀ n, L.D.tb.lam n = none
  lamS : ∀ n, B.bs.S.lam n = none
  tabs : ∀ m H, B.bs.S.Φ m H → LamX.Tabs B.bs.tabs H
  lamF : ∀ m H H', B.bs.S.Φ m H → LamX.ExtN H H' → LamX.Tabs B.bs.tabs H' → B.bs.S.Φ m H'
  fa : B.fa = faOf L K
theorem mem_lk {β : Type} {x : Str} {v : β} : ∀ {l : List (Str × β)}, l.lookup x = some v → (x, v) ∈ l
  | (k, u) :: r, h => by
    cases e : (x == k) with
    | true =>
      simp only [List.lookup, e] at h
      rw [eq_of_beq e, ← Option.some.inj h]
      exact List.mem_cons_self ..
    | false =>
      simp only [List.lookup, e] at h
      exact List.mem_cons_of_mem _ (mem_lk h)
section
variable {L : Lw} {K : PySem.W.Frag} {h : Heap} {mg : Str → Option Value} {B : DBs}
theorem stat_gl (S : L.stat = true) {x : Str} {g : EV.GV} (e : L.D.tb.gl.lookup x = some g) : tglB L (x, g) = true := List.all_eq_true.mp (He.ba S).1 _ (mem_lk e)
theorem stat_ne (S : L.stat = true) : L.ne ≤ L.cls.length := Nat.le_of_ble_eq_true (He.ba (He.ba S).2).1
theorem stat_anc (S : L.stat = true) : L.D.kit.anc.length ≤ L.cls.length := Nat.le_of_ble_eq_true (He.ba (He.ba (He.ba S).2).2).1
theorem stat_99 (S : L.stat = true) : L.cls.length < 99 := Nat.le_of_ble_eq_true (He.ba (He.ba (He.ba (He.ba S).2).2).2).1
theorem stat_fld (S : L.stat = true) : L.D.tb.kit.fld.length ≤ L.ne := Nat.le_of_ble_eq_true (He.ba (He.ba (He.ba (He.ba (He.ba S).2).2).2).2).1
theorem stat_pre (S : L.stat = true) : L.D.kit.anc.take L.ne = L.D.tb.kit.anc := of_decide_eq_true (He.ba (He.ba (He.ba (He.ba (He.ba S).2).2).2).2).2
theorem pre_get {α : Type} {n : Nat} {l l' : List α} (h : l.take n = l') {i : Nat} {a : α} (e : l'[i]? = some a) : l[i]? = some a := by
  rw [← h, List.getElem?_take] at e
  split at e
  · exact e
  · cases e
theorem isi_pre {k k' : Kit} {n : Nat} (h : k.anc.take n = k'.anc) {t c : A} {b : Bool} (e : isi1 k' t c = some b) : isi1 k t c = some b := by
  unfold isi1 at e ⊢
  split at e
  · exact e
  · rename_i a g
    split at e
    · rename_i ha
      rw [if_pos ha]
      obtain ⟨p, hp, e⟩ := Option.map_eq_some_iff.mp e
      rw [pre_get h hp, ← e]
      rfl
    · cases e
  · rename_i g b'
    split at e
    · rename_i ha
      rw [if_pos ha]
      obtain ⟨p, hp, e⟩ := Option.map_eq_some_iff.mp e
      rw [pre_get h hp, ← e]
      rfl
    · cases e
  · rename_i g g'
    obtain ⟨p, hp, e⟩ := Option.bind_eq_some_iff.mp e
    obtain ⟨p', hp', e⟩ := Option.map_eq_some_iff.mp e
    rw [pre_get h hp, pre_get h hp', ← e]
    rfl
  · cases e
theorem getD_mem {C : Nat} (hc : C < L.cls.length) : L.cls.getD C "" ∈ L.cls := by
  rw [List.getD_eq_getElem?_getD, List.getElem?_eq_getElem hc]
  exact List.getElem_mem _
theorem mg_cls (X : K.In h) (G : h.Ns mainGlobals mg) (c : SaysL L h K) {C : Nat} (hc : C < L.cls.length) : mg (L.cls.getD C "") = some (.ref (ad L.cls K C)) :=
  He.glo_ok X G (c.d.facts (f := .glo (L.cls.getD C "")) (List.mem_append_right _ (List.mem_append_left _ (List.mem_map.mpr ⟨_, getD_mem hc, rfl⟩))))
theorem mg_fn (X : K.In h) (G : h.Ns mainGlobals mg) (c : SaysL L h K) {d : He.DefD} {x : Str} (hd : d ∈ L.defs) (e : d.at_ = (x, none)) : mg x = some (.ref (He.fAd K d.at_)) := by
  rw [e]
  refine He.glo_ok X G (c.d.facts (f := .glo x) (List.mem_append_right _ (List.mem_append_right _ (List.mem_filterMap.mpr ⟨d, hd, ?_⟩))))
  rw [e]
theorem mg_free (X : K.In h) (G : h.Ns mainGlobals mg) (c : SaysL L h K) {x : Str} (hx : x ∈ L.D.tb.free) : mg x = none :=
  He.free_ok X G (c.d.facts (f := .free x) (List.mem_append_left _ (List.mem_map.mpr ⟨_, hx, rfl⟩)))
theorem ex_kit (c : SaysL L h K) : kitB L.cls L.D.kit K = true := (He.ba (He.ba c.more).2).1
theorem ex_err (c : SaysL L h K) {C : Nat} (hc : C < L.ne) : clsAllB L K C = true := List.all_eq_true.mp (He.ba (He.ba (He.ba c.more).2).2).1 C (List.mem_range.mpr hc)
theorem ex_bare (c : SaysL L h K) : bareB L K = true := (He.ba (He.ba (He.ba (He.ba c.more).2).2).2).1
theorem ex_con (c : SaysL L h K) {x : Str} {g : GV} (e : L.D.gl.lookup x = some g) : conB K (x, g) = true := List.all_eq_true.mp (He.ba (He.ba (He.ba (He.ba (He.ba c.more).2).2).2).2).1 _ (mem_lk e)
theorem ex_mk (c : SaysL L h K) {x : Str} {g : GV} (e : L.D.gl.lookup x = some g) : mkB L K (x, g) = true := List.all_eq_true.mp (He.ba (He.ba (He.ba (He.ba (He.ba (He.ba c.more).2).2).2).2).2).1 _ (mem_lk e)
theorem ex_fld (c : SaysL L h K) {p : Nat × Str} (e : p ∈ L.D.fld) : fldB L K p = true := List.all_eq_true.mp (He.ba (He.ba (He.ba (He.ba (He.ba (He.ba (He.ba c.more).2).2).2).2).2).2).1 _ e
theorem ex_ins (c : SaysL L h K) {C : Nat} (e : C ∈ L.D.ins) : insB L K C = true := List.all_eq_true.mp (He.ba (He.ba (He.ba (He.ba (He.ba (He.ba (He.ba (He.ba c.more).2).2).2).2).2).2).2).1 _ e
theorem ex_xm (c : SaysL L h K) : xmB L K = true := (He.ba (He.ba (He.ba (He.ba (He.ba (He.ba (He.ba (He.ba (He.ba c.more).2).2).2).2).2).2).2).2).1
theorem ex_bop (c : SaysL L h K) {m : Str} {l : List (Nat × Bn)} (e : L.D.bop.lookup m = some l) : bopB L K (m, l) = true := List.all_eq_true.mp (He.ba (He.ba (He.ba (He.ba (He.ba (He.ba (He.ba (He.ba (He.ba (He.ba c.more).2).2).2).2).2).2).2).2).2).1 _ (mem_lk e)
theorem ex_mth (c : SaysL L h K) {p : (Nat × Str) × (Bn × Nat)} (e : p ∈ L.D.mth) : mthB L K p = true := List.all_eq_true.mp (He.ba (He.ba (He.ba (He.ba (He.ba (He.ba (He.ba (He.ba (He.ba (He.ba (He.ba c.more).2).2).2).2).2).2).2).2).2).2).1 _ e
theorem ex_nd (c : SaysL L h K) : ndB (L.lams.map fun p => (He.cT K p).2) = true := (He.ba (He.ba (He.ba (He.ba (He.ba (He.ba (He.ba (He.ba (He.ba (He.ba (He.ba c.more).2).2).2).2).2).2).2).2).2).2).2
theorem kit_of {kt : Kit} {n : Nat} {cls : List Str} {S : Sc} (kb : kitB cls kt K = true) (hG : ∀ C, C < n → S.G C = some (ad cls K C)) (hn : kt.anc.length ≤ n) {t cl : EV.A} {b : Bool} {tv cv : Value} (e : isi1 kt t cl = some b) (ht : TyVal S t tv) (hc : TyVal S cl cv) : PySem.W.kitOne K tv cv = some b := by
  obtain ⟨k1, k2⟩ := He.ba kb
  have lt : ∀ {C : Nat} {p : List Nat × List Nat}, kt.anc[C]? = some p → C < kt.anc.length := fun e => (List.getElem?_eq_some_iff.mp e).1
  cases t with
  | ty a =>
    have etv : tv = .type (tyN a) := ht
    subst etv
    cases cl with
    | ty b' =>
      have ecv : cv = .type (tyN b') := hc
      subst ecv
      have e' := e
      unfold isi1 at e'
      dsimp only at e'
      split at e'
      · rename_i hab
        have z := List.all_eq_true.mp (He.ba (List.all_eq_true.mp k1 a (List.mem_range.mpr (by omega)))).1 b' (List.mem_range.mpr (by omega))
        rw [of_decide_eq_true z, e]
      · cases e'
    | glo g =>
      obtain ⟨ga, g1, g2⟩ := hc
      have e' := e
      unfold isi1 at e'
      dsimp only at e'
      split at e'
      · rename_i ha
        obtain ⟨p, hp, _⟩ := Option.map_eq_some_iff.mp e'
        have hg := lt hp
        rw [hG _ (by omega)] at g1
        cases g1
        rw [g2]
        have z := List.all_eq_true.mp (He.ba (List.all_eq_true.mp k1 a (List.mem_range.mpr (by omega)))).2 g (List.mem_range.mpr hg)
        rw [of_decide_eq_true z, e]
      · cases e'
    | _ => cases e
  | glo g =>
    obtain ⟨ga, g1, g2⟩ := ht
    cases cl with
    | ty b' =>
      have ecv : cv = .type (tyN b') := hc
      subst ecv
      have e' := e
      unfold isi1 at e'
      dsimp only at e'
      split at e'
      · rename_i hb
        obtain ⟨p, hp, _⟩ := Option.map_eq_some_iff.mp e'
        have hg := lt hp
        rw [hG _ (by omega)] at g1
        cases g1
        rw [g2]
        have z := List.all_eq_true.mp (He.ba (List.all_eq_true.mp k2 g (List.mem_range.mpr hg))).1 b' (List.mem_range.mpr (by omega))
        rw [of_decide_eq_true z, e]
      · cases e'
    | glo g' =>
      obtain ⟨ga', g3, g4⟩ := hc
      have e' := e
      unfold isi1 at e'
      dsimp only at e'
      obtain ⟨p, hp, e'⟩ := Option.bind_eq_some_iff.mp e'
      obtain ⟨p', hp', _⟩ := Option.map_eq_some_iff.mp e'
      have hg := lt hp
      have hg' := lt hp'
      rw [hG _ (by omega)] at g1 g3
      cases g1
      cases g3
      rw [g2, g4]
      have z := List.all_eq_true.mp (He.ba (List.all_eq_true.mp k2 g (List.mem_range.mpr hg))).2 g' (List.mem_range.mpr hg')
      rw [of_decide_eq_true z, e]
    | _ => cases e
  | _ => cases e
theorem err_exc (c : SaysL L h K) {C : Nat} (hc : C < L.ne) : ExcC K (ad L.cls K C) := excB_ok (He.ba (ex_err c hc)).1
theorem err_f (c : SaysL L h K) {C : Nat} (hc : C < L.ne) {f : Str} (e : L.D.tb.kit.fld.getD C none = some f) : init1B L.P K (ad L.cls K C) f = true ∧ PySem.W.findIn K (.ref (ad L.cls K C)) f = some none := by
  have z := (He.ba (ex_err c hc)).2
  rw [e] at z
  obtain ⟨z1, z2⟩ := He.ba z
  exact ⟨z1, He.eqO_ok z2⟩
theorem err_0 (c : SaysL L h K) {C : Nat} (hc : C < L.ne) (e : L.D.tb.kit.fld.getD C none = none) (ne : (C == 0) = false) : init0B L.P K (ad L.cls K C) = true := by
  have z := (He.ba (ex_err c hc)).2
  rw [e] at z
  have z' : (C == 0 || init0B L.P K (ad L.cls K C)) = true := z
  rw [ne] at z'
  exact z'
theorem tval_lt (S : L.stat = true) {g : EV.GV} {a : EV.A} {x : Str} (b : tglB L (x, g) = true) (e : g.val = some a) : ∃ C, a = .glo C ∧ C < L.cls.length ∧ L.cls.getD C "" = x := by
  have n1 := stat_ne S
  cases g with
  | fn f n => cases e
  | err C f =>
    cases e
    obtain ⟨b1, b⟩ := He.ba b
    obtain ⟨b2, b3⟩ := He.ba b
    have := Nat.le_of_ble_eq_true b1
    exact ⟨C, rfl, by omega, of_decide_eq_true b2⟩
  | err0 C =>
    cases e
    obtain ⟨b1, b⟩ := He.ba b
    obtain ⟨b2, b3⟩ := He.ba b
    have := Nat.le_of_ble_eq_true b1
    exact ⟨C, rfl, by omega, of_decide_eq_true b2⟩
  | bare C =>
    cases e
    obtain ⟨b1, b⟩ := He.ba b
    obtain ⟨b2, b3⟩ := He.ba b
    have := Nat.le_of_ble_eq_true b2
    exact ⟨C, rfl, by omega, of_decide_eq_true b3⟩
  | cls C =>
    cases e
    obtain ⟨b1, b2⟩ := He.ba b
    exact ⟨C, rfl, Nat.le_of_ble_eq_true b1, of_decide_eq_true b2⟩
theorem bokL (S : L.stat = true) (hs : L.D.tb.free.contains "super" = true) (X : K.In h) (G : h.Ns mainGlobals mg) (c : SaysL L h K) (R : GrL L K mg B) : BOk B.bs where
  free := fun y hy => by
    rw [R.T] at hy
    rw [R.gg]
    exact mg_free X G c (List.contains_iff_mem.mp hy)
  glv := fun y g a h1 h2 => by
    rw [R.T] at h1
    obtain ⟨C, e1, e2, e3⟩ := tval_lt S (stat_gl S h1) h2
    refine ⟨C, ad L.cls K C, e1, R.G _ e2, ?_⟩
    rw [← e3, R.gg]
    exact mg_cls X G c e2
  err := fun y C f h1 => by
    rw [R.T] at h1
    have n1 := stat_ne S
    obtain ⟨b1, b⟩ := He.ba (stat_gl S h1)
    obtain ⟨b2, b3⟩ := He.ba b
    have hc : C < L.ne := Nat.le_of_ble_eq_true b1
    obtain ⟨fI, fd', T'⟩ := init1B_ok (w := B.bs.w) (base := B.bs.base) (mg_free X G c (x := "super") (List.contains_iff_mem.mp hs)) (err_f c hc (of_decide_eq_true b3)).1
    refine ⟨ad L.cls K C, fI, fd', R.G C (by omega), ?_, by rw [R.P, R.kk, R.gg]; exact T'⟩
    rw [← of_decide_eq_true b2, R.gg]
    exact mg_cls (C := C) X G c (by omega)
  err0 := fun y C h1 => by
    rw [R.T] at h1
    have n1 := stat_ne S
    obtain ⟨b1, b⟩ := He.ba (stat_gl S h1)
    obtain ⟨b2, b⟩ := He.ba b
    obtain ⟨b3, b4⟩ := He.ba b
    have hc : C < L.ne := Nat.le_of_ble_eq_true b1
    obtain ⟨fI, fd', T'⟩ := init0B_ok (w := B.bs.w) (base := B.bs.base) (mg_free X G c (x := "super") (List.contains_iff_mem.mp hs)) (err_0 c hc (of_decide_eq_true b3) (by simpa using b4))
    refine ⟨ad L.cls K C, fI, fd', R.G C (by omega), ?_, by rw [R.P, R.kk, R.gg]; exact T'⟩
    rw [← of_decide_eq_true b2, R.gg]
    exact mg_cls (C := C) X G c (by omega)
  bare := fun y C h1 => by
    rw [R.T] at h1
    have n1 := stat_ne S
    obtain ⟨b1, b⟩ := He.ba (stat_gl S h1)
    obtain ⟨b2, b3⟩ := He.ba b
    have z : C = 0 := eq_of_beq b1
    have l0 := Nat.le_of_ble_eq_true b2
    subst z
    obtain ⟨z1, z2⟩ := He.ba (ex_bare c)
    refine ⟨ad L.cls K 0, _, _, _, _, R.G 0 (by omega), ?_, PySem.F.excBase_ValueError, by rw [R.kk]; exact z1, by rw [R.kk]; exact z2⟩
    rw [← of_decide_eq_true b3, R.gg]
    exact mg_cls (C := 0) X G c (by omega)
  lamT := fun n t e => by rw [R.T, R.lam] at e; cases e
  lamS := fun n t e => by rw [R.lamS] at e; cases e
  tabs := R.tabs
  lamF := R.lamF
  kit := fun t cl b tv cv e1 e2 e3 => by
    rw [R.T] at e1
    rw [R.kk]
    exact kit_of (ex_kit c) R.G (stat_anc S) (isi_pre (stat_pre S) e1) e2 e3
  exc := fun C Ca e1 e2 => by
    rw [R.T] at e2
    obtain ⟨p, hp⟩ := e2
    have hc : C < L.ne := (List.getElem?_eq_some_iff.mp hp).1
    have n1 := stat_ne S
    rw [R.G _ (by omega)] at e1
    cases e1
    rw [R.kk]
    exact err_exc c hc
  xno := fun C f Ca e1 e2 => by
    rw [R.T] at e1
    have hc0 : C < L.D.tb.kit.fld.length := (List.getElem?_eq_some_iff.mp e1).1
    have n2 := stat_fld S
    have hc : C < L.ne := by omega
    have n1 := stat_ne S
    rw [R.G _ (by omega)] at e2
    cases e2
    have ef : L.D.tb.kit.fld.getD C none = some f := by
      rw [List.getD_eq_getElem?_getD, e1]
      rfl
    have x := err_exc c hc
    rw [R.kk]
    exact ⟨(err_f c hc ef).2, ⟨x.hg, x.hk, x.hs, x.hd⟩⟩
theorem dvs_rel {S : Sc} {ρ : Rho} {H : Hp} : ∀ {xs : List A} {vs : List He.Dv}, dvsOf xs = some vs → Rels S ρ H xs (vs.map (He.Dv.v K))
  | [], vs, e => by cases e; rfl
  | x :: xs, vs, e => by
    unfold dvsOf at e
    obtain ⟨d, e1, e2⟩ := Option.bind_eq_some_iff.mp e
    obtain ⟨ds, e3, rfl⟩ := Option.map_eq_some_iff.mp e2
    refine ⟨d.v K, ds.map (He.Dv.v K), rfl, ?_, dvs_rel e3⟩
    cases x <;> first | (cases e1; rfl) | (cases e1)
/-- what is known of a def that calls what it is given -/
structure TrF (L : Lw) (x : Str) (t : TrD) : Prop where
  ex : ∃ (d : He.DefD) (Ng : List Str) (a : Str), d ∈ L.defs ∧ d.at_ = (x, none) ∧ d.name = x ∧ d.qual = x ∧ d.dfl = [] ∧ d.kwd = [] ∧ TrB L.D ⟨Ng, d.scope, none⟩ a d.body t ∧ FnScope Ng [a] d.scope ∧ Ng[0]? = some a ∧ visB d.scope a = true ∧ okName a = true ∧
    (∀ (kV doc pm : Value) (an : Option Addr) (cdv ct : Value) (us : List Value), us.length = [a].length → bindArgs (PySem.W.fnOf x x d.params d.body d.scope .none kV doc pm an cdv ct) ⟨us, []⟩ = pure ([a].zip us))
theorem dokL (S : L.stat = true) (hs : L.D.tb.free.contains "super" = true) (htr : ∀ x t, L.D.tr.lookup x = some t → TrF L x t) (X : K.In h) (G : h.Ns mainGlobals mg) (c : SaysL L h K) (R : GrL L K mg B) : DOk B where
  bo := bokL S hs X G c R
  kit := fun t cl b tv cv e1 e2 e3 => by
    rw [R.D] at e1
    rw [R.kk]
    exact kit_of (ex_kit c) R.G (stat_anc S) e1 e2 e3
  tb := by rw [R.T, R.D]
  fn := fun x f n e => by
    rw [R.D] at e
    have b := ex_mk c e
    have b : (match L.fns[f.nat]? with
      | some d => decide (d.at_ = (x, none)) && Nat.beq (ar d) n
      | none => false) = true := b
    cases q : L.fns[f.nat]? with
    | none => rw [q] at b; cases b
    | some d =>
      rw [q] at b
      obtain ⟨b1, b2⟩ := He.ba b
      have e1 := of_decide_eq_true b1
      refine ⟨He.fAd K d.at_, ?_, ?_⟩
      · rw [R.fa]
        unfold faOf
        rw [q, ← Nat.eq_of_beq_eq_true b2]
        rfl
      · rw [R.gg]
        exact mg_fn X G c (List.mem_append_left _ (List.mem_of_getElem? q)) e1
  con := fun x a e => by
    rw [R.D] at e
    have b := ex_con c e
    rw [R.gg]
    cases a with
    | int i =>
      obtain ⟨t, et⟩ := He.int_ok X G (show (He.Fa.int x i).ok K = true from b)
      exact ⟨_, .int i, et, ⟨t, rfl⟩, fun _ _ => rfl⟩
    | str z =>
      obtain ⟨t, et⟩ := He.str_ok X G (show (He.Fa.str x z).ok K = true from b)
      exact ⟨_, .str z, et, ⟨t, rfl⟩, fun _ _ => rfl⟩
    | tup xs =>
      have b : (match dvsOf xs with
        | some vs => He.tupB K x vs && (He.Fa.glo x).ok K
        | none => false) = true := b
      cases q : dvsOf xs with
      | none => rw [q] at b; cases b
      | some vs =>
        rw [q] at b
        obtain ⟨b1, b2⟩ := He.ba b
        exact ⟨_, .ref (He.ga K x), He.glo_ok X G b2, rfl, fun ρ H => ⟨_, _, rfl, by rw [R.kk]; exact He.tupB_ok b1 H, dvs_rel q⟩⟩
    | _ => cases (show false = true from b)
  mkr := fun x C f n e => by
    rw [R.D] at e
    obtain ⟨b1, b⟩ := He.ba (ex_mk c e)
    obtain ⟨b2, b⟩ := He.ba b
    obtain ⟨b3, b4⟩ := He.ba b
    have hc : C < L.cls.length := Nat.le_of_ble_eq_true b1
    have ex := of_decide_eq_true b2
    cases q : L.fns[f.nat]? with
    | none => rw [q] at b4; cases b4
    | some d =>
      rw [q] at b4
      obtain ⟨b5, b6⟩ := He.ba b4
      have e1 := of_decide_eq_true b5
      have ea : ad L.cls K C = He.ga K x := by unfold ad; rw [ex]
      refine ⟨ad L.cls K C, He.fAd K d.at_, R.G _ hc, ?_, ?_, ?_⟩
      · rw [R.gg, ← ex]; exact mg_cls X G c hc
      · rw [R.fa]
        unfold faOf
        rw [q, ← Nat.eq_of_beq_eq_true b6]
        rfl
      · rw [R.kk, e1, ea]
        exact He.mkr_ok b3
  mth := fun C m f n e => by
    rw [R.D] at e
    have hm : ∀ {l : List ((Nat × Str) × (Bn × Nat))}, l.lookup (C, m) = some (f, n) → ((C, m), (f, n)) ∈ l := fun {l} hl => by
      induction l with
      | nil => cases hl
      | cons p r ih =>
        obtain ⟨k, u⟩ := p
        cases q : ((C, m) == k) with
        | true =>
          simp only [List.lookup, q] at hl
          rw [eq_of_beq q, ← Option.some.inj hl]
          exact List.mem_cons_self ..
        | false =>
          simp only [List.lookup, q] at hl
          exact List.mem_cons_of_mem _ (ih hl)
    obtain ⟨b1, b⟩ := He.ba (ex_mth c (hm e))
    obtain ⟨b2, b⟩ := He.ba b
    obtain ⟨b3, b4⟩ := He.ba b
    have hc : C < L.cls.length := Nat.le_of_ble_eq_true b1
    dsimp only at b4
    cases q : L.fns[f.nat]? with
    | none => rw [q] at b4; cases b4
    | some d =>
      rw [q] at b4
      obtain ⟨b5, b6⟩ := He.ba b4
      have e1 := of_decide_eq_true b5
      refine ⟨ad L.cls K C, He.fAd K d.at_, R.G _ hc, ?_, ?_, ?_⟩
      · rw [R.fa]
        unfold faOf
        rw [q, ← Nat.eq_of_beq_eq_true b6]
        rfl
      · rw [R.kk]; exact He.cls_ok b2
      · rw [R.kk, e1]
        exact He.meth_ok b3
  fld := fun C f e => by
    rw [R.D] at e
    obtain ⟨b1, b⟩ := He.ba (ex_fld c e)
    obtain ⟨b2, b3⟩ := He.ba b
    refine ⟨ad L.cls K C, R.G _ (Nat.le_of_ble_eq_true b1), ?_, ?_⟩
    · rw [R.kk]; exact He.cls_ok b2
    · rw [R.kk]; exact He.noat_ok b3
  ins := fun C e => by
    rw [R.D] at e
    obtain ⟨b1, b⟩ := He.ba (ex_ins c e)
    obtain ⟨b2, b⟩ := He.ba b
    obtain ⟨b3, b⟩ := He.ba b
    obtain ⟨b4, b⟩ := He.ba b
    obtain ⟨b5, b6⟩ := He.ba b
    refine ⟨ad L.cls K C, R.G _ (Nat.le_of_ble_eq_true b1), ?_⟩
    rw [R.kk]
    exact ⟨He.cls_ok b2, He.eqO_ok b3, He.eqO_ok b4, of_decide_eq_true b5, of_decide_eq_true b6⟩
  xm := fun C Ch b Ca Cha e g1 g2 => by
    rw [R.D] at e
    obtain ⟨b0, b2⟩ := He.ba (ex_xm c)
    obtain ⟨b1, b3⟩ := He.ba b0
    have hl : C < L.D.xm.length := by
      have e' := e
      unfold xmQ at e'
      rw [nth_eq] at e'
      cases q : L.D.xm[C]? with
      | none => rw [q] at e'; cases e'
      | some r => exact (List.getElem?_eq_some_iff.mp q).1
    have hc : C < L.cls.length := Nat.lt_of_lt_of_le hl (Nat.le_of_ble_eq_true b1)
    rw [R.G _ hc] at g1
    cases g1
    rw [R.kk]
    by_cases hch : Ch < L.cls.length
    · rw [R.G _ hch] at g2
      cases g2
      have z := List.all_eq_true.mp (List.all_eq_true.mp b2 C (List.mem_range.mpr hl)) Ch (List.mem_range.mpr hch)
      rw [e] at z
      exact of_decide_eq_true z
    · refine absurd ?_ hch
      have e' := e
      unfold xmQ at e'
      rw [nth_eq] at e'
      cases q : L.D.xm[C]? with
      | none => rw [q] at e'; cases e'
      | some r =>
        rw [q] at e'
        have e' : Option.rec (motive := fun _ => Option Bool) none (fun o => o) (nth r Ch) = some b := e'
        rw [nth_eq] at e'
        cases q2 : r[Ch]? with
        | none => rw [q2] at e'; cases e'
        | some o => exact Nat.lt_of_lt_of_le (List.getElem?_eq_some_iff.mp q2).1 (Nat.le_of_ble_eq_true (List.all_eq_true.mp b3 r (List.mem_of_getElem? q)))
  tz := by rw [R.tz, R.D]
  bop := fun m l C f e1 e2 => by
    rw [R.D] at e1
    have hm : ∀ {l : List (Nat × Bn)}, l.lookup C = some f → (C, f) ∈ l := fun {l} hl => by
      induction l with
      | nil => cases hl
      | cons p r ih =>
        obtain ⟨k, u⟩ := p
        cases q : (C == k) with
        | true =>
          simp only [List.lookup, q] at hl
          rw [eq_of_beq q, ← Option.some.inj hl]
          exact List.mem_cons_self ..
        | false =>
          simp only [List.lookup, q] at hl
          exact List.mem_cons_of_mem _ (ih hl)
    obtain ⟨b1, b⟩ := He.ba (List.all_eq_true.mp (ex_bop c e1) _ (hm e2))
    obtain ⟨b2, b⟩ := He.ba b
    obtain ⟨b3, b4⟩ := He.ba b
    have hc : C < L.cls.length := Nat.le_of_ble_eq_true b1
    dsimp only at b4
    cases q : L.fns[f.nat]? with
    | none => rw [q] at b4; cases b4
    | some d =>
      rw [q] at b4
      obtain ⟨b5, b6⟩ := He.ba b4
      have e3 := of_decide_eq_true b5
      refine ⟨ad L.cls K C, He.fAd K d.at_, R.G _ hc, ?_, ?_, ?_⟩
      · rw [R.fa]
        unfold faOf
        rw [q, ← Nat.eq_of_beq_eq_true b6]
        rfl
      · rw [R.kk, e3]
        exact He.meth_ok b2
      · rw [R.kk]; exact b3
  tr := fun x t e => by
    rw [R.D] at e
    obtain ⟨d, Ng, a, hd, e1, e2, e3, e4, e5, hb, hS, h0, hv, ho, hbind⟩ := (htr x t e).ex
    obtain ⟨fd', F⟩ := c.d.defs hd
    have F : FunD K x x d.params d.body d.scope [] [] (He.fAd K d.at_) fd' := by
      have z := F
      rw [e2, e3] at z
      unfold He.DefD.dvs He.DefD.kws at z
      rw [e4, e5] at z
      exact z
    have b := FunD.bindsN (ps := [a]) F hbind
    have kp := F.kp
    obtain ⟨oc, od, dV, kV, doc, pm, an, cdv, ct, osl, rfl, lk, hcd, hD, hk'⟩ := F.ex
    refine ⟨He.fAd K d.at_, d.params, d.body, d.scope, dV, kV, doc, pm, cdv, ct, oc, an, od, osl, Ng, a, ?_, ?_, ?_, ?_, ?_, hS, h0, hv, ho, by rw [R.D]; exact hb⟩
    · rw [R.gg]; exact mg_fn X G c hd e1
    · rw [R.kk]; exact kp
    · rw [R.kk]; exact lk
    · rw [R.kk]; exact hcd
    · rw [R.kk]; exact b
end
end
end DV
set_option Elab.async false
set_option linter.all false
set_option maxRecDepth 100000
set_option maxHeartbeats 4000000
namespace DV
open PySem PySem.Spec PyProof.Rows L2 ER EV
/-- the law's spring: the list at a, the great numbers at G, the little ones at L, at most m draws -/
def Spr (H : Hp) (a G L : Addr) (m : Nat) : Prop :=
  ∃ (gs ls : List Int) (cur n : Int), H a = some (.lst [.ref G, .int cur, .ref L, .int n]) ∧ H G = some (.lst (gs.map V.int)) ∧ H L = some (.lst (ls.map V.int)) ∧ G ≠ a ∧ L ≠ a ∧ G ≠ L ∧ 0 ≤ cur ∧ (∀ g ∈ gs, 0 < g) ∧ 0 ≤ n ∧ n ≤ m
/-- all but a and G as it was -/
def ButS (H H' : Hp) (a G : Addr) : Prop := ∀ b o, b ≠ a → b ≠ G → H b = some o → H' b = some o
def spTake : Sp := fun vs H Q _ => ∃ (a G L : Addr) (most : Int) (m : Nat), vs = [.ref a, .int most] ∧ 0 < most ∧ most ≤ 1000 ∧ m < 2000 ∧ Spr H a G L m ∧ ∀ (r : Int) (H' : Hp), 0 ≤ r → r < most → ButS H H' a G → Spr H' a G L (m + 1) → Q (.int r) H'
def spSpring (K : PySem.W.Frag) : Sp := fun vs H Q _ => ∃ (a : Addr) (ns : List Int), vs = [.ref a] ∧ ns.length ≤ 63 ∧ SqL K H a (ns.map V.int) ∧ ∀ (S G L : Addr) (H' : Hp), (∀ b o, H b = some o → H' b = some o) → H S = none → H G = none → H L = none → Spr H' S G L 0 → Q (.ref S) H'
theorem spr_wid {H : Hp} {a G L : Addr} {m m' : Nat} (s : Spr H a G L m) (h : m ≤ m') : Spr H a G L m' := by
  obtain ⟨gs, ls, cur, n, q1, q2, q3, q4, q5, q6, q7, q8, q9, q10⟩ := s
  exact ⟨gs, ls, cur, n, q1, q2, q3, q4, q5, q6, q7, q8, q9, by omega⟩
/-! ### the scene: the spring and the tables stand apart -/
theorem tabs_stay {T : List (Addr × Str)} {H H' : Hp} (t : LamX.Tabs T H) (k : ∀ p ∈ T, H' p.1 = H p.1) (x : ∀ b φ, H b = some (.ext φ) → H' b = some (.ext φ)) : LamX.Tabs T H' := fun p hp => by
  obtain ⟨ps, h1, h2, h3⟩ := t p hp
  refine ⟨ps, by rw [k p hp]; exact h1, h2, fun pos cv hc => ?_⟩
  obtain ⟨c, e1, e2⟩ := h3 pos cv hc
  exact ⟨c, e1, x _ _ e2⟩
theorem tabs_keep {tabs : List (Addr × Str)} {H H' : Hp} (t : LamX.Tabs tabs H) (k : ∀ b o, H b = some o → H' b = some o) : LamX.Tabs tabs H' := tabs_stay t (fun p hp => by
  obtain ⟨ps, h1, _⟩ := t p hp
  rw [k _ _ h1, h1]) fun b φ z => k _ _ z
def scene (K : PySem.W.Frag) (tz : List Str) (Gt : Nat → Option Addr) (tabs : List (Addr × Str)) (off : Nat) (a G L : Addr) : Sc where
  K := K
  tz := tz
  G := fun n => if n = 99 then some a else Gt n
  lam := fun _ => none
  F := a :: G :: L :: tabs.map (·.1)
  Φ := fun m H => Spr H a G L (off + m) ∧ LamX.Tabs tabs H
  stab := fun m H H' ⟨⟨gs, ls, cur, n, q1, q2, q3, q4⟩, t⟩ k x => ⟨⟨gs, ls, cur, n, by rw [k a (by simp)]; exact q1, by rw [k G (by simp)]; exact q2, by rw [k L (by simp)]; exact q3, q4⟩, tabs_stay t (fun p hp => k p.1 (by simp; exact .inr (.inr (.inr ⟨p.2, hp⟩)))) x⟩
  trk := fun m H ⟨⟨gs, ls, cur, n, q1, q2, q3, q4⟩, t⟩ b hb => by
    simp only [List.mem_cons] at hb
    rcases hb with rfl | rfl | rfl | hb
    · exact ⟨_, q1⟩
    · exact ⟨_, q2⟩
    · exact ⟨_, q3⟩
    · obtain ⟨p, hp, rfl⟩ := List.mem_map.mp hb
      obtain ⟨ps, h1, _⟩ := t p hp
      exact ⟨_, h1⟩
  wid := fun m m' H ⟨s, t⟩ h => ⟨spr_wid s (by omega), t⟩
section
variable {K : PySem.W.Frag} {tz : List Str} {Gt : Nat → Option Addr} {tabs : List (Addr × Str)} {off : Nat} {a G L : Addr}
theorem scene_lamF {m : Nat} {H H' : Hp} (h : (scene K tz Gt tabs off a G L).Φ m H) (e : LamX.ExtN H H') (t : LamX.Tabs tabs H') : (scene K tz Gt tabs off a G L).Φ m H' := by
  obtain ⟨⟨gs, ls, cur, n, q1, q2, q3, q4⟩, _⟩ := h
  exact ⟨⟨gs, ls, cur, n, e _ _ q1 nofun, e _ _ q2 nofun, e _ _ q3 nofun, q4⟩, t⟩
/-- behind a draw -/
theorem drawn {ρ : Rho} {h : Hh} {H H' : Hp} (R : Rep (scene K tz Gt tabs off a G L) ρ h H) (b : ButS H H' a G) (sp : Spr H' a G L (off + (h.cnt + 1))) : Ext (scene K tz Gt tabs off a G L) ρ H ρ H' ∧ Rep (scene K tz Gt tabs off a G L) ρ ⟨h.nx, h.t, h.cnt + 1⟩ H' := by
  obtain ⟨⟨gs, ls, cur, n, q1, q2, q3, q4⟩, t⟩ := R.fo
  have ne : ∀ c o, H c = some o → (∀ xs, o ≠ .lst xs) → H' c = some o := fun c o e n => b c o (fun z => by rw [z, q1] at e; cases e; exact n _ rfl) (fun z => by rw [z, q2] at e; cases e; exact n _ rfl) e
  have eX : Ext (scene K tz Gt tabs off a G L) ρ H ρ H' := ⟨fun _ _ z => z, fun c vs q => by
    rcases q with (q | ⟨ob, q⟩) | q
    · exact .inl (.inl (ne _ _ q nofun))
    · exact .inl (.inr ⟨ob, ne _ _ q nofun⟩)
    · exact .inr q, fun c o u q => ne _ _ q nofun⟩
  refine ⟨eX, ⟨fun l c q => ?_, R.dom, R.inj, R.fresh, ⟨sp, fun p hp => ?_⟩, R.foF⟩⟩
  · obtain ⟨d, e1, e2⟩ := R.cell l c q
    refine ⟨d, e1, e2.stay eX fun x o z hz => ?_⟩
    have nF := R.foF l d e1
    rcases hz with rfl | ⟨φ, rfl⟩
    · exact b _ _ (fun z => nF (by rw [z]; exact List.mem_cons_self ..)) (fun z => nF (by rw [z]; exact List.mem_cons_of_mem _ (List.mem_cons_self ..))) z
    · exact ne _ _ z nofun
  · obtain ⟨ps, h1, h2, h3⟩ := t p hp
    refine ⟨ps, ne _ _ h1 nofun, h2, fun pos cv hc => ?_⟩
    obtain ⟨c, e1, e2⟩ := h3 pos cv hc
    exact ⟨c, e1, ne _ _ e2 nofun⟩
theorem take_all {a : List A} {h : Hh} {P : A → Hh → Prop} {X : Nat → List (Str × A) → Hh → Prop} (q : (takeQ2 a h).All P X) : ∃ n : Int, a = [.glo 99, .int n] ∧ 0 < n ∧ n ≤ 1000 ∧ h.cnt < 1000 ∧ ∀ r : Nat, r < n.toNat → P (.int (.ofNat r)) ⟨h.nx, h.t, h.cnt + 1⟩ := by
  match a, q with
  | [], q => exact q.elim
  | [x], q => exact q.elim
  | x :: y :: z :: r, q => exact q.elim
  | [x, y], q =>
    cases x with
    | glo g =>
      cases y with
      | int n =>
        obtain ⟨nx, t, c⟩ := h
        have q : (Bool.rec (motive := fun _ => Out A) .bad (Bool.rec (motive := fun _ => Out A) .bad (.pick n.toNat fun r => .ok (.int (.ofNat r)) ⟨nx, t, Nat.succ c⟩) (Nat.blt c 1000)) (Nat.beq g 99 && (decide (0 < n) && decide (n ≤ 1000)))).All P X := q
        cases e : (Nat.beq g 99 && (decide (0 < n) && decide (n ≤ 1000))) with
        | false => rw [e] at q; exact q.elim
        | true =>
          rw [e] at q
          obtain ⟨e1, e2⟩ := He.ba e
          obtain ⟨e3, e4⟩ := He.ba e2
          cases e5 : Nat.blt c 1000 with
          | false => rw [e5] at q; exact q.elim
          | true =>
            rw [e5] at q
            rw [Nat.eq_of_beq_eq_true e1]
            exact ⟨n, rfl, of_decide_eq_true e3, of_decide_eq_true e4, Nat.le_of_ble_eq_true e5, q⟩
      | _ => 
        obtain ⟨nx, t, c⟩ := h
        exact q.elim
    | _ => exact q.elim
theorem take_sp {B : DBs} (ho : off ≤ 500) (hS : B.bs.S = scene K tz Gt tabs off a G L) {f : Bn} {vs : List V} {H : Hp} {Q : VK} {E : XK} (h : spG B (fun _ => takeQ2) f 2 vs H Q E) : spTake vs H Q E := by
  obtain ⟨hl, ρ, h, as, R, rs, q⟩ := h
  obtain ⟨n, rfl, n0, n1, hc, q⟩ := take_all (show (takeQ2 as h).All (QW B.bs.S ρ H Q) (XW B.bs.S ρ H E) from q)
  obtain ⟨v1, r1, rfl, e1, v2, r2, rfl, e2, e3⟩ := rs
  rw [hS] at R e1 e2
  obtain ⟨a', g1, rfl⟩ := e1
  have ea : a' = a := by
    have z : (if (99 : Nat) = 99 then some a else Gt 99) = some a' := g1
    rw [if_pos rfl] at z
    exact (Option.some.inj z).symm
  subst ea
  rw [show v2 = V.int n from e2, show r2 = [] from e3]
  refine ⟨a', G, L, n, off + h.cnt, rfl, n0, n1, by omega, R.fo.1, fun r H' h1 h2 b sp => ?_⟩
  obtain ⟨eX, R'⟩ := drawn R b sp
  have z := q r.toNat (by omega)
  have hr : (Int.ofNat r.toNat) = r := by
    show ((r.toNat : Nat) : Int) = r
    omega
  rw [hr] at z
  rw [hS] at z
  exact z ρ H' _ eX R' rfl
end
/-! ### defs of the text from the facts -/
/-- how all parameters are written -/
def BindF (d : He.DefD) (ps : List Str) : Prop :=
  d.kwd = [] ∧ ((d.dfl = [] ∧ ∀ (kV doc pm : Value) (an : Option Addr) (cdv ct : Value) (us : List Value), us.length = ps.length → bindArgs (PySem.W.fnOf d.name d.qual d.params d.body d.scope .none kV doc pm an cdv ct) ⟨us, []⟩ = pure (ps.zip us)) ∨
  (d.dfl ≠ [] ∧ ∀ (T : Addr) (kV doc pm : Value) (an : Option Addr) (cdv ct : Value) (us its : List Value), us.length = ps.length → its.length = d.dfl.length →
      ∃ k, bindArgs (PySem.W.fnOf d.name d.qual d.params d.body d.scope (.ref T) kV doc pm an cdv ct) ⟨us, []⟩ = seqItems? (.ref T) >>= k ∧ k (some its.toArray) = pure (ps.zip (us ++ its.drop d.dfl.length))))
theorem bindF_ok {K : PySem.W.Frag} {d : He.DefD} {ps : List Str} {fd : FuncData} {f : Addr} (F : FunD K d.name d.qual d.params d.body d.scope (d.dvs K) (d.kws K) f fd) (b : BindF d ps) : Binds K fd ps [] := by
  obtain ⟨e0, b⟩ := b
  have e1 : d.kws K = [] := by unfold He.DefD.kws; rw [e0]; rfl
  rcases b with ⟨e2, b⟩ | ⟨e2, b⟩
  · have e3 : d.dvs K = [] := by unfold He.DefD.dvs; rw [e2]; rfl
    rw [e3] at F
    exact FunD.bindsN F b
  · have el : (d.dvs K).length = d.dfl.length := by unfold He.DefD.dvs; rw [List.length_map]
    have ne : d.dvs K ≠ [] := fun z => e2 (List.eq_nil_of_length_eq_zero (by rw [← el, z]; rfl))
    obtain ⟨ds, h1, h2⟩ := FunD.binds1 (ps := ps) F ps.length (d.dvs K).length ne (by omega) fun T kV doc pm an cdv ct us its h1 h2 => by
      rw [el] at h2 ⊢
      exact b T kV doc pm an cdv ct us its h1 h2
    rw [List.drop_length] at h1
    cases h1
    exact h2
/-- what is asked of each row: its reading, its scope -/
structure RowF (L : Lw) (tab : Tab) (f : Bn) (d : He.DefD) : Prop where
  ex : ∃ (N ps : List Str) (dn : Dst) (qo : Option Str), tab f = some (N.length, dn) ∧ ps.length = ar d ∧ FnScope N ps d.scope ∧ SF L.D ⟨N, d.scope, qo⟩ d.body dn ∧ BindF d ps ∧ ∀ q, qo = some q → d.qual ++ ".<locals>." = q ∧ d.at_ ∈ L.lams ∧ d.at_ = (d.qual, none)
def tabsL (L : Lw) (K : PySem.W.Frag) : List (Addr × Str) := L.lams.map fun p => ((He.cT K p).2, p.1 ++ ".<locals>." ++ "<lambda>")
def csL (L : Lw) (K : PySem.W.Frag) : List (Addr × Addr) := L.lams.map fun p => He.cT K p
theorem nd_uniq {α : Type} {g : α → Addr} : ∀ {l : List α}, ndB (l.map g) = true → ∀ p ∈ l, ∀ q ∈ l, g p = g q → p = q
  | x :: l, h, p, hp, q, hq, e => by
    obtain ⟨h1, h2⟩ := He.ba (show (!(l.map g).contains (g x) && ndB (l.map g)) = true from h)
    have no : ∀ y ∈ l, g y ≠ g x := fun y hy z => by
      have : (l.map g).contains (g x) = true := List.contains_iff_mem.mpr (List.mem_map.mpr ⟨y, hy, z⟩)
      rw [this] at h1
      cases h1
    rcases List.mem_cons.mp hp with e1 | hp'
    · rcases List.mem_cons.mp hq with e2 | hq'
      · rw [e1, e2]
      · rw [e1] at e; exact absurd e.symm (no q hq')
    · rcases List.mem_cons.mp hq with e2 | hq'
      · rw [e2] at e; exact absurd e (no p hp')
      · exact nd_uniq h2 p hp' q hq' e
section
variable {L : Lw} {K : PySem.W.Frag} {h : Heap} {mg : Str → Option Value} {B : DBs} {tab : Tab}
theorem q_of {x : Str} {q : Str} {cdv : Value} (c : SaysL L h K) (TB : ∀ p ∈ csL L K, LamX.TabB B.bs.base B.bs.mg p.1 p.2) (hT : B.bs.tabs = tabsL L K) (h1 : x ++ ".<locals>." = q) (hm : ((x, none) : He.Defn) ∈ L.lams)
    (hl : ∃ oc od fd' osl, K.lookup (He.fAd K (x, none)) = some ⟨oc, od, .func fd', osl⟩ ∧ fd'.code = cdv) (hc : PySem.W.codeIn K cdv x = true) : QOk B.bs x cdv (some q) := by
  intro q' e
  cases e
  obtain ⟨oc, od, fd', osl, lk, ec⟩ := hl
  obtain ⟨ca, e2⟩ := He.codeIn_ref hc
  have e3 := He.codeOf_eq (p := (x, none)) lk (ec.trans e2)
  have e4 : (He.cT K (x, none)).1 = ca := e3
  refine ⟨h1, ca, (He.cT K (x, none)).2, e2, ?_, ?_, ?_⟩
  · rw [← e4]; exact TB _ (List.mem_map.mpr ⟨_, hm, rfl⟩)
  · rw [← h1, hT]
    exact List.mem_map.mpr ⟨_, hm, rfl⟩
  · intro p hp e5
    rw [hT] at hp
    obtain ⟨y, hy, rfl⟩ := List.mem_map.mp hp
    have := nd_uniq (g := fun p => (He.cT K p).2) (ex_nd c) y hy _ hm e5
    rw [this, ← h1]
theorem defG_of (c : SaysL L h K) (R : GrL L K mg B) (TB : ∀ p ∈ csL L K, LamX.TabB B.bs.base B.bs.mg p.1 p.2) (hT : B.bs.tabs = tabsL L K) {f : Bn} {d : He.DefD} (hd : L.fns[f.nat]? = some d) (rf : RowF L tab f d) : DefG B tab f (ar d) (He.fAd K d.at_) := by
  obtain ⟨N, ps, dn, qo, e1, e2, hS, hF, hb, hq⟩ := rf.ex
  obtain ⟨fd', F⟩ := c.d.defs (List.mem_append_left _ (List.mem_of_getElem? hd))
  have b := bindF_ok F hb
  have kp := F.kp
  obtain ⟨oc, od, dV, kV, doc, pm, an, cdv, ct, osl, rfl, lk, hcd, hD, hk'⟩ := F.ex
  refine ⟨d.name, d.qual, d.params, d.body, d.scope, dV, kV, doc, pm, cdv, ct, oc, an, od, osl, N, ps, dn, qo, e1, e2, ?_, ?_, ?_, hS, ?_, ?_, ?_⟩
  · rw [R.kk]; exact kp
  · rw [R.kk]; exact lk
  · rw [R.kk]; exact hcd
  · rw [R.kk]; exact b
  · rw [R.D]; exact hF
  · cases qo with
    | none => exact fun _ z => nomatch z
    | some q =>
      obtain ⟨h1, h2, h3⟩ := hq q rfl
      rw [h3] at lk h2
      exact q_of c TB hT h1 h2 ⟨_, _, _, _, lk, rfl⟩ hcd
end
end DV
set_option Elab.async false
set_option linter.all false
set_option maxRecDepth 100000
set_option maxHeartbeats 4000000
namespace DV
open PySem PySem.Spec PyProof.Rows L2 ER EV
/-! ### cells compared -/
def beqNs : List Nat → List Nat → Bool
  | [], [] => true
  | x :: xs, y :: ys => Nat.beq x y && beqNs xs ys
  | _, _ => false
theorem beqNs_ok : ∀ {xs ys : List Nat}, beqNs xs ys = true → xs = ys
  | [], [], _ => rfl
  | x :: xs, y :: ys, h => by
    obtain ⟨h1, h2⟩ := He.ba (show (Nat.beq x y && beqNs xs ys) = true from h)
    rw [Nat.eq_of_beq_eq_true h1, beqNs_ok h2]
  | [], _ :: _, h => nomatch (show false = true from h)
  | _ :: _, [], h => nomatch (show false = true from h)
def beqT (x y : Str) : Bool := beqNs x.cps.toList y.cps.toList
theorem beqT_ok {x y : Str} (h : beqT x y = true) : x = y := by
  obtain ⟨⟨x⟩⟩ := x
  obtain ⟨⟨y⟩⟩ := y
  rw [show x = y from beqNs_ok h]
def beqBn : Bn → Bn → Bool
  | .z, .z => true
  | .s a, .s b => beqBn a b
  | .t a, .t b => beqBn a b
  | _, _ => false
theorem beqBn_ok : ∀ {a b : Bn}, beqBn a b = true → a = b
  | .z, .z, _ => rfl
  | .s a, .s b, h => by rw [beqBn_ok (a := a) (b := b) h]
  | .t a, .t b, h => by rw [beqBn_ok (a := a) (b := b) h]
  | .z, .s _, h => nomatch (show false = true from h)
  | .z, .t _, h => nomatch (show false = true from h)
  | .s _, .z, h => nomatch (show false = true from h)
  | .s _, .t _, h => nomatch (show false = true from h)
  | .t _, .z, h => nomatch (show false = true from h)
  | .t _, .s _, h => nomatch (show false = true from h)
def beqI : Int → Int → Bool
  | .ofNat a, .ofNat b => Nat.beq a b
  | .negSucc a, .negSucc b => Nat.beq a b
  | _, _ => false
theorem beqI_ok : ∀ {a b : Int}, beqI a b = true → a = b
  | .ofNat a, .ofNat b, h => by rw [Nat.eq_of_beq_eq_true (show Nat.beq a b = true from h)]
  | .negSucc a, .negSucc b, h => by rw [Nat.eq_of_beq_eq_true (show Nat.beq a b = true from h)]
  | .ofNat _, .negSucc _, h => nomatch (show false = true from h)
  | .negSucc _, .ofNat _, h => nomatch (show false = true from h)
mutual
def beqA : A → A → Bool
  | .non, y => (match y with | .non => true | _ => false)
  | .bl a, y => (match y with | .bl b => (match a, b with | true, true => true | false, false => true | _, _ => false) | _ => false)
  | .int a, y => (match y with | .int b => beqI a b | _ => false)
  | .str a, y => (match y with | .str b => beqT a b | _ => false)
  | .ty a, y => (match y with | .ty b => Nat.beq a b | _ => false)
  | .loc a, y => (match y with | .loc b => beqBn a b | _ => false)
  | .glo a, y => (match y with | .glo b => Nat.beq a b | _ => false)
  | .tup xs, y => (match y with | .tup ys => beqAs xs ys | _ => false)
def beqAs : List A → List A → Bool
  | [], ys => (match ys with | [] => true | _ => false)
  | x :: xs, ys => (match ys with | [] => false | y :: ys => beqA x y && beqAs xs ys)
end
mutual
theorem beqA_ok : ∀ {x y : A}, beqA x y = true → x = y
  | .non, y, h => by
    unfold beqA at h
    cases y <;> first | rfl | cases h
  | .bl a, y, h => by
    unfold beqA at h
    cases y with
    | bl b => cases a <;> cases b <;> first | rfl | cases h
    | _ => cases h
  | .int a, y, h => by
    unfold beqA at h
    cases y with
    | int b => rw [beqI_ok h]
    | _ => cases h
  | .str a, y, h => by
    unfold beqA at h
    cases y with
    | str b => rw [beqT_ok h]
    | _ => cases h
  | .ty a, y, h => by
    unfold beqA at h
    cases y with
    | ty b => rw [Nat.eq_of_beq_eq_true h]
    | _ => cases h
  | .loc a, y, h => by
    unfold beqA at h
    cases y with
    | loc b => rw [beqBn_ok h]
    | _ => cases h
  | .glo a, y, h => by
    unfold beqA at h
    cases y with
    | glo b => rw [Nat.eq_of_beq_eq_true h]
    | _ => cases h
  | .tup xs, y, h => by
    unfold beqA at h
    cases y with
    | tup ys => rw [beqAs_ok h]
    | _ => cases h
theorem beqAs_ok : ∀ {xs ys : List A}, beqAs xs ys = true → xs = ys
  | [], ys, h => by
    unfold beqAs at h
    cases ys <;> first | rfl | cases h
  | x :: xs, ys, h => by
    unfold beqAs at h
    cases ys with
    | nil => cases h
    | cons y ys =>
      obtain ⟨h1, h2⟩ := He.ba h
      rw [beqA_ok h1, beqAs_ok h2]
end
def beqF : List (Str × A) → List (Str × A) → Bool
  | [], [] => true
  | (f, x) :: xs, (g, y) :: ys => beqT f g && (beqA x y && beqF xs ys)
  | _, _ => false
theorem beqF_ok : ∀ {xs ys : List (Str × A)}, beqF xs ys = true → xs = ys
  | [], [], _ => rfl
  | (f, x) :: xs, (g, y) :: ys, h => by
    obtain ⟨h1, h2⟩ := He.ba (show (beqT f g && (beqA x y && beqF xs ys)) = true from h)
    obtain ⟨h2, h3⟩ := He.ba h2
    rw [beqT_ok h1, beqA_ok h2, beqF_ok h3]
  | [], _ :: _, h => nomatch (show false = true from h)
  | _ :: _, [], h => nomatch (show false = true from h)
def beqK : List (A × A) → List (A × A) → Bool
  | [], [] => true
  | (f, x) :: xs, (g, y) :: ys => beqA f g && (beqA x y && beqK xs ys)
  | _, _ => false
theorem beqK_ok : ∀ {xs ys : List (A × A)}, beqK xs ys = true → xs = ys
  | [], [], _ => rfl
  | (f, x) :: xs, (g, y) :: ys, h => by
    obtain ⟨h1, h2⟩ := He.ba (show (beqA f g && (beqA x y && beqK xs ys)) = true from h)
    obtain ⟨h2, h3⟩ := He.ba h2
    rw [beqA_ok h1, beqA_ok h2, beqK_ok h3]
  | [], _ :: _, h => nomatch (show false = true from h)
  | _ :: _, [], h => nomatch (show false = true from h)
def beqC : Cell → Cell → Bool
  | .lst xs, .lst ys => beqAs xs ys
  | .dct xs, .dct ys => beqK xs ys
  | .dic xs, .dic ys => beqK xs ys
  | .ins C xs, .ins D ys => Nat.beq C D && beqF xs ys
  | _, _ => false
theorem beqC_ok {c d : Cell} (h : beqC c d = true) : c = d := by
  unfold beqC at h
  split at h
  · rw [beqAs_ok h]
  · rw [beqK_ok h]
  · rw [beqK_ok h]
  · obtain ⟨h1, h2⟩ := He.ba h
    rw [Nat.eq_of_beq_eq_true h1, beqF_ok h2]
  · cases h
/-! ### what is no longer asked for is let go -/
mutual
def locsA : A → List Bn
  | .loc l => [l]
  | .tup xs => locsAs xs
  | .non => []
  | .bl _ => []
  | .int _ => []
  | .str _ => []
  | .ty _ => []
  | .glo _ => []
def locsAs : List A → List Bn
  | [] => []
  | x :: xs => locsA x ++ locsAs xs
end
def locsC : Cell → List Bn
  | .lst xs => locsAs xs
  | .dct kvs => kvs.flatMap fun p => locsA p.2
  | .dic kvs => kvs.flatMap fun p => locsA p.2
  | .ins _ fs => fs.flatMap fun p => locsA p.2
  | .exc _ fs => fs.flatMap fun p => locsA p.2
  | .lam _ => []
section
variable {S : Sc} {ρ ρ' : Rho} {H : Hp}
mutual
theorem relCut : ∀ {x : A} {v : V}, (∀ l ∈ locsA x, ρ' l = ρ l) → Rel S ρ H x v → Rel S ρ' H x v
  | .non, _, _, h => h
  | .bl _, _, _, h => h
  | .int _, _, _, h => h
  | .str _, _, _, h => h
  | .ty _, _, _, h => h
  | .loc l, _, e, ⟨a, h1, h2⟩ => ⟨a, by rw [e l (by unfold locsA; exact List.mem_singleton.mpr rfl)]; exact h1, h2⟩
  | .glo _, _, _, h => h
  | .tup xs, _, e, ⟨a, vs, h1, h2, h3⟩ => ⟨a, vs, h1, h2, relsCut (fun l hl => e l (by unfold locsA; exact hl)) h3⟩
theorem relsCut : ∀ {xs : List A} {vs : List V}, (∀ l ∈ locsAs xs, ρ' l = ρ l) → Rels S ρ H xs vs → Rels S ρ' H xs vs
  | [], _, _, h => h
  | _ :: _, _, e, ⟨v, r, h1, h2, h3⟩ => ⟨v, r, h1, relCut (fun l hl => e l (by unfold locsAs; exact List.mem_append_left _ hl)) h2, relsCut (fun l hl => e l (by unfold locsAs; exact List.mem_append_right _ hl)) h3⟩
end
theorem relFCut : ∀ {xs : List (Str × A)} {vs : List (Str × V)}, (∀ l ∈ xs.flatMap (fun p => locsA p.2), ρ' l = ρ l) → RelF S ρ H xs vs → RelF S ρ' H xs vs
  | [], _, _, h => h
  | (_, _) :: _, _, e, ⟨v, r, h1, h2, h3⟩ => ⟨v, r, h1, relCut (fun l hl => e l (by rw [List.flatMap_cons]; exact List.mem_append_left _ hl)) h2, relFCut (fun l hl => e l (by rw [List.flatMap_cons]; exact List.mem_append_right _ hl)) h3⟩
theorem relKCut : ∀ {xs : List (A × A)} {vs : List (Key × V)}, (∀ l ∈ xs.flatMap (fun p => locsA p.2), ρ' l = ρ l) → RelK S ρ H xs vs → RelK S ρ' H xs vs
  | [], _, _, h => h
  | (_, _) :: _, _, e, ⟨c, v, r, h1, h2, h3, h4⟩ => ⟨c, v, r, h1, h2, relCut (fun l hl => e l (by rw [List.flatMap_cons]; exact List.mem_append_left _ hl)) h3, relKCut (fun l hl => e l (by rw [List.flatMap_cons]; exact List.mem_append_right _ hl)) h4⟩
theorem cOkCut {c : Cell} {a : Addr} (e : ∀ l ∈ locsC c, ρ' l = ρ l) (h : COk S ρ H c a) : COk S ρ' H c a := by
  cases c with
  | lst xs =>
    obtain ⟨vs, h1, h2⟩ := h
    exact ⟨vs, h1, relsCut e h2⟩
  | dct kvs =>
    obtain ⟨o, vs, h1, h2⟩ := h
    exact ⟨o, vs, h1, relKCut e h2⟩
  | dic kvs =>
    obtain ⟨vs, h1, h2⟩ := h
    exact ⟨vs, h1, relKCut e h2⟩
  | ins C fs =>
    obtain ⟨Ca, dx, vs, h1, h2, h3, h4⟩ := h
    exact ⟨Ca, dx, vs, h1, h2, relFCut e h3, h4⟩
  | exc C fs =>
    obtain ⟨Ca, h1, h2⟩ := h
    refine ⟨Ca, h1, ?_⟩
    rcases h2 with h2 | ⟨d, vs, h2, h3, h4⟩
    · exact .inl h2
    · exact .inr ⟨d, vs, h2, h3, relFCut e h4⟩
  | lam n => exact h
end
def ofL : List (Bn × Cell) → Tr
  | [] => .e
  | (l, c) :: r => (ofL r).put l c
theorem ofL_mem {l : Bn} {c : Cell} : ∀ {cs : List (Bn × Cell)}, (ofL cs).get l = some c → (l, c) ∈ cs
  | [], h => by
    have h : Tr.get l .e = some c := h
    rw [Tr.get_e] at h
    cases h
  | (j, d) :: r, h => by
    have h : Tr.get l (Tr.put j d (ofL r)) = some c := h
    rw [Tr.get_put] at h
    by_cases e : l = j
    · rw [if_pos e] at h
      cases h
      rw [e]
      exact List.mem_cons_self ..
    · rw [if_neg e] at h
      exact List.mem_cons_of_mem _ (ofL_mem h)
/-- closed, below nx -/
def closedB (nx : Bn) (cs : List (Bn × Cell)) : Bool := cs.all fun p => Nat.blt p.1.nat nx.nat && (locsC p.2).all fun l => ((ofL cs).get l).isSome
noncomputable section
def keptB (cs : List (Bn × Cell)) (h : Hh) : Bool := List.rec (motive := fun _ => Bool) true (fun p _ ih => Option.rec (motive := fun _ => Bool) false (fun c => Bool.rec (motive := fun _ => Bool) false ih (beqC p.2 c)) (getH h p.1)) cs
theorem keptB_ok {h : Hh} : ∀ {cs : List (Bn × Cell)}, keptB cs h = true → ∀ p ∈ cs, h.get p.1 = some p.2
  | p :: cs, q, p', hp => by
    have q : Option.rec (motive := fun _ => Bool) false (fun c => Bool.rec (motive := fun _ => Bool) false (keptB cs h) (beqC p.2 c)) (getH h p.1) = true := q
    rw [getH_eq] at q
    cases e : h.get p.1 with
    | none => rw [e] at q; cases q
    | some c =>
      rw [e] at q
      have q : Bool.rec (motive := fun _ => Bool) false (keptB cs h) (beqC p.2 c) = true := q
      cases e2 : beqC p.2 c with
      | false => rw [e2] at q; cases q
      | true =>
        rw [e2] at q
        rcases List.mem_cons.mp hp with rfl | hp
        · rw [e, beqC_ok e2]
        · exact keptB_ok q p' hp
end
def cutR (cs : List (Bn × Cell)) (ρ : Rho) : Rho := fun l => if ((ofL cs).get l).isSome then ρ l else none
theorem rep_cut {S S' : Sc} {ρ : Rho} {h : Hh} {H : Hp} {cs : List (Bn × Cell)} {nx : Bn} {m : Nat} (R : Rep S ρ h H) (eK : S'.K = S.K) (eG : S'.G = S.G) (el : S'.lam = S.lam) (et : S'.tz = S.tz) (eF : S'.F = S.F) (hΦ : S'.Φ m H) (hc : closedB nx cs = true) (hk : ∀ p ∈ cs, h.get p.1 = some p.2) : Rep S' (cutR cs ρ) ⟨nx, ofL cs, m⟩ H := by
  have key : ∀ l c, (ofL cs).get l = some c → h.get l = some c ∧ Nat.blt l.nat nx.nat = true ∧ ∀ j ∈ locsC c, ((ofL cs).get j).isSome = true := fun l c q => by
    have hm := ofL_mem q
    obtain ⟨h1, h2⟩ := He.ba (List.all_eq_true.mp hc _ hm)
    exact ⟨hk _ hm, h1, fun j hj => List.all_eq_true.mp h2 j hj⟩
  have cok : ∀ c a, COk S ρ H c a → COk S' ρ H c a := fun c a q => by
    have rel : ∀ x v, Rel S ρ H x v → Rel S' ρ H x v := by
      intro x
      refine A.rec (motive_1 := fun x => ∀ v, Rel S ρ H x v → Rel S' ρ H x v) (motive_2 := fun xs => ∀ vs, Rels S ρ H xs vs → Rels S' ρ H xs vs) (fun _ h => h) (fun _ _ h => h) (fun _ _ h => h) (fun _ _ h => h) (fun _ _ h => h) (fun _ _ h => h) (fun g v h => by
        obtain ⟨a, h1, h2⟩ := h
        exact ⟨a, by rw [eG]; exact h1, h2⟩) (fun xs ih v h => by
        obtain ⟨a, vs, h1, h2, h3⟩ := h
        exact ⟨a, vs, h1, by rw [eK]; exact h2, ih _ h3⟩) (fun _ h => h) (fun x xs ih1 ih2 vs h => by
        obtain ⟨v, r, h1, h2, h3⟩ := h
        exact ⟨v, r, h1, ih1 _ h2, ih2 _ h3⟩) x
    have rels : ∀ xs vs, Rels S ρ H xs vs → Rels S' ρ H xs vs := fun xs => by
      induction xs with
      | nil => exact fun _ h => h
      | cons x xs ih =>
        intro vs h
        obtain ⟨v, r, h1, h2, h3⟩ := h
        exact ⟨v, r, h1, rel _ _ h2, ih _ h3⟩
    have relf : ∀ xs vs, RelF S ρ H xs vs → RelF S' ρ H xs vs := fun xs => by
      induction xs with
      | nil => exact fun _ h => h
      | cons x xs ih =>
        obtain ⟨f, x⟩ := x
        intro vs h
        obtain ⟨v, r, h1, h2, h3⟩ := h
        exact ⟨v, r, h1, rel _ _ h2, ih _ h3⟩
    have relk : ∀ xs vs, RelK S ρ H xs vs → RelK S' ρ H xs vs := fun xs => by
      induction xs with
      | nil => exact fun _ h => h
      | cons x xs ih =>
        obtain ⟨f, x⟩ := x
        intro vs h
        obtain ⟨c, v, r, h1, h2, h3, h4⟩ := h
        exact ⟨c, v, r, h1, h2, rel _ _ h3, ih _ h4⟩
    cases c with
    | lst xs =>
      obtain ⟨vs, h1, h2⟩ := q
      exact ⟨vs, h1, rels _ _ h2⟩
    | dct kvs =>
      obtain ⟨o, vs, h1, h2⟩ := q
      exact ⟨o, vs, h1, relk _ _ h2⟩
    | dic kvs =>
      obtain ⟨vs, h1, h2⟩ := q
      exact ⟨vs, h1, relk _ _ h2⟩
    | ins C fs =>
      obtain ⟨Ca, dx, vs, h1, h2, h3, h4⟩ := q
      exact ⟨Ca, dx, vs, by rw [eG]; exact h1, h2, relf _ _ h3, fun f v hf => h4 f v (by rw [← et]; exact hf)⟩
    | exc C fs =>
      obtain ⟨Ca, h1, h2⟩ := q
      refine ⟨Ca, by rw [eG]; exact h1, ?_⟩
      rcases h2 with h2 | ⟨d, vs, h2, h3, h4⟩
      · exact .inl h2
      · exact .inr ⟨d, vs, h2, h3, relf _ _ h4⟩
    | lam n =>
      obtain ⟨t, c, h1, h2⟩ := q
      exact ⟨t, c, by rw [el]; exact h1, h2⟩
  have on : ∀ l, ((ofL cs).get l).isSome = true → cutR cs ρ l = ρ l := fun l h => if_pos h
  have so : ∀ l a, cutR cs ρ l = some a → ((ofL cs).get l).isSome = true ∧ ρ l = some a := fun l a e => by
    unfold cutR at e
    split at e
    · rename_i z; exact ⟨z, e⟩
    · cases e
  refine ⟨fun l c q => ?_, fun l a e => ?_, fun l l' a e e' => R.inj l l' a (so _ _ e).2 (so _ _ e').2, fun l c q => ?_, hΦ, fun l a e => ?_⟩
  · have q : (ofL cs).get l = some c := q
    obtain ⟨h1, h2, h3⟩ := key l c q
    obtain ⟨a, e1, e2⟩ := R.cell l c h1
    exact ⟨a, by rw [on l (by rw [q]; rfl)]; exact e1, cOkCut (fun j hj => on j (h3 j hj)) (cok _ _ e2)⟩
  · obtain ⟨c, hc⟩ := Option.isSome_iff_exists.mp (so _ _ e).1
    exact ⟨c, hc⟩
  · exact Nat.le_of_ble_eq_true (key l c q).2.1
  · rw [eF]; exact R.foF l a (so _ _ e).2
end DV
set_option Elab.async false
set_option linter.all false
set_option maxRecDepth 100000
set_option maxHeartbeats 4000000
namespace K28
open PySem PySem.Spec PyProof.Rows L2 ER EV DV
theorem rd_is_integer : dY D (rF (D := D) false 8 c_is_integer (fd "is_integer").2.1).y = d_is_integer := by kernel_rfl
theorem sf_is_integer : SF D c_is_integer (fd "is_integer").2.1 d_is_integer := by rw [← rd_is_integer]; exact (rF (D := D) false 8 c_is_integer (fd "is_integer").2.1).ok
theorem rd_is_size : dY D (rF (D := D) false 8 c_is_size (fd "is_size").2.1).y = d_is_size := by kernel_rfl
theorem sf_is_size : SF D c_is_size (fd "is_size").2.1 d_is_size := by rw [← rd_is_size]; exact (rF (D := D) false 8 c_is_size (fd "is_size").2.1).ok
theorem rd_is_list : dY D (rF (D := D) false 8 c_is_list (fd "is_list").2.1).y = d_is_list := by kernel_rfl
theorem sf_is_list : SF D c_is_list (fd "is_list").2.1 d_is_list := by rw [← rd_is_list]; exact (rF (D := D) false 8 c_is_list (fd "is_list").2.1).ok
theorem rd_is_name : dY D (rF (D := D) false 8 c_is_name (fd "is_name").2.1).y = d_is_name := by kernel_rfl
theorem sf_is_name : SF D c_is_name (fd "is_name").2.1 d_is_name := by rw [← rd_is_name]; exact (rF (D := D) false 8 c_is_name (fd "is_name").2.1).ok
theorem rd_is_led : dY D (rF (D := D) false 8 c_is_led (fd "is_led").2.1).y = d_is_led := by kernel_rfl
theorem sf_is_led : SF D c_is_led (fd "is_led").2.1 d_is_led := by rw [← rd_is_led]; exact (rF (D := D) false 8 c_is_led (fd "is_led").2.1).ok
theorem rd_once : dY D (rF (D := D) false 8 c_once (fd "once").2.1).y = d_once := by kernel_rfl
theorem sf_once : SF D c_once (fd "once").2.1 d_once := by rw [← rd_once]; exact (rF (D := D) false 8 c_once (fd "once").2.1).ok
theorem rd_checked_atoms : dY D (rF (D := D) false 8 c_checked_atoms (fd "checked_atoms").2.1).y = d_checked_atoms := by kernel_rfl
theorem sf_checked_atoms : SF D c_checked_atoms (fd "checked_atoms").2.1 d_checked_atoms := by rw [← rd_checked_atoms]; exact (rF (D := D) false 8 c_checked_atoms (fd "checked_atoms").2.1).ok
theorem rd_split : dY D (rF (D := D) false 8 c_split (fd "split").2.1).y = d_split := by kernel_rfl
theorem sf_split : SF D c_split (fd "split").2.1 d_split := by rw [← rd_split]; exact (rF (D := D) false 8 c_split (fd "split").2.1).ok
theorem rd_touches : dY D (rF (D := D) false 8 c_touches (fd "touches").2.1).y = d_touches := by kernel_rfl
theorem sf_touches : SF D c_touches (fd "touches").2.1 d_touches := by rw [← rd_touches]; exact (rF (D := D) false 8 c_touches (fd "touches").2.1).ok
theorem rd_orders : dY D (rF (D := D) false 8 c_orders (fd "orders").2.1).y = d_orders := by kernel_rfl
theorem sf_orders : SF D c_orders (fd "orders").2.1 d_orders := by rw [← rd_orders]; exact (rF (D := D) false 8 c_orders (fd "orders").2.1).ok
theorem rd_numbered : dY D (rF (D := D) false 8 c_numbered (fd "numbered").2.1).y = d_numbered := by kernel_rfl
theorem sf_numbered : SF D c_numbered (fd "numbered").2.1 d_numbered := by rw [← rd_numbered]; exact (rF (D := D) false 8 c_numbered (fd "numbered").2.1).ok
theorem rd_kind_of : dY D (rF (D := D) false 8 c_kind_of (fd "kind_of").2.1).y = d_kind_of := by kernel_rfl
theorem sf_kind_of : SF D c_kind_of (fd "kind_of").2.1 d_kind_of := by rw [← rd_kind_of]; exact (rF (D := D) false 8 c_kind_of (fd "kind_of").2.1).ok
theorem rd_width_of : dY D (rF (D := D) false 8 c_width_of (fd "width_of").2.1).y = d_width_of := by kernel_rfl
theorem sf_width_of : SF D c_width_of (fd "width_of").2.1 d_width_of := by rw [← rd_width_of]; exact (rF (D := D) false 8 c_width_of (fd "width_of").2.1).ok
theorem rd_ordered_kinds : dY D (rF (D := D) false 8 c_ordered_kinds (fd "ordered_kinds").2.1).y = d_ordered_kinds := by kernel_rfl
theorem sf_ordered_kinds : SF D c_ordered_kinds (fd "ordered_kinds").2.1 d_ordered_kinds := by rw [← rd_ordered_kinds]; exact (rF (D := D) false 8 c_ordered_kinds (fd "ordered_kinds").2.1).ok
theorem rd_laid_out : dY D (rF (D := D) false 8 c_laid_out (fd "laid_out").2.1).y = d_laid_out := by kernel_rfl
theorem sf_laid_out : SF D c_laid_out (fd "laid_out").2.1 d_laid_out := by rw [← rd_laid_out]; exact (rF (D := D) false 8 c_laid_out (fd "laid_out").2.1).ok
theorem rd_named : dY D (rF (D := D) false 8 c_named (fd "named").2.1).y = d_named := by kernel_rfl
theorem sf_named : SF D c_named (fd "named").2.1 d_named := by rw [← rd_named]; exact (rF (D := D) false 8 c_named (fd "named").2.1).ok
theorem rd_map_into : dY D (rF (D := D) false 8 c_map_into (fd "map_into").2.1).y = d_map_into := by kernel_rfl
theorem sf_map_into : SF D c_map_into (fd "map_into").2.1 d_map_into := by rw [← rd_map_into]; exact (rF (D := D) false 8 c_map_into (fd "map_into").2.1).ok
theorem rd_way_into : dY D (rF (D := D) false 8 c_way_into (fd "way_into").2.1).y = d_way_into := by kernel_rfl
theorem sf_way_into : SF D c_way_into (fd "way_into").2.1 d_way_into := by rw [← rd_way_into]; exact (rF (D := D) false 8 c_way_into (fd "way_into").2.1).ok
theorem rd_led : dY D (rF (D := D) false 8 c_led (fd "led").2.1).y = d_led := by kernel_rfl
theorem sf_led : SF D c_led (fd "led").2.1 d_led := by rw [← rd_led]; exact (rF (D := D) false 8 c_led (fd "led").2.1).ok
theorem rd_stepped : dY D (rF (D := D) false 8 c_stepped (fd "stepped").2.1).y = d_stepped := by kernel_rfl
theorem sf_stepped : SF D c_stepped (fd "stepped").2.1 d_stepped := by rw [← rd_stepped]; exact (rF (D := D) false 8 c_stepped (fd "stepped").2.1).ok
theorem rd_solved : dY D (rF (D := D) false 8 c_solved (fd "solved").2.1).y = d_solved := by kernel_rfl
theorem sf_solved : SF D c_solved (fd "solved").2.1 d_solved := by rw [← rd_solved]; exact (rF (D := D) false 8 c_solved (fd "solved").2.1).ok
theorem rd_check_patterns : dY D (rF (D := D) false 8 c_check_patterns (fd "check_patterns").2.1).y = d_check_patterns := by kernel_rfl
theorem sf_check_patterns : SF D c_check_patterns (fd "check_patterns").2.1 d_check_patterns := by rw [← rd_check_patterns]; exact (rF (D := D) false 8 c_check_patterns (fd "check_patterns").2.1).ok
theorem rd_pieces_once : dY D (rF (D := D) false 8 c_pieces_once (fd "pieces_once").2.1).y = d_pieces_once := by kernel_rfl
theorem sf_pieces_once : SF D c_pieces_once (fd "pieces_once").2.1 d_pieces_once := by rw [← rd_pieces_once]; exact (rF (D := D) false 8 c_pieces_once (fd "pieces_once").2.1).ok
theorem rd_helping : dY D (rF (D := D) false 8 c_helping (fd "helping").2.1).y = d_helping := by kernel_rfl
theorem sf_helping : SF D c_helping (fd "helping").2.1 d_helping := by rw [← rd_helping]; exact (rF (D := D) false 8 c_helping (fd "helping").2.1).ok
theorem rd_vector : dY D (rF (D := D) false 8 c_vector (fd "vector").2.1).y = d_vector := by kernel_rfl
theorem sf_vector : SF D c_vector (fd "vector").2.1 d_vector := by rw [← rd_vector]; exact (rF (D := D) false 8 c_vector (fd "vector").2.1).ok
theorem rd_kinds_of : dY D (rF (D := D) false 8 c_kinds_of (fd "kinds_of").2.1).y = d_kinds_of := by kernel_rfl
theorem sf_kinds_of : SF D c_kinds_of (fd "kinds_of").2.1 d_kinds_of := by rw [← rd_kinds_of]; exact (rF (D := D) false 8 c_kinds_of (fd "kinds_of").2.1).ok
theorem rd_exponents : dY D (rF (D := D) false 8 c_exponents (fd "exponents").2.1).y = d_exponents := by kernel_rfl
theorem sf_exponents : SF D c_exponents (fd "exponents").2.1 d_exponents := by rw [← rd_exponents]; exact (rF (D := D) false 8 c_exponents (fd "exponents").2.1).ok
theorem rd_helpers : dY D (rF (D := D) false 8 c_helpers (fd "helpers").2.1).y = d_helpers := by kernel_rfl
theorem sf_helpers : SF D c_helpers (fd "helpers").2.1 d_helpers := by rw [← rd_helpers]; exact (rF (D := D) false 8 c_helpers (fd "helpers").2.1).ok
theorem rd_is_settled : dY D (rF (D := D) false 8 c_is_settled (fd "is_settled").2.1).y = d_is_settled := by kernel_rfl
theorem sf_is_settled : SF D c_is_settled (fd "is_settled").2.1 d_is_settled := by rw [← rd_is_settled]; exact (rF (D := D) false 8 c_is_settled (fd "is_settled").2.1).ok
theorem rd_paper : dY D (rF (D := D) false 8 c_paper (fd "paper").2.1).y = d_paper := by kernel_rfl
theorem sf_paper : SF D c_paper (fd "paper").2.1 d_paper := by rw [← rd_paper]; exact (rF (D := D) false 8 c_paper (fd "paper").2.1).ok
theorem rd_is_paper : dY D (rF (D := D) false 8 c_is_paper (fd "is_paper").2.1).y = d_is_paper := by kernel_rfl
theorem sf_is_paper : SF D c_is_paper (fd "is_paper").2.1 d_is_paper := by rw [← rd_is_paper]; exact (rF (D := D) false 8 c_is_paper (fd "is_paper").2.1).ok
theorem rd_apart : dY D (rF (D := D) false 8 c_apart (fd "apart").2.1).y = d_apart := by kernel_rfl
theorem sf_apart : SF D c_apart (fd "apart").2.1 d_apart := by rw [← rd_apart]; exact (rF (D := D) false 8 c_apart (fd "apart").2.1).ok
theorem rd_is_apart : dY D (rF (D := D) false 8 c_is_apart (fd "is_apart").2.1).y = d_is_apart := by kernel_rfl
theorem sf_is_apart : SF D c_is_apart (fd "is_apart").2.1 d_is_apart := by rw [← rd_is_apart]; exact (rF (D := D) false 8 c_is_apart (fd "is_apart").2.1).ok
theorem rd_check_counts : dY D (rF (D := D) false 8 c_check_counts (fd "check_counts").2.1).y = d_check_counts := by kernel_rfl
theorem sf_check_counts : SF D c_check_counts (fd "check_counts").2.1 d_check_counts := by rw [← rd_check_counts]; exact (rF (D := D) false 8 c_check_counts (fd "check_counts").2.1).ok
theorem rd_tell : dY D (rF (D := D) false 8 c_tell (fd "tell").2.1).y = d_tell := by kernel_rfl
theorem sf_tell : SF D c_tell (fd "tell").2.1 d_tell := by rw [← rd_tell]; exact (rF (D := D) false 8 c_tell (fd "tell").2.1).ok
theorem rd_all_settled : dY D (rF (D := D) false 8 c_all_settled (fd "all_settled").2.1).y = d_all_settled := by kernel_rfl
theorem sf_all_settled : SF D c_all_settled (fd "all_settled").2.1 d_all_settled := by rw [← rd_all_settled]; exact (rF (D := D) false 8 c_all_settled (fd "all_settled").2.1).ok
theorem rd_needless : dY D (rF (D := D) false 8 c_needless (fd "needless").2.1).y = d_needless := by kernel_rfl
theorem sf_needless : SF D c_needless (fd "needless").2.1 d_needless := by rw [← rd_needless]; exact (rF (D := D) false 8 c_needless (fd "needless").2.1).ok
theorem rd_least_more : dY D (rF (D := D) false 8 c_least_more (fd "least_more").2.1).y = d_least_more := by kernel_rfl
theorem sf_least_more : SF D c_least_more (fd "least_more").2.1 d_least_more := by rw [← rd_least_more]; exact (rF (D := D) false 8 c_least_more (fd "least_more").2.1).ok
theorem rd_always : dY D (rF (D := D) false 8 c_always (fd "always").2.1).y = d_always := by kernel_rfl
theorem sf_always : SF D c_always (fd "always").2.1 d_always := by rw [← rd_always]; exact (rF (D := D) false 8 c_always (fd "always").2.1).ok
theorem rd_always_paper : dY D (rF (D := D) false 8 c_always_paper (fd "always_paper").2.1).y = d_always_paper := by kernel_rfl
theorem sf_always_paper : SF D c_always_paper (fd "always_paper").2.1 d_always_paper := by rw [← rd_always_paper]; exact (rF (D := D) false 8 c_always_paper (fd "always_paper").2.1).ok
theorem rd__law_one : dY D (rF (D := D) false 8 c__law_one (fd "_law_one").2.1).y = d__law_one := by kernel_rfl
theorem sf__law_one : SF D c__law_one (fd "_law_one").2.1 d__law_one := by rw [← rd__law_one]; exact (rF (D := D) false 8 c__law_one (fd "_law_one").2.1).ok
theorem rd__law_few : dY D (rF (D := D) false 8 c__law_few (fd "_law_few").2.1).y = d__law_few := by kernel_rfl
theorem sf__law_few : SF D c__law_few (fd "_law_few").2.1 d__law_few := by rw [← rd__law_few]; exact (rF (D := D) false 8 c__law_few (fd "_law_few").2.1).ok
theorem rd__law_same : dY D (rF (D := D) false 8 c__law_same (fd "_law_same").2.1).y = d__law_same := by kernel_rfl
theorem sf__law_same : SF D c__law_same (fd "_law_same").2.1 d__law_same := by rw [← rd__law_same]; exact (rF (D := D) false 8 c__law_same (fd "_law_same").2.1).ok
theorem rd__law_wished : dY D (rF (D := D) false 8 c__law_wished (fd "_law_wished").2.1).y = d__law_wished := by kernel_rfl
theorem sf__law_wished : SF D c__law_wished (fd "_law_wished").2.1 d__law_wished := by rw [← rd__law_wished]; exact (rF (D := D) false 8 c__law_wished (fd "_law_wished").2.1).ok
theorem rd__law_lists : dY D (rF (D := D) false 8 c__law_lists (fd "_law_lists").2.1).y = d__law_lists := by kernel_rfl
theorem sf__law_lists : SF D c__law_lists (fd "_law_lists").2.1 d__law_lists := by rw [← rd__law_lists]; exact (rF (D := D) false 8 c__law_lists (fd "_law_lists").2.1).ok
theorem rd_Pattern_init : dY D (rF (D := D) false 8 c_Pattern_init (md "Pattern" "__init__").2.1).y = d_Pattern_init := by kernel_rfl
theorem sf_Pattern_init : SF D c_Pattern_init (md "Pattern" "__init__").2.1 d_Pattern_init := by rw [← rd_Pattern_init]; exact (rF (D := D) false 8 c_Pattern_init (md "Pattern" "__init__").2.1).ok
theorem rd_Pattern_add : dY D (rF (D := D) false 8 c_Pattern_add (md "Pattern" "__add__").2.1).y = d_Pattern_add := by kernel_rfl
theorem sf_Pattern_add : SF D c_Pattern_add (md "Pattern" "__add__").2.1 d_Pattern_add := by rw [← rd_Pattern_add]; exact (rF (D := D) false 8 c_Pattern_add (md "Pattern" "__add__").2.1).ok
end K28
set_option Elab.async false
set_option linter.all false
set_option maxRecDepth 100000
set_option maxHeartbeats 4000000
namespace K28
open PySem PySem.Spec PyProof.Rows L2 ER EV DV
def w_is_integer : He.DefD := ⟨("is_integer", none), "is_integer", "is_integer", (fd "is_integer").1, (fd "is_integer").2.1, (fd "is_integer").2.2, [], []⟩
def w_is_size : He.DefD := ⟨("is_size", none), "is_size", "is_size", (fd "is_size").1, (fd "is_size").2.1, (fd "is_size").2.2, [], []⟩
def w_is_list : He.DefD := ⟨("is_list", none), "is_list", "is_list", (fd "is_list").1, (fd "is_list").2.1, (fd "is_list").2.2, [], []⟩
def w_is_name : He.DefD := ⟨("is_name", none), "is_name", "is_name", (fd "is_name").1, (fd "is_name").2.1, (fd "is_name").2.2, [], []⟩
def w_is_led : He.DefD := ⟨("is_led", none), "is_led", "is_led", (fd "is_led").1, (fd "is_led").2.1, (fd "is_led").2.2, [], []⟩
def w_once : He.DefD := ⟨("once", none), "once", "once", (fd "once").1, (fd "once").2.1, (fd "once").2.2, [], []⟩
def w_checked_atoms : He.DefD := ⟨("checked_atoms", none), "checked_atoms", "checked_atoms", (fd "checked_atoms").1, (fd "checked_atoms").2.1, (fd "checked_atoms").2.2, [], []⟩
def w_split : He.DefD := ⟨("split", none), "split", "split", (fd "split").1, (fd "split").2.1, (fd "split").2.2, [], []⟩
def w_touches : He.DefD := ⟨("touches", none), "touches", "touches", (fd "touches").1, (fd "touches").2.1, (fd "touches").2.2, [], []⟩
def w_orders : He.DefD := ⟨("orders", none), "orders", "orders", (fd "orders").1, (fd "orders").2.1, (fd "orders").2.2, [], []⟩
def w_numbered : He.DefD := ⟨("numbered", none), "numbered", "numbered", (fd "numbered").1, (fd "numbered").2.1, (fd "numbered").2.2, [], []⟩
def w_kind_of : He.DefD := ⟨("kind_of", none), "kind_of", "kind_of", (fd "kind_of").1, (fd "kind_of").2.1, (fd "kind_of").2.2, [], []⟩
def w_width_of : He.DefD := ⟨("width_of", none), "width_of", "width_of", (fd "width_of").1, (fd "width_of").2.1, (fd "width_of").2.2, [], []⟩
def w_ordered_kinds : He.DefD := ⟨("ordered_kinds", none), "ordered_kinds", "ordered_kinds", (fd "ordered_kinds").1, (fd "ordered_kinds").2.1, (fd "ordered_kinds").2.2, [], []⟩
def w_laid_out : He.DefD := ⟨("laid_out", none), "laid_out", "laid_out", (fd "laid_out").1, (fd "laid_out").2.1, (fd "laid_out").2.2, [], []⟩
def w_named : He.DefD := ⟨("named", none), "named", "named", (fd "named").1, (fd "named").2.1, (fd "named").2.2, [], []⟩
def w_map_into : He.DefD := ⟨("map_into", none), "map_into", "map_into", (fd "map_into").1, (fd "map_into").2.1, (fd "map_into").2.2, [], []⟩
def w_way_into : He.DefD := ⟨("way_into", none), "way_into", "way_into", (fd "way_into").1, (fd "way_into").2.1, (fd "way_into").2.2, [], []⟩
def w_led : He.DefD := ⟨("led", none), "led", "led", (fd "led").1, (fd "led").2.1, (fd "led").2.2, [], []⟩
def w_stepped : He.DefD := ⟨("stepped", none), "stepped", "stepped", (fd "stepped").1, (fd "stepped").2.1, (fd "stepped").2.2, [], []⟩
def w_solved : He.DefD := ⟨("solved", none), "solved", "solved", (fd "solved").1, (fd "solved").2.1, (fd "solved").2.2, [], []⟩
def w_check_patterns : He.DefD := ⟨("check_patterns", none), "check_patterns", "check_patterns", (fd "check_patterns").1, (fd "check_patterns").2.1, (fd "check_patterns").2.2, [], []⟩
def w_pieces_once : He.DefD := ⟨("pieces_once", none), "pieces_once", "pieces_once", (fd "pieces_once").1, (fd "pieces_once").2.1, (fd "pieces_once").2.2, [], []⟩
def w_helping : He.DefD := ⟨("helping", none), "helping", "helping", (fd "helping").1, (fd "helping").2.1, (fd "helping").2.2, [], []⟩
def w_vector : He.DefD := ⟨("vector", none), "vector", "vector", (fd "vector").1, (fd "vector").2.1, (fd "vector").2.2, [], []⟩
def w_kinds_of : He.DefD := ⟨("kinds_of", none), "kinds_of", "kinds_of", (fd "kinds_of").1, (fd "kinds_of").2.1, (fd "kinds_of").2.2, [], []⟩
def w_exponents : He.DefD := ⟨("exponents", none), "exponents", "exponents", (fd "exponents").1, (fd "exponents").2.1, (fd "exponents").2.2, [], []⟩
def w_helpers : He.DefD := ⟨("helpers", none), "helpers", "helpers", (fd "helpers").1, (fd "helpers").2.1, (fd "helpers").2.2, [], []⟩
def w_is_settled : He.DefD := ⟨("is_settled", none), "is_settled", "is_settled", (fd "is_settled").1, (fd "is_settled").2.1, (fd "is_settled").2.2, [], []⟩
def w_paper : He.DefD := ⟨("paper", none), "paper", "paper", (fd "paper").1, (fd "paper").2.1, (fd "paper").2.2, [], []⟩
def w_is_paper : He.DefD := ⟨("is_paper", none), "is_paper", "is_paper", (fd "is_paper").1, (fd "is_paper").2.1, (fd "is_paper").2.2, [], []⟩
def w_apart : He.DefD := ⟨("apart", none), "apart", "apart", (fd "apart").1, (fd "apart").2.1, (fd "apart").2.2, [], []⟩
def w_is_apart : He.DefD := ⟨("is_apart", none), "is_apart", "is_apart", (fd "is_apart").1, (fd "is_apart").2.1, (fd "is_apart").2.2, [], []⟩
def w_check_counts : He.DefD := ⟨("check_counts", none), "check_counts", "check_counts", (fd "check_counts").1, (fd "check_counts").2.1, (fd "check_counts").2.2, [], []⟩
def w_tell : He.DefD := ⟨("tell", none), "tell", "tell", (fd "tell").1, (fd "tell").2.1, (fd "tell").2.2, [], []⟩
def w_all_settled : He.DefD := ⟨("all_settled", none), "all_settled", "all_settled", (fd "all_settled").1, (fd "all_settled").2.1, (fd "all_settled").2.2, [], []⟩
def w_needless : He.DefD := ⟨("needless", none), "needless", "needless", (fd "needless").1, (fd "needless").2.1, (fd "needless").2.2, [], []⟩
def w_least_more : He.DefD := ⟨("least_more", none), "least_more", "least_more", (fd "least_more").1, (fd "least_more").2.1, (fd "least_more").2.2, [], []⟩
def w_always : He.DefD := ⟨("always", none), "always", "always", (fd "always").1, (fd "always").2.1, (fd "always").2.2, [], []⟩
def w_always_paper : He.DefD := ⟨("always_paper", none), "always_paper", "always_paper", (fd "always_paper").1, (fd "always_paper").2.1, (fd "always_paper").2.2, [], []⟩
def w__law_take : He.DefD := ⟨("_law_take", none), "_law_take", "_law_take", (fd "_law_take").1, (fd "_law_take").2.1, (fd "_law_take").2.2, [], []⟩
def w__law_one : He.DefD := ⟨("_law_one", none), "_law_one", "_law_one", (fd "_law_one").1, (fd "_law_one").2.1, (fd "_law_one").2.2, [], []⟩
def w__law_few : He.DefD := ⟨("_law_few", none), "_law_few", "_law_few", (fd "_law_few").1, (fd "_law_few").2.1, (fd "_law_few").2.2, [], []⟩
def w__law_same : He.DefD := ⟨("_law_same", none), "_law_same", "_law_same", (fd "_law_same").1, (fd "_law_same").2.1, (fd "_law_same").2.2, [], []⟩
def w__law_wished : He.DefD := ⟨("_law_wished", none), "_law_wished", "_law_wished", (fd "_law_wished").1, (fd "_law_wished").2.1, (fd "_law_wished").2.2, [], []⟩
def w__law_lists : He.DefD := ⟨("_law_lists", none), "_law_lists", "_law_lists", (fd "_law_lists").1, (fd "_law_lists").2.1, (fd "_law_lists").2.2, [], []⟩
def w_Pattern_init : He.DefD := ⟨("Pattern", some "__init__"), "__init__", "Pattern.__init__", (md "Pattern" "__init__").1, (md "Pattern" "__init__").2.1, (md "Pattern" "__init__").2.2, [.adr (He.dflAt ("Pattern", some "__init__") 0)], []⟩
def w_Pattern_add : He.DefD := ⟨("Pattern", some "__add__"), "__add__", "Pattern.__add__", (md "Pattern" "__add__").1, (md "Pattern" "__add__").2.1, (md "Pattern" "__add__").2.2, [], []⟩
def w_law : He.DefD := ⟨("law", none), "law", "law", (fd "law").1, (fd "law").2.1, (fd "law").2.2, [], []⟩
def w__law_spring : He.DefD := ⟨("_law_spring", none), "_law_spring", "_law_spring", (fd "_law_spring").1, (fd "_law_spring").2.1, (fd "_law_spring").2.2, [], []⟩
def w__law_tried : He.DefD := ⟨("_law_tried", none), "_law_tried", "_law_tried", (fd "_law_tried").1, (fd "_law_tried").2.1, (fd "_law_tried").2.2, [], []⟩
def fnW : List He.DefD := [w_is_integer, w_is_size, w_is_list, w_is_name, w_is_led, w_once, w_checked_atoms, w_split, w_touches, w_orders, w_numbered, w_kind_of, w_width_of, w_ordered_kinds, w_laid_out, w_named, w_map_into, w_way_into, w_led, w_stepped, w_solved, w_check_patterns, w_pieces_once, w_helping, w_vector, w_kinds_of, w_exponents, w_helpers, w_is_settled, w_paper, w_is_paper, w_apart, w_is_apart, w_check_counts, w_tell, w_all_settled, w_needless, w_least_more, w_always, w_always_paper, w__law_take, w__law_one, w__law_few, w__law_same, w__law_wished, w__law_lists, w_Pattern_init, w_Pattern_add]
def lawW : List He.DefD := [w_law, w__law_spring, w__law_tried]
def lamW : List He.Defn := [("_law_wished", none), ("_law_lists", none), ("law", none)]
noncomputable def LW : Lw := ⟨P, D, clsN, fnW, lawW, lamW⟩
theorem b0_is_integer (kV doc pm : Value) (an : Option Addr) (cdv ct u : Value) : bindArgs (PySem.W.fnOf w_is_integer.name w_is_integer.qual w_is_integer.params w_is_integer.body w_is_integer.scope .none kV doc pm an cdv ct) ⟨[u], []⟩ = pure [(("thing" : Str), u)] := by kernel_rfl
theorem bd_is_integer : BindF w_is_integer ["thing"] := ⟨rfl, .inl ⟨rfl, fun kV doc pm an cdv ct us hl => match us, hl with | [u], _ => b0_is_integer kV doc pm an cdv ct u⟩⟩
theorem sc_is_integer : FnScope c_is_integer.N ["thing"] w_is_integer.scope := ⟨rfl, rfl, rfl, by decide +kernel, rfl, by decide +kernel, by decide +kernel⟩
theorem b0_is_size (kV doc pm : Value) (an : Option Addr) (cdv ct u : Value) : bindArgs (PySem.W.fnOf w_is_size.name w_is_size.qual w_is_size.params w_is_size.body w_is_size.scope .none kV doc pm an cdv ct) ⟨[u], []⟩ = pure [(("thing" : Str), u)] := by kernel_rfl
theorem bd_is_size : BindF w_is_size ["thing"] := ⟨rfl, .inl ⟨rfl, fun kV doc pm an cdv ct us hl => match us, hl with | [u], _ => b0_is_size kV doc pm an cdv ct u⟩⟩
theorem sc_is_size : FnScope c_is_size.N ["thing"] w_is_size.scope := ⟨rfl, rfl, rfl, by decide +kernel, rfl, by decide +kernel, by decide +kernel⟩
theorem b0_is_list (kV doc pm : Value) (an : Option Addr) (cdv ct u : Value) : bindArgs (PySem.W.fnOf w_is_list.name w_is_list.qual w_is_list.params w_is_list.body w_is_list.scope .none kV doc pm an cdv ct) ⟨[u], []⟩ = pure [(("thing" : Str), u)] := by kernel_rfl
theorem bd_is_list : BindF w_is_list ["thing"] := ⟨rfl, .inl ⟨rfl, fun kV doc pm an cdv ct us hl => match us, hl with | [u], _ => b0_is_list kV doc pm an cdv ct u⟩⟩
theorem sc_is_list : FnScope c_is_list.N ["thing"] w_is_list.scope := ⟨rfl, rfl, rfl, by decide +kernel, rfl, by decide +kernel, by decide +kernel⟩
theorem b0_is_name (kV doc pm : Value) (an : Option Addr) (cdv ct u : Value) : bindArgs (PySem.W.fnOf w_is_name.name w_is_name.qual w_is_name.params w_is_name.body w_is_name.scope .none kV doc pm an cdv ct) ⟨[u], []⟩ = pure [(("thing" : Str), u)] := by kernel_rfl
theorem bd_is_name : BindF w_is_name ["thing"] := ⟨rfl, .inl ⟨rfl, fun kV doc pm an cdv ct us hl => match us, hl with | [u], _ => b0_is_name kV doc pm an cdv ct u⟩⟩
theorem sc_is_name : FnScope c_is_name.N ["thing"] w_is_name.scope := ⟨rfl, rfl, rfl, by decide +kernel, rfl, by decide +kernel, by decide +kernel⟩
theorem b0_is_led (kV doc pm : Value) (an : Option Addr) (cdv ct u : Value) : bindArgs (PySem.W.fnOf w_is_led.name w_is_led.qual w_is_led.params w_is_led.body w_is_led.scope .none kV doc pm an cdv ct) ⟨[u], []⟩ = pure [(("thing" : Str), u)] := by kernel_rfl
theorem bd_is_led : BindF w_is_led ["thing"] := ⟨rfl, .inl ⟨rfl, fun kV doc pm an cdv ct us hl => match us, hl with | [u], _ => b0_is_led kV doc pm an cdv ct u⟩⟩
theorem sc_is_led : FnScope c_is_led.N ["thing"] w_is_led.scope := ⟨rfl, rfl, rfl, by decide +kernel, rfl, by decide +kernel, by decide +kernel⟩
theorem b0_once (kV doc pm : Value) (an : Option Addr) (cdv ct u : Value) : bindArgs (PySem.W.fnOf w_once.name w_once.qual w_once.params w_once.body w_once.scope .none kV doc pm an cdv ct) ⟨[u], []⟩ = pure [(("things" : Str), u)] := by kernel_rfl
theorem bd_once : BindF w_once ["things"] := ⟨rfl, .inl ⟨rfl, fun kV doc pm an cdv ct us hl => match us, hl with | [u], _ => b0_once kV doc pm an cdv ct u⟩⟩
theorem sc_once : FnScope c_once.N ["things"] w_once.scope := ⟨rfl, rfl, rfl, by decide +kernel, rfl, by decide +kernel, by decide +kernel⟩
theorem b0_checked_atoms (kV doc pm : Value) (an : Option Addr) (cdv ct u : Value) : bindArgs (PySem.W.fnOf w_checked_atoms.name w_checked_atoms.qual w_checked_atoms.params w_checked_atoms.body w_checked_atoms.scope .none kV doc pm an cdv ct) ⟨[u], []⟩ = pure [(("atoms" : Str), u)] := by kernel_rfl
theorem bd_checked_atoms : BindF w_checked_atoms ["atoms"] := ⟨rfl, .inl ⟨rfl, fun kV doc pm an cdv ct us hl => match us, hl with | [u], _ => b0_checked_atoms kV doc pm an cdv ct u⟩⟩
theorem sc_checked_atoms : FnScope c_checked_atoms.N ["atoms"] w_checked_atoms.scope := ⟨rfl, rfl, rfl, by decide +kernel, rfl, by decide +kernel, by decide +kernel⟩
theorem b0_split (kV doc pm : Value) (an : Option Addr) (cdv ct u : Value) : bindArgs (PySem.W.fnOf w_split.name w_split.qual w_split.params w_split.body w_split.scope .none kV doc pm an cdv ct) ⟨[u], []⟩ = pure [(("atoms" : Str), u)] := by kernel_rfl
theorem bd_split : BindF w_split ["atoms"] := ⟨rfl, .inl ⟨rfl, fun kV doc pm an cdv ct us hl => match us, hl with | [u], _ => b0_split kV doc pm an cdv ct u⟩⟩
theorem sc_split : FnScope c_split.N ["atoms"] w_split.scope := ⟨rfl, rfl, rfl, by decide +kernel, rfl, by decide +kernel, by decide +kernel⟩
theorem b0_touches (kV doc pm : Value) (an : Option Addr) (cdv ct u v : Value) : bindArgs (PySem.W.fnOf w_touches.name w_touches.qual w_touches.params w_touches.body w_touches.scope .none kV doc pm an cdv ct) ⟨[u, v], []⟩ = pure [(("atoms" : Str), u), (("other" : Str), v)] := by kernel_rfl
theorem bd_touches : BindF w_touches ["atoms", "other"] := ⟨rfl, .inl ⟨rfl, fun kV doc pm an cdv ct us hl => match us, hl with | [u, v], _ => b0_touches kV doc pm an cdv ct u v⟩⟩
theorem sc_touches : FnScope c_touches.N ["atoms", "other"] w_touches.scope := ⟨rfl, rfl, rfl, by decide +kernel, rfl, by decide +kernel, by decide +kernel⟩
theorem b0_orders (kV doc pm : Value) (an : Option Addr) (cdv ct u : Value) : bindArgs (PySem.W.fnOf w_orders.name w_orders.qual w_orders.params w_orders.body w_orders.scope .none kV doc pm an cdv ct) ⟨[u], []⟩ = pure [(("things" : Str), u)] := by kernel_rfl
theorem bd_orders : BindF w_orders ["things"] := ⟨rfl, .inl ⟨rfl, fun kV doc pm an cdv ct us hl => match us, hl with | [u], _ => b0_orders kV doc pm an cdv ct u⟩⟩
theorem sc_orders : FnScope c_orders.N ["things"] w_orders.scope := ⟨rfl, rfl, rfl, by decide +kernel, rfl, by decide +kernel, by decide +kernel⟩
theorem b0_numbered (kV doc pm : Value) (an : Option Addr) (cdv ct u v : Value) : bindArgs (PySem.W.fnOf w_numbered.name w_numbered.qual w_numbered.params w_numbered.body w_numbered.scope .none kV doc pm an cdv ct) ⟨[u, v], []⟩ = pure [(("atoms" : Str), u), (("names" : Str), v)] := by kernel_rfl
theorem bd_numbered : BindF w_numbered ["atoms", "names"] := ⟨rfl, .inl ⟨rfl, fun kV doc pm an cdv ct us hl => match us, hl with | [u, v], _ => b0_numbered kV doc pm an cdv ct u v⟩⟩
theorem sc_numbered : FnScope c_numbered.N ["atoms", "names"] w_numbered.scope := ⟨rfl, rfl, rfl, by decide +kernel, rfl, by decide +kernel, by decide +kernel⟩
theorem b0_kind_of (kV doc pm : Value) (an : Option Addr) (cdv ct u : Value) : bindArgs (PySem.W.fnOf w_kind_of.name w_kind_of.qual w_kind_of.params w_kind_of.body w_kind_of.scope .none kV doc pm an cdv ct) ⟨[u], []⟩ = pure [(("atoms" : Str), u)] := by kernel_rfl
theorem bd_kind_of : BindF w_kind_of ["atoms"] := ⟨rfl, .inl ⟨rfl, fun kV doc pm an cdv ct us hl => match us, hl with | [u], _ => b0_kind_of kV doc pm an cdv ct u⟩⟩
theorem sc_kind_of : FnScope c_kind_of.N ["atoms"] w_kind_of.scope := ⟨rfl, rfl, rfl, by decide +kernel, rfl, by decide +kernel, by decide +kernel⟩
theorem b0_width_of (kV doc pm : Value) (an : Option Addr) (cdv ct u : Value) : bindArgs (PySem.W.fnOf w_width_of.name w_width_of.qual w_width_of.params w_width_of.body w_width_of.scope .none kV doc pm an cdv ct) ⟨[u], []⟩ = pure [(("kind" : Str), u)] := by kernel_rfl
theorem bd_width_of : BindF w_width_of ["kind"] := ⟨rfl, .inl ⟨rfl, fun kV doc pm an cdv ct us hl => match us, hl with | [u], _ => b0_width_of kV doc pm an cdv ct u⟩⟩
theorem sc_width_of : FnScope c_width_of.N ["kind"] w_width_of.scope := ⟨rfl, rfl, rfl, by decide +kernel, rfl, by decide +kernel, by decide +kernel⟩
theorem b0_ordered_kinds (kV doc pm : Value) (an : Option Addr) (cdv ct u : Value) : bindArgs (PySem.W.fnOf w_ordered_kinds.name w_ordered_kinds.qual w_ordered_kinds.params w_ordered_kinds.body w_ordered_kinds.scope .none kV doc pm an cdv ct) ⟨[u], []⟩ = pure [(("kinds" : Str), u)] := by kernel_rfl
theorem bd_ordered_kinds : BindF w_ordered_kinds ["kinds"] := ⟨rfl, .inl ⟨rfl, fun kV doc pm an cdv ct us hl => match us, hl with | [u], _ => b0_ordered_kinds kV doc pm an cdv ct u⟩⟩
theorem sc_ordered_kinds : FnScope c_ordered_kinds.N ["kinds"] w_ordered_kinds.scope := ⟨rfl, rfl, rfl, by decide +kernel, rfl, by decide +kernel, by decide +kernel⟩
theorem b0_laid_out (kV doc pm : Value) (an : Option Addr) (cdv ct u : Value) : bindArgs (PySem.W.fnOf w_laid_out.name w_laid_out.qual w_laid_out.params w_laid_out.body w_laid_out.scope .none kV doc pm an cdv ct) ⟨[u], []⟩ = pure [(("kinds" : Str), u)] := by kernel_rfl
theorem bd_laid_out : BindF w_laid_out ["kinds"] := ⟨rfl, .inl ⟨rfl, fun kV doc pm an cdv ct us hl => match us, hl with | [u], _ => b0_laid_out kV doc pm an cdv ct u⟩⟩
theorem sc_laid_out : FnScope c_laid_out.N ["kinds"] w_laid_out.scope := ⟨rfl, rfl, rfl, by decide +kernel, rfl, by decide +kernel, by decide +kernel⟩
theorem b0_named (kV doc pm : Value) (an : Option Addr) (cdv ct u : Value) : bindArgs (PySem.W.fnOf w_named.name w_named.qual w_named.params w_named.body w_named.scope .none kV doc pm an cdv ct) ⟨[u], []⟩ = pure [(("atoms" : Str), u)] := by kernel_rfl
theorem bd_named : BindF w_named ["atoms"] := ⟨rfl, .inl ⟨rfl, fun kV doc pm an cdv ct us hl => match us, hl with | [u], _ => b0_named kV doc pm an cdv ct u⟩⟩
theorem sc_named : FnScope c_named.N ["atoms"] w_named.scope := ⟨rfl, rfl, rfl, by decide +kernel, rfl, by decide +kernel, by decide +kernel⟩
theorem b0_map_into (kV doc pm : Value) (an : Option Addr) (cdv ct u v : Value) : bindArgs (PySem.W.fnOf w_map_into.name w_map_into.qual w_map_into.params w_map_into.body w_map_into.scope .none kV doc pm an cdv ct) ⟨[u, v], []⟩ = pure [(("one" : Str), u), (("other" : Str), v)] := by kernel_rfl
theorem bd_map_into : BindF w_map_into ["one", "other"] := ⟨rfl, .inl ⟨rfl, fun kV doc pm an cdv ct us hl => match us, hl with | [u, v], _ => b0_map_into kV doc pm an cdv ct u v⟩⟩
theorem sc_map_into : FnScope c_map_into.N ["one", "other"] w_map_into.scope := ⟨rfl, rfl, rfl, by decide +kernel, rfl, by decide +kernel, by decide +kernel⟩
theorem b0_way_into (kV doc pm : Value) (an : Option Addr) (cdv ct u v : Value) : bindArgs (PySem.W.fnOf w_way_into.name w_way_into.qual w_way_into.params w_way_into.body w_way_into.scope .none kV doc pm an cdv ct) ⟨[u, v], []⟩ = pure [(("kind" : Str), u), (("goals" : Str), v)] := by kernel_rfl
theorem bd_way_into : BindF w_way_into ["kind", "goals"] := ⟨rfl, .inl ⟨rfl, fun kV doc pm an cdv ct us hl => match us, hl with | [u, v], _ => b0_way_into kV doc pm an cdv ct u v⟩⟩
theorem sc_way_into : FnScope c_way_into.N ["kind", "goals"] w_way_into.scope := ⟨rfl, rfl, rfl, by decide +kernel, rfl, by decide +kernel, by decide +kernel⟩
theorem b0_led (kV doc pm : Value) (an : Option Addr) (cdv ct u v x : Value) : bindArgs (PySem.W.fnOf w_led.name w_led.qual w_led.params w_led.body w_led.scope .none kV doc pm an cdv ct) ⟨[u, v, x], []⟩ = pure [(("atom" : Str), u), (("goal" : Str), v), (("known" : Str), x)] := by kernel_rfl
theorem bd_led : BindF w_led ["atom", "goal", "known"] := ⟨rfl, .inl ⟨rfl, fun kV doc pm an cdv ct us hl => match us, hl with | [u, v, x], _ => b0_led kV doc pm an cdv ct u v x⟩⟩
theorem sc_led : FnScope c_led.N ["atom", "goal", "known"] w_led.scope := ⟨rfl, rfl, rfl, by decide +kernel, rfl, by decide +kernel, by decide +kernel⟩
theorem b0_stepped (kV doc pm : Value) (an : Option Addr) (cdv ct u v : Value) : bindArgs (PySem.W.fnOf w_stepped.name w_stepped.qual w_stepped.params w_stepped.body w_stepped.scope .none kV doc pm an cdv ct) ⟨[u, v], []⟩ = pure [(("rows" : Str), u), (("width" : Str), v)] := by kernel_rfl
theorem bd_stepped : BindF w_stepped ["rows", "width"] := ⟨rfl, .inl ⟨rfl, fun kV doc pm an cdv ct us hl => match us, hl with | [u, v], _ => b0_stepped kV doc pm an cdv ct u v⟩⟩
theorem sc_stepped : FnScope c_stepped.N ["rows", "width"] w_stepped.scope := ⟨rfl, rfl, rfl, by decide +kernel, rfl, by decide +kernel, by decide +kernel⟩
theorem b0_solved (kV doc pm : Value) (an : Option Addr) (cdv ct u v : Value) : bindArgs (PySem.W.fnOf w_solved.name w_solved.qual w_solved.params w_solved.body w_solved.scope .none kV doc pm an cdv ct) ⟨[u, v], []⟩ = pure [(("columns" : Str), u), (("wanted" : Str), v)] := by kernel_rfl
theorem bd_solved : BindF w_solved ["columns", "wanted"] := ⟨rfl, .inl ⟨rfl, fun kV doc pm an cdv ct us hl => match us, hl with | [u, v], _ => b0_solved kV doc pm an cdv ct u v⟩⟩
theorem sc_solved : FnScope c_solved.N ["columns", "wanted"] w_solved.scope := ⟨rfl, rfl, rfl, by decide +kernel, rfl, by decide +kernel, by decide +kernel⟩
theorem b0_check_patterns (kV doc pm : Value) (an : Option Addr) (cdv ct u : Value) : bindArgs (PySem.W.fnOf w_check_patterns.name w_check_patterns.qual w_check_patterns.params w_check_patterns.body w_check_patterns.scope .none kV doc pm an cdv ct) ⟨[u], []⟩ = pure [(("things" : Str), u)] := by kernel_rfl
theorem bd_check_patterns : BindF w_check_patterns ["things"] := ⟨rfl, .inl ⟨rfl, fun kV doc pm an cdv ct us hl => match us, hl with | [u], _ => b0_check_patterns kV doc pm an cdv ct u⟩⟩
theorem sc_check_patterns : FnScope c_check_patterns.N ["things"] w_check_patterns.scope := ⟨rfl, rfl, rfl, by decide +kernel, rfl, by decide +kernel, by decide +kernel⟩
theorem b0_pieces_once (kV doc pm : Value) (an : Option Addr) (cdv ct u : Value) : bindArgs (PySem.W.fnOf w_pieces_once.name w_pieces_once.qual w_pieces_once.params w_pieces_once.body w_pieces_once.scope .none kV doc pm an cdv ct) ⟨[u], []⟩ = pure [(("pattern" : Str), u)] := by kernel_rfl
theorem bd_pieces_once : BindF w_pieces_once ["pattern"] := ⟨rfl, .inl ⟨rfl, fun kV doc pm an cdv ct us hl => match us, hl with | [u], _ => b0_pieces_once kV doc pm an cdv ct u⟩⟩
theorem sc_pieces_once : FnScope c_pieces_once.N ["pattern"] w_pieces_once.scope := ⟨rfl, rfl, rfl, by decide +kernel, rfl, by decide +kernel, by decide +kernel⟩
theorem b0_helping (kV doc pm : Value) (an : Option Addr) (cdv ct u v : Value) : bindArgs (PySem.W.fnOf w_helping.name w_helping.qual w_helping.params w_helping.body w_helping.scope .none kV doc pm an cdv ct) ⟨[u, v], []⟩ = pure [(("known" : Str), u), (("wished" : Str), v)] := by kernel_rfl
theorem bd_helping : BindF w_helping ["known", "wished"] := ⟨rfl, .inl ⟨rfl, fun kV doc pm an cdv ct us hl => match us, hl with | [u, v], _ => b0_helping kV doc pm an cdv ct u v⟩⟩
theorem sc_helping : FnScope c_helping.N ["known", "wished"] w_helping.scope := ⟨rfl, rfl, rfl, by decide +kernel, rfl, by decide +kernel, by decide +kernel⟩
theorem b0_vector (kV doc pm : Value) (an : Option Addr) (cdv ct u v : Value) : bindArgs (PySem.W.fnOf w_vector.name w_vector.qual w_vector.params w_vector.body w_vector.scope .none kV doc pm an cdv ct) ⟨[u, v], []⟩ = pure [(("pattern" : Str), u), (("kinds" : Str), v)] := by kernel_rfl
theorem bd_vector : BindF w_vector ["pattern", "kinds"] := ⟨rfl, .inl ⟨rfl, fun kV doc pm an cdv ct us hl => match us, hl with | [u, v], _ => b0_vector kV doc pm an cdv ct u v⟩⟩
theorem sc_vector : FnScope c_vector.N ["pattern", "kinds"] w_vector.scope := ⟨rfl, rfl, rfl, by decide +kernel, rfl, by decide +kernel, by decide +kernel⟩
theorem b0_kinds_of (kV doc pm : Value) (an : Option Addr) (cdv ct u : Value) : bindArgs (PySem.W.fnOf w_kinds_of.name w_kinds_of.qual w_kinds_of.params w_kinds_of.body w_kinds_of.scope .none kV doc pm an cdv ct) ⟨[u], []⟩ = pure [(("patterns" : Str), u)] := by kernel_rfl
theorem bd_kinds_of : BindF w_kinds_of ["patterns"] := ⟨rfl, .inl ⟨rfl, fun kV doc pm an cdv ct us hl => match us, hl with | [u], _ => b0_kinds_of kV doc pm an cdv ct u⟩⟩
theorem sc_kinds_of : FnScope c_kinds_of.N ["patterns"] w_kinds_of.scope := ⟨rfl, rfl, rfl, by decide +kernel, rfl, by decide +kernel, by decide +kernel⟩
theorem b0_exponents (kV doc pm : Value) (an : Option Addr) (cdv ct u v : Value) : bindArgs (PySem.W.fnOf w_exponents.name w_exponents.qual w_exponents.params w_exponents.body w_exponents.scope .none kV doc pm an cdv ct) ⟨[u, v], []⟩ = pure [(("known" : Str), u), (("wished" : Str), v)] := by kernel_rfl
theorem bd_exponents : BindF w_exponents ["known", "wished"] := ⟨rfl, .inl ⟨rfl, fun kV doc pm an cdv ct us hl => match us, hl with | [u, v], _ => b0_exponents kV doc pm an cdv ct u v⟩⟩
theorem sc_exponents : FnScope c_exponents.N ["known", "wished"] w_exponents.scope := ⟨rfl, rfl, rfl, by decide +kernel, rfl, by decide +kernel, by decide +kernel⟩
theorem b0_helpers (kV doc pm : Value) (an : Option Addr) (cdv ct u v : Value) : bindArgs (PySem.W.fnOf w_helpers.name w_helpers.qual w_helpers.params w_helpers.body w_helpers.scope .none kV doc pm an cdv ct) ⟨[u, v], []⟩ = pure [(("known" : Str), u), (("wished" : Str), v)] := by kernel_rfl
theorem bd_helpers : BindF w_helpers ["known", "wished"] := ⟨rfl, .inl ⟨rfl, fun kV doc pm an cdv ct us hl => match us, hl with | [u, v], _ => b0_helpers kV doc pm an cdv ct u v⟩⟩
theorem sc_helpers : FnScope c_helpers.N ["known", "wished"] w_helpers.scope := ⟨rfl, rfl, rfl, by decide +kernel, rfl, by decide +kernel, by decide +kernel⟩
theorem b0_is_settled (kV doc pm : Value) (an : Option Addr) (cdv ct u v : Value) : bindArgs (PySem.W.fnOf w_is_settled.name w_is_settled.qual w_is_settled.params w_is_settled.body w_is_settled.scope .none kV doc pm an cdv ct) ⟨[u, v], []⟩ = pure [(("known" : Str), u), (("wished" : Str), v)] := by kernel_rfl
theorem bd_is_settled : BindF w_is_settled ["known", "wished"] := ⟨rfl, .inl ⟨rfl, fun kV doc pm an cdv ct us hl => match us, hl with | [u, v], _ => b0_is_settled kV doc pm an cdv ct u v⟩⟩
theorem sc_is_settled : FnScope c_is_settled.N ["known", "wished"] w_is_settled.scope := ⟨rfl, rfl, rfl, by decide +kernel, rfl, by decide +kernel, by decide +kernel⟩
theorem b0_paper (kV doc pm : Value) (an : Option Addr) (cdv ct u v : Value) : bindArgs (PySem.W.fnOf w_paper.name w_paper.qual w_paper.params w_paper.body w_paper.scope .none kV doc pm an cdv ct) ⟨[u, v], []⟩ = pure [(("known" : Str), u), (("wished" : Str), v)] := by kernel_rfl
theorem bd_paper : BindF w_paper ["known", "wished"] := ⟨rfl, .inl ⟨rfl, fun kV doc pm an cdv ct us hl => match us, hl with | [u, v], _ => b0_paper kV doc pm an cdv ct u v⟩⟩
theorem sc_paper : FnScope c_paper.N ["known", "wished"] w_paper.scope := ⟨rfl, rfl, rfl, by decide +kernel, rfl, by decide +kernel, by decide +kernel⟩
theorem b0_is_paper (kV doc pm : Value) (an : Option Addr) (cdv ct u v x : Value) : bindArgs (PySem.W.fnOf w_is_paper.name w_is_paper.qual w_is_paper.params w_is_paper.body w_is_paper.scope .none kV doc pm an cdv ct) ⟨[u, v, x], []⟩ = pure [(("known" : Str), u), (("wished" : Str), v), (("thing" : Str), x)] := by kernel_rfl
theorem bd_is_paper : BindF w_is_paper ["known", "wished", "thing"] := ⟨rfl, .inl ⟨rfl, fun kV doc pm an cdv ct us hl => match us, hl with | [u, v, x], _ => b0_is_paper kV doc pm an cdv ct u v x⟩⟩
theorem sc_is_paper : FnScope c_is_paper.N ["known", "wished", "thing"] w_is_paper.scope := ⟨rfl, rfl, rfl, by decide +kernel, rfl, by decide +kernel, by decide +kernel⟩
theorem b0_apart (kV doc pm : Value) (an : Option Addr) (cdv ct u v : Value) : bindArgs (PySem.W.fnOf w_apart.name w_apart.qual w_apart.params w_apart.body w_apart.scope .none kV doc pm an cdv ct) ⟨[u, v], []⟩ = pure [(("known" : Str), u), (("wished" : Str), v)] := by kernel_rfl
theorem bd_apart : BindF w_apart ["known", "wished"] := ⟨rfl, .inl ⟨rfl, fun kV doc pm an cdv ct us hl => match us, hl with | [u, v], _ => b0_apart kV doc pm an cdv ct u v⟩⟩
theorem sc_apart : FnScope c_apart.N ["known", "wished"] w_apart.scope := ⟨rfl, rfl, rfl, by decide +kernel, rfl, by decide +kernel, by decide +kernel⟩
theorem b0_is_apart (kV doc pm : Value) (an : Option Addr) (cdv ct u v x : Value) : bindArgs (PySem.W.fnOf w_is_apart.name w_is_apart.qual w_is_apart.params w_is_apart.body w_is_apart.scope .none kV doc pm an cdv ct) ⟨[u, v, x], []⟩ = pure [(("known" : Str), u), (("wished" : Str), v), (("thing" : Str), x)] := by kernel_rfl
theorem bd_is_apart : BindF w_is_apart ["known", "wished", "thing"] := ⟨rfl, .inl ⟨rfl, fun kV doc pm an cdv ct us hl => match us, hl with | [u, v, x], _ => b0_is_apart kV doc pm an cdv ct u v x⟩⟩
theorem sc_is_apart : FnScope c_is_apart.N ["known", "wished", "thing"] w_is_apart.scope := ⟨rfl, rfl, rfl, by decide +kernel, rfl, by decide +kernel, by decide +kernel⟩
theorem b0_check_counts (kV doc pm : Value) (an : Option Addr) (cdv ct u v : Value) : bindArgs (PySem.W.fnOf w_check_counts.name w_check_counts.qual w_check_counts.params w_check_counts.body w_check_counts.scope .none kV doc pm an cdv ct) ⟨[u, v], []⟩ = pure [(("known" : Str), u), (("counts" : Str), v)] := by kernel_rfl
theorem bd_check_counts : BindF w_check_counts ["known", "counts"] := ⟨rfl, .inl ⟨rfl, fun kV doc pm an cdv ct us hl => match us, hl with | [u, v], _ => b0_check_counts kV doc pm an cdv ct u v⟩⟩
theorem sc_check_counts : FnScope c_check_counts.N ["known", "counts"] w_check_counts.scope := ⟨rfl, rfl, rfl, by decide +kernel, rfl, by decide +kernel, by decide +kernel⟩
theorem b0_tell (kV doc pm : Value) (an : Option Addr) (cdv ct u v x : Value) : bindArgs (PySem.W.fnOf w_tell.name w_tell.qual w_tell.params w_tell.body w_tell.scope .none kV doc pm an cdv ct) ⟨[u, v, x], []⟩ = pure [(("known" : Str), u), (("wished" : Str), v), (("counts" : Str), x)] := by kernel_rfl
theorem bd_tell : BindF w_tell ["known", "wished", "counts"] := ⟨rfl, .inl ⟨rfl, fun kV doc pm an cdv ct us hl => match us, hl with | [u, v, x], _ => b0_tell kV doc pm an cdv ct u v x⟩⟩
theorem sc_tell : FnScope c_tell.N ["known", "wished", "counts"] w_tell.scope := ⟨rfl, rfl, rfl, by decide +kernel, rfl, by decide +kernel, by decide +kernel⟩
theorem b0_all_settled (kV doc pm : Value) (an : Option Addr) (cdv ct u v : Value) : bindArgs (PySem.W.fnOf w_all_settled.name w_all_settled.qual w_all_settled.params w_all_settled.body w_all_settled.scope .none kV doc pm an cdv ct) ⟨[u, v], []⟩ = pure [(("known" : Str), u), (("wishes" : Str), v)] := by kernel_rfl
theorem bd_all_settled : BindF w_all_settled ["known", "wishes"] := ⟨rfl, .inl ⟨rfl, fun kV doc pm an cdv ct us hl => match us, hl with | [u, v], _ => b0_all_settled kV doc pm an cdv ct u v⟩⟩
theorem sc_all_settled : FnScope c_all_settled.N ["known", "wishes"] w_all_settled.scope := ⟨rfl, rfl, rfl, by decide +kernel, rfl, by decide +kernel, by decide +kernel⟩
theorem b0_needless (kV doc pm : Value) (an : Option Addr) (cdv ct u : Value) : bindArgs (PySem.W.fnOf w_needless.name w_needless.qual w_needless.params w_needless.body w_needless.scope .none kV doc pm an cdv ct) ⟨[u], []⟩ = pure [(("known" : Str), u)] := by kernel_rfl
theorem bd_needless : BindF w_needless ["known"] := ⟨rfl, .inl ⟨rfl, fun kV doc pm an cdv ct us hl => match us, hl with | [u], _ => b0_needless kV doc pm an cdv ct u⟩⟩
theorem sc_needless : FnScope c_needless.N ["known"] w_needless.scope := ⟨rfl, rfl, rfl, by decide +kernel, rfl, by decide +kernel, by decide +kernel⟩
theorem b0_least_more (kV doc pm : Value) (an : Option Addr) (cdv ct u v x : Value) : bindArgs (PySem.W.fnOf w_least_more.name w_least_more.qual w_least_more.params w_least_more.body w_least_more.scope .none kV doc pm an cdv ct) ⟨[u, v, x], []⟩ = pure [(("known" : Str), u), (("wishes" : Str), v), (("offers" : Str), x)] := by kernel_rfl
theorem bd_least_more : BindF w_least_more ["known", "wishes", "offers"] := ⟨rfl, .inl ⟨rfl, fun kV doc pm an cdv ct us hl => match us, hl with | [u, v, x], _ => b0_least_more kV doc pm an cdv ct u v x⟩⟩
theorem sc_least_more : FnScope c_least_more.N ["known", "wishes", "offers"] w_least_more.scope := ⟨rfl, rfl, rfl, by decide +kernel, rfl, by decide +kernel, by decide +kernel⟩
theorem b0_always (kV doc pm : Value) (an : Option Addr) (cdv ct u v : Value) : bindArgs (PySem.W.fnOf w_always.name w_always.qual w_always.params w_always.body w_always.scope .none kV doc pm an cdv ct) ⟨[u, v], []⟩ = pure [(("one" : Str), u), (("other" : Str), v)] := by kernel_rfl
theorem bd_always : BindF w_always ["one", "other"] := ⟨rfl, .inl ⟨rfl, fun kV doc pm an cdv ct us hl => match us, hl with | [u, v], _ => b0_always kV doc pm an cdv ct u v⟩⟩
theorem sc_always : FnScope c_always.N ["one", "other"] w_always.scope := ⟨rfl, rfl, rfl, by decide +kernel, rfl, by decide +kernel, by decide +kernel⟩
theorem b0_always_paper (kV doc pm : Value) (an : Option Addr) (cdv ct u v : Value) : bindArgs (PySem.W.fnOf w_always_paper.name w_always_paper.qual w_always_paper.params w_always_paper.body w_always_paper.scope .none kV doc pm an cdv ct) ⟨[u, v], []⟩ = pure [(("one" : Str), u), (("other" : Str), v)] := by kernel_rfl
theorem bd_always_paper : BindF w_always_paper ["one", "other"] := ⟨rfl, .inl ⟨rfl, fun kV doc pm an cdv ct us hl => match us, hl with | [u, v], _ => b0_always_paper kV doc pm an cdv ct u v⟩⟩
theorem sc_always_paper : FnScope c_always_paper.N ["one", "other"] w_always_paper.scope := ⟨rfl, rfl, rfl, by decide +kernel, rfl, by decide +kernel, by decide +kernel⟩
theorem b0__law_take (kV doc pm : Value) (an : Option Addr) (cdv ct u v : Value) : bindArgs (PySem.W.fnOf w__law_take.name w__law_take.qual w__law_take.params w__law_take.body w__law_take.scope .none kV doc pm an cdv ct) ⟨[u, v], []⟩ = pure [(("_law_spring_here" : Str), u), (("_law_many" : Str), v)] := by kernel_rfl
theorem bd__law_take : BindF w__law_take ["_law_spring_here", "_law_many"] := ⟨rfl, .inl ⟨rfl, fun kV doc pm an cdv ct us hl => match us, hl with | [u, v], _ => b0__law_take kV doc pm an cdv ct u v⟩⟩
theorem b0__law_one (kV doc pm : Value) (an : Option Addr) (cdv ct u v : Value) : bindArgs (PySem.W.fnOf w__law_one.name w__law_one.qual w__law_one.params w__law_one.body w__law_one.scope .none kV doc pm an cdv ct) ⟨[u, v], []⟩ = pure [(("_law_spring_here" : Str), u), (("_law_things" : Str), v)] := by kernel_rfl
theorem bd__law_one : BindF w__law_one ["_law_spring_here", "_law_things"] := ⟨rfl, .inl ⟨rfl, fun kV doc pm an cdv ct us hl => match us, hl with | [u, v], _ => b0__law_one kV doc pm an cdv ct u v⟩⟩
theorem sc__law_one : FnScope c__law_one.N ["_law_spring_here", "_law_things"] w__law_one.scope := ⟨rfl, rfl, rfl, by decide +kernel, rfl, by decide +kernel, by decide +kernel⟩
theorem b0__law_few (kV doc pm : Value) (an : Option Addr) (cdv ct u v : Value) : bindArgs (PySem.W.fnOf w__law_few.name w__law_few.qual w__law_few.params w__law_few.body w__law_few.scope .none kV doc pm an cdv ct) ⟨[u, v], []⟩ = pure [(("_law_spring_here" : Str), u), (("_law_things" : Str), v)] := by kernel_rfl
theorem bd__law_few : BindF w__law_few ["_law_spring_here", "_law_things"] := ⟨rfl, .inl ⟨rfl, fun kV doc pm an cdv ct us hl => match us, hl with | [u, v], _ => b0__law_few kV doc pm an cdv ct u v⟩⟩
theorem sc__law_few : FnScope c__law_few.N ["_law_spring_here", "_law_things"] w__law_few.scope := ⟨rfl, rfl, rfl, by decide +kernel, rfl, by decide +kernel, by decide +kernel⟩
theorem b0__law_same (kV doc pm : Value) (an : Option Addr) (cdv ct u v : Value) : bindArgs (PySem.W.fnOf w__law_same.name w__law_same.qual w__law_same.params w__law_same.body w__law_same.scope .none kV doc pm an cdv ct) ⟨[u, v], []⟩ = pure [(("_law_found" : Str), u), (("_law_due" : Str), v)] := by kernel_rfl
theorem bd__law_same : BindF w__law_same ["_law_found", "_law_due"] := ⟨rfl, .inl ⟨rfl, fun kV doc pm an cdv ct us hl => match us, hl with | [u, v], _ => b0__law_same kV doc pm an cdv ct u v⟩⟩
theorem sc__law_same : FnScope c__law_same.N ["_law_found", "_law_due"] w__law_same.scope := ⟨rfl, rfl, rfl, by decide +kernel, rfl, by decide +kernel, by decide +kernel⟩
theorem b0__law_wished (kV doc pm : Value) (an : Option Addr) (cdv ct u v : Value) : bindArgs (PySem.W.fnOf w__law_wished.name w__law_wished.qual w__law_wished.params w__law_wished.body w__law_wished.scope .none kV doc pm an cdv ct) ⟨[u, v], []⟩ = pure [(("_law_known" : Str), u), (("_law_wished_here" : Str), v)] := by kernel_rfl
theorem bd__law_wished : BindF w__law_wished ["_law_known", "_law_wished_here"] := ⟨rfl, .inl ⟨rfl, fun kV doc pm an cdv ct us hl => match us, hl with | [u, v], _ => b0__law_wished kV doc pm an cdv ct u v⟩⟩
theorem sc__law_wished : FnScope c__law_wished.N ["_law_known", "_law_wished_here"] w__law_wished.scope := ⟨rfl, rfl, rfl, by decide +kernel, rfl, by decide +kernel, by decide +kernel⟩
theorem b0__law_lists (kV doc pm : Value) (an : Option Addr) (cdv ct u v x : Value) : bindArgs (PySem.W.fnOf w__law_lists.name w__law_lists.qual w__law_lists.params w__law_lists.body w__law_lists.scope .none kV doc pm an cdv ct) ⟨[u, v, x], []⟩ = pure [(("_law_right" : Str), u), (("_law_odd" : Str), v), (("_law_worse" : Str), x)] := by kernel_rfl
theorem bd__law_lists : BindF w__law_lists ["_law_right", "_law_odd", "_law_worse"] := ⟨rfl, .inl ⟨rfl, fun kV doc pm an cdv ct us hl => match us, hl with | [u, v, x], _ => b0__law_lists kV doc pm an cdv ct u v x⟩⟩
theorem sc__law_lists : FnScope c__law_lists.N ["_law_right", "_law_odd", "_law_worse"] w__law_lists.scope := ⟨rfl, rfl, rfl, by decide +kernel, rfl, by decide +kernel, by decide +kernel⟩
theorem bd_Pattern_init : BindF w_Pattern_init ["self", "atoms"] := ⟨rfl, .inr ⟨by decide, fun T kV doc pm an cdv ct us its hl hi => match us, its, hl, hi with | [u, v], [d0], _, _ => ⟨_, rfl, rfl⟩⟩⟩
theorem sc_Pattern_init : FnScope c_Pattern_init.N ["self", "atoms"] w_Pattern_init.scope := ⟨rfl, rfl, rfl, by decide +kernel, rfl, by decide +kernel, by decide +kernel⟩
theorem b0_Pattern_add (kV doc pm : Value) (an : Option Addr) (cdv ct u v : Value) : bindArgs (PySem.W.fnOf w_Pattern_add.name w_Pattern_add.qual w_Pattern_add.params w_Pattern_add.body w_Pattern_add.scope .none kV doc pm an cdv ct) ⟨[u, v], []⟩ = pure [(("self" : Str), u), (("other" : Str), v)] := by kernel_rfl
theorem bd_Pattern_add : BindF w_Pattern_add ["self", "other"] := ⟨rfl, .inl ⟨rfl, fun kV doc pm an cdv ct us hl => match us, hl with | [u, v], _ => b0_Pattern_add kV doc pm an cdv ct u v⟩⟩
theorem sc_Pattern_add : FnScope c_Pattern_add.N ["self", "other"] w_Pattern_add.scope := ⟨rfl, rfl, rfl, by decide +kernel, rfl, by decide +kernel, by decide +kernel⟩
theorem b0_law (kV doc pm : Value) (an : Option Addr) (cdv ct u : Value) : bindArgs (PySem.W.fnOf w_law.name w_law.qual w_law.params w_law.body w_law.scope .none kV doc pm an cdv ct) ⟨[u], []⟩ = pure [(("_law_script" : Str), u)] := by kernel_rfl
theorem bd_law : BindF w_law ["_law_script"] := ⟨rfl, .inl ⟨rfl, fun kV doc pm an cdv ct us hl => match us, hl with | [u], _ => b0_law kV doc pm an cdv ct u⟩⟩
theorem sc_law : FnScope c_law.N ["_law_script"] w_law.scope := ⟨rfl, rfl, rfl, by decide +kernel, rfl, by decide +kernel, by decide +kernel⟩
theorem b0__law_spring (kV doc pm : Value) (an : Option Addr) (cdv ct u : Value) : bindArgs (PySem.W.fnOf w__law_spring.name w__law_spring.qual w__law_spring.params w__law_spring.body w__law_spring.scope .none kV doc pm an cdv ct) ⟨[u], []⟩ = pure [(("_law_script" : Str), u)] := by kernel_rfl
theorem bd__law_spring : BindF w__law_spring ["_law_script"] := ⟨rfl, .inl ⟨rfl, fun kV doc pm an cdv ct us hl => match us, hl with | [u], _ => b0__law_spring kV doc pm an cdv ct u⟩⟩
theorem b0__law_tried (kV doc pm : Value) (an : Option Addr) (cdv ct u : Value) : bindArgs (PySem.W.fnOf w__law_tried.name w__law_tried.qual w__law_tried.params w__law_tried.body w__law_tried.scope .none kV doc pm an cdv ct) ⟨[u], []⟩ = pure [(("_law_ask" : Str), u)] := by kernel_rfl
theorem bd__law_tried : BindF w__law_tried ["_law_ask"] := ⟨rfl, .inl ⟨rfl, fun kV doc pm an cdv ct us hl => match us, hl with | [u], _ => b0__law_tried kV doc pm an cdv ct u⟩⟩
theorem sc__law_tried : FnScope c__law_tried.N ["_law_ask"] w__law_tried.scope := ⟨rfl, rfl, rfl, by decide +kernel, rfl, by decide +kernel, by decide +kernel⟩
theorem rw_is_integer : RowF LW (getQ tabT) .z w_is_integer := ⟨c_is_integer.N, ["thing"], d_is_integer, none, rfl, rfl, sc_is_integer, sf_is_integer, bd_is_integer, fun q e => nomatch e⟩
theorem rw_is_size : RowF LW (getQ tabT) (.s .z) w_is_size := ⟨c_is_size.N, ["thing"], d_is_size, none, rfl, rfl, sc_is_size, sf_is_size, bd_is_size, fun q e => nomatch e⟩
theorem rw_is_list : RowF LW (getQ tabT) (.t .z) w_is_list := ⟨c_is_list.N, ["thing"], d_is_list, none, rfl, rfl, sc_is_list, sf_is_list, bd_is_list, fun q e => nomatch e⟩
theorem rw_is_name : RowF LW (getQ tabT) (.s (.s .z)) w_is_name := ⟨c_is_name.N, ["thing"], d_is_name, none, rfl, rfl, sc_is_name, sf_is_name, bd_is_name, fun q e => nomatch e⟩
theorem rw_is_led : RowF LW (getQ tabT) (.t (.s .z)) w_is_led := ⟨c_is_led.N, ["thing"], d_is_led, none, rfl, rfl, sc_is_led, sf_is_led, bd_is_led, fun q e => nomatch e⟩
theorem rw_once : RowF LW (getQ tabT) (.s (.t .z)) w_once := ⟨c_once.N, ["things"], d_once, none, rfl, rfl, sc_once, sf_once, bd_once, fun q e => nomatch e⟩
theorem rw_checked_atoms : RowF LW (getQ tabT) (.t (.t .z)) w_checked_atoms := ⟨c_checked_atoms.N, ["atoms"], d_checked_atoms, none, rfl, rfl, sc_checked_atoms, sf_checked_atoms, bd_checked_atoms, fun q e => nomatch e⟩
theorem rw_split : RowF LW (getQ tabT) (.s (.s (.s .z))) w_split := ⟨c_split.N, ["atoms"], d_split, none, rfl, rfl, sc_split, sf_split, bd_split, fun q e => nomatch e⟩
theorem rw_touches : RowF LW (getQ tabT) (.t (.s (.s .z))) w_touches := ⟨c_touches.N, ["atoms", "other"], d_touches, none, rfl, rfl, sc_touches, sf_touches, bd_touches, fun q e => nomatch e⟩
theorem rw_orders : RowF LW (getQ tabT) (.s (.t (.s .z))) w_orders := ⟨c_orders.N, ["things"], d_orders, none, rfl, rfl, sc_orders, sf_orders, bd_orders, fun q e => nomatch e⟩
theorem rw_numbered : RowF LW (getQ tabT) (.t (.t (.s .z))) w_numbered := ⟨c_numbered.N, ["atoms", "names"], d_numbered, none, rfl, rfl, sc_numbered, sf_numbered, bd_numbered, fun q e => nomatch e⟩
theorem rw_kind_of : RowF LW (getQ tabT) (.s (.s (.t .z))) w_kind_of := ⟨c_kind_of.N, ["atoms"], d_kind_of, none, rfl, rfl, sc_kind_of, sf_kind_of, bd_kind_of, fun q e => nomatch e⟩
theorem rw_width_of : RowF LW (getQ tabT) (.t (.s (.t .z))) w_width_of := ⟨c_width_of.N, ["kind"], d_width_of, none, rfl, rfl, sc_width_of, sf_width_of, bd_width_of, fun q e => nomatch e⟩
theorem rw_ordered_kinds : RowF LW (getQ tabT) (.s (.t (.t .z))) w_ordered_kinds := ⟨c_ordered_kinds.N, ["kinds"], d_ordered_kinds, none, rfl, rfl, sc_ordered_kinds, sf_ordered_kinds, bd_ordered_kinds, fun q e => nomatch e⟩
theorem rw_laid_out : RowF LW (getQ tabT) (.t (.t (.t .z))) w_laid_out := ⟨c_laid_out.N, ["kinds"], d_laid_out, none, rfl, rfl, sc_laid_out, sf_laid_out, bd_laid_out, fun q e => nomatch e⟩
theorem rw_named : RowF LW (getQ tabT) (.s (.s (.s (.s .z)))) w_named := ⟨c_named.N, ["atoms"], d_named, none, rfl, rfl, sc_named, sf_named, bd_named, fun q e => nomatch e⟩
theorem rw_map_into : RowF LW (getQ tabT) (.t (.s (.s (.s .z)))) w_map_into := ⟨c_map_into.N, ["one", "other"], d_map_into, none, rfl, rfl, sc_map_into, sf_map_into, bd_map_into, fun q e => nomatch e⟩
theorem rw_way_into : RowF LW (getQ tabT) (.s (.t (.s (.s .z)))) w_way_into := ⟨c_way_into.N, ["kind", "goals"], d_way_into, none, rfl, rfl, sc_way_into, sf_way_into, bd_way_into, fun q e => nomatch e⟩
theorem rw_led : RowF LW (getQ tabT) (.t (.t (.s (.s .z)))) w_led := ⟨c_led.N, ["atom", "goal", "known"], d_led, none, rfl, rfl, sc_led, sf_led, bd_led, fun q e => nomatch e⟩
theorem rw_stepped : RowF LW (getQ tabT) (.s (.s (.t (.s .z)))) w_stepped := ⟨c_stepped.N, ["rows", "width"], d_stepped, none, rfl, rfl, sc_stepped, sf_stepped, bd_stepped, fun q e => nomatch e⟩
theorem rw_solved : RowF LW (getQ tabT) (.t (.s (.t (.s .z)))) w_solved := ⟨c_solved.N, ["columns", "wanted"], d_solved, none, rfl, rfl, sc_solved, sf_solved, bd_solved, fun q e => nomatch e⟩
theorem rw_check_patterns : RowF LW (getQ tabT) (.s (.t (.t (.s .z)))) w_check_patterns := ⟨c_check_patterns.N, ["things"], d_check_patterns, none, rfl, rfl, sc_check_patterns, sf_check_patterns, bd_check_patterns, fun q e => nomatch e⟩
theorem rw_pieces_once : RowF LW (getQ tabT) (.t (.t (.t (.s .z)))) w_pieces_once := ⟨c_pieces_once.N, ["pattern"], d_pieces_once, none, rfl, rfl, sc_pieces_once, sf_pieces_once, bd_pieces_once, fun q e => nomatch e⟩
theorem rw_helping : RowF LW (getQ tabT) (.s (.s (.s (.t .z)))) w_helping := ⟨c_helping.N, ["known", "wished"], d_helping, none, rfl, rfl, sc_helping, sf_helping, bd_helping, fun q e => nomatch e⟩
theorem rw_vector : RowF LW (getQ tabT) (.t (.s (.s (.t .z)))) w_vector := ⟨c_vector.N, ["pattern", "kinds"], d_vector, none, rfl, rfl, sc_vector, sf_vector, bd_vector, fun q e => nomatch e⟩
theorem rw_kinds_of : RowF LW (getQ tabT) (.s (.t (.s (.t .z)))) w_kinds_of := ⟨c_kinds_of.N, ["patterns"], d_kinds_of, none, rfl, rfl, sc_kinds_of, sf_kinds_of, bd_kinds_of, fun q e => nomatch e⟩
theorem rw_exponents : RowF LW (getQ tabT) (.t (.t (.s (.t .z)))) w_exponents := ⟨c_exponents.N, ["known", "wished"], d_exponents, none, rfl, rfl, sc_exponents, sf_exponents, bd_exponents, fun q e => nomatch e⟩
theorem rw_helpers : RowF LW (getQ tabT) (.s (.s (.t (.t .z)))) w_helpers := ⟨c_helpers.N, ["known", "wished"], d_helpers, none, rfl, rfl, sc_helpers, sf_helpers, bd_helpers, fun q e => nomatch e⟩
theorem rw_is_settled : RowF LW (getQ tabT) (.t (.s (.t (.t .z)))) w_is_settled := ⟨c_is_settled.N, ["known", "wished"], d_is_settled, none, rfl, rfl, sc_is_settled, sf_is_settled, bd_is_settled, fun q e => nomatch e⟩
theorem rw_paper : RowF LW (getQ tabT) (.s (.t (.t (.t .z)))) w_paper := ⟨c_paper.N, ["known", "wished"], d_paper, none, rfl, rfl, sc_paper, sf_paper, bd_paper, fun q e => nomatch e⟩
theorem rw_is_paper : RowF LW (getQ tabT) (.t (.t (.t (.t .z)))) w_is_paper := ⟨c_is_paper.N, ["known", "wished", "thing"], d_is_paper, none, rfl, rfl, sc_is_paper, sf_is_paper, bd_is_paper, fun q e => nomatch e⟩
theorem rw_apart : RowF LW (getQ tabT) (.s (.s (.s (.s (.s .z))))) w_apart := ⟨c_apart.N, ["known", "wished"], d_apart, none, rfl, rfl, sc_apart, sf_apart, bd_apart, fun q e => nomatch e⟩
theorem rw_is_apart : RowF LW (getQ tabT) (.t (.s (.s (.s (.s .z))))) w_is_apart := ⟨c_is_apart.N, ["known", "wished", "thing"], d_is_apart, none, rfl, rfl, sc_is_apart, sf_is_apart, bd_is_apart, fun q e => nomatch e⟩
theorem rw_check_counts : RowF LW (getQ tabT) (.s (.t (.s (.s (.s .z))))) w_check_counts := ⟨c_check_counts.N, ["known", "counts"], d_check_counts, none, rfl, rfl, sc_check_counts, sf_check_counts, bd_check_counts, fun q e => nomatch e⟩
theorem rw_tell : RowF LW (getQ tabT) (.t (.t (.s (.s (.s .z))))) w_tell := ⟨c_tell.N, ["known", "wished", "counts"], d_tell, none, rfl, rfl, sc_tell, sf_tell, bd_tell, fun q e => nomatch e⟩
theorem rw_all_settled : RowF LW (getQ tabT) (.s (.s (.t (.s (.s .z))))) w_all_settled := ⟨c_all_settled.N, ["known", "wishes"], d_all_settled, none, rfl, rfl, sc_all_settled, sf_all_settled, bd_all_settled, fun q e => nomatch e⟩
theorem rw_needless : RowF LW (getQ tabT) (.t (.s (.t (.s (.s .z))))) w_needless := ⟨c_needless.N, ["known"], d_needless, none, rfl, rfl, sc_needless, sf_needless, bd_needless, fun q e => nomatch e⟩
theorem rw_least_more : RowF LW (getQ tabT) (.s (.t (.t (.s (.s .z))))) w_least_more := ⟨c_least_more.N, ["known", "wishes", "offers"], d_least_more, none, rfl, rfl, sc_least_more, sf_least_more, bd_least_more, fun q e => nomatch e⟩
theorem rw_always : RowF LW (getQ tabT) (.t (.t (.t (.s (.s .z))))) w_always := ⟨c_always.N, ["one", "other"], d_always, none, rfl, rfl, sc_always, sf_always, bd_always, fun q e => nomatch e⟩
theorem rw_always_paper : RowF LW (getQ tabT) (.s (.s (.s (.t (.s .z))))) w_always_paper := ⟨c_always_paper.N, ["one", "other"], d_always_paper, none, rfl, rfl, sc_always_paper, sf_always_paper, bd_always_paper, fun q e => nomatch e⟩
theorem rw__law_one : RowF LW (getQ tabT) (.s (.t (.s (.t (.s .z))))) w__law_one := ⟨c__law_one.N, ["_law_spring_here", "_law_things"], d__law_one, none, rfl, rfl, sc__law_one, sf__law_one, bd__law_one, fun q e => nomatch e⟩
theorem rw__law_few : RowF LW (getQ tabT) (.t (.t (.s (.t (.s .z))))) w__law_few := ⟨c__law_few.N, ["_law_spring_here", "_law_things"], d__law_few, none, rfl, rfl, sc__law_few, sf__law_few, bd__law_few, fun q e => nomatch e⟩
theorem rw__law_same : RowF LW (getQ tabT) (.s (.s (.t (.t (.s .z))))) w__law_same := ⟨c__law_same.N, ["_law_found", "_law_due"], d__law_same, none, rfl, rfl, sc__law_same, sf__law_same, bd__law_same, fun q e => nomatch e⟩
theorem rw__law_wished : RowF LW (getQ tabT) (.t (.s (.t (.t (.s .z))))) w__law_wished := ⟨c__law_wished.N, ["_law_known", "_law_wished_here"], d__law_wished, some "_law_wished.<locals>.", rfl, rfl, sc__law_wished, sf__law_wished, bd__law_wished, fun q e => by cases e; exact ⟨by decide +kernel, by decide +kernel, rfl⟩⟩
theorem rw__law_lists : RowF LW (getQ tabT) (.s (.t (.t (.t (.s .z))))) w__law_lists := ⟨c__law_lists.N, ["_law_right", "_law_odd", "_law_worse"], d__law_lists, some "_law_lists.<locals>.", rfl, rfl, sc__law_lists, sf__law_lists, bd__law_lists, fun q e => by cases e; exact ⟨by decide +kernel, by decide +kernel, rfl⟩⟩
theorem rw_Pattern_init : RowF LW (getQ tabT) (.t (.t (.t (.t (.s .z))))) w_Pattern_init := ⟨c_Pattern_init.N, ["self", "atoms"], d_Pattern_init, none, rfl, rfl, sc_Pattern_init, sf_Pattern_init, bd_Pattern_init, fun q e => nomatch e⟩
theorem rw_Pattern_add : RowF LW (getQ tabT) (.s (.s (.s (.s (.t .z))))) w_Pattern_add := ⟨c_Pattern_add.N, ["self", "other"], d_Pattern_add, none, rfl, rfl, sc_Pattern_add, sf_Pattern_add, bd_Pattern_add, fun q e => nomatch e⟩
end K28
set_option Elab.async false
set_option linter.all false
set_option maxRecDepth 100000
set_option maxHeartbeats 0
namespace K28
open PySem PySem.W PySem.Calls PyProof.Rows DV
abbrev R : OpenRow := OpenLaw.row PySem.Challenge.rw_tallytold_k28_patterns_refused_among_kno
abbrev qv : Program := view R.prog [116]
def names : List PySem.Str := [("_wall" : PySem.Str), ("TallyError" : PySem.Str), ("BadAtom" : PySem.Str), ("BadCount" : PySem.Str), ("BadSize" : PySem.Str), ("BadRow" : PySem.Str), ("BadMany" : PySem.Str), ("TooGreat" : PySem.Str), ("BadPower" : PySem.Str), ("BadPattern" : PySem.Str), ("Unsettled" : PySem.Str), ("BadCounts" : PySem.Str), ("Misfit" : PySem.Str), ("BadOffer" : PySem.Str), ("SIGNS" : PySem.Str), ("FIGURES" : PySem.Str), ("MOST_PLACES" : PySem.Str), ("is_integer" : PySem.Str), ("is_size" : PySem.Str), ("is_list" : PySem.Str), ("is_name" : PySem.Str), ("is_led" : PySem.Str), ("once" : PySem.Str), ("parts_of" : PySem.Str), ("raised" : PySem.Str), ("checked_atoms" : PySem.Str), ("split" : PySem.Str), ("touches" : PySem.Str), ("orders" : PySem.Str), ("numbered" : PySem.Str), ("kind_of" : PySem.Str), ("width_of" : PySem.Str), ("ordered_kinds" : PySem.Str), ("laid_out" : PySem.Str), ("named" : PySem.Str), ("Pattern" : PySem.Str), ("map_into" : PySem.Str), ("way_into" : PySem.Str), ("led" : PySem.Str), ("MOST_LAID" : PySem.Str), ("is_row" : PySem.Str), ("checked_row" : PySem.Str), ("check_laid" : PySem.Str), ("shifted" : PySem.Str), ("paired" : PySem.Str), ("Store" : PySem.Str), ("size_of" : PySem.Str), ("laid_of" : PySem.Str), ("tree_of" : PySem.Str), ("Heap" : PySem.Str), ("fitted" : PySem.Str), ("linked" : PySem.Str), ("laid_count" : PySem.Str), ("kind_count" : PySem.Str), ("count" : PySem.Str), ("ZERO" : PySem.Str), ("ONE" : PySem.Str), ("divisor" : PySem.Str), ("lowest" : PySem.Str), ("plus" : PySem.Str), ("minus" : PySem.Str), ("times" : PySem.Str), ("over" : PySem.Str), ("powered" : PySem.Str), ("inner" : PySem.Str), ("fraction_of" : PySem.Str), ("common_bottom" : PySem.Str), ("stepped" : PySem.Str), ("rank_of" : PySem.Str), ("solved" : PySem.Str), ("vanishing" : PySem.Str), ("check_patterns" : PySem.Str), ("pieces_once" : PySem.Str), ("helping" : PySem.Str), ("vector" : PySem.Str), ("kinds_of" : PySem.Str), ("exponents" : PySem.Str), ("helpers" : PySem.Str), ("is_settled" : PySem.Str), ("paper" : PySem.Str), ("is_paper" : PySem.Str), ("weighed" : PySem.Str), ("stepped_on" : PySem.Str), ("first_store" : PySem.Str), ("bases" : PySem.Str), ("heap_of" : PySem.Str), ("apart" : PySem.Str), ("is_apart" : PySem.Str), ("check_counts" : PySem.Str), ("powers_of" : PySem.Str), ("whole_powers" : PySem.Str), ("root_of" : PySem.Str), ("tell" : PySem.Str), ("all_settled" : PySem.Str), ("needless" : PySem.Str), ("is_offer" : PySem.Str), ("least_more" : PySem.Str), ("always" : PySem.Str), ("always_paper" : PySem.Str), ("_law_spring" : PySem.Str), ("_law_take" : PySem.Str), ("_law_one" : PySem.Str), ("_law_few" : PySem.Str), ("_law_same" : PySem.Str), ("_law_tried" : PySem.Str), ("_law_wished" : PySem.Str), ("_law_lists" : PySem.Str), ("__name__" : PySem.Str)]
theorem run (w : World) : HandSHeadRun.RunEq R qv (hkL LW) (obL LW) 12000 names w := by
  intro os
  kernel_rfl
end K28
set_option Elab.async false
set_option linter.all false
set_option maxRecDepth 100000
set_option maxHeartbeats 4000000
namespace K28
open PySem PySem.Spec PyProof.Rows L2 ER EV DV
def sTake : Stmt := P.main.body.getD 109 (.Pass ⟨0, 0, 0, 0⟩)
def nTake : List Str := ["_law_spring_here", "_law_many", "_law_figure", "_law_cell", "_law_first", "_law_second"]
theorem scTake : FnScope nTake ["_law_spring_here", "_law_many"] (defScope sTake) := ⟨rfl, rfl, rfl, by decide +kernel, rfl, by decide +kernel, by decide +kernel⟩
section
variable {K : PySem.W.Frag} {σ : L2.St} {H : Hp} {Q : VK}
theorem ixr {a : Addr} {xs : List V} {n : Int} {v : V} (h0 : σ[0]? = some (some (.ref a))) (ha : H a = some (.lst xs)) (hv : atI xs n = some v) (q : Q v H) : tOp (rIxL K) (tVar 0) (tC (.int n)) σ H Q := ⟨_, h0, a, xs, n, v, rfl, rfl, SqL.of ha, hv, q⟩
theorem pop_at {g : V} {gs : List V} : seqIndex? 0 (g :: gs).length = some 0 := by
  unfold seqIndex?
  simp
end
section
variable {B : Bs} {k : Nat} {Pr : Program} {w : World} {K : PySem.W.Frag} {mg : Str → Option Value} {base : Heap} {f : Addr} {fd : FuncData} {cd : Value} {A : Around} {outer : List Env} {s : Shared} {H : Hp} {E : XK}
abbrev xTake (Pr : Program) (w : World) (K : PySem.W.Frag) (mg : Str → Option Value) (base : Heap) (f : Addr) (cd : Value) (A : Around) (outer : List Env) (s : Shared) (H : Hp) (E : XK) : Cx := cxOf (L2.CX Pr w) Pr w K mg base nTake "_law_take" (defScope sTake) f cd A outer s H E
theorem ix_take {Pr : Program} {w : World} {K : PySem.W.Frag} {mg : Str → Option Value} {base : Heap} {f : Addr} {cd : Value} {A : Around} {outer : List Env} {s : Shared} {H : Hp} {E : XK} (n : Int) {p1 p2 p3 : Pos} {j : Nat} :
    PE (xTake Pr w K mg base f cd A outer s H E) (.Subscript (.Name "_law_spring_here" p1) (.Constant (.int n) j p2) p3) (tOp (rIxL K) (tVar 0) (tC (.int n))) := pe_ix ix_list (pv 0) pe_int fun _ _ => rfl
def rInt1 : List V → Hp → VK → Prop := fun xs H Q => (∃ i, xs = [.int i] ∧ Q (.int i) H) ∨ ∃ k, xs = [.bl k] ∧ Q (.int (if k then 1 else 0)) H
theorem ci_take {Pr : Program} {w : World} {K : PySem.W.Frag} {mg : Str → Option Value} {base : Heap} {f : Addr} {cd : Value} {A : Around} {outer : List Env} {s : Shared} {H : Hp} {E : XK} (mi : mg "int" = none) {e : Expr} {te : TE} {p pos : Pos} (h : PE (xTake Pr w K mg base f cd A outer s H E) e te)
    (hs : starEach [e] (xTake Pr w K mg base f cd A outer s H E).env = (false, eval e (xTake Pr w K mg base f cd A outer s H E).env) :: starEach [] (xTake Pr w K mg base f cd A outer s H E).env) : PE (xTake Pr w K mg base f cd A outer s H E) (.Call (.Name "int" p) [e] [] pos) (tCB rInt1 (tCons te tNil)) := pe_callTy call_int1 rfl mi (by decide +kernel) (pa_cons h pa_nil hs) (he := hs)
theorem lay_ints : ∀ ls : List Int, PyData.canLayAll0 (ls.map PyData.int) = true ∧ PyData.depthAll (ls.map PyData.int) ≤ 1
  | [] => ⟨rfl, by decide⟩
  | i :: r => by
    obtain ⟨h1, h2⟩ := lay_ints r
    refine ⟨?_, ?_⟩
    · show (PyData.canLay0 (.int i) && PyData.canLayAll0 (r.map PyData.int)) = true
      rw [h1]
      rfl
    · show max (PyData.depth (.int i)) (PyData.depthAll (r.map PyData.int)) ≤ 1
      have : PyData.depth (.int i) ≤ 1 := by simp [PyData.depth]
      omega
theorem shaped_ints (ls : List Int) : SeqAt.shaped (.list (ls.map PyData.int)) = true := by
  obtain ⟨h1, h2⟩ := lay_ints ls
  unfold SeqAt.shaped
  rw [Bool.and_eq_true]
  refine ⟨h1, decide_eq_true ?_⟩
  show PyData.depthAll (ls.map PyData.int) + 1 ≤ 64
  omega
theorem dp_ints {H : Hp} {a : Addr} {ls : List Int} (h : H a = some (.lst (ls.map V.int))) : Dp K H (.ref a) (.list (ls.map PyData.int)) := .lst (SqL.of h) (by
  clear h
  induction ls with
  | nil => exact .nil
  | cons i r ih => exact .cons (.int i) ih)
theorem eqv_nil (ls : List Int) : PyData.eqv (.list (ls.map PyData.int)) (.list []) = ls.isEmpty := by
  cases ls <;> rfl
theorem tail4 (mi : mg "int" = none) : ∃ t, PSs (xTake Pr w K mg base f cd A outer s H E) ((defBody sTake).drop 4) t ∧ ∀ (a L : Addr) (most n c : Int) (v0 v1 : V) (x2 x4 x5 : Option V) (H2 : Hp) (D : Ends), 0 < most → most ≤ 1000 → 0 ≤ n → n ≤ 2000 → H2 a = some (.lst [v0, v1, .ref L, .int n]) →
      (∀ (r : Int), 0 ≤ r → r < most → D.rt (.int r) H2) → t D [some (.ref a), some (.int most), x2, some (.int c), x4, x5] H2 := by
  refine ⟨_, pss_cons (ps_set (i := 4) scTake.nd rfl (.inl rfl) (pe_op op_mod (pe_op op_pow (ci_take mi (pe_op op_add (pe_op op_add (pe_op op_mod (ci_take mi (pv 3) rfl) pe_int) (pe_op op_mul pe_int (ix_take 3))) pe_int) rfl) pe_int) pe_int))
    (pss_cons (ps_set (i := 5) scTake.nd rfl (.inl rfl) (pe_op op_mod (ci_take mi (pe_op op_add (pe_op op_mul (pv 4) pe_int) (pe_op op_mul pe_int (ix_take 3))) rfl) pe_int))
    (pss_one (ps_ret (pe_op op_mod (pe_op op_fdiv (pe_op op_mod (ci_take mi (pe_op op_add (pe_op op_mul (pv 5) pe_int) pe_int) rfl) pe_int) pe_int) (pv 1))))), ?_⟩
  intro a L most n c v0 v1 x2 x4 x5 H2 D hm0 hm1 hn0 hn1 ha hQ
  have b1 : 0 ≤ c % 1000003 := Int.emod_nonneg _ (by decide)
  have b2 : c % 1000003 < 1000003 := Int.emod_lt_of_pos _ (by decide)
  refine ⟨_, rfl, .inl ⟨c, rfl, c, 1000003, rfl, rfl, (by show (0 : Int) < 1000003; decide), ixr rfl ha (v := .int n) rfl ⟨7919, n, rfl, rfl, .inl ⟨by decide, by decide⟩, _, _, rfl, rfl, _, _, rfl, rfl, .inl ⟨_, rfl, _, 5, rfl, rfl, ⟨by decide, by decide, ?_⟩, _, 2147483629, rfl, rfl, (by show (0 : Int) < 2147483629; decide), ?_⟩⟩⟩⟩
  · omega
  refine ⟨_, rfl, _, 48271, rfl, rfl, .inr ⟨by decide, by decide⟩, ixr rfl ha (v := .int n) rfl ⟨6011, n, rfl, rfl, .inl ⟨by decide, by decide⟩, _, _, rfl, rfl, .inl ⟨_, rfl, _, 2147483587, rfl, rfl, (by show (0 : Int) < 2147483587; decide), ?_⟩⟩⟩
  refine ⟨_, rfl, _, 69621, rfl, rfl, .inr ⟨by decide, by decide⟩, _, 19, rfl, rfl, .inl ⟨_, rfl, _, 1000000007, rfl, rfl, (by show (0 : Int) < 1000000007; decide), _, 5, rfl, rfl, ⟨by decide, by decide⟩, _, rfl, _, most, rfl, rfl, hm0, ?_⟩⟩
  exact hQ _ (Int.emod_nonneg _ (by omega)) (Int.emod_lt_of_pos _ hm0)
theorem tail3 (hr : Room k (A.deeper (envOfC "_law_take" (defScope sTake) s.heap.objs.size f cd))) (mi : mg "int" = none) (ml : mg "len" = none) :
    ∃ t, PSs (xTake Pr w K mg base f cd A outer s H E) ((defBody sTake).drop 3) t ∧ ∀ (a L : Addr) (most n : Int) (ls : List Int) (v0 v1 : V) (H2 : Hp) (D : Ends), 0 < most → most ≤ 1000 → 0 ≤ n → n ≤ 2000 → H2 a = some (.lst [v0, v1, .ref L, .int n]) → H2 L = some (.lst (ls.map V.int)) →
      (∀ (r : Int) (H' : Hp), 0 ≤ r → r < most → (∀ b o, H2 b = some o → H' b = some o) → D.rt (.int r) H') → t D (L2.start nTake [.ref a, .int most]) H2 := by
  have hu : (xTake Pr w K mg base f cd A outer s H E).A.units + 64 < cLine := hr.units
  obtain ⟨t4, h4, k4⟩ := tail4 (Pr := Pr) (w := w) (K := K) (mg := mg) (base := base) (f := f) (cd := cd) (A := A) (outer := outer) (s := s) (H := H) (E := E) mi
  refine ⟨_, pss_cons (ps_set (i := 3) scTake.nd rfl (.inl rfl) (pe_ifExp (pt_cmpR (op_eqD hu) (ix_take 2) (pe_lst pa_nil) (nomark _)) (pe_op op_mul pe_int (ix_take 3))
        (pe_ix ix_list (ix_take 2) (pe_op op_mod (ci_take mi (ix_take 3) rfl) (pe_callB call_len_seq rfl ml boot_len (pa_cons (ix_take 2) pa_nil))) fun _ _ => rfl))) h4, ?_⟩
  intro a L most n ls v0 v1 H2 D hm0 hm1 hn0 hn1 ha hL hQ
  refine ixr rfl ha (v := .ref L) rfl ⟨by decide, fun p np => ?_⟩
  have kp : ∀ b o, H2 b = some o → upd H2 p (.lst []) b = some o := fun b o e => by rw [upd_ne (ne_of_none e np)]; exact e
  have a3 := kp _ _ ha
  have L3 := kp _ _ hL
  refine ⟨_, .list [], dp_ints L3, .lst (SqL.of upd_same) .nil, shaped_ints ls, rfl, _, rfl, ?_⟩
  rw [eqv_nil]
  cases ls with
  | nil =>
    rw [if_pos (show ([] : List Int).isEmpty = true from rfl)]
    refine ixr (a := a) rfl a3 (v := .int n) rfl ⟨17, n, rfl, rfl, .inl ⟨by decide, by decide⟩, ?_⟩
    exact k4 a L most n _ v0 v1 none none none _ D hm0 hm1 hn0 hn1 a3 fun r h1 h2 => hQ r _ h1 h2 kp
  | cons i r =>
    rw [if_neg (by simp)]
    have hl : (0 : Int) < (((i :: r).map V.int).length : Nat) := by simp
    refine ixr (a := a) rfl a3 (v := .ref L) rfl (ixr (a := a) rfl a3 (v := .int n) rfl (.inl ⟨n, rfl, ixr (a := a) rfl a3 (v := .ref L) rfl ⟨L, _, rfl, .inl (SqL.of L3), n, _, rfl, rfl, hl, ?_⟩⟩))
    have hk0 := Int.emod_nonneg n (show (((i :: r).map V.int).length : Int) ≠ 0 by omega)
    have hk1 := Int.emod_lt_of_pos n hl
    obtain ⟨j, hj⟩ := Int.eq_ofNat_of_zero_le hk0
    have hjl : j < (i :: r).length := by
      rw [hj, List.length_map] at hk1
      omega
    refine ⟨L, _, _, _, rfl, rfl, SqL.of L3, (by rw [hj]; exact atI_cell hjl), ?_⟩
    exact k4 a L most n _ v0 v1 none none none _ D hm0 hm1 hn0 hn1 a3 fun r h1 h2 => hQ r _ h1 h2 kp
/-- the whole of take -/
theorem walk_take (hr : Room k (A.deeper (envOfC "_law_take" (defScope sTake) s.heap.objs.size f cd))) (mi : mg "int" = none) (ml : mg "len" = none) :
    ∃ t, PSs (xTake Pr w K mg base f cd A outer s H E) (defBody sTake) t ∧ ∀ (vs : List V) (H : Hp) (Q : VK) (E : XK), spTake vs H Q E → t { nx := fun _ H' => Q .non H', rt := Q } (L2.start nTake vs) H := by
  have hu : (xTake Pr w K mg base f cd A outer s H E).A.units + 64 < cLine := hr.units
  obtain ⟨t3, h3, k3⟩ := tail3 (Pr := Pr) (w := w) (K := K) (mg := mg) (base := base) (f := f) (cd := cd) (A := A) (outer := outer) (s := s) (H := H) (E := E) hr mi ml
  obtain ⟨t2, h2, k2⟩ : ∃ t, PSs (xTake Pr w K mg base f cd A outer s H E) ((defBody sTake).drop 2) t ∧ ∀ (a G L : Addr) (most n cur : Int) (ls gs : List Int) (H2 : Hp) (D : Ends), 0 < most → most ≤ 1000 → 0 ≤ n → n ≤ 2000 → 0 ≤ cur → G ≠ a → L ≠ a → G ≠ L → (∀ g ∈ gs, 0 < g) → H2 a = some (.lst [.ref G, .int cur, .ref L, .int n]) → H2 G = some (.lst (gs.map V.int)) → H2 L = some (.lst (ls.map V.int)) →
      (∀ (r : Int) (H' : Hp), 0 ≤ r → r < most → ButS H2 H' a G → Spr H' a G L n.toNat → D.rt (.int r) H') → t D (L2.start nTake [.ref a, .int most]) H2 := by
    refine ⟨_, pss_cons (ps_if (pt_cmpR op_gt (ix_take 1) pe_int (nomark _))
      (pss_cons (ps_set (i := 2) scTake.nd rfl (.inl rfl) (pe_op op_mod (ci_take mi (ix_take 1) rfl) (pv 1))) (pss_cons (ps_asg (pe_op op_fdiv (ix_take 1) (pv 1)) (pg_sub (pv 0) pe_int set_list)) (pss_one (ps_ret (pv 2))))) pss_nil) h3, ?_⟩
    intro a G L most n cur ls gs H2 D hm0 hm1 hn0 hn1 hc nG nL nGL hgs ha hG hL hQ
    refine ixr (a := a) rfl ha (v := .int cur) rfl ⟨cur, 0, rfl, rfl, _, rfl, ?_⟩
    by_cases hp : 0 < cur
    · dsimp only
      rw [if_pos (show decide (0 < cur) = true from decide_eq_true hp)]
      refine ixr (a := a) rfl ha (v := .int cur) rfl (.inl ⟨cur, rfl, _, rfl, cur, most, rfl, rfl, hm0, ?_⟩)
      refine ixr (a := a) rfl ha (v := .int cur) rfl ⟨_, rfl, cur, most, rfl, rfl, ⟨hm0, by omega⟩, _, rfl, a, _, 1, 1, rfl, rfl, ha, rfl, _, rfl, ?_⟩
      refine hQ _ _ (Int.emod_nonneg _ (by omega)) (Int.emod_lt_of_pos _ hm0) (fun b o h1 h2 e => by rw [upd_ne h1]; exact e) ⟨gs, ls, cur / most, n, by rw [upd_same]; rfl, by rw [upd_ne nG]; exact hG, by rw [upd_ne nL]; exact hL, nG, nL, nGL, Int.ediv_nonneg hc (by omega), hgs, hn0, by omega⟩
    · dsimp only
      rw [if_neg (show ¬ decide (0 < cur) = true by simpa using hp)]
      refine k3 a L most n ls _ _ H2 D hm0 hm1 hn0 hn1 ha hL fun r H' h1 h2 kp => ?_
      exact hQ r H' h1 h2 (fun b o _ _ e => kp b o e) ⟨gs, ls, cur, n, kp _ _ ha, kp _ _ hG, kp _ _ hL, nG, nL, nGL, hc, hgs, hn0, by omega⟩
  refine ⟨_, pss_cons (ps_asg (pe_op op_add (ix_take 3) pe_int) (pg_sub (pv 0) pe_int set_list)) (pss_cons (ps_if (PW.pt (pw_and (pt_cmpR op_eq (ix_take 1) pe_int (nomark _)) (pw_and1 (pt_cmpR (op_neD hu) (ix_take 0) (pe_lst pa_nil) (nomark _)))))
      (pss_one (ps_asg (pe_bm PySem.F.plainAttrs_list PySem.F.slot_list_pop PySem.F.type_list_pop mt_popAt (ix_take 0) (pa_cons pe_int pa_nil)) (pg_sub (pv 0) pe_int set_list))) pss_nil) h2), ?_⟩
  intro vs H Q E hsp
  obtain ⟨a, G, L, most, m, rfl, hm0, hm1, hm, ⟨gs, ls, cur, n, ha, hG, hL, nG, nL, nGL, hc, hgs, hn0, hn1⟩, hQ⟩ := hsp
  refine ixr (a := a) rfl ha (v := .int n) rfl ⟨n, 1, rfl, rfl, _, rfl, a, _, 3, 3, rfl, rfl, ha, rfl, ?_⟩
  generalize hH1 : upd H a (.lst ([V.ref G, .int cur, .ref L, .int n].set 3 (.int (n + 1)))) = H1
  have ha1 : H1 a = some (.lst [.ref G, .int cur, .ref L, .int (n + 1)]) := by rw [← hH1, upd_same]; rfl
  have hb1 : ∀ b, b ≠ a → H1 b = H b := fun b hb => by rw [← hH1, upd_ne hb]
  have hG1 : H1 G = some (.lst (gs.map V.int)) := by rw [hb1 G nG]; exact hG
  have hL1 : H1 L = some (.lst (ls.map V.int)) := by rw [hb1 L nL]; exact hL
  have fin : ∀ (r : Int) (H2 H' : Hp), 0 ≤ r → r < most → ButS H1 H2 a G → ButS H2 H' a G → Spr H' a G L (n + 1).toNat → Q (.int r) H' := fun r H2 H' h1 h2 b1 b2 sp => by
    refine hQ r H' h1 h2 (fun b o e1 e2 e => b2 b o e1 e2 (b1 b o e1 e2 (by rw [hb1 b e1]; exact e))) ?_
    obtain ⟨gs', ls', c', n', q1, q2, q3, q4, q5, q6, q7, q8, q9, q10⟩ := sp
    exact ⟨gs', ls', c', n', q1, q2, q3, q4, q5, q6, q7, q8, q9, by omega⟩
  refine ixr (a := a) rfl ha1 (v := .int cur) rfl ⟨rfl, _, rfl, ?_⟩
  by_cases h0 : cur = 0
  · subst h0
    dsimp only
    rw [if_pos (show decide (V.int 0 = V.int 0) = true from decide_eq_true rfl)]
    refine ixr (a := a) rfl ha1 (v := .ref G) rfl ⟨by decide, fun p np => ?_⟩
    have kp : ∀ b o, H1 b = some o → upd H1 p (.lst []) b = some o := fun b o e => by rw [upd_ne (ne_of_none e np)]; exact e
    refine ⟨_, .list [], dp_ints (kp _ _ hG1), .lst (SqL.of upd_same) .nil, shaped_ints gs, rfl, _, rfl, ?_⟩
    rw [eqv_nil]
    cases gs with
    | nil =>
      rw [if_neg (show ¬ (!([] : List Int).isEmpty) = true by decide)]
      exact k2 a G L most (n + 1) 0 ls [] _ _ hm0 hm1 (by omega) (by omega) (by omega) nG nL nGL hgs (kp _ _ ha1) (kp _ _ hG1) (kp _ _ hL1) fun r H' h1 h2 b sp => fin r _ H' h1 h2 (fun b o _ _ e => kp b o e) b sp
    | cons g r =>
      rw [if_pos (show (!(g :: r).isEmpty) = true from rfl)]
      have hG2 := kp _ _ hG1
      have ha2 := kp _ _ ha1
      refine ixr (a := a) rfl ha2 (v := .ref G) rfl ⟨?_, G, _, 0, 0, .int g, rfl, rfl, hG2, by decide, by decide, pop_at, rfl, ?_⟩
      · exact .inl ⟨rfl, _, SqL.of hG2⟩
      have ha3 : upd (upd H1 p (.lst [])) G (.lst (((g :: r).map V.int).eraseIdx 0)) a = some (.lst [.ref G, .int 0, .ref L, .int (n + 1)]) := by rw [upd_ne (Ne.symm nG)]; exact ha2
      refine ⟨_, rfl, a, _, 1, 1, rfl, rfl, ha3, rfl, ?_⟩
      have hg : 0 < g := hgs g (List.mem_cons_self ..)
      refine k2 a G L most (n + 1) g ls r _ _ hm0 hm1 (by omega) (by omega) (by omega) nG nL nGL (fun x hx => hgs x (List.mem_cons_of_mem _ hx)) (by rw [upd_same]; rfl) (by rw [upd_ne nG, upd_same]; rfl) (by rw [upd_ne nL, upd_ne (Ne.symm nGL)]; exact kp _ _ hL1) fun r' H' h1 h2 b sp => fin r' _ H' h1 h2 (fun b o e1 e2 e => by rw [upd_ne e1, upd_ne e2]; exact kp b o e) b sp
  · dsimp only
    rw [if_neg (show ¬ decide (V.int cur = V.int 0) = true from fun z => h0 (by cases of_decide_eq_true z; rfl))]
    rw [if_neg (by decide)]
    exact k2 a G L most (n + 1) cur ls gs _ _ hm0 hm1 (by omega) (by omega) hc nG nL nGL hgs ha1 hG1 hL1 fun r H' h1 h2 b sp => fin r _ H' h1 h2 (fun b o _ _ e => e) b sp
theorem ok_take (F : FunD K "_law_take" "_law_take" (defArgs sTake) (defBody sTake) (defScope sTake) [] [] f fd) (mi : mg "int" = none) (ml : mg "len" = none) : FnOk Pr w K mg base (L2.CX Pr w) 2 f fd ["_law_spring_here", "_law_many"] spTake := by
  refine F.ok (k := 1) scTake (fun vs H Q E h => ?_) (fun cdv A outer s H vs Q E hr h => ?_)
  · obtain ⟨a, G, L, most, m, rfl, _⟩ := h
    rfl
  · obtain ⟨t, h1, h2⟩ := walk_take (Pr := Pr) (w := w) (K := K) (mg := mg) (base := base) (f := f) (cd := cdv) (A := A) (outer := outer) (s := s) (H := H) (E := E) hr mi ml
    exact ⟨t, h1, h2 vs H Q E h⟩
end
def sSpring : Stmt := P.main.body.getD 108 (.Pass ⟨0, 0, 0, 0⟩)
def nSpring : List Str := ["_law_script", "_law_little", "_law_cell"]
theorem scSpring : FnScope nSpring ["_law_script"] (defScope sSpring) := ⟨rfl, rfl, rfl, by decide +kernel, rfl, by decide +kernel, by decide +kernel⟩
theorem sqL_new {K : PySem.W.Frag} {H : Hp} {p : Addr} {o : HO} (n : H p = none) : ∀ a vs, SqL K H a vs → SqL K (upd H p o) a vs := fun a vs q => by
  rcases q with (q | ⟨ob, q⟩) | q
  · exact .inl (.inl (by rw [upd_ne (ne_of_none q n)]; exact q))
  · exact .inl (.inr ⟨ob, by rw [upd_ne (ne_of_none q n)]; exact q⟩)
  · exact .inr q
/-- a list of the numbers that p takes -/
theorem lc_run {K : PySem.W.Frag} {σ : L2.St} {H : Hp} {Q : VK} {a : Addr} {ns : List Int} {tl : TE} {tt : TT} {te : TE} (p : Int → Bool) (htl : ∀ R : VK, R (.ref a) H → tl σ H R) (hs : SqL K H a (ns.map V.int)) (hz : ns.length ≤ 63)
    (htt : ∀ (z : Int) (H' : Hp) (R : Bool → Hp → Prop), R (p z) H' → tt ((wipe σ [2]).set 2 (some (.int z))) H' R) (hte : ∀ (z : Int) (H' : Hp) (R : VK), R (.int z) H' → te ((wipe σ [2]).set 2 (some (.int z))) H' R)
    (hw : ∀ z : Int, wipe ((wipe σ [2]).set 2 (some (.int z))) [2] = wipe σ [2])
    (q : ∀ D, H D = none → Q (.ref D) (upd H D (.lst ((ns.filter p).map V.int)))) : tLc (iList K tl) (gName 2) tt te [2] σ H Q := by
  refine htl _ ⟨a, rfl, ⟨_, hs⟩, fun D hD => ⟨fun i m H' => m = ns.length - i ∧ i ≤ ns.length ∧ H' = upd H D (.lst (((ns.take i).filter p).map V.int)), ⟨ns.length, rfl, Nat.zero_le _, rfl⟩, ?_⟩⟩
  rintro i m H' ⟨rfl, hi, rfl⟩
  have hs' : SqL K (upd H D (.lst (((ns.take i).filter p).map V.int))) a (ns.map V.int) := sqL_new hD _ _ hs
  by_cases he : i = ns.length
  · subst he
    refine .inl ⟨⟨_, hs', by rw [List.length_map]; exact Nat.le_refl _⟩, ?_⟩
    rw [List.take_length]
    exact q D hD
  · have hlt : i < ns.length := by omega
    have hx : (ns.map V.int)[i]? = some (V.int ns[i]) := by rw [List.getElem?_map, List.getElem?_eq_getElem hlt]; rfl
    have htake : ns.take (i + 1) = ns.take i ++ [ns[i]] := by rw [List.take_succ, List.getElem?_eq_getElem hlt]; rfl
    refine .inr ⟨⟨_, _, hs', hx⟩, fun H2 => H2 = upd H D (.lst (((ns.take (i + 1)).filter p).map V.int)), fun H2 z => ⟨ns.length - (i + 1), by omega, rfl, hlt, z⟩, fun x H2 y => ?_⟩
    obtain ⟨rfl, y⟩ := y
    have ex := y _ hs'
    rw [hx] at ex
    cases ex
    refine ⟨hw _, htt _ _ _ ?_⟩
    by_cases hp : p ns[i] = true
    · rw [if_pos hp]
      refine hte _ _ _ ⟨_, upd_same, ?_, ?_⟩
      · have h1 : ((ns.take i).filter p).length ≤ (ns.take i).length := List.length_filter_le _ _
        have h2 : (ns.take i).length ≤ i := by rw [List.length_take]; omega
        rw [List.length_map, sizeLine_eq]
        omega
      · rw [upd2, htake, List.filter_append, List.map_append]
        have : [ns[i]].filter p = [ns[i]] := by simp [hp]
        rw [this]
        rfl
    · rw [if_neg hp, htake, List.filter_append]
      have : [ns[i]].filter p = [] := by simp [hp]
      rw [this, List.append_nil]
theorem seq_asg {te : TE} {g : TG} {u : TS} {D : Ends} {σ : L2.St} {H : Hp} (h : te σ H (fun x H1 => g x σ H1 (u D))) : tSeq (tAsg te g) u D σ H := h
theorem ret_cons {t1 : TE} {t2 : TA} {D : Ends} {σ : L2.St} {H : Hp} (h : t1 σ H fun v H1 => t2 σ H1 fun vs H2 => tLst (fun _ H Q => Q (v :: vs) H) σ H2 D.rt) : tRet (tLst (tCons t1 t2)) D σ H := h
section
variable {k : Nat} {Pr : Program} {w : World} {K : PySem.W.Frag} {mg : Str → Option Value} {base : Heap} {f : Addr} {fd : FuncData} {cd : Value} {A : Around} {outer : List Env} {s : Shared} {H : Hp} {E : XK}
abbrev xSpr (Pr : Program) (w : World) (K : PySem.W.Frag) (mg : Str → Option Value) (base : Heap) (f : Addr) (cd : Value) (A : Around) (outer : List Env) (s : Shared) (H : Hp) (E : XK) : Cx := cxOf (L2.CX Pr w) Pr w K mg base nSpring "_law_spring" (defScope sSpring) f cd A outer s H E
theorem walk_spring (mi : mg "int" = none) :
    ∃ t, PSs (xSpr Pr w K mg base f cd A outer s H E) (defBody sSpring) t ∧ ∀ (vs : List V) (H : Hp) (Q : VK) (E : XK), spSpring K vs H Q E → t { nx := fun _ H' => Q .non H', rt := Q } (L2.start nSpring vs) H := by
  refine ⟨_, pss_cons (ps_setLc (i := 1) (own := [("_law_cell", 2)]) rfl scSpring.nd rfl rfl (sw_true rfl rfl rfl (by decide +kernel)) (pi_list (pv 0)) (blkOk_by (by show blkC nSpring (defScope sSpring) _ _ = true; decide +kernel)) (fun s H C cl fp => pg_name (i := 2) scSpring.nd rfl (.inl rfl) (.inr rfl))
      (fun s H C cl fp => pts_one (pt_cmpR op_lt (pv 2) (pe_op op_pow pe_int pe_int) (nomark _))) (fun s H C cl fp => pe_callTy call_int1 rfl mi (by decide +kernel) (pa_cons (pv 2) pa_nil)))
    (pss_one (ps_ret (pe_lst (pa_cons (pe_lc (own := [("_law_cell", 2)]) rfl scSpring.nd (pi_list (pv 0)) (blkOk_by (by show blkC nSpring (defScope sSpring) _ _ = true; decide +kernel)) (fun s H C cl fp => pg_name (i := 2) scSpring.nd rfl (.inl rfl) (.inr rfl))
      (fun s H C cl fp => pts_one (pt_cmpR op_ge (pv 2) (pe_op op_pow pe_int pe_int) (nomark _))) (fun s H C cl fp => pe_callTy call_int1 rfl mi (by decide +kernel) (pa_cons (pv 2) pa_nil))) (pa_cons pe_int (pa_cons (pv 1) (pa_cons pe_int pa_nil))))))), ?_⟩
  intro vs H Q E hsp
  obtain ⟨a, ns, rfl, hl, hs, hQ⟩ := hsp
  refine seq_asg (lc_run (K := K) (σ := L2.start nSpring [V.ref a]) (a := a) (ns := ns) (fun z => decide (z < 10 ^ 18)) (fun R h => ⟨_, rfl, h⟩) hs hl (fun z H' R h => ⟨_, rfl, 10, 18, rfl, rfl, ⟨by decide, by decide, by decide⟩, z, _, rfl, rfl, _, rfl, h⟩) (fun z H' R h => ⟨_, rfl, .inl ⟨z, rfl, h⟩⟩) (fun z => rfl) fun L nL => ?_)
  refine ret_cons (lc_run (K := K) (σ := [some (V.ref a), some (V.ref L), none]) (a := a) (ns := ns) (fun z => decide (10 ^ 18 ≤ z)) (fun R h => ⟨_, rfl, h⟩) (sqL_new nL _ _ hs) hl (fun z H' R h => ⟨_, rfl, 10, 18, rfl, rfl, ⟨by decide, by decide, by decide⟩, z, _, rfl, rfl, _, rfl, h⟩) (fun z H' R h => ⟨_, rfl, .inl ⟨z, rfl, h⟩⟩) (fun z => rfl) fun G nG => ?_)
  refine ⟨_, rfl, by show 4 ≤ sizeLine; rw [sizeLine_eq]; omega, fun S nS => ?_⟩
  have nGL : G ≠ L := fun z => by
    rw [z, upd_same] at nG
    cases nG
  rw [upd_ne nGL] at nG
  have nSG : S ≠ G := fun z => by
    rw [z, upd_same] at nS
    cases nS
  rw [upd_ne nSG] at nS
  have nSL : S ≠ L := fun z => by
    rw [z, upd_same] at nS
    cases nS
  rw [upd_ne nSL] at nS
  refine hQ S G L _ (fun b o e => by rw [upd_ne (ne_of_none e nS), upd_ne (ne_of_none e nG), upd_ne (ne_of_none e nL)]; exact e) nS nG nL ⟨ns.filter fun z => decide (10 ^ 18 ≤ z), ns.filter fun z => decide (z < 10 ^ 18), 0, 0, upd_same, ?_, ?_, Ne.symm nSG, Ne.symm nSL, nGL, by omega, fun g hg => ?_, by omega, by omega⟩
  · rw [upd_ne (Ne.symm nSG), upd_same]
  · rw [upd_ne (Ne.symm nSL), upd_ne (Ne.symm nGL), upd_same]
  · have z := of_decide_eq_true (List.mem_filter.mp hg).2
    omega
theorem ok_spring (F : FunD K "_law_spring" "_law_spring" (defArgs sSpring) (defBody sSpring) (defScope sSpring) [] [] f fd) (mi : mg "int" = none) : FnOk Pr w K mg base (L2.CX Pr w) 2 f fd ["_law_script"] (spSpring K) := by
  refine F.ok (k := 1) scSpring (fun vs H Q E h => ?_) (fun cdv A outer s H vs Q E hr h => ?_)
  · obtain ⟨a, ns, rfl, _⟩ := h
    rfl
  · obtain ⟨t, h1, h2⟩ := walk_spring (Pr := Pr) (w := w) (K := K) (mg := mg) (base := base) (f := f) (cd := cdv) (A := A) (outer := outer) (s := s) (H := H) (E := E) mi
    exact ⟨t, h1, h2 vs H Q E h⟩
end

theorem eTake : fd "_law_take" = (defArgs sTake, defBody sTake, defScope sTake) := by kernel_rfl
theorem eSpring : fd "_law_spring" = (defArgs sSpring, defBody sSpring, defScope sSpring) := by kernel_rfl
end K28
set_option Elab.async false
set_option linter.all false
set_option maxRecDepth 100000
set_option maxHeartbeats 4000000
namespace DV
open PySem PySem.Spec PyProof.Rows L2 ER EV
noncomputable section
/-! ### checks by branches, states told by slots and cells -/
def pickAt {α : Type} (r : Nat) (m : Out α) : Out α := Out.rec (motive := fun _ => Out α) (fun _ _ => .bad) (fun _ _ _ => .bad) .bad (fun _ k _ => k r) m
def isPick {α : Type} (n : Nat) (m : Out α) : Bool := Out.rec (motive := fun _ => Bool) (fun _ _ => false) (fun _ _ _ => false) false (fun n' _ _ => Nat.beq n' n) m
theorem pick_all {α : Type} {P : α → Hh → Prop} {X : Nat → List (Str × A) → Hh → Prop} {n : Nat} {m : Out α} (h : isPick n m = true) (q : ∀ r, r < n → (pickAt r m).All P X) : m.All P X := by
  cases m with
  | ok a h' => cases (show false = true from h)
  | exc C fs h' => cases (show false = true from h)
  | bad => cases (show false = true from h)
  | pick n' k =>
    have e := Nat.eq_of_beq_eq_true (show Nat.beq n' n = true from h)
    subst e
    exact fun r hr => q r hr
/-- the slots told: place, value -/
def slotsB (l : List (Nat × A)) (s : Sl) : Bool := List.rec (motive := fun _ => Bool) true (fun p _ ih => Option.rec (motive := fun _ => Bool) false (fun a => Bool.rec (motive := fun _ => Bool) false ih (beqA p.2 a)) (slot s p.1)) l
theorem slotsB_ok {s : Sl} : ∀ {l : List (Nat × A)}, slotsB l s = true → ∀ p ∈ l, s[p.1]? = some (some p.2)
  | p :: l, q, p', hp => by
    have q : Option.rec (motive := fun _ => Bool) false (fun a => Bool.rec (motive := fun _ => Bool) false (slotsB l s) (beqA p.2 a)) (slot s p.1) = true := q
    cases e : slot s p.1 with
    | none => rw [e] at q; cases q
    | some a =>
      rw [e] at q
      have q : Bool.rec (motive := fun _ => Bool) false (slotsB l s) (beqA p.2 a) = true := q
      cases e2 : beqA p.2 a with
      | false => rw [e2] at q; cases q
      | true =>
        rw [e2] at q
        rcases List.mem_cons.mp hp with rfl | hp
        · rw [slot_ok e, beqA_ok e2]
        · exact slotsB_ok q p' hp
/-- goes on: so many slots, these slots, these cells, at most so many draws -/
def nxB (n : Nat) (sl : List (Nat × A)) (cs : List (Bn × Cell)) (m : Nat) (f : Fl) (h : Hh) : Bool := Fl.rec (motive := fun _ => Bool) (fun s => lenK s 0 fun k => Bool.rec (motive := fun _ => Bool) false (Bool.rec (motive := fun _ => Bool) false (Bool.rec (motive := fun _ => Bool) false (Nat.ble h.cnt m) (keptB cs h)) (slotsB sl s)) (Nat.beq k n)) (fun _ => false) (fun _ => false) (fun _ => false) f
theorem nxB_ok {n : Nat} {sl : List (Nat × A)} {cs : List (Bn × Cell)} {m : Nat} {f : Fl} {h : Hh} (q : nxB n sl cs m f h = true) : ∃ s, f = .nx s ∧ s.length = n ∧ (∀ p ∈ sl, s[p.1]? = some (some p.2)) ∧ (∀ p ∈ cs, h.get p.1 = some p.2) ∧ h.cnt ≤ m := by
  cases f with
  | nx s =>
    have q : (lenK s 0 fun k => Bool.rec (motive := fun _ => Bool) false (Bool.rec (motive := fun _ => Bool) false (Bool.rec (motive := fun _ => Bool) false (Nat.ble h.cnt m) (keptB cs h)) (slotsB sl s)) (Nat.beq k n)) = true := q
    rw [lenK_eq, Nat.zero_add] at q
    cases e1 : Nat.beq s.length n with
    | false => rw [e1] at q; cases q
    | true =>
      rw [e1] at q
      have q : Bool.rec (motive := fun _ => Bool) false (Bool.rec (motive := fun _ => Bool) false (Nat.ble h.cnt m) (keptB cs h)) (slotsB sl s) = true := q
      cases e2 : slotsB sl s with
      | false => rw [e2] at q; cases q
      | true =>
        rw [e2] at q
        have q : Bool.rec (motive := fun _ => Bool) false (Nat.ble h.cnt m) (keptB cs h) = true := q
        cases e3 : keptB cs h with
        | false => rw [e3] at q; cases q
        | true =>
          rw [e3] at q
          exact ⟨s, rfl, Nat.eq_of_beq_eq_true e1, slotsB_ok e2, keptB_ok e3, Nat.le_of_ble_eq_true q⟩
  | _ => cases (show false = true from q)
/-- slots with values at these places alone -/
def mkSl (n : Nat) (l : List (Nat × A)) : Sl := (List.range n).map fun i => l.lookup i
theorem mem_lkN {i : Nat} {a : A} : ∀ {l : List (Nat × A)}, l.lookup i = some a → (i, a) ∈ l
  | (k, u) :: r, h2 => by
    cases q : (i == k) with
    | true =>
      simp only [List.lookup, q] at h2
      rw [eq_of_beq q, ← Option.some.inj h2]
      exact List.mem_cons_self ..
    | false =>
      simp only [List.lookup, q] at h2
      exact List.mem_cons_of_mem _ (mem_lkN h2)
theorem mkSl_get {n : Nat} {l : List (Nat × A)} {i : Nat} {a : A} (h : (mkSl n l)[i]? = some (some a)) : (i, a) ∈ l := by
  unfold mkSl at h
  rw [List.getElem?_map] at h
  obtain ⟨j, h1, h2⟩ := Option.map_eq_some_iff.mp h
  obtain ⟨hj, e⟩ := List.getElem?_eq_some_iff.mp h1
  rw [List.getElem_range] at e
  subst e
  exact mem_lkN h2
end
end DV
set_option Elab.async false
set_option linter.all false
set_option maxRecDepth 100000
set_option maxHeartbeats 4000000
namespace DV
open PySem PySem.Spec PyProof.Rows L2 ER EV
noncomputable section
/-! ### a run of statements, then others -/
/-- settings by an index: one text, one context -/
structure SgI (D : DTb) (c : Cc) (ι : Type) (B : ι → DBs) (k : Nat) (call : Cl) (X : Cx) (E : XK) : Prop where
  sg : ∀ i, Sg D c (B i) k call X E
structure SAp (D : DTb) (c : Cc) (l : List Stmt) (d : Dst) : Prop where
  run : ∀ {ι : Type} {B : ι → DBs} {k : Nat} {call : Cl} {X : Cx} {E : XK} {l2 : List Stmt} {t2 : TS}, SgI D c ι B k call X E → PSs X l2 t2 → PSs X (l ++ l2) (fun D' σ H => ∃ i, tSs (B i).bs.S E (d call) { D' with nx := t2 D' } σ H)
theorem ap_one {D : DTb} {c : Cc} {st : Stmt} {d : Dst} (h : SS D c st d) : SAp D c [st] d := ⟨fun s h2 => PSs.imp (pss_cons (ps_ex fun i => h (s.sg i)) h2) fun D σ H q => q⟩
theorem ap_cons {D : DTb} {c : Cc} {st : Stmt} {l : List Stmt} {d d' : Dst} (h : SS D c st d) (h' : SAp D c l d') : SAp D c (st :: l) (sSeq d d') := ⟨fun s h2 => PSs.imp (pss_cons (ps_ex fun i => h (s.sg i)) (h'.run s h2)) fun D σ H q => by
  obtain ⟨i, ρ, h, s, R, rs, q⟩ := q
  refine ⟨i, ρ, h, s, R, rs, gob q fun f h1 q1 ρ1 H1 e1 R1 => ?_⟩
  cases f with
  | nx s1 => exact fun σ1 rs1 => ⟨i, ρ1, h1, s1, R1, rs1, all_mono e1 (fun _ _ y => y.mono e1) q1⟩
  | rt a => exact fun v rv => q1 ρ1 H1 e1 R1 v rv
  | bk s1 => exact fun σ1 rs1 => q1 ρ1 H1 e1 R1 σ1 rs1
  | ct s1 => exact fun σ1 rs1 => q1 ρ1 H1 e1 R1 σ1 rs1⟩
theorem rSs_ap {D : DTb} {c : Cc} (k : Rde D) (kss : (c : Cc) → (l : List Stmt) → RYs D c l) : ∀ l : List Stmt, l ≠ [] → SAp D c l (dY D (rSs k kss c l).y)
  | [], h => absurd rfl h
  | [st], _ => ap_one (rS k kss c st).ok
  | st :: st' :: r, _ => by
    show SAp D c (st :: st' :: r) (dY D (.seq (rS k kss c st).y (rSs k kss c (st' :: r)).y))
    unfold dY
    exact ap_cons (rS k kss c st).ok (rSs_ap k kss (st' :: r) (List.cons_ne_nil _ _))
theorem rds_ap {D : DTb} {c : Cc} {fz : Bool} {n : Nat} {l : List Stmt} {d : Dst} (hl : l ≠ []) (h : dY D (rds (D := D) fz (n + 1) c l).y = d) : SAp D c l d := by
  rw [← h]
  exact rSs_ap (rd fz 40) (rds fz n) l hl
/-! ### states, by index -/
structure IxS where
  a : Addr
  G : Addr
  L : Addr
  off : Nat
  ho : off ≤ 500
def GtL (L : Lw) (K : PySem.W.Frag) (C : Nat) : Option Addr := if C < L.cls.length then some (ad L.cls K C) else none
def BxL (L : Lw) (K : PySem.W.Frag) (w : World) (mg : Str → Option Value) (base : Heap) (x : IxS) : DBs := ⟨⟨scene K L.D.tz (GtL L K) (tabsL L K) x.off x.a x.G x.L, L.P, w, mg, base, L.D.tb, tabsL L K⟩, L.D, faOf L K⟩
section
variable {L : Lw} {K : PySem.W.Frag} {w : World} {mg : Str → Option Value} {base : Heap}
theorem grX (S : L.stat = true) (hlam : ∀ n, L.D.tb.lam n = none) (x : IxS) : GrL L K mg (BxL L K w mg base x) where
  kk := rfl
  G := fun C hC => by
    show (if C = 99 then some x.a else GtL L K C) = _
    have := stat_99 S
    rw [if_neg (by omega)]
    exact if_pos hC
  P := rfl
  gg := rfl
  T := rfl
  D := rfl
  tz := rfl
  lam := hlam
  lamS := fun _ => rfl
  tabs := fun m H e => e.2
  lamF := fun m H H' e1 e2 e3 => scene_lamF e1 e2 e3
  fa := rfl
abbrev SX (L : Lw) (K : PySem.W.Frag) (x : IxS) : Sc := scene K L.D.tz (GtL L K) (tabsL L K) x.off x.a x.G x.L
/-- a state: so many slots, these values, these cells, at most m draws beyond the index -/
def AtX (L : Lw) (K : PySem.W.Frag) (x : IxS) (n : Nat) (sl : List (Nat × A)) (cs : List (Bn × Cell)) (m : Nat) (σ : L2.St) (H : Hp) : Prop :=
  σ.length = n ∧ ∃ ρ h, Rep (SX L K x) ρ h H ∧ (∀ p ∈ cs, h.get p.1 = some p.2) ∧ h.cnt ≤ m ∧ ∀ p ∈ sl, ∃ v, σ[p.1]? = some (some v) ∧ Rel (SX L K x) ρ H p.2 v
/-- the slots' values lie in the cells -/
def insideB (sl : List (Nat × A)) (cs : List (Bn × Cell)) : Bool := sl.all fun p => (locsA p.2).all fun l => ((ofL cs).get l).isSome
theorem rel_off {x y : IxS} (ea : y.a = x.a) (eG : y.G = x.G) (eL : y.L = x.L) {ρ : Rho} {H : Hp} {a : A} {v : V} (r : Rel (SX L K x) ρ H a v) : Rel (SX L K y) ρ H a v := by
  refine A.rec (motive_1 := fun a => ∀ v, Rel (SX L K x) ρ H a v → Rel (SX L K y) ρ H a v) (motive_2 := fun xs => ∀ vs, Rels (SX L K x) ρ H xs vs → Rels (SX L K y) ρ H xs vs) (fun _ h => h) (fun _ _ h => h) (fun _ _ h => h) (fun _ _ h => h) (fun _ _ h => h) (fun _ _ h => h) (fun g v h => ?_) (fun xs ih v h => ?_) (fun _ h => h) (fun x xs ih1 ih2 vs h => ?_) a v r
  · obtain ⟨a, h1, h2⟩ := h
    refine ⟨a, ?_, h2⟩
    have h1 : (if g = 99 then some x.a else GtL L K g) = some a := h1
    show (if g = 99 then some y.a else GtL L K g) = some a
    rw [ea]
    exact h1
  · obtain ⟨a, vs, h1, h2, h3⟩ := h
    exact ⟨a, vs, h1, h2, ih _ h3⟩
  · obtain ⟨v, r, h1, h2, h3⟩ := h
    exact ⟨v, r, h1, ih1 _ h2, ih2 _ h3⟩
theorem at_cut {x y : IxS} (ea : y.a = x.a) (eG : y.G = x.G) (eL : y.L = x.L) {n m m' : Nat} {sl sl' : List (Nat × A)} {cs cs' : List (Bn × Cell)} {nx : Bn} {σ : L2.St} {H : Hp} (hsl : ∀ p ∈ sl', p ∈ sl) (hcs : ∀ p ∈ cs', p ∈ cs) (hm : x.off + m ≤ y.off + m') (hc : closedB nx cs' = true) (hi : insideB sl' cs' = true) (h : AtX L K x n sl cs m σ H) :
    ∃ ρ', Rep (SX L K y) ρ' ⟨nx, ofL cs', m'⟩ H ∧ RelS (SX L K y) ρ' H (mkSl n sl') σ := by
  obtain ⟨hl, ρ, h, R, kc, hcn, vs⟩ := h
  obtain ⟨xa, xG, xL, xo, xh⟩ := x
  obtain ⟨ya, yG, yL, yo, yh⟩ := y
  dsimp only at ea eG eL hm
  subst ea eG eL
  have hΦ : (SX L K ⟨ya, yG, yL, yo, yh⟩).Φ m' H := ⟨spr_wid R.fo.1 (by show xo + h.cnt ≤ yo + m'; omega), R.fo.2⟩
  refine ⟨cutR cs' ρ, rep_cut (S := SX L K ⟨ya, yG, yL, xo, xh⟩) R rfl rfl rfl rfl rfl hΦ hc fun p hp => kc p (hcs p hp), ?_, fun i a e => ?_⟩
  · unfold mkSl
    rw [List.length_map, List.length_range, hl]
  · have hp := mkSl_get e
    obtain ⟨v, e1, e2⟩ := vs _ (hsl _ hp)
    refine ⟨v, e1, relCut (fun l hl => ?_) (rel_off (x := ⟨ya, yG, yL, xo, xh⟩) (y := ⟨ya, yG, yL, yo, yh⟩) rfl rfl rfl e2)⟩
    exact if_pos (List.all_eq_true.mp (List.all_eq_true.mp hi _ hp) l hl)
theorem at_off {x y : IxS} (ea : y.a = x.a) (eG : y.G = x.G) (eL : y.L = x.L) {n m m' : Nat} {sl sl' : List (Nat × A)} {cs cs' : List (Bn × Cell)} {nx : Bn} {σ : L2.St} {H : Hp} (hsl : ∀ p ∈ sl', p ∈ sl) (hcs : ∀ p ∈ cs', p ∈ cs) (hm : x.off + m ≤ y.off + m') (hc : closedB nx cs' = true) (hi : insideB sl' cs' = true) (hg : ∀ p ∈ cs', (ofL cs').get p.1 = some p.2) (hn : ∀ p ∈ sl', (mkSl n sl')[p.1]? = some (some p.2)) (h : AtX L K x n sl cs m σ H) : AtX L K y n sl' cs' m' σ H := by
  have hl := h.1
  obtain ⟨ρ', R, rs⟩ := at_cut (y := y) (m' := m') ea eG eL hsl hcs hm hc hi h
  exact ⟨hl, ρ', _, R, hg, Nat.le_refl _, fun p hp => rs.2 _ _ (hn p hp)⟩
theorem at_set {x : IxS} {n m : Nat} {sl : List (Nat × A)} {cs : List (Bn × Cell)} {σ : L2.St} {H : Hp} {i : Nat} {v : V} (hi : (sl.all fun p => !(p.1 == i)) = true) (h : AtX L K x n sl cs m σ H) : AtX L K x n sl cs m (σ.set i (some v)) H := by
  obtain ⟨hl, ρ, h, R, kc, hcn, vs⟩ := h
  refine ⟨by rw [List.length_set]; exact hl, ρ, h, R, kc, hcn, fun p hp => ?_⟩
  obtain ⟨u, e1, e2⟩ := vs p hp
  have ne : i ≠ p.1 := fun z => by
    have := List.all_eq_true.mp hi p hp
    rw [← z] at this
    simp at this
  exact ⟨u, by rw [List.getElem?_set_ne ne]; exact e1, e2⟩
/-- a stretch that was checked -/
theorem seg {x y : IxS} (ea : y.a = x.a) (eG : y.G = x.G) (eL : y.L = x.L) {E : XK} {n m m' m2 : Nat} {sl sl' sl2 : List (Nat × A)} {cs cs' cs2 : List (Bn × Cell)} {nx : Bn} {σ : L2.St} {H : Hp} {ev : Sl → Hh → Out Fl} {D' : Ends} (hsl : ∀ p ∈ sl', p ∈ sl) (hcs : ∀ p ∈ cs', p ∈ cs) (hm : x.off + m ≤ y.off + m') (hc : closedB nx cs' = true) (hi : insideB sl' cs' = true)
    (ck : ∀ X, (ev (mkSl n sl') ⟨nx, ofL cs', m'⟩).All (fun f h => nxB n sl2 cs2 m2 f h = true) X) (h : AtX L K x n sl cs m σ H) (k : ∀ σ' H', AtX L K y n sl2 cs2 m2 σ' H' → D'.nx σ' H') : tSs (SX L K y) E ev D' σ H := by
  obtain ⟨ρ', R, rs⟩ := at_cut (y := y) (m' := m') ea eG eL hsl hcs hm hc hi h
  refine ⟨ρ', _, _, R, rs, (ck _).mono (fun f h1 q ρ1 H1 e1 R1 => ?_) fun _ _ _ z => z⟩
  obtain ⟨s, rfl, hl, hs, hcs, hcn⟩ := nxB_ok q
  exact fun σ1 rs1 => k σ1 H1 ⟨by rw [← rs1.1]; exact hl, ρ1, h1, R1, hcs, hcn, fun p hp => rs1.2 _ _ (hs p hp)⟩
/-- .. that tells True in the end -/
def rtB (f : Fl) (h : Hh) : Bool := Fl.rec (motive := fun _ => Bool) (fun _ => false) (fun a => beqA (.bl true) a) (fun _ => false) (fun _ => false) f
theorem seg_ret {x y : IxS} (ea : y.a = x.a) (eG : y.G = x.G) (eL : y.L = x.L) {E : XK} {n m m' : Nat} {sl sl' : List (Nat × A)} {cs cs' : List (Bn × Cell)} {nx : Bn} {σ : L2.St} {H : Hp} {ev : Sl → Hh → Out Fl} {D' : Ends} (hsl : ∀ p ∈ sl', p ∈ sl) (hcs : ∀ p ∈ cs', p ∈ cs) (hm : x.off + m ≤ y.off + m') (hc : closedB nx cs' = true) (hi : insideB sl' cs' = true)
    (ck : ∀ X, (ev (mkSl n sl') ⟨nx, ofL cs', m'⟩).All (fun f h => rtB f h = true) X) (h : AtX L K x n sl cs m σ H) (k : ∀ H', D'.rt (.bl true) H') : tSs (SX L K y) E ev D' σ H := by
  obtain ⟨ρ', R, rs⟩ := at_cut (y := y) (m' := m') ea eG eL hsl hcs hm hc hi h
  refine ⟨ρ', _, _, R, rs, (ck _).mono (fun f h1 q ρ1 H1 e1 R1 => ?_) fun _ _ _ z => z⟩
  cases f with
  | rt a =>
    intro v rv
    have e : A.bl true = a := beqA_ok q
    rw [← e] at rv
    rw [show v = V.bl true from rv]
    exact k H1
  | _ => cases (show false = true from q)
/-- behind the spring's call -/
theorem at_spring {a G L' : Addr} {σ : L2.St} {H : Hp} {n i : Nat} (hl : σ.length = n) (hv : σ[i]? = some (some (.ref a))) (sp : Spr H a G L' 0) (ht : LamX.Tabs (tabsL L K) H) : AtX L K ⟨a, G, L', 0, by omega⟩ n [(i, .glo 99)] [] 0 σ H := by
  refine ⟨hl, (fun _ => none), (⟨.z, .e, 0⟩ : Hh), (⟨fun l c q => ?_, fun l a q => (by cases q), fun l l' a q => (by cases q), fun l c q => ?_, ⟨sp, ht⟩, fun l a q => (by cases q)⟩ : Rep (SX L K ⟨a, G, L', 0, by omega⟩) (fun _ => none) ⟨.z, .e, 0⟩ H), (fun p hp => (by cases hp)), Nat.le_refl _, fun p hp => ?_⟩
  · have z : Tr.get l .e = some c := q
    rw [Tr.get_e] at z
    cases z
  · have z : Tr.get l .e = some c := q
    rw [Tr.get_e] at z
    cases z
  · rcases List.mem_singleton.mp hp with rfl
    exact ⟨_, hv, a, (show (if (99 : Nat) = 99 then some a else GtL L K 99) = some a from if_pos rfl), rfl⟩
end
end
end DV
set_option Elab.async false
set_option linter.all false
set_option maxRecDepth 100000
set_option maxHeartbeats 4000000
namespace K28
open PySem PySem.Spec PyProof.Rows L2 ER EV DV
noncomputable section
def lRed : Bn := .s .z
def lBlue : Bn := .t (.s (.s (.t (.s .z))))
def tx (l : List Nat) : Str := ⟨⟨l⟩⟩
def insP (w : List Nat) (p n : Bn) : Cell := .ins 13 [(tx [107, 105, 110, 100, 115], .tup [.tup [.tup [.str (tx w), .int (.ofNat 0)]]]), (tx [112, 97, 114, 116, 115], .loc p), (tx [110, 117, 109, 98, 101, 114, 101, 100, 95, 97, 116, 111, 109, 115], .loc n)]
def cs : List (Bn × Cell) := [(lRed, insP [114, 101, 100] (.s (.t (.s (.s (.s .z))))) (.s (.t (.t (.s (.s .z)))))), (.s (.t (.s (.s (.s .z)))), .lst [.loc lRed]), (.s (.t (.t (.s (.s .z)))), .lst [.tup [.str (tx [114, 101, 100]), .int (.ofNat 0)]]),
  (lBlue, insP [98] (.t (.s (.s (.t (.s (.s .z)))))) (.t (.s (.t (.t (.s (.s .z))))))), (.t (.s (.s (.t (.s (.s .z))))), .lst [.loc lBlue]), (.t (.s (.t (.t (.s (.s .z))))), .lst [.tup [.str (tx [98]), .int (.ofNat 0)]])]
def nx0 : Bn := .t (.t (.t (.t (.s (.s .z)))))
def sl0 : List (Nat × A) := [(1, .glo 99)]
def sl1 : List (Nat × A) := [(1, .glo 99), (2, .loc lRed), (3, .loc lBlue)]
def m0 : Out Fl := d_law1 (cl 20) (mkSl 10 sl0) ⟨.z, .e, 0⟩
def mT : Out Fl := d_l1 (cl 20) (mkSl 10 sl1) ⟨nx0, ofL cs, 0⟩
def mD : Out Fl := d_ld (cl 20) (mkSl 10 sl1) ⟨nx0, ofL cs, 5⟩
def mR : Out Fl := d_ret (cl 20) (mkSl 10 sl0) ⟨.z, .e, 0⟩
theorem closed0 : closedB .z [] = true := by kernel_rfl
theorem closed : closedB nx0 cs = true := by kernel_rfl
theorem inside0 : insideB sl0 [] = true := by kernel_rfl
theorem inside : insideB sl1 cs = true := by kernel_rfl
theorem j0 : chkQ (nxB 10 sl1 cs 0) m0 = true := by kernel_rfl
theorem jD : chkQ (nxB 10 sl1 cs 5) mD = true := by kernel_rfl
theorem jR : chkQ rtB mR = true := by kernel_rfl
theorem jP : isPick 8 mT = true := by kernel_rfl
theorem jP0 : isPick 3 (pickAt 0 mT) = true := by kernel_rfl
theorem jT0_0 : chkQ (nxB 10 sl1 cs 5) (pickAt 0 (pickAt 0 mT)) = true := by kernel_rfl
theorem jT0_1 : chkQ (nxB 10 sl1 cs 5) (pickAt 1 (pickAt 0 mT)) = true := by kernel_rfl
theorem jT0_2 : chkQ (nxB 10 sl1 cs 5) (pickAt 2 (pickAt 0 mT)) = true := by kernel_rfl
theorem jP1 : isPick 3 (pickAt 1 mT) = true := by kernel_rfl
theorem jT1_0 : chkQ (nxB 10 sl1 cs 5) (pickAt 0 (pickAt 1 mT)) = true := by kernel_rfl
theorem jT1_1 : chkQ (nxB 10 sl1 cs 5) (pickAt 1 (pickAt 1 mT)) = true := by kernel_rfl
theorem jT1_2 : chkQ (nxB 10 sl1 cs 5) (pickAt 2 (pickAt 1 mT)) = true := by kernel_rfl
theorem jP2 : isPick 3 (pickAt 2 mT) = true := by kernel_rfl
theorem jT2_0 : chkQ (nxB 10 sl1 cs 5) (pickAt 0 (pickAt 2 mT)) = true := by kernel_rfl
theorem jT2_1 : chkQ (nxB 10 sl1 cs 5) (pickAt 1 (pickAt 2 mT)) = true := by kernel_rfl
theorem jT2_2 : chkQ (nxB 10 sl1 cs 5) (pickAt 2 (pickAt 2 mT)) = true := by kernel_rfl
theorem jP3 : isPick 3 (pickAt 3 mT) = true := by kernel_rfl
theorem jT3_0 : chkQ (nxB 10 sl1 cs 5) (pickAt 0 (pickAt 3 mT)) = true := by kernel_rfl
theorem jT3_1 : chkQ (nxB 10 sl1 cs 5) (pickAt 1 (pickAt 3 mT)) = true := by kernel_rfl
theorem jT3_2 : chkQ (nxB 10 sl1 cs 5) (pickAt 2 (pickAt 3 mT)) = true := by kernel_rfl
theorem jP4 : isPick 3 (pickAt 4 mT) = true := by kernel_rfl
theorem jT4_0 : chkQ (nxB 10 sl1 cs 5) (pickAt 0 (pickAt 4 mT)) = true := by kernel_rfl
theorem jT4_1 : chkQ (nxB 10 sl1 cs 5) (pickAt 1 (pickAt 4 mT)) = true := by kernel_rfl
theorem jT4_2 : chkQ (nxB 10 sl1 cs 5) (pickAt 2 (pickAt 4 mT)) = true := by kernel_rfl
theorem jP5 : isPick 3 (pickAt 5 mT) = true := by kernel_rfl
theorem jT5_0 : chkQ (nxB 10 sl1 cs 5) (pickAt 0 (pickAt 5 mT)) = true := by kernel_rfl
theorem jT5_1 : chkQ (nxB 10 sl1 cs 5) (pickAt 1 (pickAt 5 mT)) = true := by kernel_rfl
theorem jT5_2 : chkQ (nxB 10 sl1 cs 5) (pickAt 2 (pickAt 5 mT)) = true := by kernel_rfl
theorem jP6 : isPick 3 (pickAt 6 mT) = true := by kernel_rfl
theorem jT6_0 : chkQ (nxB 10 sl1 cs 5) (pickAt 0 (pickAt 6 mT)) = true := by kernel_rfl
theorem jT6_1 : chkQ (nxB 10 sl1 cs 5) (pickAt 1 (pickAt 6 mT)) = true := by kernel_rfl
theorem jT6_2 : chkQ (nxB 10 sl1 cs 5) (pickAt 2 (pickAt 6 mT)) = true := by kernel_rfl
theorem jP7 : isPick 3 (pickAt 7 mT) = true := by kernel_rfl
theorem jT7_0 : chkQ (nxB 10 sl1 cs 5) (pickAt 0 (pickAt 7 mT)) = true := by kernel_rfl
theorem jT7_1 : chkQ (nxB 10 sl1 cs 5) (pickAt 1 (pickAt 7 mT)) = true := by kernel_rfl
theorem jT7_2 : chkQ (nxB 10 sl1 cs 5) (pickAt 2 (pickAt 7 mT)) = true := by kernel_rfl
theorem jT_all (X : Nat → List (Str × A) → Hh → Prop) : mT.All (fun f h => nxB 10 sl1 cs 5 f h = true) X := by
  refine pick_all jP fun r hr => ?_
  match r, hr with
  | 0, _ =>
    refine pick_all jP0 fun q hq => ?_
    match q, hq with
    | 0, _ => exact chkQ_all jT0_0
    | 1, _ => exact chkQ_all jT0_1
    | 2, _ => exact chkQ_all jT0_2
    | n + 3, h => exact absurd h (by omega)
  | 1, _ =>
    refine pick_all jP1 fun q hq => ?_
    match q, hq with
    | 0, _ => exact chkQ_all jT1_0
    | 1, _ => exact chkQ_all jT1_1
    | 2, _ => exact chkQ_all jT1_2
    | n + 3, h => exact absurd h (by omega)
  | 2, _ =>
    refine pick_all jP2 fun q hq => ?_
    match q, hq with
    | 0, _ => exact chkQ_all jT2_0
    | 1, _ => exact chkQ_all jT2_1
    | 2, _ => exact chkQ_all jT2_2
    | n + 3, h => exact absurd h (by omega)
  | 3, _ =>
    refine pick_all jP3 fun q hq => ?_
    match q, hq with
    | 0, _ => exact chkQ_all jT3_0
    | 1, _ => exact chkQ_all jT3_1
    | 2, _ => exact chkQ_all jT3_2
    | n + 3, h => exact absurd h (by omega)
  | 4, _ =>
    refine pick_all jP4 fun q hq => ?_
    match q, hq with
    | 0, _ => exact chkQ_all jT4_0
    | 1, _ => exact chkQ_all jT4_1
    | 2, _ => exact chkQ_all jT4_2
    | n + 3, h => exact absurd h (by omega)
  | 5, _ =>
    refine pick_all jP5 fun q hq => ?_
    match q, hq with
    | 0, _ => exact chkQ_all jT5_0
    | 1, _ => exact chkQ_all jT5_1
    | 2, _ => exact chkQ_all jT5_2
    | n + 3, h => exact absurd h (by omega)
  | 6, _ =>
    refine pick_all jP6 fun q hq => ?_
    match q, hq with
    | 0, _ => exact chkQ_all jT6_0
    | 1, _ => exact chkQ_all jT6_1
    | 2, _ => exact chkQ_all jT6_2
    | n + 3, h => exact absurd h (by omega)
  | 7, _ =>
    refine pick_all jP7 fun q hq => ?_
    match q, hq with
    | 0, _ => exact chkQ_all jT7_0
    | 1, _ => exact chkQ_all jT7_1
    | 2, _ => exact chkQ_all jT7_2
    | n + 3, h => exact absurd h (by omega)
  | n + 8, h => exact absurd h (by omega)
end
end K28
set_option Elab.async false
set_option linter.all false
set_option maxRecDepth 100000
set_option maxHeartbeats 4000000
namespace DV
open PySem PySem.Spec PyProof.Rows L2 ER EV
/-! ### the law at its call -/
/-- the promise of the law -/
def spLaw (K : PySem.W.Frag) (tabs : List (Addr × Str)) : Sp := fun vs H Q _ => ∃ (a : Addr) (ns : List Int), vs = [.ref a] ∧ ns.length ≤ 63 ∧ SqL K H a (ns.map V.int) ∧ LamX.Tabs tabs H ∧ ∀ H', Q (.bl true) H'
theorem law_atL {L : Lw} {row : PySem.W.OpenLaw} {w : World} {K : PySem.W.Frag} {mg : Str → Option Value} {h : Heap} {fa : Addr} {N : List Str} {d : He.DefD} {kk : Nat} (hrow : row.prog = L.P) (hd : d ∈ L.defs) (ea : d.at_ = (("law" : Str), none)) (en : d.name = "law") (eq : d.qual = "law") (e1 : d.dfl = []) (e2 : d.kwd = []) (S : FnScope N ["_law_script"] d.scope) (hb : BindF d ["_law_script"])
    (X : K.In h) (G : h.Ns mainGlobals mg) (c : SaysL L h K) (hfa : mg ("law" : Str) = some (.ref fa))
    (walk : ∀ (base : Heap) (cdv : Value) (A : Around) (outer : List Env) (s : Shared) (H : Hp) (E : XK), K.In base → (∀ p ∈ csL L K, LamX.TabB base mg p.1 p.2) → PySem.W.codeIn K cdv "law" = true → (∃ oc od fd' osl, K.lookup (He.fAd K (("law" : Str), none)) = some ⟨oc, od, .func fd', osl⟩ ∧ fd'.code = cdv) → Room kk (A.deeper (envOfC "law" d.scope s.heap.objs.size fa cdv)) →
      ∃ t, PSs (cxOf (L2.CX L.P w) L.P w K mg base N "law" d.scope fa cdv A outer s H E) d.body t ∧ ∀ vs H Q E', spLaw K (tabsL L K) vs H Q E' → t { nx := fun _ H' => Q .non H', rt := Q } (L2.start N vs) H) : LamX.LawAtS row w K (L2.CX L.P w) (kk + 1) 63 "_law_script" mg fa h := by
  obtain ⟨fd', F⟩ := c.d.defs hd
  have ef : He.fAd K d.at_ = fa := by
    have z := mg_fn X G c hd ea
    rw [hfa] at z
    exact (Value.ref.inj (Option.some.inj z)).symm
  have F' : FunD K "law" "law" d.params d.body d.scope [] [] fa fd' := by
    have z := F
    rw [en, eq, ef] at z
    unfold He.DefD.dvs He.DefD.kws at z
    rw [e1, e2] at z
    exact z
  have hb' : ∀ (kV doc pm : Value) (an : Option Addr) (cdv ct : Value) (us : List Value), us.length = ["_law_script"].length → bindArgs (PySem.W.fnOf "law" "law" d.params d.body d.scope .none kV doc pm an cdv ct) ⟨us, []⟩ = pure ((["_law_script"] : List Str).zip us) := by
    rcases hb.2 with ⟨_, z⟩ | ⟨z, _⟩
    · intro kV doc pm an cdv ct us hl
      have y := z kV doc pm an cdv ct us hl
      rw [en, eq] at y
      exact y
    · exact absurd e1 z
  refine ⟨fd', csL L K, spLaw K (tabsL L K), fun p hp => ?_, fun p hp => ?_, fun p hp => ?_, fun s u => FunD.bindsA (ps := ["_law_script"]) F' hb' s [u] rfl, fun H a ns hl _ hT hS => ?_, fun base XB GB TB => ?_⟩
  · obtain ⟨y, hy, rfl⟩ := List.mem_map.mp hp
    exact c.empty y hy
  · obtain ⟨y, hy, rfl⟩ := List.mem_map.mp hp
    exact c.out y hy
  · obtain ⟨y, hy, rfl⟩ := List.mem_map.mp hp
    exact PySem.W.codeHd_of_K X (c.hd y hy)
  · refine ⟨a, ns, rfl, hl, hS, fun p hp => ?_, fun _ => rfl⟩
    obtain ⟨y, hy, rfl⟩ := List.mem_map.mp hp
    exact ⟨#[], hT _ (List.mem_map.mpr ⟨y, hy, rfl⟩), trivial, fun _ cv z => nomatch (show (none : Option Value) = some cv from z)⟩
  · rw [hrow]
    obtain ⟨oc, od, dV, kV, doc, pm, an, cdv, ct, osl, rfl, lk, hcd, hD, hk'⟩ := F'.ex
    refine fn_of (k := kk) lk hcd S (fun vs H Q E hv => ?_) fun A outer s H vs Q E hr hv => ?_
    · obtain ⟨a, ns, rfl, _⟩ := hv
      rfl
    · have lk' := lk
      rw [← ef, ea] at lk'
      obtain ⟨t, ht, hq⟩ := walk base cdv A outer s H E XB TB hcd ⟨_, _, _, _, lk', rfl⟩ hr
      exact ⟨t, ht, hq vs H Q E hv⟩
/-! ### a def that calls what it is given: read -/
structure RTr (D : DTb) (c : Cc) (a : Str) (body : List Stmt) where
  t : TrD
  ok : TrB D c a body t
def rTr (D : DTb) (c : Cc) (a : Str) (body : List Stmt) : Option (RTr D c a body) := match body with
  | [.Assign [.Name y p1] init p2, .Try [.Expr (.Call (.Name a' p3) [] [] p4) p5] (h₀ :: hds) [] [] p6, .Return (some (.Name y' p7)) p8] =>
    if h : a' = a ∧ y' = y ∧ c.N[c.N.idxOf y]? = some y ∧ kindIs c.sc y .local = true ∧ okName y = true ∧ c.N.idxOf y ≠ 0 then
      (match rHd D c (h₀ :: hds), init with
        | some r, .Constant .none j p => some ⟨⟨c.N.length, c.N.idxOf y, none, .non, r.l⟩, by obtain ⟨rfl, rfl, h1, h2, h3, h4⟩ := h; exact .one h1 h2 h3 h4 rfl r.ok⟩
        | some r, .Tuple [] m p => some ⟨⟨c.N.length, c.N.idxOf y, none, .tup [], r.l⟩, by obtain ⟨rfl, rfl, h1, h2, h3, h4⟩ := h; exact .one h1 h2 h3 h4 rfl r.ok⟩
        | _, _ => none)
    else none
  | _ => none
theorem rTr_by {D : DTb} {c : Cc} {a : Str} {body : List Stmt} {t : TrD} (h : (rTr D c a body).map (·.t) = some t) : TrB D c a body t := by
  obtain ⟨r, _, e⟩ := Option.map_eq_some_iff.mp h
  rw [← e]
  exact r.ok
theorem nat_inj : ∀ {a b : Bn}, a.nat = b.nat → a = b
  | .z, .z, _ => rfl
  | .z, .s b, h => by
    have h : 0 = 2 * b.nat + 1 := h
    omega
  | .z, .t b, h => by
    have h : 0 = 2 * b.nat + 2 := h
    omega
  | .s a, .z, h => by
    have h : 2 * a.nat + 1 = 0 := h
    omega
  | .t a, .z, h => by
    have h : 2 * a.nat + 2 = 0 := h
    omega
  | .s a, .s b, h => by
    have h : 2 * a.nat + 1 = 2 * b.nat + 1 := h
    rw [nat_inj (a := a) (b := b) (by omega)]
  | .t a, .t b, h => by
    have h : 2 * a.nat + 2 = 2 * b.nat + 2 := h
    rw [nat_inj (a := a) (b := b) (by omega)]
  | .s a, .t b, h => by
    have h : 2 * a.nat + 1 = 2 * b.nat + 2 := h
    omega
  | .t a, .s b, h => by
    have h : 2 * a.nat + 2 = 2 * b.nat + 1 := h
    omega
end DV
set_option Elab.async false
set_option linter.all false
set_option maxRecDepth 100000
set_option maxHeartbeats 4000000
namespace K28
open PySem PySem.Spec PyProof.Rows L2 ER EV DV
/-! ### the law's own walk -/
theorem rd_law1 : dY D (rds (D := D) true 8 c_law (lawSt 1)).y = d_law1 := by kernel_rfl
theorem rd_l1 : dY D (rds (D := D) true 8 c_law (lawLoop.take 8)).y = d_l1 := by kernel_rfl
theorem rd_ld : dY D (rds (D := D) true 8 c_law (lawLoop.drop 8)).y = d_ld := by kernel_rfl
theorem rd_ret : dY D (rds (D := D) true 8 c_law (lawSt 3)).y = d_ret := by kernel_rfl
def p0 : Pos := ⟨0, 0, 0, 0⟩
def lawP : (Pos × Pos × Pos × Pos × Pos) × (Pos × Pos × Pos × Pos × Pos) × Nat := match (fd "law").2.1 with
  | [.Assign [.Name _ p1] (.Call (.Name _ p2) [.Name _ p3] [] p4) p5, _, .For (.Name _ p6) (.Call (.Name _ p7) [.Constant _ j p8] [] p9) _ [] p10, _] => ((p1, p2, p3, p4, p5), (p6, p7, p8, p9, p10), j)
  | _ => ((p0, p0, p0, p0, p0), (p0, p0, p0, p0, p0), 0)
theorem lawB_eq : ∃ (p1 p2 p3 p4 p5 p6 p7 p8 p9 p10 : Pos) (j : Nat), (fd "law").2.1 = .Assign [.Name "_law_spring_here" p1] (.Call (.Name "_law_spring" p2) [.Name "_law_script" p3] [] p4) p5 :: (lawSt 1 ++ (.For (.Name "_law_turn" p6) (.Call (.Name "range" p7) [.Constant (.int 5) j p8] [] p9) (lawLoop.take 8 ++ lawLoop.drop 8) [] p10 :: lawSt 3)) :=
  ⟨lawP.1.1, lawP.1.2.1, lawP.1.2.2.1, lawP.1.2.2.2.1, lawP.1.2.2.2.2, lawP.2.1.1, lawP.2.1.2.1, lawP.2.1.2.2.1, lawP.2.1.2.2.2.1, lawP.2.1.2.2.2.2, lawP.2.2, by kernel_rfl⟩
theorem ne1 : lawSt 1 ≠ [] := fun z => by
  have e : (lawSt 1).isEmpty = false := by kernel_rfl
  rw [z] at e
  cases e
theorem ne2 : lawLoop.take 8 ≠ [] := fun z => by
  have e : (lawLoop.take 8).isEmpty = false := by kernel_rfl
  rw [z] at e
  cases e
theorem kc : keptB cs ⟨nx0, ofL cs, 0⟩ = true := by kernel_rfl
theorem ks : slotsB sl1 (mkSl 10 sl1) = true := by kernel_rfl
theorem sub0 : ∀ p ∈ sl0, p ∈ sl1 := fun p hp => by
  rcases List.mem_singleton.mp hp with rfl
  exact List.mem_cons_self ..
section
variable {K : PySem.W.Frag} {w : World} {mg : Str → Option Value} {base : Heap}
theorem walk_law {fS f : Addr} {fdS : FuncData} {cd : Value} {A : Around} {outer : List Env} {s : Shared} {H : Hp} {E : XK} (DO : ∀ x, DOk (BxL LW K w mg base x)) (CO : ∀ x, CallG (BxL LW K w mg base x) 82 (cl 20)) (hq : ∀ x, QOk (BxL LW K w mg base x).bs "law" cd (some "law.<locals>."))
    (FS : FnOk P w K mg base (L2.CX P w) 2 fS fdS ["_law_script"] (spSpring K)) (mS : mg "_law_spring" = some (.ref fS)) (kS : PySem.W.keepIn K (.ref fS) = true) (bS : Binds K fdS ["_law_script"] []) (mR : mg "range" = none)
    (hr : Room 86 (A.deeper (envOfC "law" c_law.sc s.heap.objs.size f cd))) :
    ∃ t, PSs (cxOf (L2.CX P w) P w K mg base c_law.N "law" c_law.sc f cd A outer s H E) (fd "law").2.1 t ∧ ∀ vs H Q E', spLaw K (tabsL LW K) vs H Q E' → t { nx := fun _ H' => Q .non H', rt := Q } (L2.start c_law.N vs) H := by
  have O : ∀ x, Ok (BxL LW K w mg base x).bs 83 c_law (cxOf (L2.CX P w) P w K mg base c_law.N "law" c_law.sc f cd A outer s H E) E := fun x => ok_cx (B := (BxL LW K w mg base x).bs) sc_law (hr.mono (by decide)) (by decide) (hq x)
  have SG : SgI D c_law IxS (BxL LW K w mg base) 82 (cl 20) (cxOf (L2.CX P w) P w K mg base c_law.N "law" c_law.sc f cd A outer s H E) E := ⟨fun x => ⟨rfl, DO x, CO x, O x, fun _ => ⟨by decide, hr.mono (by decide)⟩⟩⟩
  obtain ⟨p1, p2, p3, p4, p5, p6, p7, p8, p9, p10, j, eb⟩ := lawB_eq
  rw [eb]
  clear eb
  have a1 := rds_ap (c := c_law) ne1 rd_law1
  have a2 := rds_ap (c := c_law) ne2 rd_l1
  have a3 : ∀ x, PSs (cxOf (L2.CX P w) P w K mg base c_law.N "law" c_law.sc f cd A outer s H E) (lawLoop.drop 8) (tSs (BxL LW K w mg base x).bs.S E (d_ld (cl 20))) := fun x => by
    have z := (rds (D := D) true 8 c_law (lawLoop.drop 8)).ok (SG.sg x)
    rw [rd_ld] at z
    exact z
  have a4 : ∀ x, PSs (cxOf (L2.CX P w) P w K mg base c_law.N "law" c_law.sc f cd A outer s H E) (lawSt 3) (tSs (BxL LW K w mg base x).bs.S E (d_ret (cl 20))) := fun x => by
    have z := (rds (D := D) true 8 c_law (lawSt 3)).ok (SG.sg x)
    rw [rd_ret] at z
    exact z
  generalize lawSt 1 = l1 at a1
  generalize lawLoop.take 8 = l2 at a2
  generalize lawLoop.drop 8 = l3 at a3
  generalize lawSt 3 = l4 at a4
  have j0 := j0
  have jT := jT_all
  have jD := jD
  have jR := jR
  unfold m0 at j0
  unfold mT at jT
  unfold mD at jD
  unfold K28.mR at jR
  generalize d_law1 = e1 at a1 j0
  generalize d_l1 = e2 at a2 jT
  generalize d_ld = e3 at a3 jD
  generalize d_ret = e4 at a4 jR
  generalize cl 20 = call at *
  refine ⟨_, pss_cons (ps_set (i := 1) sc_law.nd rfl (.inl rfl) (pe_call (E := E) FS (hr.mono (by decide)) rfl mS kS bS .nil (O ⟨0, 0, 0, 0, by decide⟩).pass (pa_cons (pv 0) pa_nil)))
    (a1.run SG (pss_cons (ps_for (O ⟨0, 0, 0, 0, by decide⟩).own rfl (pi_range1 rfl mR (pa_cons pe_int pa_nil)) (pg_name (i := 4) sc_law.nd rfl (.inl rfl)) (a2.run SG (pss_ex a3))) (pss_ex a4))), ?_⟩
  intro vs H Q E' hsp
  obtain ⟨a0, ns, rfl, hl, hs, hT, hQ⟩ := hsp
  refine ⟨_, rfl, a0, ns, rfl, hl, hs, fun a G L H1 kp nS nG nL sp => ?_⟩
  refine ⟨⟨a, G, L, 0, by decide⟩, seg (L := LW) (x := ⟨a, G, L, 0, by decide⟩) (m := 0) (sl := sl0) (cs := []) (sl' := sl0) (cs' := []) (nx := .z) rfl rfl rfl (fun p hp => hp) (fun p hp => hp) (Nat.le_refl _) closed0 inside0 (fun X => chkQ_all j0) (at_spring rfl rfl sp (tabs_keep hT kp)) fun σ1 H1 A1 => ?_⟩
  refine ⟨5, rfl, by decide, by decide, for_range (lo := 0) (n := 5) (g := gName 4) (tb := fun D' σ H => ∃ i, tSs (BxL LW K w mg base i).bs.S E (e2 call) { D' with nx := fun σ H => ∃ i, tSs (BxL LW K w mg base i).bs.S E (e3 call) D' σ H } σ H) (D := { nx := fun σ H => ∃ i, tSs (BxL LW K w mg base i).bs.S E (e4 call) { nx := fun _ H' => Q .non H', rt := Q } σ H, rt := Q }) (fun i σ H => ∃ h : 5 * i ≤ 500, AtX LW K ⟨a, G, L, 5 * i, h⟩ 10 sl1 cs 0 σ H) ⟨by decide, A1⟩ (fun i σ H i5 W => ?_) fun σ H W => ?_⟩
  · obtain ⟨ho, W⟩ := W
    refine ⟨⟨a, G, L, 5 * i, ho⟩, seg (L := LW) (x := ⟨a, G, L, 5 * i, ho⟩) (sl := sl1) (cs := cs) rfl rfl rfl (fun p hp => hp) (fun p hp => hp) (Nat.le_refl _) closed inside jT (at_set (i := 4) (by decide +kernel) W) fun σ3 H3 A3 => ?_⟩
    refine ⟨⟨a, G, L, 5 * i, ho⟩, seg (L := LW) (x := ⟨a, G, L, 5 * i, ho⟩) (sl := sl1) (cs := cs) rfl rfl rfl (fun p hp => hp) (fun p hp => hp) (Nat.le_refl _) closed inside (fun X => chkQ_all jD) A3 fun σ4 H4 A4 => ?_⟩
    exact ⟨by omega, at_off (x := ⟨a, G, L, 5 * i, ho⟩) (y := ⟨a, G, L, 5 * (i + 1), by omega⟩) (nx := nx0) rfl rfl rfl (fun p hp => hp) (fun p hp => hp) (by show 5 * i + 5 ≤ 5 * (i + 1) + 0; omega) closed inside (keptB_ok kc) (slotsB_ok ks) A4⟩
  · obtain ⟨ho, W⟩ := W
    exact ⟨⟨a, G, L, 500, by decide⟩, seg_ret (L := LW) (x := ⟨a, G, L, 5 * 5, ho⟩) (y := ⟨a, G, L, 500, by decide⟩) (sl := sl1) (cs := cs) (sl' := sl0) (cs' := []) (nx := .z) rfl rfl rfl sub0 (fun p hp => nomatch hp) (by show 5 * 5 + 0 ≤ 500 + 0; decide) closed0 inside0 (fun X => chkQ_all jR) W hQ⟩
end
end K28
set_option Elab.async false
set_option linter.all false
set_option maxRecDepth 100000
set_option maxHeartbeats 4000000
namespace K28
open PySem PySem.Spec PyProof.Rows L2 ER EV DV
theorem stat : LW.stat = true := by decide +kernel
theorem tb__law_tried : TrB D ⟨c__law_tried.N, w__law_tried.scope, none⟩ "_law_ask" w__law_tried.body tr__law_tried := rTr_by (by kernel_rfl)
theorem tf__law_tried : TrF LW "_law_tried" tr__law_tried := ⟨w__law_tried, c__law_tried.N, "_law_ask", by simp [Lw.defs, LW, lawW], rfl, rfl, rfl, rfl, rfl, tb__law_tried, sc__law_tried, rfl, by decide +kernel, by decide +kernel, fun kV doc pm an cdv ct us hl => match us, hl with | [u], _ => b0__law_tried kV doc pm an cdv ct u⟩
theorem tr_ok : ∀ x t, LW.D.tr.lookup x = some t → TrF LW x t := fun x t e => by
  have hm : (x, t) ∈ trL := mem_lk e
  simp only [trL, List.mem_cons, List.not_mem_nil, or_false, Prod.mk.injEq] at hm
  obtain ⟨rfl, rfl⟩ := hm
  exact tf__law_tried
theorem rows_ok (f : Bn) (d : He.DefD) (h : LW.fns[f.nat]? = some d) : (f.nat = 40 ∧ d = w__law_take ∧ pickQ f = some takeQ2) ∨ (pickQ f = none ∧ RowF LW (getQ tabT) f d) := by
  have hn : f.nat < 48 := (List.getElem?_eq_some_iff.mp h).1
  generalize e : f.nat = i at h hn
  match i, e, hn with
  | 0, e, _ => obtain rfl : f = .z := nat_inj e; cases h; exact .inr ⟨rfl, rw_is_integer⟩
  | 1, e, _ => obtain rfl : f = (.s .z) := nat_inj e; cases h; exact .inr ⟨rfl, rw_is_size⟩
  | 2, e, _ => obtain rfl : f = (.t .z) := nat_inj e; cases h; exact .inr ⟨rfl, rw_is_list⟩
  | 3, e, _ => obtain rfl : f = (.s (.s .z)) := nat_inj e; cases h; exact .inr ⟨rfl, rw_is_name⟩
  | 4, e, _ => obtain rfl : f = (.t (.s .z)) := nat_inj e; cases h; exact .inr ⟨rfl, rw_is_led⟩
  | 5, e, _ => obtain rfl : f = (.s (.t .z)) := nat_inj e; cases h; exact .inr ⟨rfl, rw_once⟩
  | 6, e, _ => obtain rfl : f = (.t (.t .z)) := nat_inj e; cases h; exact .inr ⟨rfl, rw_checked_atoms⟩
  | 7, e, _ => obtain rfl : f = (.s (.s (.s .z))) := nat_inj e; cases h; exact .inr ⟨rfl, rw_split⟩
  | 8, e, _ => obtain rfl : f = (.t (.s (.s .z))) := nat_inj e; cases h; exact .inr ⟨rfl, rw_touches⟩
  | 9, e, _ => obtain rfl : f = (.s (.t (.s .z))) := nat_inj e; cases h; exact .inr ⟨rfl, rw_orders⟩
  | 10, e, _ => obtain rfl : f = (.t (.t (.s .z))) := nat_inj e; cases h; exact .inr ⟨rfl, rw_numbered⟩
  | 11, e, _ => obtain rfl : f = (.s (.s (.t .z))) := nat_inj e; cases h; exact .inr ⟨rfl, rw_kind_of⟩
  | 12, e, _ => obtain rfl : f = (.t (.s (.t .z))) := nat_inj e; cases h; exact .inr ⟨rfl, rw_width_of⟩
  | 13, e, _ => obtain rfl : f = (.s (.t (.t .z))) := nat_inj e; cases h; exact .inr ⟨rfl, rw_ordered_kinds⟩
  | 14, e, _ => obtain rfl : f = (.t (.t (.t .z))) := nat_inj e; cases h; exact .inr ⟨rfl, rw_laid_out⟩
  | 15, e, _ => obtain rfl : f = (.s (.s (.s (.s .z)))) := nat_inj e; cases h; exact .inr ⟨rfl, rw_named⟩
  | 16, e, _ => obtain rfl : f = (.t (.s (.s (.s .z)))) := nat_inj e; cases h; exact .inr ⟨rfl, rw_map_into⟩
  | 17, e, _ => obtain rfl : f = (.s (.t (.s (.s .z)))) := nat_inj e; cases h; exact .inr ⟨rfl, rw_way_into⟩
  | 18, e, _ => obtain rfl : f = (.t (.t (.s (.s .z)))) := nat_inj e; cases h; exact .inr ⟨rfl, rw_led⟩
  | 19, e, _ => obtain rfl : f = (.s (.s (.t (.s .z)))) := nat_inj e; cases h; exact .inr ⟨rfl, rw_stepped⟩
  | 20, e, _ => obtain rfl : f = (.t (.s (.t (.s .z)))) := nat_inj e; cases h; exact .inr ⟨rfl, rw_solved⟩
  | 21, e, _ => obtain rfl : f = (.s (.t (.t (.s .z)))) := nat_inj e; cases h; exact .inr ⟨rfl, rw_check_patterns⟩
  | 22, e, _ => obtain rfl : f = (.t (.t (.t (.s .z)))) := nat_inj e; cases h; exact .inr ⟨rfl, rw_pieces_once⟩
  | 23, e, _ => obtain rfl : f = (.s (.s (.s (.t .z)))) := nat_inj e; cases h; exact .inr ⟨rfl, rw_helping⟩
  | 24, e, _ => obtain rfl : f = (.t (.s (.s (.t .z)))) := nat_inj e; cases h; exact .inr ⟨rfl, rw_vector⟩
  | 25, e, _ => obtain rfl : f = (.s (.t (.s (.t .z)))) := nat_inj e; cases h; exact .inr ⟨rfl, rw_kinds_of⟩
  | 26, e, _ => obtain rfl : f = (.t (.t (.s (.t .z)))) := nat_inj e; cases h; exact .inr ⟨rfl, rw_exponents⟩
  | 27, e, _ => obtain rfl : f = (.s (.s (.t (.t .z)))) := nat_inj e; cases h; exact .inr ⟨rfl, rw_helpers⟩
  | 28, e, _ => obtain rfl : f = (.t (.s (.t (.t .z)))) := nat_inj e; cases h; exact .inr ⟨rfl, rw_is_settled⟩
  | 29, e, _ => obtain rfl : f = (.s (.t (.t (.t .z)))) := nat_inj e; cases h; exact .inr ⟨rfl, rw_paper⟩
  | 30, e, _ => obtain rfl : f = (.t (.t (.t (.t .z)))) := nat_inj e; cases h; exact .inr ⟨rfl, rw_is_paper⟩
  | 31, e, _ => obtain rfl : f = (.s (.s (.s (.s (.s .z))))) := nat_inj e; cases h; exact .inr ⟨rfl, rw_apart⟩
  | 32, e, _ => obtain rfl : f = (.t (.s (.s (.s (.s .z))))) := nat_inj e; cases h; exact .inr ⟨rfl, rw_is_apart⟩
  | 33, e, _ => obtain rfl : f = (.s (.t (.s (.s (.s .z))))) := nat_inj e; cases h; exact .inr ⟨rfl, rw_check_counts⟩
  | 34, e, _ => obtain rfl : f = (.t (.t (.s (.s (.s .z))))) := nat_inj e; cases h; exact .inr ⟨rfl, rw_tell⟩
  | 35, e, _ => obtain rfl : f = (.s (.s (.t (.s (.s .z))))) := nat_inj e; cases h; exact .inr ⟨rfl, rw_all_settled⟩
  | 36, e, _ => obtain rfl : f = (.t (.s (.t (.s (.s .z))))) := nat_inj e; cases h; exact .inr ⟨rfl, rw_needless⟩
  | 37, e, _ => obtain rfl : f = (.s (.t (.t (.s (.s .z))))) := nat_inj e; cases h; exact .inr ⟨rfl, rw_least_more⟩
  | 38, e, _ => obtain rfl : f = (.t (.t (.t (.s (.s .z))))) := nat_inj e; cases h; exact .inr ⟨rfl, rw_always⟩
  | 39, e, _ => obtain rfl : f = (.s (.s (.s (.t (.s .z))))) := nat_inj e; cases h; exact .inr ⟨rfl, rw_always_paper⟩
  | 40, e, _ => obtain rfl : f = (.t (.s (.s (.t (.s .z))))) := nat_inj e; cases h; exact .inl ⟨rfl, rfl, rfl⟩
  | 41, e, _ => obtain rfl : f = (.s (.t (.s (.t (.s .z))))) := nat_inj e; cases h; exact .inr ⟨rfl, rw__law_one⟩
  | 42, e, _ => obtain rfl : f = (.t (.t (.s (.t (.s .z))))) := nat_inj e; cases h; exact .inr ⟨rfl, rw__law_few⟩
  | 43, e, _ => obtain rfl : f = (.s (.s (.t (.t (.s .z))))) := nat_inj e; cases h; exact .inr ⟨rfl, rw__law_same⟩
  | 44, e, _ => obtain rfl : f = (.t (.s (.t (.t (.s .z))))) := nat_inj e; cases h; exact .inr ⟨rfl, rw__law_wished⟩
  | 45, e, _ => obtain rfl : f = (.s (.t (.t (.t (.s .z))))) := nat_inj e; cases h; exact .inr ⟨rfl, rw__law_lists⟩
  | 46, e, _ => obtain rfl : f = (.t (.t (.t (.t (.s .z))))) := nat_inj e; cases h; exact .inr ⟨rfl, rw_Pattern_init⟩
  | 47, e, _ => obtain rfl : f = (.s (.s (.s (.s (.t .z))))) := nat_inj e; cases h; exact .inr ⟨rfl, rw_Pattern_add⟩
  | k + 48, _, h => exact absurd h (by omega)
section
variable {K : PySem.W.Frag} {h : Heap} {mg : Str → Option Value} {w : World} {base : Heap}
theorem gr_ok (x : IxS) : GrL LW K mg (BxL LW K w mg base x) := grX stat (fun _ => rfl) x
theorem do_ok (X : K.In h) (G : h.Ns mainGlobals mg) (c : SaysL LW h K) (x : IxS) : DOk (BxL LW K w mg base x) := dokL stat (by decide +kernel) tr_ok X G c (gr_ok x)
theorem defs_ok (X : K.In h) (G : h.Ns mainGlobals mg) (c : SaysL LW h K) (TB : ∀ p ∈ csL LW K, LamX.TabB base mg p.1 p.2) (x : IxS) (f : Bn) (n : Nat) (a : Addr) (e : (BxL LW K w mg base x).fa f = some (n, a)) : (∃ g, pickQ f = some g ∧ PickG (BxL LW K w mg base x) 2 g f n a) ∨ (pickQ f = none ∧ DefG (BxL LW K w mg base x) (getQ tabT) f n a) := by
  have e : (LW.fns[f.nat]?).map (fun d => (ar d, He.fAd K d.at_)) = some (n, a) := e
  obtain ⟨d, hd, e⟩ := Option.map_eq_some_iff.mp e
  obtain ⟨rfl, rfl⟩ := Prod.mk.inj e
  rcases rows_ok f d hd with ⟨e1, rfl, e2⟩ | ⟨e1, e2⟩
  · refine .inl ⟨takeQ2, e2, ?_⟩
    obtain ⟨fd', F⟩ := c.d.defs (List.mem_append_left _ (List.mem_of_getElem? hd))
    have b := bindF_ok F bd__law_take
    have F' : FunD K "_law_take" "_law_take" (defArgs sTake) (defBody sTake) (defScope sTake) [] [] (He.fAd K ("_law_take", none)) fd' := by
      have z : FunD K "_law_take" "_law_take" (fd "_law_take").1 (fd "_law_take").2.1 (fd "_law_take").2.2 [] [] (He.fAd K ("_law_take", none)) fd' := F
      rw [eTake] at z
      exact z
    exact ⟨fd', _, rfl, F'.kp, (ok_take F' (mg_free X G c (by decide +kernel)) (mg_free X G c (by decide +kernel))).imp fun vs H Q E q => take_sp x.ho rfl q, b⟩
  · exact .inr ⟨e1, defG_of c (gr_ok x) TB rfl hd e2⟩
theorem co_ok (X : K.In h) (G : h.Ns mainGlobals mg) (c : SaysL LW h K) (TB : ∀ p ∈ csL LW K, LamX.TabB base mg p.1 p.2) (x : IxS) : CallG (BxL LW K w mg base x) 82 (cl 20) := call_okG (k0 := 2) (by decide) (do_ok X G c x) (defs_ok X G c TB x) 20
theorem law_at (X : K.In h) (G : h.Ns mainGlobals mg) (c : SaysL LW h K) {fa : Addr} (hfa : mg ("law" : Str) = some (.ref fa)) : LamX.LawAtS PySem.Challenge.rw_tallytold_k28_patterns_refused_among_kno w K (L2.CX P w) 87 63 "_law_script" mg fa h := by
  refine law_atL (L := LW) (d := w_law) (N := c_law.N) (kk := 86) rfl (by simp [Lw.defs, LW, lawW]) rfl rfl rfl rfl rfl sc_law bd_law X G c hfa fun base cdv A outer s H E XB TB hcd hl hr => ?_
  obtain ⟨fdS, FS⟩ := c.d.defs (d := w__law_spring) (by simp [Lw.defs, LW, lawW])
  have bS := bindF_ok FS bd__law_spring
  have mS := mg_fn X G c (d := w__law_spring) (x := "_law_spring") (by simp [Lw.defs, LW, lawW]) rfl
  have FS' : FunD K "_law_spring" "_law_spring" (defArgs sSpring) (defBody sSpring) (defScope sSpring) [] [] (He.fAd K ("_law_spring", none)) fdS := by
    have z : FunD K "_law_spring" "_law_spring" (fd "_law_spring").1 (fd "_law_spring").2.1 (fd "_law_spring").2.2 [] [] (He.fAd K ("_law_spring", none)) fdS := FS
    rw [eSpring] at z
    exact z
  exact walk_law (fun x => do_ok X G c x) (fun x => co_ok X G c TB x) (fun x => q_of c TB rfl (by decide +kernel) (by decide +kernel) hl hcd) (ok_spring FS' (mg_free X G c (by decide +kernel))) mS FS'.kp bS (mg_free X G c (by decide +kernel)) hr
end
end K28
set_option Elab.async false
set_option linter.all false
set_option maxRecDepth 100000
set_option maxHeartbeats 0
open PySem PySem.W PySem.Calls PyProof.Rows DV
theorem PySem.Challenge.cw_tallytold_k28_patterns_refused_among_kno_holds : PySem.Challenge.rw_tallytold_k28_patterns_refused_among_kno.Holds := by
  w_on; o_law
  refine HandSHeadRun.head_any (r := OpenLaw.row PySem.Challenge.rw_tallytold_k28_patterns_refused_among_kno) (q := view (OpenLaw.row PySem.Challenge.rw_tallytold_k28_patterns_refused_among_kno).prog [116]) (H := hkL K28.LW) (ob := obL K28.LW) (M := 12000) (loose := K28.names) (d := HandSHeadRun.topDef (OpenLaw.row PySem.Challenge.rw_tallytold_k28_patterns_refused_among_kno).prog 116) (kwd := []) (obL_eq K28.LW)
    (by kernel_rfl) (fun s => by kernel_rfl) K28.run (by kernel_rfl) (by kernel_rfl) (by kernel_rfl) (by rfl) (by first | assumption | decide +kernel) (by decide +kernel) ⟨rfl, rfl, rfl, rfl, rfl, by decide +kernel⟩ ?hw ?hc
  case hw => w_witness2
  case hc =>
    refine LamX.walk_ofTsE (l := PySem.Challenge.rw_tallytold_k28_patterns_refused_among_kno) (n := 63) (k := 87) (x := "_law_script") (CX := fun w => L2.CX K28.P w) rfl (by decide) (by kernel_rfl) ⟨rfl, by decide, by decide⟩ ?F ?X
    case F =>
      intro w mg fa h Y G hmg0
      obtain ⟨K, KX, c⟩ := Y
      have hmg : mg ("law" : PySem.Str) = some (.ref fa) := by
        have e : (HandSHeadRun.topDef (OpenLaw.row PySem.Challenge.rw_tallytold_k28_patterns_refused_among_kno).prog 116).name = ("law" : PySem.Str) := by kernel_rfl
        rw [← e]
        exact hmg0
      exact ⟨K, KX, K28.law_at KX G c hmg⟩
    case X =>
      intro w H s e s' q
      obtain ⟨_, _, _, _, _, _, _, _, _, _, _, _, z⟩ := q
      exact z
