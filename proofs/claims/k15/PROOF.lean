import PyProof.Rows.All
import Wide.All
import OpenK.AllK
import Wide.FinOn
import HandS.ForMost
import HandS.ForExc
import HandS.Wide
import HandS.Property
import HandS.OwnEq
import HandS.TupAny
import HandS.Flow
import HandS.IsInst
import HandS.Defaults
import HandS.Star
import HandS.Deep
import HandS.WideBits
import HandS.RaiseMore
import HandS.FStr
import HandS.Text
import HandS.ClsMeth
import PyProof.ReprRoads
import KE.KCallOwn
import KE.KFmtOwn
import HandS.HeadHook4
import HandS.Head2
import HandS.HeadEnd
import HandS.HeadWalk
import HandS.More
import KE.GoesEnum
import HandS.Style
import PySem.Challenge.RW_undotables_k15_whole_repeats_of_repeats
set_option Elab.async false
set_option linter.all false
set_option maxRecDepth 100000
set_option maxHeartbeats 4000000
/-! ### EV: a small evaluator over plain data -/
namespace EV
open PySem L2

/-- built-in types -/
inductive BT where
  | int | bool | str | tuple | list | dict | non | valErr | lookErr | arithErr
  deriving DecidableEq, Inhabited
def BT.name : BT → String
  | .int => "int"
  | .bool => "bool"
  | .str => "str"
  | .tuple => "tuple"
  | .list => "list"
  | .dict => "dict"
  | .non => "NoneType"
  | .valErr => "ValueError"
  | .lookErr => "LookupError"
  | .arithErr => "ArithmeticError"
/-- plain data: what a Python value is worth. Lists, instances inside are never written any more. -/
inductive D where
  | non | bl (b : Bool) | int (i : Int) | str (s : Str)
  | tup (ds : List D) | lst (ds : List D)
  | ins (C : Nat) (ns : List Nat) (ds : List D)
  | gl (x : Nat) | ty (n : BT)
  deriving Inhabited

/-- a slot: not set; a value; an object that this slot alone holds (io: it was handed in; lk: it is walked, not to be written) -/
inductive Sl where
  | un | val (d : D) | own (io lk : Bool) (d : D)
  deriving Inhabited
/-- an expression's worth: a value; a new object that nothing else holds; the object of slot i -/
inductive R where
  | val (d : D) | tmp (d : D) | bor (i : Nat)
  deriving Inhabited
structure Ex where
  C : Nat
  ns : List Nat
  ds : List D
inductive Res (α : Type) where
  | ok (a : α) (σ : List Sl) | exc (x : Ex) (σ : List Sl) | fail
abbrev M (α : Type) := List Sl → Res α
def ret {α : Type} (a : α) : M α := fun σ => .ok a σ
def stuck {α : Type} : M α := fun _ => .fail
def bnd {α β : Type} (m : M α) (f : α → M β) : M β := fun σ => match m σ with
  | .ok a σ' => f a σ'
  | .exc x σ' => .exc x σ'
  | .fail => .fail
def ofO {α : Type} : Option α → M α
  | some a => ret a
  | none => stuck
theorem ret_def {α : Type} (a : α) (σ : List Sl) : ret a σ = .ok a σ := rfl
theorem stuck_def {α : Type} (σ : List Sl) : (stuck : M α) σ = .fail := rfl
theorem bnd_ok {α β : Type} {m : M α} {f : α → M β} {σ σ' : List Sl} {a : α} (h : m σ = .ok a σ') : bnd m f σ = f a σ' := by unfold bnd; rw [h]
theorem ofO_some {α : Type} (a : α) (σ : List Sl) : ofO (some a) σ = .ok a σ := rfl
theorem ofO_none {α : Type} (σ : List Sl) : ofO (none : Option α) σ = .fail := rfl

/-- what stands in r now -/
def der (r : R) : M D := fun σ => match r with
  | .val d => .ok d σ
  | .tmp d => .ok d σ
  | .bor i => match σ[i]? with
    | some (.own _ _ d) => .ok d σ
    | some (.val d) => .ok d σ
    | _ => .fail
/-- r goes into other data -/
def frz (r : R) : M D := fun σ => match r with
  | .val d => .ok d σ
  | .tmp d => .ok d σ
  | .bor i => match σ[i]? with
    | some (.own false false d) => .ok d (σ.set i (.val d))
    | some (.val d) => .ok d σ
    | _ => .fail

inductive Bi where
  | len | max | min | abs | isinst | all | any | tuple | list | int | divmod | sum | str | repr | bool
  deriving DecidableEq
/-- targets -/
inductive Tg where
  | name (i : Nat) | nil | cons (t r : Tg) | tup (t : Tg) | bad

/-- expressions; argument lists are chains of nil, arg, star, kw; what is walked: rng, enm, sq; tests: tn, ta, to, ti, tc, tc2, tr -/
inductive E where
  | nil | arg (e r : E) | star (e r : E) | kw (n : Nat) (e r : E)
  | c (d : D) | v (i : Nat) | b (i : Nat) | g (x : Nat)
  | bin (op : Operator) (a b : E) | neg (a : E)
  | cmp (op : CmpOp) (a b : E) | cmp2 (o1 o2 : CmpOp) (a b c : E)
  | not (a : E) | and (a b : E) | or (a b : E) | ife (t a b : E)
  | tup (es : E) | lst (es : E)
  | bi (f : Bi) (es : E) | call (f : Nat) (es : E) | mk (C : Nat) (es : E)
  | meth (o : E) (m : Nat) (es : E) | smeth (o : E) (m : Nat) (es : E) | attr (o : E) (f : Nat)
  | callv (f es : E) | cmeth (C m : Nat) (es : E) | fst (es : E) | fmt (e : E)
  | ix (o i : E) | sl (o lo hi : E) | rev (o : E) | lc (e : E) (t : Tg) (ws : List Nat) (it : E) (p : E)
  | rng (es : E) | enm (e : E) | sq (e : E) | pt (e : E)
  | tn (a : E) | ta (a b : E) | to (a b : E) | ti (t a b : E) | tc (op : CmpOp) (a b : E) | tc2 (o1 o2 : CmpOp) (a b c : E) | tr (e : E)
  | bad

inductive S where
  | nil | seq (s r : S)
  | set (t : Tg) (e : E) | par (is : List Nat) (es : E) | setix (i : Nat) (k e : E) | setat (i : Nat) (f : Nat) (e : E)
  | expr (e : E) | ret (e : E) | retv (i : Nat) | ite (t : E) (a b : S) | for (t : Tg) (it : E) (a : S)
  | brk | cont | raise (C : Nat) (es : E) | aug (i : Nat) (op : Operator) (e : E)
  | unp (i : Nat) (k : Int) (j : Nat) (e : E) | whl (t : E) (a : S)
  | app (i : Nat) (e : E) | ext (i : Nat) (e : E)
  | bad

/-- a def: its parameters' number, its slots' number, the defaults of its last parameters, its body -/
structure Fn where
  np : Nat
  ns : Nat
  star : Bool
  dfl : List D
  body : S
inductive At where
  | meth (f : Nat) | prop (f : Nat) | con (d : D) | cmet (f : Nat) | smet (f : Nat)
structure Cl where
  init : Option Nat
  attrs : List (Nat × At)
  flds : List Nat
/-- a type: a built-in one, a class of the text -/
inductive Tk where
  | ty (n : BT) | cl (C : Nat)
  deriving DecidableEq
structure Prog where
  fn : Nat → Option Fn
  cl : Nat → Option Cl
  con : Nat → Option D
  isa : Tk → Tk → Option Bool

/-! ### operations on data -/
def lim : Nat := 16777216
def truth : D → Option Bool
  | .non => some false
  | .bl b => some b
  | .int i => some (i != 0)
  | .str s => if s.length ≤ lim then some ((s.length : Int) != 0) else none
  | .tup ds => some (!ds.isEmpty)
  | .lst ds => some (!ds.isEmpty)
  | _ => none
mutual
def toP : D → Option PyData
  | .non => some .none
  | .bl b => some (.bool b)
  | .int i => some (.int i)
  | .str s => some (.str s)
  | .tup ds => (toPs ds).map .tuple
  | .lst ds => (toPs ds).map .list
  | _ => none
def toPs : List D → Option (List PyData)
  | [] => some []
  | d :: ds => match toP d, toPs ds with
    | some p, some ps => some (p :: ps)
    | _, _ => none
end
def eqD (a b : D) : Option Bool := match toP a, toP b with
  | some p, some q => if SeqAt.shaped p && SeqAt.shaped q then some (PyData.eqv p q) else none
  | _, _ => none
/-- a product that the machine makes -/
def mulOk (i j : Int) : Prop := (-18446744073709551616 < i ∧ i < 18446744073709551616) ∨ (-18446744073709551616 < j ∧ j < 18446744073709551616) ∨ i.natAbs.log2 + j.natAbs.log2 < 1000000
instance (i j : Int) : Decidable (mulOk i j) := by unfold mulOk; infer_instance
def binF : Operator → D → D → Option R
  | .Add, .int i, .int j => some (.val (.int (i + j)))
  | .Add, .str x, .str y => if x.length + y.length ≤ lim then some (.val (.str (x ++ y))) else none
  | .Add, .tup x, .tup y => if x.length + y.length ≤ lim then some (.val (.tup (x ++ y))) else none
  | .Add, .lst x, .lst y => if x.length + y.length ≤ lim then some (.tmp (.lst (x ++ y))) else none
  | .Sub, .int i, .int j => some (.val (.int (i - j)))
  | .Mult, .int i, .int j => if mulOk i j then some (.val (.int (i * j))) else none
  | .Mult, .str x, .int n => if 0 ≤ n ∧ n < 1000000 ∧ x.length * n.toNat ≤ lim then some (.val (.str (Txt.mul x n))) else none
  | .Mod, .int i, .int j => if 0 < j then some (.val (.int (i % j))) else none
  | .FloorDiv, .int i, .int j => if 0 < j ∧ j.natAbs.log2 < 9000 then some (.val (.int (i / j))) else none
  | .Pow, .int i, .int j => if 0 ≤ j ∧ j ≤ 1000000 ∧ i.natAbs < 2 ^ 64 then some (.val (.int (i ^ j.toNat))) else none
  | _, _, _ => none
/-- a list that is new, times an int; else by the data -/
def binR (op : Operator) (r : R) (x y : D) : Option R := match op, r, y with
  | .Mult, .tmp (.lst x), .int n => if 0 ≤ n ∧ n < 1000000 ∧ x.length * n.toNat ≤ lim then some (.tmp (.lst (List.replicate n.toNat x).flatten)) else none
  | op, _, y => binF op x y
/-- x in a sequence -/
def inF (x : D) (ds : List D) : Option Bool := match toP x, toPs ds with
  | some p, some qs => if SeqAt.shaped p && SeqAt.shaped (.list qs) then some (qs.any fun z => PyData.eqv z p) else none
  | _, _ => none
/-- one of the flat things that `in` of a sequence looks at -/
def flat : D → Bool
  | .non => true
  | .bl _ => true
  | .int _ => true
  | .str _ => true
  | _ => false
def cmpF : CmpOp → D → D → Option Bool
  | .Eq, a, b => eqD a b
  | .NotEq, a, b => (eqD a b).map (!·)
  | .Lt, .int i, .int j => some (decide (i < j))
  | .LtE, .int i, .int j => some (decide (i ≤ j))
  | .Gt, .int i, .int j => some (decide (j < i))
  | .GtE, .int i, .int j => some (decide (j ≤ i))
  | .Is, .non, .non => some true
  | .Is, .bl _, .non => some false
  | .Is, .int _, .non => some false
  | .Is, .str _, .non => some false
  | .Is, .tup _, .non => some false
  | .Is, .lst _, .non => some false
  | .Is, .ins _ _ _, .non => some false
  | .IsNot, .non, .non => some false
  | .IsNot, .bl _, .non => some true
  | .IsNot, .int _, .non => some true
  | .IsNot, .str _, .non => some true
  | .IsNot, .tup _, .non => some true
  | .IsNot, .lst _, .non => some true
  | .IsNot, .ins _ _ _, .non => some true
  | .In, .str x, .str y => some (!(Builtin.Str.occurrences y x 0 y.length 1).isEmpty)
  | .NotIn, .str x, .str y => some (!(!(Builtin.Str.occurrences y x 0 y.length 1).isEmpty))
  | .In, x, .lst ds => inF x ds
  | .In, x, .tup ds => inF x ds
  | .NotIn, x, .lst ds => (inF x ds).map (!·)
  | .NotIn, x, .tup ds => (inF x ds).map (!·)
  | _, _, _ => none
def ixF : D → D → Option D
  | .tup ds, .int i => atI ds i
  | .lst ds, .int i => atI ds i
  | .str s, .int i => if s.length ≤ lim then (atI s.cps.toList i).map fun c => .str ⟨#[c]⟩ else none
  | _, _ => none
def cutL (xs : List D) (lo hi : Option Int) : List D := (xs.drop (HT.sIx xs.length 0 lo)).take (HT.sIx xs.length xs.length hi - HT.sIx xs.length 0 lo)
def slF (d : D) (lo hi : Option Int) : Option R := match d with
  | .tup ds => some (.val (.tup (cutL ds lo hi)))
  | .lst ds => some (.tmp (.lst (cutL ds lo hi)))
  | .str s => if s.length ≤ lim then some (.val (.str (cutS s lo hi))) else none
  | _ => none
end EV

set_option Elab.async false
set_option linter.all false
set_option maxRecDepth 100000
set_option maxHeartbeats 4000000
namespace EV
open PySem L2

/-- the links of the data to the text: the written part, the addresses of the module's names, the names by number, the defaults of the defs -/
structure Lk where
  K : PySem.W.Frag
  ad : Nat → Addr
  nm : Nat → Str
  dv : Nat → List V

def TupK (K : PySem.W.Frag) (a : Addr) (xs : List V) : Prop :=
  ∃ (o : Obj) (its : Array Value) (n : Nat), K.lookup a = some o ∧ o.cls = .type "tuple" ∧ o.data = .seq its n ∧ its.size ≤ sizeLine ∧ Vals xs its.toList
mutual
/-- the value v is worth the data d; m: the objects that may be written, no data looks at them -/
def RV (L : Lk) (H : Hp) (m : Addr → Prop) : D → V → Prop
  | .non, v => v = .non
  | .bl b, v => v = .bl b
  | .int i, v => v = .int i
  | .str s, v => v = .str s
  | .gl x, v => v = .ref (L.ad x)
  | .ty n, v => v = .ty n.name
  | .tup ds, v => ∃ a xs, v = .ref a ∧ ((¬ m a ∧ Rd H a (.tup xs)) ∨ TupK L.K a xs) ∧ RVs L H m ds xs
  | .lst ds, v => ∃ a xs, v = .ref a ∧ (¬ m a ∧ Rd H a (.lst xs)) ∧ RVs L H m ds xs
  | .ins C ns ds, v => ∃ a dx xs, v = .ref a ∧ ¬ m a ∧ H a = some (.ins (L.ad C) dx ((ns.map L.nm).zip xs)) ∧ ns.length = xs.length ∧ RVs L H m ds xs
def RVs (L : Lk) (H : Hp) (m : Addr → Prop) : List D → List V → Prop
  | [], vs => vs = []
  | d :: ds, vs => ∃ v r, vs = v :: r ∧ RV L H m d v ∧ RVs L H m ds r
end

/-- the object at a, which its slot alone holds, is worth d -/
def RO (L : Lk) (H : Hp) (m : Addr → Prop) (a : Addr) : D → Prop
  | .lst ds => ∃ xs, H a = some (.lst xs) ∧ RVs L H m ds xs
  | .ins C ns ds => ∃ dx xs, H a = some (.ins (L.ad C) dx ((ns.map L.nm).zip xs)) ∧ ns.length = xs.length ∧ RVs L H m ds xs
  | _ => False

/-- what no one may write is kept -/
def Kp (H : Hp) (m : Addr → Prop) (H' : Hp) (m' : Addr → Prop) : Prop := ∀ a o, H a = some o → ¬ m a → H' a = some o ∧ ¬ m' a

section
variable {L : Lk} {H H' : Hp} {m m' : Addr → Prop}
theorem Kp.rd (k : Kp H m H' m') {a : Addr} {u : HO} (hm : ¬ m a) (r : Rd H a u) : ¬ m' a ∧ Rd H' a u := by
  rcases r with r | ⟨o, r⟩
  · exact ⟨(k _ _ r hm).2, .inl (k _ _ r hm).1⟩
  · exact ⟨(k _ _ r hm).2, .inr ⟨o, (k _ _ r hm).1⟩⟩
mutual
theorem RV.mono (k : Kp H m H' m') : ∀ (d : D) (v : V), RV L H m d v → RV L H' m' d v
  | .non, v, h => by simp only [RV] at h ⊢; exact h
  | .bl b, v, h => by simp only [RV] at h ⊢; exact h
  | .int i, v, h => by simp only [RV] at h ⊢; exact h
  | .str s, v, h => by simp only [RV] at h ⊢; exact h
  | .gl x, v, h => by simp only [RV] at h ⊢; exact h
  | .ty n, v, h => by simp only [RV] at h ⊢; exact h
  | .tup ds, v, h => by
    simp only [RV] at h ⊢
    obtain ⟨a, xs, e, q, r⟩ := h
    exact ⟨a, xs, e, q.imp (fun q => k.rd q.1 q.2) id, RVs.mono k ds xs r⟩
  | .lst ds, v, h => by
    simp only [RV] at h ⊢
    obtain ⟨a, xs, e, q, r⟩ := h
    exact ⟨a, xs, e, k.rd q.1 q.2, RVs.mono k ds xs r⟩
  | .ins C ns ds, v, h => by
    simp only [RV] at h ⊢
    obtain ⟨a, dx, xs, e, q, e2, hl, r⟩ := h
    exact ⟨a, dx, xs, e, (k _ _ e2 q).2, (k _ _ e2 q).1, hl, RVs.mono k ds xs r⟩
theorem RVs.mono (k : Kp H m H' m') : ∀ (ds : List D) (vs : List V), RVs L H m ds vs → RVs L H' m' ds vs
  | [], vs, h => by simp only [RVs] at h ⊢; exact h
  | d :: ds, vs, h => by
    simp only [RVs] at h ⊢
    obtain ⟨v, r, e, h1, h2⟩ := h
    exact ⟨v, r, e, RV.mono k d v h1, RVs.mono k ds r h2⟩
end
theorem RVs.length : ∀ {ds : List D} {vs : List V}, RVs L H m ds vs → ds.length = vs.length
  | [], vs, h => by simp only [RVs] at h; rw [h]; rfl
  | d :: ds, vs, h => by
    simp only [RVs] at h
    obtain ⟨v, r, e, _, h2⟩ := h
    rw [e, List.length_cons, List.length_cons, RVs.length h2]
theorem RVs.nil : RVs L H m [] [] := by simp only [RVs]
theorem RVs.cons {d : D} {ds : List D} {v : V} {vs : List V} (h : RV L H m d v) (t : RVs L H m ds vs) : RVs L H m (d :: ds) (v :: vs) := by
  simp only [RVs]; exact ⟨v, vs, rfl, h, t⟩
theorem RVs.append : ∀ {ds es : List D} {vs us : List V}, RVs L H m ds vs → RVs L H m es us → RVs L H m (ds ++ es) (vs ++ us)
  | [], _, vs, _, h, t => by simp only [RVs] at h; rw [h]; exact t
  | d :: ds, es, vs, us, h, t => by
    simp only [RVs] at h
    obtain ⟨v, r, e, h1, h2⟩ := h
    rw [e]
    exact RVs.cons h1 (RVs.append h2 t)
theorem RVs.take : ∀ {ds : List D} {vs : List V} (n : Nat), RVs L H m ds vs → RVs L H m (ds.take n) (vs.take n)
  | _, _, 0, _ => by simp only [List.take_zero]; exact .nil
  | [], vs, n + 1, h => by simp only [RVs] at h; rw [h]; simp only [List.take_nil]; exact .nil
  | d :: ds, vs, n + 1, h => by
    simp only [RVs] at h
    obtain ⟨v, r, e, h1, h2⟩ := h
    rw [e]
    exact RVs.cons h1 (RVs.take n h2)
theorem RVs.drop : ∀ {ds : List D} {vs : List V} (n : Nat), RVs L H m ds vs → RVs L H m (ds.drop n) (vs.drop n)
  | _, _, 0, h => h
  | [], vs, n + 1, h => by simp only [RVs] at h; rw [h]; simp only [List.drop_nil]; exact .nil
  | d :: ds, vs, n + 1, h => by
    simp only [RVs] at h
    obtain ⟨v, r, e, h1, h2⟩ := h
    rw [e]
    exact RVs.drop n h2
theorem RVs.get : ∀ {ds : List D} {vs : List V} {i : Nat} {d : D}, RVs L H m ds vs → ds[i]? = some d → ∃ v, vs[i]? = some v ∧ RV L H m d v
  | [], _, _, _, _, e => by simp at e
  | c :: ds, vs, 0, d, h, e => by
    simp only [RVs] at h
    obtain ⟨v, r, e2, h1, h2⟩ := h
    simp at e; subst e
    exact ⟨v, by rw [e2]; rfl, h1⟩
  | c :: ds, vs, i + 1, d, h, e => by
    simp only [RVs] at h
    obtain ⟨v, r, e2, h1, h2⟩ := h
    obtain ⟨u, h3, h4⟩ := RVs.get (i := i) (d := d) h2 (by simpa using e)
    exact ⟨u, by rw [e2]; simpa using h3, h4⟩
theorem RVs.setAt {d : D} {v : V} (hd : RV L H m d v) : ∀ {ds : List D} {vs : List V} (i : Nat), RVs L H m ds vs → RVs L H m (ds.set i d) (vs.set i v)
  | [], vs, _, h => by simp only [RVs] at h; rw [h]; exact .nil
  | c :: ds, vs, 0, h => by
    simp only [RVs] at h
    obtain ⟨u, r, e2, h1, h2⟩ := h
    rw [e2]; exact .cons hd h2
  | c :: ds, vs, i + 1, h => by
    simp only [RVs] at h
    obtain ⟨u, r, e2, h1, h2⟩ := h
    rw [e2]; exact .cons h1 (RVs.setAt hd i h2)
theorem RO.mono (k : Kp H m H' m') {a : Addr} {d : D} (e : ∀ o, H a = some o → H' a = some o) (h : RO L H m a d) : RO L H' m' a d := by
  cases d with
  | lst ds => obtain ⟨xs, h1, h2⟩ := h; exact ⟨xs, e _ h1, RVs.mono k _ _ h2⟩
  | ins C ns ds => obtain ⟨dx, xs, h1, hl, h2⟩ := h; exact ⟨dx, xs, e _ h1, hl, RVs.mono k _ _ h2⟩
  | _ => exact h.elim
theorem RO.there {a : Addr} {d : D} (h : RO L H m a d) : ∃ o, H a = some o := by
  cases d with
  | lst ds => obtain ⟨xs, h1, h2⟩ := h; exact ⟨_, h1⟩
  | ins C ns ds => obtain ⟨dx, xs, h1, hl, h2⟩ := h; exact ⟨_, h1⟩
  | _ => exact h.elim
/-- data out of an object that is let go -/
theorem RO.rv {a : Addr} {d : D} (h : RO L H m a d) (hm : ¬ m a) : RV L H m d (.ref a) := by
  cases d with
  | lst ds => obtain ⟨xs, h1, h2⟩ := h; simp only [RV]; exact ⟨a, xs, rfl, ⟨hm, .inl h1⟩, h2⟩
  | ins C ns ds => obtain ⟨dx, xs, h1, hl, h2⟩ := h; simp only [RV]; exact ⟨a, dx, xs, rfl, hm, h1, hl, h2⟩
  | _ => exact h.elim
end

/-- the slots that hold an object of their own; those that may write it -/
def Ow (σ : List Sl) (τ : St) (a : Addr) : Prop := ∃ (i : Nat) (io lk : Bool) (d : D), σ[i]? = some (Sl.own io lk d) ∧ τ[i]? = some (some (V.ref a))
def Wr (σ : List Sl) (τ : St) (a : Addr) : Prop := ∃ (i : Nat) (io : Bool) (d : D), σ[i]? = some (Sl.own io false d) ∧ τ[i]? = some (some (V.ref a))
theorem Wr.ow {σ : List Sl} {τ : St} {a : Addr} (h : Wr σ τ a) : Ow σ τ a := let ⟨i, io, d, h1, h2⟩ := h; ⟨i, io, false, d, h1, h2⟩

structure Rel (L : Lk) (m : Addr → Prop) (H : Hp) (σ : List Sl) (τ : St) : Prop where
  mH : ∀ a, m a → ∃ o, H a = some o
  len : σ.length = τ.length
  val : ∀ (i : Nat) (d : D), σ[i]? = some (Sl.val d) → ∃ v, τ[i]? = some (some v) ∧ RV L H m d v
  own : ∀ (i : Nat) (io lk : Bool) (d : D), σ[i]? = some (Sl.own io lk d) → ∃ a, τ[i]? = some (some (V.ref a)) ∧ m a ∧ RO L H m a d
  inj : ∀ (i j : Nat) (io lk jo lj : Bool) (d e : D) (a : Addr), σ[i]? = some (Sl.own io lk d) → σ[j]? = some (Sl.own jo lj e) → τ[i]? = some (some (V.ref a)) → τ[j]? = some (some (V.ref a)) → i = j

/-- from one state to a later one -/
structure Step (L : Lk) (σ : List Sl) (τ : St) (m : Addr → Prop) (H : Hp) (σ' : List Sl) (τ' : St) (m' : Addr → Prop) (H' : Hp) : Prop where
  rel : Rel L m' H' σ' τ'
  frame : ∀ a o, H a = some o → ¬ Wr σ τ a → H' a = some o ∧ (m' a ↔ m a)
  own : ∀ a, Ow σ' τ' a → Ow σ τ a ∨ H a = none
  wr : ∀ a, Wr σ' τ' a → Wr σ τ a ∨ H a = none
  io : ∀ (i : Nat) (lk : Bool) (d : D), σ[i]? = some (Sl.own true lk d) → τ'[i]? = τ[i]? ∧ ∃ e, σ'[i]? = some (Sl.own true lk e)
  lkd : ∀ (i : Nat) (io : Bool) (d : D), σ[i]? = some (Sl.own io true d) → τ'[i]? = τ[i]? ∧ σ'[i]? = some (Sl.own io true d)
  dom : ∀ a, H' a = none → H a = none

section
variable {L : Lk} {σ σ1 σ2 : List Sl} {τ τ1 τ2 : St} {m m1 m2 : Addr → Prop} {H H1 H2 : Hp}
theorem Rel.ow (r : Rel L m H σ τ) {a : Addr} (h : Ow σ τ a) : m a := by
  obtain ⟨i, io, lk, d, h1, h2⟩ := h
  obtain ⟨b, h3, h4, _⟩ := r.own i io lk d h1
  rw [h2] at h3; cases h3; exact h4
theorem Rel.owH (r : Rel L m H σ τ) {a : Addr} (h : Ow σ τ a) : ∃ o, H a = some o := by
  obtain ⟨i, io, lk, d, h1, h2⟩ := h
  obtain ⟨b, h3, _, h4⟩ := r.own i io lk d h1
  rw [h2] at h3; cases h3; exact h4.there
theorem Step.refl (r : Rel L m H σ τ) : Step L σ τ m H σ τ m H :=
  ⟨r, fun _ _ h _ => ⟨h, Iff.rfl⟩, fun _ h => .inl h, fun _ h => .inl h, fun i lk d h => ⟨rfl, d, h⟩, fun i io d h => ⟨rfl, h⟩, fun _ h => h⟩
theorem Step.kp (r : Rel L m H σ τ) (s : Step L σ τ m H σ1 τ1 m1 H1) : Kp H m H1 m1 := fun a o h hm => by
  obtain ⟨h1, h2⟩ := s.frame a o h fun z => hm (r.ow z.ow)
  exact ⟨h1, fun z => hm (h2.mp z)⟩
theorem Step.trans (a : Step L σ τ m H σ1 τ1 m1 H1) (b : Step L σ1 τ1 m1 H1 σ2 τ2 m2 H2) : Step L σ τ m H σ2 τ2 m2 H2 := by
  refine ⟨b.rel, fun x o h hn => ?_, fun x h => ?_, fun x h => ?_, fun i lk d h => ?_, fun i io d h => ?_, fun x h => a.dom x (b.dom x h)⟩
  · obtain ⟨h1, h2⟩ := a.frame x o h hn
    have hn1 : ¬ Wr σ1 τ1 x := fun z => by
      rcases a.wr x z with z | z
      · exact hn z
      · rw [h] at z; cases z
    obtain ⟨h3, h4⟩ := b.frame x o h1 hn1
    exact ⟨h3, h4.trans h2⟩
  · rcases b.own x h with z | z
    · exact a.own x z
    · exact .inr (a.dom x z)
  · rcases b.wr x h with z | z
    · exact a.wr x z
    · exact .inr (a.dom x z)
  · obtain ⟨e1, e, h1⟩ := a.io i lk d h
    obtain ⟨e2, h2⟩ := b.io i lk e h1
    exact ⟨e2.trans e1, h2⟩
  · obtain ⟨e1, h1⟩ := a.lkd i io d h
    obtain ⟨e2, h2⟩ := b.lkd i io d h1
    exact ⟨e2.trans e1, h2⟩

/-- an expression's worth and its value; a new object is not in the heap H0 -/
def RR (L : Lk) (H0 : Hp) (σ : List Sl) (τ : St) (m : Addr → Prop) (H : Hp) : R → V → Prop
  | .val d, v => RV L H m d v
  | .tmp d, v => ∃ a, v = .ref a ∧ H0 a = none ∧ m a ∧ ¬ Ow σ τ a ∧ RO L H m a d
  | .bor i, v => τ[i]? = some (some v)
theorem RR.step (rl : Rel L m H σ τ) (s : Step L σ τ m H σ1 τ m1 H1) {H0 : Hp} {r : R} {v : V} (h : RR L H0 σ τ m H r v) : RR L H0 σ1 τ m1 H1 r v := by
  cases r with
  | val d => exact RV.mono (s.kp rl) d v h
  | tmp d =>
    obtain ⟨a, e, h0, h1, h2, h3⟩ := h
    obtain ⟨o, ho⟩ := h3.there
    obtain ⟨h4, h5⟩ := s.frame a o ho fun z => h2 z.ow
    refine ⟨a, e, h0, h5.mpr h1, fun z => ?_, h3.mono (s.kp rl) fun o' q => by rw [ho] at q; cases q; exact h4⟩
    rcases s.own a z with z | z
    · exact h2 z
    · rw [ho] at z; cases z
  | bor i => exact h
theorem RR.elder {H0 H00 : Hp} (k : ∀ a, H0 a = none → H00 a = none) {r : R} {v : V} (h : RR L H0 σ τ m H r v) : RR L H00 σ τ m H r v := by
  cases r with
  | val d => exact h
  | tmp d => obtain ⟨a, e, h0, h1⟩ := h; exact ⟨a, e, k a h0, h1⟩
  | bor i => exact h

/-- several; new objects are not the same -/
def RRs (L : Lk) (H0 : Hp) (σ : List Sl) (τ : St) (m : Addr → Prop) (H : Hp) : List R → List V → Prop
  | [], vs => vs = []
  | r :: rs, vs => ∃ v ws, vs = v :: ws ∧ RR L H0 σ τ m H r v ∧ RRs L H0 σ τ m H rs ws ∧ ∀ d, r = .tmp d → ∀ (j : Nat) e, rs[j]? = some (R.tmp e) → ws[j]? ≠ some v
theorem RRs.step (rl : Rel L m H σ τ) (s : Step L σ τ m H σ1 τ m1 H1) {H0 : Hp} : ∀ {rs : List R} {vs : List V}, RRs L H0 σ τ m H rs vs → RRs L H0 σ1 τ m1 H1 rs vs
  | [], vs, h => h
  | r :: rs, vs, h => by
    obtain ⟨v, ws, e, h1, h2, h3⟩ := h
    exact ⟨v, ws, e, h1.step rl s, RRs.step rl s h2, h3⟩
theorem RRs.elder {H0 H00 : Hp} (k : ∀ a, H0 a = none → H00 a = none) : ∀ {rs : List R} {vs : List V}, RRs L H0 σ τ m H rs vs → RRs L H00 σ τ m H rs vs
  | [], vs, h => h
  | r :: rs, vs, h => by
    obtain ⟨v, ws, e, h1, h2, h3⟩ := h
    exact ⟨v, ws, e, h1.elder k, RRs.elder k h2, h3⟩
theorem RRs.get {H0 : Hp} : ∀ {rs : List R} {vs : List V} {j : Nat} {r : R}, RRs L H0 σ τ m H rs vs → rs[j]? = some r → ∃ v, vs[j]? = some v ∧ RR L H0 σ τ m H r v
  | [], _, _, _, _, e => by simp at e
  | r :: rs, vs, 0, q, h, e => by
    obtain ⟨v, ws, e1, h1, _⟩ := h
    simp at e; subst e
    exact ⟨v, by rw [e1]; rfl, h1⟩
  | r :: rs, vs, j + 1, q, h, e => by
    obtain ⟨v, ws, e1, _, h2, _⟩ := h
    obtain ⟨u, h3, h4⟩ := RRs.get (j := j) (r := q) h2 (by simpa using e)
    exact ⟨u, by rw [e1]; simpa using h3, h4⟩
theorem RRs.length {H0 : Hp} : ∀ {rs : List R} {vs : List V}, RRs L H0 σ τ m H rs vs → rs.length = vs.length
  | [], vs, h => by rw [show vs = [] from h]; rfl
  | r :: rs, vs, h => by
    obtain ⟨v, ws, e1, _, h2, _⟩ := h
    rw [e1, List.length_cons, List.length_cons, RRs.length h2]
theorem RRs.cons {H0 H1' : Hp} {r : R} {rs : List R} {v : V} {ws : List V} (h : RR L H0 σ τ m H r v) (t : RRs L H1' σ τ m H rs ws) (k : ∀ a, H1' a = none → H0 a = none) (ht : ∀ d a, r = .tmp d → v = .ref a → H1' a ≠ none) : RRs L H0 σ τ m H (r :: rs) (v :: ws) := by
  refine ⟨v, ws, rfl, h, t.elder k, fun d e j d' ej ev => ?_⟩
  obtain ⟨u, h1, h2⟩ := t.get ej
  rw [ev] at h1; cases h1
  obtain ⟨a, e1, h3, _⟩ := h2
  exact ht d a e e1 h3

/-- v is to be read as d -/
def RC (L : Lk) (m : Addr → Prop) (H : Hp) (d : D) (v : V) : Prop := RV L H m d v ∨ ∃ a, v = .ref a ∧ m a ∧ RO L H m a d
theorem der_ok (rl : Rel L m H σ τ) {H0 : Hp} {r : R} {v : V} {d : D} (h : RR L H0 σ τ m H r v) (e : der r σ = .ok d σ1) : σ1 = σ ∧ RC L m H d v := by
  cases r with
  | val d' => unfold der at e; cases e; exact ⟨rfl, .inl h⟩
  | tmp d' =>
    unfold der at e; cases e
    obtain ⟨a, h1, _, h2, _, h3⟩ := h
    exact ⟨rfl, .inr ⟨a, h1, h2, h3⟩⟩
  | bor i =>
    unfold der at e; dsimp only at e
    have h' : τ[i]? = some (some v) := h
    cases q : σ[i]? with
    | none => rw [q] at e; cases e
    | some s =>
      rw [q] at e
      cases s with
      | un => cases e
      | val d' =>
        cases e
        obtain ⟨u, h1, h2⟩ := rl.val i _ q
        rw [h'] at h1; cases h1
        exact ⟨rfl, .inl h2⟩
      | own io lk d' =>
        cases e
        obtain ⟨a, h1, h2, h3⟩ := rl.own i io lk _ q
        rw [h'] at h1; cases h1
        exact ⟨rfl, .inr ⟨a, rfl, h2, h3⟩⟩
theorem RC.lst' {ds : List D} {v : V} (h : RC L m H (.lst ds) v) : ∃ a xs, v = .ref a ∧ Rd H a (.lst xs) ∧ RVs L H m ds xs := by
  rcases h with h | ⟨a, e, _, xs, h1, h2⟩
  · simp only [RV] at h
    obtain ⟨a, xs, e, q, r⟩ := h
    exact ⟨a, xs, e, q.2, r⟩
  · exact ⟨a, xs, e, .inl h1, h2⟩
theorem RC.lst {ds : List D} {v : V} (h : RC L m H (.lst ds) v) : ∃ a xs, v = .ref a ∧ SqL L.K H a xs ∧ RVs L H m ds xs := by
  obtain ⟨a, xs, e, q, r⟩ := h.lst'
  exact ⟨a, xs, e, .inl q, r⟩
theorem RC.rv {d : D} {v : V} (h : RC L m H d v) (hd : ∀ ds, d ≠ .lst ds) (hi : ∀ C ns ds, d ≠ .ins C ns ds) : RV L H m d v := by
  rcases h with h | ⟨a, e, _, h⟩
  · exact h
  · cases d with
    | lst ds => exact absurd rfl (hd ds)
    | ins C ns ds => exact absurd rfl (hi C ns ds)
    | _ => exact h.elim
theorem RV.tup' {ds : List D} {v : V} (h : RV L H m (.tup ds) v) : ∃ a xs, v = .ref a ∧ SqT L.K H a xs ∧ RVs L H m ds xs := by
  simp only [RV] at h
  obtain ⟨a, xs, e, q, r⟩ := h
  refine ⟨a, xs, e, ?_, r⟩
  rcases q with q | q
  · exact .inl q.2
  · exact .inr q
theorem RC.tup {ds : List D} {v : V} (h : RC L m H (.tup ds) v) : ∃ a xs, v = .ref a ∧ SqT L.K H a xs ∧ RVs L H m ds xs := (h.rv (by intros; simp) (by intros; simp)).tup'
theorem RC.ins {C : Nat} {ns : List Nat} {ds : List D} {v : V} (h : RC L m H (.ins C ns ds) v) : ∃ a dx xs, v = .ref a ∧ H a = some (.ins (L.ad C) dx ((ns.map L.nm).zip xs)) ∧ ns.length = xs.length ∧ RVs L H m ds xs := by
  rcases h with h | ⟨a, e, _, h⟩
  · simp only [RV] at h
    obtain ⟨a, dx, xs, e, _, q, hl, r⟩ := h
    exact ⟨a, dx, xs, e, q, hl, r⟩
  · obtain ⟨dx, xs, h1, hl, h2⟩ := h
    exact ⟨a, dx, xs, e, h1, hl, h2⟩
theorem RC.int {i : Int} {v : V} (h : RC L m H (.int i) v) : v = .int i := by
  have := h.rv (by intros; simp) (by intros; simp); simpa only [RV] using this
theorem RC.bl {i : Bool} {v : V} (h : RC L m H (.bl i) v) : v = .bl i := by
  have := h.rv (by intros; simp) (by intros; simp); simpa only [RV] using this
theorem RC.str {i : Str} {v : V} (h : RC L m H (.str i) v) : v = .str i := by
  have := h.rv (by intros; simp) (by intros; simp); simpa only [RV] using this
theorem RC.non {v : V} (h : RC L m H .non v) : v = .non := by
  have := h.rv (by intros; simp) (by intros; simp); simpa only [RV] using this
theorem RC.ty {n : BT} {v : V} (h : RC L m H (.ty n) v) : v = .ty n.name := by
  have := h.rv (by intros; simp) (by intros; simp); simpa only [RV] using this
theorem RC.gl {n : Nat} {v : V} (h : RC L m H (.gl n) v) : v = .ref (L.ad n) := by
  have := h.rv (by intros; simp) (by intros; simp); simpa only [RV] using this

/-! ### slots that change -/
theorem set_get {α : Type} {l : List α} {i j : Nat} {x y : α} (h : (l.set i x)[j]? = some y) : (j = i ∧ y = x ∧ i < l.length) ∨ (j ≠ i ∧ l[j]? = some y) := by
  rw [List.getElem?_set] at h
  by_cases hj : i = j
  · rw [if_pos hj] at h
    by_cases hl : i < l.length
    · rw [if_pos hl] at h; cases h; exact .inl ⟨hj.symm, rfl, hl⟩
    · rw [if_neg hl] at h; cases h
  · rw [if_neg hj] at h; exact .inr ⟨fun e => hj e.symm, h⟩
/-- an object is let go: it is data from now on -/
theorem Step.freeze (rl : Rel L m H σ τ) {i : Nat} {d : D} (q : σ[i]? = some (.own false false d)) : ∃ a m', τ[i]? = some (some (.ref a)) ∧ RV L H m' d (.ref a) ∧ Step L σ τ m H (σ.set i (.val d)) τ m' H := by
  obtain ⟨a, h1, h2, h3⟩ := rl.own i false false d q
  have hw : Wr σ τ a := ⟨i, false, d, q, h1⟩
  refine ⟨a, fun b => m b ∧ b ≠ a, h1, ?_⟩
  have k : Kp H m H (fun b => m b ∧ b ≠ a) := fun b o e hb => ⟨e, fun z => hb z.1⟩
  have rv : RV L H (fun b => m b ∧ b ≠ a) d (.ref a) := (h3.mono k fun _ e => e).rv fun z => z.2 rfl
  refine ⟨rv, ⟨⟨fun b hb => rl.mH b hb.1, by rw [List.length_set]; exact rl.len, fun j e hj => ?_, fun j io lk e hj => ?_, fun j j' io lk io' lk' e e' b h4 h5 h6 h7 => ?_⟩, fun b o e hb => ⟨e, ⟨fun z => z.1, fun z => ⟨z, ?_⟩⟩⟩, fun b hb => ?_, fun b hb => ?_, fun j lk e hj => ?_, fun j io e hj => ?_, fun _ e => e⟩⟩
  · rcases set_get hj with ⟨e1, e2, _⟩ | ⟨hn, hj⟩
    · cases e2; subst e1; exact ⟨_, h1, rv⟩
    · obtain ⟨v, h4, h5⟩ := rl.val j e hj
      exact ⟨v, h4, RV.mono k _ _ h5⟩
  · rcases set_get hj with ⟨_, e2, _⟩ | ⟨hn, hj⟩
    · cases e2
    · obtain ⟨b, h4, h5, h6⟩ := rl.own j io lk e hj
      refine ⟨b, h4, ⟨h5, fun z => hn ?_⟩, h6.mono k fun _ e => e⟩
      subst z
      exact rl.inj _ _ _ _ _ _ _ _ _ hj q h4 h1
  · rcases set_get h4 with ⟨_, e2, _⟩ | ⟨hn, h4⟩
    · cases e2
    rcases set_get h5 with ⟨_, e2, _⟩ | ⟨hn, h5⟩
    · cases e2
    exact rl.inj _ _ _ _ _ _ _ _ _ h4 h5 h6 h7
  · rintro rfl; exact hb hw
  · obtain ⟨j, io, lk, e, h4, h5⟩ := hb
    rcases set_get h4 with ⟨_, e2, _⟩ | ⟨hn, h4⟩
    · cases e2
    exact .inl ⟨j, io, lk, e, h4, h5⟩
  · obtain ⟨j, io, e, h4, h5⟩ := hb
    rcases set_get h4 with ⟨_, e2, _⟩ | ⟨hn, h4⟩
    · cases e2
    exact .inl ⟨j, io, e, h4, h5⟩
  · refine ⟨rfl, e, ?_⟩
    have hn : i ≠ j := by rintro rfl; rw [q] at hj; cases hj
    rw [List.getElem?_set_ne hn]; exact hj
  · refine ⟨rfl, ?_⟩
    have hn : i ≠ j := by rintro rfl; rw [q] at hj; cases hj
    rw [List.getElem?_set_ne hn]; exact hj
/-- a new object that no slot holds is let go -/
theorem Rel.drop (rl : Rel L m H σ τ) {a : Addr} (hn : ¬ Ow σ τ a) : Rel L (fun b => m b ∧ b ≠ a) H σ τ := by
  have k : Kp H m H (fun b => m b ∧ b ≠ a) := fun b o e hb => ⟨e, fun z => hb z.1⟩
  refine ⟨fun b hb => rl.mH b hb.1, rl.len, fun j e hj => ?_, fun j io lk e hj => ?_, rl.inj⟩
  · obtain ⟨v, h4, h5⟩ := rl.val j e hj
    exact ⟨v, h4, RV.mono k _ _ h5⟩
  · obtain ⟨b, h4, h5, h6⟩ := rl.own j io lk e hj
    exact ⟨b, h4, ⟨h5, fun z => hn ⟨j, io, lk, e, hj, z ▸ h4⟩⟩, h6.mono k fun _ e => e⟩
theorem frz_ok (s : Step L σ τ m H σ1 τ m1 H1) {r : R} {v : V} {d : D} (h : RR L H σ1 τ m1 H1 r v) (e : frz r σ1 = .ok d σ2) :
    ∃ m2, Step L σ τ m H σ2 τ m2 H1 ∧ RV L H1 m2 d v ∧ Kp H1 m1 H1 m2 := by
  cases r with
  | val d' => unfold frz at e; cases e; exact ⟨m1, s, h, fun a o e hm => ⟨e, hm⟩⟩
  | tmp d' =>
    unfold frz at e; cases e
    obtain ⟨a, e, h0, h1, h2, h3⟩ := h
    subst e
    have k : Kp H1 m1 H1 (fun b => m1 b ∧ b ≠ a) := fun b o e hb => ⟨e, fun z => hb z.1⟩
    refine ⟨fun b => m1 b ∧ b ≠ a, ⟨s.rel.drop h2, fun b o hb hw => ?_, s.own, s.wr, s.io, s.lkd, s.dom⟩, (h3.mono k fun _ e => e).rv fun z => z.2 rfl, k⟩
    obtain ⟨h4, h5⟩ := s.frame b o hb hw
    refine ⟨h4, ⟨fun z => h5.mp z.1, fun z => ⟨h5.mpr z, ?_⟩⟩⟩
    rintro rfl
    rw [h0] at hb; cases hb
  | bor i =>
    unfold frz at e; dsimp only at e
    have h' : τ[i]? = some (some v) := h
    cases q : σ1[i]? with
    | none => rw [q] at e; cases e
    | some sl =>
      rw [q] at e
      cases sl with
      | un => cases e
      | val d' =>
        cases e
        obtain ⟨u, h1, h2⟩ := s.rel.val i _ q
        rw [h'] at h1; cases h1
        exact ⟨m1, s, h2, fun a o e hm => ⟨e, hm⟩⟩
      | own io lk d' =>
        cases io <;> cases lk <;> first | cases e | skip
        obtain ⟨a, m2, h1, h2, h3⟩ := Step.freeze s.rel q
        rw [h'] at h1; cases h1
        exact ⟨m2, s.trans h3, h2, h3.kp s.rel⟩
end
end EV

set_option Elab.async false
set_option linter.all false
set_option maxRecDepth 100000
set_option maxHeartbeats 4000000
namespace EV
open PySem L2

abbrev CallT := Nat → List Sl → Res R
/-- the calls: c1 at the body's own level, c2 one level below -/
structure Oc where
  c1 : CallT
  c2 : CallT

/-! ### arguments -/
/-- what a callee's parameter is -/
def toSl (σ : List Sl) : R → Option Sl
  | .val d => some (.val d)
  | .tmp d => some (.own true false d)
  | .bor i => match σ[i]? with
    | some (.own _ lk d) => some (.own true lk d)
    | some (.val d) => some (.val d)
    | _ => none
def toSls (σ : List Sl) : List R → Option (List Sl)
  | [] => some []
  | r :: rs => match toSl σ r, toSls σ rs with
    | some s, some ss => some (s :: ss)
    | _, _ => none
def bors : List R → List Nat
  | [] => []
  | .bor i :: rs => i :: bors rs
  | _ :: rs => bors rs
/-- the object of slot j that was handed in, as the callee has left it -/
def seek (j : Nat) : List R → List Sl → Option D
  | .bor i :: rs, .own _ _ d :: ss => if i = j then some d else seek j rs ss
  | _ :: rs, _ :: ss => seek j rs ss
  | _, _ => none
def backAt (rs : List R) (ss : List Sl) (j : Nat) : Sl → Sl
  | .own io lk d => .own io lk ((seek j rs ss).getD d)
  | s => s
def back (rs : List R) (ss : List Sl) (σ : List Sl) : List Sl := if (bors rs).isEmpty then σ else σ.mapIdx (backAt rs ss)
/-- the parameters of a def, from the values that are handed in -/
def params (F : Fn) (as : List Sl) : Option (List Sl) :=
  if as.length ≤ F.np ∧ F.np - as.length ≤ F.dfl.length then some (as ++ ((F.dfl.drop (F.dfl.length - (F.np - as.length))).map Sl.val)) else none
def callP (c : CallT) (f : Nat) (F : Fn) (rs : List R) : M R := fun σ => match toSls σ rs with
  | some as => if (bors rs).Nodup then (match params F as with
    | some ps => (match c f ps with
      | .ok (.bor _) _ => .fail
      | .ok r ps' => .ok r (back rs ps' σ)
      | .exc x ps' => .exc x (back rs ps' σ)
      | .fail => .fail)
    | none => .fail) else .fail
  | none => .fail
/-- what a star parameter takes is let go, and is one tuple -/
def frzs : List R → M (List D)
  | [] => ret []
  | r :: rs => bnd (frz r) fun d => bnd (frzs rs) fun ds => ret (d :: ds)
def packF (n : Nat) (rs : List R) (g : List R → M R) : M R := if n ≤ rs.length then bnd (frzs (rs.drop n)) fun ds => if ds.length ≤ lim then g (rs.take n ++ [.val (.tup ds)]) else stuck else stuck
def callF (P : Prog) (c : CallT) (f : Nat) (rs : List R) : M R := match P.fn f with
  | some F => if F.star then (match F.np with
    | n + 1 => packF n rs (callP c f F)
    | 0 => stuck) else callP c f F rs
  | none => stuck
/-- a new instance: __init__ on it, then it is data -/
def mkP (c : CallT) (C f : Nat) (F : Fn) (rs : List R) : M R := fun σ => match toSls σ rs with
  | some as => if (bors rs).Nodup then (match params F (.own true false (.ins C [] []) :: as) with
      | some ps => (match c f ps with
        | .ok (.val .non) (.own _ _ (.ins C' ns ds) :: ps') => if C' = C then .ok (.val (.ins C ns ds)) (back rs ps' σ) else .fail
        | .exc x (_ :: ps') => .exc x (back rs ps' σ)
        | _ => .fail)
      | none => .fail) else .fail
  | none => .fail
def mkF (P : Prog) (c : CallT) (C : Nat) (rs : List R) : M R := match P.cl C with
  | some ⟨some f, _, _⟩ => (match P.fn f with
    | some F => if F.star then (match F.np with
      | n + 2 => packF n rs (mkP c C f F)
      | _ => stuck) else mkP c C f F rs
    | none => stuck)
  | _ => stuck

/-! ### built-in functions -/
def tyD : D → Option Tk
  | .non => some (.ty .non)
  | .bl _ => some (.ty .bool)
  | .int _ => some (.ty .int)
  | .str _ => some (.ty .str)
  | .tup _ => some (.ty .tuple)
  | .lst _ => some (.ty .list)
  | .ins C _ _ => some (.cl C)
  | _ => none
/-- is a built-in type (of data) under another -/
def isB : BT → BT → Option Bool
  | .bool, .int => some true
  | .non, .dict => some false
  | .non, .int => some false
  | .non, .bool => some false
  | .non, .str => some false
  | .non, .tuple => some false
  | .non, .list => some false
  | .int, .int => some true
  | .int, .bool => some false
  | .int, .str => some false
  | .int, .tuple => some false
  | .int, .list => some false
  | .int, .dict => some false
  | .bool, .bool => some true
  | .bool, .str => some false
  | .bool, .tuple => some false
  | .bool, .list => some false
  | .bool, .dict => some false
  | .str, .str => some true
  | .str, .int => some false
  | .str, .bool => some false
  | .str, .tuple => some false
  | .str, .list => some false
  | .str, .dict => some false
  | .tuple, .tuple => some true
  | .tuple, .int => some false
  | .tuple, .bool => some false
  | .tuple, .str => some false
  | .tuple, .list => some false
  | .tuple, .dict => some false
  | .list, .list => some true
  | .list, .int => some false
  | .list, .bool => some false
  | .list, .str => some false
  | .list, .tuple => some false
  | .list, .dict => some false
  | _, _ => none
def isiF (P : Prog) (a b : D) : Option Bool := match tyD a, b with
  | some (.ty n), .ty k => isB n k
  | some t, .ty k => P.isa t (.ty k)
  | some t, .gl x => P.isa t (.cl x)
  | _, _ => none
def blsF : List D → Option (List Bool)
  | [] => some []
  | .bl b :: ds => (blsF ds).map (b :: ·)
  | _ => none
def intsF : List D → Option (List Int)
  | [] => some []
  | .int b :: ds => (intsF ds).map (b :: ·)
  | _ => none
/-- repr of data -/
def seqP : PyData → Bool
  | .list _ => true
  | .tuple _ => true
  | _ => false
def reprF (d : D) : Option R := match toP d with
  | some p => if seqP p = true ∧ p.showable = true ∧ p.hasDict = false ∧ p.depth < 40 ∧ p.shown.length ≤ lim then some (.val (.str p.shown)) else none
  | none => none
def biF (P : Prog) : Bi → List D → Option R
  | .len, [.str s] => if s.length ≤ lim then some (.val (.int s.length)) else none
  | .len, [.tup ds] => some (.val (.int ds.length))
  | .len, [.lst ds] => some (.val (.int ds.length))
  | .max, [.int i, .int j] => some (.val (.int (if j > i then j else i)))
  | .min, [.int i, .int j] => some (.val (.int (if j < i then j else i)))
  | .abs, [.int i] => some (.val (.int (if i < 0 then -i else i)))
  | .isinst, [a, b] => (isiF P a b).map fun k => .val (.bl k)
  | .all, [.lst ds] => (blsF ds).map fun bs => .val (.bl (bs.all id))
  | .any, [.lst ds] => (blsF ds).map fun bs => .val (.bl (bs.any id))
  | .tuple, [.lst ds] => some (.val (.tup ds))
  | .tuple, [.tup ds] => some (.val (.tup ds))
  | .list, [.lst ds] => some (.tmp (.lst ds))
  | .list, [.tup ds] => some (.tmp (.lst ds))
  | .int, [.int i] => some (.val (.int i))
  | .int, [.bl b] => some (.val (.int (if b then 1 else 0)))
  | .divmod, [.int i, .int j] => if 0 < j ∧ j.natAbs.log2 < 9000 then some (.val (.tup [.int (i / j), .int (i % j)])) else none
  | .sum, [.lst ds] => (intsF ds).map fun ns => .val (.int ns.sum)
  | .str, [.str s] => some (.val (.str s))
  | .str, [.int i] => if i.natAbs.log2 < 1920 then some (.val (.str (toString i))) else none
  | .repr, [d] => reprF d
  | .bool, [.int i] => some (.val (.bl (i != 0)))
  | .bool, [.bl b] => some (.val (.bl b))
  | _, _ => none

/-! ### methods of texts and lists -/
def strsF : List D → Option (List Str)
  | [] => some []
  | .str x :: ds => (strsF ds).map (x :: ·)
  | _ => none
def nJoin : Nat := 1
def smF (m : Nat) (s : Str) (as : List D) : Option R := match m, as with
  | 1, [.lst ds] => (strsF ds).bind fun xs => if (xs.map (·.length)).sum + xs.length * s.length ≤ lim then some (.val (.str (Txt.join s xs))) else none
  | 1, [.tup ds] => (strsF ds).bind fun xs => if (xs.map (·.length)).sum + xs.length * s.length ≤ lim then some (.val (.str (Txt.join s xs))) else none
  | 8, [.str b] => if b.length ≠ 0 ∧ s.length + 2 ≤ lim then some (.tmp (.lst ((Txt.split s b).map D.str))) else none
  | 9, [.str b] => if b.length ≠ 0 ∧ s.length ≤ lim then some (.val (.tup [.str (Txt.partition s b).1, .str (Txt.partition s b).2.1, .str (Txt.partition s b).2.2])) else none
  | 10, [.str b] => some (.val (.bl (Txt.endswith s b)))
  | 11, [.str b] => some (.val (.bl (Txt.startswith s b)))
  | 6, [.str b] => some (.val (.int (Txt.count s b)))
  | _, _ => none

/-! ### the evaluator -/
def ders : List R → M (List D)
  | [] => ret []
  | r :: rs => bnd (der r) fun d => bnd (ders rs) fun ds => ret (d :: ds)
/-- a slot is set -/
def put (i : Nat) (s : Sl) : M Unit := fun σ => match σ[i]? with
  | none => .fail
  | some (.own true _ _) => .fail
  | some (.own _ true _) => .fail
  | _ => .ok () (σ.set i s)
mutual
def asg : Tg → D → M Unit
  | .name i, d => put i (.val d)
  | .tup t, .tup ds => asgs t ds
  | _, _ => stuck
def asgs : Tg → List D → M Unit
  | .nil, [] => ret ()
  | .cons t r, d :: ds => bnd (asg t d) fun _ => asgs r ds
  | _, _ => stuck
end
/-- the slot whose list is walked; it is locked; it is open again -/
def lkOf (r : R) (σ : List Sl) : Option Nat := match r with
  | .bor i => (match σ[i]? with
    | some (.own _ false _) => some i
    | _ => none)
  | _ => none
def lockS : Option Nat → List Sl → List Sl
  | none, σ => σ
  | some i, σ => (match σ[i]? with
    | some (.own io _ d) => σ.set i (.own io true d)
    | _ => σ)
def unlockS : Option Nat → List Sl → List Sl
  | none, σ => σ
  | some i, σ => (match σ[i]? with
    | some (.own io _ d) => σ.set i (.own io false d)
    | _ => σ)
def itemsQ : D → Option (List D)
  | .tup ds => some ds
  | .lst ds => some ds
  | _ => none
def itemsF : D → Option (List D)
  | .tup ds => some ds
  | .lst ds => some ds
  | .str s => some (s.cps.toList.map fun c => .str ⟨#[c]⟩)
  | _ => none
def big : Int := 2 ^ 62
def rngF : List D → Option (List D)
  | [.int j] => if -big ≤ j ∧ j < big then some ((List.range j.toNat).map fun (k : Nat) => D.int (k : Int)) else none
  | [.int i, .int j] => if (-big ≤ i ∧ i < big) ∧ -big ≤ j ∧ j < big then some ((List.range (j - i).toNat).map fun (k : Nat) => D.int (i + (k : Int))) else none
  | _ => none
def enumFrom (n : Nat) : List D → List D
  | [] => []
  | d :: ds => .tup [.int n, d] :: enumFrom (n + 1) ds
/-- the turns of a comprehension -/
def lcL (f : D → M (Option D)) : List D → List D → M (List D)
  | [], acc => ret acc
  | d :: ds, acc => bnd (f d) fun o => match o with
    | some e => if acc.length < lim then lcL f ds (acc ++ [e]) else stuck
    | none => lcL f ds acc
/-- the slots of a comprehension's own names: not set; as they were -/
def wipeL : List Nat → List Sl → List Sl
  | [], σ => σ
  | w :: ws, σ => (wipeL ws σ).set w .un
def wipeOk (ws : List Nat) (σ : List Sl) : Bool := ws.all fun w => match σ[w]? with
  | some (.own _ _ _) => false
  | some _ => true
  | none => false
def restL : List Nat → List Sl → List Sl → List Sl
  | [], _, σ => σ
  | w :: ws, σ0, σ => (restL ws σ0 σ).set w (σ0[w]?.getD .un)
/-- nothing leaves a comprehension -/
def noX {α : Type} (f : M α) : M α := fun σ => match f σ with
  | .ok a σ' => .ok a σ'
  | _ => .fail
def lookupAt (C : Nat) (f : Nat) (P : Prog) : Option At := match P.cl C with
  | some c => c.attrs.lookup f
  | none => none
def isFld (C : Nat) (f : Nat) (P : Prog) : Bool := match P.cl C with
  | some c => c.flds.contains f
  | none => false
def fldF (f : Nat) : List Nat → List D → Option D
  | n :: ns, d :: ds => if n = f then some d else fldF f ns ds
  | _, _ => none
variable (P : Prog) (O : Oc)
def nEq : Nat := 2
def nContains : Nat := 31
def nLen : Nat := 32
def nStr : Nat := 33
def nRepr : Nat := 34
def nAdd : Nat := 40
def nCall : Nat := 41
def nGetitem : Nat := 44
/-- a special method -/
def specM (m C : Nat) (rs : List R) : M R := match lookupAt C m P with
  | some (.meth f) => callF P O.c2 f rs
  | _ => stuck
/-- .. that raises nothing -/
def specN (m C : Nat) (rs : List R) : M R := noX (specM P O m C rs)
def okLen : R → M R
  | .val (.int i) => if 0 ≤ i ∧ i < 9223372036854775808 then ret (.val (.int i)) else stuck
  | _ => stuck
def okStr : R → M R
  | .val (.str s) => ret (.val (.str s))
  | _ => stuck
def okBool (g : Bool → Bool) : R → M R
  | .val (.bl b) => ret (.val (.bl (g b)))
  | _ => stuck
/-- a built-in function: of an instance by its own method, else by the data -/
def biM (f : Bi) (rs : List R) (ds : List D) : M R := match f, ds with
  | .len, [.ins C _ _] => bnd (specN P O nLen C rs) okLen
  | .str, [.ins C _ _] => bnd (specN P O nStr C rs) okStr
  | .repr, [.ins C _ _] => bnd (specN P O nRepr C rs) okStr
  | f, ds => ofO (biF P f ds)
def binM (op : Operator) (r q : R) (x y : D) : M R := match op, x, y with
  | .Add, .ins C _ _, .ins C' _ _ => if C = C' then specN P O nAdd C [r, q] else stuck
  | op, x, y => ofO (binR op r x y)
/-- a value that is called -/
def callD (r : R) (rs : List R) : D → D → M R
  | .ins _ _ _, .ins C _ _ => specM P O nCall C (r :: rs)
  | .gl x, _ => if (P.cl x).isSome then mkF P O.c2 x rs else callF P O.c1 x rs
  | _, _ => stuck
/-- what may be called at all -/
def calB : D → Bool
  | .ins _ _ _ => true
  | .gl x => (P.cl x).isSome || (P.fn x).isSome
  | _ => false
/-- a part of an f-string, as text -/
def fmtM (r : R) : D → M R
  | .ins C _ _ => bnd (specN P O nStr C [r]) okStr
  | .str s => if s.length ≤ lim then ret (.val (.str s)) else stuck
  | .int i => if i.natAbs.log2 < 1920 then ret (.val (.str (toString i))) else stuck
  | _ => stuck
/-- == by an own __eq__, then g -/
def eqM (C : Nat) (r q : R) (g : Bool → Bool) : M R := bnd (specN P O nEq C [r, q]) (okBool g)
def cmpM (op : CmpOp) (r q : R) (x y : D) : M R := match op, x, y with
  | .Eq, .ins C _ _, .ins C' _ _ => if C = C' then eqM P O C r q fun b => b else stuck
  | .NotEq, .ins C _ _, .ins C' _ _ => if C = C' then eqM P O C r q fun b => !b else stuck
  | .In, x, .ins C _ _ => bnd (specN P O nContains C [q, r]) (okBool fun b => b)
  | .NotIn, x, .ins C _ _ => bnd (specN P O nContains C [q, r]) (okBool fun b => !b)
  | op, x, y => bnd (ofO (cmpF op x y)) fun k => ret (.val (.bl k))
mutual
def ev : E → M R
  | .c d => ret (.val d)
  | .v i => fun σ => match σ[i]? with
    | some (.val d) => .ok (.val d) σ
    | some (.own false false d) => .ok (.val d) (σ.set i (.val d))
    | _ => .fail
  | .b i => fun σ => match σ[i]? with
    | some (.val d) => .ok (.val d) σ
    | some (.own _ _ _) => .ok (.bor i) σ
    | _ => .fail
  | .g x => ofO ((P.con x).map .val)
  | .bin op a b => bnd (ev a) fun r => bnd (ev b) fun q => bnd (der r) fun x => bnd (der q) fun y => binM P O op r q x y
  | .neg a => bnd (ev a) fun r => bnd (der r) fun x => match x with
    | .int i => ret (.val (.int (-i)))
    | _ => stuck
  | .cmp op a b => bnd (ev a) fun r => bnd (ev b) fun q => bnd (der r) fun x => bnd (der q) fun y => cmpM P O op r q x y
  | .cmp2 o1 o2 a b c => bnd (ev a) fun r => bnd (ev b) fun q => bnd (der r) fun x => bnd (der q) fun y => bnd (ofO (cmpF o1 x y)) fun k =>
      if k then bnd (ev c) fun p => bnd (der q) fun y => bnd (der p) fun z => bnd (ofO (cmpF o2 y z)) fun k => ret (.val (.bl k)) else ret (.val (.bl false))
  | .not a => bnd (ev a) fun r => bnd (der r) fun x => bnd (ofO (truth x)) fun k => ret (.val (.bl (!k)))
  | .and a b => bnd (ev a) fun r => bnd (der r) fun x => bnd (ofO (truth x)) fun k => if k then ev b else ret r
  | .or a b => bnd (ev a) fun r => bnd (der r) fun x => bnd (ofO (truth x)) fun k => if k then ret r else ev b
  | .ife t a b => bnd (evT t) fun k => if k then ev a else ev b
  | .tup es => bnd (evD es) fun ds => if ds.length ≤ lim then ret (.val (.tup ds)) else stuck
  | .lst es => bnd (evD es) fun ds => if ds.length ≤ lim then ret (.tmp (.lst ds)) else stuck
  | .bi f es => bnd (evA es) fun rs => bnd (ders rs) fun ds => biM P O f rs ds
  | .call f es => bnd (evA es) fun rs => callF P O.c1 f rs
  | .mk C es => bnd (evA es) fun rs => mkF P O.c2 C rs
  | .meth o m es => bnd (ev o) fun r => bnd (der r) fun d => match d with
    | .ins C ns _ => if ns.contains m then stuck else (match lookupAt C m P with
      | some (.meth f) => bnd (evA es) fun rs => callF P O.c1 f (r :: rs)
      | _ => stuck)
    | _ => stuck
  | .callv f es => bnd (ev f) fun r => bnd (der r) fun d0 => if calB P d0 then bnd (evA es) fun rs => bnd (der r) fun d => callD P O r rs d0 d else stuck
  | .cmeth C m es => (match lookupAt C m P with
    | some (.cmet f) => bnd (evA es) fun rs => callF P O.c1 f (.val (.gl C) :: rs)
    | some (.smet f) => bnd (evA es) fun rs => callF P O.c1 f rs
    | _ => stuck)
  | .fst es => bnd (evF es Str.empty) fun s => ret (.val (.str s))
  | .fmt e => bnd (ev e) fun r => bnd (der r) fun d => fmtM P O r d
  | .smeth o m es => bnd (ev o) fun r => bnd (der r) fun d => match d with
    | .str s => bnd (evA es) fun rs => bnd (ders rs) fun ds => ofO (smF m s ds)
    | _ => stuck
  | .attr o f => bnd (ev o) fun r => bnd (der r) fun d => match d with
    | .ins C ns ds => (match lookupAt C f P with
      | some (.prop g) => noX (callF P O.c2 g [r])
      | some (.con d) => if ns.contains f then stuck else ret (.val d)
      | some (.meth _) => stuck
      | some (.cmet _) => stuck
      | some (.smet _) => stuck
      | none => if isFld C f P then bnd (ofO (fldF f ns ds)) fun d => ret (.val d) else stuck)
    | _ => stuck
  | .ix o i => bnd (ev o) fun r => bnd (ev i) fun q => bnd (der r) fun x => bnd (der q) fun y => bnd (ofO (ixF x y)) fun d => ret (.val d)
  | .sl o lo hi => bnd (ev o) fun r => bnd (evP lo) fun l => bnd (evP hi) fun h => bnd (der r) fun x => ofO (slF x l h)
  | .lc e t ws it p => bnd (evI it) fun iz => fun σ => if wipeOk ws σ then (match lcL (fun d σ' => (bnd (asg t d) fun _ => bnd (evT p) fun k => if k then bnd (ev e) fun r => bnd (frz r) fun x => ret (some x) else ret none) (wipeL ws σ')) iz.1 [] (lockS iz.2 σ) with
      | .ok ds σ' => .ok (.tmp (.lst ds)) (unlockS iz.2 (restL ws σ σ'))
      | _ => .fail) else .fail
  | _ => stuck
termination_by structural e => e
/-- a test -/
def evT : E → M Bool
  | .tn a => bnd (evT a) fun k => ret (!k)
  | .ta a b => bnd (evT a) fun k => if k then evT b else ret false
  | .to a b => bnd (evT a) fun k => if k then ret true else evT b
  | .ti t a b => bnd (evT t) fun k => if k then evT a else evT b
  | .tc op a b => bnd (ev a) fun r => bnd (ev b) fun q => bnd (der r) fun x => bnd (der q) fun y => bnd (cmpM P O op r q x y) fun z => match z with
    | .val (.bl k) => ret k
    | _ => stuck
  | .tc2 o1 o2 a b c => bnd (ev a) fun r => bnd (ev b) fun q => bnd (der r) fun x => bnd (der q) fun y => bnd (ofO (cmpF o1 x y)) fun k =>
      if k then bnd (ev c) fun p => bnd (der q) fun y => bnd (der p) fun z => ofO (cmpF o2 y z) else ret false
  | .tr e => bnd (ev e) fun r => bnd (der r) fun x => ofO (truth x)
  | _ => stuck
termination_by structural e => e
/-- the parts of a display, frozen -/
def evD : E → M (List D)
  | .nil => ret []
  | .arg e r => bnd (ev e) fun x => bnd (frz x) fun d => bnd (evD r) fun ds => ret (d :: ds)
  | .star e r => bnd (ev e) fun x => bnd (der x) fun d => bnd (ofO (itemsQ d)) fun xs => bnd (evD r) fun ds => ret (xs ++ ds)
  | _ => stuck
termination_by structural e => e
/-- arguments -/
def evA : E → M (List R)
  | .nil => ret []
  | .arg e r => bnd (ev e) fun x => bnd (evA r) fun rs => ret (x :: rs)
  | .star e r => bnd (ev e) fun x => bnd (der x) fun d => bnd (ofO (itemsQ d)) fun xs => bnd (evA r) fun rs => ret (xs.map R.val ++ rs)
  | _ => stuck
termination_by structural e => e
/-- the parts of an f-string -/
def evF : E → Str → M Str
  | .nil, acc => ret acc
  | .arg e r, acc => bnd (ev e) fun x => match x with
    | .val (.str y) => if (acc ++ y).length ≤ lim then evF r (acc ++ y) else stuck
    | _ => stuck
  | _, _ => stuck
termination_by structural e => e
/-- an end of a slice -/
def evP : E → M (Option Int)
  | .nil => ret none
  | .pt e => bnd (ev e) fun r => bnd (der r) fun d => match d with
    | .int i => ret (some i)
    | _ => stuck
  | _ => stuck
termination_by structural e => e
/-- what a for walks: its items, the slot that is locked -/
def evI : E → M (List D × Option Nat)
  | .rng es => bnd (evA es) fun rs => bnd (ders rs) fun ds => bnd (ofO (rngF ds)) fun xs => ret (xs, none)
  | .enm e => bnd (ev e) fun r => bnd (der r) fun d => bnd (ofO (itemsQ d)) fun xs => fun σ => .ok (enumFrom 0 xs, lkOf r σ) σ
  | .sq e => bnd (ev e) fun r => bnd (der r) fun d => bnd (ofO (itemsF d)) fun xs => fun σ => .ok (xs, lkOf r σ) σ
  | e => stuck
termination_by structural e => e
end

/-! ### statements -/
inductive Fl where
  | next | brk | cont | ret (r : R)
def putR (i : Nat) : R → M Unit
  | .val d => put i (.val d)
  | .tmp d => put i (.own false false d)
  | .bor _ => stuck
def putRs : List Nat → List R → M Unit
  | [], [] => ret ()
  | i :: is, r :: rs => bnd (putR i r) fun _ => putRs is rs
  | _, _ => stuck
def forL (f : D → M Fl) : List D → M Fl
  | [] => ret .next
  | d :: ds => bnd (f d) fun fl => match fl with
    | .next => forL f ds
    | .cont => forL f ds
    | .brk => ret .next
    | .ret r => ret (.ret r)
def ioF : List Sl → List Sl → List Sl
  | [], _ => []
  | a :: as, [] => a :: as
  | .own io lk d :: as, s :: σ => s :: ioF as σ
  | a :: as, _ :: σ => a :: ioF as σ
/-- while, so many turns at most -/
def whlL (t : M Bool) (f : M Fl) : Nat → M Fl
  | 0 => stuck
  | n + 1 => bnd t fun k => if k then bnd f fun fl => match fl with
    | .next => whlL t f n
    | .cont => whlL t f n
    | .brk => ret .next
    | .ret r => ret (.ret r) else ret .next
def turns : Nat := 2 ^ 100
def isIo : Sl → Bool
  | .own false _ _ => false
  | _ => true
def isOwn (i : Nat) : M Unit := fun σ => match σ[i]? with
  | some (.own _ _ _) => .ok () σ
  | _ => .fail
/-- x[k] = d, x a list of one's own -/
def setF (i : Nat) (k : D) (d : D) : M Unit := fun σ => match σ[i]?, k with
  | some (.own io false (.lst ds)), .int j => (match L2.ixN ds.length j with
    | some n => .ok () (σ.set i (.own io false (.lst (ds.set n d))))
    | none => .fail)
  | _, _ => .fail
def putFld (f : Nat) (d : D) : List Nat → List D → List Nat × List D
  | n :: ns, e :: ds => if n = f then (n :: ns, d :: ds) else ((n :: (putFld f d ns ds).1), (e :: (putFld f d ns ds).2))
  | _, _ => ([f], [d])
def setA (i : Nat) (f : Nat) (d : D) : M Unit := fun σ => match σ[i]? with
  | some (.own io false (.ins C ns ds)) => (match lookupAt C f P with
    | none => if ns.length < 999 ∧ isFld C f P = true then .ok () (σ.set i (.own io false (.ins C (putFld f d ns ds).1 (putFld f d ns ds).2))) else .fail
    | some _ => .fail)
  | _ => .fail
def isLst (i : Nat) : M Unit := fun σ => match σ[i]? with
  | some (.own _ _ (.lst _)) => .ok () σ
  | _ => .fail
/-- x.append(d), x.extend(xs), x a list of one's own -/
def appF (i : Nat) (xs : List D) : M Unit := fun σ => match σ[i]? with
  | some (.own io false (.lst ds)) => if ds.length + xs.length ≤ lim then .ok () (σ.set i (.own io false (.lst (ds ++ xs)))) else .fail
  | _ => .fail
def ex : S → M Fl
  | .nil => ret .next
  | .seq s r => bnd (ex s) fun fl => match fl with
    | .next => ex r
    | fl => ret fl
  | .set (.name i) e => bnd (ev P O e) fun r => bnd (putR i r) fun _ => ret .next
  | .set t e => bnd (ev P O e) fun r => bnd (frz r) fun d => bnd (asg t d) fun _ => ret .next
  | .par is es => bnd (evA P O es) fun rs => bnd (putRs is rs) fun _ => ret .next
  | .setix i k e => bnd (ev P O e) fun r => bnd (frz r) fun d => bnd (isOwn i) fun _ => bnd (ev P O k) fun q => bnd (der q) fun j => bnd (setF i j d) fun _ => ret .next
  | .setat i f e => bnd (ev P O e) fun r => bnd (frz r) fun d => bnd (setA P i f d) fun _ => ret .next
  | .expr e => bnd (ev P O e) fun _ => ret .next
  | .ret e => bnd (ev P O e) fun r => ret (.ret r)
  | .retv i => fun σ => match σ[i]? with
    | some (.val d) => .ok (.ret (.val d)) σ
    | some (.own false false d) => .ok (.ret (.tmp d)) (σ.set i .un)
    | _ => .fail
  | .ite t a b => bnd (evT P O t) fun k => if k then ex a else ex b
  | .for t it a => bnd (evI P O it) fun iz => fun σ => match forL (fun d => bnd (asg t d) fun _ => ex a) iz.1 (lockS iz.2 σ) with
    | .ok fl σ' => .ok fl (unlockS iz.2 σ')
    | .exc x σ' => .exc x (unlockS iz.2 σ')
    | .fail => .fail
  | .brk => ret .brk
  | .cont => ret .cont
  | .unp i k j e => bnd (ev P O e) fun r => bnd (frz r) fun d => match d with
    | .tup [x, y] => bnd (setF i (.int k) x) fun _ => bnd (put j (.val y)) fun _ => ret .next
    | _ => stuck
  | .whl t a => whlL (evT P O t) (ex a) turns
  | .app i e => bnd (isLst i) fun _ => bnd (ev P O e) fun r => bnd (frz r) fun d => bnd (appF i [d]) fun _ => ret .next
  | .ext i e => bnd (isLst i) fun _ => bnd (ev P O e) fun r => match r with
    | .tmp (.lst xs) => bnd (appF i xs) fun _ => ret .next
    | _ => stuck
  | .aug i op e => bnd (ev P O (.b i)) fun r => bnd (ev P O e) fun q => bnd (der r) fun x => bnd (der q) fun y => match x, y with
    | .int x, .int y => bnd (ofO (binF op (.int x) (.int y))) fun z => bnd (putR i z) fun _ => ret .next
    | _, _ => stuck
  | _ => stuck

/-- the calls at level k -/
def oc (cs : Nat → CallT) : Nat → Oc
  | 0 => ⟨fun _ _ => .fail, fun _ _ => .fail⟩
  | k + 1 => ⟨cs (k + 1), cs k⟩
def callN : Nat → CallT
  | 0 => fun _ _ => .fail
  | 1 => fun _ _ => .fail
  | k + 2 => fun f as => match P.fn f with
    | none => .fail
    | some F => if as.length = F.np ∧ F.np ≤ F.ns ∧ as.all isIo = true then (match ex P ⟨callN (k + 1), callN k⟩ F.body (as ++ List.replicate (F.ns - F.np) Sl.un) with
      | .ok (.ret (.bor _)) _ => .fail
      | .ok (.ret r) σ => .ok r (ioF as σ)
      | .ok .next σ => .ok (.val .non) (ioF as σ)
      | .ok _ _ => .fail
      | .exc x σ => .exc x (ioF as σ)
      | .fail => .fail) else .fail
end EV

set_option Elab.async false
set_option linter.all false
set_option maxRecDepth 100000
set_option maxHeartbeats 4000000
/-! ### from the text's trees to the evaluator's -/
namespace EV
open PySem L2

/-- what a name of the module is -/
inductive Gk where
  | fn (i : Nat) | cls (i : Nat) | con (i : Nat) | bi (f : Bi) | ty (t : BT)
structure CC where
  N : List Str
  sc : Scope
  kd : Str → Option Gk
  att : Str → Option Nat
  /-- names whose cells were made by the block itself -/
  fn : Str → Bool
def CC.blk (c : CC) (scope : Scope) : CC := { c with sc := relS scope c.sc, fn := fun x => scope.names.lookup x == some .cell }
/-- an expression as a value that goes on, as a value that is looked at, as a test, as what is walked; what stands behind a star; the ends of a slice -/
structure C4 where
  v : E := .bad
  b : E := .bad
  t : E := .bad
  i : E := .bad
  s : E := .bad
  st : Bool := false
  sl : Option (E × E) := none
def C4.bad : C4 := {}
def C4.of (e : E) : C4 := { v := e, b := e, t := .tr e, i := .sq e }
def isLoc (c : CC) (x : Str) : Bool := match c.sc.names.lookup x with
  | some .local => true
  | some .cell => true
  | some .free => true
  | _ => false
def isGlb (c : CC) (x : Str) : Bool := match c.sc.names.lookup x with
  | some .globalImplicit => true
  | _ => false
def plainN (x : Str) : Bool := x != "__debug__" && x != "__classdict__" && x != "__name__"
def slotOf (c : CC) (x : Str) : Option Nat := if isLoc c x && plainN x then c.N.idxOf? x else none
def nameC (c : CC) (x : Str) : C4 := match slotOf c x with
  | some i => { v := .v i, b := .b i, t := .tr (.b i), i := .sq (.b i) }
  | none => if isGlb c x && plainN x then (match c.kd x with
    | some (.con i) => C4.of (.g i)
    | some (.cls i) => C4.of (.g i)
    | some (.fn i) => C4.of (.g i)
    | some (.ty t) => C4.of (.c (.ty t))
    | _ => C4.bad) else C4.bad
def args : List C4 → E
  | [] => .nil
  | x :: r => if x.st then .star x.s (args r) else .arg x.b (args r)
def andE : List C4 → E
  | [] => .bad
  | [x] => x.v
  | x :: r => .and x.v (andE r)
def orE : List C4 → E
  | [] => .bad
  | [x] => x.v
  | x :: r => .or x.v (orE r)
def andT : List C4 → E
  | [] => .bad
  | [x] => x.t
  | x :: r => .ta x.t (andT r)
def orT : List C4 → E
  | [] => .bad
  | [x] => x.t
  | x :: r => .to x.t (orT r)
def cmpC (l : C4) (ops : List CmpOp) (cs : List C4) : C4 := match ops, cs with
  | [op], [r] => { v := .cmp op l.b r.b, b := .cmp op l.b r.b, t := .tc op l.b r.b }
  | [o1, o2], [r, q] => { v := .cmp2 o1 o2 l.b r.b q.b, b := .cmp2 o1 o2 l.b r.b q.b, t := .tc2 o1 o2 l.b r.b q.b }
  | _, _ => C4.bad
/-- no star among the arguments -/
def isStar : Expr → Bool
  | .Starred _ _ => true
  | _ => false
def isSet : Expr → Bool
  | .Set _ _ _ => true
  | _ => false
def noStar (es : List Expr) : Bool := es.all fun e => !isStar e
/-- stars behind the first argument, or one alone -/
def starOk : List Expr → Bool
  | [] => true
  | [.Starred _ _] => true
  | .Starred _ _ :: _ => false
  | _ => true
/-- a type that is called -/
def biT : BT → Option Bi
  | .tuple => some .tuple
  | .list => some .list
  | .int => some .int
  | .str => some .str
  | .bool => some .bool
  | _ => none
def callC (c : CC) (x : Str) (es : List Expr) (as : List C4) : C4 := match slotOf c x with
  | some i => if noStar es && !es.isEmpty then C4.of (.callv (.b i) (args as)) else C4.bad
  | none => if isGlb c x && plainN x && starOk es then (match c.kd x with
  | some (.fn i) => C4.of (.call i (args as))
  | some (.cls i) => C4.of (.mk i (args as))
  | k => if noStar es then (match k with
  | some (.bi f) => C4.of (.bi f (args as))
  | some (.ty t) => (match biT t with
    | some f => C4.of (.bi f (args as))
    | none => C4.bad)
  | none => (match as with
    | [a] => if x == "range" then { i := .rng (args as) } else if x == "enumerate" then { i := .enm a.b } else C4.bad
    | [_, _] => if x == "range" then { i := .rng (args as) } else C4.bad
    | _ => C4.bad)
  | _ => C4.bad) else C4.bad) else C4.bad
def isEnm : E → Bool
  | .enm _ => true
  | _ => false
def isTup : Expr → Bool
  | .Tuple _ _ _ => true
  | _ => false
/-- not super() -/
def okBase : Expr → Bool
  | .Call (.Name id _) [] [] _ => id != "super"
  | _ => true
def methC (c : CC) (o : C4) (m : Str) (apos pos : Pos) (es : List Expr) (as : List C4) : C4 := if noStar es && (apos.endLine == pos.line) && decide (es.length < 20) then (match c.att m with
  | some i => if i < 20 then (if (i == 1 || i == 8 || i == 9 || i == 10 || i == 11 || i == 6) && !es.isEmpty then C4.of (.smeth o.b i (args as)) else C4.bad) else C4.of (.meth o.b i (args as))
  | none => C4.bad) else C4.bad
def ownOf (N : List Str) (scope : Scope) : List (Str × Nat) := scope.names.filterMap fun y => match y.2 with
  | .local => (N.idxOf? y.1).map fun i => (y.1, i)
  | .cell => (N.idxOf? y.1).map fun i => (y.1, i)
  | _ => none
def slots : Tg → List Nat
  | .name i => [i]
  | .nil => []
  | .cons t r => slots t ++ slots r
  | .tup t => slots t
  | .bad => []
mutual
def tgC (c : CC) : Expr → Tg
  | .Name x _ => (match c.sc.names.lookup x with
    | some .local => if plainN x then (match c.N.idxOf? x with
      | some i => .name i
      | none => .bad) else .bad
    | some .cell => if plainN x && c.fn x then (match c.N.idxOf? x with
      | some i => .name i
      | none => .bad) else .bad
    | _ => .bad)
  | .Tuple es _ _ => if noStar es then .tup (tgsC c es) else .bad
  | _ => .bad
def tgsC (c : CC) : List Expr → Tg
  | [] => .nil
  | e :: r => .cons (tgC c e) (tgsC c r)
end
mutual
def comp : Expr → CC → C4
  | .Constant k _ _, _ => (match k with
    | .none => C4.of (.c .non)
    | .bool b => C4.of (.c (.bl b))
    | .int i => C4.of (.c (.int i))
    | .str s => C4.of (.c (.str s))
    | _ => C4.bad)
  | .Name x _, c => nameC c x
  | .BinOp a op b _, c => C4.of (.bin op (comp a c).b (comp b c).b)
  | .UnaryOp op a _, c => (match op with
    | .Not => { v := .not (comp a c).b, b := .not (comp a c).b, t := .tn (comp a c).t }
    | .USub => C4.of (.neg (comp a c).b)
    | _ => C4.bad)
  | .BoolOp op vs _, c => (match op with
    | .And => { v := andE (compL vs c), b := andE (compL vs c), t := andT (compL vs c) }
    | .Or => { v := orE (compL vs c), b := orE (compL vs c), t := orT (compL vs c) })
  | .Compare l ops cs _, c => if cs.all (fun e => !isSet e) then cmpC (comp l c) ops (compL cs c) else C4.bad
  | .IfExp t a b _, c => { v := .ife (comp t c).t (comp a c).v (comp b c).v, b := .ife (comp t c).t (comp a c).v (comp b c).v, t := .ti (comp t c).t (comp a c).t (comp b c).t }
  | .Tuple es _ _, c => C4.of (.tup (compD es c))
  | .List es _, c => C4.of (.lst (compD es c))
  | .Call f es kws pos, c => if kws.isEmpty then compF f (comp f c) c es (compL es c) pos else C4.bad
  | .Attribute o f _, c => if okBase o then (match c.att f with
    | some i => C4.of (.attr (comp o c).b i)
    | none => C4.bad) else C4.bad
  | .Subscript o s _, c => (match (comp s c).sl with
    | some (lo, hi) => C4.of (.sl (comp o c).b lo hi)
    | none => C4.of (.ix (comp o c).b (comp s c).b))
  | .Slice lo hi st _, c => (match st with
    | none => { sl := some (compO lo c, compO hi c) }
    | some _ => C4.bad)
  | .FormattedValue e k sp _, c => if k == -1 && sp.isNone then C4.of (.fmt (comp e c).b) else C4.bad
  | .JoinedStr es _, c => if 2 ≤ es.length && noStar es then C4.of (.fst (compD es c)) else C4.bad
  | .Starred e _, c => { s := (comp e c).b, st := true }
  | .ListComp e gs scope _, c => compG gs c (comp e (c.blk scope)) scope
  | _, _ => C4.bad
termination_by structural e => e
/-- what is called -/
def compF : Expr → C4 → CC → List Expr → List C4 → Pos → C4
  | .Name x _, _, c, es, as, _ => callC c x es as
  | .Attribute o m apos, _, c, es, as, pos => if okBase o then methC c (comp o c) m apos pos es as else C4.bad
  | .Call _ _ _ _, k, _, es, as, _ => if noStar es && !es.isEmpty then C4.of (.callv k.b (args as)) else C4.bad
  | _, _, _, _, _, _ => C4.bad
termination_by structural e => e
def compO : Option Expr → CC → E
  | none, _ => .nil
  | some e, c => .pt (comp e c).b
termination_by structural e => e
def compL : List Expr → CC → List C4
  | [], _ => []
  | e :: r, c => comp e c :: compL r c
termination_by structural e => e
/-- the parts of a display -/
def compD : List Expr → CC → E
  | [], _ => .nil
  | e :: r, c => if isStar e then .star (comp e c).s (compD r c) else .arg (comp e c).v (compD r c)
termination_by structural e => e
def compG : List Comprehension → CC → C4 → Scope → C4
  | [], _, _, _ => C4.bad
  | g :: r, c, e, scope => if r.isEmpty then compG1 g c e scope else C4.bad
termination_by structural e => e
def compG1 : Comprehension → CC → C4 → Scope → C4
  | ⟨tg, it, ifs, k⟩, c, e, scope => if k == 0 && !isSet it && (!isEnm (comp it c).i || isTup tg) && blkC c.N c.sc scope (ownOf c.N scope) && (slots (tgC (c.blk scope) tg)).all (fun w => ((ownOf c.N scope).map (·.2)).contains w) then
      C4.of (.lc e.v (tgC (c.blk scope) tg) ((ownOf c.N scope).map (·.2)) (comp it c).i (match compL ifs (c.blk scope) with
        | [] => .tr (.c (.bl true))
        | [p] => p.t
        | _ => .bad)) else C4.bad
termination_by structural e => e
end
end EV

set_option Elab.async false
set_option linter.all false
set_option maxRecDepth 100000
set_option maxHeartbeats 4000000
/-! ### == and != by an own __eq__ -/
namespace EV
open PySem L2 PySem.Spec PyProof.Rows
section
variable {prog : Program} {w : World} {A : Around} {E : Value → Shared → Prop} {s : Shared} {K : PySem.W.Frag} {x C f L0 : Addr} {ox : Obj} {od : Option Obj} {b tb : Value} {h₀ : Heap} {mm : Str → Option Value}
theorem bound_ne {M : Model} {as : List Value} {Q : Option Value → Shared → Prop} (X : K.In s.heap) (I : PySem.W.InstAt s.heap x ox C od) (hs : PySem.W.findIn K (.ref C) "__ne__" = some (some (.builtin "object.__ne__")))
    (h : wpAny M A (call (.builtin "object.__ne__") (.ref x :: as)) (fun v => Q (some v)) E s) : wpAny M A (callSpecialIfBound? (.ref x) "__ne__" as) Q E s := by
  simp only [callSpecialIfBound?, bindSpecialIfBound?]
  refine wpAny_holding (wpAny_bind (wpAny_bind (wpAny_bind (I.type.here ((PySem.W.looks_findIn X hs).here ?_)))))
  refine wpAny_bind (wpAny_askSetting (wpAny_ite ?_))
  have last : wpAny M A (call (.builtin "object.__ne__") ([.ref x] ++ as) >>= fun v => pure (some v)) Q E s := wpAny_bind (wpAny_mono h (fun v s' h' => wpAny_pure h') fun _ _ h' => h')
  split
  · exact wpAny_bind (wpAny_of_eq (F.cmp_object.ne.bind _) (wpAny_pure (by exact last)))
  · exact wpAny_tryCatch (wpAny_bind (wpAny_of_eq (F.cmp_object.ne.bind _) (wpAny_pure (by exact last))))
theorem ne_entry {Q : Fin → Shared → Prop} (hu : A.units < cLine) (X : K.In s.heap) (I : PySem.W.InstAt s.heap x ox C od) (hs : PySem.W.findIn K (.ref C) "__eq__" = some (some (.ref f))) (hf : PySem.W.isFn K (.ref f) = true)
    (h : wpAny (model prog w) A (call (.ref f) [.ref x, b]) (fun v s' => ∃ k, v = .bool k ∧ Q (.done (.ret (.bool (!k)))) s') E s) : wpAny (model prog w) A (Builtin.«object.__ne__» ⟨[.ref x, b], []⟩) Q E s := by
  unfold Builtin.«object.__ne__»
  repeat (first
    | with_reducible refine wpAny_cRoomFor hu ?_
    | (refine wpAny_bind (m := callSpecialIfBound? (.ref x) (Str.ofString "__eq__") [b])
        (PySem.W.ifBound_K X I hs hf (wpAny_mono h (fun r s' hr => by
          obtain ⟨k, rfl, hq⟩ := hr
          repeat (first | exact hq | exact wpAny_pure hq | exact wpAny_truthy_bool hq | (refine wpAny_bind (m := truthy (.bool _)) (wpAny_truthy_bool ?_)) | wp_step)) fun _ _ e => e)))
    | wp_step)
theorem rc_ne {Q : Value → Shared → Prop} (hu : A.units + 1 < cLine) (X : K.In s.heap) (I : PySem.W.InstAt s.heap x ox C od) (hb : PySem.W.Looks (model prog w) s.heap (typeOf b) (.ref C)) (hm : PySem.W.mroIn K C (.type "object") = some true)
    (hn : PySem.W.findIn K (.ref C) "__ne__" = some (some (.builtin "object.__ne__"))) (hs : PySem.W.findIn K (.ref C) "__eq__" = some (some (.ref f))) (hf : PySem.W.isFn K (.ref f) = true)
    (h : wpAny (model prog w) A.in1 (call (.ref f) [.ref x, b]) (fun v s' => ∃ k, v = .bool k ∧ Q (.bool (!k)) s') E s) : wpAny (model prog w) A (richCompare .NotEq (.ref x) b) Q E s := by
  have one : wpAny (model prog w) A (tryCompare (.ref x) "__ne__" b) (fun r s' => ∃ k, r = some (.bool k) ∧ Q (.bool k) s') E s := by
    unfold tryCompare
    refine wpAny_bind (bound_ne X I hn (wpAny_call (codeAny_call_builtin F.cmp_object.ne.plain F.cmpEntry_ne (PySem.W.check_slot F.cmpKind_ne F.cmpSplit_ne (I.type.andThen (PySem.W.looks_mroIn X hm)) (F.cmpArgs_ne _ _)
      (ne_entry (A := A.in1) hu X I hs hf (wpAny_mono h (fun v s' hv => ?_) fun _ _ e => e))))))
    obtain ⟨k, rfl, hq⟩ := hv
    refine ⟨k, rfl, ?_⟩
    exact wpAny_pure ⟨!k, rfl, hq⟩
  unfold richCompare
  simp only [oneThing_ref]
  refine wpAny_holding (wpAny_bind (wpAny_cRoomFor (Nat.lt_of_succ_lt hu) ?_))
  refine wpAny_bind (I.type.here (wpAny_bind (hb.here ?_)))
  rw [show (Value.ref C != Value.ref C) = false from by simp]
  simp only [Bool.false_eq_true, if_false]
  refine wpAny_bind (wpAny_pure ?_)
  simp only [Bool.false_eq_true, if_false]
  refine wpAny_bind (m := tryCompare (.ref x) _ b) (wpAny_mono one (fun r s1 z => ?_) fun _ _ e => e)
  obtain ⟨k, rfl, hq⟩ := z
  exact wpAny_pure hq
end
end EV

set_option Elab.async false
set_option linter.all false
set_option maxRecDepth 100000
set_option maxHeartbeats 4000000
/-! ### the evaluator is sound: the words -/
namespace EV
open PySem L2

/-- an exception and its own dict -/
def RX (L : Lk) (m : Addr → Prop) (H : Hp) (x : Ex) (cls : Value) (d : Option Addr) : Prop :=
  cls = .ref (L.ad x.C) ∧ ∃ a xs, d = some a ∧ H a = some (.xd ((x.ns.map L.nm).zip xs)) ∧ x.ns.length = xs.length ∧ RVs L H m x.ds xs

section
variable {α β γ δ : Type}
abbrev TL (α β : Type) := Hp → List Sl → St → (Addr → Prop) → Hp → α → β → Prop
def Post (L : Lk) (W : WX) (T : TL α β) (H : Hp) (σ : List Sl) (τ : St) (m : Addr → Prop) (Q : β → Hp → Prop) : Res α → Prop
  | .ok a σ' => ∀ m' H' v, Step L σ τ m H σ' τ m' H' → T H σ' τ m' H' a v → Q v H'
  | .exc x σ' => ∀ m' H' cls d, Step L σ τ m H σ' τ m' H' → RX L m' H' x cls d → W cls d τ H'
  | .fail => False
/-- the reading of an evaluation -/
def tG (L : Lk) (W : WX) (T : TL α β) (f : M α) : St → Hp → (β → Hp → Prop) → Prop := fun τ H Q =>
  ∃ m σ, Rel L m H σ τ ∧ Post L W T H σ τ m Q (f σ)
def TR (L : Lk) : TL R V := fun H0 σ τ m H r v => RR L H0 σ τ m H r v
def TB : TL Bool Bool := fun _ _ _ _ _ a b => a = b
def TRs (L : Lk) : TL (List R) (List V) := fun H0 σ τ m H rs vs => RRs L H0 σ τ m H rs vs
def TDs (L : Lk) : TL (List D) (List V) := fun _ _ _ m H ds vs => RVs L H m ds vs
abbrev tE (L : Lk) (W : WX) (f : M R) : TE := tG L W (TR L) f
abbrev tT (L : Lk) (W : WX) (f : M Bool) : TT := tG L W TB f
abbrev tA (L : Lk) (W : WX) (f : M (List R)) : TA := tG L W (TRs L) f
abbrev tDs (L : Lk) (W : WX) (f : M (List D)) : TA := tG L W (TDs L) f

variable {L : Lk} {W : WX} {T : TL α β} {T2 : TL γ δ} {H H1 H2 : Hp} {σ σ1 σ2 : List Sl} {τ : St} {m m1 m2 : Addr → Prop} {Q : δ → Hp → Prop}
/-- first f, then g: f's own reading, whatever is wanted of both -/
theorem post_bnd {f : M α} {g : α → M γ} {Q1 : β → Hp → Prop} (s : Step L σ τ m H σ1 τ m1 H1) (h : Post L W T2 H σ τ m Q (bnd f g σ1))
    (k : ∀ a σ2 m2 H2 v, Step L σ1 τ m1 H1 σ2 τ m2 H2 → Step L σ τ m H σ2 τ m2 H2 → T H1 σ2 τ m2 H2 a v → Post L W T2 H σ τ m Q (g a σ2) → Q1 v H2) : tG L W T f τ H1 Q1 := by
  refine ⟨m1, σ1, s.rel, ?_⟩
  unfold bnd at h
  cases e : f σ1 with
  | fail => rw [e] at h; exact h.elim
  | ok a σ2 =>
    rw [e] at h
    intro m2 H2 v s2 t
    exact k a σ2 m2 H2 v s2 (s.trans s2) t h
  | exc x σ2 =>
    rw [e] at h
    intro m2 H2 cls d s2 t
    exact h m2 H2 cls d (s.trans s2) t
theorem post_bnd0 {f : M α} {g : α → M γ} {Q1 : β → Hp → Prop} (rl : Rel L m H σ τ) (h : Post L W T2 H σ τ m Q (bnd f g σ))
    (k : ∀ a σ2 m2 H2 v, Step L σ τ m H σ2 τ m2 H2 → T H σ2 τ m2 H2 a v → Post L W T2 H σ τ m Q (g a σ2) → Q1 v H2) : tG L W T f τ H Q1 :=
  post_bnd (Step.refl rl) h fun a σ2 m2 H2 v s _ t p => k a σ2 m2 H2 v s t p
theorem post_bnd0e {f : M α} {g : α → M γ} {Q1 : β → Hp → Prop} (rl : Rel L m H σ τ) (h : Post L W T2 H σ τ m Q (bnd f g σ))
    (k : ∀ a σ2 m2 H2 v, f σ = .ok a σ2 → Step L σ τ m H σ2 τ m2 H2 → T H σ2 τ m2 H2 a v → Post L W T2 H σ τ m Q (g a σ2) → Q1 v H2) : tG L W T f τ H Q1 := by
  refine ⟨m, σ, rl, ?_⟩
  unfold bnd at h
  cases e : f σ with
  | fail => rw [e] at h; exact h.elim
  | ok a σ2 =>
    rw [e] at h
    intro m2 H2 v s2 t
    exact k a σ2 m2 H2 v e s2 t h
  | exc x σ2 =>
    rw [e] at h
    intro m2 H2 cls d s2 t
    exact h m2 H2 cls d s2 t
theorem post_ofO {o : Option α} {g : α → M γ} (h : Post L W T2 H σ τ m Q (bnd (ofO o) g σ1)) : ∃ a, o = some a ∧ Post L W T2 H σ τ m Q (g a σ1) := by
  cases o with
  | none => exact h.elim
  | some a => exact ⟨a, rfl, h⟩
theorem post_ofO1 {o : Option γ} (h : Post L W T2 H σ τ m Q (ofO o σ1)) : ∃ a, o = some a ∧ Post L W T2 H σ τ m Q (.ok a σ1) := by
  cases o with
  | none => exact h.elim
  | some a => exact ⟨a, rfl, h⟩
theorem post_der {r : R} {g : D → M γ} {H0 : Hp} {v : V} (rl : Rel L m1 H1 σ1 τ) (rr : RR L H0 σ1 τ m1 H1 r v) (h : Post L W T2 H σ τ m Q (bnd (der r) g σ1)) :
    ∃ d, RC L m1 H1 d v ∧ Post L W T2 H σ τ m Q (g d σ1) := by
  unfold bnd at h
  cases e : der r σ1 with
  | fail => rw [e] at h; exact h.elim
  | ok d σ2 =>
    rw [e] at h
    obtain ⟨e1, rc⟩ := der_ok rl rr e
    subst e1
    exact ⟨d, rc, h⟩
  | exc x σ2 =>
    unfold der at e
    cases r with
    | val d => cases e
    | tmp d => cases e
    | bor i =>
      dsimp only at e
      split at e <;> cases e
/-- the last part of an evaluation -/
theorem post_tail {f : M γ} (el : ∀ H0 H00 σ τ m H a v, (∀ b, H0 b = none → H00 b = none) → T2 H0 σ τ m H a v → T2 H00 σ τ m H a v) (s : Step L σ τ m H σ1 τ m1 H1) (h : Post L W T2 H σ τ m Q (f σ1)) : tG L W T2 f τ H1 Q := by
  refine ⟨m1, σ1, s.rel, ?_⟩
  cases e : f σ1 with
  | fail => rw [e] at h; exact h
  | ok a σ2 =>
    rw [e] at h
    intro m2 H2 v s2 t
    exact h m2 H2 v (s.trans s2) (el _ _ _ _ _ _ _ _ s.dom t)
  | exc x σ2 =>
    rw [e] at h
    intro m2 H2 cls d s2 t
    exact h m2 H2 cls d (s.trans s2) t
theorem post_imp {Q' : δ → Hp → Prop} {x : Res γ} (h : Post L W T2 H σ τ m Q x) (k : ∀ v H', Q v H' → Q' v H') : Post L W T2 H σ τ m Q' x := by
  cases x with
  | ok a σ' => intro m' H' v s t; exact k _ _ (h m' H' v s t)
  | exc x σ' => exact h
  | fail => exact h
end
theorem el_R {L : Lk} : ∀ H0 H00 σ τ m H a v, (∀ b, H0 b = none → H00 b = none) → TR L H0 σ τ m H a v → TR L H00 σ τ m H a v := fun _ _ _ _ _ _ _ _ k h => RR.elder k h
theorem el_B : ∀ H0 H00 σ τ m H a v, (∀ b, H0 b = none → H00 b = none) → TB H0 σ τ m H a v → TB H00 σ τ m H a v := fun _ _ _ _ _ _ _ _ _ h => h
theorem el_Rs {L : Lk} : ∀ H0 H00 σ τ m H a v, (∀ b, H0 b = none → H00 b = none) → TRs L H0 σ τ m H a v → TRs L H00 σ τ m H a v := fun _ _ _ _ _ _ _ _ k h => RRs.elder k h
theorem _root_.L2.PE.mono {X : Cx} {e : Expr} {t t' : TE} (h : PE X e t) (k : ∀ σ H Q, t' σ H Q → t σ H Q) : PE X e t' := ⟨fun pins s σ H Q I q => h.run pins s σ H Q I (k σ H Q q)⟩
theorem _root_.L2.PT.mono {X : Cx} {e : Expr} {t t' : TT} (h : PT X e t) (k : ∀ σ H Q, t' σ H Q → t σ H Q) : PT X e t' := ⟨fun pins s σ H Q I q => h.run pins s σ H Q I (k σ H Q q)⟩
theorem _root_.L2.PW.mono {X : Cx} {e : Expr} {t t' : TT} (h : PW X e t) (k : ∀ σ H Q, t' σ H Q → t σ H Q) : PW X e t' := ⟨fun w pins s σ H Q I q => h.run w pins s σ H Q I (k σ H Q q)⟩
theorem _root_.L2.PA.mono {X : Cx} {e : List Expr} {t t' : TA} (h : PA X e t) (k : ∀ σ H Q, t' σ H Q → t σ H Q) : PA X e t' := ⟨fun p pins s σ H Q I q => h.run p pins s σ H Q I (k σ H Q q)⟩
theorem _root_.L2.PS.mono {X : Cx} {e : Stmt} {t t' : TS} (h : PS X e t) (k : ∀ D σ H, t' D σ H → t D σ H) : PS X e t' := ⟨fun pins s σ H D I q => h.run pins s σ H D I (k D σ H q)⟩
theorem _root_.L2.PSs.mono {X : Cx} {e : List Stmt} {t t' : TS} (h : PSs X e t) (k : ∀ D σ H, t' D σ H → t D σ H) : PSs X e t' := ⟨fun pins s σ H D I q => h.run pins s σ H D I (k D σ H q)⟩
theorem _root_.L2.PE.or {X : Cx} {e : Expr} {t t' : TE} (h : PE X e t) (h' : PE X e t') : PE X e (fun σ H Q => t σ H Q ∨ t' σ H Q) := ⟨fun pins s σ H Q I q => q.elim (h.run pins s σ H Q I) (h'.run pins s σ H Q I)⟩

/-! ### new objects -/
/-- the heap has grown -/
def Grow (H H' : Hp) : Prop := ∀ a o, H a = some o → H' a = some o
def RON (L : Lk) (H : Hp) (m : Addr → Prop) (H' : Hp) (a : Addr) : D → Prop
  | .lst ds => ∃ xs, H' a = some (.lst xs) ∧ RVs L H m ds xs
  | .ins C ns ds => ∃ dx xs, H' a = some (.ins (L.ad C) dx ((ns.map L.nm).zip xs)) ∧ ns.length = xs.length ∧ RVs L H m ds xs
  | _ => False
/-- an operation's result -/
def Made (L : Lk) (m : Addr → Prop) (H : Hp) (r : R) (v : V) (H' : Hp) : Prop := Grow H H' ∧ match r with
  | .val d => RV L H' m d v
  | .tmp d => ∃ a, v = .ref a ∧ H a = none ∧ RON L H m H' a d
  | .bor _ => False
section
variable {L : Lk} {H H1 H' : Hp} {σ σ1 : List Sl} {τ : St} {m m1 : Addr → Prop}
theorem Rel.kp (rl : Rel L m H σ τ) {H' : Hp} {m' : Addr → Prop} (mH : ∀ a, m' a → ∃ o, H' a = some o) (k : Kp H m H' m') (hm : ∀ a, m a → m' a) (ho : ∀ a o, Ow σ τ a → H a = some o → H' a = some o) : Rel L m' H' σ τ := by
  refine ⟨mH, rl.len, fun j e hj => ?_, fun j io lk e hj => ?_, rl.inj⟩
  · obtain ⟨v, h4, h5⟩ := rl.val j e hj
    exact ⟨v, h4, RV.mono k _ _ h5⟩
  · obtain ⟨b, h4, h5, h6⟩ := rl.own j io lk e hj
    exact ⟨b, h4, hm b h5, h6.mono k fun o q => ho b o ⟨j, io, lk, e, hj, h4⟩ q⟩
theorem Step.grow (rl : Rel L m H σ τ) {m' : Addr → Prop} (g : Grow H H') (mH : ∀ a, m' a → ∃ o, H' a = some o) (hm : ∀ a o, H a = some o → (m' a ↔ m a)) : Step L σ τ m H σ τ m' H' := by
  refine ⟨rl.kp mH (fun a o e h => ⟨g a o e, fun z => h ((hm a o e).mp z)⟩) (fun a h => ?_) (fun a o _ e => g a o e), fun a o e _ => ⟨g a o e, hm a o e⟩, fun _ h => .inl h, fun _ h => .inl h, fun i lk d h => ⟨rfl, d, h⟩, fun i io d h => ⟨rfl, h⟩, fun a h => ?_⟩
  · obtain ⟨o, e⟩ := rl.mH a h
    exact (hm a o e).mpr h
  · cases e : H a with
    | none => rfl
    | some o => rw [g a o e] at h; cases h
theorem Made.step (rl : Rel L m H σ τ) {r : R} {v : V} (h : Made L m H r v H') : ∃ m', Step L σ τ m H σ τ m' H' ∧ RR L H σ τ m' H' r v := by
  obtain ⟨g, h⟩ := h
  cases r with
  | val d => exact ⟨m, Step.grow rl g (fun a h => let ⟨o, e⟩ := rl.mH a h; ⟨o, g a o e⟩) fun _ _ _ => Iff.rfl, h⟩
  | bor i => exact h.elim
  | tmp d =>
    obtain ⟨a, e, h0, h1⟩ := h
    have ha : ∃ o, H' a = some o := by
      cases d with
      | lst ds => obtain ⟨xs, q, _⟩ := h1; exact ⟨_, q⟩
      | ins C ns ds => obtain ⟨dx, xs, q, _⟩ := h1; exact ⟨_, q⟩
      | _ => exact h1.elim
    have s : Step L σ τ m H σ τ (fun b => m b ∨ b = a) H' := Step.grow rl g (fun b hb => by
      rcases hb with hb | rfl
      · obtain ⟨o, e⟩ := rl.mH b hb; exact ⟨o, g b o e⟩
      · exact ha) fun b o eb => ⟨fun z => z.elim id fun z => by (subst z; rw [h0] at eb; cases eb), .inl⟩
    refine ⟨_, s, a, e, h0, .inr rfl, fun z => ?_, ?_⟩
    · obtain ⟨o, q⟩ := rl.owH z
      rw [h0] at q; cases q
    · cases d with
      | lst ds => obtain ⟨xs, q, r⟩ := h1; exact ⟨xs, q, RVs.mono (s.kp rl) _ _ r⟩
      | ins C ns ds => obtain ⟨dx, xs, q, hl, r⟩ := h1; exact ⟨dx, xs, q, hl, RVs.mono (s.kp rl) _ _ r⟩
      | _ => exact h1.elim
/-- the last step of an evaluation: an operation -/
theorem post_made {W : WX} {Q : VK} {r : R} (s : Step L σ τ m H σ1 τ m1 H1) (h : Post L W (TR L) H σ τ m Q (.ok r σ1)) : ∀ v H', Made L m1 H1 r v H' → Q v H' := fun v H' md => by
  obtain ⟨m2, s2, rr⟩ := md.step s.rel
  exact h m2 H' v (s.trans s2) (rr.elder s.dom)
theorem Made.same {d : D} {v : V} (h : RV L H m d v) : Made L m H (.val d) v H := ⟨fun _ _ e => e, h⟩
theorem grow_upd {p : Addr} {o : HO} (h : H p = none) : Grow H (upd H p o) := fun a u e => by rw [upd_ne (ne_of_none e h)]; exact e
theorem fresh_m (rl : ∀ a, m a → ∃ o, H a = some o) {p : Addr} (h : H p = none) : ¬ m p := fun z => by
  obtain ⟨o, e⟩ := rl p z
  rw [h] at e; cases e
theorem Made.tupN (mH : ∀ a, m a → ∃ o, H a = some o) {ds : List D} {xs : List V} {p : Addr} (r : RVs L H m ds xs) (h : H p = none) : Made L m H (.val (.tup ds)) (.ref p) (upd H p (.tup xs)) := by
  refine ⟨grow_upd h, ?_⟩
  have hm := fresh_m mH h
  simp only [RV]
  exact ⟨p, xs, rfl, .inl ⟨hm, .inl upd_same⟩, RVs.mono (fun a o e q => ⟨grow_upd h a o e, q⟩) _ _ r⟩
theorem Made.lstN {ds : List D} {xs : List V} {p : Addr} (r : RVs L H m ds xs) (h : H p = none) : Made L m H (.tmp (.lst ds)) (.ref p) (upd H p (.lst xs)) := ⟨grow_upd h, p, rfl, h, xs, upd_same, r⟩
theorem RVs.all_str {xs : List Str} : ∀ {ds : List D} {vs : List V}, RVs L H m ds vs → strsF ds = some xs → vs = xs.map V.str := by
  intro ds
  induction ds generalizing xs with
  | nil => intro vs h e; simp only [RVs] at h; cases e; rw [h]; rfl
  | cons d ds ih =>
    intro vs h e
    simp only [RVs] at h
    obtain ⟨v, r, e1, h1, h2⟩ := h
    cases d <;> simp only [strsF] at e <;> try cases e
    rename_i x
    cases q : strsF ds with
    | none => rw [q] at e; cases e
    | some ys =>
      rw [q] at e; cases e
      simp only [RV] at h1
      rw [e1, h1, ih h2 q]; rfl
theorem RVs.all_bl {xs : List Bool} : ∀ {ds : List D} {vs : List V}, RVs L H m ds vs → blsF ds = some xs → vs = xs.map V.bl := by
  intro ds
  induction ds generalizing xs with
  | nil => intro vs h e; simp only [RVs] at h; cases e; rw [h]; rfl
  | cons d ds ih =>
    intro vs h e
    simp only [RVs] at h
    obtain ⟨v, r, e1, h1, h2⟩ := h
    cases d <;> simp only [blsF] at e <;> try cases e
    rename_i x
    cases q : blsF ds with
    | none => rw [q] at e; cases e
    | some ys =>
      rw [q] at e; cases e
      simp only [RV] at h1
      rw [e1, h1, ih h2 q]; rfl
/-! plain data, as the library's -/
mutual
theorem RV.dp : ∀ (d : D) (v : V) (p : PyData), RV L H m d v → toP d = some p → Dp L.K H v p
  | .non, v, p, h, e => by simp only [RV] at h; simp only [toP] at e; cases e; rw [h]; exact .non
  | .bl b, v, p, h, e => by simp only [RV] at h; simp only [toP] at e; cases e; rw [h]; exact .bl b
  | .int i, v, p, h, e => by simp only [RV] at h; simp only [toP] at e; cases e; rw [h]; exact .int i
  | .str s, v, p, h, e => by simp only [RV] at h; simp only [toP] at e; cases e; rw [h]; exact .str s
  | .gl x, v, p, h, e => by simp only [toP] at e; cases e
  | .ty n, v, p, h, e => by simp only [toP] at e; cases e
  | .tup ds, v, p, h, e => by
    obtain ⟨a, xs, ev, q, r⟩ := RV.tup' h
    simp only [toP] at e
    cases z : toPs ds with
    | none => rw [z] at e; cases e
    | some ps => rw [z] at e; cases e; rw [ev]; exact .tup q (RVs.dp ds xs ps r z)
  | .lst ds, v, p, h, e => by
    obtain ⟨a, xs, ev, q, r⟩ := RC.lst (.inl h)
    simp only [toP] at e
    cases z : toPs ds with
    | none => rw [z] at e; cases e
    | some ps => rw [z] at e; cases e; rw [ev]; exact .lst q (RVs.dp ds xs ps r z)
  | .ins C ns ds, v, p, h, e => by simp only [toP] at e; cases e
theorem RVs.dp : ∀ (ds : List D) (vs : List V) (ps : List PyData), RVs L H m ds vs → toPs ds = some ps → DpAll L.K H vs ps
  | [], vs, ps, h, e => by simp only [RVs] at h; simp only [toPs] at e; cases e; rw [h]; exact .nil
  | d :: ds, vs, ps, h, e => by
    simp only [RVs] at h
    obtain ⟨v, r, e1, h1, h2⟩ := h
    simp only [toPs] at e
    cases z : toP d with
    | none => rw [z] at e; cases e
    | some p =>
      cases z2 : toPs ds with
      | none => rw [z, z2] at e; cases e
      | some ps' => rw [z, z2] at e; cases e; rw [e1]; exact .cons (RV.dp d v p h1 z) (RVs.dp ds r ps' h2 z2)
end
theorem RC.dp {d : D} {v : V} {p : PyData} (h : RC L m H d v) (e : toP d = some p) : Dp L.K H v p := by
  rcases h with h | ⟨a, e1, _, h⟩
  · exact RV.dp d v p h e
  · cases d with
    | lst ds =>
      obtain ⟨xs, h1, h2⟩ := h
      simp only [toP] at e
      cases z : toPs ds with
      | none => rw [z] at e; cases e
      | some ps => rw [z] at e; cases e; rw [e1]; exact .lst (SqL.of h1) (RVs.dp ds xs ps h2 z)
    | ins C ns ds => simp only [toP] at e; cases e
    | _ => exact h.elim
end
end EV

set_option Elab.async false
set_option linter.all false
set_option maxRecDepth 100000
set_option maxHeartbeats 4000000
/-! ### the operations are sound -/
namespace EV
open PySem L2

theorem isB_ok {a b : BT} {r : Bool} (h : isB a b = some r) : kitB a.name b.name = some r := by
  cases a <;> cases b <;> first | (cases h; done) | (cases h; decide +kernel)
/-- the links are those of X -/
structure LOk (X : Cx) (L : Lk) (P : Prog) : Prop where
  K : X.K = L.K
  isa : ∀ t c b, P.isa t c = some b → ∀ (H : Hp) (x : V), (match t with
    | .ty n => PySem.W.kitOne L.K (.type n.name) (match c with | .ty k => .type k.name | .cl C => .ref (L.ad C)) = some b
    | .cl C => PySem.W.kitOne L.K (.ref (L.ad C)) (match c with | .ty k => .type k.name | .cl C => .ref (L.ad C)) = some b)
  ins : ∀ C c b, P.isa (.cl C) c = some b → ∀ (H : Hp) a dx fs, H a = some (.ins (L.ad C) dx fs) → TyOf L.K H (.ref a) (.ref (L.ad C))

section
variable {X : Cx} {L : Lk} {P : Prog}
/-- data go in, an operation's result comes out -/
def rBin (L : Lk) (g : D → D → Option R) : R2 := fun x y H Q => ∃ m dx dy r, (∀ a, m a → ∃ o, H a = some o) ∧ RC L m H dx x ∧ RC L m H dy y ∧ g dx dy = some r ∧ ∀ v H', Made L m H r v H' → Q v H'
def rUn (L : Lk) (g : D → Option R) : V → Hp → VK → Prop := fun x H Q => ∃ m dx r, (∀ a, m a → ∃ o, H a = some o) ∧ RC L m H dx x ∧ g dx = some r ∧ ∀ v H', Made L m H r v H' → Q v H'
def rMany (L : Lk) (g : List D → Option R) : List V → Hp → VK → Prop := fun xs H Q => ∃ m ds r, (∀ a, m a → ∃ o, H a = some o) ∧ Paired (RC L m H) ds xs ∧ g ds = some r ∧ ∀ v H', Made L m H r v H' → Q v H'
theorem Made.int {m : Addr → Prop} {H : Hp} (i : Int) : Made L m H (.val (.int i)) (.int i) H := .same (by simp only [RV])
theorem Made.bl {m : Addr → Prop} {H : Hp} (i : Bool) : Made L m H (.val (.bl i)) (.bl i) H := .same (by simp only [RV])
theorem Made.str {m : Addr → Prop} {H : Hp} (i : Str) : Made L m H (.val (.str i)) (.str i) H := .same (by simp only [RV])
theorem lim_eq : lim = sizeLine := by rw [sizeLine_eq]; rfl

theorem tup_same {m : Addr → Prop} {H : Hp} {ds : List D} {a : Addr} {xs : List V} (h : RV L H m (.tup ds) (.ref a)) : Made L m H (.val (.tup ds)) (.ref a) H := .same h
theorem op_bin (ok : X.K = L.K) (op : Operator) : OpR X (binaryOp op) (rBin L (binF op)) := by
  intro pins s σ H x y v u Q I rx ry h
  obtain ⟨m, dx, dy, r, mH, cx, cy, e, q⟩ := h
  unfold binF at e
  split at e
  · cases e; rw [cx.int] at rx; rw [cy.int] at ry
    exact op_add pins s σ H _ _ v u Q I rx ry ⟨_, _, rfl, rfl, q _ _ (Made.int _)⟩
  · split at e
    · cases e; rw [cx.str] at rx; rw [cy.str] at ry
      exact op_add_str pins s σ H _ _ v u Q I rx ry ⟨_, _, rfl, rfl, by rw [← lim_eq]; assumption, q _ _ (Made.str _)⟩
    · cases e
  · split at e
    · cases e
      rename_i ds es hl
      obtain ⟨a, xs, e1, q1, r1⟩ := cx.tup
      obtain ⟨b, ys, e2, q2, r2⟩ := cy.tup
      rw [e1] at rx; rw [e2] at ry
      have l1 := r1.length
      have l2 := r2.length
      refine op_catA pins s σ H _ _ v u Q I rx ry ⟨a, b, xs, ys, rfl, rfl, by rw [ok]; exact q1, by rw [ok]; exact q2, by rw [← lim_eq, ← l1, ← l2]; exact hl, fun z => ?_, fun z z2 => ?_, fun _ _ p hp => ?_⟩
      · subst z
        have : ds = [] := List.length_eq_zero_iff.mp l1
        subst this
        rw [← e2]
        exact q _ _ (.same (cy.rv (by intros; simp) (by intros; simp)))
      · subst z2
        have : es = [] := List.length_eq_zero_iff.mp l2
        subst this
        rw [← e1]
        exact q _ _ (.same (by rw [List.append_nil]; exact cx.rv (by intros; simp) (by intros; simp)))
      · exact q _ _ (Made.tupN mH (r1.append r2) hp)
    · cases e
  · split at e
    · cases e
      rename_i ds es hl
      obtain ⟨a, xs, e1, q1, r1⟩ := cx.lst'
      obtain ⟨b, ys, e2, q2, r2⟩ := cy.lst'
      rw [e1] at rx; rw [e2] at ry
      have l1 := r1.length
      have l2 := r2.length
      cases rx
      cases ry
      obtain ⟨z, its, n, v1, o1⟩ := q1.ok I.hok
      obtain ⟨z2, its2, n2, v2, o2⟩ := q2.ok I.hok
      have hl' : xs.length + ys.length ≤ sizeLine := by rw [← lim_eq, ← l1, ← l2]; exact hl
      have k1 := v1.length
      have k2 := v2.length
      refine PySem.P.add_list o1 o2 ?_ (by rw [List.size_toArray, List.size_toArray]; omega)
      have ea : its.toArray ++ its2.toArray = (its ++ its2).toArray := by simp
      rw [ea]
      exact ⟨.ref _, _, I.lnew (t' := s.toks) (v1.append v2) (by rw [List.length_append]; omega), rfl, q _ _ (Made.lstN (r1.append r2) I.fresh)⟩
    · cases e
  · cases e; rw [cx.int] at rx; rw [cy.int] at ry
    exact op_sub pins s σ H _ _ v u Q I rx ry ⟨_, _, rfl, rfl, q _ _ (Made.int _)⟩
  · split at e
    · cases e; rw [cx.int] at rx; rw [cy.int] at ry
      rename_i hm
      rcases hm with hm | hm | hm
      · exact op_mul pins s σ H _ _ v u Q I rx ry ⟨_, _, rfl, rfl, .inl hm, q _ _ (Made.int _)⟩
      · exact op_mul pins s σ H _ _ v u Q I rx ry ⟨_, _, rfl, rfl, .inr hm, q _ _ (Made.int _)⟩
      · exact op_mulW pins s σ H _ _ v u Q I rx ry ⟨_, _, rfl, rfl, hm, q _ _ (Made.int _)⟩
    · cases e
  · split at e
    · cases e; rw [cx.str] at rx; rw [cy.int] at ry
      rename_i hc
      obtain ⟨t, rfl⟩ := rx
      obtain ⟨t', rfl⟩ := ry
      refine PySem.SB.mul ⟨by rw [decide_eq_false (by omega), decide_eq_false (by omega)]; rfl, fun h1 h2 h3 => ?_, fun h1 h2 => ?_⟩ fun t' k => ⟨.str _, H, I.tok k, ⟨_, rfl⟩, q _ _ (Made.str _)⟩
      · rename_i x' n
        have h4 := hc.2.2
        have h0 : 0 < n := by omega
        have h6 : (x'.length : Int) * n ≤ 16777216 := by
          have : ((x'.length * n.toNat : Nat) : Int) ≤ ((16777216 : Nat) : Int) := Int.ofNat_le.mpr h4
          rw [Int.natCast_mul, Int.toNat_of_nonneg hc.1] at this
          exact this
        have h7 : ((2 : Int) ^ 63 - 1) / n < x'.length := h3
        rw [Int.ediv_lt_iff_lt_mul h0] at h7
        omega
      · have h4 := hc.2.2
        unfold PySem.Builtin.Str.tooLong
        rw [lim_eq] at h4
        simpa using h4
    · cases e
  · split at e
    · cases e; rw [cx.int] at rx; rw [cy.int] at ry
      exact op_mod pins s σ H _ _ v u Q I rx ry ⟨_, _, rfl, rfl, by assumption, q _ _ (Made.int _)⟩
    · cases e
  · split at e
    · cases e; rw [cx.int] at rx; rw [cy.int] at ry
      exact op_fdivW pins s σ H _ _ v u Q I rx ry ⟨_, _, rfl, rfl, by assumption, q _ _ (Made.int _)⟩
    · cases e
  · split at e
    · cases e; rw [cx.int] at rx; rw [cy.int] at ry
      exact op_pow pins s σ H _ _ v u Q I rx ry ⟨_, _, rfl, rfl, by assumption, q _ _ (Made.int _)⟩
    · cases e
  · cases e
theorem RVs.rep {m : Addr → Prop} {H : Hp} {ds : List D} {xs : List V} (r : RVs L H m ds xs) : ∀ n : Nat, RVs L H m (List.replicate n ds).flatten (List.replicate n xs).flatten
  | 0 => by simp only [List.replicate_zero, List.flatten_nil]; exact .nil
  | n + 1 => by
    rw [List.replicate_succ, List.replicate_succ, List.flatten_cons, List.flatten_cons]
    exact r.append (RVs.rep r n)
/-- the operands' worths, then the operation -/
def rBinR (L : Lk) (op : Operator) : R2 := fun x y H Q => ∃ m H0 σ τ r dx dy z, Rel L m H σ τ ∧ RR L H0 σ τ m H r x ∧ RC L m H dx x ∧ RC L m H dy y ∧ binR op r dx dy = some z ∧ ∀ v H', Made L m H z v H' → Q v H'
theorem op_binR (ok : X.K = L.K) (op : Operator) : OpR X (binaryOp op) (rBinR L op) := by
  intro pins s σ' H x y v u Q I rx ry h
  obtain ⟨m, H0, σ, τ, r, dx, dy, z, rl, rr, cx, cy, e, q⟩ := h
  unfold binR at e
  split at e
  · split at e
    · cases e
      rename_i ds n hc
      obtain ⟨a, e1, _, _, _, xs, q1, r1⟩ := rr
      rw [e1] at rx; rw [cy.int] at ry
      have l1 := r1.length
      refine op_rep pins s σ' H _ _ v u Q I rx ry ⟨a, n, xs, rfl, rfl, q1, by omega, by omega, by rw [← lim_eq, ← l1]; exact hc.2.2, fun p hp => ?_⟩
      exact q _ _ (Made.lstN (r1.rep n.toNat) hp)
    · cases e
  · exact op_bin ok _ pins s σ' H x y v u Q I rx ry ⟨m, dx, dy, z, rl.mH, cx, cy, e, q⟩
theorem inF_some {x : D} {ds : List D} {k : Bool} (h : inF x ds = some k) : ∃ p qs, toP x = some p ∧ toPs ds = some qs ∧ SeqAt.shaped p = true ∧ SeqAt.shaped (.list qs) = true ∧ k = qs.any fun z => PyData.eqv z p := by
  unfold inF at h
  split at h
  · rename_i p qs e1 e2
    split at h
    · rename_i hs
      rw [Bool.and_eq_true] at hs
      cases h
      exact ⟨p, qs, e1, e2, hs.1, hs.2, rfl⟩
    · cases h
  · cases h
section
variable {pins : List (Addr × Obj)} {s : Shared} {σ : St} {H : Hp} {x y : V} {v u : Value} {Q : VK} {m : Addr → Prop} {dx : D} {ds : List D} {k : Bool}
theorem in_sq (ok : X.K = L.K) (hu : X.A.units + 128 < cLine) (I : Inv X pins σ H s) (rx : RelV x v) (ry : RelV y u) (cx : RC L m H dx x) (cy : RC L m H (.lst ds) y ∨ RC L m H (.tup ds) y) (h : inF dx ds = some k) (q : Q (.bl k) H) :
    wpAny (model X.prog X.w) X.A (compareOp .In v u) (EP X pins σ Q) X.xe s := by
  obtain ⟨p, qs, e1, e2, s1, s2, rfl⟩ := inF_some h
  obtain ⟨as, r1⟩ := Dp.reads I p x v (by rw [ok]; exact cx.dp e1) rx
  rcases cy with cy | cy
  · obtain ⟨bs, r2⟩ := Dp.reads I (.list qs) y u (by rw [ok]; exact cy.dp (by simp only [toP, e2, Option.map_some])) ry
    exact SeqAt.in_list_reads r2 r1 (SeqAt.canLay_of_shaped s2) (SeqAt.canLay_of_shaped s1) (PyProof.Rows.room_in_shaped s1 (by omega)) ⟨.bl _, H, I, rfl, q⟩
  · obtain ⟨bs, r2⟩ := Dp.reads I (.tuple qs) y u (by rw [ok]; exact cy.dp (by simp only [toP, e2, Option.map_some])) ry
    exact SeqAt.in_tuple_reads r2 r1 (SeqAt.canLay_of_shaped s2) (SeqAt.canLay_of_shaped s1) (PyProof.Rows.room_in_shaped s1 (by omega)) ⟨.bl _, H, I, rfl, q⟩
theorem notin_sq (ok : X.K = L.K) (hu : X.A.units + 128 < cLine) (I : Inv X pins σ H s) (rx : RelV x v) (ry : RelV y u) (cx : RC L m H dx x) (cy : RC L m H (.lst ds) y ∨ RC L m H (.tup ds) y) (h : (inF dx ds).map (!·) = some k) (q : Q (.bl k) H) :
    wpAny (model X.prog X.w) X.A (compareOp .NotIn v u) (EP X pins σ Q) X.xe s := by
  cases h0 : inF dx ds with
  | none => rw [h0] at h; cases h
  | some b =>
    rw [h0] at h; cases h
    obtain ⟨p, qs, e1, e2, s1, s2, rfl⟩ := inF_some h0
    obtain ⟨as, r1⟩ := Dp.reads I p x v (by rw [ok]; exact cx.dp e1) rx
    rcases cy with cy | cy
    · obtain ⟨bs, r2⟩ := Dp.reads I (.list qs) y u (by rw [ok]; exact cy.dp (by simp only [toP, e2, Option.map_some])) ry
      exact SeqAt.notIn_list_reads r2 r1 (SeqAt.canLay_of_shaped s2) (SeqAt.canLay_of_shaped s1) (PyProof.Rows.room_in_shaped s1 (by omega)) ⟨.bl _, H, I, rfl, q⟩
    · obtain ⟨bs, r2⟩ := Dp.reads I (.tuple qs) y u (by rw [ok]; exact cy.dp (by simp only [toP, e2, Option.map_some])) ry
      exact SeqAt.notIn_tuple_reads r2 r1 (SeqAt.canLay_of_shaped s2) (SeqAt.canLay_of_shaped s1) (PyProof.Rows.room_in_shaped s1 (by omega)) ⟨.bl _, H, I, rfl, q⟩
end
theorem op_cmp (ok : X.K = L.K) (hu : X.A.units + 128 < cLine) (op : CmpOp) : OpR X (compareOp op) (rBin L fun a b => (cmpF op a b).map fun k => .val (.bl k)) := by
  intro pins s σ H x y v u Q I rx ry h
  obtain ⟨m, dx, dy, r, mH, cx, cy, e, q⟩ := h
  dsimp only at e
  cases e0 : cmpF op dx dy with
  | none => rw [e0] at e; cases e
  | some k =>
    rw [e0] at e; cases e
    have fin : Q (.bl k) H := q _ _ (Made.bl k)
    unfold cmpF at e0
    split at e0
    · unfold eqD at e0
      split at e0
      · split at e0
        · cases e0
          rename_i p p' e1 e2 hs
          rw [Bool.and_eq_true] at hs
          exact op_eqD (by omega) pins s σ H _ _ v u Q I rx ry ⟨_, _, by rw [ok]; exact cx.dp e1, by rw [ok]; exact cy.dp e2, hs.1, hs.2, fin⟩
        · cases e0
      · cases e0
    · unfold eqD at e0
      split at e0
      · split at e0
        · cases e0
          rename_i p p' e1 e2 hs
          rw [Bool.and_eq_true] at hs
          exact op_neD (by omega) pins s σ H _ _ v u Q I rx ry ⟨_, _, by rw [ok]; exact cx.dp e1, by rw [ok]; exact cy.dp e2, hs.1, hs.2, fin⟩
        · cases e0
      · cases e0
    all_goals first
      | exact in_sq ok hu I rx ry cx (.inl cy) e0 fin
      | exact in_sq ok hu I rx ry cx (.inr cy) e0 fin
      | exact notin_sq ok hu I rx ry cx (.inl cy) e0 fin
      | exact notin_sq ok hu I rx ry cx (.inr cy) e0 fin
      | (cases e0; rw [cx.int] at rx; rw [cy.int] at ry; first
          | exact op_lt pins s σ H _ _ v u Q I rx ry ⟨_, _, rfl, rfl, fin⟩
          | exact op_le pins s σ H _ _ v u Q I rx ry ⟨_, _, rfl, rfl, fin⟩
          | exact op_gt pins s σ H _ _ v u Q I rx ry ⟨_, _, rfl, rfl, fin⟩
          | exact op_ge pins s σ H _ _ v u Q I rx ry ⟨_, _, rfl, rfl, fin⟩)
      | (cases e0; rw [cx.str] at rx; rw [cy.str] at ry; first
          | exact op_in_str pins s σ H _ _ v u Q I rx ry ⟨_, _, rfl, rfl, fin⟩
          | exact op_notin_str pins s σ H _ _ v u Q I rx ry ⟨_, _, rfl, rfl, fin⟩)
      | (rw [cy.non] at ry
         first
          | (rw [cx.non] at rx; cases e0)
          | (rw [cx.bl] at rx; cases e0)
          | (rw [cx.int] at rx; cases e0)
          | (rw [cx.str] at rx; cases e0)
          | (obtain ⟨a, xs, e1, _⟩ := cx.tup; rw [e1] at rx; cases e0)
          | (obtain ⟨a, xs, e1, _⟩ := cx.lst; rw [e1] at rx; cases e0)
          | (obtain ⟨a, dx, xs, e1, _⟩ := cx.ins; rw [e1] at rx; cases e0)
         first
          | exact op_isN pins s σ H _ _ v u Q I rx ry ⟨rfl, fin⟩
          | exact op_notN pins s σ H _ _ v u Q I rx ry ⟨rfl, fin⟩)
      | (cases e0; done)
end
end EV

set_option Elab.async false
set_option linter.all false
set_option maxRecDepth 100000
set_option maxHeartbeats 4000000
/-! ### indexes, slices, built-in functions -/
namespace EV
open PySem L2
section
variable {X : Cx} {L : Lk} {P : Prog}

theorem atI_get {α : Type} {xs : List α} {i : Int} {v : α} (h : atI xs i = some v) : ∃ j : Nat, xs[j]? = some v ∧ L2.ixN xs.length i = some j := by
  unfold atI at h
  cases e : L2.ixN xs.length i with
  | none => rw [e] at h; cases h
  | some j => rw [e] at h; exact ⟨j, h, rfl⟩
theorem RVs.atI {m : Addr → Prop} {H : Hp} {ds : List D} {xs : List V} {i : Int} {d : D} (r : RVs L H m ds xs) (h : L2.atI ds i = some d) : ∃ v, L2.atI xs i = some v ∧ RV L H m d v := by
  obtain ⟨j, h1, h2⟩ := atI_get h
  obtain ⟨v, h3, h4⟩ := r.get h1
  refine ⟨v, ?_, h4⟩
  unfold L2.atI
  rw [← r.length, h2]
  exact h3
theorem ix_all (ok : X.K = L.K) : IxR X (rBin L fun a b => (ixF a b).map R.val) := by
  intro value slice pins s σ H x y v u Q I rx ry h hs
  obtain ⟨m, dx, dy, r, mH, cx, cy, e, q⟩ := h
  dsimp only at e
  cases e0 : ixF dx dy with
  | none => rw [e0] at e; cases e
  | some d =>
    rw [e0] at e; cases e
    unfold ixF at e0
    split at e0
    · rename_i ds i
      obtain ⟨a, xs, e1, q1, r1⟩ := cx.tup
      obtain ⟨w, h1, h2⟩ := r1.atI e0
      rw [e1] at rx; rw [cy.int] at ry
      exact ix_seq value slice pins s σ H _ _ v u Q I rx ry (.inr (.inl ⟨a, xs, i, w, rfl, rfl, by rw [ok]; exact q1, h1, q _ _ (.same h2)⟩)) hs
    · rename_i ds i
      obtain ⟨a, xs, e1, q1, r1⟩ := cx.lst
      obtain ⟨w, h1, h2⟩ := r1.atI e0
      rw [e1] at rx; rw [cy.int] at ry
      exact ix_seq value slice pins s σ H _ _ v u Q I rx ry (.inl ⟨a, xs, i, w, rfl, rfl, by rw [ok]; exact q1, h1, q _ _ (.same h2)⟩) hs
    · split at e0
      · rename_i z i hl
        cases e1 : atI z.cps.toList i with
        | none => rw [e1] at e0; cases e0
        | some c =>
          rw [e1] at e0; cases e0
          rw [cx.str] at rx; rw [cy.int] at ry
          exact ix_seq value slice pins s σ H _ _ v u Q I rx ry (.inr (.inr ⟨z, i, c, rfl, rfl, by rw [← lim_eq]; exact hl, e1, q _ _ (Made.str _)⟩)) hs
      · cases e0
    · cases e0
def rSl (L : Lk) : V → Option Int → Option Int → Hp → VK → Prop := fun x lo hi H Q => ∃ m d r, (∀ a, m a → ∃ o, H a = some o) ∧ RC L m H d x ∧ slF d lo hi = some r ∧ ∀ v H', Made L m H r v H' → Q v H'
theorem RVs.cut {m : Addr → Prop} {H : Hp} {ds : List D} {xs : List V} {lo hi : Option Int} (r : RVs L H m ds xs) : RVs L H m (cutL ds lo hi) (cutV xs lo hi) := by
  unfold cutL cutV
  rw [r.length]
  exact (r.drop _).take _
theorem sl_all (ok : X.K = L.K) : SlR X (rSl L) := by
  intro pins s σ H x v vl vu lo hi sl Q I rx hs pl pu h
  obtain ⟨m, d, r, mH, cx, e, q⟩ := h
  unfold slF at e
  split at e
  · cases e
    rename_i ds
    obtain ⟨a, xs, e1, q1, r1⟩ := cx.tup
    rw [e1] at rx
    refine sl_tupA pins s σ H _ v vl vu lo hi sl Q I rx hs pl pu ⟨a, xs, rfl, by rw [ok]; exact q1, fun z => ?_, fun _ p hp => q _ _ (Made.tupN mH r1.cut hp)⟩
    have e2 : cutL ds lo hi = ds := by
      unfold cutL
      rw [r1.length, z.1, z.2, List.drop_zero, Nat.sub_zero, ← r1.length, List.take_length]
    rw [e2] at q
    exact q _ _ (.same (by rw [← e1]; exact cx.rv (by intros; simp) (by intros; simp)))
  · cases e
    obtain ⟨a, xs, e1, q1, r1⟩ := cx.lst
    rw [e1] at rx
    exact sl_list pins s σ H _ v vl vu lo hi sl Q I rx hs pl pu ⟨a, xs, rfl, by rw [ok]; exact q1, fun p hp => q _ _ (Made.lstN r1.cut hp)⟩
  · split at e
    · cases e
      rw [cx.str] at rx
      exact sl_str pins s σ H _ v vl vu lo hi sl Q I rx hs pl pu ⟨_, rfl, by rw [← lim_eq]; assumption, q _ _ (Made.str _)⟩
    · cases e
  · cases e

/-! ### built-in functions -/
def biN : Bi → Str
  | .len => "len"
  | .max => "max"
  | .min => "min"
  | .abs => "abs"
  | .isinst => "isinstance"
  | .all => "all"
  | .any => "any"
  | .tuple => "tuple"
  | .list => "list"
  | .int => "int"
  | .divmod => "divmod"
  | .sum => "sum"
  | .str => "str"
  | .repr => "repr"
  | .bool => "bool"
def biV : Bi → Value
  | .len => .builtin "len"
  | .max => .builtin "max"
  | .min => .builtin "min"
  | .abs => .builtin "abs"
  | .isinst => .builtin "isinstance"
  | .all => .builtin "all"
  | .any => .builtin "any"
  | .tuple => .type "tuple"
  | .list => .type "list"
  | .int => .type "int"
  | .divmod => .builtin "divmod"
  | .sum => .builtin "sum"
  | .str => .type "str"
  | .repr => .builtin "repr"
  | .bool => .type "bool"
theorem boot_bi (f : Bi) : bootBuiltins (biN f) = some (biV f) := by cases f <;> decide +kernel
def Tk.v (L : Lk) : Tk → Value
  | .ty n => .type n.name
  | .cl C => .ref (L.ad C)
theorem tyX_of (lo : LOk X L P) {m : Addr → Prop} {H : Hp} {d : D} {v : V} {t c : Tk} {b : Bool} (cx : RC L m H d v) (e : tyD d = some t) (hi : ∀ C, t = .cl C → P.isa t c = some b) : TyX L.K H v (t.v L) := by
  cases d <;> simp only [tyD] at e <;> cases e
  · rw [cx.non]; exact .base .non
  · rw [cx.bl]; exact .base (.bl _)
  · rw [cx.int]; exact .base (.int _)
  · rw [cx.str]; exact .base (.str _)
  · obtain ⟨a, xs, e1, q1, r1⟩ := cx.tup
    rw [e1]
    rcases q1 with (q1 | ⟨o, q1⟩) | ⟨o, its, n, h1, h2, _⟩
    · exact .base (.tup q1)
    · exact .fTuple q1
    · exact .kTuple h1 h2
  · obtain ⟨a, xs, e1, q1, r1⟩ := cx.lst'
    rw [e1]
    rcases q1 with q1 | ⟨o, q1⟩
    · exact .base (.lst q1)
    · exact .base (.frz q1)
  · obtain ⟨a, dx, xs, e1, q1, _⟩ := cx.ins
    rw [e1]
    exact .base (lo.ins _ c b (hi _ rfl) H a dx _ q1)
theorem pair1 {α β : Type} {F : α → β → Prop} {a : α} {ys : List β} (h : Paired F [a] ys) : ∃ y, ys = [y] ∧ F a y := by
  cases h with | cons r t => cases t; exact ⟨_, rfl, r⟩
theorem pair2 {α β : Type} {F : α → β → Prop} {a b : α} {ys : List β} (h : Paired F [a, b] ys) : ∃ y z, ys = [y, z] ∧ F a y ∧ F b z := by
  cases h with | cons r t => cases t with | cons r' t => cases t; exact ⟨_, _, rfl, r, r'⟩
theorem RVs.all_int {m : Addr → Prop} {H : Hp} {xs : List Int} : ∀ {ds : List D} {vs : List V}, RVs L H m ds vs → intsF ds = some xs → vs = xs.map V.int := by
  intro ds
  induction ds generalizing xs with
  | nil => intro vs h e; simp only [RVs] at h; cases e; rw [h]; rfl
  | cons d ds ih =>
    intro vs h e
    simp only [RVs] at h
    obtain ⟨v, r, e1, h1, h2⟩ := h
    cases d with
    | int i =>
      simp only [intsF] at e
      cases e0 : intsF ds with
      | none => rw [e0] at e; cases e
      | some ns =>
        rw [e0] at e; cases e
        have := ih h2 e0
        simp only [RV] at h1
        rw [e1, this, h1]; rfl
    | _ => cases e
theorem repr_ok (ok : X.K = L.K) (hg : X.A.guards = some []) (hu : X.A.units + 128 < cLine) {pins : List (Addr × Obj)} {s : Shared} {σ : St} {H : Hp} {y : V} {us : List Value} {Q : VK} {m : Addr → Prop} {d : D} {r : R} (I : Inv X pins σ H s) (rx : Vals [y] us) (c1 : RC L m H d y) (e : reprF d = some r)
    (q : ∀ v H', Made L m H r v H' → Q v H') : wpAny (model X.prog X.w) X.A (call (.builtin "repr") us) (EP X pins σ Q) X.xe s := by
  unfold reprF at e
  split at e
  · rename_i p ep
    split at e
    · rename_i h
      cases e
      obtain ⟨h1, h2, h3, h4, h5⟩ := h
      cases rx with
      | cons ry rt =>
        cases rt
        rename_i u
        obtain ⟨as, r1⟩ := Dp.reads I p y u (by rw [ok]; exact c1.dp ep) ry
        have hu' : ∃ a, u = .ref a := by
          cases p <;> simp [seqP] at h1
          · cases r1; exact ⟨_, rfl⟩
          · cases r1; exact ⟨_, rfl⟩
        obtain ⟨a, rfl⟩ := hu'
        exact repr_of_reads' r1 h2 (fun z => by rw [h3] at z; cases z) hg (by omega) (fun _ _ z => z) (fun h' u tk hk => ⟨.str p.shown, H, I.kept hk, ⟨_, rfl⟩, q _ _ (Made.str _)⟩) (by rw [← lim_eq]; exact h5)
    · cases e
  · cases e
theorem cr_bi (lo : LOk X L P) (hc : X.calm = true) (hg : X.A.guards = some []) (hu : X.A.units + 128 < cLine) (f : Bi) : CallR X (biV f) (rMany L (biF P f)) := by
  intro pins s σ H xs us Q I rx h
  obtain ⟨m, ds, r, mH, cx, e, q⟩ := h
  have ok := lo.K
  unfold biF at e
  split at e
  · split at e
    · cases e; obtain ⟨y, rfl, c1⟩ := pair1 cx; rw [c1.str] at rx
      exact call_len pins s σ H _ us Q I rx ⟨_, _, rfl, ⟨by rw [← lim_eq]; assumption, rfl⟩, q _ _ (Made.int _)⟩
    · cases e
  · cases e; obtain ⟨y, rfl, c1⟩ := pair1 cx
    obtain ⟨a, xs, e1, q1, r1⟩ := c1.tup
    rw [e1] at rx
    exact call_len pins s σ H _ us Q I rx ⟨_, xs.length, rfl, .inr ⟨xs, by rw [ok]; exact q1, rfl⟩, by rw [← r1.length]; exact q _ _ (Made.int _)⟩
  · cases e; obtain ⟨y, rfl, c1⟩ := pair1 cx
    obtain ⟨a, xs, e1, q1, r1⟩ := c1.lst
    rw [e1] at rx
    exact call_len pins s σ H _ us Q I rx ⟨_, xs.length, rfl, .inl ⟨xs, by rw [ok]; exact q1, rfl⟩, by rw [← r1.length]; exact q _ _ (Made.int _)⟩
  · cases e; obtain ⟨y, z, rfl, c1, c2⟩ := pair2 cx; rw [c1.int, c2.int] at rx
    exact call_max2 hc pins s σ H _ us Q I rx ⟨_, _, rfl, q _ _ (Made.int _)⟩
  · cases e; obtain ⟨y, z, rfl, c1, c2⟩ := pair2 cx; rw [c1.int, c2.int] at rx
    exact call_min2 hc pins s σ H _ us Q I rx ⟨_, _, rfl, q _ _ (Made.int _)⟩
  · cases e; obtain ⟨y, rfl, c1⟩ := pair1 cx; rw [c1.int] at rx
    exact call_abs pins s σ H _ us Q I rx ⟨_, rfl, q _ _ (Made.int _)⟩
  · rename_i da db
    obtain ⟨y, z, rfl, c1, c2⟩ := pair2 cx
    cases e0 : isiF P da db with
    | none => rw [e0] at e; cases e
    | some b =>
      rw [e0] at e; cases e
      unfold isiF at e0
      split at e0
      · rename_i n k e1
        rw [c2.ty] at rx
        exact call_isi pins s σ H _ us Q I rx ⟨y, _, _, _, b, rfl, .ty _, by rw [ok]; exact tyX_of (c := .ty .int) (b := true) lo c1 e1 (fun C z => by cases z), kit_ty (isB_ok e0), q _ _ (Made.bl b)⟩
      · rename_i t k hn e1
        rw [c2.ty] at rx
        refine call_isi pins s σ H _ us Q I rx ⟨y, _, _, _, b, rfl, .ty _, by rw [ok]; exact tyX_of (c := .ty k) (b := b) lo c1 e1 (fun C z => e0), ?_, q _ _ (Made.bl b)⟩
        have z := lo.isa _ _ _ e0 H y
        rw [ok]
        cases t <;> exact z
      · rename_i t k e1
        rw [c2.gl] at rx
        refine call_isi pins s σ H _ us Q I rx ⟨y, _, _, _, b, rfl, .own _, by rw [ok]; exact tyX_of (c := .cl k) (b := b) lo c1 e1 (fun C z => e0), ?_, q _ _ (Made.bl b)⟩
        have z := lo.isa _ _ _ e0 H y
        rw [ok]
        cases t <;> exact z
      · cases e0
  · rename_i es
    obtain ⟨y, rfl, c1⟩ := pair1 cx
    cases e0 : blsF es with
    | none => rw [e0] at e; cases e
    | some bs =>
      rw [e0] at e; cases e
      obtain ⟨a, xs, e1, q1, r1⟩ := c1.lst
      have e2 := r1.all_bl e0
      subst e2
      rw [e1] at rx
      exact cr_all hc pins s σ H _ us Q I rx ⟨a, bs, rfl, by rw [ok]; exact q1, q _ _ (Made.bl _)⟩
  · rename_i es
    obtain ⟨y, rfl, c1⟩ := pair1 cx
    cases e0 : blsF es with
    | none => rw [e0] at e; cases e
    | some bs =>
      rw [e0] at e; cases e
      obtain ⟨a, xs, e1, q1, r1⟩ := c1.lst
      have e2 := r1.all_bl e0
      subst e2
      rw [e1] at rx
      exact cr_any hc pins s σ H _ us Q I rx ⟨a, bs, rfl, by rw [ok]; exact q1, q _ _ (Made.bl _)⟩
  · cases e; obtain ⟨y, rfl, c1⟩ := pair1 cx
    obtain ⟨a, xs, e1, q1, r1⟩ := c1.lst
    rw [e1] at rx
    exact call_tuple_of pins s σ H _ us Q I rx ⟨a, xs, rfl, .inl ⟨by rw [ok]; exact q1, fun l hl => q _ _ (Made.tupN mH r1 hl)⟩⟩
  · cases e; obtain ⟨y, rfl, c1⟩ := pair1 cx
    obtain ⟨a, xs, e1, q1, r1⟩ := c1.tup
    rw [e1] at rx
    exact call_tuple_of pins s σ H _ us Q I rx ⟨a, xs, rfl, .inr ⟨by rw [ok]; exact q1, q _ _ (.same (by rw [← e1]; exact c1.rv (by intros; simp) (by intros; simp)))⟩⟩
  · cases e; obtain ⟨y, rfl, c1⟩ := pair1 cx
    obtain ⟨a, xs, e1, q1, r1⟩ := c1.lst
    rw [e1] at rx
    exact call_list_of pins s σ H _ us Q I rx ⟨a, xs, rfl, .inl (by rw [ok]; exact q1), fun l hl => q _ _ (Made.lstN r1 hl)⟩
  · cases e; obtain ⟨y, rfl, c1⟩ := pair1 cx
    obtain ⟨a, xs, e1, q1, r1⟩ := c1.tup
    rw [e1] at rx
    exact call_list_of pins s σ H _ us Q I rx ⟨a, xs, rfl, .inr (by rw [ok]; exact q1), fun l hl => q _ _ (Made.lstN r1 hl)⟩
  · cases e; obtain ⟨y, rfl, c1⟩ := pair1 cx; rw [c1.int] at rx
    exact call_int1 pins s σ H _ us Q I rx (.inl ⟨_, rfl, q _ _ (Made.int _)⟩)
  · cases e; obtain ⟨y, rfl, c1⟩ := pair1 cx; rw [c1.bl] at rx
    exact call_int1 pins s σ H _ us Q I rx (.inr ⟨_, rfl, q _ _ (Made.int _)⟩)
  · split at e
    · cases e; obtain ⟨y, z, rfl, c1, c2⟩ := pair2 cx; rw [c1.int, c2.int] at rx
      rename_i hj
      exact call_divmodW pins s σ H _ us Q I rx ⟨_, _, rfl, ⟨hj.1, PyProof.noPylong_of_log2 hj.2⟩, fun p hp => q _ _ (Made.tupN mH (.cons (by simp only [RV]) (.cons (by simp only [RV]) .nil)) hp)⟩
    · cases e
  · rename_i es
    obtain ⟨y, rfl, c1⟩ := pair1 cx
    cases e0 : intsF es with
    | none => rw [e0] at e; cases e
    | some ns =>
      rw [e0] at e; cases e
      obtain ⟨a, xs, e1, q1, r1⟩ := c1.lst
      have e2 := r1.all_int e0
      subst e2
      rw [e1] at rx
      exact cr_sum hc pins s σ H _ us Q I rx ⟨a, ns, rfl, by rw [ok]; exact q1, q _ _ (Made.int _)⟩
  · cases e; obtain ⟨y, rfl, c1⟩ := pair1 cx; rw [c1.str] at rx
    exact SkE.call_str_str pins s σ H _ us Q I rx ⟨_, rfl, q _ _ (Made.str _)⟩
  · split at e
    · cases e; obtain ⟨y, rfl, c1⟩ := pair1 cx; rw [c1.int] at rx
      exact call_str_int pins s σ H _ us Q I rx ⟨_, rfl, by assumption, q _ _ (Made.str _)⟩
    · cases e
  · obtain ⟨y, rfl, c1⟩ := pair1 cx
    exact repr_ok ok hg hu I rx c1 e q
  · cases e; obtain ⟨y, rfl, c1⟩ := pair1 cx; rw [c1.int] at rx
    exact call_bool1 pins s σ H _ us Q I rx (.inl ⟨_, rfl, q _ _ (Made.bl _)⟩)
  · cases e; obtain ⟨y, rfl, c1⟩ := pair1 cx; rw [c1.bl] at rx
    exact call_bool1 pins s σ H _ us Q I rx (.inr ⟨_, rfl, q _ _ (Made.bl _)⟩)
  · cases e

/-! ### truth -/
theorem tru_d {m : Addr → Prop} {H : Hp} {d : D} {v : V} {k : Bool} (ok : X.K = L.K) (cx : RC L m H d v) (e : truth d = some k) : TruV X.K v H k := by
  cases d <;> simp only [truth] at e <;> try cases e
  · rw [cx.non]; rfl
  · rw [cx.bl]; rfl
  · rw [cx.int]; rfl
  · split at e
    · cases e; rw [cx.str]; exact ⟨by rw [← lim_eq]; assumption, rfl⟩
    · cases e
  · obtain ⟨a, xs, e1, q1, r1⟩ := cx.tup
    rw [e1]
    refine .inr (.inl ⟨xs, by rw [ok]; exact q1, ?_⟩)
    have := r1.length
    rename_i ds
    cases ds <;> cases xs <;> first | rfl | (simp at this)
  · obtain ⟨a, xs, e1, q1, r1⟩ := cx.lst
    rw [e1]
    refine .inl ⟨xs, by rw [ok]; exact q1, ?_⟩
    have := r1.length
    rename_i ds
    cases ds <;> cases xs <;> first | rfl | (simp at this)
end
end EV

set_option Elab.async false
set_option linter.all false
set_option maxRecDepth 100000
set_option maxHeartbeats 4000000
/-! ### calls -/
namespace EV
open PySem L2
section
variable {L : Lk} {P : Prog} {σ σ1 σ2 : List Sl} {τ : St} {m m1 m2 : Addr → Prop} {H H1 H2 : Hp} {W : WX} {Q : VK}
theorem toSls_get : ∀ {rs : List R} {as : List Sl} (j : Nat) {s : Sl}, toSls σ rs = some as → as[j]? = some s → ∃ r, rs[j]? = some r ∧ toSl σ r = some s
  | [], as, j, s, h, e => by cases h; simp at e
  | r :: rs, as, j, s, h, e => by
    unfold toSls at h
    cases e1 : toSl σ r with
    | none => rw [e1] at h; cases h
    | some a =>
      cases e2 : toSls σ rs with
      | none => rw [e1, e2] at h; cases h
      | some as' =>
        rw [e1, e2] at h; cases h
        cases j with
        | zero => simp at e; subst e; exact ⟨r, rfl, e1⟩
        | succ j => obtain ⟨q, h1, h2⟩ := toSls_get (rs := rs) j e2 (by simpa using e); exact ⟨q, by simpa using h1, h2⟩
theorem toSls_len : ∀ {rs : List R} {as : List Sl}, toSls σ rs = some as → as.length = rs.length
  | [], as, h => by cases h; rfl
  | r :: rs, as, h => by
    unfold toSls at h
    cases e1 : toSl σ r with
    | none => rw [e1] at h; cases h
    | some a =>
      cases e2 : toSls σ rs with
      | none => rw [e1, e2] at h; cases h
      | some as' => rw [e1, e2] at h; cases h; rw [List.length_cons, List.length_cons, toSls_len e2]
theorem mem_bors : ∀ {rs : List R} {j i : Nat}, rs[j]? = some (.bor i) → i ∈ bors rs
  | [], _, _, h => by simp at h
  | r :: rs, 0, i, h => by simp at h; subst h; simp [bors]
  | r :: rs, j + 1, i, h => by
    have := mem_bors (rs := rs) (j := j) (i := i) (by simpa using h)
    cases r <;> simp [bors, this]
theorem bors_inj : ∀ {rs : List R} {j k i : Nat}, (bors rs).Nodup → rs[j]? = some (.bor i) → rs[k]? = some (.bor i) → j = k
  | [], _, _, _, _, h, _ => by simp at h
  | r :: rs, 0, 0, _, _, _, _ => rfl
  | r :: rs, 0, k + 1, i, nd, h, h' => by
    simp at h; subst h
    have := mem_bors (rs := rs) (j := k) (i := i) (by simpa using h')
    simp [bors] at nd
    exact absurd this nd.1
  | r :: rs, j + 1, 0, i, nd, h, h' => by
    simp at h'; subst h'
    have := mem_bors (rs := rs) (j := j) (i := i) (by simpa using h)
    simp [bors] at nd
    exact absurd this nd.1
  | r :: rs, j + 1, k + 1, i, nd, h, h' => by
    have nd' : (bors rs).Nodup := by
      cases r <;> simp [bors] at nd <;> first | exact nd | exact nd.2
    exact congrArg (· + 1) (bors_inj (rs := rs) (j := j) (k := k) (i := i) nd' (by simpa using h) (by simpa using h'))
theorem RRs.tmps {H0 : Hp} : ∀ {rs : List R} {vs : List V} {j k : Nat} {d e : D} {v : V}, RRs L H0 σ τ m H rs vs → rs[j]? = some (.tmp d) → rs[k]? = some (.tmp e) → vs[j]? = some v → vs[k]? = some v → j = k
  | [], _, _, _, _, _, _, _, h, _, _, _ => by simp at h
  | r :: rs, vs, 0, 0, _, _, _, _, _, _, _, _ => rfl
  | r :: rs, vs, 0, k + 1, d, e, v, h, h1, h2, h3, h4 => by
    obtain ⟨u, ws, e1, _, _, hx⟩ := h
    subst e1
    simp at h1 h3; subst h1; subst h3
    exact absurd (by simpa using h4) (hx d rfl k e (by simpa using h2))
  | r :: rs, vs, j + 1, 0, d, e, v, h, h1, h2, h3, h4 => by
    obtain ⟨u, ws, e1, _, _, hx⟩ := h
    subst e1
    simp at h2 h4; subst h2; subst h4
    exact absurd (by simpa using h3) (hx e rfl j d (by simpa using h1))
  | r :: rs, vs, j + 1, k + 1, d, e, v, h, h1, h2, h3, h4 => by
    obtain ⟨u, ws, e1, _, h5, _⟩ := h
    subst e1
    exact congrArg (· + 1) (RRs.tmps (rs := rs) (j := j) (k := k) (d := d) (e := e) (v := v) h5 (by simpa using h1) (by simpa using h2) (by simpa using h3) (by simpa using h4))

/-- what an argument's slot holds -/
theorem slot_own {H0 : Hp} (rl : Rel L m H σ τ) {r : R} {v : V} {io lk : Bool} {d : D} (rr : RR L H0 σ τ m H r v) (e : toSl σ r = some (.own io lk d)) :
    io = true ∧ ∃ a, v = .ref a ∧ m a ∧ RO L H m a d ∧ ((r = .tmp d ∧ lk = false ∧ H0 a = none ∧ ¬ Ow σ τ a) ∨ ∃ i io', r = .bor i ∧ σ[i]? = some (.own io' lk d) ∧ τ[i]? = some (some (.ref a))) := by
  cases r with
  | val d' => unfold toSl at e; cases e
  | tmp d' =>
    unfold toSl at e; cases e
    obtain ⟨a, h1, h2, h3, h4, h5⟩ := rr
    exact ⟨rfl, a, h1, h3, h5, .inl ⟨rfl, rfl, h2, h4⟩⟩
  | bor i =>
    unfold toSl at e; dsimp only at e
    have h' : τ[i]? = some (some v) := rr
    cases q : σ[i]? with
    | none => rw [q] at e; cases e
    | some sl =>
      rw [q] at e
      cases sl with
      | un => cases e
      | val d' => cases e
      | own io' lk' d' =>
        cases e
        obtain ⟨a, h1, h2, h3⟩ := rl.own i _ _ _ q
        rw [h'] at h1; cases h1
        exact ⟨rfl, a, rfl, h2, h3, .inr ⟨i, io', rfl, q, h'⟩⟩
theorem slot_val {H0 : Hp} (rl : Rel L m H σ τ) {r : R} {v : V} {d : D} (rr : RR L H0 σ τ m H r v) (e : toSl σ r = some (.val d)) : RV L H m d v := by
  cases r with
  | val d' => unfold toSl at e; cases e; exact rr
  | tmp d' => unfold toSl at e; cases e
  | bor i =>
    unfold toSl at e; dsimp only at e
    have h' : τ[i]? = some (some v) := rr
    cases q : σ[i]? with
    | none => rw [q] at e; cases e
    | some sl =>
      rw [q] at e
      cases sl with
      | un => cases e
      | own io' lk' d' => cases e
      | val d' =>
        cases e
        obtain ⟨u, h1, h2⟩ := rl.val i _ q
        rw [h'] at h1; cases h1
        exact h2
/-- the callee's slots at its entry -/
theorem rel_args {H0 : Hp} (rl : Rel L m H σ τ) {rs : List R} {vs : List V} {as : List Sl} {ds : List D} {dvs : List V} (rr : RRs L H0 σ τ m H rs vs) (nd : (bors rs).Nodup) (ht : toSls σ rs = some as) (hd : RVs L H m ds dvs) :
    Rel L m H (as ++ ds.map Sl.val) ((vs ++ dvs).map some) := by
  have la := toSls_len ht
  have lv := rr.length
  have ld := hd.length
  have own_lt : ∀ {j : Nat} {io lk d}, (as ++ ds.map Sl.val)[j]? = some (Sl.own io lk d) → j < as.length ∧ as[j]? = some (Sl.own io lk d) := by
    intro j io lk d h
    by_cases hj : j < as.length
    · rw [List.getElem?_append_left hj] at h; exact ⟨hj, h⟩
    · rw [List.getElem?_append_right (by omega), List.getElem?_map] at h
      cases q : ds[j - as.length]? with
      | none => rw [q] at h; cases h
      | some x => rw [q] at h; cases h
  have tau_lt : ∀ {j : Nat}, j < as.length → ((vs ++ dvs).map some)[j]? = (vs[j]?).map some := by
    intro j hj
    rw [List.getElem?_map, List.getElem?_append_left (by omega)]
  refine ⟨rl.mH, by simp; omega, fun j d h => ?_, fun j io lk d h => ?_, fun j k io lk io' lk' d e a h1 h2 h3 h4 => ?_⟩
  · by_cases hj : j < as.length
    · rw [List.getElem?_append_left hj] at h
      obtain ⟨r, h1, h2⟩ := toSls_get j ht h
      obtain ⟨v, h3, h4⟩ := rr.get h1
      exact ⟨v, by rw [tau_lt hj, h3]; rfl, slot_val rl h4 h2⟩
    · rw [List.getElem?_append_right (by omega), List.getElem?_map] at h
      cases q : ds[j - as.length]? with
      | none => rw [q] at h; cases h
      | some x =>
        rw [q] at h; cases h
        obtain ⟨v, h3, h4⟩ := hd.get q
        exact ⟨v, by rw [List.getElem?_map, List.getElem?_append_right (by omega), ← lv, ← la, h3]; rfl, h4⟩
  · obtain ⟨hj, h⟩ := own_lt h
    obtain ⟨r, h1, h2⟩ := toSls_get j ht h
    obtain ⟨v, h3, h4⟩ := rr.get h1
    obtain ⟨_, a, e1, h5, h6, _⟩ := slot_own rl h4 h2
    exact ⟨a, by rw [tau_lt hj, h3, e1]; rfl, h5, h6⟩
  · obtain ⟨hj, h1⟩ := own_lt h1
    obtain ⟨hk, h2⟩ := own_lt h2
    rw [tau_lt hj] at h3
    rw [tau_lt hk] at h4
    obtain ⟨r, g1, g2⟩ := toSls_get j ht h1
    obtain ⟨q, g3, g4⟩ := toSls_get k ht h2
    obtain ⟨v, g5, g6⟩ := rr.get g1
    obtain ⟨w, g7, g8⟩ := rr.get g3
    rw [g5] at h3; cases h3
    rw [g7] at h4; cases h4
    obtain ⟨_, b, e1, _, _, c1⟩ := slot_own rl g6 g2
    obtain ⟨_, c, e2, _, _, c2⟩ := slot_own rl g8 g4
    cases e1; cases e2
    rcases c1 with ⟨c1, _, _, n1⟩ | ⟨i, io1, c1, s1, t1⟩ <;> rcases c2 with ⟨c2, _, _, n2⟩ | ⟨i', io2, c2, s2, t2⟩
    · subst c1; subst c2; exact rr.tmps g1 g3 g5 g7
    · exact absurd ⟨i', io2, _, _, s2, t2⟩ n1
    · exact absurd ⟨i, io1, _, _, s1, t1⟩ n2
    · have := rl.inj _ _ _ _ _ _ _ _ _ s1 s2 t1 t2
      subst this; subst c1; subst c2
      exact bors_inj nd g1 g3
theorem seek_some : ∀ {rs : List R} {ss : List Sl} {j : Nat} {d : D}, seek j rs ss = some d → ∃ (k : Nat) (io lk : Bool), rs[k]? = some (.bor j) ∧ ss[k]? = some (.own io lk d)
  | [], _, _, _, h => by simp [seek] at h
  | r :: rs, [], _, _, h => by cases r <;> simp [seek] at h
  | r :: rs, s :: ss, j, d, h => by
    have go : seek j rs ss = some d → ∃ (k : Nat) (io lk : Bool), (r :: rs)[k]? = some (.bor j) ∧ (s :: ss)[k]? = some (Sl.own io lk d) := fun h => by
      obtain ⟨k, io, lk, h1, h2⟩ := seek_some h
      exact ⟨k + 1, io, lk, by simpa using h1, by simpa using h2⟩
    cases r with
    | val _ => exact go (by simpa only [seek] using h)
    | tmp _ => exact go (by simpa only [seek] using h)
    | bor i =>
      cases s with
      | un => exact go (by simpa only [seek] using h)
      | val _ => exact go (by simpa only [seek] using h)
      | own io lk e =>
        simp only [seek] at h
        split at h
        · rename_i e1; subst e1; cases h; exact ⟨0, io, lk, rfl, rfl⟩
        · exact go h
theorem seek_of : ∀ {rs : List R} {ss : List Sl} {j k : Nat} {io lk : Bool} {d : D}, (bors rs).Nodup → rs[k]? = some (.bor j) → ss[k]? = some (.own io lk d) → seek j rs ss = some d
  | [], _, _, _, _, _, _, _, h, _ => by simp at h
  | r :: rs, [], _, _, _, _, _, _, _, h => by simp at h
  | r :: rs, s :: ss, j, 0, io, lk, d, nd, h1, h2 => by
    simp at h1 h2; subst h1; subst h2
    simp [seek]
  | r :: rs, s :: ss, j, k + 1, io, lk, d, nd, h1, h2 => by
    have nd' : (bors rs).Nodup := by
      cases r <;> simp [bors] at nd <;> first | exact nd | exact nd.2
    have ih := seek_of (rs := rs) (ss := ss) (j := j) (k := k) (io := io) (lk := lk) (d := d) nd' (by simpa using h1) (by simpa using h2)
    cases r with
    | val _ => simpa only [seek] using ih
    | tmp _ => simpa only [seek] using ih
    | bor i =>
      have hne : i ≠ j := by
        rintro rfl
        have := mem_bors (rs := rs) (j := k) (i := i) (by simpa using h1)
        simp [bors] at nd
        exact nd.1 this
      cases s with
      | un => simpa only [seek] using ih
      | val _ => simpa only [seek] using ih
      | own _ _ _ => simp only [seek]; rw [if_neg hne]; exact ih
theorem bors_nil_no {rs : List R} (h : (bors rs).isEmpty = true) (j k : Nat) : rs[k]? ≠ some (.bor j) := fun e => by
  have := mem_bors e
  rw [List.isEmpty_iff.mp h] at this; cases this
theorem back_get {rs : List R} {ss : List Sl} (j : Nat) : (back rs ss σ)[j]? = (σ[j]?).map (backAt rs ss j) := by
  unfold back
  split
  · rename_i h
    cases e : σ[j]? with
    | none => rfl
    | some s =>
      show some s = some (backAt rs ss j s)
      cases s with
      | own io lk d =>
        have : seek j rs ss = none := by
          cases q : seek j rs ss with
          | none => rfl
          | some x =>
            obtain ⟨k, _, _, h1, _⟩ := seek_some q
            exact absurd h1 (bors_nil_no h j k)
        simp only [backAt, this, Option.getD_none]
      | un => rfl
      | val _ => rfl
  · rw [List.getElem?_mapIdx]
theorem back_own {rs : List R} {ss : List Sl} {j : Nat} {io lk : Bool} {d : D} (h : (back rs ss σ)[j]? = some (.own io lk d)) : ∃ e, σ[j]? = some (.own io lk e) ∧ d = (seek j rs ss).getD e := by
  rw [back_get] at h
  cases e : σ[j]? with
  | none => rw [e] at h; cases h
  | some s =>
    rw [e] at h
    cases s with
    | own io' lk' e' => cases h; exact ⟨e', rfl, rfl⟩
    | un => cases h
    | val _ => cases h
theorem own_back {rs : List R} {ss : List Sl} {j : Nat} {io lk : Bool} {d : D} (h : σ[j]? = some (.own io lk d)) : (back rs ss σ)[j]? = some (.own io lk ((seek j rs ss).getD d)) := by
  rw [back_get, h]; rfl
theorem back_val {rs : List R} {ss : List Sl} {j : Nat} {d : D} (h : (back rs ss σ)[j]? = some (.val d)) : σ[j]? = some (.val d) := by
  rw [back_get] at h
  cases e : σ[j]? with
  | none => rw [e] at h; cases h
  | some s =>
    rw [e] at h
    cases s with
    | own io' lk' e' => cases h
    | un => cases h
    | val _ => cases h; rfl
/-- behind a call: the callee's step is a step of the caller's -/
theorem step_call {rs : List R} {vs dvs : List V} {as ps' : List Sl} {ds : List D} (s : Step L σ τ m H σ1 τ m1 H1) (rr : RRs L H σ1 τ m1 H1 rs vs) (nd : (bors rs).Nodup) (ht : toSls σ1 rs = some as) (hd : RVs L H1 m1 ds dvs)
    (c : Step L (as ++ ds.map Sl.val) ((vs ++ dvs).map some) m1 H1 ps' ((vs ++ dvs).map some) m2 H2) : Step L σ τ m H (back rs ps' σ1) τ m2 H2 := by
  have la := toSls_len ht
  have lv := rr.length
  have rl := s.rel
  have ra := rel_args rl rr nd ht hd
  have own_lt : ∀ {j : Nat} {io lk d}, (as ++ ds.map Sl.val)[j]? = some (Sl.own io lk d) → j < as.length ∧ as[j]? = some (Sl.own io lk d) := by
    intro j io lk d h
    by_cases hj : j < as.length
    · rw [List.getElem?_append_left hj] at h; exact ⟨hj, h⟩
    · rw [List.getElem?_append_right (by omega), List.getElem?_map] at h
      cases q : ds[j - as.length]? with
      | none => rw [q] at h; cases h
      | some x => rw [q] at h; cases h
  have tau_lt : ∀ {j : Nat}, j < as.length → ((vs ++ dvs).map some)[j]? = (vs[j]?).map some := by
    intro j hj
    rw [List.getElem?_map, List.getElem?_append_left (by omega)]
  -- what a parameter that may be written is, on the caller's side
  have ow_of : ∀ a, Ow (as ++ ds.map Sl.val) ((vs ++ dvs).map some) a → H a = none ∨ ∃ (i : Nat) (io lk : Bool) (d : D) (k : Nat), rs[k]? = some (.bor i) ∧ σ1[i]? = some (.own io lk d) ∧ τ[i]? = some (some (.ref a)) ∧ (as ++ ds.map Sl.val)[k]? = some (.own true lk d) ∧ ((vs ++ dvs).map some)[k]? = some (some (V.ref a)) := by
    rintro a ⟨k, io, lk, d, h1, h2⟩
    have h1' := h1
    have h2' := h2
    obtain ⟨hk, h1⟩ := own_lt h1
    rw [tau_lt hk] at h2
    obtain ⟨r, g1, g2⟩ := toSls_get k ht h1
    obtain ⟨v, g3, g4⟩ := rr.get g1
    rw [g3] at h2; cases h2
    obtain ⟨e0, b, e1, _, _, c1⟩ := slot_own rl g4 g2
    cases e1
    subst e0
    rcases c1 with ⟨_, _, h0, _⟩ | ⟨i, io1, c1, s1, t1⟩
    · exact .inl h0
    · subst c1; exact .inr ⟨i, io1, lk, d, k, g1, s1, t1, h1', h2'⟩
  have wr_of : ∀ a, Wr (as ++ ds.map Sl.val) ((vs ++ dvs).map some) a → H a = none ∨ Wr σ1 τ a := by
    rintro a ⟨k, io, d, h1, h2⟩
    obtain ⟨hk, h1⟩ := own_lt h1
    rw [tau_lt hk] at h2
    obtain ⟨r, g1, g2⟩ := toSls_get k ht h1
    obtain ⟨v, g3, g4⟩ := rr.get g1
    rw [g3] at h2; cases h2
    obtain ⟨_, b, e1, _, _, c1⟩ := slot_own rl g4 g2
    cases e1
    rcases c1 with ⟨_, _, h0, _⟩ | ⟨i, io1, c1, s1, t1⟩
    · exact .inl h0
    · exact .inr ⟨i, io1, d, s1, t1⟩
  have kp := c.kp ra
  have ow_back : ∀ a, Ow (back rs ps' σ1) τ a → Ow σ1 τ a := by
    rintro a ⟨j, io, lk, d, h1, h2⟩
    obtain ⟨e, h3, _⟩ := back_own h1
    exact ⟨j, io, lk, e, h3, h2⟩
  have wr_back : ∀ a, Wr (back rs ps' σ1) τ a → Wr σ1 τ a := by
    rintro a ⟨j, io, d, h1, h2⟩
    obtain ⟨e, h3, _⟩ := back_own h1
    exact ⟨j, io, e, h3, h2⟩
  have len_back : (back rs ps' σ1).length = σ1.length := by
    unfold back; split <;> simp
  refine ⟨⟨c.rel.mH, len_back.trans rl.len, fun j d h => ?_, fun j io lk d h => ?_, fun j k io lk io' lk' d e a h1 h2 h3 h4 => ?_⟩, fun a o ha hw => ?_, fun a h => ?_, fun a h => ?_, fun i lk d h => ?_, fun i io d h => ?_, fun a h => s.dom a (c.dom a h)⟩
  · obtain ⟨v, h1, h2⟩ := rl.val j d (back_val h)
    exact ⟨v, h1, RV.mono kp _ _ h2⟩
  · obtain ⟨e, h1, h2⟩ := back_own h
    obtain ⟨a, h3, h4, h5⟩ := rl.own j io lk e h1
    cases q : seek j rs ps' with
    | some d' =>
      rw [q] at h2; cases h2
      obtain ⟨k, io', lk', g1, g2⟩ := seek_some q
      obtain ⟨b, g3, g4, g5⟩ := c.rel.own k io' lk' _ g2
      have hk : k < as.length := by
        have := (List.getElem?_eq_some_iff.mp g1).1; omega
      rw [tau_lt hk] at g3
      obtain ⟨w, g6, g7⟩ := rr.get g1
      rw [g6] at g3; cases g3
      have g8 : τ[j]? = some (some (V.ref b)) := g7
      rw [h3] at g8; cases g8
      exact ⟨a, h3, g4, g5⟩
    | none =>
      rw [q] at h2; cases h2
      -- not handed in: the callee has not touched it
      have hno : ¬ Wr (as ++ ds.map Sl.val) ((vs ++ dvs).map some) a := by
        rintro ⟨k, io', e', g1, g2⟩
        obtain ⟨hk, g1'⟩ := own_lt g1
        obtain ⟨r, g3, g4⟩ := toSls_get k ht g1'
        obtain ⟨w, g5, g6⟩ := rr.get g3
        rw [tau_lt hk, g5] at g2; cases g2
        obtain ⟨e0, b, e1, _, _, c1⟩ := slot_own rl g6 g4
        cases e1
        rcases c1 with ⟨_, _, _, hn⟩ | ⟨i, io1, c1, s1, t1⟩
        · exact hn ⟨j, io, lk, e, h1, h3⟩
        · have := rl.inj _ _ _ _ _ _ _ _ _ h1 s1 h3 t1
          subst this; subst c1; subst e0
          obtain ⟨_, e'', g7⟩ := c.io k _ _ g1
          rw [seek_of nd g3 g7] at q; cases q
      obtain ⟨o, ho⟩ := h5.there
      obtain ⟨f1, f2⟩ := c.frame a o ho hno
      exact ⟨a, h3, f2.mpr h4, h5.mono kp fun o' q' => by rw [ho] at q'; cases q'; exact f1⟩
  · obtain ⟨_, g1, _⟩ := back_own h1
    obtain ⟨_, g2, _⟩ := back_own h2
    exact rl.inj _ _ _ _ _ _ _ _ _ g1 g2 h3 h4
  · obtain ⟨f1, f2⟩ := s.frame a o ha hw
    have hw1 : ¬ Wr σ1 τ a := fun z => by
      rcases s.wr a z with z | z
      · exact hw z
      · rw [ha] at z; cases z
    obtain ⟨f3, f4⟩ := c.frame a o f1 fun z => by
      rcases wr_of a z with z | z
      · rw [ha] at z; cases z
      · exact hw1 z
    exact ⟨f3, f4.trans f2⟩
  · exact s.own a (ow_back a h)
  · exact s.wr a (wr_back a h)
  · obtain ⟨e1, e, h1⟩ := s.io i lk d h
    exact ⟨e1, _, own_back h1⟩
  · obtain ⟨e1, h1⟩ := s.lkd i io d h
    refine ⟨e1, ?_⟩
    rw [own_back h1]
    cases q : seek i rs ps' with
    | none => rfl
    | some d' =>
      obtain ⟨k, io', lk', g1, g2⟩ := seek_some q
      have hk : k < as.length := by
        have := (List.getElem?_eq_some_iff.mp g1).1; omega
      obtain ⟨sl, g3⟩ : ∃ sl, as[k]? = some sl := ⟨_, List.getElem?_eq_getElem hk⟩
      obtain ⟨r, g4, g5⟩ := toSls_get k ht g3
      rw [g1] at g4; cases g4
      unfold toSl at g5; dsimp only at g5; rw [h1] at g5; cases g5
      obtain ⟨_, g6⟩ := c.lkd k true d (by rw [List.getElem?_append_left hk]; exact g3)
      rw [g2] at g6; cases g6
      rfl
end
end EV

set_option Elab.async false
set_option linter.all false
set_option maxRecDepth 100000
set_option maxHeartbeats 4000000
/-! ### expressions -/
namespace EV
open PySem L2

/-- A, so many levels of C below -/
def inN : Nat → Around → Around
  | 0, A => A
  | j + 1, A => (inN j A).in1
/-- a call of the def (or class) at f with values, the caller's slots being τ -/
def CallA (X : Cx) (A : Around) (f : Addr) (vs : List V) (τ : St) (H : Hp) (Q : VK) : Prop :=
  ∀ (pins : List (Addr × Obj)) (s : Shared) (us : List Value), Inv X pins τ H s → Vals vs us → codeAny (model X.prog X.w) A (.call (.ref f) ⟨us, []⟩) (fun r s' => match r with | .ok (.ret v) => EP X pins τ Q v s' | .ok _ => False | .error e => X.xe e s') s
abbrev CallV (X : Cx) (f : Addr) (vs : List V) (τ : St) (H : Hp) (Q : VK) : Prop := CallA X X.A f vs τ H Q
/-- what the evaluator says of a call, as a promise -/
def spN (L : Lk) (c : CallT) (f : Nat) (E : XK) (vs : List V) (H : Hp) (Q : VK) : Prop :=
  ∃ m σ, Rel L m H σ (vs.map some) ∧ Post L (fun cls d _ H' => E cls d H') (TR L) H σ (vs.map some) m Q (c f σ)
def dvAt (L : Lk) (F : Fn) (f n : Nat) : List V := (L.dv f).drop (F.dfl.length - (F.np - n))
/-- .. with what its parameters are bound to -/
def spC (L : Lk) (c : CallT) (f : Nat) (F : Fn) (E : XK) (vs : List V) (H : Hp) (Q : VK) : Prop :=
  (F.star = false ∧ vs.length ≤ F.np ∧ F.np - vs.length ≤ F.dfl.length ∧ spN L c f E (vs ++ dvAt L F f vs.length) H Q) ∨
  (F.star = true ∧ ∃ ws rest, vs = ws ++ rest ∧ ws.length + 1 = F.np ∧ rest.length ≤ sizeLine ∧ ∀ p, H p = none → spN L c f E (ws ++ [V.ref p]) (upd H p (.tup rest)) Q)
/-- what the calls keep -/
structure Ctr (X : Cx) (L : Lk) (P : Prog) (W : WX) (O : Oc) : Prop where
  f1 : ∀ f F vs τ H Q, P.fn f = some F → spC L O.c1 f F (fun cls d H' => W cls d τ H') vs H Q → CallV X (L.ad f) vs τ H Q
  f2 : ∀ j f F vs τ H Q E, j ≤ 8 → P.fn f = some F → spC L O.c2 f F E vs H Q → (∀ cls d H', E cls d H' → W cls d τ H') → CallA X (inN j X.A) (L.ad f) vs τ H Q
  mkI : ∀ C f F at_ fl vs τ H Q, P.cl C = some ⟨some f, at_, fl⟩ → P.fn f = some F →
    (∀ x dx, H x = none → H dx = none → dx ≠ x → spC L O.c2 f F (fun cls d H' => W cls d τ H') (.ref x :: vs) (upd (upd H dx (.own x)) x (.ins (L.ad C) dx [])) (fun v H2 => v = .non ∧ Q (.ref x) H2)) → CallV X (L.ad C) vs τ H Q
  prop : ∀ C f g F a dx fs τ H Q, lookupAt C f P = some (.prop g) → P.fn g = some F → H a = some (.ins (L.ad C) dx fs) → spC L O.c2 g F (fun _ _ _ => False) [.ref a] H Q →
    ∀ pins s b, Inv X pins τ H s → wpAny (model X.prog X.w) X.A (getAttr (.ref a) (L.nm f) b) (EP X pins τ Q) X.xe s
/-- the same text, the same calls around -/
structure SameX (X X' : Cx) : Prop where
  prog : X'.prog = X.prog
  w : X'.w = X.w
  K : X'.K = X.K
  mg : X'.mg = X.mg
  base : X'.base = X.base
  A : X'.A = X.A
  calm : X'.calm = X.calm
/-- names whose numbers are known -/
def nmT : List (Nat × Str) := [(1, "join"), (2, "__eq__"), (6, "count"), (8, "split"), (9, "partition"), (10, "endswith"), (11, "startswith"), (31, "__contains__"), (32, "__len__"), (33, "__str__"), (34, "__repr__"), (40, "__add__"), (41, "__call__"), (44, "__getitem__")]
structure SX (X : Cx) (L : Lk) (P : Prog) (W : WX) (O : Oc) (c : CC) : Prop where
  lo : LOk X L P
  calm : X.calm = true
  nd : X.N.Nodup
  N : X.N = c.N
  sc : X.env.scope = c.sc
  fnX : X.fn = c.fn
  hu : X.A.units + 128 < cLine
  gu : X.A.guards = some []
  tk : Takes X W
  ctr : ∀ X' W', SameX X X' → Takes X' W' → Ctr X' L P W' O
  dv : ∀ f F, P.fn f = some F → ∀ H m, RVs L H m F.dfl (L.dv f)
  con : ∀ x i, (c.kd x = some (.con i) ∨ c.kd x = some (.cls i) ∨ c.kd x = some (.fn i)) → ∀ d, P.con i = some d → ∃ v u, X.mg x = some u ∧ RelV v u ∧ ∀ H m, RV L H m d v
  ty : ∀ x t, c.kd x = some (.ty t) → X.mg x = none ∧ bootBuiltins x = some (.type t.name) ∧ x = t.name
  bi : ∀ x f, c.kd x = some (.bi f) → x = biN f ∧ X.mg x = none
  fn : ∀ x i, c.kd x = some (.fn i) → X.mg x = some (.ref (L.ad i)) ∧ PySem.W.keepIn X.K (.ref (L.ad i)) = true
  cl : ∀ x i, c.kd x = some (.cls i) → X.mg x = some (.ref (L.ad i)) ∧ PySem.W.keepIn X.K (.ref (L.ad i)) = true
  rng : c.kd "range" = none → X.mg "range" = none
  enm : c.kd "enumerate" = none → X.mg "enumerate" = none
  att : ∀ f i, c.att f = some i → L.nm i = f
  nmj : ∀ p ∈ nmT, L.nm p.1 = p.2
  fni : ∀ f F, P.fn f = some F → PySem.W.fnIn X.K (L.ad f) = true
  kpc : ∀ C, (P.cl C).isSome = true → PySem.W.keepIn X.K (.ref (L.ad C)) = true
  kpf : ∀ f F, P.fn f = some F → PySem.W.keepIn X.K (.ref (L.ad f)) = true
  own0 : ∀ C k, P.cl C = some k → PySem.W.findIn X.K (.ref (L.ad C)) "__ne__" = some (some (.builtin "object.__ne__")) ∧ PySem.W.mroIn X.K (L.ad C) (.type "object") = some true ∧ PySem.W.selfFirst X.K (L.ad C) = true ∧ PySem.W.findIn X.K (.ref (L.ad C)) "__format__" = some (some (.builtin "object.__format__"))
  cls : ∀ C c, P.cl C = some c → Cls X.K (L.ad C)
  noat : ∀ C f, isFld C f P = true → NoAttr X.K (L.ad C) (L.nm f)
  meth : ∀ C m f, lookupAt C m P = some (.meth f) → Meth X.K (L.ad C) (L.nm m) (L.ad f)
  cons : ∀ C f d, lookupAt C f P = some (.con d) → ∃ v u, Con X.K (L.ad C) (L.nm f) v u ∧ ∀ H m, RV L H m d v
  nmf : ∀ f g, L.nm f = L.nm g → f = g
theorem SX.c {X : Cx} {L : Lk} {P : Prog} {W : WX} {O : Oc} {c : CC} (sx : SX X L P W O c) : Ctr X L P W O := sx.ctr X W ⟨rfl, rfl, rfl, rfl, rfl, rfl, rfl⟩ sx.tk

section
variable {X : Cx} {L : Lk} {P : Prog} {W : WX} {O : Oc} {c : CC}

theorem pe_bad {e : Expr} {f : M R} (h : ∀ σ, f σ = .fail) : PE X e (tE L W f) := ⟨fun pins s σ H Q I q => by
  obtain ⟨m, σ', _, z⟩ := q
  rw [h] at z; exact z.elim⟩
theorem pt_bad {e : Expr} {f : M Bool} (h : ∀ σ, f σ = .fail) : PT X e (tT L W f) := ⟨fun pins s σ H Q I q => by
  obtain ⟨m, σ', _, z⟩ := q
  rw [h] at z; exact z.elim⟩
/-- a value that is known -/
theorem pe_const {e : Expr} {v : V} {d : D} (h : PE X e (tC v)) (r : ∀ H m, RV L H m d v) : PE X e (tE L W (ret (.val d))) := h.mono fun τ H Q q => by
  obtain ⟨m, σ, rl, p⟩ := q
  exact p m H v (Step.refl rl) (r H m)
theorem idx_get {α : Type} [BEq α] [LawfulBEq α] {l : List α} {x : α} {i : Nat} (h : l.idxOf? x = some i) : l[i]? = some x := by
  rw [List.idxOf?_eq_some_iff] at h
  obtain ⟨h1, h2, _⟩ := h
  rw [List.getElem?_eq_getElem h1, h2]
theorem vis_of (sx : SX X L P W O c) {x : Str} (h : isLoc c x = true) : Vis X.env.scope x := by
  unfold isLoc at h
  unfold Vis
  rw [sx.sc]
  split at h
  · exact .inl (by assumption)
  · exact .inr (.inl (by assumption))
  · exact .inr (.inr (by assumption))
  · cases h
theorem gl_of (sx : SX X L P W O c) {x : Str} (h : isGlb c x = true) : Gl X x := by
  unfold isGlb at h
  show X.env.scope.names.lookup x = _
  rw [sx.sc]
  split at h
  · assumption
  · cases h
theorem plain_of {x : Str} (h : plainN x = true) : (x == ("__debug__" : Str)) = false ∧ (x == ("__classdict__" : Str)) = false ∧ x ≠ "__name__" := by
  unfold plainN at h
  simp only [Bool.and_eq_true, bne_iff_ne, ne_eq] at h
  exact ⟨beq_eq_false_iff_ne.mpr h.1.1, beq_eq_false_iff_ne.mpr h.1.2, h.2⟩
theorem slot_of (sx : SX X L P W O c) {x : Str} {i : Nat} {pos : Pos} (h : slotOf c x = some i) : PE X (.Name x pos) (tVar i) := by
  unfold slotOf at h
  split at h
  · rename_i hc
    rw [Bool.and_eq_true] at hc
    obtain ⟨p1, p2, _⟩ := plain_of hc.2
    exact pe_var (by rw [sx.N]; exact idx_get h) (vis_of sx hc.1) p1 p2
  · cases h
theorem pe_v (i : Nat) {x : Str} {pos : Pos} (h : PE X (.Name x pos) (tVar i)) : PE X (.Name x pos) (tE L W (ev P O (.v i))) := h.mono fun τ H Q q => by
  obtain ⟨m, σ, rl, p⟩ := q
  simp only [ev] at p
  cases e : σ[i]? with
  | none => rw [e] at p; exact p.elim
  | some s =>
    rw [e] at p
    cases s with
    | un => exact p.elim
    | val d =>
      obtain ⟨v, h1, h2⟩ := rl.val i d e
      exact ⟨v, h1, p m H v (Step.refl rl) h2⟩
    | own io lk d =>
      cases io <;> cases lk <;> first | exact p.elim | skip
      obtain ⟨a, m', h1, h2, s⟩ := Step.freeze rl e
      exact ⟨_, h1, p m' H _ s h2⟩
theorem pe_b (i : Nat) {x : Str} {pos : Pos} (h : PE X (.Name x pos) (tVar i)) : PE X (.Name x pos) (tE L W (ev P O (.b i))) := h.mono fun τ H Q q => by
  obtain ⟨m, σ, rl, p⟩ := q
  simp only [ev] at p
  cases e : σ[i]? with
  | none => rw [e] at p; exact p.elim
  | some s =>
    rw [e] at p
    cases s with
    | un => exact p.elim
    | val d =>
      obtain ⟨v, h1, h2⟩ := rl.val i d e
      exact ⟨v, h1, p m H v (Step.refl rl) h2⟩
    | own io lk d =>
      obtain ⟨a, h1, h2, h3⟩ := rl.own i io lk d e
      exact ⟨_, h1, p m H _ (Step.refl rl) h1⟩
/-- a name of the module -/
theorem pe_g (sx : SX X L P W O c) {x : Str} {i : Nat} {pos : Pos} (hg : isGlb c x = true) (hp : plainN x = true) (hk : c.kd x = some (.con i) ∨ c.kd x = some (.cls i) ∨ c.kd x = some (.fn i)) : PE X (.Name x pos) (tE L W (ev P O (.g i))) := by
  cases e : P.con i with
  | none => exact pe_bad fun σ => by simp only [ev, e]; rfl
  | some d =>
    obtain ⟨v, u, h1, h2, h3⟩ := sx.con x i hk d e
    have := pe_const (W := W) (pe_glob (pos := pos) (gl_of sx hg) h1 h2 (plain_of hp).1) h3
    have e2 : ev P O (.g i) = ret (.val d) := by simp only [ev, e]; rfl
    rw [e2]; exact this
theorem pe_neg' (sx : SX X L P W O c) {a : Expr} {x : E} {pos : Pos} (ha : PE X a (tE L W (ev P O x))) : PE X (.UnaryOp .USub a pos) (tE L W (ev P O (.neg x))) :=
  (pe_un un_neg ha).mono fun τ H Q q => by
    obtain ⟨m, σ, rl, p⟩ := q
    simp only [ev] at p
    refine post_bnd0 rl p fun r σ1 m1 H1 v s1 t1 p1 => ?_
    obtain ⟨dx, c1, p3⟩ := post_der s1.rel t1 p1
    cases dx with
    | int i => exact ⟨i, c1.int, post_made s1 p3 _ _ (Made.int _)⟩
    | _ => exact p3.elim
/-- a call with all its arguments, as a promise -/
theorem callP_sp {σ σ1 : List Sl} {τ : St} {m m1 : Addr → Prop} {H H1 : Hp} {Q : VK} {f : Nat} {F : Fn} {cl : CallT} {rs : List R} {vs : List V} (dv : ∀ H m, RVs L H m F.dfl (L.dv f)) (s : Step L σ τ m H σ1 τ m1 H1) (rr : RRs L H σ1 τ m1 H1 rs vs)
    (h : Post L W (TR L) H σ τ m Q (callP cl f F rs σ1)) : vs.length ≤ F.np ∧ F.np - vs.length ≤ F.dfl.length ∧ spN L cl f (fun cls d H' => W cls d τ H') (vs ++ dvAt L F f vs.length) H1 Q := by
  unfold callP at h
  cases eA : toSls σ1 rs with
  | none => rw [eA] at h; exact h.elim
  | some as =>
    rw [eA] at h
    dsimp only at h
    split at h
    · rename_i nd
      unfold params at h
      have la := toSls_len eA
      have lv := rr.length
      split at h
      · rename_i ps e
        split at e
        · rename_i hl
          cases e
          have hd : RVs L H1 m1 (F.dfl.drop (F.dfl.length - (F.np - as.length))) (dvAt L F f vs.length) := by
            have := (dv H1 m1).drop (F.dfl.length - (F.np - as.length))
            unfold dvAt
            rw [← lv, ← la]
            exact this
          refine ⟨by omega, by rw [← lv, ← la]; exact hl.2, m1, _, rel_args s.rel rr nd eA hd, ?_⟩
          cases ec : cl f (as ++ List.map Sl.val (F.dfl.drop (F.dfl.length - (F.np - as.length)))) with
          | fail => rw [ec] at h; exact h.elim
          | exc x ps' =>
            rw [ec] at h
            intro m2 H2 cls d st rx
            exact h m2 H2 cls d (step_call s rr nd eA hd st) rx
          | ok r ps' =>
            rw [ec] at h
            intro m2 H2 v st rx
            cases r with
            | bor i => exact h.elim
            | val d => exact h m2 H2 v (step_call s rr nd eA hd st) rx
            | tmp d =>
              obtain ⟨a, e1, h1, h2, _, h3⟩ := rx
              refine h m2 H2 v (step_call s rr nd eA hd st) ⟨a, e1, s.dom a h1, h2, fun z => ?_, h3⟩
              obtain ⟨j, io, lk, d', z1, z2⟩ := z
              obtain ⟨e', z3, _⟩ := back_own z1
              obtain ⟨o, z4⟩ := s.rel.owH ⟨j, io, lk, e', z3, z2⟩
              rw [h1] at z4; cases z4
        · cases e
      · exact h.elim
    · exact h.elim
/-- what is let go, and what is left of it -/
theorem frz_ok2 {σ σ1 σ2 : List Sl} {τ : St} {m m1 : Addr → Prop} {H H1 : Hp} (s : Step L σ τ m H σ1 τ m1 H1) {r : R} {v : V} {d : D} (h : RR L H σ1 τ m1 H1 r v) (e : frz r σ1 = .ok d σ2) :
    ∃ m2, Step L σ τ m H σ2 τ m2 H1 ∧ RV L H1 m2 d v ∧ Kp H1 m1 H1 m2 ∧ (∀ b, Ow σ2 τ b → Ow σ1 τ b) ∧ ∀ b, m1 b → ¬ Ow σ1 τ b → (∀ e, r = .tmp e → v ≠ .ref b) → m2 b := by
  cases r with
  | val d' => unfold frz at e; cases e; exact ⟨m1, s, h, fun a o e hm => ⟨e, hm⟩, fun _ z => z, fun _ z _ _ => z⟩
  | tmp d' =>
    unfold frz at e; cases e
    obtain ⟨a, e, h0, h1, h2, h3⟩ := h
    subst e
    have k : Kp H1 m1 H1 (fun b => m1 b ∧ b ≠ a) := fun b o e hb => ⟨e, fun z => hb z.1⟩
    refine ⟨fun b => m1 b ∧ b ≠ a, ⟨s.rel.drop h2, fun b o hb hw => ?_, s.own, s.wr, s.io, s.lkd, s.dom⟩, (h3.mono k fun _ e => e).rv fun z => z.2 rfl, k, fun _ z => z, fun b z _ hn => ⟨z, fun e => hn d rfl (by rw [e])⟩⟩
    obtain ⟨h4, h5⟩ := s.frame b o hb hw
    refine ⟨h4, ⟨fun z => h5.mp z.1, fun z => ⟨h5.mpr z, ?_⟩⟩⟩
    rintro rfl
    rw [h0] at hb; cases hb
  | bor i =>
    unfold frz at e; dsimp only at e
    have h' : τ[i]? = some (some v) := h
    cases q : σ1[i]? with
    | none => rw [q] at e; cases e
    | some sl =>
      rw [q] at e
      cases sl with
      | un => cases e
      | val d' =>
        cases e
        obtain ⟨u, h1, h2⟩ := s.rel.val i _ q
        rw [h'] at h1; cases h1
        exact ⟨m1, s, h2, fun a o e hm => ⟨e, hm⟩, fun _ z => z, fun _ z _ _ => z⟩
      | own io lk d' =>
        cases io <;> cases lk <;> first | cases e | skip
        obtain ⟨a, m2, h1, h2, h3⟩ := Step.freeze s.rel q
        rw [h'] at h1; cases h1
        refine ⟨m2, s.trans h3, h2, h3.kp s.rel, fun b z0 => ?_, fun b z hn _ => ?_⟩
        · rcases h3.own b z0 with z | z
          · exact z
          · obtain ⟨o, ho⟩ := h3.rel.owH z0
            rw [z] at ho; cases ho
        · obtain ⟨o, ho⟩ := s.rel.mH b z
          exact (h3.frame b o ho fun w => hn w.ow).2.mpr z
theorem RR.kept {σ1 σ2 : List Sl} {τ : St} {m1 m2 : Addr → Prop} {H0 H1 : Hp} {q : R} {u : V} (h : RR L H0 σ1 τ m1 H1 q u) (k : Kp H1 m1 H1 m2) (ow : ∀ b, Ow σ2 τ b → Ow σ1 τ b) (hm : ∀ b e, q = .tmp e → u = .ref b → m1 b → ¬ Ow σ1 τ b → m2 b) : RR L H0 σ2 τ m2 H1 q u := by
  cases q with
  | val d => exact RV.mono k d u h
  | bor i => exact h
  | tmp d =>
    obtain ⟨a, e, h0, h1, h2, h3⟩ := h
    exact ⟨a, e, h0, hm a d rfl e h1 h2, fun z => h2 (ow a z), h3.mono k fun _ e => e⟩
theorem RRs.kept {σ1 σ2 : List Sl} {τ : St} {m1 m2 : Addr → Prop} {H0 H1 : Hp} (k : Kp H1 m1 H1 m2) (ow : ∀ b, Ow σ2 τ b → Ow σ1 τ b) : ∀ {qs : List R} {us : List V}, RRs L H0 σ1 τ m1 H1 qs us →
    (∀ (j : Nat) (b : Addr) (e : D), qs[j]? = some (R.tmp e) → us[j]? = some (V.ref b) → m1 b → ¬ Ow σ1 τ b → m2 b) → RRs L H0 σ2 τ m2 H1 qs us
  | [], us, h, _ => h
  | q :: qs, us, h, hm => by
    obtain ⟨u, ws, e, h1, h2, h3⟩ := h
    subst e
    exact ⟨u, ws, rfl, h1.kept k ow (fun b e e1 e2 => hm 0 b e (by rw [e1]; rfl) (by rw [e2]; rfl)), RRs.kept k ow h2 (fun j b e g1 g2 => hm (j + 1) b e g1 g2), h3⟩
theorem RRs.split {H0 : Hp} {σ : List Sl} {τ : St} {m : Addr → Prop} {H : Hp} : ∀ {as : List R} {bs : List R} {vs : List V}, RRs L H0 σ τ m H (as ++ bs) vs → ∃ us ws, vs = us ++ ws ∧ RRs L H0 σ τ m H as us ∧ RRs L H0 σ τ m H bs ws ∧ ∀ (i j : Nat) d e v, as[i]? = some (.tmp d) → bs[j]? = some (.tmp e) → us[i]? = some v → ws[j]? ≠ some v
  | [], bs, vs, h => ⟨[], vs, rfl, rfl, h, fun i j d e v hi => by simp at hi⟩
  | a :: as, bs, vs, h => by
    obtain ⟨v, ws, e, h1, h2, h3⟩ := h
    obtain ⟨us, ws', e2, g1, g2, g3⟩ := RRs.split h2
    subst e; subst e2
    have lu := g1.length
    refine ⟨v :: us, ws', rfl, ⟨v, us, rfl, h1, g1, fun d ed j e ej => ?_⟩, g2, fun i j d e w hi hj hu => ?_⟩
    · have hj : j < as.length := (List.getElem?_eq_some_iff.mp ej).1
      have := h3 d ed j e (by show (as ++ bs)[j]? = _; rw [List.getElem?_append_left hj]; exact ej)
      rw [List.getElem?_append_left (by omega)] at this
      exact this
    · cases i with
      | zero =>
        simp at hi hu
        subst hu
        have := h3 d hi (as.length + j) e (by show (as ++ bs)[as.length + j]? = _; rw [List.getElem?_append_right (by omega)]; simpa using hj)
        rw [List.getElem?_append_right (by omega)] at this
        simpa [lu] using this
      | succ i => exact g3 i j d e w (by simpa using hi) hj (by simpa using hu)
/-- what a star takes is let go -/
theorem frzs_ok {σ : List Sl} {τ : St} {m : Addr → Prop} {H H1 : Hp} : ∀ {bs as : List R} {us ws : List V} {ds : List D} {σ1 σ2 : List Sl} {m1 : Addr → Prop}, Step L σ τ m H σ1 τ m1 H1 → RRs L H σ1 τ m1 H1 as us → RRs L H σ1 τ m1 H1 bs ws →
    (∀ (i j : Nat) d e v, as[i]? = some (.tmp d) → bs[j]? = some (.tmp e) → us[i]? = some v → ws[j]? ≠ some v) → frzs bs σ1 = .ok ds σ2 → ∃ m2, Step L σ τ m H σ2 τ m2 H1 ∧ RRs L H σ2 τ m2 H1 as us ∧ RVs L H1 m2 ds ws ∧ Kp H1 m1 H1 m2
  | [], as, us, ws, ds, σ1, σ2, m1, s, ra, rb, _, e => by
    simp only [frzs, ret] at e; cases e
    rw [show ws = [] from rb]
    exact ⟨m1, s, ra, .nil, fun a o e hm => ⟨e, hm⟩⟩
  | b :: bs, as, us, ws, ds, σ1, σ2, m1, s, ra, rb, hd, e => by
    obtain ⟨v, ws', e1, h1, h2, h3⟩ := rb
    subst e1
    simp only [frzs, bnd] at e
    cases e2 : frz b σ1 with
    | fail => rw [e2] at e; cases e
    | exc x σ3 => rw [e2] at e; cases e
    | ok d σ3 =>
      rw [e2] at e
      dsimp only at e
      cases e3 : frzs bs σ3 with
      | fail => rw [e3] at e; cases e
      | exc x σ4 => rw [e3] at e; cases e
      | ok ds' σ4 =>
        rw [e3] at e
        simp only [ret] at e
        cases e
        obtain ⟨m2, s2, rv, kp, ow, keep⟩ := frz_ok2 s h1 e2
        have ra2 := RRs.kept kp ow ra fun j a e' g1 g2 g3 g4 => keep a g3 g4 fun e'' eb ev => hd j 0 e' e'' (.ref a) g1 (by rw [eb]; rfl) g2 (by rw [ev]; rfl)
        have rb2 := RRs.kept kp ow h2 fun j a e' g1 g2 g3 g4 => keep a g3 g4 fun e'' eb ev => h3 e'' eb j e' g1 (by rw [ev]; exact g2)
        obtain ⟨m3, s3, ra3, rs3, kp3⟩ := frzs_ok s2 ra2 rb2 (fun i j d' e' v' g1 g2 g3 => hd i (j + 1) d' e' v' g1 g2 g3) e3
        exact ⟨m3, s3, ra3, .cons (RV.mono kp3 _ _ rv) rs3, fun a o ea hm => kp3 a o ea (kp a o ea hm).2⟩
theorem frzs_res : ∀ (bs : List R) (σ : List Sl), frzs bs σ = .fail ∨ ∃ ds σ', frzs bs σ = .ok ds σ'
  | [], σ => .inr ⟨[], σ, rfl⟩
  | b :: bs, σ => by
    have hb : frz b σ = .fail ∨ ∃ d σ', frz b σ = .ok d σ' := by
      unfold frz
      cases b with
      | val d => exact .inr ⟨d, σ, rfl⟩
      | tmp d => exact .inr ⟨d, σ, rfl⟩
      | bor i =>
        dsimp only
        split
        · exact .inr ⟨_, _, rfl⟩
        · exact .inr ⟨_, _, rfl⟩
        · exact .inl rfl
    simp only [frzs, bnd]
    rcases hb with hb | ⟨d, σ', hb⟩
    · rw [hb]; exact .inl rfl
    · rw [hb]
      dsimp only
      rcases frzs_res bs σ' with h | ⟨ds, σ2, h⟩
      · rw [h]; exact .inl rfl
      · rw [h]; exact .inr ⟨_, _, rfl⟩
theorem RRs.join {H0 : Hp} {σ : List Sl} {τ : St} {m : Addr → Prop} {H : Hp} {d : D} {v : V} (rv : RV L H m d v) : ∀ {as : List R} {us : List V}, RRs L H0 σ τ m H as us → RRs L H0 σ τ m H (as ++ [.val d]) (us ++ [v])
  | [], us, h => by
    rw [show us = [] from h]
    exact ⟨v, [], rfl, rv, rfl, fun d e j e' ej => by simp at ej⟩
  | a :: as, us, h => by
    obtain ⟨u, ws, e, h1, h2, h3⟩ := h
    subst e
    refine ⟨u, ws ++ [v], rfl, h1, RRs.join rv h2, fun d' ed j e' ej => ?_⟩
    replace ej : (as ++ [R.val d])[j]? = some (R.tmp e') := ej
    have hj : j < as.length := by
      have hl := (List.getElem?_eq_some_iff.mp ej).1
      rcases Nat.lt_or_ge j as.length with h | h
      · exact h
      · rw [List.getElem?_append_right h] at ej
        have : j - as.length = 0 := by simp at hl; omega
        rw [this] at ej; cases ej
    rw [List.getElem?_append_left hj] at ej
    rw [List.getElem?_append_left (by rw [← h2.length]; exact hj)]
    exact h3 d' ed j e' ej
/-- the arguments of a def with a star parameter -/
theorem packF_sp {σ σ1 : List Sl} {τ : St} {m m1 : Addr → Prop} {H H1 : Hp} {Q : VK} {n : Nat} {g : List R → M R} {rs : List R} {vs : List V} (s : Step L σ τ m H σ1 τ m1 H1) (rr : RRs L H σ1 τ m1 H1 rs vs) (h : Post L W (TR L) H σ τ m Q (packF n rs g σ1)) :
    ∃ ws rest, vs = ws ++ rest ∧ ws.length = n ∧ rest.length ≤ sizeLine ∧ ∀ p, H1 p = none → ∃ σ2 m2 qs, Step L σ τ m H σ2 τ m2 (upd H1 p (.tup rest)) ∧ RRs L H σ2 τ m2 (upd H1 p (.tup rest)) qs (ws ++ [.ref p]) ∧ Post L W (TR L) H σ τ m Q (g qs σ2) := by
  unfold packF at h
  split at h
  · rename_i hn
    have e0 : rs = rs.take n ++ rs.drop n := (List.take_append_drop n rs).symm
    rw [e0] at rr
    obtain ⟨ws, rest, e1, g1, g2, g3⟩ := RRs.split rr
    have l1 := g1.length
    have l2 := g2.length
    rw [List.length_take] at l1
    rcases frzs_res (rs.drop n) σ1 with e | ⟨ds, σ2, e⟩
    · unfold bnd at h; rw [e] at h; exact h.elim
    · obtain ⟨m2, s2, ra, rv, _⟩ := frzs_ok s g1 g2 g3 e
      unfold bnd at h
      rw [e] at h
      dsimp only at h
      split at h
      · rename_i hl
        refine ⟨ws, rest, e1, by omega, by rw [← rv.length, ← lim_eq]; exact hl, fun p hp => ?_⟩
        obtain ⟨m3, s3, t3⟩ := (Made.tupN s2.rel.mH rv hp).step s2.rel
        exact ⟨σ2, m3, _, s2.trans s3, RRs.join t3 (RRs.step s2.rel s3 ra), h⟩
      · exact h.elim
  · exact h.elim
/-- a call, as a promise -/
theorem callF_sp {σ σ1 : List Sl} {τ : St} {m m1 : Addr → Prop} {H H1 : Hp} {Q : VK} {f : Nat} {cl : CallT} {rs : List R} {vs : List V} (dv : ∀ f F, P.fn f = some F → ∀ H m, RVs L H m F.dfl (L.dv f)) (s : Step L σ τ m H σ1 τ m1 H1) (rr : RRs L H σ1 τ m1 H1 rs vs)
    (h : Post L W (TR L) H σ τ m Q (callF P cl f rs σ1)) : ∃ F, P.fn f = some F ∧ spC L cl f F (fun cls d H' => W cls d τ H') vs H1 Q := by
  unfold callF at h
  cases eF : P.fn f with
  | none => rw [eF] at h; exact h.elim
  | some F =>
    rw [eF] at h
    dsimp only at h
    refine ⟨F, rfl, ?_⟩
    split at h
    · rename_i hs
      cases en : F.np with
      | zero => rw [en] at h; exact h.elim
      | succ n =>
        rw [en] at h
        obtain ⟨ws, rest, e1, e2, e3, k⟩ := packF_sp s rr h
        refine .inr ⟨hs, ws, rest, e1, by omega, e3, fun p hp => ?_⟩
        obtain ⟨σ2, m2, qs, s2, r2, p2⟩ := k p hp
        obtain ⟨g1, g2, g3⟩ := callP_sp (dv f F eF) s2 r2 p2
        have ed : dvAt L F f (ws ++ [V.ref p]).length = [] := by
          unfold dvAt
          have := (dv f F eF H1 m1).length
          rw [List.length_append, e2, en, show n + 1 - (n + [V.ref p].length) = 0 by simp, Nat.sub_zero, this, List.drop_length]
        rw [ed, List.append_nil] at g3
        exact g3
    · rename_i hs
      obtain ⟨g1, g2, g3⟩ := callP_sp (dv f F eF) s rr h
      exact .inl ⟨by simpa using hs, g1, g2, g3⟩
theorem post_noX {σ σ1 : List Sl} {τ : St} {m : Addr → Prop} {H : Hp} {γ α β δ : Type} {T2 : TL γ δ} {T : TL α β} {Q : δ → Hp → Prop} {Q1 : β → Hp → Prop} {f : M α} {g : α → M γ} (h : Post L W T2 H σ τ m Q (bnd (noX f) g σ1))
    (k : ∀ a σ2, f σ1 = .ok a σ2 → Post L W T2 H σ τ m Q (g a σ2) → ∀ m2 H2 v, Step L σ τ m H σ2 τ m2 H2 → T H σ2 τ m2 H2 a v → Q1 v H2) : Post L (fun _ _ _ _ => False) T H σ τ m Q1 (f σ1) := by
  unfold bnd noX at h
  cases e : f σ1 with
  | fail => rw [e] at h; exact h
  | exc x σ2 => rw [e] at h; exact h.elim
  | ok a σ2 => rw [e] at h; intro m2 H2 v s t; exact k a σ2 e h m2 H2 v s t
theorem post_noX1 {σ σ1 : List Sl} {τ : St} {m : Addr → Prop} {H : Hp} {α β : Type} {T : TL α β} {Q : β → Hp → Prop} {f : M α} (h : Post L W T H σ τ m Q (noX f σ1)) : Post L (fun _ _ _ _ => False) T H σ τ m Q (f σ1) := by
  unfold noX at h
  cases e : f σ1 with
  | fail => rw [e] at h; exact h
  | exc x σ2 => rw [e] at h; exact h.elim
  | ok a σ2 => rw [e] at h; exact h
theorem two_rr {σ σ1 σ2 : List Sl} {τ : St} {m m1 m2 : Addr → Prop} {H H1 H2 : Hp} {r q : R} {v u : V} (s1 : Step L σ τ m H σ1 τ m1 H1) (t1 : TR L H σ1 τ m1 H1 r v) (s2 : Step L σ1 τ m1 H1 σ2 τ m2 H2) (t2 : TR L H1 σ2 τ m2 H2 q u) : RRs L H σ2 τ m2 H2 [r, q] [v, u] := by
  refine RRs.cons (RR.step s1.rel s2 t1) (H1' := H1) ⟨u, [], rfl, t2, rfl, fun d _ j e ej => by simp at ej⟩ s1.dom fun d a e1 e2 z => ?_
  subst e1
  obtain ⟨b, e3, _, _, _, h3⟩ := t1
  rw [e2] at e3; cases e3
  obtain ⟨o, ho⟩ := h3.there
  rw [z] at ho; cases ho
/-! ### own special methods -/
/-- an own special method's promise; nothing is raised -/
def spS (L : Lk) (P : Prog) (O : Oc) (C m : Nat) (vs : List V) (H : Hp) (Q : VK) : Prop := ∃ f F, lookupAt C m P = some (.meth f) ∧ P.fn f = some F ∧ spC L O.c2 f F (fun _ _ _ => False) vs H Q
theorem specM_sp {σ σ1 : List Sl} {τ : St} {m m1 : Addr → Prop} {H H1 : Hp} {Q : VK} {C mm : Nat} {rs : List R} {vs : List V} (dv : ∀ f F, P.fn f = some F → ∀ H m, RVs L H m F.dfl (L.dv f)) (s : Step L σ τ m H σ1 τ m1 H1) (rr : RRs L H σ1 τ m1 H1 rs vs)
    (p : Post L W (TR L) H σ τ m Q (specM P O mm C rs σ1)) : ∃ f F, lookupAt C mm P = some (.meth f) ∧ P.fn f = some F ∧ spC L O.c2 f F (fun cls d H' => W cls d τ H') vs H1 Q := by
  unfold specM at p
  cases hl : lookupAt C mm P with
  | none => rw [hl] at p; exact p.elim
  | some at_ =>
    rw [hl] at p
    cases at_ with
    | meth f =>
      obtain ⟨F, h1, h2⟩ := callF_sp dv s rr p
      exact ⟨f, F, rfl, h1, h2⟩
    | _ => exact p.elim
theorem specN_sp {σ σ1 : List Sl} {τ : St} {m m1 : Addr → Prop} {H H1 : Hp} {Q : VK} {C mm : Nat} {rs : List R} {vs : List V} (dv : ∀ f F, P.fn f = some F → ∀ H m, RVs L H m F.dfl (L.dv f)) (s : Step L σ τ m H σ1 τ m1 H1) (rr : RRs L H σ1 τ m1 H1 rs vs)
    (p : Post L W (TR L) H σ τ m Q (specN P O mm C rs σ1)) : spS L P O C mm vs H1 Q := specM_sp (W := fun _ _ _ _ => False) dv s rr (post_noX1 p)
/-- .. and then a look at what it gives -/
theorem specB_sp {σ σ1 : List Sl} {τ : St} {m m1 : Addr → Prop} {H H1 : Hp} {Q : VK} {C mm : Nat} {rs : List R} {vs : List V} {g : R → M R} {Q1 : VK} (dv : ∀ f F, P.fn f = some F → ∀ H m, RVs L H m F.dfl (L.dv f)) (s : Step L σ τ m H σ1 τ m1 H1) (rr : RRs L H σ1 τ m1 H1 rs vs)
    (p : Post L W (TR L) H σ τ m Q (bnd (specN P O mm C rs) g σ1))
    (k : ∀ a σ2, Post L W (TR L) H σ τ m Q (g a σ2) → ∀ m2 H2 v, Step L σ τ m H σ2 τ m2 H2 → RR L H σ2 τ m2 H2 a v → Q1 v H2) : spS L P O C mm vs H1 Q1 :=
  specM_sp (W := fun _ _ _ _ => False) dv s rr (post_noX (T := TR L) p fun a σ2 _ p2 m2 H2 v s2 t2 => k a σ2 p2 m2 H2 v s2 t2)
theorem okBool_k {σ σ2 : List Sl} {τ : St} {m : Addr → Prop} {H : Hp} {Q : VK} {g : Bool → Bool} {a : R} (p : Post L W (TR L) H σ τ m Q (okBool g a σ2)) (m2 : Addr → Prop) (H2 : Hp) (v : V) (s2 : Step L σ τ m H σ2 τ m2 H2) (t2 : RR L H σ2 τ m2 H2 a v) : ∃ b, v = .bl b ∧ Q (.bl (g b)) H2 := by
  unfold okBool at p
  split at p
  · rename_i b
    have e3 : v = .bl b := by have : RV L H2 m2 (.bl b) v := t2; simpa only [RV] using this
    exact ⟨b, e3, p m2 H2 (.bl (g b)) s2 (by show RV L H2 m2 (.bl (g b)) _; simp only [RV])⟩
  · exact p.elim
theorem okStr_k {σ σ2 : List Sl} {τ : St} {m : Addr → Prop} {H : Hp} {Q : VK} {a : R} (p : Post L W (TR L) H σ τ m Q (okStr a σ2)) (m2 : Addr → Prop) (H2 : Hp) (v : V) (s2 : Step L σ τ m H σ2 τ m2 H2) (t2 : RR L H σ2 τ m2 H2 a v) : ∃ b, v = .str b ∧ Q (.str b) H2 := by
  unfold okStr at p
  split at p
  · rename_i b
    have e3 : v = .str b := by have : RV L H2 m2 (.str b) v := t2; simpa only [RV] using this
    exact ⟨b, e3, p m2 H2 (.str b) s2 (by show RV L H2 m2 (.str b) _; simp only [RV])⟩
  · exact p.elim
theorem okLen_k {σ σ2 : List Sl} {τ : St} {m : Addr → Prop} {H : Hp} {Q : VK} {a : R} (p : Post L W (TR L) H σ τ m Q (okLen a σ2)) (m2 : Addr → Prop) (H2 : Hp) (v : V) (s2 : Step L σ τ m H σ2 τ m2 H2) (t2 : RR L H σ2 τ m2 H2 a v) : ∃ i, v = .int i ∧ (0 ≤ i ∧ i < 2 ^ 63) ∧ Q (.int i) H2 := by
  unfold okLen at p
  split at p
  · rename_i i
    split at p
    · rename_i hi
      have e3 : v = .int i := by have : RV L H2 m2 (.int i) v := t2; simpa only [RV] using this
      exact ⟨i, e3, hi, p m2 H2 (.int i) s2 (by show RV L H2 m2 (.int i) _; simp only [RV])⟩
    · exact p.elim
  · exact p.elim
/-- the call of a special method, j levels of C below -/
theorem spS_run (sx : SX X L P W O c) {C mm : Nat} {vs : List V} {H : Hp} {Q : VK} (h : spS L P O C mm vs H Q) (j : Nat) (hj : j ≤ 8) : ∃ f, PySem.W.findIn X.K (.ref (L.ad C)) (L.nm mm) = some (some (.ref f)) ∧ PySem.W.isFn X.K (.ref f) = true ∧ PySem.W.fnIn X.K f = true ∧ (∃ k, P.cl C = some k) ∧ ∀ (τ : St) (pins : List (Addr × Obj)) (s : Shared) (us : List Value), Inv X pins τ H s → Vals vs us → wpAny (model X.prog X.w) (inN j X.A) (call (.ref f) us) (EP X pins τ Q) X.xe s := by
  obtain ⟨f, F, h1, h2, h3⟩ := h
  have me := sx.meth C mm f h1
  refine ⟨L.ad f, me.at_, me.fn, sx.fni f F h2, ?_, fun τ pins s us I r => wpAny_call (sx.c.f2 j f F vs τ H Q _ hj h2 h3 (fun _ _ _ z => z.elim) pins s us I r)⟩
  unfold lookupAt at h1
  cases e : P.cl C with
  | none => rw [e] at h1; cases h1
  | some k => exact ⟨k, rfl⟩
theorem inst_of {pins : List (Addr × Obj)} {τ : St} {H : Hp} {s : Shared} {a C dx : Addr} {fs : List (Str × V)} (I : Inv X pins τ H s) (h : H a = some (.ins C dx fs)) : ∃ ox od, PySem.W.InstAt s.heap a ox C od ∧ ox.data = .plain := StX.insC_at I (.inr ⟨dx, fs, h⟩)
theorem inst_at {pins : List (Addr × Obj)} {τ : St} {H : Hp} {s : Shared} {a C dx : Addr} {fs : List (Str × V)} (I : Inv X pins τ H s) (h : H a = some (.ins C dx fs)) : ∃ ox od, PySem.W.InstAt s.heap a ox C od := let ⟨ox, od, J, _⟩ := inst_of I h; ⟨ox, od, J⟩
theorem nm_at (sx : SX X L P W O c) {i : Nat} {x : Str} (h : (i, x) ∈ nmT) : L.nm i = x := sx.nmj _ h
/-- a comparison's reading: by the data, or by an own method -/
def rCmp (L : Lk) (P : Prog) (O : Oc) (op : CmpOp) : R2 := fun x y H Q => (rBin L (fun a b => (cmpF op a b).map fun k => R.val (.bl k)) x y H Q) ∨
  (∃ C a dx fs b dy gs g, (op = CmpOp.Eq ∧ g = id ∨ op = CmpOp.NotEq ∧ g = not) ∧ x = V.ref a ∧ H a = some (.ins (L.ad C) dx fs) ∧ y = V.ref b ∧ H b = some (.ins (L.ad C) dy gs) ∧ spS L P O C nEq [x, y] H (fun v H' => ∃ b, v = .bl b ∧ Q (.bl (g b)) H')) ∨
  (∃ C b dy gs g, (op = CmpOp.In ∧ g = id ∨ op = CmpOp.NotIn ∧ g = not) ∧ y = V.ref b ∧ H b = some (.ins (L.ad C) dy gs) ∧ spS L P O C nContains [y, x] H (fun v H' => ∃ b, v = .bl b ∧ Q (.bl (g b)) H'))
theorem op_cmpO (sx : SX X L P W O c) (op : CmpOp) : OpR X (compareOp op) (rCmp L P O op) := by
  intro pins s σ H x y v u Q I rx ry h
  rcases h with h | ⟨C, a, dx, fs, b, dy, gs, g, hop, hx, ha, hy, hb, hsp⟩ | ⟨C, b, dy, gs, g, hop, hy, hb, hsp⟩
  · exact op_cmp sx.lo.K sx.hu op pins s σ H x y v u Q I rx ry h
  · subst hx hy
    cases rx
    cases ry
    obtain ⟨oa, od, JA⟩ := inst_at I ha
    obtain ⟨ob, od', JB⟩ := inst_at I hb
    have rr : Vals [V.ref a, V.ref b] [Value.ref a, Value.ref b] := .cons rfl (.cons rfl .nil)
    have hu := sx.hu
    rcases hop with ⟨rfl, rfl⟩ | ⟨rfl, rfl⟩
    · obtain ⟨m, hF'⟩ := I.fr
      obtain ⟨f, q1, q2, _, _, run⟩ := spS_run sx hsp 0 (by decide)
      rw [nm_at sx (i := nEq) (x := "__eq__") (by simp [nmT, nEq])] at q1
      show wpAny _ _ (richCompare .Eq (.ref a) (.ref b)) _ _ _
      refine PySem.W.cmp_K (op := .Eq) (tb := .ref (L.ad C)) (by omega) hF' I.ok.mod.kin JA JB.type (by simp [PySem.W.notFirst]) q1 q2 ?_
      refine thn (run σ pins s _ I rr) fun v s' hv => ?_
      obtain ⟨v', H', I', rv, bb, e, q⟩ := hv
      subst e
      cases rv
      exact ⟨.bl bb, H', I', rfl, q⟩
    · obtain ⟨f, q1, q2, _, ⟨k, hk⟩, run⟩ := spS_run sx hsp 1 (by decide)
      rw [nm_at sx (i := nEq) (x := "__eq__") (by simp [nmT, nEq])] at q1
      obtain ⟨q3, q4, _⟩ := sx.own0 C k hk
      show wpAny _ _ (richCompare .NotEq (.ref a) (.ref b)) _ _ _
      refine rc_ne (by omega) I.kIn JA JB.type q4 q3 q1 q2 ?_
      refine thn (run σ pins s _ I rr) fun v s' hv => ?_
      obtain ⟨v', H', I', rv, bb, e, q⟩ := hv
      subst e
      cases rv
      exact ⟨bb, rfl, .bl (!bb), H', I', rfl, q⟩
  · subst hy
    cases ry
    obtain ⟨ob, od', JB⟩ := inst_at I hb
    obtain ⟨m, hF'⟩ := I.fr
    obtain ⟨f, q1, q2, _, _, run⟩ := spS_run sx hsp 0 (by decide)
    rw [nm_at sx (i := nContains) (x := "__contains__") (by simp [nmT, nContains])] at q1
    have rr : Vals [V.ref b, x] [Value.ref b, v] := .cons rfl (.cons rx .nil)
    rcases hop with ⟨rfl, rfl⟩ | ⟨rfl, rfl⟩
    · refine PySem.W.in_K hF' I.ok.mod.kin JB q1 q2 (thn (run σ pins s _ I rr) fun v s' hv => ?_)
      obtain ⟨v', H', I', rv, bb, e, q⟩ := hv
      subst e
      cases rv
      exact wpAny_truthy_bool ⟨.bl bb, H', I', rfl, q⟩
    · refine PySem.W.notIn_K hF' I.ok.mod.kin JB q1 q2 (thn (run σ pins s _ I rr) fun v s' hv => ?_)
      obtain ⟨v', H', I', rv, bb, e, q⟩ := hv
      subst e
      cases rv
      exact wpAny_truthy_bool ⟨.bl (!bb), H', I', rfl, q⟩
theorem swap_rr {H0 : Hp} {σ : List Sl} {τ : St} {m : Addr → Prop} {H : Hp} {r q : R} {v u : V} (h : RRs L H0 σ τ m H [r, q] [v, u]) : RRs L H0 σ τ m H [q, r] [u, v] := by
  obtain ⟨v', ws, e, h1, ⟨u', ws', e', h2, h3, _⟩, h4⟩ := h
  cases e; cases e'
  refine ⟨u, [v], rfl, h2, ⟨v, [], rfl, h1, rfl, fun d _ j e ej => by simp at ej⟩, fun d ed j e ej => ?_⟩
  cases j with
  | zero =>
    simp at ej ⊢
    intro ev
    exact h4 e ej 0 d (by rw [ed]; rfl) (by rw [ev]; rfl)
  | succ j => simp at ej
theorem cmpM_sp (sx : SX X L P W O c) {σ σ1 : List Sl} {τ : St} {m m1 : Addr → Prop} {H H1 : Hp} {Q : VK} {op : CmpOp} {r q : R} {v u : V} {dx dy : D} (s : Step L σ τ m H σ1 τ m1 H1) (rr : RRs L H σ1 τ m1 H1 [r, q] [v, u]) (c1 : RC L m1 H1 dx v) (c2 : RC L m1 H1 dy u)
    (p : Post L W (TR L) H σ τ m Q (cmpM P O op r q dx dy σ1)) : rCmp L P O op v u H1 Q := by
  have dat : Post L W (TR L) H σ τ m Q (bnd (ofO (cmpF op dx dy)) (fun k => ret (.val (.bl k))) σ1) → rCmp L P O op v u H1 Q := fun p => by
    obtain ⟨k, e, p2⟩ := post_ofO p
    exact .inl ⟨m1, dx, dy, .val (.bl k), s.rel.mH, c1, c2, by show Option.map _ _ = _; rw [e]; rfl, post_made s p2⟩
  have inn : ∀ (C : Nat) (ns : List Nat) (ds : List D) (g : Bool → Bool), dy = .ins C ns ds → (op = CmpOp.In ∧ g = id ∨ op = CmpOp.NotIn ∧ g = not) → Post L W (TR L) H σ τ m Q (bnd (specN P O nContains C [q, r]) (okBool g) σ1) → rCmp L P O op v u H1 Q := by
    intro C ns ds g e hg p'
    subst e
    obtain ⟨b, dy, ys, e1', e2', _⟩ := c2.ins
    exact .inr (.inr ⟨C, b, dy, _, g, hg, e1', e2', specB_sp sx.dv s (swap_rr rr) p' fun a σ2 p2 m2 H2 v s2 t2 => okBool_k p2 m2 H2 v s2 t2⟩)
  have own : ∀ (C : Nat) (ns : List Nat) (ds : List D) (g : Bool → Bool) (ns' : List Nat) (ds' : List D), dx = .ins C ns ds → dy = .ins C ns' ds' → (op = CmpOp.Eq ∧ g = id ∨ op = CmpOp.NotEq ∧ g = not) → Post L W (TR L) H σ τ m Q (eqM P O C r q g σ1) → rCmp L P O op v u H1 Q := by
    intro C ns ds g ns' ds' e e' hg p'
    subst e
    subst e'
    obtain ⟨a, dx, xs, e1, e2, _⟩ := c1.ins
    obtain ⟨b, dy, ys, e1', e2', _⟩ := c2.ins
    exact .inr (.inl ⟨C, a, dx, _, b, dy, _, g, hg, e1, e2, e1', e2', specB_sp sx.dv s rr p' fun a σ2 p2 m2 H2 v s2 t2 => okBool_k p2 m2 H2 v s2 t2⟩)
  unfold cmpM at p
  split at p
  · split at p
    · rename_i hC; subst hC; exact own _ _ _ _ _ _ rfl rfl (.inl ⟨rfl, rfl⟩) p
    · exact p.elim
  · split at p
    · rename_i hC; subst hC; exact own _ _ _ _ _ _ rfl rfl (.inr ⟨rfl, rfl⟩) p
    · exact p.elim
  · exact inn _ _ _ _ rfl (.inl ⟨rfl, rfl⟩) p
  · exact inn _ _ _ _ rfl (.inr ⟨rfl, rfl⟩) p
  · exact dat p
/-- an operation's reading -/
def rBinO (L : Lk) (P : Prog) (O : Oc) (op : Operator) : R2 := fun x y H Q => rBinR L op x y H Q ∨ (∃ C a dx fs b dy gs, op = .Add ∧ x = V.ref a ∧ H a = some (.ins (L.ad C) dx fs) ∧ y = V.ref b ∧ H b = some (.ins (L.ad C) dy gs) ∧ spS L P O C nAdd [x, y] H Q)
theorem op_binO (sx : SX X L P W O c) (op : Operator) : OpR X (binaryOp op) (rBinO L P O op) := by
  intro pins s σ H x y v u Q I rx ry h
  rcases h with h | ⟨C, a, dx, fs, b, dy, gs, hop, hx, ha, hy, hb, hsp⟩
  · exact op_binR sx.lo.K op pins s σ H x y v u Q I rx ry h
  · subst hop hx hy
    cases rx
    cases ry
    obtain ⟨oa, od, JA⟩ := inst_at I ha
    obtain ⟨ob, od', JB⟩ := inst_at I hb
    obtain ⟨m, hF'⟩ := I.fr
    obtain ⟨f, q1, q2, _, ⟨k, hk⟩, run⟩ := spS_run sx hsp 0 (by decide)
    rw [nm_at sx (i := nAdd) (x := "__add__") (by simp [nmT, nAdd])] at q1
    refine PySem.W.binop_K hF' I.ok.mod.kin JA JB.type (sx.own0 C k hk).2.2.1 q1 q2 (thn (run σ pins s _ I (.cons rfl (.cons rfl .nil))) fun v s' hv => ?_)
    obtain ⟨v', H', I', rv, q⟩ := hv
    have fin : EP X pins σ Q v s' := ⟨v', H', I', rv, q⟩
    have hne : v ≠ .notImplemented := by
      rintro rfl
      cases v' <;> first | (obtain ⟨_, e⟩ := rv; cases e; done) | (cases rv; done)
    cases v <;> first | exact fin | exact absurd rfl hne
theorem binM_sp (sx : SX X L P W O c) {σ σ1 : List Sl} {τ : St} {m m1 : Addr → Prop} {H H1 : Hp} {Q : VK} {op : Operator} {r q : R} {v u : V} {dx dy : D} (s : Step L σ τ m H σ1 τ m1 H1) (rr : RRs L H σ1 τ m1 H1 [r, q] [v, u]) (c1 : RC L m1 H1 dx v) (c2 : RC L m1 H1 dy u)
    (p : Post L W (TR L) H σ τ m Q (binM P O op r q dx dy σ1)) : rBinO L P O op v u H1 Q := by
  unfold binM at p
  split at p
  · split at p
    · rename_i hC
      subst hC
      obtain ⟨a, dx, xs, e1, e2, _⟩ := c1.ins
      obtain ⟨b, dy, ys, e1', e2', _⟩ := c2.ins
      exact .inr ⟨_, a, dx, _, b, dy, _, rfl, e1, e2, e1', e2', specN_sp sx.dv s rr p⟩
    · exact p.elim
  · obtain ⟨z, e, p5⟩ := post_ofO1 p
    obtain ⟨v', ws, e', h1, _⟩ := rr
    cases e'
    exact .inl ⟨m1, _, σ1, τ, r, dx, dy, z, s.rel, h1, c1, c2, e, post_made s p5⟩
theorem pe_bin (sx : SX X L P W O c) {a b : Expr} {x y : E} {op : Operator} {pos : Pos} (ha : PE X a (tE L W (ev P O x))) (hb : PE X b (tE L W (ev P O y))) : PE X (.BinOp a op b pos) (tE L W (ev P O (.bin op x y))) :=
  (pe_op (op_binO sx op) ha hb).mono fun τ H Q q => by
    obtain ⟨m, σ, rl, p⟩ := q
    simp only [ev] at p
    refine post_bnd0 rl p fun r σ1 m1 H1 v s1 t1 p1 => ?_
    refine post_bnd s1 p1 fun q σ2 m2 H2 u s2 s2' t2 p2 => ?_
    have t1' := RR.step s1.rel s2 t1
    obtain ⟨dx, c1, p3⟩ := post_der s2.rel t1' p2
    obtain ⟨dy, c2, p4⟩ := post_der s2.rel t2 p3
    exact binM_sp sx s2' (two_rr s1 t1 s2 t2) c1 c2 p4
theorem pe_cmp' (sx : SX X L P W O c) {a b : Expr} {x y : E} {op : CmpOp} {pos : Pos} (ha : PE X a (tE L W (ev P O x))) (hb : PE X b (tE L W (ev P O y))) (hm : behindInMarks op b = false) :
    PE X (.Compare a [op] [b] pos) (tE L W (ev P O (.cmp op x y))) :=
  (pe_cmpR (op_cmpO sx op) ha hb hm).mono fun τ H Q q => by
    obtain ⟨m, σ, rl, p⟩ := q
    simp only [ev] at p
    refine post_bnd0 rl p fun r σ1 m1 H1 v s1 t1 p1 => ?_
    refine post_bnd s1 p1 fun q σ2 m2 H2 u s2 s2' t2 p2 => ?_
    obtain ⟨dx, c1, p3⟩ := post_der s2.rel (RR.step s1.rel s2 t1) p2
    obtain ⟨dy, c2, p4⟩ := post_der s2.rel t2 p3
    exact cmpM_sp sx s2' (two_rr s1 t1 s2 t2) c1 c2 p4
theorem post_test {σ σ1 : List Sl} {τ : St} {m : Addr → Prop} {H : Hp} {Q : Bool → Hp → Prop} {f : M R} (h : Post L W TB H σ τ m Q (bnd f (fun z => match z with
    | .val (.bl k) => ret k
    | _ => stuck) σ1)) : Post L W (TR L) H σ τ m (fun z H' => ∃ k, z = .bl k ∧ Q k H') (f σ1) := by
  unfold bnd at h
  cases e : f σ1 with
  | fail => rw [e] at h; exact h
  | exc x σ2 => rw [e] at h; exact h
  | ok z σ2 =>
    rw [e] at h
    intro m2 H2 v s t
    cases z with
    | tmp d => exact h.elim
    | bor i => exact h.elim
    | val d =>
      cases d with
      | bl k =>
        have e3 : v = .bl k := by have : RV L H2 m2 (.bl k) v := t; simpa only [RV] using this
        exact ⟨k, e3, h m2 H2 k s rfl⟩
      | _ => exact h.elim
theorem post_frz {σ σ1 : List Sl} {τ : St} {m m1 : Addr → Prop} {H H1 : Hp} {γ δ : Type} {T2 : TL γ δ} {Q : δ → Hp → Prop} {r : R} {v : V} {g : D → M γ} (s : Step L σ τ m H σ1 τ m1 H1) (t : RR L H σ1 τ m1 H1 r v) (h : Post L W T2 H σ τ m Q (bnd (frz r) g σ1)) :
    ∃ d σ2 m2, Step L σ τ m H σ2 τ m2 H1 ∧ RV L H1 m2 d v ∧ Post L W T2 H σ τ m Q (g d σ2) := by
  unfold bnd at h
  cases e : frz r σ1 with
  | fail => rw [e] at h; exact h.elim
  | exc x σ2 =>
    unfold frz at e
    cases r with
    | val d => cases e
    | tmp d => cases e
    | bor i =>
      dsimp only at e
      split at e <;> cases e
  | ok d σ2 =>
    rw [e] at h
    obtain ⟨m2, s2, rv, _⟩ := frz_ok s t e
    exact ⟨d, σ2, m2, s2, rv, h⟩
theorem pt_cmp' (sx : SX X L P W O c) {a b : Expr} {x y : E} {op : CmpOp} {pos : Pos} (ha : PE X a (tE L W (ev P O x))) (hb : PE X b (tE L W (ev P O y))) (hm : behindInMarks op b = false) :
    PT X (.Compare a [op] [b] pos) (tT L W (evT P O (.tc op x y))) :=
  (pt_cmpR (op_cmpO sx op) ha hb hm).mono fun τ H Q q => by
    obtain ⟨m, σ, rl, p⟩ := q
    simp only [evT] at p
    refine post_bnd0 rl p fun r σ1 m1 H1 v s1 t1 p1 => ?_
    refine post_bnd s1 p1 fun q σ2 m2 H2 u s2 s2' t2 p2 => ?_
    obtain ⟨dx, c1, p3⟩ := post_der s2.rel (RR.step s1.rel s2 t1) p2
    obtain ⟨dy, c2, p4⟩ := post_der s2.rel t2 p3
    exact cmpM_sp sx s2' (two_rr s1 t1 s2 t2) c1 c2 (post_test p4)
theorem pt_tr (sx : SX X L P W O c) {a : Expr} {x : E} (ha : PE X a (tE L W (ev P O x))) (he : ∀ whole, isTrue a X.env whole = (do let v ← whole; standAt a.pos; holding [v] (truthy v))) : PT X a (tT L W (evT P O (.tr x))) :=
  (pt_truth ha he).mono fun τ H Q q => by
    obtain ⟨m, σ, rl, p⟩ := q
    simp only [evT] at p
    refine post_bnd0 rl p fun r σ1 m1 H1 v s1 t1 p1 => ?_
    obtain ⟨dx, c1, p3⟩ := post_der s1.rel t1 p1
    obtain ⟨k, e, p4⟩ := post_ofO1 p3
    exact ⟨k, tru_d sx.lo.K c1 e, p4 m1 H1 k s1 rfl⟩
theorem pe_not' (sx : SX X L P W O c) {a : Expr} {x : E} {pos : Pos} (ha : PE X a (tE L W (ev P O x))) : PE X (.UnaryOp .Not a pos) (tE L W (ev P O (.not x))) :=
  (pe_notT ha).mono fun τ H Q q => by
    obtain ⟨m, σ, rl, p⟩ := q
    simp only [ev] at p
    refine post_bnd0 rl p fun r σ1 m1 H1 v s1 t1 p1 => ?_
    obtain ⟨dx, c1, p3⟩ := post_der s1.rel t1 p1
    obtain ⟨k, e, p4⟩ := post_ofO p3
    exact ⟨k, tru_d sx.lo.K c1 e, post_made s1 p4 _ _ (Made.bl _)⟩
theorem pt_tn (sx : SX X L P W O c) {a : Expr} {x : E} {pos : Pos} (ha : PT X a (tT L W (evT P O x))) : PT X (.UnaryOp .Not a pos) (tT L W (evT P O (.tn x))) :=
  (pt_not ha).mono fun τ H Q q => by
    obtain ⟨m, σ, rl, p⟩ := q
    simp only [evT] at p
    refine post_bnd0 rl p fun k σ1 m1 H1 v s1 t1 p1 => ?_
    have e : k = v := t1
    subst e
    exact p1 m1 H1 _ s1 rfl
theorem pe_and' (sx : SX X L P W O c) {a b : Expr} {rest : List Expr} {x y : E} {pos : Pos} (ha : PE X a (tE L W (ev P O x))) (hb : PE X (.BoolOp .And (b :: rest) pos) (tE L W (ev P O y))) : PE X (.BoolOp .And (a :: b :: rest) pos) (tE L W (ev P O (.and x y))) :=
  (pe_andT ha hb).mono fun τ H Q q => by
    obtain ⟨m, σ, rl, p⟩ := q
    simp only [ev] at p
    refine post_bnd0 rl p fun r σ1 m1 H1 v s1 t1 p1 => ?_
    obtain ⟨dx, c1, p3⟩ := post_der s1.rel t1 p1
    obtain ⟨k, e, p4⟩ := post_ofO p3
    refine ⟨k, tru_d sx.lo.K c1 e, ?_⟩
    cases k with
    | true => exact post_tail el_R s1 p4
    | false => exact p4 m1 H1 v s1 t1
theorem pe_or' (sx : SX X L P W O c) {a b : Expr} {rest : List Expr} {x y : E} {pos : Pos} (ha : PE X a (tE L W (ev P O x))) (hb : PE X (.BoolOp .Or (b :: rest) pos) (tE L W (ev P O y))) : PE X (.BoolOp .Or (a :: b :: rest) pos) (tE L W (ev P O (.or x y))) :=
  (pe_orT ha hb).mono fun τ H Q q => by
    obtain ⟨m, σ, rl, p⟩ := q
    simp only [ev] at p
    refine post_bnd0 rl p fun r σ1 m1 H1 v s1 t1 p1 => ?_
    obtain ⟨dx, c1, p3⟩ := post_der s1.rel t1 p1
    obtain ⟨k, e, p4⟩ := post_ofO p3
    refine ⟨k, tru_d sx.lo.K c1 e, ?_⟩
    cases k with
    | true => exact p4 m1 H1 v s1 t1
    | false => exact post_tail el_R s1 p4
theorem pw_and' (sx : SX X L P W O c) {a b : Expr} {rest : List Expr} {x y : E} {pos : Pos} (ha : PT X a (tT L W (evT P O x))) (hb : PW X (.BoolOp .And (b :: rest) pos) (tT L W (evT P O y))) : PW X (.BoolOp .And (a :: b :: rest) pos) (tT L W (evT P O (.ta x y))) :=
  (pw_and ha hb).mono fun τ H Q q => by
    obtain ⟨m, σ, rl, p⟩ := q
    simp only [evT] at p
    refine post_bnd0 rl p fun k σ1 m1 H1 v s1 t1 p1 => ?_
    have e : k = v := t1
    subst e
    cases k with
    | true => exact post_tail el_B s1 p1
    | false => exact p1 m1 H1 _ s1 rfl
theorem pw_or' (sx : SX X L P W O c) {a b : Expr} {rest : List Expr} {x y : E} {pos : Pos} (ha : PT X a (tT L W (evT P O x))) (hb : PW X (.BoolOp .Or (b :: rest) pos) (tT L W (evT P O y))) : PW X (.BoolOp .Or (a :: b :: rest) pos) (tT L W (evT P O (.to x y))) :=
  (pw_or ha hb).mono fun τ H Q q => by
    obtain ⟨m, σ, rl, p⟩ := q
    simp only [evT] at p
    refine post_bnd0 rl p fun k σ1 m1 H1 v s1 t1 p1 => ?_
    have e : k = v := t1
    subst e
    cases k with
    | true => exact p1 m1 H1 _ s1 rfl
    | false => exact post_tail el_B s1 p1
/-- arguments -/
theorem pa_nil' : PA X [] (tA L W (evA P O .nil)) := (pa_nil (X := X)).mono fun τ H Q q => by
  obtain ⟨m, σ, rl, p⟩ := q
  exact p m H [] (Step.refl rl) rfl
theorem pa_arg {e : Expr} {es : List Expr} {x y : E} (ha : PE X e (tE L W (ev P O x))) (hr : PA X es (tA L W (evA P O y))) (hs : isStar e = false) : PA X (e :: es) (tA L W (evA P O (.arg x y))) :=
  (pa_cons ha hr (by cases e <;> first | rfl | (simp [isStar] at hs))).mono fun τ H Q q => by
    obtain ⟨m, σ, rl, p⟩ := q
    simp only [evA] at p
    refine post_bnd0 rl p fun r σ1 m1 H1 v s1 t1 p1 => ?_
    refine post_bnd s1 p1 fun rs σ2 m2 H2 vs s2 s2' t2 p2 => ?_
    refine p2 m2 H2 (v :: vs) s2' (RRs.cons (RR.step s1.rel s2 t1) t2 s1.dom fun d a e1 e2 z => ?_)
    subst e1
    obtain ⟨b, e3, _, _, _, h3⟩ := t1
    rw [e2] at e3; cases e3
    obtain ⟨o, ho⟩ := h3.there
    rw [z] at ho; cases ho
/-- the parts of a display -/
theorem pd_nil : PA X [] (tDs L W (evD P O .nil)) := (pa_nil (X := X)).mono fun τ H Q q => by
  obtain ⟨m, σ, rl, p⟩ := q
  exact p m H [] (Step.refl rl) .nil
theorem pd_arg {e : Expr} {es : List Expr} {x y : E} (ha : PE X e (tE L W (ev P O x))) (hr : PA X es (tDs L W (evD P O y))) (hs : isStar e = false) : PA X (e :: es) (tDs L W (evD P O (.arg x y))) :=
  (pa_cons ha hr (by cases e <;> first | rfl | (simp [isStar] at hs))).mono fun τ H Q q => by
    obtain ⟨m, σ, rl, p⟩ := q
    simp only [evD] at p
    refine post_bnd0 rl p fun r σ1 m1 H1 v s1 t1 p1 => ?_
    obtain ⟨d, σ2, m2, s2, rv, p2⟩ := post_frz s1 t1 p1
    refine post_bnd s2 p2 fun ds σ3 m3 H3 vs s3 s3' t3 p3 => ?_
    exact p3 m3 H3 (v :: vs) s3' (.cons (RV.mono (s3.kp s2.rel) _ _ rv) t3)
theorem itemsQ_seq (ok : X.K = L.K) {m : Addr → Prop} {H : Hp} {d : D} {v : V} {xs : List D} (c1 : RC L m H d v) (e : itemsQ d = some xs) : ∃ p ys, v = V.ref p ∧ (SqT X.K H p ys ∨ SqL X.K H p ys) ∧ RVs L H m xs ys := by
  cases d with
  | tup ds => simp only [itemsQ] at e; cases e; obtain ⟨a, ys, e1, q1, r1⟩ := c1.tup; exact ⟨a, ys, e1, .inl (by rw [ok]; exact q1), r1⟩
  | lst ds => simp only [itemsQ] at e; cases e; obtain ⟨a, ys, e1, q1, r1⟩ := c1.lst; exact ⟨a, ys, e1, .inr (by rw [ok]; exact q1), r1⟩
  | _ => simp only [itemsQ] at e; cases e
theorem pe_ife (sx : SX X L P W O c) {t a b : Expr} {x y z : E} {pos : Pos} (ht : PT X t (tT L W (evT P O z))) (ha : PE X a (tE L W (ev P O x))) (hb : PE X b (tE L W (ev P O y))) : PE X (.IfExp t a b pos) (tE L W (ev P O (.ife z x y))) :=
  (pe_ifExp ht ha hb).mono fun τ H Q q => by
    obtain ⟨m, σ, rl, p⟩ := q
    simp only [ev] at p
    refine post_bnd0 (T := TB) rl p fun k σ1 m1 H1 v s1 t1 p1 => ?_
    have e : k = v := t1
    subst e
    cases k with
    | true => exact post_tail el_R s1 p1
    | false => exact post_tail el_R s1 p1
end
end EV

set_option Elab.async false
set_option linter.all false
set_option maxRecDepth 100000
set_option maxHeartbeats 4000000
/-! ### calls, displays, subscripts, attributes -/
namespace EV
open PySem L2
section
variable {X : Cx} {L : Lk} {P : Prog} {W : WX} {O : Oc} {c : CC}

theorem star_cons {e : Expr} {es : List Expr} (h : isStar e = false) (env : Env) : starEach (e :: es) env = (false, eval e env) :: starEach es env := by
  cases e <;> first | rfl | (simp [isStar] at h)
theorem noStar_cons {e : Expr} {es : List Expr} (h : noStar (e :: es) = true) : isStar e = false ∧ noStar es = true := by
  unfold noStar at h ⊢
  simp only [List.all_cons, Bool.and_eq_true, Bool.not_eq_true'] at h
  exact h
theorem no_any {env : Env} {pos : Pos} : ∀ {es : List Expr}, noStar es = true → (backTo pos (starEach es env)).any (·.1) = false
  | [], _ => rfl
  | e :: es, h => by
    obtain ⟨h1, h2⟩ := noStar_cons h
    rw [star_cons h1]
    have := no_any (env := env) (pos := pos) h2
    unfold backTo at this ⊢
    rw [List.map_cons, List.any_cons, this]
    rfl
theorem bnd_assoc {α β γ : Type} (f : M α) (g : α → M β) (h : β → M γ) : bnd (bnd f g) h = bnd f fun a => bnd (g a) h := by
  funext σ
  unfold bnd
  cases f σ <;> rfl
/-- the values of the arguments -/
theorem post_ders {σ σ1 : List Sl} {τ : St} {m m1 : Addr → Prop} {H H1 : Hp} {γ δ : Type} {T2 : TL γ δ} {Q : δ → Hp → Prop} {H0 : Hp} (rl : Rel L m1 H1 σ1 τ) : ∀ {rs : List R} {vs : List V} {g : List D → M γ}, RRs L H0 σ1 τ m1 H1 rs vs → Post L W T2 H σ τ m Q (bnd (ders rs) g σ1) →
    ∃ ds, Paired (RC L m1 H1) ds vs ∧ Post L W T2 H σ τ m Q (g ds σ1)
  | [], vs, g, h, p => by
    rw [show vs = [] from h]
    exact ⟨[], .nil, p⟩
  | r :: rs, vs, g, h, p => by
    obtain ⟨v, ws, e, h1, h2, _⟩ := h
    subst e
    have p' : Post L W T2 H σ τ m Q (bnd (der r) (fun d => bnd (ders rs) fun ds => g (d :: ds)) σ1) := by
      have e : bnd (ders (r :: rs)) g = bnd (der r) (fun d => bnd (ders rs) fun ds => g (d :: ds)) := by
        show bnd (bnd (der r) fun d => bnd (ders rs) fun ds => ret (d :: ds)) g = _
        rw [bnd_assoc]
        congr 1
        funext d
        rw [bnd_assoc]
        congr 1
      rw [← e]; exact p
    obtain ⟨d, c1, p1⟩ := post_der rl h1 p'
    obtain ⟨ds, c2, p2⟩ := post_ders rl h2 p1
    exact ⟨d :: ds, .cons c1 c2, p2⟩
/-- a built-in function's reading: by the data, or by an instance's own method -/
def rBiO (L : Lk) (P : Prog) (O : Oc) (f : Bi) : List V → Hp → VK → Prop := fun xs H Q => rMany L (biF P f) xs H Q ∨ ∃ C a dx fs, xs = [V.ref a] ∧ H a = some (.ins (L.ad C) dx fs) ∧
  ((f = .len ∧ spS L P O C nLen xs H (fun v H' => ∃ i, v = .int i ∧ (0 ≤ i ∧ i < 2 ^ 63) ∧ Q (.int i) H')) ∨ (f = .str ∧ spS L P O C nStr xs H (fun v H' => ∃ t, v = .str t ∧ Q (.str t) H')) ∨ (f = .repr ∧ spS L P O C nRepr xs H (fun v H' => ∃ t, v = .str t ∧ Q (.str t) H')))
theorem cr_biO (sx : SX X L P W O c) (f : Bi) : CallR X (biV f) (rBiO L P O f) := by
  intro pins s σ H xs us Q I rx h
  rcases h with h | ⟨C, a, dx, fs, hx, ha, h⟩
  · exact cr_bi sx.lo sx.calm sx.gu sx.hu f pins s σ H xs us Q I rx h
  · subst hx
    have rx' := rx
    cases rx with
    | cons r t =>
      cases t
      cases r
      obtain ⟨oa, od, JA⟩ := inst_at I ha
      obtain ⟨m, hF'⟩ := I.fr
      have hu := sx.hu
      rcases h with ⟨rfl, h⟩ | ⟨rfl, h⟩ | ⟨rfl, h⟩
      · obtain ⟨f, q1, q2, _, _, run⟩ := spS_run sx h 1 (by decide)
        rw [nm_at sx (i := nLen) (x := "__len__") (by simp [nmT, nLen])] at q1
        refine PySem.W.len_K hF' I.ok.mod.kin JA q1 q2 (thn (run σ pins s _ I rx') fun v s' hv => ?_)
        obtain ⟨v', H', I', rv, i, e, hi, q⟩ := hv
        subst e
        obtain ⟨t, rfl⟩ := rv
        exact ⟨hi, .int i, H', I'.tok _, ⟨_, rfl⟩, q⟩
      · obtain ⟨f, q1, q2, _, _, run⟩ := spS_run sx h 2 (by decide)
        rw [nm_at sx (i := nStr) (x := "__str__") (by simp [nmT, nStr])] at q1
        refine PySem.W.kso_call (by show X.A.units + 1 + 1 < _; omega) I.kIn JA q1 q2 (thn (run σ pins s _ I rx') fun v s' hv => ?_)
        obtain ⟨v', H', I', rv, i, e, q⟩ := hv
        subst e
        obtain ⟨t, rfl⟩ := rv
        exact ⟨.str i, H', I', ⟨_, rfl⟩, q⟩
      · obtain ⟨f, q1, q2, _, _, run⟩ := spS_run sx h 1 (by decide)
        rw [nm_at sx (i := nRepr) (x := "__repr__") (by simp [nmT, nRepr])] at q1
        refine PySem.W.repr_K (by show X.A.units + 1 < _; omega) hF' I.ok.mod.kin JA q1 q2 (thn (run σ pins s _ I rx') fun v s' hv => ?_)
        obtain ⟨v', H', I', rv, i, e, q⟩ := hv
        subst e
        obtain ⟨t, rfl⟩ := rv
        exact ⟨.str i, H', I', ⟨_, rfl⟩, q⟩
theorem biM_sp (sx : SX X L P W O c) {σ σ1 : List Sl} {τ : St} {m m1 : Addr → Prop} {H H1 : Hp} {Q : VK} {f : Bi} {rs : List R} {vs : List V} {ds : List D} (s : Step L σ τ m H σ1 τ m1 H1) (rr : RRs L H σ1 τ m1 H1 rs vs) (c1 : Paired (RC L m1 H1) ds vs)
    (p : Post L W (TR L) H σ τ m Q (biM P O f rs ds σ1)) : rBiO L P O f vs H1 Q := by
  unfold biM at p
  split at p
  · obtain ⟨y, rfl, c2⟩ := pair1 c1
    obtain ⟨a, dx, xs, e1, e2, _⟩ := c2.ins
    subst e1
    exact .inr ⟨_, a, dx, _, rfl, e2, .inl ⟨rfl, specB_sp sx.dv s rr p fun a σ2 p2 m2 H2 v s2 t2 => okLen_k p2 m2 H2 v s2 t2⟩⟩
  · obtain ⟨y, rfl, c2⟩ := pair1 c1
    obtain ⟨a, dx, xs, e1, e2, _⟩ := c2.ins
    subst e1
    exact .inr ⟨_, a, dx, _, rfl, e2, .inr (.inl ⟨rfl, specB_sp sx.dv s rr p fun a σ2 p2 m2 H2 v s2 t2 => okStr_k p2 m2 H2 v s2 t2⟩)⟩
  · obtain ⟨y, rfl, c2⟩ := pair1 c1
    obtain ⟨a, dx, xs, e1, e2, _⟩ := c2.ins
    subst e1
    exact .inr ⟨_, a, dx, _, rfl, e2, .inr (.inr ⟨rfl, specB_sp sx.dv s rr p fun a σ2 p2 m2 H2 v s2 t2 => okStr_k p2 m2 H2 v s2 t2⟩)⟩
  · obtain ⟨z, e, p3⟩ := post_ofO1 p
    exact .inl ⟨m1, ds, z, s.rel.mH, c1, e, post_made s p3⟩
theorem pe_bi (sx : SX X L P W O c) {x : Str} {f : Bi} {es : List Expr} {a : E} {p pos : Pos} (hg : isGlb c x = true) (hp : plainN x = true) (hk : x = biN f ∧ X.mg x = none) (hs : noStar es = true) (ha : PA X es (tA L W (evA P O a))) (hn : es = [] → a = .nil) :
    PE X (.Call (.Name x p) es [] pos) (tE L W (ev P O (.bi f a))) := by
  obtain ⟨ex, hm⟩ := hk
  obtain ⟨p1, p2, p3⟩ := plain_of hp
  have go : ∀ τ H Q, tE L W (ev P O (.bi f a)) τ H Q → tA L W (evA P O a) τ H fun vs H1 => rBiO L P O f vs H1 Q := fun τ H Q q => by
    obtain ⟨m, σ, rl, p⟩ := q
    simp only [ev] at p
    refine post_bnd0 rl p fun rs σ1 m1 H1 vs s1 t1 p1 => ?_
    obtain ⟨ds, c1, p2⟩ := post_ders s1.rel t1 p1
    exact biM_sp sx s1 t1 c1 p2
  cases es with
  | nil =>
    rw [hn rfl]
    refine pe_bad fun σ => ?_
    have e : biM P O f [] [] σ = .fail := by cases f <;> rfl
    simp only [ev, evA, bnd, ret, ders, e]
  | cons e es =>
    obtain ⟨h1, h2⟩ := noStar_cons hs
    have cr := cr_biO sx f
    have hv := boot_bi f
    rw [← ex] at hv
    cases f <;> first
      | exact (pe_callB cr (gl_of sx hg) hm hv ha p3 p1 (star_cons h1 _) (no_any h2)).mono go
      | exact (pe_callTy cr (gl_of sx hg) hm hv ha p3 p1 (star_cons h1 _) (no_any h2)).mono go
theorem RRs.vals {H0 : Hp} {σ : List Sl} {τ : St} {m : Addr → Prop} {H : Hp} {rs : List R} {ys : List V} (rr : RRs L H0 σ τ m H rs ys) : ∀ {ds : List D} {xs : List V}, RVs L H m ds xs → RRs L H0 σ τ m H (ds.map R.val ++ rs) (xs ++ ys)
  | [], xs, h => by simp only [RVs] at h; rw [h]; exact rr
  | d :: ds, xs, h => by
    simp only [RVs] at h
    obtain ⟨v, r, e, h1, h2⟩ := h
    rw [e]
    exact ⟨v, r ++ ys, rfl, h1, RRs.vals rr h2, fun d' ed => by cases ed⟩
theorem star_imp (sx : SX X L P W O c) {x y : E} {τ : St} {H : Hp} {Q : List V → Hp → Prop} (q : tA L W (evA P O (.star x y)) τ H Q) : StX.tStar X.K (tE L W (ev P O x)) (tA L W (evA P O y)) τ H Q := by
  obtain ⟨m, σ, rl, p⟩ := q
  simp only [evA] at p
  refine post_bnd0 rl p fun r σ1 m1 H1 v s1 t1 p1 => ?_
  obtain ⟨d, c1, p2⟩ := post_der s1.rel t1 p1
  obtain ⟨xs, e1, p3⟩ := post_ofO p2
  obtain ⟨a, ys, e2, q2, r2⟩ := itemsQ_seq sx.lo.K c1 e1
  refine ⟨a, ys, e2, q2, ?_⟩
  refine post_bnd s1 p3 fun ds σ3 m3 H3 vs s3 s3' t3 p4 => ?_
  exact p4 m3 H3 (ys ++ vs) s3' (RRs.vals (t3.elder s1.dom) (RVs.mono (s3.kp s1.rel) _ _ r2))
theorem pa_starE (sx : SX X L P W O c) {e : Expr} {es : List Expr} {x y : E} {p : Pos} (ha : PE X e (tE L W (ev P O x))) (hr : PA X es (tA L W (evA P O y))) : PA X (.Starred e p :: es) (tA L W (evA P O (.star x y))) :=
  (StX.pa_star ha hr).mono fun τ H Q q => star_imp sx q
/-- arguments as a call takes them -/
def ArgsOk (X : Cx) (es : List Expr) (t : TA) : Prop := ∀ (g : Addr), PySem.W.keepIn X.K (.ref g) = true → ∀ (pos : Pos) (pins : List (Addr × Obj)) (s : Shared) (τ : St) (H : Hp) (K : List V → Hp → Prop) (Q : Value → Shared → Prop), Inv X pins τ H s → t τ H K →
  (∀ us vs s1 H1, Inv X pins τ H1 s1 → Vals vs us → K vs H1 → wpAny (model X.prog X.w) X.A (call (.ref g) us) Q X.xe s1) → wpAny (model X.prog X.w) X.A (callWith pos (.ref g) [] (backTo pos (starEach es X.env)) []) Q X.xe s
theorem nil_args {τ : St} {H : Hp} {K : List V → Hp → Prop} (h : tA L W (evA P O .nil) τ H K) : K [] H := by
  obtain ⟨m, σ, rl, p⟩ := h
  exact p m H [] (Step.refl rl) rfl
theorem args_nil : ArgsOk X [] (tA L W (evA P O .nil)) := fun g hk pos pins s τ H K Q I q k => PySem.W.callWith_K0 I.kIn hk (k [] [] s H I .nil (nil_args q))
theorem args_cons {e : Expr} {es : List Expr} {t : TA} (h1 : isStar e = false) (ha : PA X (e :: es) t) : ArgsOk X (e :: es) t := fun g hk pos pins s τ H K Q I q k => by
  have run : wpAny (model X.prog X.w) X.A (spliced (backTo pos (starEach (e :: es) X.env))) (fun us s₁ => X.K.In s₁.heap ∧ wpAny (model X.prog X.w) X.A (call (.ref g) ([] ++ us)) Q X.xe s₁) X.xe s :=
    thn (ha.run pos pins s τ H _ I q) fun us s1 ⟨vs, H1, I1, r, q1⟩ => ⟨I1.kIn, k us vs s1 H1 I1 r q1⟩
  cases hst : (backTo pos (starEach es X.env)).any (·.1) with
  | false => exact PySem.W.callWith_K (h₀ := X.base) I.ok.mod.kin hk run (star_cons h1 _) hst
  | true => exact PySem.W.callWith_S2 (h₀ := X.base) I.ok.mod.kin hk run (star_cons h1 _) hst
theorem args_star (sx : SX X L P W O c) {e : Expr} {x : E} {p : Pos} (ha : PE X e (tE L W (ev P O x))) : ArgsOk X [.Starred e p] (tA L W (evA P O (.star x .nil))) := fun g hk pos pins s τ H K Q I q k => by
  refine PySem.W.callWith_S (h₀ := X.base) I.ok.mod.kin hk (thn (ha.run pins s τ H _ I (star_imp sx q)) fun v s1 ⟨y, H1, I1, ry, a, xs, ey, hxs, q⟩ => ?_)
  subst ey
  obtain rfl : v = Value.ref a := ry
  refine StX.star_any I1 hxs fun us s2 I2 rv => ⟨I2.kIn, k us xs s2 H1 I2 rv ?_⟩
  have := nil_args q
  rwa [List.append_nil] at this
theorem call_any (sx : SX X L P W O c) {x : Str} {g : Addr} {es : List Expr} {t : TA} {p pos : Pos} (hg : isGlb c x = true) (hp : plainN x = true) (hm : X.mg x = some (.ref g)) (hk : PySem.W.keepIn X.K (.ref g) = true) (ha : ArgsOk X es t) :
    PE X (.Call (.Name x p) es [] pos) (fun τ H Q => t τ H fun vs H1 => CallV X g vs τ H1 Q) := by
  obtain ⟨p1, p2, p3⟩ := plain_of hp
  refine ⟨fun pins s τ H Q I q => ?_⟩
  exact wpAny_Call_Name_kw (ld_glob I (gl_of sx hg) hm (ha g hk pos pins s τ H _ _ I q fun us vs s1 H1 I1 r k => wpAny_call (k pins s1 us I1 r)) p1)
theorem pe_call' (sx : SX X L P W O c) {x : Str} {f : Nat} {es : List Expr} {a : E} {p pos : Pos} (hg : isGlb c x = true) (hp : plainN x = true) (hk : c.kd x = some (.fn f)) (ha : ArgsOk X es (tA L W (evA P O a))) :
    PE X (.Call (.Name x p) es [] pos) (tE L W (ev P O (.call f a))) := by
  refine (call_any sx hg hp (sx.fn x f hk).1 (sx.fn x f hk).2 ha).mono fun τ H Q q => ?_
  obtain ⟨m, σ, rl, p⟩ := q
  simp only [ev] at p
  refine post_bnd0 rl p fun rs σ1 m1 H1 vs s1 t1 p1 => ?_
  obtain ⟨F', h1, h2⟩ := callF_sp sx.dv s1 t1 p1
  exact sx.c.f1 f F' vs τ H1 Q h1 h2
theorem grow2 {H : Hp} {x dx : Addr} {o u : HO} (h1 : H x = none) (h2 : H dx = none) : Grow H (upd (upd H dx o) x u) := fun a q e => by
  rw [upd_ne (ne_of_none e h1), upd_ne (ne_of_none e h2)]; exact e
/-- a new instance, all its arguments there, as a promise of its __init__ -/
theorem mkP_sp {C f : Nat} {F : Fn} (dv : ∀ H m, RVs L H m F.dfl (L.dv f)) {σ σ1 : List Sl} {τ : St} {m m1 : Addr → Prop} {H H1 : Hp} {Q : VK} {rs : List R} {vs : List V} (s : Step L σ τ m H σ1 τ m1 H1) (rr : RRs L H σ1 τ m1 H1 rs vs)
    (h : Post L W (TR L) H σ τ m Q (mkP O.c2 C f F rs σ1)) : vs.length + 1 ≤ F.np ∧ F.np - (vs.length + 1) ≤ F.dfl.length ∧ ∀ x dx, H1 x = none → H1 dx = none → dx ≠ x → spN L O.c2 f (fun cls d H' => W cls d τ H') (.ref x :: vs ++ dvAt L F f (vs.length + 1)) (upd (upd H1 dx (.own x)) x (.ins (L.ad C) dx [])) (fun v H2 => v = .non ∧ Q (.ref x) H2) := by
  unfold mkP at h
  cases eA : toSls σ1 rs with
  | none => rw [eA] at h; exact h.elim
  | some as =>
    rw [eA] at h
    dsimp only at h
    split at h
    · rename_i nd
      unfold params at h
      have la := toSls_len eA
      have lv := rr.length
      split at h
      · rename_i ps e
        split at e
        · rename_i hl
          cases e
          rw [List.length_cons] at hl
          refine ⟨by omega, by rw [← lv, ← la]; exact hl.2, fun x dx hx hdx hne => ?_⟩
          -- the new instance is one more argument
          have md : Made L m1 H1 (.tmp (.ins C [] [])) (.ref x) (upd (upd H1 dx (.own x)) x (.ins (L.ad C) dx [])) := ⟨grow2 hx hdx, x, rfl, hx, dx, [], upd_same, rfl, .nil⟩
          obtain ⟨m2, s2, t2⟩ := md.step s.rel
          have s12 := s.trans s2
          have rr2 : RRs L H σ1 τ m2 (upd (upd H1 dx (.own x)) x (.ins (L.ad C) dx [])) (.tmp (.ins C [] []) :: rs) (.ref x :: vs) := by
            refine ⟨_, _, rfl, RR.elder s.dom t2, RRs.step s.rel s2 rr, fun d ed j e' ej ev => ?_⟩
            obtain ⟨u, g1, g2⟩ := rr.get ej
            rw [ev] at g1; cases g1
            obtain ⟨b, e1, _, _, _, h3⟩ := g2
            cases e1
            obtain ⟨o, ho⟩ := h3.there
            rw [hx] at ho; cases ho
          have nd2 : (bors (.tmp (.ins C [] []) :: rs)).Nodup := nd
          have eA2 : toSls σ1 (.tmp (.ins C [] []) :: rs) = some (.own true false (.ins C [] []) :: as) := by
            unfold toSls; rw [eA]; rfl
          have hd : RVs L (upd (upd H1 dx (.own x)) x (.ins (L.ad C) dx [])) m2 (F.dfl.drop (F.dfl.length - (F.np - (as.length + 1)))) (dvAt L F f (vs.length + 1)) := by
            have := (dv (upd (upd H1 dx (.own x)) x (.ins (L.ad C) dx [])) m2).drop (F.dfl.length - (F.np - (as.length + 1)))
            unfold dvAt
            rw [← lv, ← la]
            exact this
          have ra := rel_args s12.rel rr2 nd2 eA2 hd
          refine ⟨m2, _, ra, ?_⟩
          have hb : ∀ sl ps', back (.tmp (.ins C [] []) :: rs) (sl :: ps') σ1 = back rs ps' σ1 := fun sl ps' => rfl
          show Post _ _ _ _ _ _ _ _ (O.c2 f (.own true false (.ins C [] []) :: as ++ List.map Sl.val (F.dfl.drop (F.dfl.length - (F.np - (as.length + 1))))))
          have h' : Post L W (TR L) H σ τ m Q (match O.c2 f (.own true false (.ins C [] []) :: as ++ List.map Sl.val (F.dfl.drop (F.dfl.length - (F.np - (as.length + 1))))) with
            | .ok (.val .non) (.own _ _ (.ins C' ns ds) :: ps') => if C' = C then .ok (.val (.ins C ns ds)) (back rs ps' σ1) else .fail
            | .exc x (_ :: ps') => .exc x (back rs ps' σ1)
            | _ => .fail) := h
          cases ec : O.c2 f (.own true false (.ins C [] []) :: as ++ List.map Sl.val (F.dfl.drop (F.dfl.length - (F.np - (as.length + 1))))) with
          | fail => rw [ec] at h'; exact h'.elim
          | exc ex ps' =>
            rw [ec] at h'
            cases ps' with
            | nil => exact h'.elim
            | cons sl ps' =>
              intro m3 H3 cls d st rx
              exact h' m3 H3 cls d (by rw [← hb sl ps']; exact step_call s12 rr2 nd2 eA2 hd st) rx
          | ok r ps' =>
            rw [ec] at h'
            intro m3 H3 v st rx
            cases r with
            | bor i => exact h'.elim
            | tmp d => exact h'.elim
            | val d =>
              cases d with
              | non =>
                cases ps' with
                | nil => exact h'.elim
                | cons sl ps' =>
                  cases sl with
                  | un => exact h'.elim
                  | val _ => exact h'.elim
                  | own io lk d =>
                    cases d with
                    | ins C' ns ds =>
                      dsimp only at h'
                      split at h'
                      · rename_i eC'
                        subst eC'
                        have ev : v = .non := by have : RV L H3 m3 .non v := rx; simpa only [RV] using this
                        refine ⟨ev, ?_⟩
                        have st2 := step_call s12 rr2 nd2 eA2 hd st
                        rw [hb] at st2
                        obtain ⟨b, g1, g2, g3⟩ := st.rel.own 0 io lk (.ins C' ns ds) rfl
                        cases (show some (some (V.ref x)) = some (some (V.ref b)) from g1)
                        have tr : RR L H (back rs ps' σ1) τ m3 H3 (.tmp (.ins C' ns ds)) (.ref x) := by
                          refine ⟨x, rfl, s.dom x hx, g2, fun z => ?_, g3⟩
                          obtain ⟨j, io', lk', d', z1, z2⟩ := z
                          obtain ⟨e', z3, _⟩ := back_own z1
                          obtain ⟨o, z4⟩ := s.rel.owH ⟨j, io', lk', e', z3, z2⟩
                          rw [hx] at z4; cases z4
                        obtain ⟨m4, s4, rv, _⟩ := frz_ok st2 tr rfl
                        exact h' m4 H3 (.ref x) s4 rv
                      · exact h'.elim
                    | _ => exact h'.elim
              | _ => exact h'.elim
        · cases e
      · exact h.elim
    · exact h.elim
/-- a new instance -/
theorem mkF_sp (sx : SX X L P W O c) {σ σ1 : List Sl} {τ : St} {m m1 : Addr → Prop} {H H1 : Hp} {Q : VK} {C : Nat} {rs : List R} {vs : List V} (s : Step L σ τ m H σ1 τ m1 H1) (rr : RRs L H σ1 τ m1 H1 rs vs)
    (h : Post L W (TR L) H σ τ m Q (mkF P O.c2 C rs σ1)) : CallV X (L.ad C) vs τ H1 Q := by
  unfold mkF at h
  cases eC : P.cl C with
  | none => rw [eC] at h; exact h.elim
  | some cl =>
    obtain ⟨init, at_, fl⟩ := cl
    cases init with
    | none => rw [eC] at h; exact h.elim
    | some f =>
      rw [eC] at h
      dsimp only at h
      cases eF : P.fn f with
      | none => rw [eF] at h; exact h.elim
      | some F =>
        rw [eF] at h
        dsimp only at h
        refine sx.c.mkI C f F at_ fl vs τ H1 Q eC eF fun x dx hx hdx hne => ?_
        split at h
        · rename_i hs
          match en : F.np, h with
          | 0, h => exact h.elim
          | 1, h => exact h.elim
          | n + 2, h =>
            obtain ⟨ws, rest, e1, e2, e3, k⟩ := packF_sp s rr h
            subst e1
            refine .inr ⟨hs, .ref x :: ws, rest, rfl, by rw [List.length_cons]; omega, e3, fun p hp => ?_⟩
            have hpx : p ≠ x := fun z => by rw [z, upd_same] at hp; cases hp
            have hpd : p ≠ dx := fun z => by rw [z, upd_ne hne, upd_same] at hp; cases hp
            have hp1 : H1 p = none := by rwa [upd_ne hpx, upd_ne hpd] at hp
            obtain ⟨σ2, m2, qs, s2, r2, p2⟩ := k p hp1
            obtain ⟨g1, g2, g3⟩ := mkP_sp (sx.dv f F eF) s2 r2 p2
            have z := g3 x dx (by rw [upd_ne (fun e => hpx e.symm)]; exact hx) (by rw [upd_ne (fun e => hpd e.symm)]; exact hdx) hne
            have ed : dvAt L F f ((ws ++ [V.ref p]).length + 1) = [] := by
              unfold dvAt
              have := (sx.dv f F eF H1 m1).length
              rw [List.length_append, e2, en, show n + 2 - (n + [V.ref p].length + 1) = 0 by simp, Nat.sub_zero, this, List.drop_length]
            rw [ed, List.append_nil] at z
            have eh : upd (upd (upd H1 p (.tup rest)) dx (.own x)) x (.ins (L.ad C) dx []) = upd (upd (upd H1 dx (.own x)) x (.ins (L.ad C) dx [])) p (.tup rest) := by
              funext a
              unfold upd
              by_cases ha : a = x
              · rw [ha]; simp [Ne.symm hpx]
              · by_cases hd : a = dx
                · rw [hd]; simp [hne, Ne.symm hpd]
                · simp [ha, hd]
            rw [eh] at z
            exact z
        · rename_i hs
          obtain ⟨g1, g2, g3⟩ := mkP_sp (sx.dv f F eF) s rr h
          exact .inl ⟨by simpa using hs, by rw [List.length_cons]; exact g1, by rw [List.length_cons]; exact g2, by rw [List.length_cons]; exact g3 x dx hx hdx hne⟩
theorem pe_mk' (sx : SX X L P W O c) {x : Str} {C : Nat} {es : List Expr} {a : E} {p pos : Pos} (hg : isGlb c x = true) (hp : plainN x = true) (hk : c.kd x = some (.cls C)) (ha : ArgsOk X es (tA L W (evA P O a))) :
    PE X (.Call (.Name x p) es [] pos) (tE L W (ev P O (.mk C a))) := by
  refine (call_any sx hg hp (sx.cl x C hk).1 (sx.cl x C hk).2 ha).mono fun τ H Q q => ?_
  obtain ⟨m, σ, rl, p⟩ := q
  simp only [ev] at p
  exact post_bnd0 rl p fun rs σ1 m1 H1 vs s1 t1 p1 => mkF_sp sx s1 t1 p1
end
end EV

set_option Elab.async false
set_option linter.all false
set_option maxRecDepth 100000
set_option maxHeartbeats 4000000
/-! ### displays, subscripts, attributes, methods -/
namespace EV
open PySem L2
section
variable {X : Cx} {L : Lk} {P : Prog} {W : WX} {O : Oc} {c : CC}

theorem pd_star (sx : SX X L P W O c) {e : Expr} {es : List Expr} {x y : E} {p : Pos} (ha : PE X e (tE L W (ev P O x))) (hr : PA X es (tDs L W (evD P O y))) : PA X (.Starred e p :: es) (tDs L W (evD P O (.star x y))) :=
  (StX.pa_star ha hr).mono fun τ H Q q => by
    obtain ⟨m, σ, rl, p⟩ := q
    simp only [evD] at p
    refine post_bnd0 rl p fun r σ1 m1 H1 v s1 t1 p1 => ?_
    obtain ⟨d, c1, p2⟩ := post_der s1.rel t1 p1
    obtain ⟨xs, e1, p3⟩ := post_ofO p2
    obtain ⟨a, ys, e2, q2, r2⟩ := itemsQ_seq sx.lo.K c1 e1
    refine ⟨a, ys, e2, q2, ?_⟩
    refine post_bnd s1 p3 fun ds σ3 m3 H3 vs s3 s3' t3 p4 => ?_
    exact p4 m3 H3 (ys ++ vs) s3' ((RVs.mono (s3.kp s1.rel) _ _ r2).append t3)
theorem pe_tup' {es : List Expr} {a : E} {k : Nat} {pos : Pos} (ha : PA X es (tDs L W (evD P O a))) : PE X (.Tuple es k pos) (tE L W (ev P O (.tup a))) :=
  (pe_tup ha).mono fun τ H Q q => by
    obtain ⟨m, σ, rl, p⟩ := q
    simp only [ev] at p
    refine post_bnd0 (T := TDs L) rl p fun ds σ1 m1 H1 vs s1 t1 p1 => ?_
    split at p1
    · rename_i hl
      refine ⟨by rw [← lim_eq, ← RVs.length t1]; exact hl, fun p hp => post_made s1 p1 _ _ (Made.tupN s1.rel.mH t1 hp)⟩
    · exact p1.elim
theorem pe_lst' {es : List Expr} {a : E} {pos : Pos} (ha : PA X es (tDs L W (evD P O a))) : PE X (.List es pos) (tE L W (ev P O (.lst a))) :=
  (pe_lst ha).mono fun τ H Q q => by
    obtain ⟨m, σ, rl, p⟩ := q
    simp only [ev] at p
    refine post_bnd0 (T := TDs L) rl p fun ds σ1 m1 H1 vs s1 t1 p1 => ?_
    split at p1
    · rename_i hl
      refine ⟨by rw [← lim_eq, ← RVs.length t1]; exact hl, fun p hp => post_made s1 p1 _ _ (Made.lstN t1 hp)⟩
    · exact p1.elim
theorem pe_ix' (sx : SX X L P W O c) {a b : Expr} {x y : E} {pos : Pos} (ha : PE X a (tE L W (ev P O x))) (hb : PE X b (tE L W (ev P O y))) (hs : PlainIx b) : PE X (.Subscript a b pos) (tE L W (ev P O (.ix x y))) :=
  (pe_ix (ix_all sx.lo.K) ha hb hs).mono fun τ H Q q => by
    obtain ⟨m, σ, rl, p⟩ := q
    simp only [ev] at p
    refine post_bnd0 rl p fun r σ1 m1 H1 v s1 t1 p1 => ?_
    refine post_bnd s1 p1 fun q σ2 m2 H2 u s2 s2' t2 p2 => ?_
    obtain ⟨dx, c1, p3⟩ := post_der s2.rel (RR.step s1.rel s2 t1) p2
    obtain ⟨dy, c2, p4⟩ := post_der s2.rel t2 p3
    obtain ⟨z, e, p5⟩ := post_ofO p4
    exact ⟨m2, dx, dy, .val z, s2.rel.mH, c1, c2, by show Option.map _ _ = _; rw [e]; rfl, post_made s2' p5⟩
/-- an end of a slice -/
def TP : TL (Option Int) (Option Int) := fun _ _ _ _ _ a b => a = b
abbrev tP (L : Lk) (W : WX) (f : M (Option Int)) : TO := tG L W TP f
theorem po_nil : PO X none (tP L W (evP P O .nil)) := ⟨fun pins s σ H Q I q => by
  refine po_none.run pins s σ H Q I ?_
  obtain ⟨m, σ', rl, p⟩ := q
  exact p m H none (Step.refl rl) rfl⟩
theorem po_pt {b : Expr} {x : E} (hb : PE X b (tE L W (ev P O x))) : PO X (some b) (tP L W (evP P O (.pt x))) := ⟨fun pins s σ H Q I q => by
  refine (po_some hb).run pins s σ H Q I ?_
  obtain ⟨m, σ', rl, p⟩ := q
  simp only [evP] at p
  refine post_bnd0 rl p fun r σ1 m1 H1 v s1 t1 p1 => ?_
  obtain ⟨d, c1, p2⟩ := post_der s1.rel t1 p1
  cases d with
  | int i => exact ⟨i, c1.int, p2 m1 H1 (some i) s1 rfl⟩
  | _ => exact p2.elim⟩
theorem pe_sl' (sx : SX X L P W O c) {a : Expr} {lo hi : Option Expr} {x y z : E} {p2 pos : Pos} (ha : PE X a (tE L W (ev P O x))) (hl : PO X lo (tP L W (evP P O y))) (hh : PO X hi (tP L W (evP P O z))) :
    PE X (.Subscript a (.Slice lo hi none p2) pos) (tE L W (ev P O (.sl x y z))) :=
  (pe_slice (sl_all sx.lo.K) ha hl hh).mono fun τ H Q q => by
    obtain ⟨m, σ, rl, p⟩ := q
    simp only [ev] at p
    refine post_bnd0 rl p fun r σ1 m1 H1 v s1 t1 p1 => ?_
    refine post_bnd (T := TP) s1 p1 fun l σ2 m2 H2 l' s2 s2' t2 p2 => ?_
    have e2 : l = l' := t2
    subst e2
    refine post_bnd (T := TP) s2' p2 fun h σ3 m3 H3 h' s3 s3' t3 p3 => ?_
    have e3 : h = h' := t3
    subst e3
    obtain ⟨d, c1, p4⟩ := post_der s3.rel (RR.step s2.rel s3 (RR.step s1.rel s2 t1)) p3
    obtain ⟨z, e, p5⟩ := post_ofO1 p4
    exact ⟨m3, d, z, s3.rel.mH, c1, e, post_made s3' p5⟩
theorem fld_look {m : Addr → Prop} {H : Hp} (nmf : ∀ f g, L.nm f = L.nm g → f = g) {f : Nat} : ∀ {ns : List Nat} {ds : List D} {xs : List V} {d : D}, fldF f ns ds = some d → RVs L H m ds xs → ns.length = xs.length → ∃ v, ((ns.map L.nm).zip xs).lookup (L.nm f) = some v ∧ RV L H m d v
  | [], ds, xs, d, e, r, hl => by simp [fldF] at e
  | n :: ns, [], xs, d, e, r, hl => by simp [fldF] at e
  | n :: ns, d' :: ds, xs, d, e, r, hl => by
    simp only [RVs] at r
    obtain ⟨v, ws, e1, h1, h2⟩ := r
    subst e1
    simp only [fldF] at e
    simp only [List.map_cons, List.zip_cons_cons, List.lookup]
    split at e
    · rename_i en; subst en; cases e
      exact ⟨v, by rw [beq_self_eq_true], h1⟩
    · rename_i en
      have : (L.nm f == L.nm n) = false := beq_eq_false_iff_ne.mpr fun z => en (nmf _ _ z).symm
      rw [this]
      exact fld_look nmf e h2 (by simpa using hl)
theorem no_look (nmf : ∀ f g, L.nm f = L.nm g → f = g) {f : Nat} : ∀ {ns : List Nat} {xs : List V}, ns.contains f = false → ((ns.map L.nm).zip xs).lookup (L.nm f) = none
  | [], _, _ => rfl
  | n :: ns, [], _ => rfl
  | n :: ns, x :: xs, h => by
    simp only [List.contains_cons, Bool.or_eq_false_iff] at h
    simp only [List.map_cons, List.zip_cons_cons, List.lookup]
    have : (L.nm f == L.nm n) = false := beq_eq_false_iff_ne.mpr fun z => by
      have e := nmf _ _ z
      subst e
      simp at h
    rw [this]
    exact no_look nmf h.2
/-- o.f -/
theorem pe_attr' (sx : SX X L P W O c) {o : Expr} {x : E} {f : Str} {i : Nat} {pos : Pos} (ha : PE X o (tE L W (ev P O x))) (hi : c.att f = some i) (hab : attributeBase o f X.env (eval o X.env) = eval o X.env) : PE X (.Attribute o f pos) (tE L W (ev P O (.attr x i))) := by
  have en := sx.att f i hi
  refine ⟨fun pins s τ H Q I q => ?_⟩
  refine attr_of hab (thn (ha.run pins s τ H (fun v H1 => ∀ pins s b, Inv X pins τ H1 s → wpAny (model X.prog X.w) X.A (getAttr (match v with | .ref a => .ref a | _ => .none) f b) (EP X pins τ Q) X.xe s ∧ ∃ a, v = .ref a) I ?_) fun u s1 ⟨v, H1, I1, rv, q1⟩ => ?_)
  · obtain ⟨m, σ, rl, p⟩ := q
    simp only [ev] at p
    refine post_bnd0 rl p fun r σ1 m1 H1 v s1 t1 p1 => ?_
    obtain ⟨d, c1, p2⟩ := post_der s1.rel t1 p1
    cases d with
    | ins C ns ds =>
      obtain ⟨a, dx, xs, e1, e2, hl, r1⟩ := c1.ins
      subst e1
      intro pins s b I
      refine ⟨?_, a, rfl⟩
      dsimp only at p2 ⊢
      cases ea : lookupAt C i P with
      | none =>
        rw [ea] at p2
        dsimp only at p2
        split at p2
        · rename_i hf
          obtain ⟨d', e3, p3⟩ := post_ofO p2
          obtain ⟨v, h1, h2⟩ := fld_look sx.nmf e3 r1 hl
          have hc : ∃ cl, P.cl C = some cl := by
            unfold isFld at hf
            cases q : P.cl C with
            | none => rw [q] at hf; cases hf
            | some cl => exact ⟨cl, rfl⟩
          obtain ⟨cl, hc⟩ := hc
          have hn := sx.noat C i hf
          rw [en] at h1 hn
          exact getattr_ok I e2 (sx.cls C cl hc) hn h1 fun u s' I' ru => ⟨v, H1, I', ru, post_made s1 p3 _ _ (.same h2)⟩
        · exact p2.elim
      | some at_ =>
        rw [ea] at p2
        cases at_ with
        | meth g => exact p2.elim
        | cmet g => exact p2.elim
        | smet g => exact p2.elim
        | con d' =>
          obtain ⟨v, u, h1, h2⟩ := sx.cons C i d' ea
          dsimp only at p2
          split at p2
          · exact p2.elim
          · rename_i hc
            have hc' : ∃ cl, P.cl C = some cl := by
              unfold lookupAt at ea
              cases q : P.cl C with
              | none => rw [q] at ea; cases ea
              | some cl => exact ⟨cl, rfl⟩
            obtain ⟨cl, hc'⟩ := hc'
            have hl0 := no_look (L := L) sx.nmf (xs := xs) (f := i) (ns := ns) (by simpa using hc)
            rw [en] at hl0 h1
            exact getcon_ok I e2 (sx.cls C cl hc') h1 hl0 fun s' I' => ⟨v, H1, I', h1.rel, post_made s1 p2 _ _ (.same (h2 _ _))⟩
        | prop g =>
          have p3 := post_noX1 (f := callF P O.c2 g [r]) p2
          have rr : RRs L H σ1 τ m1 H1 [r] [.ref a] := ⟨_, _, rfl, t1, rfl, fun d _ j e ej => by simp at ej⟩
          obtain ⟨F, h1, h2⟩ := callF_sp sx.dv s1 rr p3
          have := sx.c.prop C i g F a dx _ τ H1 Q ea h1 e2 h2 pins s b I
          rw [en] at this
          exact this
    | _ => exact p2.elim
  · obtain ⟨h1, a, e1⟩ := q1 pins s1 true I1
    subst e1
    cases rv
    exact h1
theorem all_no {env : Env} {pos : Pos} {es : List Expr} (h : noStar es = true) : (backTo pos (starEach es env)).all (fun x => !x.1) = true := by
  have := no_any (env := env) (pos := pos) h
  rw [List.any_eq_false] at this
  rw [List.all_eq_true]
  intro x hx
  have := this x hx
  simpa using this
/-- a text's method -/
def rSM (L : Lk) (mi : Nat) : V → List V → Hp → VK → Prop := fun x xs H Q => ∃ m ds s r, (∀ a, m a → ∃ o, H a = some o) ∧ x = .str s ∧ Paired (RC L m H) ds xs ∧ smF mi s ds = some r ∧ ∀ v H', Made L m H r v H' → Q v H'
theorem sm_join (ok : X.K = L.K) : MtR X "str.join" (rSM L 1) := by
  intro pins s σ H x xs v us Q I rx rs h
  obtain ⟨m, ds, z, r, mH, ex, cx, e, q⟩ := h
  unfold smF at e
  split at e <;> first | contradiction | skip
  · rename_i es _
    obtain ⟨y, rfl, c1⟩ := pair1 cx
    cases e0 : strsF es with
    | none => rw [e0] at e; cases e
    | some ys =>
      rw [e0] at e
      simp only [Option.bind_some] at e
      split at e
      · rename_i hl
        cases e
        obtain ⟨a, zs, e1, q1, r1⟩ := c1.lst
        have e2 := r1.all_str e0
        subst e2
        subst e1
        exact mt_join pins s σ H x _ v us Q I rx rs ⟨z, a, ys, ex, rfl, .inl (by rw [ok]; exact q1), hl, q _ _ (Made.str _)⟩
      · cases e
  · rename_i es _
    obtain ⟨y, rfl, c1⟩ := pair1 cx
    cases e0 : strsF es with
    | none => rw [e0] at e; cases e
    | some ys =>
      rw [e0] at e
      simp only [Option.bind_some] at e
      split at e
      · rename_i hl
        cases e
        obtain ⟨a, zs, e1, q1, r1⟩ := c1.tup
        have e2 := r1.all_str e0
        subst e2
        subst e1
        exact mt_join pins s σ H x _ v us Q I rx rs ⟨z, a, ys, ex, rfl, .inr (by rw [ok]; exact q1), hl, q _ _ (Made.str _)⟩
      · cases e
theorem rvs_strs {m : Addr → Prop} {H : Hp} : ∀ (ys : List Str), RVs L H m (ys.map D.str) (ys.map V.str)
  | [] => .nil
  | y :: ys => .cons (by simp only [RV]) (rvs_strs ys)
theorem sm_split : MtR X "str.split" (rSM L 8) := by
  intro pins s σ H x xs v us Q I rx rs h
  obtain ⟨m, ds, z, r, mH, ex, cx, e, q⟩ := h
  unfold smF at e
  split at e <;> first | contradiction | skip
  rename_i b _
  split at e
  · rename_i hl
    cases e
    obtain ⟨y, rfl, c1⟩ := pair1 cx
    have e1 := c1.str
    subst e1
    exact mt_split pins s σ H x _ v us Q I rx rs ⟨z, b, ex, rfl, by simpa using hl.1, by rw [← lim_eq]; exact hl.2, fun p hp => q _ _ (Made.lstN (rvs_strs _) hp)⟩
  · cases e
theorem sm_partition : MtR X "str.partition" (rSM L 9) := by
  intro pins s σ H x xs v us Q I rx rs h
  obtain ⟨m, ds, z, r, mH, ex, cx, e, q⟩ := h
  unfold smF at e
  split at e <;> first | contradiction | skip
  rename_i b _
  split at e
  · rename_i hl
    cases e
    obtain ⟨y, rfl, c1⟩ := pair1 cx
    have e1 := c1.str
    subst e1
    exact mt_partition pins s σ H x _ v us Q I rx rs ⟨z, b, ex, rfl, by simpa using hl.1, by rw [← lim_eq]; exact hl.2, fun p hp => q _ _ (Made.tupN mH (.cons (by simp only [RV]) (.cons (by simp only [RV]) (.cons (by simp only [RV]) .nil))) hp)⟩
  · cases e
theorem sm_endswith : MtR X "str.endswith" (rSM L 10) := by
  intro pins s σ H x xs v us Q I rx rs h
  obtain ⟨m, ds, z, r, mH, ex, cx, e, q⟩ := h
  unfold smF at e
  split at e <;> first | contradiction | skip
  rename_i b _
  cases e
  obtain ⟨y, rfl, c1⟩ := pair1 cx
  have e1 := c1.str
  subst e1
  exact mt_endswith pins s σ H x _ v us Q I rx rs ⟨z, b, ex, rfl, q _ _ (Made.bl _)⟩
theorem sm_startswith : MtR X "str.startswith" (rSM L 11) := by
  intro pins s σ H x xs v us Q I rx rs h
  obtain ⟨m, ds, z, r, mH, ex, cx, e, q⟩ := h
  unfold smF at e
  split at e <;> first | contradiction | skip
  rename_i b _
  cases e
  obtain ⟨y, rfl, c1⟩ := pair1 cx
  have e1 := c1.str
  subst e1
  exact mt_startswith pins s σ H x _ v us Q I rx rs ⟨z, b, ex, rfl, q _ _ (Made.bl _)⟩
theorem sm_count : MtR X "str.count" (rSM L 6) := by
  intro pins s σ H x xs v us Q I rx rs h
  obtain ⟨m, ds, z, r, mH, ex, cx, e, q⟩ := h
  unfold smF at e
  split at e <;> first | contradiction | skip
  rename_i b _
  cases e
  obtain ⟨y, rfl, c1⟩ := pair1 cx
  have e1 := c1.str
  subst e1
  exact mt_count pins s σ H x _ v us Q I rx rs ⟨z, b, ex, rfl, q _ _ (Made.int _)⟩
theorem pe_sm (sx : SX X L P W O c) {o e : Expr} {es : List Expr} {x a : E} {name : Str} {id : String} {mi : Nat} {apos pos : Pos} (slot : Slot "str" name id) (ty : typeOf (.builtin id) = pure (.type "method_descriptor")) (rule : MtR X id (rSM L mi)) (ho : PE X o (tE L W (ev P O x)))
    (ha : PA X (e :: es) (tA L W (evA P O a))) (hs : noStar (e :: es) = true) (hbase : attributeBase o name X.env (eval o X.env) = eval o X.env) (hline : (apos.endLine == pos.line) = true) (hlen : (e :: es).length < 20) :
    PE X (.Call (.Attribute o name apos) (e :: es) [] pos) (tBM X.K "str" (rSM L mi) (tE L W (ev P O x)) (tA L W (evA P O a))) := by
  obtain ⟨h1, h2⟩ := noStar_cons hs
  refine pe_bm PySem.F.plainAttrs_str slot ty rule ho ha hbase ?_ hline (star_cons h1 _) (no_any h2)
  rw [all_no hs]
  have : decide ((e :: es).length + ([] : List Keyword).length + (if ([] : List Keyword).isEmpty then 0 else 1) < 30) = true := decide_eq_true (by simp at hlen ⊢; omega)
  rw [this]
  rfl
/-- o.m(..) of an instance -/
def tMethI (X : Cx) (m : Str) (to : TE) (t : TA) : TE := fun τ H Q => to τ H fun x H1 => ∃ a C dx fs g, x = V.ref a ∧ H1 a = some (.ins C dx fs) ∧ Cls X.K C ∧ Meth X.K C m g ∧ fs.lookup m = none ∧ t τ H1 fun vs H2 => CallV X g (.ref a :: vs) τ H2 Q
theorem pe_methI {o : Expr} {es : List Expr} {name : Str} {apos pos : Pos} {to : TE} {t : TA} (ho : PE X o to) (ha : PA X es t) (hn : es = [] → ∀ τ H K, t τ H K → K [] H) (hs : noStar es = true) (hbase : attributeBase o name X.env (eval o X.env) = eval o X.env) (hline : (apos.endLine == pos.line) = true) (hlen : es.length < 20) :
    PE X (.Call (.Attribute o name apos) es [] pos) (tMethI X name to t) := by
  refine ⟨fun pins s τ H Q I q => ?_⟩
  have hf : methodCallForm (es.length + ([] : List Keyword).length) (backTo pos (starEach es X.env)) (backToKw pos (keywordEach [] X.env)) = true := by
    unfold methodCallForm
    rw [all_no hs]
    have : decide (es.length + ([] : List Keyword).length + (if (backToKw pos (keywordEach [] X.env)).isEmpty then 0 else 1) < 30) = true := decide_eq_true (by
      have : (backToKw pos (keywordEach [] X.env)).isEmpty = true := rfl
      rw [this]; simp; omega)
    rw [this]
    rfl
  have he : eval (.Call (.Attribute o name apos) es [] pos) X.env = (do
      let ov ← eval o X.env
      standAt apos.atName
      let (f, first) ← holding [ov] (getMethod ov name (plainOf o X.env))
      callWith pos f first (backTo pos (starEach es X.env)) (backToKw pos (keywordEach [] X.env))) := by
    have e1 : eval (.Call (.Attribute o name apos) es [] pos) X.env = (do
      let ov ← attributeBase o name X.env (eval o X.env)
      standAt apos.atName
      methodCall o name apos pos X.env ov (es.length + ([] : List Keyword).length) (backTo pos (starEach es X.env)) (backToKw pos (keywordEach [] X.env))) := by rw [eval]
    rw [e1, hbase]
    congr 1
    funext ov
    rw [mcall_line hf hline]
  refine PySem.W.methodCall_KW (pl := plainOf o X.env) (thn (ho.run pins s τ H _ I q) fun u s1 ⟨x, H1, I1, rx, a, C, dx, fs, g, ex, ea, cl, k, l, q1⟩ => ?_) he
  subst ex
  obtain rfl : u = Value.ref a := rx
  refine getmeth_ok I1 ea cl k l ?_
  cases es with
  | nil => exact PySem.W.callWith_K0 (first := [.ref a]) I1.kIn k.kp (wpAny_call (hn rfl τ H1 _ q1 pins s1 [.ref a] I1 (.cons rfl .nil)))
  | cons e es =>
    obtain ⟨h1, h2⟩ := noStar_cons hs
    refine PySem.W.callWith_K (first := [.ref a]) (h₀ := X.base) I.ok.mod.kin k.kp (thn (ha.run pos pins s1 τ H1 _ I1 q1) fun us s2 ⟨vs, H2, I2, r, q2⟩ => ⟨I2.kIn, ?_⟩) (star_cons h1 _) (no_any h2)
    exact wpAny_call (q2 pins s2 (.ref a :: us) I2 (.cons rfl r))
theorem pe_meth' (sx : SX X L P W O c) {o : Expr} {es : List Expr} {x a : E} {m : Str} {i : Nat} {apos pos : Pos} (ho : PE X o (tE L W (ev P O x))) (ha : PA X es (tA L W (evA P O a))) (hn : es = [] → a = .nil) (hi : c.att m = some i) (hs : noStar es = true)
    (hbase : attributeBase o m X.env (eval o X.env) = eval o X.env) (hline : (apos.endLine == pos.line) = true) (hlen : es.length < 20) : PE X (.Call (.Attribute o m apos) es [] pos) (tE L W (ev P O (.meth x i a))) := by
  have en := sx.att m i hi
  have hI := pe_methI (name := m) (apos := apos) (pos := pos) ho ha (fun e τ H K h => by rw [hn e] at h; exact nil_args h) hs hbase hline hlen
  refine hI.mono fun τ H Q q => ?_
  obtain ⟨mm, σ, rl, p⟩ := q
  simp only [ev] at p
  refine post_bnd0 rl p fun r σ1 m1 H1 v s1 t1 p1 => ?_
  obtain ⟨d, c1, p2⟩ := post_der s1.rel t1 p1
  cases d with
  | ins C ns ds =>
    dsimp only at p2
    split at p2
    · exact p2.elim
    · rename_i hc
      obtain ⟨b, dx, xs, e1, e2, hl, r1⟩ := c1.ins
      cases ea : lookupAt C i P with
      | none => rw [ea] at p2; exact p2.elim
      | some at_ =>
        rw [ea] at p2
        cases at_ with
        | con d => exact p2.elim
        | prop g => exact p2.elim
        | cmet g => exact p2.elim
        | smet g => exact p2.elim
        | meth f =>
          have hc' : ∃ cl, P.cl C = some cl := by
            unfold lookupAt at ea
            cases q : P.cl C with
            | none => rw [q] at ea; cases ea
            | some cl => exact ⟨cl, rfl⟩
          obtain ⟨cl, hc'⟩ := hc'
          have hl0 := no_look (L := L) sx.nmf (xs := xs) (f := i) (ns := ns) (by simpa using hc)
          have hm := sx.meth C i f ea
          rw [en] at hl0 hm
          refine ⟨b, _, dx, _, _, e1, e2, sx.cls C cl hc', hm, hl0, ?_⟩
          refine post_bnd s1 p2 fun rs σ2 m2 H2 vs s2 s2' t2 p3 => ?_
          have rr : RRs L H σ2 τ m2 H2 (r :: rs) (v :: vs) := by
            refine RRs.cons (RR.step s1.rel s2 t1) t2 s1.dom fun d a e3 e4 z => ?_
            subst e3
            obtain ⟨b', e5, _, _, _, h3⟩ := t1
            rw [e4] at e5; cases e5
            obtain ⟨o, ho⟩ := h3.there
            rw [z] at ho; cases ho
          obtain ⟨F', h1, h2⟩ := callF_sp sx.dv s2' rr p3
          rw [e1] at h2
          exact sx.c.f1 f F' (.ref b :: vs) τ H2 Q h1 h2
  | _ => exact p2.elim
theorem pe_smeth (sx : SX X L P W O c) {o : Expr} {es : List Expr} {x a : E} {m : Str} {i : Nat} {apos pos : Pos} (ho : PE X o (tE L W (ev P O x))) (ha : PA X es (tA L W (evA P O a))) (hn : es ≠ []) (hi : c.att m = some i) (h1 : i = 1 ∨ i = 8 ∨ i = 9 ∨ i = 10 ∨ i = 11 ∨ i = 6) (hs : noStar es = true)
    (hbase : attributeBase o m X.env (eval o X.env) = eval o X.env) (hline : (apos.endLine == pos.line) = true) (hlen : es.length < 20) : PE X (.Call (.Attribute o m apos) es [] pos) (tE L W (ev P O (.smeth x i a))) := by
  have en := sx.att m i hi
  cases es with
  | nil => exact absurd rfl hn
  | cons e es =>
    have go : ∀ τ H Q, tE L W (ev P O (.smeth x i a)) τ H Q → tBM X.K "str" (rSM L i) (tE L W (ev P O x)) (tA L W (evA P O a)) τ H Q := fun τ H Q q => by
      obtain ⟨mm, σ, rl, p⟩ := q
      simp only [ev] at p
      refine post_bnd0 rl p fun r σ1 m1 H1 v s1 t1 p1 => ?_
      obtain ⟨d, c1, p2⟩ := post_der s1.rel t1 p1
      cases d with
      | str z =>
        have ez := c1.str
        subst ez
        refine ⟨rfl, ?_⟩
        refine post_bnd s1 p2 fun rs σ2 m2 H2 vs s2 s2' t2 p3 => ?_
        obtain ⟨ds, c2, p4⟩ := post_ders s2.rel t2 p3
        obtain ⟨w, e5, p5⟩ := post_ofO1 p4
        exact ⟨m2, ds, z, w, s2.rel.mH, rfl, c2, e5, post_made s2' p5⟩
      | _ => exact p2.elim
    rcases h1 with h1 | h1 | h1 | h1 | h1 | h1 <;> subst h1
    · rw [nm_at sx (i := 1) (x := "join") (by simp [nmT])] at en
      subst en
      exact (pe_sm sx PySem.F.slot_str_join PySem.F.type_str_join (sm_join sx.lo.K) ho ha hs hbase hline hlen).mono go
    · rw [nm_at sx (i := 8) (x := "split") (by simp [nmT])] at en
      subst en
      exact (pe_sm sx PySem.F.slot_str_split PySem.F.type_str_split sm_split ho ha hs hbase hline hlen).mono go
    · rw [nm_at sx (i := 9) (x := "partition") (by simp [nmT])] at en
      subst en
      exact (pe_sm sx PySem.F.slot_str_partition PySem.F.type_str_partition sm_partition ho ha hs hbase hline hlen).mono go
    · rw [nm_at sx (i := 10) (x := "endswith") (by simp [nmT])] at en
      subst en
      exact (pe_sm sx PySem.F.slot_str_endswith PySem.F.type_str_endswith sm_endswith ho ha hs hbase hline hlen).mono go
    · rw [nm_at sx (i := 11) (x := "startswith") (by simp [nmT])] at en
      subst en
      exact (pe_sm sx PySem.F.slot_str_startswith PySem.F.type_str_startswith sm_startswith ho ha hs hbase hline hlen).mono go
    · rw [nm_at sx (i := 6) (x := "count") (by simp [nmT])] at en
      subst en
      exact (pe_sm sx PySem.F.slot_str_count PySem.F.type_str_count sm_count ho ha hs hbase hline hlen).mono go
/-- a value that is called -/
theorem callD_sp (sx : SX X L P W O c) {σ σ1 : List Sl} {τ : St} {m m1 : Addr → Prop} {H H1 : Hp} {Q : VK} {r : R} {v : V} {d0 d : D} {rs : List R} {vs : List V} (s : Step L σ τ m H σ1 τ m1 H1) (rr : RRs L H σ1 τ m1 H1 (r :: rs) (v :: vs)) (c1 : RC L m1 H1 d v)
    (p : Post L W (TR L) H σ τ m Q (callD P O r rs d0 d σ1)) : ((∃ C ns ds, d0 = .ins C ns ds) ∧ ∃ C a dx fs, v = .ref a ∧ H1 a = some (.ins (L.ad C) dx fs) ∧ CallV X a vs τ H1 Q) ∨ ∃ x, d0 = .gl x ∧ CallV X (L.ad x) vs τ H1 Q := by
  unfold callD at p
  split at p
  · rename_i C0 ns0 ds0 C ns ds
    obtain ⟨a, dx, xs, e1, ha, _⟩ := c1.ins
    subst e1
    obtain ⟨f, F, h1, h2, h3⟩ := specM_sp sx.dv s rr p
    have me := sx.meth C nCall f h1
    have at_ := me.at_
    rw [nm_at sx (i := nCall) (x := "__call__") (by simp [nmT, nCall])] at at_
    refine .inl ⟨⟨_, _, _, rfl⟩, C, a, dx, _, rfl, ha, fun pins s' us I rv => ?_⟩
    obtain ⟨ox, od, J, hd⟩ := inst_of I ha
    exact PySem.W.kco_code I.kIn J hd at_ me.fn (sx.fni f F h2) (sx.c.f2 0 f F (.ref a :: vs) τ H1 Q _ (by decide) h2 h3 (fun _ _ _ z => z) pins s' (.ref a :: us) I (.cons rfl rv))
  · rename_i x
    have rr' : RRs L H σ1 τ m1 H1 rs vs := by
      obtain ⟨v', ws, e, _, h2, _⟩ := rr
      cases e; exact h2
    split at p
    · exact .inr ⟨x, rfl, mkF_sp sx s rr' p⟩
    · obtain ⟨F, h1, h2⟩ := callF_sp sx.dv s rr' p
      exact .inr ⟨x, rfl, sx.c.f1 x F vs τ H1 Q h1 h2⟩
  · exact p.elim
/-- f(e, ..), f any expression -/
theorem pe_callv (sx : SX X L P W O c) {fe e : Expr} {es : List Expr} {x a : E} {pos : Pos} (hf : PE X fe (tE L W (ev P O x))) (ha : PA X (e :: es) (tA L W (evA P O a))) (hs : noStar (e :: es) = true)
    (ht : ∀ {Q : Value → Shared → Prop} {s : Shared}, wpAny (model X.prog X.w) X.A (eval fe X.env) (fun f s₁ => wpAny (model X.prog X.w) X.A (callWith pos f [] (backTo pos (starEach (e :: es) X.env)) []) Q X.xe s₁) X.xe s → wpAny (model X.prog X.w) X.A (eval (.Call fe (e :: es) [] pos) X.env) Q X.xe s) :
    PE X (.Call fe (e :: es) [] pos) (tE L W (ev P O (.callv x a))) := by
  obtain ⟨h1, h2⟩ := noStar_cons hs
  refine ⟨fun pins s τ H Q I q => ?_⟩
  refine ht (thn (hf.run pins s τ H (fun v H1 => ∃ b, v = .ref b ∧ ((tA L W (evA P O a) τ H1 fun vs H2 => (∃ C dx fs, H2 b = some (.ins (L.ad C) dx fs)) ∧ CallV X b vs τ H2 Q) ∨ (PySem.W.keepIn X.K (.ref b) = true ∧ tA L W (evA P O a) τ H1 fun vs H2 => CallV X b vs τ H2 Q))) I ?_) fun u s1 ⟨v, H1, I1, rv, b, eb, q1⟩ => ?_)
  · obtain ⟨m, σ, rl, p⟩ := q
    simp only [ev] at p
    refine post_bnd0 rl p fun r σ1 m1 H1 v s1 t1 p1 => ?_
    obtain ⟨d, c1, p2⟩ := post_der s1.rel t1 p1
    have con : ∀ {rs : List R} {σ2 : List Sl} {m2 : Addr → Prop} {H2 : Hp} {vs : List V}, Step L σ1 τ m1 H1 σ2 τ m2 H2 → RRs L H1 σ2 τ m2 H2 rs vs → RRs L H σ2 τ m2 H2 (r :: rs) (v :: vs) := fun {rs σ2 m2 H2 vs} s2 t2 => by
      refine RRs.cons (RR.step s1.rel s2 t1) t2 s1.dom fun d a e3 e4 z => ?_
      subst e3
      obtain ⟨b', e5, _, _, _, h3⟩ := t1
      rw [e4] at e5; cases e5
      obtain ⟨o, ho⟩ := h3.there
      rw [z] at ho; cases ho
    split at p2
    · rename_i hcal
      have go : ∀ b, v = .ref b → ∀ {K : List V → Hp → Prop}, (∀ vs H2, (((∃ C ns ds, d = .ins C ns ds) ∧ ∃ C a dx fs, v = .ref a ∧ H2 a = some (.ins (L.ad C) dx fs) ∧ CallV X a vs τ H2 Q) ∨ ∃ x, d = .gl x ∧ CallV X (L.ad x) vs τ H2 Q) → K vs H2) → tA L W (evA P O a) τ H1 K := fun b eb K hK => by
        refine post_bnd s1 p2 fun rs σ2 m2 H2 vs s2 s2' t2 p3 => ?_
        obtain ⟨d', c2, p4⟩ := post_der s2.rel (RR.step s1.rel s2 t1) p3
        exact hK vs H2 (callD_sp sx s2' (con s2 t2) c2 p4)
      cases d with
      | ins C ns ds =>
        obtain ⟨b, dx, xs, e1, e2, hl, r1⟩ := c1.ins
        subst e1
        refine ⟨b, rfl, .inl (go b rfl fun vs H2 h => ?_)⟩
        rcases h with ⟨_, C', a', dx', fs', ea, ha', k⟩ | ⟨x, e, _⟩
        · cases ea; exact ⟨⟨C', dx', fs', ha'⟩, k⟩
        · cases e
      | gl y =>
        have e1 := c1.gl
        subst e1
        refine ⟨_, rfl, .inr ⟨?_, go _ rfl fun vs H2 h => ?_⟩⟩
        · simp only [calB, Bool.or_eq_true] at hcal
          rcases hcal with h | h
          · exact sx.kpc y h
          · obtain ⟨F, hF⟩ := Option.isSome_iff_exists.mp h
            exact sx.kpf y F hF
        · rcases h with ⟨⟨_, _, _, e⟩, _⟩ | ⟨x, e, k⟩
          · cases e
          · cases e; exact k
      | _ => cases hcal
    · exact p2.elim
  · subst eb
    cases rv
    rcases q1 with q1 | ⟨hk, q1⟩
    · refine StX.callO_with (thn (ha.run pos pins s1 τ H1 _ I1 q1) fun us s2 ⟨vs, H2, I2, r, ⟨C, dx', fs', hi⟩, q2⟩ => ?_) (star_cons h1 _) (no_any h2)
      obtain ⟨ox, od, J, hd⟩ := inst_of I2 hi
      exact ⟨⟨_, ox, od, J, hd⟩, wpAny_call (q2 pins s2 us I2 r)⟩
    · exact args_cons h1 ha b hk pos pins s1 τ H1 _ _ I1 q1 fun us vs s2 H2 I2 r k => wpAny_call (k pins s2 us I2 r)
/-- a part of an f-string -/
theorem pe_fmt' (sx : SX X L P W O c) {e : Expr} {x : E} {pos : Pos} (he : PE X e (tE L W (ev P O x))) : PE X (.FormattedValue e (-1) none pos) (tE L W (ev P O (.fmt x))) := by
  refine ⟨fun pins s τ H Q I q => ?_⟩
  refine wpAny_FormattedValue_plain (thn (he.run pins s τ H (fun v H1 => (∃ y : Str, v = .str y ∧ y.length ≤ sizeLine ∧ Q (.str y) H1) ∨ (∃ i : Int, v = .int i ∧ i.natAbs.log2 < 1920 ∧ Q (.str (toString i)) H1) ∨ ∃ C a dx fs, v = .ref a ∧ H1 a = some (.ins (L.ad C) dx fs) ∧ spS L P O C nStr [v] H1 (fun v H' => ∃ t, v = .str t ∧ Q (.str t) H')) I ?_) fun v s1 hv => ?_)
  · obtain ⟨m, σ, rl, p⟩ := q
    simp only [ev] at p
    refine post_bnd0 rl p fun r σ1 m1 H1 v s1 t1 p1 => ?_
    obtain ⟨d, c1, p2⟩ := post_der s1.rel t1 p1
    unfold fmtM at p2
    split at p2
    · obtain ⟨a, dx, xs, e1, e2, _⟩ := c1.ins
      have rr : RRs L H σ1 τ m1 H1 [r] [v] := ⟨_, _, rfl, t1, rfl, fun d _ j e ej => by simp at ej⟩
      exact .inr (.inr ⟨_, a, dx, _, e1, e2, specB_sp sx.dv s1 rr p2 fun a σ2 p3 m2 H2 v s2 t2 => okStr_k p3 m2 H2 v s2 t2⟩)
    · split at p2
      · rename_i hl
        exact .inl ⟨_, c1.str, by rw [← lim_eq]; exact hl, post_made s1 p2 _ _ (Made.str _)⟩
      · exact p2.elim
    · split at p2
      · rename_i hl
        exact .inr (.inl ⟨_, c1.int, hl, post_made s1 p2 _ _ (Made.str _)⟩)
      · exact p2.elim
    · exact p2.elim
  · obtain ⟨x, H1, I1, r1, q⟩ := hv
    rcases q with ⟨y, rfl, hz, q⟩ | ⟨i, rfl, hz, q⟩ | ⟨C, a, dx, fs, rfl, ha, hsp⟩
    · obtain ⟨t, rfl⟩ := r1
      exact wpAny_formatField_str ⟨.str y, H1, I1, ⟨t, rfl⟩, q⟩ ⟨.str y, H1, I1.tok _, ⟨_, rfl⟩, q⟩ hz
    · obtain ⟨t, rfl⟩ := r1
      exact wpAny_formatField_int hz ⟨.str (toString i), H1, I1.tok _, ⟨_, rfl⟩, q⟩
    · cases r1
      obtain ⟨f, q1, q2, _, ⟨k, hk⟩, run⟩ := spS_run sx hsp 1 (by decide)
      rw [nm_at sx (i := nStr) (x := "__str__") (by simp [nmT, nStr])] at q1
      obtain ⟨oa, od, JA⟩ := inst_at I1 ha
      have hu := sx.hu
      obtain ⟨_, hm, _, hfm⟩ := sx.own0 C k hk
      refine PySem.W.kfo_fieldS (by show X.A.units + 1 < _; omega) I1.kIn JA hfm hm q1 q2 (thn (run τ pins _ _ (I1.tok _) (.cons rfl .nil)) fun v s' hv => ?_)
      obtain ⟨v', H', I', rv, i, e, q⟩ := hv
      subst e
      obtain ⟨t, rfl⟩ := rv
      exact ⟨.str i, H', I', ⟨_, rfl⟩, q⟩
theorem base_ok {o : Expr} {f : Str} {env : Env} (h : okBase o = true) : attributeBase o f env (eval o env) = eval o env := by
  unfold attributeBase
  split
  · unfold okBase at h
    dsimp only at h
    rw [h]
    simp
  · rfl
/-- a <= b <= c -/
theorem pe_cmp2' (sx : SX X L P W O c) {a b d : Expr} {x y z : E} {o1 o2 : CmpOp} {pos : Pos} (ha : PE X a (tE L W (ev P O x))) (hb : PE X b (tE L W (ev P O y))) (hd : PE X d (tE L W (ev P O z))) (h2 : behindInMarks o2 d = false) :
    PE X (.Compare a [o1, o2] [b, d] pos) (tE L W (ev P O (.cmp2 o1 o2 x y z))) := by
  refine (pe_chain (op_cmp sx.lo.K sx.hu o1) (op_cmp sx.lo.K sx.hu o2) ha hb hd h2).mono fun τ H Q q => ?_
  obtain ⟨m, σ, rl, p⟩ := q
  simp only [ev] at p
  refine post_bnd0 rl p fun r σ1 m1 H1 v s1 t1 p1 => ?_
  refine post_bnd s1 p1 fun q σ2 m2 H2 u s2 s2' t2 p2 => ?_
  obtain ⟨dx, c1, p3⟩ := post_der s2.rel (RR.step s1.rel s2 t1) p2
  obtain ⟨dy, c2, p4⟩ := post_der s2.rel t2 p3
  obtain ⟨k, e, p5⟩ := post_ofO p4
  refine ⟨m2, dx, dy, .val (.bl k), s2.rel.mH, c1, c2, by show Option.map _ _ = _; rw [e]; rfl, fun w H3 md => ?_⟩
  obtain ⟨m3, s3, t3⟩ := md.step s2.rel
  have ew : w = .bl k := by have : RV L H3 m3 (.bl k) w := t3; simpa only [RV] using this
  refine ⟨k, ew, ?_⟩
  have s3' := s2'.trans s3
  cases k with
  | false => exact post_made s3' p5 _ _ (Made.bl false)
  | true =>
    rw [if_pos rfl] at p5
    refine post_bnd s3' p5 fun q2 σ4 m4 H4 u4 s4 s4' t4 p6 => ?_
    obtain ⟨dy', c3, p7⟩ := post_der s4.rel (RR.step s3.rel s4 (RR.step s2.rel s3 t2)) p6
    obtain ⟨dz, c4, p8⟩ := post_der s4.rel t4 p7
    obtain ⟨k2, e2, p9⟩ := post_ofO p8
    exact ⟨m4, dy', dz, .val (.bl k2), s4.rel.mH, c3, c4, by show Option.map _ _ = _; rw [e2]; rfl, post_made s4' p9⟩
theorem pt_cmp2' (sx : SX X L P W O c) {a b d : Expr} {x y z : E} {o1 o2 : CmpOp} {pos : Pos} (ha : PE X a (tE L W (ev P O x))) (hb : PE X b (tE L W (ev P O y))) (hd : PE X d (tE L W (ev P O z))) (h2 : behindInMarks o2 d = false) :
    PT X (.Compare a [o1, o2] [b, d] pos) (tT L W (evT P O (.tc2 o1 o2 x y z))) := by
  refine (pt_chain (op_cmp sx.lo.K sx.hu o1) (op_cmp sx.lo.K sx.hu o2) ha hb hd h2).mono fun τ H Q q => ?_
  obtain ⟨m, σ, rl, p⟩ := q
  simp only [evT] at p
  refine post_bnd0 rl p fun r σ1 m1 H1 v s1 t1 p1 => ?_
  refine post_bnd s1 p1 fun q σ2 m2 H2 u s2 s2' t2 p2 => ?_
  obtain ⟨dx, c1, p3⟩ := post_der s2.rel (RR.step s1.rel s2 t1) p2
  obtain ⟨dy, c2, p4⟩ := post_der s2.rel t2 p3
  obtain ⟨k, e, p5⟩ := post_ofO p4
  refine ⟨m2, dx, dy, .val (.bl k), s2.rel.mH, c1, c2, by show Option.map _ _ = _; rw [e]; rfl, fun w H3 md => ?_⟩
  obtain ⟨m3, s3, t3⟩ := md.step s2.rel
  have ew : w = .bl k := by have : RV L H3 m3 (.bl k) w := t3; simpa only [RV] using this
  refine ⟨k, ew, ?_⟩
  have s3' := s2'.trans s3
  cases k with
  | false => exact ⟨false, rfl, p5 m3 H3 false s3' rfl⟩
  | true =>
    rw [if_pos rfl] at p5
    refine post_bnd s3' p5 fun q2 σ4 m4 H4 u4 s4 s4' t4 p6 => ?_
    obtain ⟨dy', c3, p7⟩ := post_der s4.rel (RR.step s3.rel s4 (RR.step s2.rel s3 t2)) p6
    obtain ⟨dz, c4, p8⟩ := post_der s4.rel t4 p7
    obtain ⟨k2, e2, p9⟩ := post_ofO1 p8
    refine ⟨m4, dy', dz, .val (.bl k2), s4.rel.mH, c3, c4, by show Option.map _ _ = _; rw [e2]; rfl, fun w' H5 md' => ?_⟩
    obtain ⟨m5, s5, t5⟩ := md'.step s4.rel
    have ew' : w' = .bl k2 := by have : RV L H5 m5 (.bl k2) w' := t5; simpa only [RV] using this
    exact ⟨k2, ew', p9 m5 H5 k2 (s4'.trans s5) rfl⟩
end
end EV

set_option Elab.async false
set_option linter.all false
set_option maxRecDepth 100000
set_option maxHeartbeats 4000000
/-! ### what is walked -/
namespace EV
open PySem L2
section
variable {X : Cx} {L : Lk} {P : Prog} {W : WX} {O : Oc} {c : CC}

/-- the iterator gives these items, as long as what may not be written stays -/
def Jok (L : Lk) (J : It) (items : List D) (σ : List Sl) (τ : St) (m : Addr → Prop) (H : Hp) : Prop :=
  ∀ (H2 : Hp) (m2 : Addr → Prop), (∀ a o, H a = some o → ¬ Wr σ τ a → H2 a = some o ∧ (m2 a ↔ m a)) → (∀ a, m2 a → ∃ o, H2 a = some o) → ∀ i : Nat,
    (∀ d, items[i]? = some d → J.go i H2 ∧ ∀ x H3, J.yld i H2 x H3 → Grow H2 H3 ∧ RV L H3 m2 d x) ∧ (items.length ≤ i → J.stop i H2)
def TJ (L : Lk) : TL (List D × Option Nat) It := fun _ σ τ m H a J => Jok L J a.1 (lockS a.2 σ) τ m H
theorem PI.mono {tg e : Expr} {t t' : TI} (h : PI X tg e t) (k : ∀ σ H Q, t' σ H Q → t σ H Q) : PI X tg e t' := ⟨fun pins s σ H Q I q => h.run pins s σ H Q I (k σ H Q q)⟩
theorem PI.or {tg e : Expr} {t t' : TI} (h : PI X tg e t) (h' : PI X tg e t') : PI X tg e (fun σ H Q => t σ H Q ∨ t' σ H Q) := ⟨fun pins s σ H Q I q => q.elim (h.run pins s σ H Q I) (h'.run pins s σ H Q I)⟩
theorem kp_of {σ : List Sl} {τ : St} {m m2 : Addr → Prop} {H H2 : Hp} (rl : Rel L m H σ τ) (fr : ∀ a o, H a = some o → ¬ Wr σ τ a → H2 a = some o ∧ (m2 a ↔ m a)) : Kp H m H2 m2 := fun a o e hm => by
  obtain ⟨h1, h2⟩ := fr a o e fun z => hm (rl.ow z.ow)
  exact ⟨h1, fun z => hm (h2.mp z)⟩
theorem lock_get {l : Option Nat} {σ : List Sl} (j : Nat) : (lockS l σ)[j]? = (σ[j]?).map (fun s => if l = some j then (match s with | .own io _ d => .own io true d | s => s) else s) := by
  cases l with
  | none => simp only [lockS]; cases σ[j]? <;> simp
  | some i =>
    simp only [lockS]
    cases e : σ[i]? with
    | none =>
      dsimp only
      by_cases h : i = j
      · subst h; rw [e]; rfl
      · cases σ[j]? <;> simp [h]
    | some s =>
      cases s with
      | un =>
        dsimp only
        by_cases h : i = j
        · subst h; rw [e]; simp
        · cases σ[j]? <;> simp [h]
      | val d =>
        dsimp only
        by_cases h : i = j
        · subst h; rw [e]; simp
        · cases σ[j]? <;> simp [h]
      | own io lk d =>
        dsimp only
        have hl := (List.getElem?_eq_some_iff.mp e).1
        by_cases h : i = j
        · subst h; rw [List.getElem?_set_self hl, e]; simp
        · rw [List.getElem?_set_ne h]; cases σ[j]? <;> simp [h]
theorem lock_own {l : Option Nat} {σ : List Sl} {j : Nat} {io lk : Bool} {d : D} (h : (lockS l σ)[j]? = some (.own io lk d)) : ∃ lk', σ[j]? = some (.own io lk' d) ∧ (lk = false → lk' = false ∧ l ≠ some j) := by
  rw [lock_get] at h
  cases e : σ[j]? with
  | none => rw [e] at h; cases h
  | some s =>
    rw [e] at h
    simp only [Option.map_some] at h
    split at h
    · cases s with
      | own io' lk' d' => cases h; exact ⟨lk', rfl, fun z => by cases z⟩
      | un => cases h
      | val _ => cases h
    · rename_i hn
      cases h
      exact ⟨lk, rfl, fun z => ⟨z, hn⟩⟩
theorem own_lock {l : Option Nat} {σ : List Sl} {j : Nat} {io lk : Bool} {d : D} (h : σ[j]? = some (.own io lk d)) : (lockS l σ)[j]? = some (.own io (if l = some j then true else lk) d) := by
  rw [lock_get, h]
  simp only [Option.map_some]
  split <;> simp_all
theorem lock_val {l : Option Nat} {σ : List Sl} {j : Nat} {d : D} (h : (lockS l σ)[j]? = some (.val d)) : σ[j]? = some (.val d) := by
  rw [lock_get] at h
  cases e : σ[j]? with
  | none => rw [e] at h; cases h
  | some s =>
    rw [e] at h
    simp only [Option.map_some] at h
    split at h
    · cases s with
      | own io' lk' d' => cases h
      | un => cases h
      | val _ => cases h; rfl
    · cases h; rfl
theorem lock_len {l : Option Nat} {σ : List Sl} : (lockS l σ).length = σ.length := by
  cases l with
  | none => rfl
  | some i => simp only [lockS]; split <;> simp
theorem Rel.lock {σ : List Sl} {τ : St} {m : Addr → Prop} {H : Hp} (l : Option Nat) (rl : Rel L m H σ τ) : Rel L m H (lockS l σ) τ := by
  refine ⟨rl.mH, lock_len.trans rl.len, fun j d h => rl.val j d (lock_val h), fun j io lk d h => ?_, fun j k io lk io' lk' d e a h1 h2 h3 h4 => ?_⟩
  · obtain ⟨lk', h1, _⟩ := lock_own h
    exact rl.own j io lk' d h1
  · obtain ⟨_, g1, _⟩ := lock_own h1
    obtain ⟨_, g2, _⟩ := lock_own h2
    exact rl.inj _ _ _ _ _ _ _ _ _ g1 g2 h3 h4
/-- what is read through r is not to be written while it is walked -/
theorem no_wr {σ : List Sl} {τ : St} {m : Addr → Prop} {H H0 : Hp} (rl : Rel L m H σ τ) {r : R} {v : V} {d : D} {a : Addr} (rr : RR L H0 σ τ m H r v) (hd : der r σ = .ok d σ) {ds : List D} (hl : d = .lst ds) (ev : v = .ref a) : ¬ Wr (lockS (lkOf r σ) σ) τ a := by
  · subst hl
    rintro ⟨j, io, e, h1, h2⟩
    obtain ⟨lk', h3, h4⟩ := lock_own h1
    obtain ⟨e1, hne⟩ := h4 rfl
    subst e1
    have how : Ow σ τ a := ⟨j, io, false, e, h3, h2⟩
    cases r with
    | val d' =>
      unfold der at hd; cases hd
      have rv : RV L H m (.lst ds) v := rr
      simp only [RV] at rv
      obtain ⟨b, xs, e2, q, _⟩ := rv
      rw [ev] at e2; cases e2
      exact q.1 (rl.ow how)
    | tmp d' =>
      obtain ⟨b, e2, _, _, hno, _⟩ := rr
      rw [ev] at e2; cases e2
      exact hno how
    | bor i =>
      have h' : τ[i]? = some (some v) := rr
      unfold der at hd; dsimp only at hd
      cases q : σ[i]? with
      | none => rw [q] at hd; cases hd
      | some s =>
        rw [q] at hd
        cases s with
        | un => cases hd
        | val d' =>
          cases hd
          obtain ⟨u, g1, g2⟩ := rl.val i _ q
          rw [h'] at g1; cases g1
          simp only [RV] at g2
          obtain ⟨b, xs, e2, q2, _⟩ := g2
          rw [ev] at e2; cases e2
          exact q2.1 (rl.ow how)
        | own io' lk d' =>
          cases hd
          subst ev
          have := rl.inj _ _ _ _ _ _ _ _ _ h3 q h2 h'
          subst this
          rw [h3] at q; cases q
          apply hne
          unfold lkOf
          dsimp only
          rw [h3]
theorem jok_list {σ : List Sl} {τ : St} {m : Addr → Prop} {H : Hp} {a : Addr} {ds : List D} {xs : List V} (rl : Rel L m H σ τ) (hw : ¬ Wr σ τ a) (q : Rd H a (.lst xs)) (r : RVs L H m ds xs) : Jok L (Itl L.K a) ds σ τ m H := by
  intro H2 m2 fr mH i
  have sq : SqL L.K H2 a xs := by
    rcases q with q | ⟨o, q⟩
    · exact .inl (.inl (fr a _ q hw).1)
    · exact .inl (.inr ⟨o, (fr a _ q hw).1⟩)
  have r2 := RVs.mono (kp_of rl fr) _ _ r
  refine ⟨fun d hd => ?_, fun hi => ⟨xs, sq, by rw [← r.length]; exact hi⟩⟩
  obtain ⟨v, h1, h2⟩ := r2.get hd
  refine ⟨⟨xs, v, sq, h1⟩, fun x H3 y => ?_⟩
  obtain ⟨e, y⟩ := y
  subst e
  have := y xs sq
  rw [h1] at this; cases this
  exact ⟨fun _ _ e => e, h2⟩
theorem jok_tup {σ : List Sl} {τ : St} {m : Addr → Prop} {H : Hp} {v : V} {ds : List D} (rl : Rel L m H σ τ) (h : RV L H m (.tup ds) v) : ∃ a, v = .ref a ∧ (∃ xs, SqT L.K H a xs) ∧ Jok L (Itt L.K a) ds σ τ m H := by
  have h0 := h
  simp only [RV] at h
  obtain ⟨a, xs, e, q, r⟩ := h
  have sq0 : SqT L.K H a xs := by
    rcases q with q | q
    · exact .inl q.2
    · exact .inr q
  refine ⟨a, e, ⟨xs, sq0⟩, fun H2 m2 fr mH i => ?_⟩
  have kp := kp_of rl fr
  have sq : SqT L.K H2 a xs := by
    rcases q with q | q
    · exact .inl (kp.rd q.1 q.2).2
    · exact .inr q
  have r2 := RVs.mono kp _ _ r
  refine ⟨fun d hd => ?_, fun hi => ⟨xs, sq, by rw [← r.length]; exact hi⟩⟩
  obtain ⟨v, h1, h2⟩ := r2.get hd
  refine ⟨⟨xs, v, sq, h1⟩, fun x H3 y => ?_⟩
  obtain ⟨e, y⟩ := y
  subst e
  have := y xs sq
  rw [h1] at this; cases this
  exact ⟨fun _ _ e => e, h2⟩
theorem jok_str {σ : List Sl} {τ : St} {m : Addr → Prop} {H : Hp} (s : Str) : Jok L (Its s) (s.cps.toList.map fun c => D.str ⟨#[c]⟩) σ τ m H := by
  intro H2 m2 fr mH i
  refine ⟨fun d hd => ?_, fun hi => by show s.cps.size ≤ i; simpa using hi⟩
  rw [List.getElem?_map] at hd
  cases e : s.cps.toList[i]? with
  | none => rw [e] at hd; cases hd
  | some c =>
    rw [e] at hd; cases hd
    have hi : i < s.cps.size := by simpa using (List.getElem?_eq_some_iff.mp e).1
    refine ⟨hi, fun x H3 y => ?_⟩
    obtain ⟨e1, c', h1, h2⟩ := y
    subst e1
    have : s.cps[i]? = some c := by simpa using e
    rw [this] at h1; cases h1
    subst h2
    exact ⟨fun _ _ e => e, by simp only [RV]⟩
theorem jok_rng {σ : List Sl} {τ : St} {m : Addr → Prop} {H : Hp} (lo : Int) (n : Nat) : Jok L (Itr lo n) ((List.range n).map fun (k : Nat) => D.int (lo + (k : Int))) σ τ m H := by
  intro H2 m2 fr mH i
  refine ⟨fun d hd => ?_, fun hi => by show n ≤ i; simpa using hi⟩
  rw [List.getElem?_map] at hd
  cases e : (List.range n)[i]? with
  | none => rw [e] at hd; cases hd
  | some c =>
    rw [e] at hd; cases hd
    have hi : i < n := by simpa using (List.getElem?_eq_some_iff.mp e).1
    have : c = i := by
      rw [List.getElem?_range hi] at e; cases e; rfl
    subst this
    refine ⟨hi, fun x H3 y => ?_⟩
    obtain ⟨e1, h1⟩ := y
    subst e1; subst h1
    exact ⟨fun _ _ e => e, by simp only [RV]⟩
/-- a sequence that is walked -/
theorem pi_sq (sx : SX X L P W O c) {tg e : Expr} {x : E} (he : PE X e (tE L W (ev P O x))) : PI X tg e (tG L W (TJ L) (evI P O (.sq x))) := by
  refine PI.mono (PI.or (pi_list (tg := tg) he) (PI.or (pi_tup (tg := tg) he) (pi_str (tg := tg) he))) fun τ H R q => ?_
  obtain ⟨m, σ, rl, p⟩ := q
  simp only [evI] at p
  cases ee : ev P O x σ with
  | fail => unfold bnd at p; rw [ee] at p; exact p.elim
  | exc ex σ1 =>
    left
    refine ⟨m, σ, rl, ?_⟩
    unfold bnd at p; rw [ee] at p ⊢; exact p
  | ok r σ1 =>
    cases ed : der r σ1 with
    | fail => unfold bnd at p; rw [ee] at p; dsimp only at p; rw [ed] at p; exact p.elim
    | exc ex σ2 => unfold der at ed; cases r with
      | val d => cases ed
      | tmp d => cases ed
      | bor i => dsimp only at ed; split at ed <;> cases ed
    | ok d σ2 =>
      have e12 : σ2 = σ1 := by
        unfold der at ed; cases r with
        | val d => cases ed; rfl
        | tmp d => cases ed; rfl
        | bor i => dsimp only at ed; split at ed <;> cases ed <;> rfl
      subst e12
      have key : ∀ (K : V → Hp → Prop), (∀ m1 H1 v, Step L σ τ m H σ2 τ m1 H1 → RR L H σ2 τ m1 H1 r v → K v H1) → tE L W (ev P O x) τ H K := fun K k => by
        refine ⟨m, σ, rl, ?_⟩
        rw [ee]
        exact k
      have p2 : ∀ xs, itemsF d = some xs → ∀ m1 H1 J, Step L σ τ m H σ2 τ m1 H1 → Jok L J xs (lockS (lkOf r σ2) σ2) τ m1 H1 → R J H1 := fun xs ex => by
        unfold bnd at p; rw [ee] at p; dsimp only at p; rw [ed] at p; dsimp only at p; rw [ex] at p
        exact p
      cases d with
      | lst ds =>
        left
        refine key _ fun m1 H1 v s1 t1 => ?_
        obtain ⟨_, c1⟩ := der_ok s1.rel t1 ed
        obtain ⟨a, xs, e1, q1, r1⟩ := c1.lst'
        have hw := no_wr s1.rel t1 ed rfl e1
        refine ⟨a, e1, ⟨xs, .inl q1⟩, ?_⟩
        have := p2 ds rfl m1 H1 (Itl L.K a) s1 (jok_list (s1.rel.lock _) hw q1 r1)
        rw [sx.lo.K]; exact this
      | tup ds =>
        right; left
        refine key _ fun m1 H1 v s1 t1 => ?_
        obtain ⟨_, c1⟩ := der_ok s1.rel t1 ed
        obtain ⟨a, e1, h1, h2⟩ := jok_tup (s1.rel.lock (lkOf r σ2)) (c1.rv (by intros; simp) (by intros; simp))
        refine ⟨a, e1, by rw [sx.lo.K]; exact h1, ?_⟩
        rw [sx.lo.K]
        exact p2 ds rfl m1 H1 (Itt L.K a) s1 h2
      | str s =>
        right; right
        refine key _ fun m1 H1 v s1 t1 => ?_
        obtain ⟨_, c1⟩ := der_ok s1.rel t1 ed
        exact ⟨s, c1.str, p2 _ rfl m1 H1 (Its s) s1 (jok_str s)⟩
      | _ => unfold bnd at p; rw [ee] at p; dsimp only at p; rw [ed] at p; exact p.elim
theorem rel_ders {σ σ1 : List Sl} {τ : St} {m m1 : Addr → Prop} {H H1 : Hp} : True := trivial
/-- range(..) -/
theorem pi_rng' (sx : SX X L P W O c) {tg : Expr} {es : List Expr} {a : E} {p pos : Pos} (hg : isGlb c "range" = true) (hk : c.kd "range" = none) (hs : noStar es = true) (ha : PA X es (tA L W (evA P O a))) (hl : es.length = 1 ∨ es.length = 2) (he : ∀ τ H K, tA L W (evA P O a) τ H K → tA L W (evA P O a) τ H fun vs H1 => vs.length = es.length ∧ K vs H1) :
    PI X tg (.Call (.Name "range" p) es [] pos) (tG L W (TJ L) (evI P O (.rng a))) := by
  have gl := gl_of sx hg
  have hm := sx.rng hk
  have go : ∀ τ H R, tG L W (TJ L) (evI P O (.rng a)) τ H R → tA L W (evA P O a) τ H fun vs H1 => vs.length = es.length ∧ ∃ lo hi : Int, (vs = [.int hi] ∧ lo = 0 ∨ vs = [.int lo, .int hi]) ∧ (-(2 ^ 62) ≤ lo ∧ lo < 2 ^ 62 ∧ -(2 ^ 62) ≤ hi ∧ hi < 2 ^ 62) ∧ R (Itr lo (hi - lo).toNat) H1 := fun τ H R q => by
    obtain ⟨m, σ, rl, p⟩ := q
    simp only [evI] at p
    refine he _ _ _ (post_bnd0 rl p fun rs σ1 m1 H1 vs s1 t1 p1 => ?_)
    obtain ⟨ds, c1, p2⟩ := post_ders s1.rel t1 p1
    obtain ⟨xs, e, p3⟩ := post_ofO p2
    unfold rngF at e
    split at e
    · rename_i j
      obtain ⟨y, rfl, c2⟩ := pair1 c1
      split at e
      · rename_i hb
        cases e
        have hb' : -(2 ^ 62 : Int) ≤ j ∧ j < 2 ^ 62 := hb
        refine ⟨0, j, .inl ⟨by rw [c2.int], rfl⟩, by omega, ?_⟩
        have := p3 m1 H1 (Itr 0 (j - 0).toNat) s1 (by
          show Jok L _ _ _ τ m1 H1
          have z := jok_rng (L := L) (σ := lockS none σ1) (τ := τ) (m := m1) (H := H1) 0 j.toNat
          simpa using z)
        exact this
      · cases e
    · rename_i i j
      obtain ⟨y, z, rfl, c2, c3⟩ := pair2 c1
      split at e
      · rename_i hb
        cases e
        have hb' : (-(2 ^ 62 : Int) ≤ i ∧ i < 2 ^ 62) ∧ -(2 ^ 62 : Int) ≤ j ∧ j < 2 ^ 62 := hb
        refine ⟨i, j, .inr (by rw [c2.int, c3.int]), by omega, ?_⟩
        exact p3 m1 H1 (Itr i (j - i).toNat) s1 (jok_rng i (j - i).toNat)
      · cases e
    · cases e
  match es, hl with
  | [e], _ =>
    obtain ⟨h1, _⟩ := noStar_cons hs
    refine PI.mono (pi_range1 (tg := tg) gl hm ha (by rw [star_cons h1]; rfl)) fun τ H R q => ?_
    obtain ⟨m, σ, rl, p⟩ := go τ H R q
    refine ⟨m, σ, rl, post_imp p fun vs H1 h => ?_⟩
    obtain ⟨hl, lo, hi, h2, h3, h4⟩ := h
    rcases h2 with ⟨h2, h5⟩ | h2
    · subst h5; exact ⟨hi, h2, h3.2.2.1, h3.2.2.2, by simpa using h4⟩
    · rw [h2] at hl; simp at hl
  | [e, f], _ =>
    obtain ⟨h1, h2'⟩ := noStar_cons hs
    obtain ⟨h3', _⟩ := noStar_cons h2'
    refine PI.mono (pi_range2 (tg := tg) gl hm ha (by rw [star_cons h1, star_cons h3']; rfl) (by rw [star_cons h3']; rfl)) fun τ H R q => ?_
    obtain ⟨m, σ, rl, p⟩ := go τ H R q
    refine ⟨m, σ, rl, post_imp p fun vs H1 h => ?_⟩
    obtain ⟨hl, lo, hi, h2, h3, h4⟩ := h
    rcases h2 with ⟨h2, h5⟩ | h2
    · rw [h2] at hl; simp at hl
    · exact ⟨lo, hi, h2, h3, h4⟩
end
end EV

set_option Elab.async false
set_option linter.all false
set_option maxRecDepth 100000
set_option maxHeartbeats 4000000
/-! ### enumerate over a tuple -/
namespace EV
open PySem L2 PySem.Spec PyProof.Rows
theorem enumNew {y : Value} {ob : Obj} {Hh : Heap → Prop} (B : Begins y ob Hh) : Meets (Builtin.«enumerate.__new__» ⟨[.type "enumerate", y], []⟩)
    (fun _ R s => Hh s.heap ∧ R (.ok (.ret (.ref (s.heap.push ob).objs.size))) { s with heap := (s.heap.push ob).push { cls := .type "enumerate", data := .fields #[.none, .bool false, .ref s.heap.objs.size, rawInt 0, .none, .none] } }) :=
  .of_wp fun pr wd Ar R s h => by
    obtain ⟨hp, g, d, tk, os⟩ := s
    obtain ⟨h1, h⟩ := h
    have sb := sub_enumerate
    have it : ∀ {A' : Around} {E' : Value → Shared → Prop} {Q' : Value → Shared → Prop}, Q' (.ref hp.objs.size) ⟨hp.push ob, g, d, tk, os⟩ → wpAny (model pr wd) A' (pyIter y) Q' E' ⟨hp, g, d, tk, os⟩ := fun q => B.iter pr wd _ _ ⟨hp, g, d, tk, os⟩ _ h1 q
    wp_walk using it
    refine wpAny_stack_any fun st => wpAny_pure ?_
    split
    · rename_i c _ _ _ _ _
      cases (c == Value.type "enumerate") <;> (wp_walk using it; exact ⟨_, rfl, h⟩)
    · wp_walk using it; exact ⟨_, rfl, h⟩
section
variable {pr : Program} {wd : World} {Ar : Around} {E : Value → Shared → Prop} {s : Shared}
theorem enumCall {y : Value} {ob : Obj} {Hh : Heap → Prop} {Q : Value → Shared → Prop} (B : Begins y ob Hh) (h1 : Hh s.heap)
    (h : ∀ h', IsEnum h' (s.heap.objs.size + 1) s.heap.objs.size 0 .none → h'.get? s.heap.objs.size = some ob → (∀ b o, s.heap.get? b = some o → h'.get? b = some o) → Q (.ref (s.heap.objs.size + 1)) { s with heap := h' }) :
    wpAny (model pr wd) Ar (call (.type "enumerate") [y]) Q E s := by
  refine callType_new F.called_enumerate (by decide) (F.typeCall_enumerate_1 _) (F.newCall_enumerate_1 _) (fun obj => F.args_object_init_2 obj _) F.entry_enumerate_new (enumNew B) ⟨h1, ?_⟩
  have hz : (s.heap.push ob).objs.size = s.heap.objs.size + 1 := Heap.size_push ..
  show _ ∧ _
  rw [hz]
  have he := Heap.get?_push_size (s.heap.push ob) (o := { cls := .type "enumerate", data := .fields #[.none, .bool false, .ref s.heap.objs.size, rawInt 0, .none, .none] }) rfl
  rw [hz] at he
  exact ⟨⟨_, he, rfl⟩, h _ he (Heap.get?_push_of_some _ (Heap.get?_push_size _ B.free)) fun b o x => Heap.get?_push_of_some _ (Heap.get?_push_of_some _ x)⟩
end
def Iet (K : PySem.W.Frag) (a : Addr) : It :=
  ⟨fun i H => ∃ (xs : List V) (x : V), SqT K H a xs ∧ xs[i]? = some x, fun i H v H' => ∃ T x, v = .ref T ∧ H T = none ∧ H' = upd H T (.tup [.int (i : Nat), x]) ∧ ∀ xs, SqT K H a xs → xs[i]? = some x, fun i H => ∃ xs : List V, SqT K H a xs ∧ xs.length ≤ i⟩
theorem ietTurn {P : Program} {w : World} {K : PySem.W.Frag} {elts : List Expr} {kk : Nat} {tpos : Pos} (a e it : Addr) (hai : a ≠ it) (hae : e ≠ a) :
    Turn P w K (.Tuple elts kk tpos) (Iet K a) [e, it] e (fun i h => (∃ old, IsEnum h e it ((i : Nat) : Int) old) ∧ h.IsTupleIter it a i ∧ e ≠ it) where
  mem := by simp
  obj := fun i h st b hb => by
    obtain ⟨⟨old, he⟩, ⟨o, ho, hc, hd⟩, _⟩ := st
    rcases (by simpa using hb : b = e ∨ b = it) with z | z
    · rw [z]; exact ⟨_, he, fun v q => nomatch q⟩
    · rw [z]; exact ⟨o, ho, fun v q => by rw [hd] at q; cases q⟩
  keep := fun i h h' st k => by
    obtain ⟨⟨old, he⟩, hi, hne⟩ := st
    exact ⟨⟨old, k e (by simp) _ he⟩, hi.at fun o q => k it (by simp) o q, hne⟩
  item := by
    intro X hP hw hK hc i pins s σ H E I hf st hg
    subst hP hw hK
    obtain ⟨⟨old, he⟩, hit, hne⟩ := st
    obtain ⟨xs, x, hq, hx⟩ := hg
    obtain ⟨its, rv, p, hz⟩ := I.tuple hq
    obtain ⟨u, hu, ru⟩ := rv.get hx
    have hel : e < s.heap.objs.size := Heap.lt_size he
    have hil : it < s.heap.objs.size := by obtain ⟨_, q, _⟩ := hit; exact Heap.lt_size q
    have dr := Draws.tuple (prog := X.prog) (w := X.w) (A := X.A.in1) (I.ok.hd hc) it a hai its.toArray
    have hlt : i < its.toArray.size := by simpa using (List.getElem?_eq_some_iff.mp hu).1
    refine wpAny_pyNext_enum_itemD dr he ⟨hit, p⟩ hlt hne (by simp [hne, hae]) fun x' h' tk hx' ho hst' hT hsz hk => ?_
    obtain ⟨hit', _⟩ := hst'
    obtain rfl : x' = u := by
      have : its[i]? = some x' := by simpa using hx'
      rw [hu] at this; cases this; rfl
    refine ⟨_, rfl, wpAny_letOwnedTupleGo_enum (s := { s with heap := h', toks := tk + 1 }) ho fun h'' he' sb => ?_⟩
    have hT2 : h''.get? s.heap.objs.size = some { cls := .type "tuple", data := .seq #[.int i tk, x'] } := (sb.2 _ (Nat.ne_of_gt hel)).trans hT
    have new : ObjOk X.prog X.w (upd H s.heap.objs.size (.tup [.int (i : Nat), x])) h'' s.heap.objs.size (.tup [.int (i : Nat), x]) := ⟨by show 2 ≤ sizeLine; decide, [.int i tk, x'], .cons ⟨_, rfl⟩ (.cons ru .nil), ⟨_, hT2, rfl, _, rfl⟩⟩
    have I1 : Inv X pins σ (upd H s.heap.objs.size (.tup [.int (i : Nat), x])) { s with heap := h'', toks := tk + 1 } := I.turnedNew (ch := [e, it]) (fun b ob hb q => (sb.2 b (fun z => hb (by simp [z]))).trans (hk b ob (fun z => hb (by simp [z])) (fun z => hb (by simp [z])) q)) hf (Nat.le_refl _) new
    refine ⟨.ref s.heap.objs.size, _, I1, rfl, ⟨_, x, rfl, I.hok.fresh (Nat.le_refl _), rfl, fun ys hy => by rw [I.tuple_inj hy hq]; exact hx⟩, ⟨⟨x', ?_⟩, hit'.at fun o q => (sb.2 it (Ne.symm hne)).trans q, hne⟩, fun b hb => ?_⟩
    · have e1 : ((i + 1 : Nat) : Int) = (i : Int) + 1 := by omega
      rw [e1]; exact he'
    · have hb' : b < s.heap.objs.size := by
        rcases (by simpa using hb : b = e ∨ b = it) with z | z
        · rw [z]; exact hel
        · rw [z]; exact hil
      rw [upd_ne (Nat.ne_of_lt hb')]
      exact (hf b hb).1
  done := by
    intro X hP hw hK hc i pins s σ H E I hf st hg
    subst hP hw hK
    obtain ⟨⟨old, he⟩, hit, hne⟩ := st
    obtain ⟨xs, hq, hx⟩ := hg
    obtain ⟨its, rv, p, hz⟩ := I.tuple hq
    obtain ⟨f0, f1, f2, f3, f4, f5⟩ := hf it (by simp)
    have hl := rv.length
    have hT : s.TypeIs (.ref e) "enumerate" := ⟨_, he, rfl⟩
    unfold pyNext
    refine wpAny_bind (wpAny_attempt (wpAny_callSpecial?_slot (name := Str.ofString "__next__") hT F.slot_enumerate_next (wpAny_call_entry F.slot_enumerate_next hT F.entry_enumerate_next ?_ (F.args_enumerate_next_1 _))))
    show wpAny _ _ (field (.ref e) 2 >>= _) _ _ s
    refine wpAny_bind (wpAny_field he rfl (x := .ref it) rfl ?_)
    refine wpAny_bind (wpAny_nextOf_tuple_end (I.ok.hd hc) hit p (by simp; omega) fun h' x he' hx' => ?_)
    obtain ⟨o, ho, hc⟩ := hx'
    refine wpAny_bind (wpAny_isInstance (T := "StopIteration") (b := true) ⟨o, ho, hc⟩ isSubtype_stop ?_)
    exact wpAny_pure ⟨rfl, I.turned (t' := s.toks) (fun b o hb q => he' b o hb q) f0 f1 f3 f4 f5⟩
  self := fun A i s Q E st h => by
    obtain ⟨⟨_, he⟩, _⟩ := st
    exact wpAny_pyIter_enum he h
def iIet (K : PySem.W.Frag) (ta : TA) : TI := fun σ H R => ta σ H fun vs H1 => ∃ a xs, vs = [.ref a] ∧ SqT K H1 a xs ∧ R (Iet K a) H1
theorem pi_iet {X : Cx} {e : Expr} {ta : TA} {p pos tpos : Pos} {elts : List Expr} {kk : Nat} (hg : Gl X "enumerate") (hm : X.mg "enumerate" = none) (ha : PA X [e] ta) (hs : starEach [e] X.env = [(false, eval e X.env)]) :
    PI X (.Tuple elts kk tpos) (.Call (.Name "enumerate" p) [e] [] pos) (iIet X.K ta) := by
  refine ⟨fun pins s σ H R I h => ?_⟩
  refine Call_ (ld_blt I hg hm boot_enumerate (PyProof.Rows.callWith_type1 (thn (ha.run pos pins s σ H _ I h) fun us s1 ⟨vs, H1, I1, r1, q1⟩ => ?_) hs rfl))
  obtain ⟨a, xs, ex, hq, q⟩ := q1
  subst ex
  cases r1 with
  | cons r rr =>
    cases rr
    cases r
    obtain ⟨its, rv, p', hz⟩ := I1.tuple hq
    have hal : a < s1.heap.objs.size := by obtain ⟨_, q, _⟩ := (p' : s1.heap.IsTuple a its.toArray); exact Heap.lt_size q
    refine enumCall (begins_tuple a its.toArray) p' fun h' he hit hk => wpAny_pyIter_enum he ?_
    have I2 : Inv X pins σ H1 { s1 with heap := h' } := I1.kept (t' := s1.toks) hk
    refine ⟨s1.heap.objs.size + 1, [s1.heap.objs.size + 1, s1.heap.objs.size], _, _, H1, rfl, I2, ietTurn a (s1.heap.objs.size + 1) s1.heap.objs.size (Nat.ne_of_lt hal) (Nat.ne_of_gt (Nat.lt_succ_of_lt hal)), ⟨⟨.none, he⟩, ⟨_, hit, rfl, rfl⟩, Nat.succ_ne_self _⟩, fun b hb => ?_, q⟩
    have hle : s1.heap.objs.size ≤ b := by
      rcases (by simpa using hb : b = s1.heap.objs.size + 1 ∨ b = s1.heap.objs.size) with z | z
      · rw [z]; exact Nat.le_add_right _ _
      · rw [z]; exact Nat.le_refl _
    exact I1.fpOk hle (I1.hok.fresh hle)
end EV
namespace EV
open PySem L2
section
variable {X : Cx} {L : Lk} {P : Prog} {W : WX} {O : Oc} {c : CC}
theorem enumFrom_get (xs : List D) : ∀ n i : Nat, (enumFrom n xs)[i]? = (xs[i]?).map fun d => D.tup [.int ((n + i : Nat) : Int), d] := by
  induction xs with
  | nil => intro n i; simp [enumFrom]
  | cons d ds ih =>
    intro n i
    unfold enumFrom
    cases i with
    | zero => simp
    | succ i =>
      simp only [List.getElem?_cons_succ]
      rw [ih]
      have : n + 1 + i = n + (i + 1) := by omega
      rw [this]
theorem enumFrom_len (xs : List D) : ∀ n : Nat, (enumFrom n xs).length = xs.length := by
  induction xs with
  | nil => intro n; rfl
  | cons d ds ih => intro n; simp [enumFrom, ih]
/-- a new pair is data -/
theorem rv_pair {H2 : Hp} {m2 : Addr → Prop} {T : Addr} {i : Nat} {d : D} {x : V} (mH : ∀ a, m2 a → ∃ o, H2 a = some o) (hT : H2 T = none) (r : RV L H2 m2 d x) :
    Grow H2 (upd H2 T (.tup [.int (i : Nat), x])) ∧ RV L (upd H2 T (.tup [.int (i : Nat), x])) m2 (.tup [.int ((0 + i : Nat) : Int), d]) (.ref T) := by
  have g : Grow H2 (upd H2 T (.tup [.int (i : Nat), x])) := fun b o e => by
    have : b ≠ T := fun z => by subst z; rw [hT] at e; cases e
    rw [upd_ne this]; exact e
  refine ⟨g, ?_⟩
  have nm : ¬ m2 T := fun z => by obtain ⟨o, e⟩ := mH T z; rw [hT] at e; cases e
  have kp : Kp H2 m2 (upd H2 T (.tup [.int (i : Nat), x])) m2 := fun b o e hm => ⟨g b o e, hm⟩
  have r2 := RV.mono kp _ _ r
  simp only [RV]
  refine ⟨T, [.int (i : Nat), x], rfl, .inl ⟨nm, .inl (by simp [upd])⟩, ?_⟩
  simp only [RVs]
  exact ⟨_, _, rfl, by simp only [RV]; simp, _, _, rfl, r2, rfl⟩
theorem jok_enl {σ : List Sl} {τ : St} {m : Addr → Prop} {H : Hp} {a : Addr} {ds : List D} {xs : List V} (rl : Rel L m H σ τ) (hw : ¬ Wr σ τ a) (q : Rd H a (.lst xs)) (r : RVs L H m ds xs) : Jok L (Ite L.K a) (enumFrom 0 ds) σ τ m H := by
  intro H2 m2 fr mH i
  have sq : SqL L.K H2 a xs := by
    rcases q with q | ⟨o, q⟩
    · exact .inl (.inl (fr a _ q hw).1)
    · exact .inl (.inr ⟨o, (fr a _ q hw).1⟩)
  have r2 := RVs.mono (kp_of rl fr) _ _ r
  refine ⟨fun d hd => ?_, fun hi => ⟨xs, sq, by rw [← r.length, ← enumFrom_len ds 0]; exact hi⟩⟩
  rw [enumFrom_get] at hd
  cases e0 : ds[i]? with
  | none => rw [e0] at hd; cases hd
  | some d0 =>
    rw [e0] at hd
    cases hd
    obtain ⟨v, h1, h2⟩ := r2.get e0
    refine ⟨⟨xs, v, sq, h1⟩, fun x H3 y => ?_⟩
    obtain ⟨T, x0, e, hT, e2, y⟩ := y
    subst e; subst e2
    have := y xs sq
    rw [h1] at this; cases this
    exact rv_pair mH hT h2
theorem jok_ent {σ : List Sl} {τ : St} {m : Addr → Prop} {H : Hp} {v : V} {ds : List D} (rl : Rel L m H σ τ) (h : RV L H m (.tup ds) v) : ∃ a, v = .ref a ∧ (∃ xs, SqT L.K H a xs) ∧ Jok L (Iet L.K a) (enumFrom 0 ds) σ τ m H := by
  simp only [RV] at h
  obtain ⟨a, xs, e, q, r⟩ := h
  have sq0 : SqT L.K H a xs := by
    rcases q with q | q
    · exact .inl q.2
    · exact .inr q
  refine ⟨a, e, ⟨xs, sq0⟩, fun H2 m2 fr mH i => ?_⟩
  have kp := kp_of rl fr
  have sq : SqT L.K H2 a xs := by
    rcases q with q | q
    · exact .inl (kp.rd q.1 q.2).2
    · exact .inr q
  have r2 := RVs.mono kp _ _ r
  refine ⟨fun d hd => ?_, fun hi => ⟨xs, sq, by rw [← r.length, ← enumFrom_len ds 0]; exact hi⟩⟩
  rw [enumFrom_get] at hd
  cases e0 : ds[i]? with
  | none => rw [e0] at hd; cases hd
  | some d0 =>
    rw [e0] at hd
    cases hd
    obtain ⟨v, h1, h2⟩ := r2.get e0
    refine ⟨⟨xs, v, sq, h1⟩, fun x H3 y => ?_⟩
    obtain ⟨T, x0, e, hT, e2, y⟩ := y
    subst e; subst e2
    have := y xs sq
    rw [h1] at this; cases this
    exact rv_pair mH hT h2
theorem pi_enm' (sx : SX X L P W O c) {tg e : Expr} {x : E} {p pos : Pos} (ht : isTup tg = true) (hg : isGlb c "enumerate" = true) (hk : c.kd "enumerate" = none) (hs : isStar e = false) (he : PE X e (tE L W (ev P O x))) :
    PI X tg (.Call (.Name "enumerate" p) [e] [] pos) (tG L W (TJ L) (evI P O (.enm x))) := by
  have gl := gl_of sx hg
  have hm := sx.enm hk
  have hse : starEach [e] X.env = [(false, eval e X.env)] := by rw [star_cons hs]; rfl
  have ha : PA X [e] (tA L W (evA P O (.arg x .nil))) := pa_arg he pa_nil' hs
  cases tg with
  | Tuple elts kk tpos =>
    refine PI.mono (PI.or (pi_enum (p := p) (pos := pos) (elts := elts) (kk := kk) (tpos := tpos) gl hm ha hse) (pi_iet (p := p) (pos := pos) (elts := elts) (kk := kk) (tpos := tpos) gl hm ha hse)) fun τ H R q => ?_
    obtain ⟨m, σ, rl, p⟩ := q
    simp only [evI] at p
    cases ee : ev P O x σ with
    | fail => unfold bnd at p; rw [ee] at p; exact p.elim
    | exc ex σ1 =>
      left
      refine ⟨m, σ, rl, ?_⟩
      simp only [evA]
      unfold bnd at p ⊢; rw [ee] at p ⊢; exact p
    | ok r σ1 =>
      cases ed : der r σ1 with
      | fail => unfold bnd at p; rw [ee] at p; dsimp only at p; rw [ed] at p; exact p.elim
      | exc ex σ2 => unfold der at ed; cases r with
        | val d => cases ed
        | tmp d => cases ed
        | bor i => dsimp only at ed; split at ed <;> cases ed
      | ok d σ2 =>
        have e12 : σ2 = σ1 := by
          unfold der at ed; cases r with
          | val d => cases ed; rfl
          | tmp d => cases ed; rfl
          | bor i => dsimp only at ed; split at ed <;> cases ed <;> rfl
        subst e12
        have key : ∀ (K : List V → Hp → Prop), (∀ m1 H1 v, Step L σ τ m H σ2 τ m1 H1 → RR L H σ2 τ m1 H1 r v → K [v] H1) → tA L W (evA P O (.arg x .nil)) τ H K := fun K k => by
          refine ⟨m, σ, rl, ?_⟩
          simp only [evA]
          unfold bnd
          rw [ee]
          dsimp only
          intro m1 H1 vs s1 t1
          obtain ⟨v, ws, e0, h, h0, _⟩ := t1
          rw [show ws = [] from h0] at e0
          subst e0
          exact k m1 H1 v s1 h
        have p2 : ∀ xs, itemsQ d = some xs → ∀ m1 H1 J, Step L σ τ m H σ2 τ m1 H1 → Jok L J (enumFrom 0 xs) (lockS (lkOf r σ2) σ2) τ m1 H1 → R J H1 := fun xs ex => by
          unfold bnd at p; rw [ee] at p; dsimp only at p; rw [ed] at p; dsimp only at p; rw [ex] at p
          exact p
        cases d with
        | lst ds =>
          left
          refine key _ fun m1 H1 v s1 t1 => ?_
          obtain ⟨_, c1⟩ := der_ok s1.rel t1 ed
          obtain ⟨a, xs, e1, q1, r1⟩ := c1.lst'
          have hw := no_wr s1.rel t1 ed rfl e1
          refine ⟨a, xs, by rw [e1], .inl q1, ?_⟩
          have := p2 ds rfl m1 H1 (Ite L.K a) s1 (jok_enl (s1.rel.lock _) hw q1 r1)
          rw [sx.lo.K]; exact this
        | tup ds =>
          right
          refine key _ fun m1 H1 v s1 t1 => ?_
          obtain ⟨_, c1⟩ := der_ok s1.rel t1 ed
          obtain ⟨a, e1, ⟨xs, h1⟩, h2⟩ := jok_ent (s1.rel.lock (lkOf r σ2)) (c1.rv (by intros; simp) (by intros; simp))
          refine ⟨a, xs, by rw [e1], by rw [sx.lo.K]; exact h1, ?_⟩
          rw [sx.lo.K]
          exact p2 ds rfl m1 H1 (Iet L.K a) s1 h2
        | _ => unfold bnd at p; rw [ee] at p; dsimp only at p; rw [ed] at p; exact p.elim
  | _ => simp [isTup] at ht
end
end EV

set_option Elab.async false
set_option linter.all false
set_option maxRecDepth 100000
set_option maxHeartbeats 4000000
/-! ### targets, comprehensions -/
namespace EV
open PySem L2
section
variable {X : Cx} {L : Lk} {P : Prog} {W : WX} {O : Oc} {c : CC}

/-- a slot that may be set -/
def openS : Sl → Bool
  | .own true _ _ => false
  | .own _ true _ => false
  | _ => true
theorem put_ok {i : Nat} {s : Sl} {σ σ' : List Sl} (h : put i s σ = .ok () σ') : ∃ s0, σ[i]? = some s0 ∧ openS s0 = true ∧ σ' = σ.set i s := by
  unfold put at h
  split at h
  · cases h
  · cases h
  · cases h
  · rename_i h1 h2 h3
    cases h
    cases e : σ[i]? with
    | none => exact absurd e h1
    | some s0 =>
      refine ⟨s0, rfl, ?_, rfl⟩
      cases s0 with
      | un => rfl
      | val d => rfl
      | own io lk d =>
        cases io with
        | true => exact absurd e (h2 lk d)
        | false =>
          cases lk with
          | true => exact absurd e (h3 false d)
          | false => rfl
theorem put_res {i : Nat} {s : Sl} {σ : List Sl} : put i s σ = .fail ∨ ∃ σ', put i s σ = .ok () σ' := by
  unfold put
  split
  · exact .inl rfl
  · exact .inl rfl
  · exact .inl rfl
  · exact .inr ⟨_, rfl⟩
/-- a slot is set, to data or to a new object -/
theorem step_put {σ0 σ : List Sl} {τ0 τ : St} {m0 m : Addr → Prop} {H0 H : Hp} {i : Nat} {s0 sl : Sl} {v : V} (s : Step L σ0 τ0 m0 H0 σ τ m H) (h0 : σ[i]? = some s0) (ho : openS s0 = true)
    (new : (∃ d, sl = .val d ∧ RV L H m d v) ∨ ∃ d, sl = .own false false d ∧ RR L H0 σ τ m H (.tmp d) v) : Step L σ0 τ0 m0 H0 (σ.set i sl) (τ.set i (some v)) m H := by
  have hi := (List.getElem?_eq_some_iff.mp h0).1
  have hiτ : i < τ.length := by rw [← s.rel.len]; exact hi
  have tne : ∀ {j : Nat}, j ≠ i → (τ.set i (some v))[j]? = τ[j]? := fun h => List.getElem?_set_ne (Ne.symm h)
  have teq : (τ.set i (some v))[i]? = some (some v) := List.getElem?_set_self hiτ
  have key : ∀ {j : Nat} {io lk : Bool} {d : D} {a : Addr}, (σ.set i sl)[j]? = some (.own io lk d) → (τ.set i (some v))[j]? = some (some (V.ref a)) →
      (j ≠ i ∧ σ[j]? = some (.own io lk d) ∧ τ[j]? = some (some (V.ref a))) ∨ (j = i ∧ io = false ∧ lk = false ∧ v = .ref a ∧ H0 a = none ∧ m a ∧ ¬ Ow σ τ a ∧ RO L H m a d) := by
    intro j io lk d a h1 h2
    rcases set_get h1 with ⟨e1, e2, _⟩ | ⟨hn, h3⟩
    · subst e1
      rw [teq] at h2; cases h2
      rcases new with ⟨d', e3, _⟩ | ⟨d', e3, b, e4, h4, h5, h6, h7⟩
      · rw [e3] at e2; cases e2
      · rw [e3] at e2; cases e2; cases e4
        exact .inr ⟨rfl, rfl, rfl, rfl, h4, h5, h6, h7⟩
    · rw [tne hn] at h2
      exact .inl ⟨hn, h3, h2⟩
  refine ⟨⟨s.rel.mH, by simp [s.rel.len], fun j d h => ?_, fun j io lk d h => ?_, fun j k io lk io' lk' d e a h1 h2 h3 h4 => ?_⟩, s.frame, fun a h => ?_, fun a h => ?_, fun j lk d h => ?_, fun j io d h => ?_, s.dom⟩
  · rcases set_get h with ⟨e1, e2, _⟩ | ⟨hn, h3⟩
    · subst e1
      rcases new with ⟨d', e3, h4⟩ | ⟨d', e3, _⟩
      · rw [e3] at e2; cases e2; exact ⟨v, teq, h4⟩
      · rw [e3] at e2; cases e2
    · obtain ⟨u, h4, h5⟩ := s.rel.val j d h3
      exact ⟨u, by rw [tne hn]; exact h4, h5⟩
  · rcases set_get h with ⟨e1, e2, _⟩ | ⟨hn, h3⟩
    · subst e1
      rcases new with ⟨d', e3, h4⟩ | ⟨d', e3, b, e4, h4, h5, h6, h7⟩
      · rw [e3] at e2; cases e2
      · rw [e3] at e2; cases e2; exact ⟨b, by rw [teq, e4], h5, h7⟩
    · obtain ⟨a, h4, h5, h6⟩ := s.rel.own j io lk d h3
      exact ⟨a, by rw [tne hn]; exact h4, h5, h6⟩
  · rcases key h1 h3 with ⟨n1, g1, g2⟩ | ⟨e1, _, _, _, _, _, g1, _⟩ <;> rcases key h2 h4 with ⟨n2, g3, g4⟩ | ⟨e2, _, _, _, _, _, g3, _⟩
    · exact s.rel.inj _ _ _ _ _ _ _ _ _ g1 g3 g2 g4
    · exact absurd ⟨j, io, lk, d, g1, g2⟩ g3
    · exact absurd ⟨k, io', lk', e, g3, g4⟩ g1
    · rw [e1, e2]
  · obtain ⟨j, io, lk, d, h1, h2⟩ := h
    rcases key h1 h2 with ⟨_, g1, g2⟩ | ⟨_, _, _, _, g, _⟩
    · exact s.own a ⟨j, io, lk, d, g1, g2⟩
    · exact .inr g
  · obtain ⟨j, io, d, h1, h2⟩ := h
    rcases key h1 h2 with ⟨_, g1, g2⟩ | ⟨_, _, _, _, g, _⟩
    · exact s.wr a ⟨j, io, d, g1, g2⟩
    · exact .inr g
  · obtain ⟨e1, e, h1⟩ := s.io j lk d h
    have hn : j ≠ i := by rintro rfl; rw [h0] at h1; cases h1; cases ho
    exact ⟨by rw [tne hn]; exact e1, e, by rw [List.getElem?_set_ne (Ne.symm hn)]; exact h1⟩
  · obtain ⟨e1, h1⟩ := s.lkd j io d h
    have hn : j ≠ i := by rintro rfl; rw [h0] at h1; cases h1; cases io <;> cases ho
    exact ⟨by rw [tne hn]; exact e1, by rw [List.getElem?_set_ne (Ne.symm hn)]; exact h1⟩

/-- τ' is τ but at these slots -/
def Agree (ws : List Nat) (τ τ' : St) : Prop := τ'.length = τ.length ∧ ∀ j : Nat, j ∉ ws → τ'[j]? = τ[j]?
def tTg (L : Lk) (t : Tg) : TG := fun v τ H Q => ∃ m σ σ0 τ0 m0 H0 d σ', Step L σ0 τ0 m0 H0 σ τ m H ∧ RV L H m d v ∧ asg t d σ = .ok () σ' ∧ ∀ τ', Step L σ0 τ0 m0 H0 σ' τ' m H → Agree (slots t) τ τ' → Q τ' H
def tTgs (L : Lk) (t : Tg) : TGs := fun vs τ H Q => ∃ m σ σ0 τ0 m0 H0 ds σ', Step L σ0 τ0 m0 H0 σ τ m H ∧ RVs L H m ds vs ∧ asgs t ds σ = .ok () σ' ∧ ∀ τ', Step L σ0 τ0 m0 H0 σ' τ' m H → Agree (slots t) τ τ' → Q τ' H
theorem pg_imp {e : Expr} {t t' : TG} (h : PG X e t) (k : ∀ v σ H Q, t' v σ H Q → t v σ H Q) : PG X e t' := ⟨fun pins s σ H v u Q I r q => h.run pins s σ H v u Q I r (k v σ H Q q)⟩
theorem pgs_imp {e : List Expr} {t t' : TGs} (h : PGs X e t) (k : ∀ v σ H Q, t' v σ H Q → t v σ H Q) : PGs X e t' := ⟨fun pins s σ H v u Q I r q => h.run pins s σ H v u Q I r (k v σ H Q q)⟩
theorem pg_bad {e : Expr} {t : Tg} (h : ∀ d σ σ', asg t d σ ≠ .ok () σ') : PG X e (tTg L t) := ⟨fun pins s σ H v u Q I r q => by
  obtain ⟨m, σ', _, _, _, _, d, σ'', _, _, e, _⟩ := q
  exact absurd e (h _ _ _)⟩
theorem pg_nm (hN : X.N.Nodup) {x : Str} {i : Nat} {pos : Pos} (hi : X.N[i]? = some x) (hx : Loc X.env.scope x) (hf : X.fn x = true ∨ X.env.scope.names.lookup x = some .local) : PG X (.Name x pos) (tTg L (.name i)) :=
  pg_imp (pg_name hN hi hx hf) fun v τ H Q q => by
    obtain ⟨m, σ, σ0, τ0, m0, H0, d, σ', s, rv, e, k⟩ := q
    simp only [asg] at e
    obtain ⟨s0, h1, h2, h3⟩ := put_ok e
    subst h3
    exact k _ (step_put s h1 h2 (.inl ⟨d, rfl, rv⟩)) ⟨by simp, fun j hj => List.getElem?_set_ne (by simp [slots] at hj; exact Ne.symm hj)⟩
theorem asgs_len : ∀ {t : Tg} {ds : List D} {σ σ' : List Sl} {n : Nat}, asgs t ds σ = .ok () σ' → (∀ (c : CC) (es : List Expr), t = tgsC c es → ds.length = es.length) := by
  intro t ds σ σ' n h c es e
  subst e
  clear n
  induction es generalizing ds σ with
  | nil => cases ds with
    | nil => rfl
    | cons d ds => simp only [tgsC, asgs] at h; cases h
  | cons a es ih => cases ds with
    | nil => simp only [tgsC, asgs] at h; cases h
    | cons d ds =>
      simp only [tgsC, asgs] at h
      unfold bnd at h
      cases q : asg (tgC c a) d σ with
      | ok u s => rw [q] at h; rw [List.length_cons, List.length_cons, ih h]
      | exc x s => rw [q] at h; cases h
      | fail => rw [q] at h; cases h
theorem as_len {env : Env} : ∀ {es : List Expr}, (assignEach es env).length = es.length
  | [] => rfl
  | e :: es => by cases e <;> simp only [assignEach, List.length_cons, as_len]
theorem as_none {env : Env} : ∀ {es : List Expr}, noStar es = true → (assignEach es env).findIdx? (·.1) = none
  | [], _ => rfl
  | e :: es, h => by
    obtain ⟨h1, h2⟩ := noStar_cons h
    have ih := as_none (env := env) h2
    rw [List.findIdx?_eq_none_iff] at ih ⊢
    intro x hx
    have : assignEach (e :: es) env = (false, assign e env) :: assignEach es env := by cases e <;> first | rfl | (simp [isStar] at h1)
    rw [this] at hx
    rcases List.mem_cons.mp hx with rfl | hx
    · rfl
    · exact ih x hx
mutual
theorem pg_all (sx : SX X L P W O c) : ∀ (e : Expr), PG X e (tTg L (tgC c e))
  | .Name x pos => by
    unfold tgC
    cases hk : c.sc.names.lookup x with
    | none => exact pg_bad fun _ _ _ h => by simp [asg, stuck] at h
    | some k =>
      have hk' : X.env.scope.names.lookup x = some k := by rw [sx.sc]; exact hk
      cases k with
      | «local» =>
        dsimp only
        split
        · cases hi : c.N.idxOf? x with
          | none => exact pg_bad fun _ _ _ h => by simp [asg, stuck] at h
          | some i => exact pg_nm sx.nd (by rw [sx.N]; exact idx_get hi) (.inl hk') (.inr hk')
        · exact pg_bad fun _ _ _ h => by simp [asg, stuck] at h
      | cell =>
        dsimp only
        split
        · rename_i hc
          rw [Bool.and_eq_true] at hc
          cases hi : c.N.idxOf? x with
          | none => exact pg_bad fun _ _ _ h => by simp [asg, stuck] at h
          | some i => exact pg_nm sx.nd (by rw [sx.N]; exact idx_get hi) (.inr hk') (.inl (by rw [sx.fnX]; exact hc.2))
        · exact pg_bad fun _ _ _ h => by simp [asg, stuck] at h
      | _ => exact pg_bad fun _ _ _ h => by simp [asg, stuck] at h
  | .Tuple es k pos => by
    have hs := pgs_all sx es
    unfold tgC
    split
    · rename_i hn
      refine pg_imp (pg_tup (n := (assignEach es X.env).length) sx.calm hs rfl (as_none hn)) fun v τ H Q q => ?_
      obtain ⟨m, σ, σ0, τ0, m0, H0, d, σ', s, rv, e, kk⟩ := q
      cases d with
      | tup ds =>
        simp only [asg] at e
        obtain ⟨a, xs, e1, q1, r1⟩ := RV.tup' rv
        refine ⟨a, xs, e1, by rw [sx.lo.K]; exact q1, ?_, m, σ, σ0, τ0, m0, H0, ds, σ', s, r1, e, kk⟩
        rw [← r1.length, asgs_len (n := 0) e c es rfl, as_len]
      | _ => simp [asg, stuck] at e
    · exact pg_bad fun _ _ _ h => by simp [asg, stuck] at h
  | .BoolOp .. | .NamedExpr .. | .BinOp .. | .UnaryOp .. | .Lambda .. | .IfExp .. | .Dict .. | .Set .. | .ListComp .. | .SetComp .. | .DictComp .. | .GeneratorExp .. | .Await .. | .Yield .. | .YieldFrom .. | .Compare .. | .Call .. | .FormattedValue .. | .JoinedStr .. | .Constant .. | .Attribute .. | .Subscript .. | .Starred .. | .List .. | .Slice .. => by
    exact pg_bad fun _ _ _ h => by simp [tgC, asg, stuck] at h
theorem pgs_all (sx : SX X L P W O c) : ∀ (es : List Expr), PGs X es (tTgs L (tgsC c es))
  | [] => by
    refine pgs_imp pgs_nil fun vs τ H Q q => ?_
    obtain ⟨m, σ, σ0, τ0, m0, H0, ds, σ', s, rv, e, kk⟩ := q
    cases ds with
    | nil =>
      simp only [tgsC, asgs, ret] at e
      cases e
      have : vs = [] := by simpa only [RVs] using rv
      exact ⟨this, kk τ s ⟨rfl, fun _ _ => rfl⟩⟩
    | cons d ds => simp [tgsC, asgs, stuck] at e
  | e :: es => by
    by_cases hst : isStar e = true
    · refine ⟨fun pins s σ H vs us Q I r q => ?_⟩
      obtain ⟨m, σ1, σ0, τ0, m0, H0, ds, σ', s, rv, e1, kk⟩ := q
      exfalso
      cases ds with
      | nil => simp [tgsC, asgs, stuck] at e1
      | cons d ds =>
        cases e <;> simp [isStar] at hst
        simp [tgsC, tgC, asgs, asg, stuck, bnd] at e1
    · have hst' : isStar e = false := by simpa using hst
      refine pgs_imp (pgs_cons (pg_all sx e) (pgs_all sx es) (by cases e <;> first | rfl | (simp [isStar] at hst'))) fun vs τ H Q q => ?_
      obtain ⟨m, σ, σ0, τ0, m0, H0, ds, σ', s, rv, e1, kk⟩ := q
      cases ds with
      | nil => simp [tgsC, asgs, stuck] at e1
      | cons d ds =>
        simp only [RVs] at rv
        obtain ⟨v, ws, ev, r1, r2⟩ := rv
        subst ev
        simp only [tgsC, asgs] at e1
        unfold bnd at e1
        cases q : asg (tgC c e) d σ with
        | exc x s => rw [q] at e1; cases e1
        | fail => rw [q] at e1; cases e1
        | ok u σ2 =>
          rw [q] at e1
          refine ⟨v, ws, rfl, m, σ, σ0, τ0, m0, H0, d, σ2, s, r1, q, fun τ2 s2 a2 => ?_⟩
          refine ⟨m, σ2, σ0, τ0, m0, H0, ds, σ', s2, r2, e1, fun τ3 s3 a3 => kk τ3 s3 ⟨a3.1.trans a2.1, fun j hj => ?_⟩⟩
          simp only [tgsC, slots, List.mem_append, not_or] at hj
          rw [a3.2 j hj.2, a2.2 j hj.1]
end
end
end EV

set_option Elab.async false
set_option linter.all false
set_option maxRecDepth 100000
set_option maxHeartbeats 4000000
/-! ### comprehensions -/
namespace EV
open PySem L2
section
variable {X : Cx} {L : Lk} {P : Prog} {W : WX} {O : Oc} {c : CC}

theorem wipeL_get : ∀ {ws : List Nat} {σ : List Sl} (j : Nat), (wipeL ws σ)[j]? = if j ∈ ws then (σ[j]?).map (fun _ => Sl.un) else σ[j]?
  | [], σ, j => by simp [wipeL]
  | w :: ws, σ, j => by
    simp only [wipeL]
    rw [List.getElem?_set, wipeL_get]
    have hl : (wipeL ws σ).length = σ.length := by
      clear wipeL_get
      induction ws with
      | nil => rfl
      | cons v vs ih => simp only [wipeL, List.length_set, ih]
    by_cases h : w = j
    · subst h
      rw [if_pos rfl, if_pos (List.mem_cons_self), hl]
      by_cases hw : w < σ.length
      · rw [if_pos hw, List.getElem?_eq_getElem hw]; rfl
      · rw [if_neg hw, List.getElem?_eq_none (by omega)]; rfl
    · rw [if_neg h]
      have : (j ∈ w :: ws) ↔ j ∈ ws := by simp [Ne.symm h]
      by_cases hj : j ∈ ws
      · rw [if_pos hj, if_pos (this.mpr hj)]
      · rw [if_neg hj, if_neg fun z => hj (this.mp z)]
theorem wipeL_len {ws : List Nat} {σ : List Sl} : (wipeL ws σ).length = σ.length := by
  induction ws with
  | nil => rfl
  | cons v vs ih => simp only [wipeL, List.length_set, ih]
theorem wipe_get : ∀ {ws : List Nat} {τ : St} (j : Nat), (wipe τ ws)[j]? = if j ∈ ws then (τ[j]?).map (fun _ => (none : Option V)) else τ[j]?
  | [], τ, j => by simp [wipe]
  | w :: ws, τ, j => by
    simp only [wipe]
    rw [List.getElem?_set, wipe_get, wipe_length]
    by_cases h : w = j
    · subst h
      rw [if_pos rfl, if_pos (List.mem_cons_self)]
      by_cases hw : w < τ.length
      · rw [if_pos hw, List.getElem?_eq_getElem hw]; rfl
      · rw [if_neg hw, List.getElem?_eq_none (by omega)]; rfl
    · rw [if_neg h]
      have : (j ∈ w :: ws) ↔ j ∈ ws := by simp [Ne.symm h]
      by_cases hj : j ∈ ws
      · rw [if_pos hj, if_pos (this.mpr hj)]
      · rw [if_neg hj, if_neg fun z => hj (this.mp z)]
theorem restL_get : ∀ {ws : List Nat} {σ0 σ : List Sl} (j : Nat), (restL ws σ0 σ)[j]? = if j ∈ ws then (σ[j]?).map (fun _ => σ0[j]?.getD Sl.un) else σ[j]?
  | [], σ0, σ, j => by simp [restL]
  | w :: ws, σ0, σ, j => by
    simp only [restL]
    rw [List.getElem?_set, restL_get]
    have hl : (restL ws σ0 σ).length = σ.length := by
      clear restL_get
      induction ws with
      | nil => rfl
      | cons v vs ih => simp only [restL, List.length_set, ih]
    by_cases h : w = j
    · subst h
      rw [if_pos rfl, if_pos (List.mem_cons_self), hl]
      by_cases hw : w < σ.length
      · rw [if_pos hw, show σ[w]? = some σ[w] from List.getElem?_eq_getElem hw]; rfl
      · rw [if_neg hw, show σ[w]? = none from List.getElem?_eq_none (by omega)]; rfl
    · rw [if_neg h]
      have : (j ∈ w :: ws) ↔ j ∈ ws := by simp [Ne.symm h]
      by_cases hj : j ∈ ws
      · rw [if_pos hj, if_pos (this.mpr hj)]
      · rw [if_neg hj, if_neg fun z => hj (this.mp z)]
theorem restL_len {ws : List Nat} {σ0 σ : List Sl} : (restL ws σ0 σ).length = σ.length := by
  induction ws with
  | nil => rfl
  | cons v vs ih => simp only [restL, List.length_set, ih]
theorem wipe_some' {ws : List Nat} {σ : List Sl} {j : Nat} {s : Sl} (h : (wipeL ws σ)[j]? = some s) (hs : s ≠ .un) : j ∉ ws ∧ σ[j]? = some s := by
  rw [wipeL_get] at h
  by_cases hj : j ∈ ws
  · rw [if_pos hj] at h
    cases e : σ[j]? with
    | none => rw [e] at h; cases h
    | some x => rw [e] at h; cases h; exact absurd rfl hs
  · rw [if_neg hj] at h; exact ⟨hj, h⟩
theorem wipe_out' {ws : List Nat} {τ : St} {j : Nat} (h : j ∉ ws) : (wipe τ ws)[j]? = τ[j]? := by rw [wipe_get, if_neg h]
theorem wipe_agree {ws ws' : List Nat} {τ τ' : St} (hs : ∀ w ∈ ws', w ∈ ws) (a : Agree ws' (wipe τ ws) τ') : wipe τ' ws = wipe τ ws := by
  apply List.ext_getElem?
  intro j
  rw [wipe_get, wipe_get]
  by_cases hj : j ∈ ws
  · rw [if_pos hj, if_pos hj]
    have hl : τ'.length = τ.length := by rw [a.1, wipe_length]
    by_cases h : j < τ.length
    · rw [List.getElem?_eq_getElem h, List.getElem?_eq_getElem (by omega)]; rfl
    · rw [List.getElem?_eq_none (by omega), List.getElem?_eq_none (by omega)]
  · rw [if_neg hj, if_neg hj, a.2 j fun z => hj (hs j z), wipe_out' hj]
/-- the block's own slots are wiped -/
theorem Rel.wiped {ws : List Nat} {σ : List Sl} {τ : St} {m : Addr → Prop} {H : Hp} (rl : Rel L m H σ τ) : Rel L m H (wipeL ws σ) (wipe τ ws) := by
  refine ⟨rl.mH, by rw [wipeL_len, wipe_length]; exact rl.len, fun j d h => ?_, fun j io lk d h => ?_, fun j k io lk io' lk' d e a h1 h2 h3 h4 => ?_⟩
  · obtain ⟨hj, h1⟩ := wipe_some' h (by simp)
    obtain ⟨v, h2, h3⟩ := rl.val j d h1
    exact ⟨v, by rw [wipe_out' hj]; exact h2, h3⟩
  · obtain ⟨hj, h1⟩ := wipe_some' h (by simp)
    obtain ⟨a, h2, h3⟩ := rl.own j io lk d h1
    exact ⟨a, by rw [wipe_out' hj]; exact h2, h3⟩
  · obtain ⟨hj, g1⟩ := wipe_some' h1 (by simp)
    obtain ⟨hk, g2⟩ := wipe_some' h2 (by simp)
    rw [wipe_out' hj] at h3
    rw [wipe_out' hk] at h4
    exact rl.inj _ _ _ _ _ _ _ _ _ g1 g2 h3 h4
theorem ow_wipe {ws : List Nat} {σ : List Sl} {τ : St} {a : Addr} (h : Ow (wipeL ws σ) (wipe τ ws) a) : Ow σ τ a := by
  obtain ⟨j, io, lk, d, h1, h2⟩ := h
  obtain ⟨hj, g1⟩ := wipe_some' h1 (by simp)
  rw [wipe_out' hj] at h2
  exact ⟨j, io, lk, d, g1, h2⟩
theorem wr_wipe {ws : List Nat} {σ : List Sl} {τ : St} {a : Addr} (h : Wr (wipeL ws σ) (wipe τ ws) a) : Wr σ τ a := by
  obtain ⟨j, io, d, h1, h2⟩ := h
  obtain ⟨hj, g1⟩ := wipe_some' h1 (by simp)
  rw [wipe_out' hj] at h2
  exact ⟨j, io, d, g1, h2⟩
theorem Step.wiped {ws : List Nat} {σ0 σ : List Sl} {τ0 τ : St} {m0 m : Addr → Prop} {H0 H : Hp} (s : Step L σ0 τ0 m0 H0 σ τ m H) (hw : ∀ w ∈ ws, ∀ io lk d, σ0[w]? ≠ some (.own io lk d)) : Step L σ0 τ0 m0 H0 (wipeL ws σ) (wipe τ ws) m H := by
  refine ⟨s.rel.wiped, s.frame, fun a h => s.own a (ow_wipe h), fun a h => s.wr a (wr_wipe h), fun j lk d h => ?_, fun j io d h => ?_, s.dom⟩
  · have hj : j ∉ ws := fun z => hw j z _ _ _ h
    obtain ⟨e1, e, h1⟩ := s.io j lk d h
    exact ⟨by rw [wipe_out' hj]; exact e1, e, by rw [wipeL_get, if_neg hj]; exact h1⟩
  · have hj : j ∉ ws := fun z => hw j z _ _ _ h
    obtain ⟨e1, h1⟩ := s.lkd j io d h
    exact ⟨by rw [wipe_out' hj]; exact e1, by rw [wipeL_get, if_neg hj]; exact h1⟩
/-- an object that no slot and no data looks at is written -/
theorem Step.updd {σ0 σ : List Sl} {τ0 τ : St} {m0 m : Addr → Prop} {H0 H : Hp} {D : Addr} {o : HO} (s : Step L σ0 τ0 m0 H0 σ τ m H) (h0 : H0 D = none) (hm : m D) (hn : ¬ Ow σ τ D) : Step L σ0 τ0 m0 H0 σ τ m (L2.upd H D o) ∧ Kp H m (L2.upd H D o) m := by
  have kp : Kp H m (L2.upd H D o) m := fun a u e hma => by
    have : a ≠ D := by rintro rfl; exact hma hm
    exact ⟨by rw [upd_ne this]; exact e, hma⟩
  refine ⟨⟨s.rel.kp (fun a ha => ?_) kp (fun _ h => h) (fun a u ha e => ?_), fun a u e hw => ?_, s.own, s.wr, s.io, s.lkd, fun a e => ?_⟩, kp⟩
  · by_cases h : a = D
    · subst h; exact ⟨o, upd_same⟩
    · obtain ⟨u, e⟩ := s.rel.mH a ha; exact ⟨u, by rw [upd_ne h]; exact e⟩
  · have : a ≠ D := by rintro rfl; exact hn ha
    rw [upd_ne this]; exact e
  · have : a ≠ D := by rintro rfl; rw [h0] at e; cases e
    obtain ⟨f1, f2⟩ := s.frame a u e hw
    exact ⟨by rw [upd_ne this]; exact f1, f2⟩
  · by_cases h : a = D
    · subst h; rw [upd_same] at e; cases e
    · rw [upd_ne h] at e; exact s.dom a e
theorem unlock_get {l : Option Nat} {σ : List Sl} (j : Nat) : (unlockS l σ)[j]? = (σ[j]?).map (fun s => if l = some j then (match s with | .own io _ d => .own io false d | s => s) else s) := by
  cases l with
  | none => simp only [unlockS]; cases σ[j]? <;> simp
  | some i =>
    simp only [unlockS]
    cases e : σ[i]? with
    | none =>
      dsimp only
      by_cases h : i = j
      · subst h; rw [e]; rfl
      · cases σ[j]? <;> simp [h]
    | some s =>
      cases s with
      | un =>
        dsimp only
        by_cases h : i = j
        · subst h; rw [e]; simp
        · cases σ[j]? <;> simp [h]
      | val d =>
        dsimp only
        by_cases h : i = j
        · subst h; rw [e]; simp
        · cases σ[j]? <;> simp [h]
      | own io lk d =>
        dsimp only
        have hl := (List.getElem?_eq_some_iff.mp e).1
        by_cases h : i = j
        · subst h; rw [List.getElem?_set_self hl, e]; simp
        · rw [List.getElem?_set_ne h]; cases σ[j]? <;> simp [h]
theorem unlock_len {l : Option Nat} {σ : List Sl} : (unlockS l σ).length = σ.length := by
  cases l with
  | none => rfl
  | some i => simp only [unlockS]; split <;> simp
theorem unlock_own {l : Option Nat} {σ : List Sl} {j : Nat} {io lk : Bool} {d : D} (h : (unlockS l σ)[j]? = some (.own io lk d)) : ∃ lk', σ[j]? = some (.own io lk' d) ∧ (l ≠ some j → lk' = lk) ∧ (l = some j → lk = false) := by
  rw [unlock_get] at h
  cases e : σ[j]? with
  | none => rw [e] at h; cases h
  | some s =>
    rw [e] at h
    simp only [Option.map_some] at h
    split at h
    · rename_i hl
      cases s with
      | own io' lk' d' => cases h; exact ⟨lk', rfl, fun z => absurd hl z, fun _ => rfl⟩
      | un => cases h
      | val _ => cases h
    · rename_i hn
      cases h
      exact ⟨lk, rfl, fun _ => rfl, fun z => absurd z hn⟩
theorem own_unlock {l : Option Nat} {σ : List Sl} {j : Nat} {io lk : Bool} {d : D} (h : σ[j]? = some (.own io lk d)) : (unlockS l σ)[j]? = some (.own io (if l = some j then false else lk) d) := by
  rw [unlock_get, h]
  simp only [Option.map_some]
  split <;> simp_all
theorem unlock_val {l : Option Nat} {σ : List Sl} {j : Nat} {d : D} (h : (unlockS l σ)[j]? = some (.val d)) : σ[j]? = some (.val d) := by
  rw [unlock_get] at h
  cases e : σ[j]? with
  | none => rw [e] at h; cases h
  | some s =>
    rw [e] at h
    simp only [Option.map_some] at h
    split at h
    · cases s with
      | own io' lk' d' => cases h
      | un => cases h
      | val _ => cases h; rfl
    · cases h; rfl
/-- from a walk's locked state back to the open one -/
theorem Step.unlock {σ σ' : List Sl} {τ τ' : St} {m m' : Addr → Prop} {H H' : Hp} {l : Option Nat} (hl : ∀ i, l = some i → ∃ io d, σ[i]? = some (.own io false d)) (s : Step L (lockS l σ) τ m H σ' τ' m' H') : Step L σ τ m H (unlockS l σ') τ' m' H' := by
  have lkd : ∀ i, l = some i → ∃ io d, σ[i]? = some (.own io false d) ∧ σ'[i]? = some (.own io true d) ∧ τ'[i]? = τ[i]? := fun i e => by
    obtain ⟨io, d, h⟩ := hl i e
    have h1 := own_lock (l := l) h
    rw [if_pos e] at h1
    obtain ⟨e1, h2⟩ := s.lkd i io d h1
    exact ⟨io, d, h, h2, e1⟩
  have ow_l : ∀ a, Ow (lockS l σ) τ a → Ow σ τ a := by
    rintro a ⟨j, io, lk, d, h1, h2⟩
    obtain ⟨lk', g1, _⟩ := lock_own h1
    exact ⟨j, io, lk', d, g1, h2⟩
  have wr_l : ∀ a, Wr (lockS l σ) τ a → Wr σ τ a := by
    rintro a ⟨j, io, d, h1, h2⟩
    obtain ⟨lk', g1, g2⟩ := lock_own h1
    obtain ⟨e, _⟩ := g2 rfl
    subst e
    exact ⟨j, io, d, g1, h2⟩
  refine ⟨⟨s.rel.mH, unlock_len.trans s.rel.len, fun j d h => s.rel.val j d (unlock_val h), fun j io lk d h => ?_, fun j k io lk io' lk' d e a h1 h2 h3 h4 => ?_⟩, fun a o e hw => s.frame a o e fun z => hw (wr_l a z), fun a h => ?_, fun a h => ?_, fun j lk d h => ?_, fun j io d h => ?_, s.dom⟩
  · obtain ⟨lk', h1, _⟩ := unlock_own h
    exact s.rel.own j io lk' d h1
  · obtain ⟨_, g1, _⟩ := unlock_own h1
    obtain ⟨_, g2, _⟩ := unlock_own h2
    exact s.rel.inj _ _ _ _ _ _ _ _ _ g1 g2 h3 h4
  · obtain ⟨j, io, lk, d, h1, h2⟩ := h
    obtain ⟨lk', g1, _⟩ := unlock_own h1
    rcases s.own a ⟨j, io, lk', d, g1, h2⟩ with z | z
    · exact .inl (ow_l a z)
    · exact .inr z
  · obtain ⟨j, io, d, h1, h2⟩ := h
    obtain ⟨lk', g1, g2, _⟩ := unlock_own h1
    by_cases e : l = some j
    · obtain ⟨io', d', k1, k2, k3⟩ := lkd j e
      rw [k3] at h2
      exact .inl ⟨j, io', d', k1, h2⟩
    · have := g2 e
      subst this
      rcases s.wr a ⟨j, io, d, g1, h2⟩ with z | z
      · exact .inl (wr_l a z)
      · exact .inr z
  · by_cases e : l = some j
    · obtain ⟨io', d', k1, k2, k3⟩ := lkd j e
      rw [k1] at h; cases h
      refine ⟨k3, d, ?_⟩
      rw [own_unlock k2, if_pos e]
    · have h1 := own_lock (l := l) h
      rw [if_neg e] at h1
      obtain ⟨e1, e', h2⟩ := s.io j lk d h1
      refine ⟨e1, e', ?_⟩
      rw [own_unlock h2, if_neg e]
  · have e : l ≠ some j := fun e => by
      obtain ⟨io', d', k1, _⟩ := lkd j e
      rw [k1] at h; cases h
    have h1 := own_lock (l := l) h
    rw [if_neg e] at h1
    obtain ⟨e1, h2⟩ := s.lkd j io d h1
    refine ⟨e1, ?_⟩
    rw [own_unlock h2, if_neg e]
theorem bnd_inv {α β : Type} {f : M α} {g : α → M β} {σ σ' : List Sl} {b : β} (h : bnd f g σ = .ok b σ') : ∃ a σ1, f σ = .ok a σ1 ∧ g a σ1 = .ok b σ' := by
  unfold bnd at h
  cases e : f σ with
  | ok a s => rw [e] at h; exact ⟨a, s, rfl, h⟩
  | exc x s => rw [e] at h; cases h
  | fail => rw [e] at h; cases h
theorem SX.blk (sx : SX X L P W O c) (s : Shared) (H : Hp) (scope : Scope) (cl : List (Str × Addr)) (C : Addr) (fp : List Addr) : SX (X.blk s H scope (compEnvC scope cl C X.env) fp) L P (fun _ _ _ _ => False) O (c.blk scope) where
  lo := ⟨sx.lo.K, sx.lo.isa, sx.lo.ins⟩
  calm := sx.calm
  nd := sx.nd
  N := sx.N
  sc := by show relS scope X.env.scope = relS scope c.sc; rw [sx.sc]
  fnX := rfl
  hu := sx.hu
  gu := sx.gu
  tk := takes0
  ctr := fun X' W' h => sx.ctr X' W' ⟨h.prog, h.w, h.K, h.mg, h.base, h.A, h.calm⟩
  dv := sx.dv
  con := sx.con
  ty := sx.ty
  bi := sx.bi
  fn := sx.fn
  cl := sx.cl
  rng := sx.rng
  enm := sx.enm
  att := sx.att
  nmj := sx.nmj
  fni := sx.fni
  kpc := sx.kpc
  kpf := sx.kpf
  own0 := sx.own0
  cls := sx.cls
  noat := sx.noat
  meth := sx.meth
  cons := sx.cons
  nmf := sx.nmf
theorem lk_own {r : R} {σ : List Sl} {i : Nat} (h : lkOf r σ = some i) : ∃ io d, σ[i]? = some (.own io false d) := by
  unfold lkOf at h
  cases r with
  | val d => cases h
  | tmp d => cases h
  | bor j =>
    dsimp only at h
    cases e : σ[j]? with
    | none => rw [e] at h; cases h
    | some s =>
      rw [e] at h
      cases s with
      | un => cases h
      | val d => cases h
      | own io lk d =>
        cases lk with
        | true => cases h
        | false => cases h; exact ⟨io, d, e⟩
/-- the slot that evI locks -/
theorem evI_lk {it : E} {σ σ1 : List Sl} {iz : List D × Option Nat} (h : evI P O it σ = .ok iz σ1) : ∀ i, iz.2 = some i → ∃ io d, σ1[i]? = some (.own io false d) := by
  intro i hi
  cases it with
  | rng es =>
    simp only [evI] at h
    obtain ⟨rs, s1, _, h⟩ := bnd_inv h
    obtain ⟨ds, s2, _, h⟩ := bnd_inv h
    obtain ⟨xs, s3, _, h⟩ := bnd_inv h
    cases h; cases hi
  | enm e =>
    simp only [evI] at h
    obtain ⟨rs, s1, _, h⟩ := bnd_inv h
    obtain ⟨ds, s2, _, h⟩ := bnd_inv h
    obtain ⟨xs, s3, _, h⟩ := bnd_inv h
    cases h; exact lk_own hi
  | sq e =>
    simp only [evI] at h
    obtain ⟨rs, s1, _, h⟩ := bnd_inv h
    obtain ⟨ds, s2, _, h⟩ := bnd_inv h
    obtain ⟨xs, s3, _, h⟩ := bnd_inv h
    cases h; exact lk_own hi
  | _ => simp [evI, stuck] at h
/-- behind a comprehension's block -/
theorem Step.unblock {ws : List Nat} {σ σE : List Sl} {τ : St} {m m' : Addr → Prop} {H H' : Hp} {l : Option Nat} (rl : Rel L m H σ τ) (hl : ∀ i, l = some i → ∃ io d, σ[i]? = some (.own io false d)) (hw : wipeOk ws σ = true)
    (s : Step L (wipeL ws (lockS l σ)) (wipe τ ws) m H (wipeL ws σE) (wipe τ ws) m' H') : Step L σ τ m H (unlockS l (restL ws σ σE)) τ m' H' := by
  have hws : ∀ w ∈ ws, ∃ x, σ[w]? = some x ∧ ∀ io lk d, x ≠ .own io lk d := fun w hw' => by
    unfold wipeOk at hw
    have := List.all_eq_true.mp hw w hw'
    cases e : σ[w]? with
    | none => rw [e] at this; cases this
    | some x =>
      rw [e] at this
      refine ⟨x, rfl, fun io lk d z => ?_⟩
      subst z; cases this
  have hlw : ∀ i, l = some i → i ∉ ws := fun i e hi => by
    obtain ⟨io, d, h⟩ := hl i e
    obtain ⟨x, h1, h2⟩ := hws i hi
    rw [h] at h1; cases h1; exact h2 _ _ _ rfl
  have rlw : Rel L m H (wipeL ws (lockS l σ)) (wipe τ ws) := (rl.lock l).wiped
  have lenE : σE.length = τ.length := by have := s.rel.len; rw [wipeL_len, wipe_length] at this; exact this
  have kp : Kp H m H' m' := s.kp rlw
  have getE : ∀ {j : Nat}, j ∉ ws → (wipeL ws σE)[j]? = σE[j]? := fun h => by rw [wipeL_get, if_neg h]
  have get0 : ∀ {j : Nat}, j ∉ ws → (wipeL ws (lockS l σ))[j]? = (lockS l σ)[j]? := fun h => by rw [wipeL_get, if_neg h]
  -- the step of the locked state
  suffices h : Step L (lockS l σ) τ m H (restL ws σ σE) τ m' H' from h.unlock hl
  have own_rest : ∀ {j : Nat} {io lk : Bool} {d : D}, (restL ws σ σE)[j]? = some (.own io lk d) → j ∉ ws ∧ σE[j]? = some (.own io lk d) := by
    intro j io lk d h
    rw [restL_get] at h
    by_cases hj : j ∈ ws
    · rw [if_pos hj] at h
      obtain ⟨x, h1, h2⟩ := hws j hj
      rw [h1] at h
      cases e : σE[j]? with
      | none => rw [e] at h; cases h
      | some y => rw [e] at h; cases h; exact absurd rfl (h2 _ _ _)
    · rw [if_neg hj] at h; exact ⟨hj, h⟩
  have lockw : ∀ {w : Nat}, w ∈ ws → (lockS l σ)[w]? = σ[w]? := fun {w} hw' => by
    rw [lock_get]
    have : ¬ l = some w := fun e => hlw w e hw'
    simp only [this, if_false]
    cases σ[w]? <;> rfl
  have noown : ∀ {w : Nat}, w ∈ ws → ∀ io lk d, (lockS l σ)[w]? ≠ some (.own io lk d) := fun {w} hw' io lk d => by
    rw [lockw hw']
    obtain ⟨x, h1, h2⟩ := hws w hw'
    rw [h1]
    intro e; cases e; exact h2 _ _ _ rfl
  refine ⟨⟨s.rel.mH, restL_len.trans lenE, fun j d h => ?_, fun j io lk d h => ?_, fun j k io lk io' lk' d e a h1 h2 h3 h4 => ?_⟩, fun a o e hn => s.frame a o e fun z => hn (wr_wipe z), fun a h => ?_, fun a h => ?_, fun j lk d h => ?_, fun j io d h => ?_, s.dom⟩
  · rw [restL_get] at h
    by_cases hj : j ∈ ws
    · rw [if_pos hj] at h
      obtain ⟨x, h1, h2⟩ := hws j hj
      rw [h1] at h
      cases e : σE[j]? with
      | none => rw [e] at h; cases h
      | some y =>
        rw [e] at h
        have hx : x = .val d := by simpa using h
        subst hx
        obtain ⟨v, g1, g2⟩ := rl.val j d h1
        exact ⟨v, g1, RV.mono kp _ _ g2⟩
    · rw [if_neg hj] at h
      obtain ⟨v, g1, g2⟩ := s.rel.val j d (by rw [getE hj]; exact h)
      rw [wipe_out' hj] at g1
      exact ⟨v, g1, g2⟩
  · obtain ⟨hj, h1⟩ := own_rest h
    obtain ⟨a, g1, g2⟩ := s.rel.own j io lk d (by rw [getE hj]; exact h1)
    rw [wipe_out' hj] at g1
    exact ⟨a, g1, g2⟩
  · obtain ⟨hj, g1⟩ := own_rest h1
    obtain ⟨hk, g2⟩ := own_rest h2
    exact s.rel.inj j k _ _ _ _ _ _ a (by rw [getE hj]; exact g1) (by rw [getE hk]; exact g2) (by rw [wipe_out' hj]; exact h3) (by rw [wipe_out' hk]; exact h4)
  · obtain ⟨j, io, lk, d, h1, h2⟩ := h
    obtain ⟨hj, g1⟩ := own_rest h1
    rcases s.own a ⟨j, io, lk, d, by rw [getE hj]; exact g1, by rw [wipe_out' hj]; exact h2⟩ with z | z
    · exact .inl (ow_wipe z)
    · exact .inr z
  · obtain ⟨j, io, d, h1, h2⟩ := h
    obtain ⟨hj, g1⟩ := own_rest h1
    rcases s.wr a ⟨j, io, d, by rw [getE hj]; exact g1, by rw [wipe_out' hj]; exact h2⟩ with z | z
    · exact .inl (wr_wipe z)
    · exact .inr z
  · have hj : j ∉ ws := fun z => noown z _ _ _ h
    obtain ⟨e1, e, h1⟩ := s.io j lk d (by rw [get0 hj]; exact h)
    rw [getE hj] at h1
    exact ⟨rfl, e, by rw [restL_get, if_neg hj]; exact h1⟩
  · have hj : j ∉ ws := fun z => noown z _ _ _ h
    obtain ⟨e1, h1⟩ := s.lkd j io d (by rw [get0 hj]; exact h)
    rw [getE hj] at h1
    exact ⟨rfl, by rw [restL_get, if_neg hj]; exact h1⟩
theorem lc_imp {e it p : E} {t : Tg} {ws : List Nat} (hsl : ∀ w ∈ slots t, w ∈ ws) (τ : St) (H : Hp) (Q : VK) (q : tE L W (ev P O (.lc e t ws it p)) τ H Q) : tLc (tG L W (TJ L) (evI P O it)) (tTg L t) (tT L (fun _ _ _ _ => False) (evT P O p)) (tE L (fun _ _ _ _ => False) (ev P O e)) ws τ H Q := by
  obtain ⟨m, σ, rl, pp⟩ := q
  simp only [ev] at pp
  refine post_bnd0e (T := TJ L) rl pp fun iz σ1 m1 H1 J e0 s1 t1 p1 => ?_
  have hl := evI_lk e0
  obtain ⟨items, l⟩ := iz
  dsimp only at hl p1
  split at p1
  · rename_i hw
    intro D hD
    generalize hf : (fun d σ' => (bnd (asg t d) fun _ => bnd (evT P O p) fun k => if k then bnd (ev P O e) fun r => bnd (frz r) fun x => ret (some x) else ret none) (wipeL ws σ')) = f at p1
    cases eL : lcL f items [] (lockS l σ1) with
    | fail => rw [eL] at p1; exact p1.elim
    | exc x s => rw [eL] at p1; exact p1.elim
    | ok dsF σE =>
      rw [eL] at p1
      have noA : ∀ w ∈ ws, ∀ io lk d, (wipeL ws (lockS l σ1))[w]? ≠ some (.own io lk d) := fun w hw' io lk d h => (wipe_some' h (by simp)).1 hw'
      have rlA : Rel L m1 H1 (wipeL ws (lockS l σ1)) (wipe τ ws) := (s1.rel.lock l).wiped
      -- the invariant
      let inv : Nat → Hp → Prop := fun i H' => ∃ σ' m' accD accV, Step L (wipeL ws (lockS l σ1)) (wipe τ ws) m1 H1 (wipeL ws σ') (wipe τ ws) m' H' ∧ H' D = some (.lst accV) ∧ m' D ∧ ¬ Ow (wipeL ws σ') (wipe τ ws) D ∧ RVs L H' m' accD accV ∧ lcL f (items.drop i) accD σ' = .ok dsF σE
      have jj : ∀ i H' m' σ', Step L (wipeL ws (lockS l σ1)) (wipe τ ws) m1 H1 σ' (wipe τ ws) m' H' → (∀ d, items[i]? = some d → J.go i H' ∧ ∀ x H3, J.yld i H' x H3 → Grow H' H3 ∧ RV L H3 m' d x) ∧ (items.length ≤ i → J.stop i H') := fun i H' m' σ' st =>
        t1 H' m' (fun a o ea hn => st.frame a o ea fun z => hn (wr_wipe z)) st.rel.mH i
      refine ⟨fun i mm H' => mm = items.length - i ∧ i ≤ items.length ∧ inv i H', ⟨items.length, by simp, Nat.zero_le _, ?_⟩, ?_⟩
      · have md : Made L m1 H1 (.tmp (.lst [])) (.ref D) (upd H1 D (.lst [])) := Made.lstN .nil hD
        obtain ⟨m2, s2, t2⟩ := md.step rlA
        obtain ⟨b, eb, h1, h2, h3, h4⟩ := t2
        cases eb
        exact ⟨lockS l σ1, m2, [], [], s2, upd_same, h2, h3, .nil, by rw [List.drop_zero]; exact eL⟩
      · rintro i mm H' ⟨rfl, hil, σ', m', accD, accV, st, hDa, hmD, hnD, racc, eq⟩
        obtain ⟨j1, j2⟩ := jj i H' m' _ st
        by_cases hlt : i < items.length
        · right
          have ed : items[i]? = some items[i] := List.getElem?_eq_getElem hlt
          rw [List.drop_eq_getElem_cons hlt] at eq
          obtain ⟨hgo, hy⟩ := j1 _ ed
          refine ⟨hgo, inv (i + 1), fun H'' hinv => ⟨items.length - (i + 1), by omega, rfl, hlt, hinv⟩, fun x H3 y => ?_⟩
          obtain ⟨gr, rv⟩ := hy x H3 y
          -- the step to H3
          have st3 : Step L (wipeL ws (lockS l σ1)) (wipe τ ws) m1 H1 (wipeL ws σ') (wipe τ ws) m' H3 := st.trans (Step.grow st.rel gr (fun a ha => let ⟨o, eo⟩ := st.rel.mH a ha; ⟨o, gr a o eo⟩) fun _ _ _ => Iff.rfl)
          simp only [lcL] at eq
          obtain ⟨o, σ'', ef, eq2⟩ := bnd_inv eq
          rw [← hf] at ef
          obtain ⟨_, σ2, ea, ef⟩ := bnd_inv ef
          obtain ⟨k, σ3, et, ef⟩ := bnd_inv ef
          refine ⟨m', wipeL ws σ', wipeL ws σ', wipe τ ws, m', H3, items[i], σ2, Step.refl st3.rel, rv, ea, fun τ2 st4 ag => ⟨wipe_agree hsl ag, ?_⟩⟩
          have hb : wipe τ2 ws = wipe τ ws := wipe_agree hsl ag
          refine ⟨m', σ2, st4.rel, ?_⟩
          rw [et]
          intro m5 H5 b s5 eb
          have eb' : k = b := eb
          subst eb'
          have s45 := st4.trans s5
          have hD3 : H3 D = some (.lst accV) := gr D _ hDa
          have kp3 : Kp H' m' H3 m' := fun a o ea ha => ⟨gr a o ea, ha⟩
          have keepD : ∀ {σx : List Sl} {τx : St} {mx : Addr → Prop} {Hx : Hp}, Step L (wipeL ws σ') (wipe τ ws) m' H3 σx τx mx Hx → Hx D = some (.lst accV) ∧ mx D ∧ ¬ Ow σx τx D := by
            intro σx τx mx Hx sx'
            obtain ⟨f1, f2⟩ := sx'.frame D _ hD3 fun z => hnD z.ow
            refine ⟨f1, f2.mpr hmD, fun z => ?_⟩
            rcases sx'.own D z with z | z
            · exact hnD z
            · rw [hD3] at z; cases z
          have keepR : ∀ {σx : List Sl} {τx : St} {mx : Addr → Prop} {Hx : Hp}, Step L (wipeL ws σ') (wipe τ ws) m' H3 σx τx mx Hx → RVs L Hx mx accD accV := fun sx' => RVs.mono (sx'.kp st3.rel) _ _ (RVs.mono kp3 _ _ racc)
          cases k with
          | false =>
            rw [if_neg Bool.false_ne_true] at ef ⊢
            simp only [ret] at ef
            cases ef
            obtain ⟨g1, g2, g3⟩ := keepD s45
            refine ⟨σ'', m5, accD, accV, by (have z := (st3.trans s45).wiped noA; rw [hb] at z; exact z), g1, g2, fun z => g3 (ow_wipe (by rw [hb]; exact z)), keepR s45, eq2⟩
          | true =>
            rw [if_pos rfl] at ef ⊢
            obtain ⟨r, σ4, er, ef⟩ := bnd_inv ef
            obtain ⟨xd, σ5, efz, ef⟩ := bnd_inv ef
            simp only [ret] at ef
            cases ef
            refine ⟨m5, σ3, s5.rel, ?_⟩
            rw [er]
            intro m6 H6 y6 s6 ry
            obtain ⟨m7, s7, rv7, _⟩ := frz_ok s6 ry efz
            have s47 := s45.trans s7
            obtain ⟨g1, g2, g3⟩ := keepD s47
            have hlim : accD.length < lim := by
              dsimp only at eq2
              by_cases h : accD.length < lim
              · exact h
              · rw [if_neg h] at eq2; cases eq2
            dsimp only at eq2
            rw [if_pos hlim] at eq2
            obtain ⟨u1, u2⟩ := (st3.trans s47).updd (o := .lst (accV ++ [y6])) hD g2 g3
            refine ⟨accV, g1, by rw [← lim_eq, ← racc.length]; exact hlim, σ'', m7, accD ++ [xd], accV ++ [y6], by (have z := u1.wiped noA; rw [hb] at z; exact z), upd_same, g2, fun z => g3 (ow_wipe (by rw [hb]; exact z)), RVs.mono u2 _ _ ((keepR s47).append (.cons rv7 .nil)), eq2⟩
        · left
          have ei : i = items.length := by omega
          subst ei
          rw [List.drop_length] at eq
          simp only [lcL, ret] at eq
          cases eq
          refine ⟨j2 (Nat.le_refl _), ?_⟩
          have fin := s1.trans (Step.unblock s1.rel hl hw st)
          refine p1 m' H' (.ref D) fin ⟨D, rfl, s1.dom D hD, hmD, fun z => ?_, accV, hDa, racc⟩
          obtain ⟨j, io, lk, d, z1, z2⟩ := z
          obtain ⟨lk', z3, _⟩ := unlock_own z1
          rw [restL_get] at z3
          by_cases hj : j ∈ ws
          · rw [if_pos hj] at z3
            unfold wipeOk at hw
            have hw2 := List.all_eq_true.mp hw j hj
            cases e1 : σ1[j]? with
            | none => rw [e1] at hw2; cases hw2
            | some x =>
              rw [e1] at hw2 z3
              cases e2 : σE[j]? with
              | none => rw [e2] at z3; cases z3
              | some y =>
                rw [e2] at z3
                have hx : x = .own io lk' d := by simpa using z3
                subst hx
                cases hw2
          · rw [if_neg hj] at z3
            exact hnD ⟨j, io, lk', d, by rw [wipeL_get, if_neg hj]; exact z3, by rw [wipe_out' hj]; exact z2⟩
  · exact p1.elim
theorem pe_lc' (sx : SX X L P W O c) {elt tg iter : Expr} {ifs : List Expr} {scope : Scope} {own : List (Str × Nat)} {e it p : E} {t : Tg} {pos : Pos} (ok : BlkOk X.N X.env.scope scope own) (hi : PI X tg iter (tG L W (TJ L) (evI P O it)))
    (hg : ∀ (s : Shared) (H : Hp) (C : Addr) (cl : List (Str × Addr)) (fp : List Addr), PG (X.blk s H scope (compEnvC scope cl C X.env) fp) tg (tTg L t))
    (ht : ∀ (s : Shared) (H : Hp) (C : Addr) (cl : List (Str × Addr)) (fp : List Addr), PTs (X.blk s H scope (compEnvC scope cl C X.env) fp) ifs (tT L (fun _ _ _ _ => False) (evT P O p)))
    (he : ∀ (s : Shared) (H : Hp) (C : Addr) (cl : List (Str × Addr)) (fp : List Addr), PE (X.blk s H scope (compEnvC scope cl C X.env) fp) elt (tE L (fun _ _ _ _ => False) (ev P O e)))
    (hs : ∀ x, foldedSetIterable iter X.env x = pure x) (hsl : ∀ w ∈ slots t, w ∈ own.map (·.2)) : PE X (.ListComp elt [⟨tg, iter, ifs, 0⟩] scope pos) (tE L W (ev P O (.lc e t (own.map (·.2)) it p))) := by
  exact (pe_lc sx.calm sx.nd hi ok hg ht he hs).mono fun τ H Q q => lc_imp hsl τ H Q q
end
end EV

set_option Elab.async false
set_option linter.all false
set_option maxRecDepth 100000
set_option maxHeartbeats 4000000
/-! ### every expression -/
namespace EV
open PySem L2
section
variable {X : Cx} {L : Lk} {P : Prog} {W : WX} {O : Oc} {c : CC}

theorem pi_bad {tg e : Expr} {f : M (List D × Option Nat)} (h : ∀ σ, f σ = .fail) : PI X tg e (tG L W (TJ L) f) := ⟨fun pins s σ H Q I q => by
  obtain ⟨m, σ', _, z⟩ := q
  rw [h] at z; exact z.elim⟩
structure Snd (X : Cx) (L : Lk) (P : Prog) (W : WX) (O : Oc) (e : Expr) (k : C4) : Prop where
  v : PE X e (tE L W (ev P O k.v))
  b : PE X e (tE L W (ev P O k.b))
  t : PT X e (tT L W (evT P O k.t))
  i : ∀ tg, (isEnm k.i = true → isTup tg = true) → PI X tg e (tG L W (TJ L) (evI P O k.i))
  s : ∀ e' p, e = .Starred e' p → PE X e' (tE L W (ev P O k.s))
  sl : ∀ lo hi p, e = .Slice lo hi none p → ∃ a b, k.sl = some (a, b) ∧ PO X lo (tP L W (evP P O a)) ∧ PO X hi (tP L W (evP P O b))
  ns : k.sl ≠ none → ∃ lo hi p, e = .Slice lo hi none p
  st : k.st = isStar e
theorem snd_bad {e : Expr} (h1 : isStar e = false) (h2 : ∀ lo hi p, e ≠ .Slice lo hi none p) : Snd X L P W O e C4.bad where
  v := pe_bad fun _ => rfl
  b := pe_bad fun _ => rfl
  t := pt_bad fun _ => rfl
  i := fun _ _ => pi_bad fun _ => rfl
  s := fun e' p h => by subst h; cases h1
  sl := fun lo hi p h => absurd h (h2 lo hi p)
  ns := fun h => absurd rfl h
  st := h1.symm
theorem snd_of (sx : SX X L P W O c) {e : Expr} {x : E} (h : PE X e (tE L W (ev P O x))) (he : ∀ whole, isTrue e X.env whole = (do let v ← whole; standAt e.pos; holding [v] (truthy v))) (h1 : isStar e = false) (h2 : ∀ lo hi p, e ≠ .Slice lo hi none p) : Snd X L P W O e (C4.of x) where
  v := h
  b := h
  t := pt_tr sx h he
  i := fun _ _ => pi_sq sx h
  s := fun e' p h => by subst h; cases h1
  sl := fun lo hi p h => absurd h (h2 lo hi p)
  ns := fun h => absurd rfl h
  st := h1.symm
theorem snd_name (sx : SX X L P W O c) (x : Str) (pos : Pos) : Snd X L P W O (.Name x pos) (nameC c x) := by
  unfold nameC
  cases hs : slotOf c x with
  | some i =>
    have h := slot_of sx (pos := pos) hs
    exact ⟨pe_v i h, pe_b i h, pt_tr sx (pe_b i h) (fun _ => rfl), fun _ _ => pi_sq sx (pe_b i h), (fun _ _ h => by cases h), (fun _ _ _ h => by cases h), fun h => absurd rfl h, rfl⟩
  | none =>
    dsimp only
    split
    · rename_i hg
      rw [Bool.and_eq_true] at hg
      cases hk : c.kd x with
      | none => exact snd_bad rfl (by intros; simp)
      | some k =>
        cases k with
        | fn i => exact snd_of sx (pe_g sx hg.1 hg.2 (.inr (.inr hk))) (fun _ => rfl) rfl (by intros; simp)
        | cls i => exact snd_of sx (pe_g sx hg.1 hg.2 (.inr (.inl hk))) (fun _ => rfl) rfl (by intros; simp)
        | con i => exact snd_of sx (pe_g sx hg.1 hg.2 (.inl hk)) (fun _ => rfl) rfl (by intros; simp)
        | bi f => exact snd_bad rfl (by intros; simp)
        | ty t =>
          obtain ⟨h1, h2, _⟩ := sx.ty x t hk
          obtain ⟨p1, p2, p3⟩ := plain_of hg.2
          refine snd_of sx (x := .c (.ty t)) ?_ (fun _ => rfl) rfl (by intros; simp)
          exact pe_const (pe_bltn (v := .ty t.name) (gl_of sx hg.1) h1 h2 rfl p3 p1) fun H m => by simp only [RV]
    · exact snd_bad rfl (by intros; simp)
theorem snd_const (sx : SX X L P W O c) (k : Const) (n : Nat) (pos : Pos) : Snd X L P W O (.Constant k n pos) (comp (.Constant k n pos) c) := by
  simp only [comp]
  cases k with
  | none => exact snd_of sx (x := .c .non) (pe_const pe_non fun H m => by simp only [RV]) (fun _ => rfl) rfl (by intros; simp)
  | bool b => exact snd_of sx (x := .c (.bl b)) (pe_const pe_bl fun H m => by simp only [RV]) (fun _ => rfl) rfl (by intros; simp)
  | int i => exact snd_of sx (x := .c (.int i)) (pe_const pe_int fun H m => by simp only [RV]) (fun _ => rfl) rfl (by intros; simp)
  | str s => exact snd_of sx (x := .c (.str s)) (pe_const pe_str fun H m => by simp only [RV]) (fun _ => rfl) rfl (by intros; simp)
  | _ => exact snd_bad rfl (by intros; simp)
theorem pt_ife (sx : SX X L P W O c) {t a b : Expr} {x y z : E} {pos : Pos} (ht : PT X t (tT L W (evT P O z))) (ha : PT X a (tT L W (evT P O x))) (hb : PT X b (tT L W (evT P O y))) : PT X (.IfExp t a b pos) (tT L W (evT P O (.ti z x y))) := by
  refine ⟨fun pins s τ H Q I q => ?_⟩
  obtain ⟨m, σ, rl, p⟩ := q
  simp only [evT] at p
  have h := ht.run pins s τ H (fun k H1 => if k = true then tT L W (evT P O x) τ H1 Q else tT L W (evT P O y) τ H1 Q) I (post_bnd0 (T := TB) rl p fun k σ1 m1 H1 v s1 t1 p1 => by
    have e : k = v := t1
    subst e
    cases k with
    | true => exact post_tail el_B s1 p1
    | false => exact post_tail el_B s1 p1)
  show wpAny _ _ (isTrue (.IfExp t a b pos) X.env _) _ _ _
  rw [PySem.isTrue]
  refine wpAny_bind (thn h fun k s1 h1 => ?_)
  obtain ⟨H1, I1, q1⟩ := h1
  cases k with
  | true => exact ha.run pins s1 τ H1 Q I1 q1
  | false => exact hb.run pins s1 τ H1 Q I1 q1
def TSt : TL Str Str := fun _ _ _ _ _ a b => a = b
/-- several expressions -/
def SndL (X : Cx) (L : Lk) (P : Prog) (W : WX) (O : Oc) : List Expr → List C4 → Prop
  | [], ks => ks = []
  | e :: es, ks => ∃ k r, ks = k :: r ∧ Snd X L P W O e k ∧ SndL X L P W O es r
theorem sndL_args (sx : SX X L P W O c) : ∀ {es : List Expr} {ks : List C4}, SndL X L P W O es ks → PA X es (tA L W (evA P O (args ks)))
  | [], ks, h => by rw [show ks = [] from h]; exact pa_nil'
  | e :: es, ks, h => by
    obtain ⟨k, r, e1, h1, h2⟩ := h
    subst e1
    have hr := sndL_args sx h2
    have hst := h1.st
    simp only [args]
    cases hs : isStar e with
    | false =>
      rw [hs] at hst
      rw [if_neg (by rw [hst]; simp)]
      exact pa_arg h1.b hr hs
    | true =>
      rw [hs] at hst
      rw [if_pos hst]
      cases e <;> simp [isStar] at hs
      exact pa_starE sx (h1.s _ _ rfl) hr
theorem args_ok (sx : SX X L P W O c) {es : List Expr} {ks : List C4} (h : SndL X L P W O es ks) (hs : starOk es = true) : ArgsOk X es (tA L W (evA P O (args ks))) := by
  have ha := sndL_args sx h
  match es, h with
  | [], h => rw [show ks = [] from h]; exact args_nil
  | e :: es, h =>
    cases h0 : isStar e with
    | false => exact args_cons h0 ha
    | true =>
      obtain ⟨k, r, e1, h1, h2⟩ := h
      subst e1
      cases e <;> simp [isStar] at h0
      cases es with
      | cons e' es' => simp [starOk] at hs
      | nil =>
        rw [show r = [] from h2]
        simp only [args]
        rw [if_pos (by rw [h1.st]; rfl)]
        exact args_star sx (h1.s _ _ rfl)
theorem sndL_nil {es : List Expr} {ks : List C4} (h : SndL X L P W O es ks) : es = [] → args ks = .nil := fun e => by subst e; rw [show ks = [] from h]; rfl
theorem sndL_len : ∀ {es : List Expr} {ks : List C4}, SndL X L P W O es ks → es.length = ks.length
  | [], ks, h => by rw [show ks = [] from h]; rfl
  | e :: es, ks, h => by
    obtain ⟨k, r, e1, h1, h2⟩ := h
    subst e1
    rw [List.length_cons, List.length_cons, sndL_len h2]
theorem and_v (sx : SX X L P W O c) {pos : Pos} : ∀ {es : List Expr} {ks : List C4}, SndL X L P W O es ks → PE X (.BoolOp .And es pos) (tE L W (ev P O (andE ks))) ∧ PT X (.BoolOp .And es pos) (tT L W (evT P O (andT ks))) ∧ (es ≠ [] → PW X (.BoolOp .And es pos) (tT L W (evT P O (andT ks))))
  | [], ks, h => by
    rw [show ks = [] from h]
    exact ⟨pe_bad fun _ => rfl, pt_bad fun _ => rfl, fun h => absurd rfl h⟩
  | [e], ks, h => by
    obtain ⟨k, r, e1, h1, h2⟩ := h
    rw [show r = [] from h2] at e1
    subst e1
    exact ⟨pe_one h1.v, (pw_and1 h1.t).pt, fun _ => pw_and1 h1.t⟩
  | e :: f :: es, ks, h => by
    obtain ⟨k, r, e1, h1, h2⟩ := h
    obtain ⟨k', r', e2, h3, h4⟩ := id h2
    subst e1
    obtain ⟨a1, a2, a3⟩ := and_v sx (pos := pos) h2
    subst e2
    have w := pw_and' sx h1.t (a3 (by simp))
    exact ⟨pe_and' sx h1.v a1, w.pt, fun _ => w⟩
theorem or_v (sx : SX X L P W O c) {pos : Pos} : ∀ {es : List Expr} {ks : List C4}, SndL X L P W O es ks → PE X (.BoolOp .Or es pos) (tE L W (ev P O (orE ks))) ∧ PT X (.BoolOp .Or es pos) (tT L W (evT P O (orT ks))) ∧ (es ≠ [] → PW X (.BoolOp .Or es pos) (tT L W (evT P O (orT ks))))
  | [], ks, h => by
    rw [show ks = [] from h]
    exact ⟨pe_bad fun _ => rfl, pt_bad fun _ => rfl, fun h => absurd rfl h⟩
  | [e], ks, h => by
    obtain ⟨k, r, e1, h1, h2⟩ := h
    rw [show r = [] from h2] at e1
    subst e1
    exact ⟨pe_one h1.v, (pw_or1 h1.t).pt, fun _ => pw_or1 h1.t⟩
  | e :: f :: es, ks, h => by
    obtain ⟨k, r, e1, h1, h2⟩ := h
    obtain ⟨k', r', e2, h3, h4⟩ := id h2
    subst e1
    obtain ⟨a1, a2, a3⟩ := or_v sx (pos := pos) h2
    subst e2
    have w := pw_or' sx h1.t (a3 (by simp))
    exact ⟨pe_or' sx h1.v a1, w.pt, fun _ => w⟩
theorem not_set {e : Expr} {op : CmpOp} (h : isSet e = false) : behindInMarks op e = false := by
  cases e <;> first | rfl | (simp [isSet] at h)
theorem not_folded {e : Expr} {env : Env} (h : isSet e = false) : ∀ x, foldedSetIterable e env x = pure x := fun x => by
  cases e <;> first | rfl | (simp [isSet] at h)
theorem st_all : ∀ {es : List Expr} {ks : List C4}, SndL X L P W O es ks → noStar es = true → ∀ k ∈ ks, k.st = false
  | [], ks, h, _ => by rw [show ks = [] from h]; intro k hk; cases hk
  | e :: es, ks, h, hn => by
    obtain ⟨k, r, e1, h1, h2⟩ := h
    subst e1
    obtain ⟨n1, n2⟩ := noStar_cons hn
    intro k' hk
    rcases List.mem_cons.mp hk with rfl | hk
    · rw [h1.st]; exact n1
    · exact st_all h2 n2 k' hk
theorem rng_len {es : List Expr} {ks : List C4} (h : SndL X L P W O es ks) (hn : noStar es = true) (τ : St) (H : Hp) (K : List V → Hp → Prop) (q : tA L W (evA P O (args ks)) τ H K) : tA L W (evA P O (args ks)) τ H fun vs H1 => vs.length = es.length ∧ K vs H1 := by
  obtain ⟨m, σ, rl, p⟩ := q
  refine ⟨m, σ, rl, ?_⟩
  cases e : evA P O (args ks) σ with
  | fail => rw [e] at p; exact p
  | exc x s => rw [e] at p; exact p
  | ok rs s =>
    rw [e] at p
    intro m' H' vs st t
    refine ⟨?_, p m' H' vs st t⟩
    have l1 : rs.length = ks.length := by
      clear p t st
      have : ∀ (ks : List C4) (σ s : List Sl) (rs : List R), (∀ k ∈ ks, k.st = false) → evA P O (args ks) σ = .ok rs s → rs.length = ks.length := by
        intro ks
        induction ks with
        | nil => intro σ s rs _ h; simp only [args, evA, ret] at h; cases h; rfl
        | cons k ks ih =>
          intro σ s rs hk h
          simp only [args, hk k (List.mem_cons_self ..), Bool.false_eq_true, if_false, evA] at h
          obtain ⟨r, s1, _, h⟩ := bnd_inv h
          obtain ⟨rs', s2, h2, h⟩ := bnd_inv h
          simp only [ret] at h
          cases h
          rw [List.length_cons, List.length_cons, ih _ _ _ (fun k' z => hk k' (List.mem_cons_of_mem _ z)) h2]
      exact this ks σ s rs (st_all h hn) e
    rw [← RRs.length t, l1, sndL_len h]
theorem snd_callC (sx : SX X L P W O c) {x : Str} {es : List Expr} {as : List C4} {p pos : Pos} (h : SndL X L P W O es as) : Snd X L P W O (.Call (.Name x p) es [] pos) (callC c x es as) := by
  have bad : Snd X L P W O (.Call (.Name x p) es [] pos) C4.bad := snd_bad rfl (by intros; simp)
  have ha := sndL_args sx h
  unfold callC
  split
  · rename_i i hi
    split
    · rename_i hg
      rw [Bool.and_eq_true] at hg
      obtain ⟨g1, g2⟩ := hg
      cases es with
      | nil => simp at g2
      | cons e es => exact snd_of sx (pe_callv sx (pe_b i (slot_of sx hi)) ha g1 fun h => wpAny_Call_Name_kw h) (fun _ => rfl) rfl (by intros; simp)
    · exact bad
  split
  · rename_i hg
    rw [Bool.and_eq_true, Bool.and_eq_true] at hg
    obtain ⟨⟨g1, g2⟩, g4⟩ := hg
    split
    · rename_i i hk; exact snd_of sx (pe_call' sx g1 g2 hk (args_ok sx h g4)) (fun _ => rfl) rfl (by intros; simp)
    · rename_i i hk; exact snd_of sx (pe_mk' sx g1 g2 hk (args_ok sx h g4)) (fun _ => rfl) rfl (by intros; simp)
    split
    · rename_i hk0 hk1 g3
      cases hk : c.kd x with
      | some k =>
        cases k with
        | fn i => exact bad
        | cls i => exact bad
        | bi f => exact snd_of sx (pe_bi sx g1 g2 (sx.bi x f hk) g3 ha (sndL_nil h)) (fun _ => rfl) rfl (by intros; simp)
        | con i => exact bad
        | ty t =>
          obtain ⟨h1, _, h3⟩ := sx.ty x t hk
          dsimp only
          cases hb : biT t with
          | none => exact bad
          | some f => exact snd_of sx (pe_bi sx g1 g2 ⟨by rw [h3]; cases t <;> cases hb <;> rfl, h1⟩ g3 ha (sndL_nil h)) (fun _ => rfl) rfl (by intros; simp)
      | none =>
        dsimp only
        have hl := sndL_len h
        have rng : ∀ (hx : (x == "range") = true) (hl : es.length = 1 ∨ es.length = 2), Snd X L P W O (.Call (.Name x p) es [] pos) { i := .rng (args as) } := fun hx hl => by
          have ex : x = "range" := eq_of_beq hx
          subst ex
          exact ⟨pe_bad fun _ => rfl, pe_bad fun _ => rfl, pt_bad fun _ => rfl, fun tg _ => pi_rng' sx g1 hk g3 ha hl (rng_len h g3), (fun _ _ h => by cases h), (fun _ _ _ h => by cases h), fun h => absurd rfl h, rfl⟩
        split
        · rename_i a
          split
          · rename_i hx; exact rng hx (.inl (by simpa using hl))
          · split
            · rename_i hx
              have ex : x = "enumerate" := eq_of_beq hx
              subst ex
              match es, h with
              | [e], h =>
                obtain ⟨k, r, e1, h1, h2⟩ := h
                rw [show r = [] from h2] at e1
                cases e1
                exact ⟨pe_bad fun _ => rfl, pe_bad fun _ => rfl, pt_bad fun _ => rfl, fun tg ht => pi_enm' sx (ht rfl) g1 hk (noStar_cons g3).1 h1.b, (fun _ _ h => by cases h), (fun _ _ _ h => by cases h), fun h => absurd rfl h, rfl⟩
              | [], h => exact absurd hl (by simp)
              | _ :: _ :: _, h => exact absurd hl (by simp)
            · exact bad
        · split
          · rename_i hx; exact rng hx (.inr (by simpa using hl))
          · exact bad
        · exact bad
    · exact bad
  · exact bad
theorem snd_methC (sx : SX X L P W O c) {o : Expr} {k : C4} {m : Str} {apos pos : Pos} {es : List Expr} {as : List C4} (ho : Snd X L P W O o k) (h : SndL X L P W O es as) (hb : okBase o = true) : Snd X L P W O (.Call (.Attribute o m apos) es [] pos) (methC c k m apos pos es as) := by
  have bad : Snd X L P W O (.Call (.Attribute o m apos) es [] pos) C4.bad := snd_bad rfl (by intros; simp)
  unfold methC
  split
  · rename_i hg
    rw [Bool.and_eq_true, Bool.and_eq_true, decide_eq_true_eq] at hg
    obtain ⟨⟨g1, g2⟩, g3⟩ := hg
    have ha := sndL_args sx h
    cases hk : c.att m with
    | none => exact bad
    | some i =>
      dsimp only
      split
      · split
        · rename_i hi
          rw [Bool.and_eq_true] at hi
          exact snd_of sx (pe_smeth sx ho.b ha (fun e => by subst e; simp at hi) hk (by simpa [or_assoc] using hi.1) g1 (base_ok hb) g2 g3) (fun _ => rfl) rfl (by intros; simp)
        · exact bad
      · exact snd_of sx (pe_meth' sx ho.b ha (sndL_nil h) hk g1 (base_ok hb) g2 g3) (fun _ => rfl) rfl (by intros; simp)
  · exact bad
mutual
theorem snd : ∀ (e : Expr) {X : Cx} {W : WX} {c : CC}, SX X L P W O c → Snd X L P W O e (comp e c)
  | .Constant k n pos, X, W, c, sx => snd_const sx k n pos
  | .Name x pos, X, W, c, sx => by simp only [comp]; exact snd_name sx x pos
  | .BinOp a op b pos, X, W, c, sx => by
    simp only [comp]
    exact snd_of sx (pe_bin sx (snd a sx).b (snd b sx).b) (fun _ => rfl) rfl (by intros; simp)
  | .UnaryOp op a pos, X, W, c, sx => by
    simp only [comp]
    have ha := snd a sx
    cases op with
    | Not => exact ⟨pe_not' sx ha.b, pe_not' sx ha.b, pt_tn sx ha.t, fun _ _ => pi_bad fun _ => rfl, (fun _ _ h => by cases h), (fun _ _ _ h => by cases h), fun h => absurd rfl h, rfl⟩
    | USub => exact snd_of sx (pe_neg' sx ha.b) (fun _ => rfl) rfl (by intros; simp)
    | _ => exact snd_bad rfl (by intros; simp)
  | .BoolOp op vs pos, X, W, c, sx => by
    simp only [comp]
    have hv := sndL vs sx
    cases op with
    | And =>
      obtain ⟨a1, a2, _⟩ := and_v sx (pos := pos) hv
      exact ⟨a1, a1, a2, fun _ _ => pi_bad fun _ => rfl, (fun _ _ h => by cases h), (fun _ _ _ h => by cases h), fun h => absurd rfl h, rfl⟩
    | Or =>
      obtain ⟨a1, a2, _⟩ := or_v sx (pos := pos) hv
      exact ⟨a1, a1, a2, fun _ _ => pi_bad fun _ => rfl, (fun _ _ h => by cases h), (fun _ _ _ h => by cases h), fun h => absurd rfl h, rfl⟩
  | .Compare l ops cs pos, X, W, c, sx => by
    simp only [comp]
    have hl := snd l sx
    have hc := sndL cs sx
    split
    · rename_i hset
      generalize compL cs c = ks at hc
      unfold cmpC
      split
      · rename_i op r
        match cs, hc with
        | [], hc => cases (show ([r] : List C4) = [] from hc)
        | e :: es, hc =>
          obtain ⟨k, r', e1, h1, h2⟩ := hc
          cases e1
          match es, h2 with
          | [], _ =>
            have hm := not_set (op := op) (e := e) (by simpa using hset)
            exact ⟨pe_cmp' sx hl.b h1.b hm, pe_cmp' sx hl.b h1.b hm, pt_cmp' sx hl.b h1.b hm, fun _ _ => pi_bad fun _ => rfl, (fun _ _ h => by cases h), (fun _ _ _ h => by cases h), fun h => absurd rfl h, rfl⟩
          | _ :: _, h2 => obtain ⟨_, _, e2, _⟩ := h2; cases e2
      · rename_i o1 o2 r q
        match cs, hc with
        | [], hc => cases (show ([r, q] : List C4) = [] from hc)
        | [e], hc => obtain ⟨_, _, e1, _, h2⟩ := hc; cases e1; cases (show ([q] : List C4) = [] from h2)
        | e :: f :: es, hc =>
          obtain ⟨k, r', e1, h1, k2, r2, e2, h3, h4⟩ := hc
          subst e2
          cases e1
          match es, h4 with
          | [], _ =>
            have hm := not_set (op := o2) (e := f) (by simp only [List.all_cons, Bool.and_eq_true] at hset; simpa using hset.2.1)
            exact ⟨pe_cmp2' sx hl.b h1.b h3.b hm, pe_cmp2' sx hl.b h1.b h3.b hm, pt_cmp2' sx hl.b h1.b h3.b hm, fun _ _ => pi_bad fun _ => rfl, (fun _ _ h => by cases h), (fun _ _ _ h => by cases h), fun h => absurd rfl h, rfl⟩
          | _ :: _, h4 => obtain ⟨_, _, e2, _⟩ := h4; cases e2
      · exact snd_bad rfl (by intros; simp)
    · exact snd_bad rfl (by intros; simp)
  | .IfExp t a b pos, X, W, c, sx => by
    simp only [comp]
    have h1 := snd t sx
    have h2 := snd a sx
    have h3 := snd b sx
    exact ⟨pe_ife sx h1.t h2.v h3.v, pe_ife sx h1.t h2.v h3.v, pt_ife sx h1.t h2.t h3.t, fun _ _ => pi_bad fun _ => rfl, (fun _ _ h => by cases h), (fun _ _ _ h => by cases h), fun h => absurd rfl h, rfl⟩
  | .Tuple es k pos, X, W, c, sx => by
    simp only [comp]
    exact snd_of sx (pe_tup' (sndD es sx)) (fun _ => rfl) rfl (by intros; simp)
  | .List es pos, X, W, c, sx => by
    simp only [comp]
    exact snd_of sx (pe_lst' (sndD es sx)) (fun _ => rfl) rfl (by intros; simp)
  | .Call f es kws pos, X, W, c, sx => by
    simp only [comp]
    split
    · rename_i hk
      have hk' : kws = [] := List.isEmpty_iff.mp hk
      subst hk'
      exact sndF f sx (comp f c) (snd f sx) es (compL es c) (sndL es sx) pos
    · exact snd_bad rfl (by intros; simp)
  | .Attribute o f pos, X, W, c, sx => by
    simp only [comp]
    have ho := snd o sx
    split
    · rename_i hb
      cases hi : c.att f with
      | none => exact snd_bad rfl (by intros; simp)
      | some i => exact snd_of sx (pe_attr' sx ho.b hi (base_ok hb)) (fun _ => rfl) rfl (by intros; simp)
    · exact snd_bad rfl (by intros; simp)
  | .Subscript o s pos, X, W, c, sx => by
    simp only [comp]
    have ho := snd o sx
    have hs := snd s sx
    cases hsl : (comp s c).sl with
    | none =>
      refine snd_of sx (pe_ix' sx ho.b hs.b ?_) (fun _ => rfl) rfl (by intros; simp)
      intro u v
      cases s with
      | Slice lo hi st p =>
        cases st with
        | some x => rfl
        | none => obtain ⟨a, b, e, _⟩ := hs.sl _ _ _ rfl; rw [hsl] at e; cases e
      | _ => rfl
    | some ab =>
      obtain ⟨lo, hi, p, es⟩ := hs.ns (by rw [hsl]; simp)
      subst es
      obtain ⟨a, b, e, h1, h2⟩ := hs.sl _ _ _ rfl
      rw [hsl] at e; cases e
      exact snd_of sx (pe_sl' sx ho.b h1 h2) (fun _ => rfl) rfl (by intros; simp)
  | .ListComp e gs scope pos, X, W, c, sx => by
    simp only [comp]
    exact sndG gs sx e (comp e (c.blk scope)) scope (fun s H C cl fp => snd e (sx.blk s H scope cl C fp)) pos
  | .Slice lo hi st pos, X, W, c, sx => by
    simp only [comp]
    cases st with
    | none => exact ⟨pe_bad fun _ => rfl, pe_bad fun _ => rfl, pt_bad fun _ => rfl, fun _ _ => pi_bad fun _ => rfl, (fun _ _ h => by cases h), (fun lo' hi' p h => by cases h; exact ⟨_, _, rfl, sndO lo sx, sndO hi sx⟩), fun _ => ⟨_, _, _, rfl⟩, rfl⟩
    | some x => exact snd_bad rfl (by intros; simp)
  | .Starred e pos, X, W, c, sx => by
    simp only [comp]
    have he := snd e sx
    exact ⟨pe_bad fun _ => rfl, pe_bad fun _ => rfl, pt_bad fun _ => rfl, fun _ _ => pi_bad fun _ => rfl, (fun _ _ h => by cases h; exact he.b), (fun _ _ _ h => by cases h), fun h => absurd rfl h, rfl⟩
  | .NamedExpr .., X, W, c, sx => snd_bad rfl (by intros; simp)
  | .Lambda .., X, W, c, sx => snd_bad rfl (by intros; simp)
  | .Dict .., X, W, c, sx => snd_bad rfl (by intros; simp)
  | .Set .., X, W, c, sx => snd_bad rfl (by intros; simp)
  | .SetComp .., X, W, c, sx => snd_bad rfl (by intros; simp)
  | .DictComp .., X, W, c, sx => snd_bad rfl (by intros; simp)
  | .GeneratorExp .., X, W, c, sx => snd_bad rfl (by intros; simp)
  | .Await .., X, W, c, sx => snd_bad rfl (by intros; simp)
  | .Yield .., X, W, c, sx => snd_bad rfl (by intros; simp)
  | .YieldFrom .., X, W, c, sx => snd_bad rfl (by intros; simp)
  | .FormattedValue e k sp pos, X, W, c, sx => by
    simp only [comp]
    have he := snd e sx
    split
    · rename_i hk
      rw [Bool.and_eq_true] at hk
      have e1 : k = -1 := by simpa using hk.1
      have e2 : sp = none := by simpa using hk.2
      subst e1 e2
      exact snd_of sx (pe_fmt' sx he.b) (fun _ => rfl) rfl (by intros; simp)
    · exact snd_bad rfl (by intros; simp)
  | .JoinedStr es pos, X, W, c, sx => by
    simp only [comp]
    have hj := sndJ es sx
    split
    · rename_i hk
      rw [Bool.and_eq_true] at hk
      obtain ⟨ts, h1, h2⟩ := hj hk.2
      have k1 : 2 ≤ es.length := by simpa using hk.1
      match es, h1, h2, k1 with
      | [], _, _, k1 => simp at k1
      | [_], _, _, k1 => simp at k1
      | v1 :: v2 :: rest, h1, h2, _ =>
        refine snd_of sx ((pe_joined h1).mono fun τ H Q q => ?_) (fun _ => rfl) rfl (by intros; simp)
        obtain ⟨m, σ, rl, p⟩ := q
        simp only [ev] at p
        refine h2 _ _ _ _ (post_bnd0 (T := TSt) rl p fun t σ1 m1 H1 v s1 t1 p1 => ?_)
        cases t1
        exact p1 m1 H1 (.str t) s1 (by show RV L H1 m1 (.str t) _; simp only [RV])
    · exact snd_bad rfl (by intros; simp)
theorem sndF : ∀ (f : Expr) {X : Cx} {W : WX} {c : CC}, SX X L P W O c → ∀ (k : C4), Snd X L P W O f k → ∀ (es : List Expr) (as : List C4), SndL X L P W O es as → ∀ pos, Snd X L P W O (.Call f es [] pos) (compF f k c es as pos)
  | .Name x p, X, W, c, sx, k, hf, es, as, h, pos => by simp only [compF]; exact snd_callC sx h
  | .Attribute o m apos, X, W, c, sx, k, hf, es, as, h, pos => by
    simp only [compF]
    split
    · rename_i hb; exact snd_methC sx (snd o sx) h hb
    · exact snd_bad rfl (by intros; simp)
  | .Call g gs ks gp, X, W, c, sx, k, hf, es, as, h, pos => by
    simp only [compF]
    split
    · rename_i hg
      rw [Bool.and_eq_true] at hg
      obtain ⟨g1, g2⟩ := hg
      have ha := sndL_args sx h
      cases es with
      | nil => simp at g2
      | cons e es => exact snd_of sx (pe_callv sx hf.b ha g1 fun h => PyProof.Rows.Call_ h rfl) (fun _ => rfl) rfl (by intros; simp)
    · exact snd_bad rfl (by intros; simp)
  | .BoolOp .., X, W, c, sx, k, hf, es, as, h, pos | .NamedExpr .., X, W, c, sx, k, hf, es, as, h, pos | .BinOp .., X, W, c, sx, k, hf, es, as, h, pos | .UnaryOp .., X, W, c, sx, k, hf, es, as, h, pos | .Lambda .., X, W, c, sx, k, hf, es, as, h, pos | .IfExp .., X, W, c, sx, k, hf, es, as, h, pos | .Dict .., X, W, c, sx, k, hf, es, as, h, pos
  | .Set .., X, W, c, sx, k, hf, es, as, h, pos | .ListComp .., X, W, c, sx, k, hf, es, as, h, pos | .SetComp .., X, W, c, sx, k, hf, es, as, h, pos | .DictComp .., X, W, c, sx, k, hf, es, as, h, pos | .GeneratorExp .., X, W, c, sx, k, hf, es, as, h, pos | .Await .., X, W, c, sx, k, hf, es, as, h, pos | .Yield .., X, W, c, sx, k, hf, es, as, h, pos
  | .YieldFrom .., X, W, c, sx, k, hf, es, as, h, pos | .Compare .., X, W, c, sx, k, hf, es, as, h, pos | .FormattedValue .., X, W, c, sx, k, hf, es, as, h, pos | .JoinedStr .., X, W, c, sx, k, hf, es, as, h, pos | .Constant .., X, W, c, sx, k, hf, es, as, h, pos
  | .Subscript .., X, W, c, sx, k, hf, es, as, h, pos | .Starred .., X, W, c, sx, k, hf, es, as, h, pos | .List .., X, W, c, sx, k, hf, es, as, h, pos | .Tuple .., X, W, c, sx, k, hf, es, as, h, pos | .Slice .., X, W, c, sx, k, hf, es, as, h, pos => by
    exact snd_bad rfl (by intros; simp)
theorem sndJ : ∀ (es : List Expr) {X : Cx} {W : WX} {c : CC}, SX X L P W O c → noStar es = true → ∃ ts, PJ X es ts ∧ ∀ acc τ H Q, tG L W TSt (evF P O (compD es c) acc) τ H Q → tJs ts acc τ H Q
  | [], X, W, c, sx, _ => by
    refine ⟨[], .nil, fun acc τ H Q q => ?_⟩
    simp only [compD] at q
    obtain ⟨m, σ, rl, p⟩ := q
    exact p m H acc (Step.refl rl) rfl
  | e :: es, X, W, c, sx, hn => by
    obtain ⟨n1, n2⟩ := noStar_cons hn
    obtain ⟨ts, h1, h2⟩ := sndJ es sx n2
    refine ⟨_ :: ts, .cons (snd e sx).v h1, fun acc τ H Q q => ?_⟩
    simp only [compD] at q
    rw [if_neg (by rw [n1]; simp)] at q
    obtain ⟨m, σ, rl, p⟩ := q
    simp only [evF] at p
    refine post_bnd0 (T := TR L) rl p fun z σ1 m1 H1 v s1 t1 p1 => ?_
    split at p1
    · rename_i y
      have ev : v = .str y := by have : RV L H1 m1 (.str y) v := t1; simpa only [RV] using this
      split at p1
      · rename_i hl
        exact ⟨y, ev, by rw [← lim_eq]; exact hl, h2 _ _ _ _ (post_tail (fun _ _ _ _ _ _ _ _ _ h => h) s1 p1)⟩
      · exact p1.elim
    · exact p1.elim
theorem sndL : ∀ (es : List Expr) {X : Cx} {W : WX} {c : CC}, SX X L P W O c → SndL X L P W O es (compL es c)
  | [], X, W, c, sx => by simp only [compL]; rfl
  | e :: es, X, W, c, sx => by simp only [compL]; exact ⟨_, _, rfl, snd e sx, sndL es sx⟩
theorem sndD : ∀ (es : List Expr) {X : Cx} {W : WX} {c : CC}, SX X L P W O c → PA X es (tDs L W (evD P O (compD es c)))
  | [], X, W, c, sx => by simp only [compD]; exact pd_nil
  | e :: es, X, W, c, sx => by
    simp only [compD]
    have he := snd e sx
    have hr := sndD es sx
    split
    · rename_i hs
      cases e <;> simp [isStar] at hs
      exact pd_star sx (he.s _ _ rfl) hr
    · rename_i hs
      exact pd_arg he.v hr (by simpa using hs)
theorem sndG : ∀ (gs : List Comprehension) {X : Cx} {W : WX} {c : CC}, SX X L P W O c → ∀ (e : Expr) (k : C4) (scope : Scope), (∀ s H C cl fp, Snd (X.blk s H scope (compEnvC scope cl C X.env) fp) L P (fun _ _ _ _ => False) O e k) → ∀ pos, Snd X L P W O (.ListComp e gs scope pos) (compG gs c k scope)
  | [], X, W, c, sx, e, k, scope, he, pos => by simp only [compG]; exact snd_bad rfl (by intros; simp)
  | g :: r, X, W, c, sx, e, k, scope, he, pos => by
    simp only [compG]
    split
    · rename_i hr
      have hr' : r = [] := List.isEmpty_iff.mp hr
      subst hr'
      exact sndG1 g sx e k scope he pos
    · exact snd_bad rfl (by intros; simp)
theorem sndG1 : ∀ (g : Comprehension) {X : Cx} {W : WX} {c : CC}, SX X L P W O c → ∀ (e : Expr) (k : C4) (scope : Scope), (∀ s H C cl fp, Snd (X.blk s H scope (compEnvC scope cl C X.env) fp) L P (fun _ _ _ _ => False) O e k) → ∀ pos, Snd X L P W O (.ListComp e [g] scope pos) (compG1 g c k scope)
  | ⟨tg, it, ifs, n⟩, X, W, c, sx, e, k, scope, he, pos => by
    simp only [compG1]
    have hi := snd it sx
    have hp := fun s H C cl fp => sndL ifs (sx.blk s H scope cl C fp)
    split
    · rename_i hc
      rw [Bool.and_eq_true, Bool.and_eq_true, Bool.and_eq_true, Bool.and_eq_true] at hc
      obtain ⟨⟨⟨⟨c1, c4⟩, c5⟩, c2⟩, c3⟩ := hc
      have en : n = 0 := eq_of_beq c1
      subst en
      have ok : BlkOk X.N X.env.scope scope (ownOf c.N scope) := by rw [sx.N, sx.sc]; exact blkOk_by c2
      have hsl : ∀ w ∈ slots (tgC (c.blk scope) tg), w ∈ (ownOf c.N scope).map (·.2) := fun w hw => by
        have := List.all_eq_true.mp c3 w hw
        simpa using this
      refine snd_of sx ?_ (fun _ => rfl) rfl (by intros; simp)
      have htup : isEnm (comp it c).i = true → isTup tg = true := fun h => by
        rw [h] at c5; simpa using c5
      · refine pe_lc' sx ok (hi.i tg htup) (fun s H C cl fp => pg_all (sx.blk s H scope cl C fp) tg) (fun s H C cl fp => ?_) (fun s H C cl fp => (he s H C cl fp).v) ?_ hsl
        · have h := hp s H C cl fp
          generalize compL ifs (c.blk scope) = ps at h
          match ifs, ps, h with
          | [], ps, h =>
            rw [show ps = [] from h]
            refine ⟨fun pins s σ H Q I q => pts_nil.run pins s σ H Q I ?_⟩
            obtain ⟨m, σ', rl, p⟩ := q
            simp only [evT, ev, bnd, ret, der, truth, ofO] at p
            exact p m H true (Step.refl rl) rfl
          | [f], ps, h =>
            obtain ⟨k', r, e1, h1, h2⟩ := h
            rw [show r = [] from h2] at e1
            subst e1
            exact pts_one h1.t
          | _ :: _ :: _, ps, h =>
            obtain ⟨k', r, e1, h1, k2, r2, e2, _⟩ := h
            subst e1; subst e2
            refine ⟨fun pins s σ H Q I q => ?_⟩
            obtain ⟨m, σ', rl, p⟩ := q
            exact p.elim
        · exact not_folded (by simpa using c4)
    · exact snd_bad rfl (by intros; simp)
theorem sndO : ∀ (o : Option Expr) {X : Cx} {W : WX} {c : CC}, SX X L P W O c → PO X o (tP L W (evP P O (compO o c)))
  | none, X, W, c, sx => by simp only [compO]; exact po_nil
  | some e, X, W, c, sx => by simp only [compO]; exact po_pt (snd e sx).b
end
end
end EV

set_option Elab.async false
set_option linter.all false
set_option maxRecDepth 100000
set_option maxHeartbeats 4000000
/-! ### statements: the words -/
namespace EV
open PySem L2

/-- an object that a slot of one's own (not a parameter) holds -/
def OwF (σ : List Sl) (τ : St) (a : Addr) : Prop := ∃ (i : Nat) (lk : Bool) (d : D), σ[i]? = some (Sl.own false lk d) ∧ τ[i]? = some (some (V.ref a))
section
variable {L : Lk} {σ σ1 σ2 : List Sl} {τ τ1 τ2 : St} {m m1 m2 : Addr → Prop} {H H1 H2 : Hp}
theorem Step.owF (s : Step L σ τ m H σ1 τ1 m1 H1) {a : Addr} (h : OwF σ1 τ1 a) : OwF σ τ a ∨ H a = none := by
  obtain ⟨i, lk, d, h1, h2⟩ := h
  rcases s.own a ⟨i, false, lk, d, h1, h2⟩ with ⟨j, io, lk', e, h3, h4⟩ | z
  · cases io with
    | false => exact .inl ⟨j, lk', e, h3, h4⟩
    | true =>
      obtain ⟨e1, e', h5⟩ := s.io j lk' e h3
      rw [h4] at e1
      have := s.rel.inj _ _ _ _ _ _ _ _ _ h1 h5 h2 e1
      subst this
      rw [h1] at h5; cases h5
  · exact .inr z
/-- what a def gives back -/
def RRt (L : Lk) (H0 : Hp) (σ0 : List Sl) (τ0 : St) (σ : List Sl) (τ : St) (m : Addr → Prop) (H : Hp) : R → V → Prop
  | .val d, v => RV L H m d v
  | .tmp d, v => ∃ a, v = .ref a ∧ (H0 a = none ∨ OwF σ0 τ0 a) ∧ m a ∧ ¬ Ow σ τ a ∧ RO L H m a d
  | .bor _, _ => True
theorem RR.rt {σ0 : List Sl} {τ0 : St} {r : R} {v : V} (h : RR L H σ τ m1 H1 r v) : RRt L H σ0 τ0 σ τ m1 H1 r v := by
  cases r with
  | val d => exact h
  | tmp d => obtain ⟨a, e, h0, h1⟩ := h; exact ⟨a, e, .inl h0, h1⟩
  | bor i => trivial
theorem RRt.elder (s : Step L σ τ m H σ1 τ1 m1 H1) {r : R} {v : V} (h : RRt L H1 σ1 τ1 σ2 τ2 m2 H2 r v) : RRt L H σ τ σ2 τ2 m2 H2 r v := by
  cases r with
  | val d => exact h
  | tmp d =>
    obtain ⟨a, e, h0, h1⟩ := h
    refine ⟨a, e, ?_, h1⟩
    rcases h0 with h0 | h0
    · exact .inl (s.dom a h0)
    · rcases s.owF h0 with z | z
      · exact .inr z
      · exact .inl z
  | bor i => trivial
def PostS (L : Lk) (W : WX) (H : Hp) (σ : List Sl) (τ : St) (m : Addr → Prop) (D : Ends) : Res Fl → Prop
  | .ok .next σ' => ∀ m' H' τ', Step L σ τ m H σ' τ' m' H' → D.nx τ' H'
  | .ok .brk σ' => ∀ m' H' τ', Step L σ τ m H σ' τ' m' H' → D.bk τ' H'
  | .ok .cont σ' => ∀ m' H' τ', Step L σ τ m H σ' τ' m' H' → D.ct τ' H'
  | .ok (.ret r) σ' => ∀ m' H' τ' v, Step L σ τ m H σ' τ' m' H' → RRt L H σ τ σ' τ' m' H' r v → D.rt v H'
  | .exc x σ' => ∀ m' H' τ' cls d, Step L σ τ m H σ' τ' m' H' → RX L m' H' x cls d → W cls d τ' H'
  | .fail => False
def tS (L : Lk) (W : WX) (f : M Fl) : TS := fun D τ H => ∃ m σ, Rel L m H σ τ ∧ PostS L W H σ τ m D (f σ)
variable {W : WX} {Ds : Ends}
theorem ps_tail (s : Step L σ τ m H σ1 τ1 m1 H1) {x : Res Fl} (h : PostS L W H σ τ m Ds x) : PostS L W H1 σ1 τ1 m1 Ds x := by
  cases x with
  | fail => exact h
  | exc x σ2 => intro m' H' τ' cls d s2 t; exact h m' H' τ' cls d (s.trans s2) t
  | ok fl σ2 =>
    cases fl with
    | next => intro m' H' τ' s2; exact h m' H' τ' (s.trans s2)
    | brk => intro m' H' τ' s2; exact h m' H' τ' (s.trans s2)
    | cont => intro m' H' τ' s2; exact h m' H' τ' (s.trans s2)
    | ret r => intro m' H' τ' v s2 t; exact h m' H' τ' v (s.trans s2) (t.elder s)
theorem ps_tailS (s : Step L σ τ m H σ1 τ1 m1 H1) {f : M Fl} (h : PostS L W H σ τ m Ds (f σ1)) : tS L W f Ds τ1 H1 := ⟨m1, σ1, s.rel, ps_tail s h⟩
/-- an expression first -/
theorem ps_bnd {α β : Type} {T : TL α β} {f : M α} {g : α → M Fl} {Q1 : β → Hp → Prop} (s : Step L σ τ m H σ1 τ1 m1 H1) (h : PostS L W H σ τ m Ds (bnd f g σ1))
    (k : ∀ a σ2 m2 H2 v, f σ1 = .ok a σ2 → Step L σ1 τ1 m1 H1 σ2 τ1 m2 H2 → Step L σ τ m H σ2 τ1 m2 H2 → T H1 σ2 τ1 m2 H2 a v → PostS L W H σ τ m Ds (g a σ2) → Q1 v H2) : tG L W T f τ1 H1 Q1 := by
  refine ⟨m1, σ1, s.rel, ?_⟩
  unfold bnd at h
  cases e : f σ1 with
  | fail => rw [e] at h; exact h.elim
  | ok a σ2 =>
    rw [e] at h
    intro m2 H2 v s2 t
    exact k a σ2 m2 H2 v e s2 (s.trans s2) t h
  | exc x σ2 =>
    rw [e] at h
    intro m2 H2 cls d s2 t
    exact h m2 H2 τ1 cls d (s.trans s2) t
theorem ps_frz {r : R} {g : D → M Fl} {v : V} (s : Step L σ τ m H σ1 τ m1 H1) (t : RR L H σ1 τ m1 H1 r v) (h : PostS L W H σ τ m Ds (bnd (frz r) g σ1)) :
    ∃ d σ2 m2, frz r σ1 = .ok d σ2 ∧ Step L σ τ m H σ2 τ m2 H1 ∧ RV L H1 m2 d v ∧ Kp H1 m1 H1 m2 ∧ PostS L W H σ τ m Ds (g d σ2) := by
  unfold bnd at h
  cases e : frz r σ1 with
  | fail => rw [e] at h; exact h.elim
  | exc x σ2 =>
    unfold frz at e
    cases r with
    | val d => cases e
    | tmp d => cases e
    | bor i => dsimp only at e; split at e <;> cases e
  | ok d σ2 =>
    rw [e] at h
    obtain ⟨m2, s2, rv, kp⟩ := frz_ok s t e
    exact ⟨d, σ2, m2, rfl, s2, rv, kp, h⟩
theorem ps_der {r : R} {g : D → M Fl} {v : V} {H0 : Hp} (rl : Rel L m1 H1 σ1 τ1) (t : RR L H0 σ1 τ1 m1 H1 r v) (h : PostS L W H σ τ m Ds (bnd (der r) g σ1)) :
    ∃ d, RC L m1 H1 d v ∧ PostS L W H σ τ m Ds (g d σ1) := by
  unfold bnd at h
  cases e : der r σ1 with
  | fail => rw [e] at h; exact h.elim
  | exc x σ2 =>
    unfold der at e
    cases r with
    | val d => cases e
    | tmp d => cases e
    | bor i => dsimp only at e; split at e <;> cases e
  | ok d σ2 =>
    rw [e] at h
    obtain ⟨e1, rc⟩ := der_ok rl t e
    subst e1
    exact ⟨d, rc, h⟩
/-- a unit step that does not raise -/
theorem ps_unit {f : M Unit} {g : Unit → M Fl} (hn : f σ1 = .fail ∨ ∃ σ2, f σ1 = .ok () σ2) (h : PostS L W H σ τ m Ds (bnd f g σ1)) : ∃ σ2, f σ1 = .ok () σ2 ∧ PostS L W H σ τ m Ds (g () σ2) := by
  unfold bnd at h
  rcases hn with e | ⟨σ2, e⟩
  · rw [e] at h; exact h.elim
  · rw [e] at h; exact ⟨σ2, e, h⟩
mutual
theorem asg_res : ∀ (t : Tg) (d : D) (σ : List Sl), asg t d σ = .fail ∨ ∃ σ2, asg t d σ = .ok () σ2
  | .name i, d, σ => by simp only [asg]; exact put_res
  | .tup t, .tup ds, σ => by simp only [asg]; exact asgs_res t ds σ
  | .tup t, .non, σ | .tup t, .bl _, σ | .tup t, .int _, σ | .tup t, .str _, σ | .tup t, .lst _, σ | .tup t, .ins _ _ _, σ | .tup t, .gl _, σ | .tup t, .ty _, σ => by simp only [asg]; exact .inl rfl
  | .nil, d, σ => by simp only [asg]; exact .inl rfl
  | .cons t r, d, σ => by simp only [asg]; exact .inl rfl
  | .bad, d, σ => by simp only [asg]; exact .inl rfl
theorem asgs_res : ∀ (t : Tg) (ds : List D) (σ : List Sl), asgs t ds σ = .fail ∨ ∃ σ2, asgs t ds σ = .ok () σ2
  | .nil, [], σ => by simp only [asgs]; exact .inr ⟨_, rfl⟩
  | .nil, d :: ds, σ => by simp only [asgs]; exact .inl rfl
  | .cons t r, [], σ => by simp only [asgs]; exact .inl rfl
  | .cons t r, d :: ds, σ => by
    simp only [asgs]
    unfold bnd
    rcases asg_res t d σ with e | ⟨σ2, e⟩
    · rw [e]; exact .inl rfl
    · rw [e]; exact asgs_res r ds σ2
  | .name i, ds, σ => by simp only [asgs]; exact .inl rfl
  | .tup t, ds, σ => by simp only [asgs]; exact .inl rfl
  | .bad, ds, σ => by simp only [asgs]; exact .inl rfl
end
/-- one's own object is written -/
theorem step_write {σ0 : List Sl} {τ0 : St} {m0 : Addr → Prop} {H0 : Hp} (s : Step L σ0 τ0 m0 H0 σ τ m H) {i : Nat} {io : Bool} {d e : D} {p : Addr} {o : HO} (h : σ[i]? = some (.own io false d)) (hp : τ[i]? = some (some (.ref p)))
    (new : RO L (upd H p o) m p e) : Step L σ0 τ0 m0 H0 (σ.set i (.own io false e)) τ m (upd H p o) := by
  have hi := (List.getElem?_eq_some_iff.mp h).1
  obtain ⟨q, h1, h2, h3⟩ := s.rel.own i io false d h
  rw [hp] at h1; cases h1
  have wr0 : Wr σ τ p := ⟨i, io, d, h, hp⟩
  have kp : Kp H m (upd H p o) m := fun a u ea hm => by
    have hne : a ≠ p := fun z => by subst z; exact hm h2
    exact ⟨by rw [upd_ne hne]; exact ea, hm⟩
  have hw0 : Wr σ0 τ0 p ∨ H0 p = none := s.wr p wr0
  have dom : ∀ a, upd H p o a = none → H a = none := fun a ha => by
    by_cases z : a = p
    · subst z; rw [upd_same] at ha; cases ha
    · rw [upd_ne z] at ha; exact ha
  have set_own : ∀ {j : Nat} {io' lk : Bool} {d' : D}, (σ.set i (.own io false e))[j]? = some (.own io' lk d') → ∃ d'', σ[j]? = some (.own io' lk d'') := fun {j io' lk d'} hj => by
    rcases set_get hj with ⟨e1, e2, _⟩ | ⟨hn, hj⟩
    · subst e1; cases e2; exact ⟨d, h⟩
    · exact ⟨d', hj⟩
  refine ⟨⟨fun a ha => ?_, by rw [List.length_set]; exact s.rel.len, fun j d' hj => ?_, fun j io' lk d' hj => ?_, fun j k io' lk io'' lk' d' d'' a h4 h5 h6 h7 => ?_⟩, fun a u ea hn => ?_, fun a ha => ?_, fun a ha => ?_, fun j lk d' hj => ?_, fun j io' d' hj => ?_, fun a ha => s.dom a (dom a ha)⟩
  · by_cases z : a = p
    · subst z; exact ⟨_, upd_same⟩
    · rw [upd_ne z]; exact s.rel.mH a ha
  · rcases set_get hj with ⟨_, e2, _⟩ | ⟨hn, hj⟩
    · cases e2
    · obtain ⟨v, g1, g2⟩ := s.rel.val j d' hj
      exact ⟨v, g1, RV.mono kp _ _ g2⟩
  · rcases set_get hj with ⟨e1, e2, _⟩ | ⟨hn, hj⟩
    · subst e1; cases e2; exact ⟨p, hp, h2, new⟩
    · obtain ⟨b, g1, g2, g3⟩ := s.rel.own j io' lk d' hj
      refine ⟨b, g1, g2, g3.mono kp fun u eu => ?_⟩
      have : b ≠ p := fun z => by
        subst z
        exact hn (s.rel.inj _ _ _ _ _ _ _ _ _ hj h g1 hp)
      rw [upd_ne this]; exact eu
  · obtain ⟨_, g1⟩ := set_own h4
    obtain ⟨_, g2⟩ := set_own h5
    exact s.rel.inj _ _ _ _ _ _ _ _ _ g1 g2 h6 h7
  · obtain ⟨g1, g2⟩ := s.frame a u ea hn
    have : a ≠ p := fun z => by
      subst z
      rcases hw0 with z | z
      · exact hn z
      · rw [ea] at z; cases z
    exact ⟨by rw [upd_ne this]; exact g1, g2⟩
  · obtain ⟨j, io', lk, d', h4, h5⟩ := ha
    obtain ⟨_, g1⟩ := set_own h4
    exact s.own a ⟨j, io', lk, _, g1, h5⟩
  · obtain ⟨j, io', d', h4, h5⟩ := ha
    obtain ⟨_, g1⟩ := set_own h4
    exact s.wr a ⟨j, io', _, g1, h5⟩
  · obtain ⟨e1, e', g⟩ := s.io j lk d' hj
    refine ⟨e1, ?_⟩
    by_cases z : j = i
    · subst z; rw [h] at g; cases g; exact ⟨e, List.getElem?_set_self hi⟩
    · exact ⟨e', by rw [List.getElem?_set_ne (Ne.symm z)]; exact g⟩
  · obtain ⟨e1, g⟩ := s.lkd j io' d' hj
    refine ⟨e1, ?_⟩
    have z : j ≠ i := fun z => by subst z; rw [h] at g; cases g
    rw [List.getElem?_set_ne (Ne.symm z)]; exact g
/-- a slot lets its object go, without giving it to anyone -/
theorem step_un {σ0 : List Sl} {τ0 : St} {m0 : Addr → Prop} {H0 : Hp} (s : Step L σ0 τ0 m0 H0 σ τ m H) {i : Nat} {d : D} (h : σ[i]? = some (.own false false d)) : Step L σ0 τ0 m0 H0 (σ.set i .un) τ m H := by
  have set_own : ∀ {j : Nat} {io' lk : Bool} {d' : D}, (σ.set i .un)[j]? = some (.own io' lk d') → j ≠ i ∧ σ[j]? = some (.own io' lk d') := fun {j io' lk d'} hj => by
    rcases set_get hj with ⟨e1, e2, _⟩ | ⟨hn, hj⟩
    · cases e2
    · exact ⟨hn, hj⟩
  refine ⟨⟨s.rel.mH, by rw [List.length_set]; exact s.rel.len, fun j d' hj => ?_, fun j io' lk d' hj => s.rel.own _ _ _ _ (set_own hj).2, fun j k io' lk io'' lk' d' d'' a h4 h5 h6 h7 => s.rel.inj _ _ _ _ _ _ _ _ _ (set_own h4).2 (set_own h5).2 h6 h7⟩, s.frame, fun a ha => ?_, fun a ha => ?_, fun j lk d' hj => ?_, fun j io' d' hj => ?_, s.dom⟩
  · rcases set_get hj with ⟨_, e2, _⟩ | ⟨hn, hj⟩
    · cases e2
    · exact s.rel.val j d' hj
  · obtain ⟨j, io', lk, d', h4, h5⟩ := ha
    exact s.own a ⟨j, io', lk, _, (set_own h4).2, h5⟩
  · obtain ⟨j, io', d', h4, h5⟩ := ha
    exact s.wr a ⟨j, io', _, (set_own h4).2, h5⟩
  · obtain ⟨e1, e', g⟩ := s.io j lk d' hj
    have z : j ≠ i := fun z => by subst z; rw [h] at g; cases g
    exact ⟨e1, e', by rw [List.getElem?_set_ne (Ne.symm z)]; exact g⟩
  · obtain ⟨e1, g⟩ := s.lkd j io' d' hj
    have z : j ≠ i := fun z => by subst z; rw [h] at g; cases g
    exact ⟨e1, by rw [List.getElem?_set_ne (Ne.symm z)]; exact g⟩
end
end EV

set_option Elab.async false
set_option linter.all false
set_option maxRecDepth 100000
set_option maxHeartbeats 4000000
/-! ### statements -/
namespace EV
open PySem L2
section
variable {X : Cx} {L : Lk} {P : Prog} {W : WX} {O : Oc} {c : CC}

theorem ss_bad {st : Stmt} {f : M Fl} (h : ∀ σ, f σ = .fail) : PS X st (tS L W f) := ⟨fun pins s σ H D I q => by
  obtain ⟨m, σ', _, z⟩ := q
  rw [h] at z; exact z.elim⟩
theorem sss_nil : PSs X [] (tS L W (ex P O .nil)) := (pss_nil (X := X)).mono fun Ds τ H q => by
  obtain ⟨m, σ, rl, p⟩ := q
  exact p m H τ (Step.refl rl)
theorem sss_cons {st : Stmt} {rest : List Stmt} {s r : S} (h1 : PS X st (tS L W (ex P O s))) (h2 : PSs X rest (tS L W (ex P O r))) : PSs X (st :: rest) (tS L W (ex P O (.seq s r))) :=
  (pss_cons h1 h2).mono fun Ds τ H q => by
    obtain ⟨m, σ, rl, p⟩ := q
    refine ⟨m, σ, rl, ?_⟩
    simp only [ex] at p
    unfold bnd at p
    cases e : ex P O s σ with
    | fail => rw [e] at p; exact p
    | exc x σ1 => rw [e] at p; exact p
    | ok fl σ1 =>
      rw [e] at p
      cases fl with
      | next => intro m' H' τ' s'; exact ps_tailS s' p
      | brk => exact p
      | cont => exact p
      | ret r => exact p
theorem ss_pass {pos : Pos} : PS X (.Pass pos) (tS L W (ex P O .nil)) := (ps_pass (X := X)).mono fun Ds τ H q => by
  obtain ⟨m, σ, rl, p⟩ := q
  exact p m H τ (Step.refl rl)
theorem ss_brk {pos : Pos} : PS X (.Break pos) (tS L W (ex P O .brk)) := (ps_break (X := X)).mono fun Ds τ H q => by
  obtain ⟨m, σ, rl, p⟩ := q
  exact p m H τ (Step.refl rl)
theorem ss_cont {pos : Pos} : PS X (.Continue pos) (tS L W (ex P O .cont)) := (ps_continue (X := X)).mono fun Ds τ H q => by
  obtain ⟨m, σ, rl, p⟩ := q
  exact p m H τ (Step.refl rl)
theorem ss_retN {pos : Pos} : PS X (.Return none pos) (tS L W (ex P O (.ret (.c .non)))) := (ps_retN (X := X)).mono fun Ds τ H q => by
  obtain ⟨m, σ, rl, p⟩ := q
  simp only [ex, ev, bnd, ret] at p
  exact p m H τ .non (Step.refl rl) (by simp [RRt, RV])
theorem ss_ret {e : Expr} {x : E} {pos : Pos} (he : PE X e (tE L W (ev P O x))) : PS X (.Return (some e) pos) (tS L W (ex P O (.ret x))) := (ps_ret he).mono fun Ds τ H q => by
  obtain ⟨m, σ, rl, p⟩ := q
  simp only [ex] at p
  refine ps_bnd (T := TR L) (Step.refl rl) p fun r σ2 m2 H2 v _ s2 s2' t2 p2 => ?_
  exact p2 m2 H2 τ v s2' (RR.rt t2)
theorem ss_retv {y : Str} {i : Nat} {pos pos' : Pos} (he : PE X (.Name y pos') (tVar i)) : PS X (.Return (some (.Name y pos')) pos) (tS L W (ex P O (.retv i))) := (ps_ret he).mono fun Ds τ H q => by
  obtain ⟨m, σ, rl, p⟩ := q
  simp only [ex] at p
  cases e : σ[i]? with
  | none => rw [e] at p; exact p.elim
  | some sl =>
    rw [e] at p
    cases sl with
    | un => exact p.elim
    | val d =>
      obtain ⟨v, h1, h2⟩ := rl.val i d e
      exact ⟨v, h1, p m H τ v (Step.refl rl) h2⟩
    | own io lk d =>
      cases io <;> cases lk <;> first | exact p.elim | skip
      obtain ⟨a, h1, h2, h3⟩ := rl.own i _ _ _ e
      refine ⟨_, h1, p m H τ _ (step_un (Step.refl rl) e) ⟨a, rfl, .inr ⟨i, false, d, e, h1⟩, h2, ?_, h3⟩⟩
      rintro ⟨j, io', lk', d', g1, g2⟩
      rcases set_get g1 with ⟨_, e2, _⟩ | ⟨hn, g1⟩
      · cases e2
      · exact hn (rl.inj _ _ _ _ _ _ _ _ _ g1 e g2 h1)
theorem ss_expr {e : Expr} {x : E} {pos : Pos} (he : PE X e (tE L W (ev P O x))) (hs : swapsWith e none pos.line X.env = pure false) : PS X (.Expr e pos) (tS L W (ex P O (.expr x))) := (ps_expr he hs).mono fun Ds τ H q => by
  obtain ⟨m, σ, rl, p⟩ := q
  simp only [ex] at p
  refine ps_bnd (T := TR L) (Step.refl rl) p fun r σ2 m2 H2 v _ s2 s2' t2 p2 => ?_
  exact p2 m2 H2 τ s2'
theorem ss_if {t : Expr} {a b : List Stmt} {x : E} {y z : S} {pos : Pos} (ht : PT X t (tT L W (evT P O x))) (ha : PSs X a (tS L W (ex P O y))) (hb : PSs X b (tS L W (ex P O z))) : PS X (.If t a b pos) (tS L W (ex P O (.ite x y z))) := (ps_if ht ha hb).mono fun Ds τ H q => by
  obtain ⟨m, σ, rl, p⟩ := q
  simp only [ex] at p
  refine ps_bnd (T := TB) (Step.refl rl) p fun k σ2 m2 H2 v _ s2 s2' t2 p2 => ?_
  have e : k = v := t2
  subst e
  cases k with
  | true => exact ps_tailS s2' p2
  | false => exact ps_tailS s2' p2
theorem putR_ok {i : Nat} {r : R} {σ0 σ : List Sl} {τ0 τ : St} {m0 m : Addr → Prop} {H0 H : Hp} {v : V} (s : Step L σ0 τ0 m0 H0 σ τ m H) (t : RR L H0 σ τ m H r v) {g : Unit → M Fl} {Ds : Ends} {σb : List Sl} {τb : St} {mb : Addr → Prop} {Hb : Hp} (h : PostS L W Hb σb τb mb Ds (bnd (putR i r) g σ)) :
    ∃ σ', putR i r σ = .ok () σ' ∧ Step L σ0 τ0 m0 H0 σ' (τ.set i (some v)) m H ∧ PostS L W Hb σb τb mb Ds (g () σ') := by
  have hn : putR i r σ = .fail ∨ ∃ σ2, putR i r σ = .ok () σ2 := by
    cases r with
    | val d => exact put_res
    | tmp d => exact put_res
    | bor j => exact .inl rfl
  obtain ⟨σ2, e, p⟩ := ps_unit hn h
  refine ⟨σ2, e, ?_, p⟩
  cases r with
  | val d =>
    obtain ⟨s0, h1, h2, h3⟩ := put_ok (show put i (.val d) σ = _ from e)
    subst h3
    exact step_put s h1 h2 (.inl ⟨d, rfl, t⟩)
  | tmp d =>
    obtain ⟨s0, h1, h2, h3⟩ := put_ok (show put i (.own false false d) σ = _ from e)
    subst h3
    exact step_put s h1 h2 (.inr ⟨d, rfl, t⟩)
  | bor j => simp [putR, stuck] at e
theorem ts_set {te : TE} {i : Nat} {x : E} (he : ∀ τ H Q, tE L W (ev P O x) τ H Q → te τ H Q) (Ds : Ends) (τ : St) (H : Hp) (q : tS L W (ex P O (.set (.name i) x)) Ds τ H) : tAsg te (gName i) Ds τ H := by
  obtain ⟨m, σ, rl, p⟩ := q
  simp only [ex] at p
  refine he _ _ _ (ps_bnd (T := TR L) (Step.refl rl) p fun r σ2 m2 H2 v _ s2 s2' t2 p2 => ?_)
  obtain ⟨σ3, _, s3, p3⟩ := putR_ok s2' t2 p2
  exact p3 m2 H2 _ s3
theorem ss_set (sx : SX X L P W O c) {e : Expr} {y : Str} {i : Nat} {x : E} {pos pos' : Pos} (hi : X.N[i]? = some y) (hl : Loc X.env.scope y) (hf : X.fn y = true ∨ X.env.scope.names.lookup y = some .local) (he : PE X e (tE L W (ev P O x))) (hs : swapsWith e (some (.Name y pos')) pos.line X.env = pure false) :
    PS X (.Assign [.Name y pos'] e pos) (tS L W (ex P O (.set (.name i) x))) := (ps_set sx.nd hi hl he hs hf).mono (ts_set fun _ _ _ h => h)
theorem ss_asg (sx : SX X L P W O c) {tg e : Expr} {x : E} {pos : Pos} (hn : ∀ i, tgC c tg ≠ .name i) (he : PE X e (tE L W (ev P O x))) (hs : swapsWithSole [tg] e pos.line X.env = pure false) (hw : swappedStores [tg] e X.env = pure none) (h1 : (assignEach [tg] X.env).map (·.2) = [assign tg X.env]) :
    PS X (.Assign [tg] e pos) (tS L W (ex P O (.set (tgC c tg) x))) := (ps_asg he (pg_all sx tg) hs hw h1).mono fun Ds τ H q => by
  obtain ⟨m, σ, rl, p⟩ := q
  have p : PostS L W H σ τ m Ds (bnd (ev P O x) (fun r => bnd (frz r) fun d => bnd (asg (tgC c tg) d) fun _ => ret .next) σ) := by
    generalize tgC c tg = t at hn p
    cases t with
    | name i => exact absurd rfl (hn i)
    | _ => exact p
  refine ps_bnd (T := TR L) (Step.refl rl) p fun r σ2 m2 H2 v _ s2 s2' t2 p2 => ?_
  obtain ⟨d, σ3, m3, _, s3, rv, kp, p3⟩ := ps_frz s2' t2 p2
  obtain ⟨σ4, e4, p4⟩ := ps_unit (asg_res _ _ _) p3
  exact ⟨m3, σ3, σ, τ, m, H, d, σ4, s3, rv, e4, fun τ' s' ag => p4 m3 H2 τ' s'⟩
theorem setF_ok {i : Nat} {k d : D} {σ σ' : List Sl} (h : setF i k d σ = .ok () σ') : ∃ io ds j n, σ[i]? = some (.own io false (.lst ds)) ∧ k = .int j ∧ ixN ds.length j = some n ∧ σ' = σ.set i (.own io false (.lst (ds.set n d))) := by
  unfold setF at h
  split at h
  · rename_i io ds j h1
    split at h
    · rename_i n h2
      cases h
      exact ⟨io, ds, j, n, h1, rfl, h2, rfl⟩
    · cases h
  · cases h
theorem setF_res {i : Nat} {k d : D} {σ : List Sl} : setF i k d σ = .fail ∨ ∃ σ', setF i k d σ = .ok () σ' := by
  unfold setF
  split
  · split
    · exact .inr ⟨_, rfl⟩
    · exact .inl rfl
  · exact .inl rfl
theorem setF_step {σ0 σ σ' : List Sl} {τ0 τ : St} {m0 m : Addr → Prop} {H0 H : Hp} {i : Nat} {k d : D} {v : V} (s : Step L σ0 τ0 m0 H0 σ τ m H) (rv : RV L H m d v) (h : setF i k d σ = .ok () σ') :
    ∃ p xs j n, τ[i]? = some (some (.ref p)) ∧ k = .int j ∧ H p = some (.lst xs) ∧ ixN xs.length j = some n ∧ Step L σ0 τ0 m0 H0 σ' τ m (upd H p (.lst (xs.set n v))) ∧ Kp H m (upd H p (.lst (xs.set n v))) m := by
  obtain ⟨io, ds, j, n, h1, h2, h3, h4⟩ := setF_ok h
  obtain ⟨p, g1, g2, xs, g3, g4⟩ := s.rel.own i io false _ h1
  subst h4
  have kp : Kp H m (upd H p (.lst (xs.set n v))) m := fun a u ea hm => by
    have hne : a ≠ p := fun z => by subst z; exact hm g2
    exact ⟨by rw [upd_ne hne]; exact ea, hm⟩
  refine ⟨p, xs, j, n, g1, h2, g3, by rw [← g4.length]; exact h3, step_write s h1 g1 ⟨xs.set n v, upd_same, RVs.mono kp _ _ (RVs.setAt rv n g4)⟩, kp⟩
theorem isOwn_res {i : Nat} {σ : List Sl} : isOwn i σ = .fail ∨ ∃ σ', isOwn i σ = .ok () σ' := by
  unfold isOwn
  split
  · exact .inr ⟨_, rfl⟩
  · exact .inl rfl
theorem isOwn_ok {i : Nat} {σ σ' : List Sl} (h : isOwn i σ = .ok () σ') : σ' = σ ∧ ∃ io lk d, σ[i]? = some (.own io lk d) := by
  unfold isOwn at h
  split at h
  · rename_i io lk d e
    cases h
    exact ⟨rfl, io, lk, d, e⟩
  · cases h
def isSlc : Expr → Bool
  | .Slice _ _ _ _ => true
  | _ => false
theorem asg_sub {o k : Expr} {pos : Pos} {env : Env} (h : isSlc k = false) : ∀ v, assign (.Subscript o k pos) env v = (do
      let ov ← holding [v] (eval o env)
      let iv ← holding [v, ov] (eval k env)
      standAt pos
      holding [v, ov, iv] (setItem ov iv v)
      release [v, ov, iv] []) := by
  intro v
  cases k <;> first | rfl | (simp [isSlc] at h)
/-- o[k] = e, o a list of one's own -/
theorem ss_setix (sx : SX X L P W O c) {o k e : Expr} {i : Nat} {x z : E} {pos tpos : Pos} (ho : PE X o (tVar i)) (hk : PE X k (tE L W (ev P O z))) (he : PE X e (tE L W (ev P O x))) (hsl : isSlc k = false) (hs : swapsWithSole [.Subscript o k tpos] e pos.line X.env = pure false) (hw : swappedStores [.Subscript o k tpos] e X.env = pure none) :
    PS X (.Assign [.Subscript o k tpos] e pos) (tS L W (ex P O (.setix i z x))) := (ps_asg he (pg_sub ho hk set_list (asg_sub hsl)) hs hw rfl).mono fun Ds τ H q => by
  obtain ⟨m, σ, rl, p⟩ := q
  simp only [ex] at p
  refine ps_bnd (T := TR L) (Step.refl rl) p fun r σ2 m2 H2 v _ s2 s2' t2 p2 => ?_
  obtain ⟨d, σ3, m3, _, s3, rv, kp, p3⟩ := ps_frz s2' t2 p2
  obtain ⟨σ3', e3, p3'⟩ := ps_unit isOwn_res p3
  obtain ⟨e3', io, lk, d0, e0⟩ := isOwn_ok e3
  subst e3'
  obtain ⟨u, hu, _⟩ := s3.rel.own i io lk d0 e0
  refine ⟨_, hu, ?_⟩
  refine ps_bnd (T := TR L) s3 p3' fun q σ4 m4 H4 w _ s4 s4' t4 p4 => ?_
  obtain ⟨j, rc, p5⟩ := ps_der s4'.rel t4 p4
  obtain ⟨σ6, e6, p6⟩ := ps_unit setF_res p5
  obtain ⟨pp, xs, j', n, g1, g2, g3, g4, g5, _⟩ := setF_step s4' (RV.mono (s4.kp s3.rel) _ _ rv) e6
  subst g2
  rw [hu] at g1; cases g1
  exact ⟨_, xs, j', n, rfl, rc.int, g3, g4, p6 _ _ τ g5⟩
/-- o[k], y = e, o a list of one's own -/
theorem ss_unp (sx : SX X L P W O c) {o e : Expr} {y : Str} {i j : Nat} {k : Int} {x : E} {n kk : Nat} {pos tpos kpos ypos upos : Pos} (ho : PE X o (tVar i)) (he : PE X e (tE L W (ev P O x)))
    (hi : X.N[j]? = some y) (hl : Loc X.env.scope y) (hf : X.fn y = true ∨ X.env.scope.names.lookup y = some .local)
    (hs : swapsWithSole [.Tuple [.Subscript o (.Constant (.int k) n kpos) tpos, .Name y ypos] kk upos] e pos.line X.env = pure false) (hw : swappedStores [.Tuple [.Subscript o (.Constant (.int k) n kpos) tpos, .Name y ypos] kk upos] e X.env = pure none) :
    PS X (.Assign [.Tuple [.Subscript o (.Constant (.int k) n kpos) tpos, .Name y ypos] kk upos] e pos) (tS L W (ex P O (.unp i k j x))) :=
  (ps_asg he (pg_tup sx.calm (pgs_cons (pg_sub ho (pe_int (i := k)) set_list) (pgs_cons (pg_name sx.nd hi hl hf) pgs_nil))) hs hw rfl).mono fun Ds τ H q => by
  obtain ⟨m, σ, rl, p⟩ := q
  simp only [ex] at p
  refine ps_bnd (T := TR L) (Step.refl rl) p fun r σ2 m2 H2 v _ s2 s2' t2 p2 => ?_
  obtain ⟨d, σ3, m3, _, s3, rv, kp, p3⟩ := ps_frz s2' t2 p2
  split at p3
  · rename_i d1 d2 _
    obtain ⟨σ4, e4, p4⟩ := ps_unit setF_res p3
    obtain ⟨σ5, e5, p5⟩ := ps_unit put_res p4
    obtain ⟨a, vs, ev, q1, r1⟩ := RV.tup' rv
    simp only [RVs] at r1
    obtain ⟨v1, ws, ew, r1, v2, ws2, ew2, r2, ew3⟩ := r1
    subst ew3; subst ew2; subst ew
    refine ⟨a, _, ev, by rw [sx.lo.K]; exact q1, rfl, v1, [v2], rfl, ?_⟩
    obtain ⟨pp, xs, j', n', g1, g2, g3, g4, g5, g6⟩ := setF_step s3 r1 e4
    cases g2
    refine ⟨_, g1, ?_⟩
    refine ⟨pp, xs, k, n', rfl, rfl, g3, g4, v2, [], rfl, ?_⟩
    obtain ⟨s0, h1, h2, h3⟩ := put_ok e5
    subst h3
    exact ⟨rfl, p5 m3 _ _ (step_put g5 h1 h2 (.inl ⟨d2, rfl, RV.mono g6 _ _ r2⟩))⟩
  · exact p3.elim
end
end EV

set_option Elab.async false
set_option linter.all false
set_option maxRecDepth 100000
set_option maxHeartbeats 4000000
/-! ### more statements -/
namespace EV
open PySem L2
section
variable {X : Cx} {L : Lk} {P : Prog} {W : WX} {O : Oc} {c : CC}

/-! several names at once -/
def RRw (L : Lk) (H0 : Hp) (σ : List Sl) (τ : St) (m : Addr → Prop) (H : Hp) : R → V → Prop
  | .bor _, _ => True
  | r, v => RR L H0 σ τ m H r v
def RRws (L : Lk) (H0 : Hp) (σ : List Sl) (τ : St) (m : Addr → Prop) (H : Hp) : List R → List V → Prop
  | [], vs => vs = []
  | r :: rs, vs => ∃ v ws, vs = v :: ws ∧ RRw L H0 σ τ m H r v ∧ RRws L H0 σ τ m H rs ws ∧ ∀ d, r = .tmp d → ∀ (j : Nat) e, rs[j]? = some (R.tmp e) → ws[j]? ≠ some v
theorem RRs.ws {H0 : Hp} {σ : List Sl} {τ : St} {m : Addr → Prop} {H : Hp} : ∀ {rs : List R} {vs : List V}, RRs L H0 σ τ m H rs vs → RRws L H0 σ τ m H rs vs
  | [], vs, h => h
  | r :: rs, vs, h => by
    obtain ⟨v, ws, e, h1, h2, h3⟩ := h
    refine ⟨v, ws, e, ?_, RRs.ws h2, h3⟩
    cases r with
    | bor i => trivial
    | val d => exact h1
    | tmp d => exact h1
theorem RRws.put {H0 : Hp} {σ : List Sl} {τ : St} {m : Addr → Prop} {H : Hp} {i : Nat} {sl : Sl} {v : V} (hi : i < τ.length) : ∀ {rs : List R} {vs : List V}, RRws L H0 σ τ m H rs vs → ((∀ io lk d, sl ≠ .own io lk d) ∨ ∀ (j : Nat) e, rs[j]? = some (R.tmp e) → vs[j]? ≠ some v) → RRws L H0 (σ.set i sl) (τ.set i (some v)) m H rs vs
  | [], vs, h, _ => h
  | r :: rs, vs, h, hd => by
    obtain ⟨w, ws, e, h1, h2, h3⟩ := h
    subst e
    refine ⟨w, ws, rfl, ?_, RRws.put hi h2 (hd.imp id fun k j e hj => by have := k (j + 1) e (by simpa using hj); simpa using this), h3⟩
    cases r with
    | bor i => trivial
    | val d => exact h1
    | tmp d =>
      obtain ⟨a, e1, g1, g2, g3, g4⟩ := h1
      refine ⟨a, e1, g1, g2, fun z => ?_, g4⟩
      obtain ⟨j, io, lk, d', z1, z2⟩ := z
      rcases set_get z1 with ⟨e2, e3, _⟩ | ⟨hn, z1⟩
      · subst e2
        rw [List.getElem?_set_self hi] at z2
        cases z2
        rcases hd with hd | hd
        · exact hd _ _ _ e3.symm
        · exact hd 0 d rfl (by rw [e1]; rfl)
      · rw [List.getElem?_set_ne (Ne.symm hn)] at z2
        exact g3 ⟨j, io, lk, d', z1, z2⟩
def setAll : St → List Nat → List V → St
  | τ, i :: is, v :: vs => setAll (τ.set i (some v)) is vs
  | τ, _, _ => τ
theorem putRs_res : ∀ (is : List Nat) (rs : List R) (σ : List Sl), putRs is rs σ = .fail ∨ ∃ σ', putRs is rs σ = .ok () σ'
  | [], [], σ => .inr ⟨_, rfl⟩
  | [], _ :: _, σ => .inl rfl
  | _ :: _, [], σ => .inl rfl
  | i :: is, r :: rs, σ => by
    simp only [putRs]
    unfold bnd
    have : putR i r σ = .fail ∨ ∃ σ2, putR i r σ = .ok () σ2 := by
      cases r with
      | val d => exact put_res
      | tmp d => exact put_res
      | bor j => exact .inl rfl
    rcases this with e | ⟨σ2, e⟩
    · rw [e]; exact .inl rfl
    · rw [e]; exact putRs_res is rs σ2
theorem putRs_ok : ∀ {is : List Nat} {rs : List R} {vs : List V} {σ0 σ σ' : List Sl} {τ0 τ : St} {m0 m : Addr → Prop} {H0 H : Hp}, Step L σ0 τ0 m0 H0 σ τ m H → RRws L H0 σ τ m H rs vs → putRs is rs σ = .ok () σ' → Step L σ0 τ0 m0 H0 σ' (setAll τ is vs) m H ∧ is.length = vs.length
  | [], [], vs, σ0, σ, σ', τ0, τ, m0, m, H0, H, s, t, e => by
    simp only [putRs, ret] at e
    cases e
    rw [show vs = [] from t]
    exact ⟨s, rfl⟩
  | [], _ :: _, vs, σ0, σ, σ', τ0, τ, m0, m, H0, H, s, t, e => by simp [putRs, stuck] at e
  | _ :: _, [], vs, σ0, σ, σ', τ0, τ, m0, m, H0, H, s, t, e => by simp [putRs, stuck] at e
  | i :: is, r :: rs, vs, σ0, σ, σ', τ0, τ, m0, m, H0, H, s, t, e => by
    obtain ⟨v, ws, e1, h1, h2, h3⟩ := t
    subst e1
    simp only [putRs] at e
    obtain ⟨_, σ2, e2, e3⟩ := bnd_inv e
    cases r with
    | bor j => simp [putR, stuck] at e2
    | val d =>
      obtain ⟨s0, g1, g2, g3⟩ := put_ok (show put i (.val d) σ = _ from e2)
      subst g3
      have hi : i < τ.length := by rw [← s.rel.len]; exact (List.getElem?_eq_some_iff.mp g1).1
      obtain ⟨k1, k2⟩ := putRs_ok (step_put s g1 g2 (.inl ⟨d, rfl, h1⟩)) (RRws.put (sl := .val d) (v := v) hi h2 (.inl fun _ _ _ => by simp)) e3
      exact ⟨k1, by simp [k2]⟩
    | tmp d =>
      obtain ⟨s0, g1, g2, g3⟩ := put_ok (show put i (.own false false d) σ = _ from e2)
      subst g3
      have hi : i < τ.length := by rw [← s.rel.len]; exact (List.getElem?_eq_some_iff.mp g1).1
      obtain ⟨k1, k2⟩ := putRs_ok (step_put s g1 g2 (.inr ⟨d, rfl, h1⟩)) (RRws.put (sl := .own false false d) (v := v) hi h2 (.inr (h3 d rfl))) e3
      exact ⟨k1, by simp [k2]⟩
/-- what is read behind the stores -/
theorem ts_par {is : List Nat} {y : E} {Ds : Ends} {τ : St} {H : Hp} (q : tS L W (ex P O (.par is y)) Ds τ H) : tA L W (evA P O y) τ H fun vs H1 => is.length = vs.length ∧ Ds.nx (setAll τ is vs) H1 := by
  obtain ⟨m, σ, rl, p⟩ := q
  simp only [ex] at p
  refine ps_bnd (T := TRs L) (Step.refl rl) p fun rs σ2 m2 H2 vs _ s2 s2' t2 p2 => ?_
  obtain ⟨σ3, e3, p3⟩ := ps_unit (putRs_res _ _ _) p2
  obtain ⟨s3, hl⟩ := putRs_ok s2' (RRs.ws t2) e3
  exact ⟨hl, p3 m2 H2 _ s3⟩
theorem ss_par2 (sx : SX X L P W O c) {i j : Nat} {x y : Str} {a b : Expr} {z : E} {px py pt pos : Pos} {kt k2 pt2} (hi : X.N[i]? = some x) (hj : X.N[j]? = some y) (hij : i ≠ j) (hx : X.env.scope.names.lookup x = some .local) (hy : X.env.scope.names.lookup y = some .local) (ha : PA X [a, b] (tA L W (evA P O z)))
    (hw : swappedStores [.Tuple [.Name x px, .Name y py] kt pt] (.Tuple [a, b] k2 pt2) X.env = pure (some [x, y])) : PS X (.Assign [.Tuple [.Name x px, .Name y py] kt pt] (.Tuple [a, b] k2 pt2) pos) (tS L W (ex P O (.par [i, j] z))) :=
  (ps_par sx.calm sx.nd hi hj hij hx hy ha hw).mono fun Ds τ H q => by
    obtain ⟨m, σ, rl, p⟩ := ts_par q
    refine ⟨m, σ, rl, post_imp p fun vs H1 h => ?_⟩
    obtain ⟨hl, h⟩ := h
    match vs, hl with
    | [v, w], _ => exact ⟨v, w, rfl, h⟩
theorem ss_par3 (sx : SX X L P W O c) {i j l : Nat} {x y u : Str} {a b d : Expr} {z : E} {px py pu pt pos : Pos} {kt k2 pt2} (hi : X.N[i]? = some x) (hj : X.N[j]? = some y) (hl : X.N[l]? = some u) (hij : i ≠ j) (hil : i ≠ l) (hjl : j ≠ l) (hx : X.env.scope.names.lookup x = some .local) (hy : X.env.scope.names.lookup y = some .local) (hu : X.env.scope.names.lookup u = some .local) (ha : PA X [a, b, d] (tA L W (evA P O z)))
    (hw : swappedStores [.Tuple [.Name x px, .Name y py, .Name u pu] kt pt] (.Tuple [a, b, d] k2 pt2) X.env = pure (some [x, y, u])) : PS X (.Assign [.Tuple [.Name x px, .Name y py, .Name u pu] kt pt] (.Tuple [a, b, d] k2 pt2) pos) (tS L W (ex P O (.par [i, j, l] z))) :=
  (ps_par3 sx.calm sx.nd hi hj hl hij hil hjl hx hy hu ha hw).mono fun Ds τ H q => by
    obtain ⟨m, σ, rl, p⟩ := ts_par q
    refine ⟨m, σ, rl, post_imp p fun vs H1 h => ?_⟩
    obtain ⟨hl, h⟩ := h
    match vs, hl with
    | [v, w, v'], _ => exact ⟨v, w, v', rfl, h⟩

/-! attributes -/
theorem putF_zip {nm : Nat → Str} (inj : ∀ f g, nm f = nm g → f = g) {H : Hp} {m : Addr → Prop} {f : Nat} {d : D} {v : V} (rv : RV L H m d v) : ∀ {ns : List Nat} {ds : List D} {xs : List V}, ns.length = xs.length → RVs L H m ds xs →
    ∃ ys, putF (nm f) v ((ns.map nm).zip xs) = ((putFld f d ns ds).1.map nm).zip ys ∧ (putFld f d ns ds).1.length = ys.length ∧ RVs L H m (putFld f d ns ds).2 ys
  | [], ds, xs, hl, r => by
    cases xs with
    | nil =>
      have hd := r.length
      cases ds with
      | nil => exact ⟨[v], by simp [putFld, putF], by simp [putFld], by simp only [putFld]; exact .cons rv .nil⟩
      | cons => simp at hd
    | cons => simp at hl
  | n :: ns, ds, xs, hl, r => by
    cases xs with
    | nil => simp at hl
    | cons x xs =>
      have hd := r.length
      cases ds with
      | nil => simp at hd
      | cons e ds =>
        simp only [RVs] at r
        obtain ⟨u, ws, eu, r1, r2⟩ := r
        cases eu
        simp only [putFld]
        by_cases h : n = f
        · subst h
          refine ⟨v :: xs, by simp [putF], by simpa using hl, ?_⟩
          simp only [if_true]
          exact .cons rv r2
        · obtain ⟨ys, h1, h2, h3⟩ := putF_zip inj (f := f) rv (ns := ns) (ds := ds) (xs := xs) (by simpa using hl) r2
          have hne : nm n ≠ nm f := fun z => h (inj _ _ z)
          refine ⟨x :: ys, ?_, by simp [h, h2], ?_⟩
          · simp only [List.map_cons, List.zip_cons_cons, putF, hne, if_false, h1, h]
          · simp only [h, if_false]; exact .cons r1 h3
theorem setA_ok {i f : Nat} {d : D} {σ σ' : List Sl} (h : setA P i f d σ = .ok () σ') : ∃ io C ns ds, σ[i]? = some (.own io false (.ins C ns ds)) ∧ lookupAt C f P = none ∧ ns.length < 999 ∧ isFld C f P = true ∧ σ' = σ.set i (.own io false (.ins C (putFld f d ns ds).1 (putFld f d ns ds).2)) := by
  unfold setA at h
  split at h
  · rename_i io C ns ds h1
    split at h
    · rename_i h2
      split at h
      · rename_i h3
        cases h
        exact ⟨io, C, ns, ds, h1, h2, h3.1, h3.2, rfl⟩
      · cases h
    · cases h
  · cases h
theorem setA_res {i f : Nat} {d : D} {σ : List Sl} : setA P i f d σ = .fail ∨ ∃ σ', setA P i f d σ = .ok () σ' := by
  unfold setA
  split
  · split
    · split
      · exact .inr ⟨_, rfl⟩
      · exact .inl rfl
    · exact .inl rfl
  · exact .inl rfl
theorem isFld_cl {C f : Nat} (h : isFld C f P = true) : ∃ k, P.cl C = some k := by
  unfold isFld at h
  cases e : P.cl C with
  | none => rw [e] at h; cases h
  | some k => exact ⟨k, rfl⟩
theorem ss_setat (sx : SX X L P W O c) {o e : Expr} {f : Str} {i g : Nat} {x : E} {pos tpos : Pos} (ho : PE X o (tVar i)) (he : PE X e (tE L W (ev P O x))) (hf : c.att f = some g) (hs : swapsWith e (some (.Attribute o f tpos)) pos.line X.env = pure false) :
    PS X (.Assign [.Attribute o f tpos] e pos) (tS L W (ex P O (.setat i g x))) := (ps_fld ho he hs).mono fun Ds τ H q => by
  obtain ⟨m, σ, rl, p⟩ := q
  simp only [ex] at p
  refine ps_bnd (T := TR L) (Step.refl rl) p fun r σ2 m2 H2 v _ s2 s2' t2 p2 => ?_
  obtain ⟨d, σ3, m3, _, s3, rv, kp, p3⟩ := ps_frz s2' t2 p2
  obtain ⟨σ4, e4, p4⟩ := ps_unit setA_res p3
  obtain ⟨io, C, ns, ds, g1, g2, g3, g4, g5⟩ := setA_ok e4
  subst g5
  obtain ⟨a, k1, k2, dx, xs, k3, k4, k5⟩ := s3.rel.own i io false _ g1
  obtain ⟨ys, j1, j2, j3⟩ := putF_zip sx.nmf (f := g) rv k4 k5
  obtain ⟨kk, hcl⟩ := isFld_cl g4
  have enm := sx.att f g hf
  refine ⟨_, k1, a, L.ad C, dx, _, rfl, k3, sx.cls C kk hcl, by rw [← enm]; exact sx.noat C g g4, ?_, ?_⟩
  · rw [List.length_zip, List.length_map, ← k4, Nat.min_self]; omega
  · have kp2 : Kp H2 m3 (upd H2 a (.ins (L.ad C) dx (putF f v ((ns.map L.nm).zip xs)))) m3 := fun b u eb hm => by
      have hne : b ≠ a := fun z => by subst z; exact hm k2
      exact ⟨by rw [upd_ne hne]; exact eb, hm⟩
    refine p4 m3 _ τ (step_write s3 g1 k1 ⟨dx, ys, ?_, j2, RVs.mono kp2 _ _ j3⟩)
    rw [upd_same, ← enm, j1]

/-! op= -/
theorem isLst_res {i : Nat} {σ : List Sl} : isLst i σ = .fail ∨ ∃ σ', isLst i σ = .ok () σ' := by
  unfold isLst
  split
  · exact .inr ⟨_, rfl⟩
  · exact .inl rfl
theorem isLst_ok {i : Nat} {σ σ' : List Sl} (h : isLst i σ = .ok () σ') : σ' = σ ∧ ∃ io lk ds, σ[i]? = some (.own io lk (.lst ds)) := by
  unfold isLst at h
  split at h
  · rename_i io lk d e
    cases h
    exact ⟨rfl, io, lk, d, e⟩
  · cases h
theorem appF_res {i : Nat} {xs : List D} {σ : List Sl} : appF i xs σ = .fail ∨ ∃ σ', appF i xs σ = .ok () σ' := by
  unfold appF
  split
  · split
    · exact .inr ⟨_, rfl⟩
    · exact .inl rfl
  · exact .inl rfl
theorem appF_step {σ0 σ σ' : List Sl} {τ0 τ : St} {m0 m : Addr → Prop} {H0 H : Hp} {i : Nat} {ds : List D} {vs : List V} (s : Step L σ0 τ0 m0 H0 σ τ m H) (rv : RVs L H m ds vs) (h : appF i ds σ = .ok () σ') :
    ∃ p xs, τ[i]? = some (some (.ref p)) ∧ H p = some (.lst xs) ∧ xs.length + vs.length ≤ sizeLine ∧ Step L σ0 τ0 m0 H0 σ' τ m (upd H p (.lst (xs ++ vs))) := by
  unfold appF at h
  split at h
  · rename_i io es h1
    split at h
    · rename_i hl
      cases h
      obtain ⟨p, g1, g2, xs, g3, g4⟩ := s.rel.own i io false _ h1
      have kp : Kp H m (upd H p (.lst (xs ++ vs))) m := fun a u ea hm => by
        have hne : a ≠ p := fun z => by subst z; exact hm g2
        exact ⟨by rw [upd_ne hne]; exact ea, hm⟩
      exact ⟨p, xs, g1, g3, by rw [← g4.length, ← rv.length, ← lim_eq]; exact hl, step_write s h1 g1 ⟨xs ++ vs, upd_same, (RVs.mono kp _ _ g4).append (RVs.mono kp _ _ rv)⟩⟩
    · cases h
  · cases h
theorem few1 {e : Expr} {cpos : Pos} {env : Env} (hs : isStar e = false) : ((backTo cpos (starEach [e] env)).all (fun x => !x.1) && (backToKw cpos (keywordEach [] env)).all (fun x => x.1.isSome) && decide ([e].length + ([] : List Keyword).length + (if ([] : List Keyword).isEmpty then 0 else 1) < 30)) = true := by
  rw [all_no (by simp [noStar, hs])]; rfl
/-- o.append(e) -/
theorem ss_app (sx : SX X L P W O c) {o e : Expr} {i : Nat} {x : E} {pos apos cpos : Pos} (ho : PE X o (tVar i)) (he : PE X e (tE L W (ev P O x))) (hst : isStar e = false) (hb : attributeBase o "append" X.env (eval o X.env) = eval o X.env) (hl : (apos.endLine == cpos.line) = true) :
    PS X (.Expr (.Call (.Attribute o "append" apos) [e] [] cpos) pos) (tS L W (ex P O (.app i x))) :=
  (ps_expr (pe_bm (r := rAppend) PySem.F.plainAttrs_list PySem.F.slot_list_append PySem.F.type_list_append mt_append ho (pa_cons he pa_nil (by cases e <;> first | rfl | (simp [isStar] at hst))) hb (few1 hst) hl (star_cons hst _) rfl) rfl).mono fun Ds τ H q => by
  obtain ⟨m, σ, rl, p⟩ := q
  simp only [ex] at p
  obtain ⟨σ1, e1, p1⟩ := ps_unit isLst_res p
  obtain ⟨rfl, io, lk, ds, h1⟩ := isLst_ok e1
  obtain ⟨a, g1, g2, xs, g3, g4⟩ := rl.own i io lk _ h1
  refine ⟨_, g1, .inl ⟨rfl, xs, .inl (.inl g3)⟩, ?_⟩
  refine ps_bnd (T := TR L) (Step.refl rl) p1 fun r σ2 m2 H2 v _ s2 s2' t2 p2 => ?_
  obtain ⟨d, σ3, m3, _, s3, rv, kp, p3⟩ := ps_frz s2' t2 p2
  obtain ⟨σ4, e4, p4⟩ := ps_unit appF_res p3
  obtain ⟨b, ys, h2, h3, h4, h5⟩ := appF_step s3 (.cons rv .nil) e4
  rw [g1] at h2; cases h2
  have h6 : ys.length + 1 ≤ sizeLine := by simpa using h4
  exact ⟨_, ys, v, rfl, rfl, h3, h6, p4 _ _ τ h5⟩
/-- o.extend(e), e a new list -/
theorem ss_ext (sx : SX X L P W O c) {o e : Expr} {i : Nat} {x : E} {pos apos cpos : Pos} (ho : PE X o (tVar i)) (he : PE X e (tE L W (ev P O x))) (hst : isStar e = false) (hb : attributeBase o "extend" X.env (eval o X.env) = eval o X.env) (hl : (apos.endLine == cpos.line) = true) :
    PS X (.Expr (.Call (.Attribute o "extend" apos) [e] [] cpos) pos) (tS L W (ex P O (.ext i x))) :=
  (ps_expr (pe_bm (r := rExtend) PySem.F.plainAttrs_list PySem.F.slot_list_extend PySem.F.type_list_extend mt_extend ho (pa_cons he pa_nil (by cases e <;> first | rfl | (simp [isStar] at hst))) hb (few1 hst) hl (star_cons hst _) rfl) rfl).mono fun Ds τ H q => by
  obtain ⟨m, σ, rl, p⟩ := q
  simp only [ex] at p
  obtain ⟨σ1, e1, p1⟩ := ps_unit isLst_res p
  obtain ⟨rfl, io, lk, ds, h1⟩ := isLst_ok e1
  obtain ⟨a, g1, g2, xs, g3, g4⟩ := rl.own i io lk _ h1
  refine ⟨_, g1, .inl ⟨rfl, xs, .inl (.inl g3)⟩, ?_⟩
  refine ps_bnd (T := TR L) (Step.refl rl) p1 fun r σ2 m2 H2 v _ s2 s2' t2 p2 => ?_
  split at p2
  · rename_i zs
    obtain ⟨b, eb, _, _, _, ws, hb1, hb2⟩ := t2
    obtain ⟨σ4, e4, p4⟩ := ps_unit appF_res p2
    obtain ⟨a', ys, h2, h3, h4, h5⟩ := appF_step s2' hb2 e4
    rw [g1] at h2; cases h2
    subst eb
    exact ⟨_, b, ys, ws, rfl, rfl, h3, hb1, h4, p4 _ _ τ h5⟩
  · exact p2.elim
theorem ss_aug (sx : SX X L P W O c) {y : Str} {i : Nat} {op : Operator} {e : Expr} {x : E} {pos pos' : Pos} {fo : Int → Int → Int} (hi : X.N[i]? = some y) (hl : Loc X.env.scope y) (hf : X.fn y = true ∨ X.env.scope.names.lookup y = some .local) (he : PE X e (tE L W (ev P O x))) (ho : PIp X op (ipI fo)) (hb : ∀ i j z, binF op (.int i) (.int j) = some z → z = .val (.int (fo i j))) :
    PS X (.AugAssign (.Name y pos') op e pos) (tS L W (ex P O (.aug i op x))) := (ps_aug sx.nd hi hl he ho hf).mono fun Ds τ H q => by
  obtain ⟨m, σ, rl, p⟩ := q
  simp only [ex] at p
  unfold bnd at p
  simp only [ev] at p
  have key : ∀ {r0 : R} {v0 : V}, τ[i]? = some (some v0) → RR L H σ τ m H r0 v0 → PostS L W H σ τ m Ds (bnd (ev P O x) (fun q => bnd (der r0) fun x => bnd (der q) fun y => match x, y with
    | .int x, .int y => bnd (ofO (binF op (.int x) (.int y))) fun z => bnd (putR i z) fun _ => ret .next
    | _, _ => stuck) σ) → tAug i (tE L W (ev P O x)) (ipI fo) Ds τ H := by
    intro r0 v0 h0 t0 p
    refine ⟨v0, h0, ?_⟩
    refine ps_bnd (T := TR L) (Step.refl rl) p fun r σ2 m2 H2 v _ s2 s2' t2 p2 => ?_
    obtain ⟨d1, rc1, p3⟩ := ps_der s2'.rel (RR.step rl s2 t0) p2
    obtain ⟨d2, rc2, p4⟩ := ps_der s2'.rel t2 p3
    split at p4
    · rename_i a b
      cases eb : binF op (.int a) (.int b) with
      | none => rw [eb] at p4; exact p4.elim
      | some z =>
        rw [eb] at p4
        have hz := hb _ _ _ eb
        subst hz
        obtain ⟨σ3, _, s3, p5⟩ := putR_ok (v := .int (fo a b)) s2' (r := .val (.int (fo a b))) (by simp [RR, RV]) p4
        exact ⟨a, b, rc1.int, rc2.int, p5 m2 H2 _ s3⟩
    · exact p4.elim
  cases e0 : σ[i]? with
  | none => rw [e0] at p; exact p.elim
  | some sl =>
    rw [e0] at p
    cases sl with
    | un => exact p.elim
    | val d =>
      obtain ⟨v, h1, h2⟩ := rl.val i d e0
      exact key (r0 := .val d) h1 h2 p
    | own io lk d =>
      obtain ⟨a, h1, h2, h3⟩ := rl.own i io lk d e0
      exact key (r0 := .bor i) h1 h1 p
end
end EV

set_option Elab.async false
set_option linter.all false
set_option maxRecDepth 100000
set_option maxHeartbeats 4000000
/-! ### loops -/
namespace EV
open PySem L2
section
variable {X : Cx} {L : Lk} {P : Prog} {W : WX} {O : Oc} {c : CC}
/-- behind a walk -/
def unlkR (l : Option Nat) : Res Fl → Res Fl
  | .ok fl σ' => .ok fl (unlockS l σ')
  | .exc x σ' => .exc x (unlockS l σ')
  | .fail => .fail
theorem ps_unlock {σ σ1 : List Sl} {τ τ1 : St} {m m1 : Addr → Prop} {H H1 : Hp} {l : Option Nat} {Ds : Ends} (hl : ∀ i, l = some i → ∃ io d, σ1[i]? = some (.own io false d)) (s : Step L σ τ m H σ1 τ1 m1 H1) {x : Res Fl} (h : PostS L W H σ τ m Ds (unlkR l x)) : PostS L W H1 (lockS l σ1) τ1 m1 Ds x := by
  cases x with
  | fail => exact h
  | exc x σ2 => intro m' H' τ' cls d s2 t; exact h m' H' τ' cls d (s.trans (s2.unlock hl)) t
  | ok fl σ2 =>
    cases fl with
    | next => intro m' H' τ' s2; exact h m' H' τ' (s.trans (s2.unlock hl))
    | brk => intro m' H' τ' s2; exact h m' H' τ' (s.trans (s2.unlock hl))
    | cont => intro m' H' τ' s2; exact h m' H' τ' (s.trans (s2.unlock hl))
    | ret r =>
      intro m' H' τ' v s2 t
      refine h m' H' τ' v (s.trans (s2.unlock hl)) ?_
      cases r with
      | val d => exact t
      | bor i => trivial
      | tmp d =>
        obtain ⟨a, e, h0, h1, h2, h3⟩ := t
        refine ⟨a, e, ?_, h1, fun z => ?_, h3⟩
        · rcases h0 with h0 | ⟨i, lk, d', g1, g2⟩
          · exact .inl (s.dom a h0)
          · obtain ⟨lk', g3, _⟩ := lock_own g1
            rcases s.owF ⟨i, lk', d', g3, g2⟩ with z | z
            · exact .inr z
            · exact .inl z
        · obtain ⟨j, io, lk, d', g1, g2⟩ := z
          obtain ⟨lk', g3, _⟩ := unlock_own g1
          exact h2 ⟨j, io, lk', d', g3, g2⟩
theorem ss_for (sx : SX X L P W O c) (hp : PassesOwn (model X.prog X.w) X.A X.env X.xe) {tg iter : Expr} {body : List Stmt} {it : E} {t : Tg} {a : S} {pos : Pos} (hi : PI X tg iter (tG L W (TJ L) (evI P O it))) (hg : PG X tg (tTg L t)) (hb : PSs X body (tS L W (ex P O a))) (hs : ∀ x, foldedSetIterable iter X.env x = pure x) :
    PS X (.For tg iter body [] pos) (tS L W (ex P O (.for t it a))) := (ps_for hp sx.calm hi hg hb hs).mono fun Ds τ H q => by
  obtain ⟨m, σ, rl, p⟩ := q
  simp only [ex] at p
  refine ps_bnd (T := TJ L) (Step.refl rl) p fun iz σ1 m1 H1 J e0 s1 s1' t1 p1 => ?_
  have hl := evI_lk e0
  obtain ⟨items, l⟩ := iz
  dsimp only at hl p1
  generalize hf : (fun d => bnd (asg t d) fun _ => ex P O a) = f at p1
  generalize hres : forL f items (lockS l σ1) = res at p1
  have p2 : PostS L W H1 (lockS l σ1) τ m1 Ds res := ps_unlock hl s1' (by
    cases res with
    | ok fl σ' => exact p1
    | exc x σ' => exact p1
    | fail => exact p1)
  have nofail : res ≠ .fail := fun z => by rw [z] at p2; exact p2
  let inv : Nat → St → Hp → Prop := fun i τ' H' => ∃ σ' m', Step L (lockS l σ1) τ m1 H1 σ' τ' m' H' ∧ forL f (items.drop i) σ' = res
  refine ⟨fun i mm τ' H' => mm = items.length - i ∧ i ≤ items.length ∧ inv i τ' H', ⟨items.length, by simp, Nat.zero_le _, lockS l σ1, m1, Step.refl (s1.rel.lock l), by rw [List.drop_zero]; exact hres⟩, ?_⟩
  rintro i mm τ' H' ⟨rfl, hil, σ', m', st, eq⟩
  obtain ⟨j1, j2⟩ := t1 H' m' (fun b o eb hn => st.frame b o eb hn) st.rel.mH i
  by_cases hlt : i < items.length
  · right
    have ed : items[i]? = some items[i] := List.getElem?_eq_getElem hlt
    rw [List.drop_eq_getElem_cons hlt] at eq
    obtain ⟨hgo, hy⟩ := j1 _ ed
    refine ⟨hgo, inv (i + 1), fun τ'' H'' hinv => ⟨items.length - (i + 1), by omega, rfl, hlt, hinv⟩, fun x H3 y => ?_⟩
    obtain ⟨gr, rv⟩ := hy x H3 y
    have st3 : Step L (lockS l σ1) τ m1 H1 σ' τ' m' H3 := st.trans (Step.grow st.rel gr (fun b hb => let ⟨o, eo⟩ := st.rel.mH b hb; ⟨o, gr b o eo⟩) fun _ _ _ => Iff.rfl)
    simp only [forL] at eq
    unfold bnd at eq
    have ef : f items[i] σ' = bnd (asg t items[i]) (fun _ => ex P O a) σ' := by rw [← hf]
    unfold bnd at ef
    rcases asg_res t items[i] σ' with ea | ⟨σ2, ea⟩
    · rw [ea] at ef; rw [ef] at eq; exact absurd eq.symm nofail
    · rw [ea] at ef
      dsimp only at ef
      rw [ef] at eq
      refine ⟨m', σ', lockS l σ1, τ, m1, H1, items[i], σ2, st3, rv, ea, fun τ2 st4 _ => ?_⟩
      refine ⟨m', σ2, st4.rel, ?_⟩
      cases e2 : ex P O a σ2 with
      | fail => rw [e2] at eq; exact absurd eq.symm nofail
      | exc ex σ3 =>
        rw [e2] at eq
        dsimp only at eq
        rw [← eq] at p2
        exact ps_tail st4 p2
      | ok fl σ3 =>
        rw [e2] at eq
        cases fl with
        | next =>
          intro m5 H5 τ5 s5
          exact ⟨σ3, m5, st4.trans s5, eq⟩
        | cont =>
          intro m5 H5 τ5 s5
          exact ⟨σ3, m5, st4.trans s5, eq⟩
        | brk =>
          dsimp only [ret] at eq
          rw [← eq] at p2
          intro m5 H5 τ5 s5
          exact p2 m5 H5 τ5 (st4.trans s5)
        | ret r =>
          dsimp only [ret] at eq
          rw [← eq] at p2
          have p3 := ps_tail st4 p2
          exact p3
  · left
    have ei : i = items.length := by omega
    subst ei
    rw [List.drop_length] at eq
    simp only [forL, ret] at eq
    rw [← eq] at p2
    exact ⟨j2 (Nat.le_refl _), p2 m' H' τ' st⟩
theorem ss_whl (sx : SX X L P W O c) (hp : PassesOwn (model X.prog X.w) X.A X.env X.xe) {t : Expr} {body : List Stmt} {x : E} {a : S} {pos : Pos} (ht : PT X t (tT L W (evT P O x))) (hb : PSs X body (tS L W (ex P O a))) :
    PS X (.While t body [] pos) (tS L W (ex P O (.whl x a))) := (ps_while hp ht hb).mono fun Ds τ H q => by
  obtain ⟨m, σ, rl, p⟩ := q
  simp only [ex] at p
  generalize turns = n at p
  generalize hres : whlL (evT P O x) (ex P O a) n σ = res at p
  have nofail : res ≠ .fail := fun z => by rw [z] at p; exact p
  refine ⟨fun mm τ' H' => ∃ σ' m', Step L σ τ m H σ' τ' m' H' ∧ whlL (evT P O x) (ex P O a) mm σ' = res, ⟨n, σ, m, Step.refl rl, hres⟩, ?_⟩
  rintro mm τ' H' ⟨σ', m', st, eq⟩
  cases mm with
  | zero => simp only [whlL, stuck] at eq; exact absurd eq.symm nofail
  | succ mm =>
    simp only [whlL] at eq
    rw [← eq] at p
    refine ps_bnd (T := TB) st p fun k σ2 m2 H2 v e2 s2 s2' t2 p2 => ?_
    have ek : k = v := t2
    subst ek
    rw [eq] at p
    unfold bnd at eq
    rw [e2] at eq
    dsimp only at eq
    cases k with
    | false =>
      rw [if_neg Bool.false_ne_true] at p2 ⊢
      exact p2 m2 H2 τ' s2'
    | true =>
      rw [if_pos rfl] at eq ⊢
      refine ⟨fun τ5 H5 => ∃ σ' m', Step L σ τ m H σ' τ5 m' H5 ∧ whlL (evT P O x) (ex P O a) mm σ' = res, fun τ5 H5 h => ⟨mm, Nat.lt_succ_self _, h⟩, m2, σ2, s2'.rel, ?_⟩
      cases e3 : ex P O a σ2 with
      | fail => rw [e3] at eq; exact absurd eq.symm nofail
      | exc ex σ3 =>
        rw [e3] at eq
        dsimp only at eq
        rw [← eq] at p
        exact ps_tail s2' p
      | ok fl σ3 =>
        rw [e3] at eq
        cases fl with
        | next => intro m5 H5 τ5 s5; exact ⟨σ3, m5, s2'.trans s5, eq⟩
        | cont => intro m5 H5 τ5 s5; exact ⟨σ3, m5, s2'.trans s5, eq⟩
        | brk =>
          dsimp only [ret] at eq
          rw [← eq] at p
          intro m5 H5 τ5 s5
          exact p m5 H5 τ5 (s2'.trans s5)
        | ret r =>
          dsimp only [ret] at eq
          rw [← eq] at p
          exact ps_tail s2' p
end
end EV

set_option Elab.async false
set_option linter.all false
set_option maxRecDepth 100000
set_option maxHeartbeats 4000000
/-! ### from the text's statements -/
namespace EV
open PySem L2
def isCmp : Expr → Bool
  | .ListComp _ _ _ _ => true
  | .SetComp _ _ _ _ => true
  | .DictComp _ _ _ _ _ => true
  | _ => false
def isTupE : Expr → Bool
  | .Tuple _ _ _ => true
  | _ => false
def kindF (sc : Scope) : Bool := match sc.kind with
  | .function => true
  | _ => false
def locN (c : CC) (x : Str) : Bool := match c.sc.names.lookup x with
  | some .local => true
  | _ => false
/-- a comprehension's swap with the name that it is assigned to -/
def swB (c : CC) (y : Str) (py : Pos) (scope : Scope) (pos : Pos) : Bool := locN c y && (py.line == pos.line) && !(scope.names.any fun (n, k) => n == y && (k == .local || k == .cell))
def parOk (c : CC) (xs : List (Str × Pos)) (vs : List Expr) : Bool := kindF c.sc && xs.all (fun x => locN c x.1 && plainN x.1 && (x.2.line == (xs.head?.map (·.2.line)).getD 0)) && decide (xs.map (·.1)).Nodup && noStar vs && !vs.all (foldedForSure 8) && !vs.all (constantsAlone 8)
def namesOf : List Expr → Option (List (Str × Pos))
  | [] => some []
  | .Name x p :: r => (namesOf r).map ((x, p) :: ·)
  | _ => none
def slotsN (N : List Str) : List (Str × Pos) → Option (List Nat)
  | [] => some []
  | x :: r => match N.idxOf? x.1, slotsN N r with
    | some i, some is => some (i :: is)
    | _, _ => none
/-- names stored one by one out of a tuple that is made -/
def parT (c : CC) (xs : List (Str × Pos)) (vs : List Expr) : Bool := noStar vs && decide (xs.length ≤ lim) && (!(xs.length == 2 || xs.length == 3) || !(xs.all fun x => locN c x.1 && (x.2.line == (xs.head?.map (·.2.line)).getD 0)) || vs.all (foldedForSure 8))
def tgIs : Tg → Option (List Nat)
  | .nil => some []
  | .cons (.name i) r => (tgIs r).map (i :: ·)
  | _ => none
def asgC (c : CC) (tg e : Expr) (pos : Pos) : S := match tg with
  | .Name y py => (match tgC c (.Name y py) with
    | .name i => (match e with
      | .ListComp elt gs scope lp => if kindF c.sc then .set (.name i) (comp (.ListComp elt gs scope lp) c).v else .bad
      | e => if isCmp e then .bad else .set (.name i) (comp e c).v)
    | _ => .bad)
  | .Tuple ts kt pt => (match e with
    | .Tuple vs k2 p2 => (match namesOf ts with
      | some xs => if parOk c xs vs then (match slotsN c.N xs, xs, vs with
        | some [i, j], [_, _], [_, _] => .par [i, j] (args (compL vs c))
        | some [i, j, k], [_, _, _], [_, _, _] => .par [i, j, k] (args (compL vs c))
        | _, _, _ => .bad) else if parT c xs vs then (match tgIs (tgsC c ts) with
        | some is => .par is (args (compL vs c))
        | none => .bad) else .bad
      | none => .bad)
    | e => if isCmp e then .bad else (match ts with
      | [.Subscript (.Name o po) (.Constant (.int k) n kp) sp, .Name y py] => (match slotOf c o, tgC c (.Name y py) with
        | some i, .name j => .unp i k j (comp e c).v
        | _, _ => .bad)
      | ts => .set (tgC c (.Tuple ts kt pt)) (comp e c).v))
  | .Subscript (.Name o po) k sp => if isCmp e || isSlc k then .bad else (match slotOf c o with
    | some i => .setix i (comp k c).b (comp e c).v
    | none => .bad)
  | .Attribute (.Name o po) f ap => if isCmp e then .bad else (match slotOf c o, c.att f with
    | some i, some g => .setat i g (comp e c).v
    | _, _ => .bad)
  | _ => .bad
def augC (c : CC) (tg : Expr) (op : Operator) (e : Expr) : S := match tg with
  | .Name y py => (match tgC c (.Name y py), op with
    | .name i, .Add => .aug i .Add (comp e c).v
    | .name i, .Sub => .aug i .Sub (comp e c).v
    | _, _ => .bad)
  | _ => .bad
def retC (c : CC) : Option Expr → S
  | none => .ret (.c .non)
  | some (.Name x p) => (match slotOf c x with
    | some i => .retv i
    | none => .ret (comp (.Name x p) c).v)
  | some e => .ret (comp e c).v
/-- o.m(x), o a name, as a statement of its own -/
def lmC (c : CC) : Expr → Option (Str × Str × Expr)
  | .Call (.Attribute (.Name o po) m apos) [x] [] pos => if (m == "append" || m == "extend") && (apos.endLine == pos.line) && !isStar x then some (o, m, x) else none
  | _ => none
def lmS (c : CC) (o m : Str) (x : Expr) : S := match slotOf c o with
  | some i => if m == "append" then .app i (comp x c).v else .ext i (comp x c).v
  | none => .bad
mutual
def compS : Stmt → CC → S
  | .Return e _, c => retC c e
  | .Assign ts e pos, c => (match ts with
    | [tg] => asgC c tg e pos
    | _ => .bad)
  | .AugAssign tg op e _, c => augC c tg op e
  | .For tg it body orelse _, c => if orelse.isEmpty && !isSet it && (!isEnm (comp it c).i || isTup tg) then .for (tgC c tg) (comp it c).i (compSs body c) else .bad
  | .While t body orelse _, c => if orelse.isEmpty then .whl (comp t c).t (compSs body c) else .bad
  | .If t a b _, c => .ite (comp t c).t (compSs a c) (compSs b c)
  | .Expr e _, c => if isCmp e then .bad else (match lmC c e with
    | some (o, m, x) => lmS c o m x
    | none => .expr (comp e c).v)
  | .Pass _, _ => .nil
  | .Break _, _ => .brk
  | .Continue _, _ => .cont
  | _, _ => .bad
termination_by structural s => s
def compSs : List Stmt → CC → S
  | [], _ => .nil
  | s :: r, c => .seq (compS s c) (compSs r c)
termination_by structural s => s
end
section
variable {X : Cx} {L : Lk} {P : Prog} {W : WX} {O : Oc} {c : CC}
structure TX (X : Cx) (L : Lk) (P : Prog) (W : WX) (O : Oc) (c : CC) : Prop extends SX X L P W O c where
  own : PassesOwn (model X.prog X.w) X.A X.env X.xe
theorem sw_none {e : Expr} {t : Option Expr} {l : Nat} {env : Env} (h : isCmp e = false) : swapsWith e t l env = pure false := by
  cases e <;> first | rfl | (simp [isCmp] at h)
theorem st_none {tg e : Expr} {env : Env} (h : isTupE e = false) : swappedStores [tg] e env = pure none := by
  cases tg <;> cases e <;> first | rfl | (simp [isTupE] at h)
theorem st_none' {tg e : Expr} {env : Env} (h : isTupE tg = false) (h2 : ∀ es p, tg ≠ .List es p) : swappedStores [tg] e env = pure none := by
  cases tg <;> first | rfl | (exact absurd rfl (h2 _ _)) | (simp [isTupE] at h)
theorem as_one {tg : Expr} {env : Env} : (assignEach [tg] env).map (·.2) = [assign tg env] ∨ isStar tg = true := by
  cases tg <;> first | exact .inl rfl | exact .inr rfl
/-- a target that is a name -/
theorem tg_name (sx : SX X L P W O c) {y : Str} {p : Pos} {i : Nat} (h : tgC c (.Name y p) = .name i) : X.N[i]? = some y ∧ Loc X.env.scope y ∧ (X.fn y = true ∨ X.env.scope.names.lookup y = some .local) := by
  unfold tgC at h
  cases hk : c.sc.names.lookup y with
  | none => rw [hk] at h; cases h
  | some k =>
    rw [hk] at h
    have hk' : X.env.scope.names.lookup y = some k := by rw [sx.sc]; exact hk
    cases k with
    | «local» =>
      dsimp only at h
      split at h
      · cases hi : c.N.idxOf? y with
        | none => rw [hi] at h; cases h
        | some j =>
          rw [hi] at h; cases h
          exact ⟨by rw [sx.N]; exact idx_get hi, .inl hk', .inr hk'⟩
      · cases h
    | cell =>
      dsimp only at h
      split at h
      · rename_i hc
        rw [Bool.and_eq_true] at hc
        cases hi : c.N.idxOf? y with
        | none => rw [hi] at h; cases h
        | some j =>
          rw [hi] at h; cases h
          exact ⟨by rw [sx.N]; exact idx_get hi, .inr hk', .inl (by rw [sx.fnX]; exact hc.2)⟩
      · cases h
    | _ => cases h
theorem kind_of (sx : SX X L P W O c) (h : kindF c.sc = true) : X.env.scope.kind = .function := by
  rw [sx.sc]
  unfold kindF at h
  cases e : c.sc.kind <;> rw [e] at h <;> first | rfl | cases h
theorem loc_of (sx : SX X L P W O c) {x : Str} (h : locN c x = true) : X.env.scope.names.lookup x = some .local := by
  rw [sx.sc]
  unfold locN at h
  split at h
  · assumption
  · cases h
/-- name = [.. for ..] -/
theorem ss_setLc (sx : SX X L P W O c) {y : Str} {py pos lp : Pos} {i : Nat} {e : Expr} {gs : List Comprehension} {scope : Scope} (hk : kindF c.sc = true) (h : tgC c (.Name y py) = .name i) : PS X (.Assign [.Name y py] (.ListComp e gs scope lp) pos) (tS L W (ex P O (.set (.name i) (comp (.ListComp e gs scope lp) c).v))) := by
  obtain ⟨h1, h2, h3⟩ := tg_name sx h
  have hb : X.env.blockKind = .function := by unfold Env.blockKind; rw [kind_of sx hk]; rfl
  have sw : swapsWith (.ListComp e gs scope lp) (some (.Name y py)) pos.line X.env = pure (swB c y py scope lp) := by
    unfold swapsWith swB
    simp only [hb]
    have : (X.env.kindOf y == some NameKind.local) = locN c y := by
      unfold locN
      show (X.env.scope.names.lookup y == some NameKind.local) = _
      rw [sx.sc]
      cases c.sc.names.lookup y with
      | none => rfl
      | some k => cases k <;> rfl
    rw [this]
    rfl
  cases hsw : swB c y py scope lp with
  | false => exact ss_set sx h1 h2 h3 (snd (.ListComp e gs scope lp) sx).v (by rw [sw, hsw])
  | true =>
    rw [hsw] at sw
    have hyl := loc_of sx (x := y) (by unfold swB at hsw; simp only [Bool.and_eq_true] at hsw; exact hsw.1.1)
    have bad : PS X (.Assign [.Name y py] (.ListComp e gs scope lp) pos) (tS L W (ex P O (.set (.name i) .bad))) := ss_bad fun _ => by simp [ex, ev, bnd, stuck]
    simp only [comp]
    match gs with
    | [] => simp only [compG]; exact bad
    | _ :: _ :: _ => simp only [compG, List.isEmpty_cons]; exact bad
    | [⟨tg, it, ifs, n⟩] =>
      simp only [compG, List.isEmpty_nil, if_true, compG1]
      have hi := snd it sx
      have hp := fun s H C cl fp => sndL ifs (sx.blk s H scope cl C fp)
      have he := fun s H C cl fp => snd e (sx.blk s H scope cl C fp)
      split
      · rename_i hc
        rw [Bool.and_eq_true, Bool.and_eq_true, Bool.and_eq_true, Bool.and_eq_true] at hc
        obtain ⟨⟨⟨⟨c1, c4⟩, c5⟩, c2⟩, c3⟩ := hc
        have en : n = 0 := eq_of_beq c1
        subst en
        have ok : BlkOk X.N X.env.scope scope (ownOf c.N scope) := by rw [sx.N, sx.sc]; exact blkOk_by c2
        have hsl : ∀ w ∈ slots (tgC (c.blk scope) tg), w ∈ (ownOf c.N scope).map (·.2) := fun w hw => by
          have := List.all_eq_true.mp c3 w hw
          simpa using this
        have htup : isEnm (comp it c).i = true → isTup tg = true := fun h => by
          rw [h] at c5; simpa using c5
        refine (ps_setLc sx.calm sx.nd h1 hyl sw (hi.i tg htup) ok (fun s H C cl fp => pg_all (sx.blk s H scope cl C fp) tg) (fun s H C cl fp => ?_) (fun s H C cl fp => (he s H C cl fp).v) (not_folded (by simpa using c4))).mono (ts_set (lc_imp hsl))
        have h := hp s H C cl fp
        generalize compL ifs (c.blk scope) = ps at h
        match ifs, ps, h with
        | [], ps, h =>
          rw [show ps = [] from h]
          refine ⟨fun pins s σ H Q I q => pts_nil.run pins s σ H Q I ?_⟩
          obtain ⟨m, σ', rl, p⟩ := q
          simp only [evT, ev, bnd, ret, der, truth, ofO] at p
          exact p m H true (Step.refl rl) rfl
        | [f], ps, h =>
          obtain ⟨k', r, e1, h1, h2⟩ := h
          rw [show r = [] from h2] at e1
          subst e1
          exact pts_one h1.t
        | _ :: _ :: _, ps, h =>
          obtain ⟨k', r, e1, h1, k2, r2, e2, _⟩ := h
          subst e1; subst e2
          refine ⟨fun pins s σ H Q I q => ?_⟩
          obtain ⟨m, σ', rl, p⟩ := q
          exact p.elim
      · exact bad
end
end EV

set_option Elab.async false
set_option linter.all false
set_option maxRecDepth 100000
set_option maxHeartbeats 4000000
/-! ### every statement -/
namespace EV
open PySem L2
section
variable {X : Cx} {L : Lk} {P : Prog} {W : WX} {O : Oc} {c : CC}
theorem sb {st : Stmt} : PS X st (tS L W (ex P O .bad)) := ss_bad fun _ => rfl
theorem ex_set_bad {t : Tg} {σ : List Sl} {x : E} (h : t = .bad) (σ' : List Sl) : True := trivial
theorem sws_none' {t e : Expr} {l : Nat} {env : Env} (h : isCmp e = false) : swapsWithSole [t] e l env = pure false := by
  show swapsWith e (some t) l env = _
  exact sw_none h
theorem namesOf_eq : ∀ {ts : List Expr} {xs : List (Str × Pos)}, namesOf ts = some xs → ts = xs.map fun x => .Name x.1 x.2
  | [], xs, h => by simp only [namesOf] at h; cases h; rfl
  | t :: ts, xs, h => by
    cases t <;> simp only [namesOf] at h <;> try cases h
    rename_i x p
    cases e : namesOf ts with
    | none => rw [e] at h; cases h
    | some ys => rw [e] at h; cases h; rw [namesOf_eq e]; rfl
theorem nst {e : Expr} (h : isStar e = false) : swappedStores.match_5 (fun _ => Bool) e (fun _ _ => true) (fun _ => false) = false := by
  cases e <;> first | rfl | (simp [isStar] at h)
theorem par_sw2 {x y : Str} {a b : Expr} {kt k2 : Nat} {px py pt pt2 : Pos} {env : Env} (hb : env.blockKind = .function) (hx : env.kindOf x = some .local) (hy : env.kindOf y = some .local) (hl : (py.line == px.line) = true) (hxy : x ≠ y) (ha : isStar a = false) (hb' : isStar b = false) (h5 : [a, b].all (foldedForSure 8) = false) (h6 : [a, b].all (constantsAlone 8) = false) :
    swappedStores [.Tuple [.Name x px, .Name y py] kt pt] (.Tuple [a, b] k2 pt2) env = pure (some [x, y]) := by
  unfold swappedStores
  have e1 : (x == y) = false := beq_eq_false_iff_ne.mpr hxy
  have e2 : (y == x) = false := beq_eq_false_iff_ne.mpr (Ne.symm hxy)
  simp only [List.any_cons, List.any_nil, nst ha, nst hb', hb, h5, h6, List.length_cons, List.length_nil, List.head?_cons, Option.map_some, Option.getD_some, Expr.pos, List.filterMap_cons, List.filterMap_nil, hx, hy, hl, beq_self_eq_true, Bool.and_self, if_true, List.eraseDups_cons, List.eraseDups_nil, List.filter_cons, List.filter_nil, e1, e2, Bool.not_false]
  rfl
theorem par_sw3 {x y u : Str} {a b d : Expr} {kt k2 : Nat} {px py pu pt pt2 : Pos} {env : Env} (hb : env.blockKind = .function) (hx : env.kindOf x = some .local) (hy : env.kindOf y = some .local) (hu : env.kindOf u = some .local) (hl : (py.line == px.line) = true) (hl2 : (pu.line == px.line) = true) (hxy : x ≠ y) (hxu : x ≠ u) (hyu : y ≠ u) (ha : isStar a = false) (hb' : isStar b = false) (hd : isStar d = false) (h5 : [a, b, d].all (foldedForSure 8) = false) (h6 : [a, b, d].all (constantsAlone 8) = false) :
    swappedStores [.Tuple [.Name x px, .Name y py, .Name u pu] kt pt] (.Tuple [a, b, d] k2 pt2) env = pure (some [x, y, u]) := by
  unfold swappedStores
  have e1 : (x == y) = false := beq_eq_false_iff_ne.mpr hxy
  have e2 : (y == x) = false := beq_eq_false_iff_ne.mpr (Ne.symm hxy)
  have e3 : (x == u) = false := beq_eq_false_iff_ne.mpr hxu
  have e4 : (u == x) = false := beq_eq_false_iff_ne.mpr (Ne.symm hxu)
  have e5 : (y == u) = false := beq_eq_false_iff_ne.mpr hyu
  have e6 : (u == y) = false := beq_eq_false_iff_ne.mpr (Ne.symm hyu)
  simp only [List.any_cons, List.any_nil, nst ha, nst hb', nst hd, hb, h5, h6, List.length_cons, List.length_nil, List.head?_cons, Option.map_some, Option.getD_some, Expr.pos, List.filterMap_cons, List.filterMap_nil, hx, hy, hu, hl, hl2, beq_self_eq_true, Bool.and_self, if_true, List.eraseDups_cons, List.eraseDups_nil, List.filter_cons, List.filter_nil, e1, e2, e3, e4, e5, e6, Bool.not_false]
  rfl
theorem ss_par (sx : SX X L P W O c) {xs : List (Str × Pos)} {vs : List Expr} {kt k2 : Nat} {pt pt2 pos : Pos} (h : parOk c xs vs = true) {is : List Nat} (hs : slotsN c.N xs = some is) (hl : (is.length = 2 ∧ vs.length = 2) ∨ (is.length = 3 ∧ vs.length = 3)) :
    PS X (.Assign [.Tuple (xs.map fun x => .Name x.1 x.2) kt pt] (.Tuple vs k2 pt2) pos) (tS L W (ex P O (.par is (args (compL vs c))))) := by
  unfold parOk at h
  simp only [Bool.and_eq_true, Bool.not_eq_true'] at h
  obtain ⟨⟨⟨⟨⟨h1, h2⟩, h3⟩, h4⟩, h5⟩, h6⟩ := h
  have hb : X.env.blockKind = .function := by unfold Env.blockKind; rw [kind_of sx h1]; rfl
  have ha := sndL_args sx (sndL vs sx)
  have hnd := of_decide_eq_true h3
  have slot : ∀ {x : Str} {i : Nat}, c.N.idxOf? x = some i → X.N[i]? = some x := fun h => by rw [sx.N]; exact idx_get h
  have inj : ∀ {x y : Str} {i j : Nat}, X.N[i]? = some x → X.N[j]? = some y → x ≠ y → i ≠ j := fun h1 h2 hn z => by subst z; rw [h1] at h2; cases h2; exact hn rfl
  match xs, hs with
  | [], hs => simp only [slotsN] at hs; cases hs; simp at hl
  | [x], hs =>
    simp only [slotsN] at hs
    cases e1 : c.N.idxOf? x.1 with
    | none => rw [e1] at hs; cases hs
    | some i => rw [e1] at hs; cases hs; simp at hl
  | [x, y], hs =>
    simp only [slotsN] at hs
    cases e1 : c.N.idxOf? x.1 with
    | none => rw [e1] at hs; cases hs
    | some i =>
      cases e2 : c.N.idxOf? y.1 with
      | none => rw [e1, e2] at hs; cases hs
      | some j =>
        rw [e1, e2] at hs; cases hs
        match vs, hl with
        | [a, b], _ =>
          simp only [List.all_cons, List.all_nil, Bool.and_true, Bool.and_eq_true, List.head?_cons, Option.map_some, Option.getD_some] at h2
          obtain ⟨⟨⟨a1, _⟩, a2⟩, ⟨b1, _⟩, b2⟩ := h2
          have hxy : x.1 ≠ y.1 := by simpa using hnd
          obtain ⟨n1, n2⟩ := noStar_cons h4
          obtain ⟨n3, _⟩ := noStar_cons n2
          have lx := loc_of sx a1
          have ly := loc_of sx b1
          exact ss_par2 sx (slot e1) (slot e2) (inj (slot e1) (slot e2) hxy) lx ly ha (par_sw2 hb lx ly b2 hxy n1 n3 h5 h6)
        | [], hl => simp at hl
        | [_], hl => simp at hl
        | _ :: _ :: _ :: _, hl => simp at hl
  | [x, y, u], hs =>
    simp only [slotsN] at hs
    cases e1 : c.N.idxOf? x.1 with
    | none => rw [e1] at hs; cases hs
    | some i =>
      cases e2 : c.N.idxOf? y.1 with
      | none => rw [e1, e2] at hs; cases hs
      | some j =>
        cases e3 : c.N.idxOf? u.1 with
        | none => rw [e1, e2, e3] at hs; cases hs
        | some k =>
          rw [e1, e2, e3] at hs; cases hs
          match vs, hl with
          | [a, b, d], _ =>
            simp only [List.all_cons, List.all_nil, Bool.and_true, Bool.and_eq_true, List.head?_cons, Option.map_some, Option.getD_some] at h2
            obtain ⟨⟨⟨a1, _⟩, a2⟩, ⟨⟨b1, _⟩, b2⟩, ⟨d1, _⟩, d2⟩ := h2
            have hn : (x.1 ≠ y.1 ∧ x.1 ≠ u.1) ∧ y.1 ≠ u.1 := by simpa using hnd
            obtain ⟨n1, n2⟩ := noStar_cons h4
            obtain ⟨n3, n4⟩ := noStar_cons n2
            obtain ⟨n5, _⟩ := noStar_cons n4
            have lx := loc_of sx a1
            have ly := loc_of sx b1
            have lu := loc_of sx d1
            exact ss_par3 sx (slot e1) (slot e2) (slot e3) (inj (slot e1) (slot e2) hn.1.1) (inj (slot e1) (slot e3) hn.1.2) (inj (slot e2) (slot e3) hn.2) lx ly lu ha (par_sw3 hb lx ly lu b2 d2 hn.1.1 hn.1.2 hn.2 n1 n3 n5 h5 h6)
          | [], hl => simp at hl
          | [_], hl => simp at hl
          | [_, _], hl => simp at hl
          | _ :: _ :: _ :: _ :: _, hl => simp at hl
  | x :: y :: u :: w :: r, hs =>
    exfalso
    have hlen : ∀ (xs : List (Str × Pos)) is, slotsN c.N xs = some is → is.length = xs.length := by
      intro xs
      induction xs with
      | nil => intro is h; simp only [slotsN] at h; cases h; rfl
      | cons x xs ih =>
        intro is h
        simp only [slotsN] at h
        split at h
        · rename_i i js q1 q2
          cases h
          rw [List.length_cons, List.length_cons, ih _ q2]
        · cases h
    have := hlen _ _ hs
    simp only [List.length_cons] at this
    omega
/-- the names one after another -/
def gIs : List Nat → TGs
  | [] => gNil
  | i :: is => gCons (gName i) (gIs is)
theorem pgs_is (sx : SX X L P W O c) : ∀ {xs : List (Str × Pos)} {is : List Nat}, tgIs (tgsC c (xs.map fun x => .Name x.1 x.2)) = some is → PGs X (xs.map fun x => .Name x.1 x.2) (gIs is) ∧ is.length = xs.length
  | [], is, h => by
    simp only [List.map_nil, tgsC, tgIs] at h
    cases h
    exact ⟨pgs_nil, rfl⟩
  | x :: xs, is, h => by
    simp only [List.map_cons, tgsC] at h
    cases ht : tgC c (.Name x.1 x.2) with
    | name i =>
      rw [ht] at h
      simp only [tgIs] at h
      cases e : tgIs (tgsC c (xs.map fun x => .Name x.1 x.2)) with
      | none => rw [e] at h; cases h
      | some js =>
        rw [e] at h
        cases h
        obtain ⟨h1, h2⟩ := pgs_is sx e
        obtain ⟨g1, g2, g3⟩ := tg_name sx ht
        exact ⟨pgs_cons (pg_name sx.nd g1 g2 g3) h1, by rw [List.length_cons, List.length_cons, h2]⟩
    | _ => rw [ht] at h; simp [tgIs] at h
theorem gIs_all : ∀ {is : List Nat} {vs : List V} {τ : St} {H : Hp} {Q : St → Hp → Prop}, is.length = vs.length → Q (setAll τ is vs) H → gIs is vs τ H Q
  | [], [], τ, H, Q, _, h => ⟨rfl, h⟩
  | [], _ :: _, _, _, _, hl, _ => by simp at hl
  | _ :: _, [], _, _, _, hl, _ => by simp at hl
  | i :: is, v :: vs, τ, H, Q, hl, h => ⟨v, vs, rfl, gIs_all (by simpa using hl) h⟩
theorem nosw {xs : List (Str × Pos)} {vs : List Expr} {kt k2 : Nat} {pt pt2 : Pos} (sx : SX X L P W O c) (h : parT c xs vs = true) : swappedStores [.Tuple (xs.map fun x => .Name x.1 x.2) kt pt] (.Tuple vs k2 pt2) X.env = pure none := by
  unfold parT at h
  simp only [Bool.and_eq_true] at h
  obtain ⟨⟨h1, _⟩, h2⟩ := h
  have hst : (vs.any fun e => swappedStores.match_5 (fun _ => Bool) e (fun _ _ => true) (fun _ => false)) = false := by
    rw [List.any_eq_false]
    intro e he
    have := List.all_eq_true.mp h1 e he
    rw [nst (by simpa using this)]
    simp
  unfold swappedStores
  simp only [List.length_map]
  split
  · rfl
  · rename_i hc
    simp only [Bool.or_eq_true, not_or, Bool.not_eq_true] at hc
    obtain ⟨⟨hc1, _⟩, _⟩ := hc
    rw [hst]
    simp only [Bool.false_eq_true, if_false]
    split
    · rfl
    · rename_i hn
      split
      · rfl
      · rename_i hf
        exfalso
        simp only [Bool.or_eq_true] at h2
        rcases h2 with (h2 | h2) | h2
        · rw [hc1] at h2; cases h2
        · apply hn
          refine Bool.or_eq_true_iff.mpr (.inl ?_)
          simp only [bne_iff_ne, ne_eq]
          intro hlen
          have hall : xs.all (fun x => locN c x.1 && (x.2.line == (xs.head?.map (·.2.line)).getD 0)) = true := by
            rw [List.all_eq_true]
            intro x hx
            have key : ∀ (f : Expr → Option Str) (l : List Expr), (l.filterMap f).length = l.length → ∀ e ∈ l, ∃ y, f e = some y := by
              intro f l
              induction l with
              | nil => intro _ e he; cases he
              | cons a l ih =>
                intro hl e he
                rw [List.filterMap_cons] at hl
                cases hfa : f a with
                | none =>
                  rw [hfa] at hl
                  have := List.length_filterMap_le f l
                  simp only [List.length_cons] at hl
                  omega
                | some y =>
                  rw [hfa] at hl
                  rcases List.mem_cons.mp he with rfl | he
                  · exact ⟨y, hfa⟩
                  · exact ih (by simpa using hl) e he
            obtain ⟨y, hy⟩ := key _ _ (by rw [hlen, List.length_map]) (.Name x.1 x.2) (List.mem_map.mpr ⟨x, hx, rfl⟩)
            dsimp only at hy
            split at hy
            · rename_i hk
              rw [Bool.and_eq_true] at hk ⊢
              obtain ⟨k1, k2⟩ := hk
              refine ⟨?_, ?_⟩
              · unfold locN
                have e : c.sc.names.lookup x.1 = some .local := by
                  rw [← sx.sc]
                  exact eq_of_beq k1
                rw [e]
              · cases xs with
                | nil => cases hx
                | cons z zs => exact k2
            · cases hy
          rw [hall] at h2
          cases h2
        · exact hf h2
theorem ss_parT (sx : SX X L P W O c) {xs : List (Str × Pos)} {vs : List Expr} {kt k2 : Nat} {pt pt2 pos : Pos} (h : parT c xs vs = true) {is : List Nat} (hs : tgIs (tgsC c (xs.map fun x => .Name x.1 x.2)) = some is) :
    PS X (.Assign [.Tuple (xs.map fun x => .Name x.1 x.2) kt pt] (.Tuple vs k2 pt2) pos) (tS L W (ex P O (.par is (args (compL vs c))))) := by
  obtain ⟨h1, h2⟩ := pgs_is sx hs
  have hp := h
  unfold parT at hp
  simp only [Bool.and_eq_true] at hp
  obtain ⟨⟨g1, g2⟩, _⟩ := hp
  have ha := sndL_args sx (sndL vs sx)
  have hno : noStar (xs.map fun x => Expr.Name x.1 x.2) = true := by
    unfold noStar
    rw [List.all_eq_true]
    intro e he
    obtain ⟨x, _, rfl⟩ := List.mem_map.mp he
    rfl
  refine (ps_asg (pe_tup ha) (pg_tup (n := is.length) sx.calm h1 (by rw [as_len, List.length_map, h2]) (as_none hno)) (sws_none' rfl) (nosw sx h) rfl).mono fun Ds τ H q => ?_
  obtain ⟨m, σ, rl, p⟩ := q
  simp only [ex] at p
  refine ps_bnd (T := TRs L) (Step.refl rl) p fun rs σ2 m2 H2 ws _ s2 s2' t2 p2 => ?_
  obtain ⟨σ3, e3, p3⟩ := ps_unit (putRs_res _ _ _) p2
  obtain ⟨s3, hl⟩ := putRs_ok s2' (RRs.ws t2) e3
  have g2 := of_decide_eq_true g2
  refine ⟨by rw [← hl, h2, ← lim_eq]; exact g2, fun q hq => ⟨q, ws, rfl, .inl (.inl upd_same), hl.symm, gIs_all hl (p3 m2 _ _ (s3.trans (Step.grow s3.rel (m' := m2) (fun a o e => ?_) (fun a ha => ?_) fun _ _ _ => Iff.rfl)))⟩⟩
  · have hne : a ≠ q := fun z => by subst z; rw [hq] at e; cases e
    rw [upd_ne hne]; exact e
  · obtain ⟨o, e⟩ := s3.rel.mH a ha
    have hne : a ≠ q := fun z => by subst z; rw [hq] at e; cases e
    exact ⟨o, by rw [upd_ne hne]; exact e⟩
end
end EV

set_option Elab.async false
set_option linter.all false
set_option maxRecDepth 100000
set_option maxHeartbeats 4000000
/-! ### every statement -/
namespace EV
open PySem L2
section
variable {X : Cx} {L : Lk} {P : Prog} {W : WX} {O : Oc} {c : CC}
theorem sws_none {t e : Expr} {l : Nat} {env : Env} (h : isCmp e = false) : swapsWithSole [t] e l env = pure false := by
  show swapsWith e (some t) l env = _
  exact sw_none h
theorem ss_asgC (sx : SX X L P W O c) (tg e : Expr) (pos : Pos) : PS X (.Assign [tg] e pos) (tS L W (ex P O (asgC c tg e pos))) := by
  unfold asgC
  split
  · rename_i y py
    split
    · rename_i i h
      split
      · split
        · rename_i hk; exact ss_setLc sx hk h
        · exact sb
      · split
        · exact sb
        · rename_i hc
          obtain ⟨h1, h2, h3⟩ := tg_name sx h
          exact ss_set sx h1 h2 h3 (snd e sx).v (sw_none (by simpa using hc))
    · exact sb
  · rename_i ts kt pt
    split
    · rename_i vs k2 p2
      split
      · rename_i xs hx
        split
        · rename_i hp
          split
          · rename_i i j a b a' b' hs
            rw [namesOf_eq hx]
            exact ss_par sx hp hs (.inl ⟨rfl, rfl⟩)
          · rename_i i j k a b d a' b' d' hs
            rw [namesOf_eq hx]
            exact ss_par sx hp hs (.inr ⟨rfl, rfl⟩)
          · exact sb
        · split
          · rename_i hp
            split
            · rename_i is his
              rw [namesOf_eq hx] at his ⊢
              exact ss_parT sx hp his
            · exact sb
          · exact sb
      · exact sb
    · rename_i hne
      have ht : isTupE e = false := by
        cases e <;> first | rfl | exact absurd rfl (hne _ _ _)
      split
      · exact sb
      · rename_i hc
        have hc' : isCmp e = false := by simpa using hc
        split
        · rename_i o po k n kp sp y py
          split
          · rename_i i j h1 h2
            obtain ⟨g1, g2, g3⟩ := tg_name sx h2
            exact ss_unp sx (slot_of sx h1) (snd e sx).v g1 g2 g3 (sws_none hc') (st_none ht)
          · exact sb
        · refine ss_asg sx ?_ (snd e sx).v (sws_none hc') (st_none ht) rfl
          intro i h
          unfold tgC at h
          split at h <;> cases h
  · rename_i o po k sp
    split
    · exact sb
    · rename_i hc
      simp only [Bool.or_eq_true, not_or, Bool.not_eq_true] at hc
      split
      · rename_i i h1
        exact ss_setix sx (slot_of sx h1) (snd k sx).b (snd e sx).v hc.2 (sws_none hc.1) (st_none' rfl (by intros; simp))
      · exact sb
  · rename_i o po f ap
    split
    · exact sb
    · rename_i hc
      split
      · rename_i i g h1 h2
        exact ss_setat sx (slot_of sx h1) (snd e sx).v h2 (sw_none (by simpa using hc))
      · exact sb
  · exact sb
theorem ss_augC (sx : SX X L P W O c) (tg e : Expr) (op : Operator) (pos : Pos) : PS X (.AugAssign tg op e pos) (tS L W (ex P O (augC c tg op e))) := by
  unfold augC
  split
  · rename_i y py
    split
    · rename_i i h
      obtain ⟨h1, h2, h3⟩ := tg_name sx h
      exact ss_aug sx h1 h2 h3 (snd e sx).v ip_add fun a b z hz => by simp only [binF] at hz; cases hz; rfl
    · rename_i i h
      obtain ⟨h1, h2, h3⟩ := tg_name sx h
      exact ss_aug sx h1 h2 h3 (snd e sx).v ip_sub fun a b z hz => by simp only [binF] at hz; cases hz; rfl
    · exact sb
  · exact sb
theorem ss_retC (sx : SX X L P W O c) (e : Option Expr) (pos : Pos) : PS X (.Return e pos) (tS L W (ex P O (retC c e))) := by
  unfold retC
  split
  · exact ss_retN
  · rename_i x p
    split
    · rename_i i h; exact ss_retv (slot_of sx h)
    · exact ss_ret (snd _ sx).v
  · exact ss_ret (snd _ sx).v
mutual
theorem sndS : ∀ (s : Stmt) {X : Cx} {W : WX} {c : CC}, TX X L P W O c → PS X s (tS L W (ex P O (compS s c)))
  | .Return e pos, X, W, c, tx => by simp only [compS]; exact ss_retC tx.toSX e pos
  | .Assign ts e pos, X, W, c, tx => by
    simp only [compS]
    split
    · exact ss_asgC tx.toSX _ e pos
    · exact sb
  | .AugAssign tg op e pos, X, W, c, tx => by simp only [compS]; exact ss_augC tx.toSX tg e op pos
  | .For tg it body orelse pos, X, W, c, tx => by
    have hb := sndSs body tx
    simp only [compS]
    split
    · rename_i hc
      simp only [Bool.and_eq_true] at hc
      obtain ⟨⟨h1, h2⟩, h3⟩ := hc
      have ho : orelse = [] := List.isEmpty_iff.mp h1
      subst ho
      exact ss_for tx.toSX tx.own ((snd it tx.toSX).i tg fun h => by rw [h] at h3; simpa using h3) (pg_all tx.toSX tg) hb (not_folded (by simpa using h2))
    · exact sb
  | .While t body orelse pos, X, W, c, tx => by
    have hb := sndSs body tx
    simp only [compS]
    split
    · rename_i h1
      have ho : orelse = [] := List.isEmpty_iff.mp h1
      subst ho
      exact ss_whl tx.toSX tx.own (snd t tx.toSX).t hb
    · exact sb
  | .If t a b pos, X, W, c, tx => by
    have ha := sndSs a tx
    have hb := sndSs b tx
    simp only [compS]
    exact ss_if (snd t tx.toSX).t ha hb
  | .Expr e pos, X, W, c, tx => by
    simp only [compS]
    split
    · exact sb
    · rename_i hc
      split
      · rename_i o m x hm
        unfold lmC at hm
        split at hm
        · rename_i o' po m' apos x' cpos
          split at hm
          · rename_i hg
            simp only [Option.some.injEq, Prod.mk.injEq] at hm
            obtain ⟨rfl, rfl, rfl⟩ := hm
            rw [Bool.and_eq_true, Bool.and_eq_true, Bool.or_eq_true] at hg
            obtain ⟨⟨g1, g2⟩, g3⟩ := hg
            have hx := snd x' tx.toSX
            unfold lmS
            split
            · rename_i i hi
              have hst : isStar x' = false := by simpa using g3
              split
              · rename_i ha
                have := eq_of_beq ha
                subst this
                exact ss_app tx.toSX (slot_of tx.toSX hi) hx.v hst (base_ok rfl) g2
              · rename_i ha
                have := eq_of_beq (g1.resolve_left ha)
                subst this
                exact ss_ext tx.toSX (slot_of tx.toSX hi) hx.v hst (base_ok rfl) g2
            · exact sb
          · cases hm
        · cases hm
      · exact ss_expr (snd e tx.toSX).v (sw_none (by simpa using hc))
  | .Pass pos, X, W, c, tx => by simp only [compS]; exact ss_pass
  | .Break pos, X, W, c, tx => by simp only [compS]; exact ss_brk
  | .Continue pos, X, W, c, tx => by simp only [compS]; exact ss_cont
  | .FunctionDef .., X, W, c, tx | .AsyncFunctionDef .., X, W, c, tx | .ClassDef .., X, W, c, tx | .Delete .., X, W, c, tx | .TypeAlias .., X, W, c, tx | .AnnAssign .., X, W, c, tx | .AsyncFor .., X, W, c, tx | .With .., X, W, c, tx | .AsyncWith .., X, W, c, tx | .Match .., X, W, c, tx | .Raise .., X, W, c, tx | .Try .., X, W, c, tx | .TryStar .., X, W, c, tx | .Assert .., X, W, c, tx | .Import .., X, W, c, tx | .ImportFrom .., X, W, c, tx | .Global .., X, W, c, tx | .Nonlocal .., X, W, c, tx => by
    simp only [compS]; exact sb
theorem sndSs : ∀ (s : List Stmt) {X : Cx} {W : WX} {c : CC}, TX X L P W O c → PSs X s (tS L W (ex P O (compSs s c)))
  | [], X, W, c, tx => by simp only [compSs]; exact sss_nil
  | s :: r, X, W, c, tx => by simp only [compSs]; exact sss_cons (sndS s tx) (sndSs r tx)
end
end
end EV

set_option Elab.async false
set_option linter.all false
set_option maxRecDepth 100000
set_option maxHeartbeats 4000000
/-! ### defs -/
namespace EV
open PySem L2
theorem inN_units (j : Nat) (A : Around) : (inN j A).units = A.units + j := by
  induction j with
  | zero => rfl
  | succ j ih => show (inN j A).units + 1 = _; rw [ih]; omega
theorem inN_guards (j : Nat) (A : Around) : (inN j A).guards = A.guards := by
  induction j with
  | zero => rfl
  | succ j ih => show (inN j A).guards = _; rw [ih]
theorem inN_depth (j : Nat) (A : Around) : (inN j A).depth = A.depth := by
  induction j with
  | zero => rfl
  | succ j ih => show (inN j A).depth = _; rw [ih]
theorem inN_handled (j : Nat) (A : Around) : (inN j A).handled = A.handled := by
  induction j with
  | zero => rfl
  | succ j ih => show (inN j A).handled = _; rw [ih]
theorem room_inN {k j : Nat} {A : Around} (r : Room (k + 1) A) (h : j ≤ 8) : Room k (inN j A) :=
  ⟨by rw [inN_handled]; exact r.hd, by rw [inN_depth]; have := r.dp; omega, by rw [inN_units]; have := r.un; omega⟩
/-- what a def keeps, wherever it is called by position -/
def FnE (prog : Program) (w : World) (K : PySem.W.Frag) (mg : Str → Option Value) (base : Heap) (k : Nat) (f : Addr) (sp : Sp) : Prop :=
  ∀ (A : Around) (outer : List Env) (s : Shared) (H : Hp) (us : List Value) (vs : List V) (Q : VK) (E : XK), Room k A → A.guards = some [] → Env0 prog w K mg base A outer s H → Vals vs us → sp vs H Q E →
    codeAny (model prog w) A (.call (.ref f) ⟨us, []⟩) (CR (CX prog w) outer prog w H s Q E) s
section
variable {X : Cx} {k : Nat} {f C : Addr} {sp : Sp} {E : XK}
theorem env_inN {P : Program} {w : World} {K : PySem.W.Frag} {mg : Str → Option Value} {base : Heap} {A : Around} {outer : List Env} {s : Shared} {H : Hp} (e : Env0 P w K mg base A outer s H) : ∀ j, Env0 P w K mg base (inN j A) outer s H
  | 0 => e
  | j + 1 => (env_inN e j).in1
theorem runF {pins : List (Addr × Obj)} {σ : St} {H : Hp} {s : Shared} {Q : VK} {us : List Value} {vs : List V} {A : Around} (G : FnE X.prog X.w X.K X.mg X.base k f sp) (hr : Room k A) (hg : A.guards = some []) (he : Env0 X.prog X.w X.K X.mg X.base A X.stack s H)
    (I : Inv X pins σ H s) (r : Vals vs us) (h : sp vs H Q E) (hx : ∀ e s', CX X.prog X.w X.stack H s E e s' → X.xe e s') : codeAny (model X.prog X.w) A (.call (.ref f) ⟨us, []⟩) (fun r s' => match r with | .ok (.ret v) => EP X pins σ Q v s' | .ok _ => False | .error e => X.xe e s') s := by
  refine codeAny_mono (G A X.stack s H us vs Q E hr hg he r h) fun z s' hq => ?_
  rcases z with e | fl
  · exact hx e s' hq
  · cases fl <;> first | exact I.after hq | exact hq.elim
theorem make_guards {A : Around} {C : Addr} {us : List Value} {kw : List (Str × Value)} : (A.under (.builtin "type.__call__" ⟨.ref C :: us, kw⟩)).guards = A.guards := by
  first | rfl | simp [Around.under, Code.guards, Code.isGuard, guardIds, pushGuards]
theorem runM {W : WX} {pins : List (Addr × Obj)} {σ : St} {H : Hp} {s : Shared} {Q : VK} {us : List Value} {vs : List V} (M : Mk X.K C f) (G : FnE X.prog X.w X.K X.mg X.base k f sp) (hr : Room (k + 1) X.A) (hg : X.A.guards = some [])
    (I : Inv X pins σ H s) (r : Vals vs us) (tk : Takes X W)
    (h : ∀ x dx, H x = none → H dx = none → dx ≠ x → sp (.ref x :: vs) (upd (upd H dx (.own x)) x (.ins C dx [])) (fun v H2 => v = .non ∧ Q (.ref x) H2) (fun cls d H' => W cls d σ H')) :
    codeAny (model X.prog X.w) X.A (.call (.ref C) ⟨us, []⟩) (fun r s' => match r with | .ok (.ret v) => EP X pins σ Q v s' | .ok _ => False | .error e => X.xe e s') s := by
  have hq := h (s.heap.objs.size + 1) s.heap.objs.size (I.hok.fresh (Nat.le_succ _)) (I.hok.fresh (Nat.le_refl _)) (Nat.ne_of_lt (Nat.lt_succ_self _))
  have I2 := Inv.made (C := C) I
  have r2 : Vals (V.ref (s.heap.objs.size + 1) :: vs) (Value.ref (s.heap.objs.size + 1) :: us) := .cons rfl r
  refine make_map (f := f) I.kIn M.makes M.init (beq_iff_eq.mp M.fn) (codeAny_mono (G _ X.stack _ _ (Value.ref (s.heap.objs.size + 1) :: us) _ _ _ (hr.make C us []) (by rw [make_guards]; exact hg) (I2.env0.make C us []) r2 hq) fun z s' hq' => ?_)
  rcases z with e | fl
  · exact tk e s' (XE.of_call I2 (fun cls d H' h => h) hq')
  · cases fl with
    | ret u =>
      obtain ⟨v, H', I3, rv, ev, q3⟩ := I2.after hq'
      subst ev
      exact ⟨rv, ⟨V.ref (s.heap.objs.size + 1), H', I3, rfl, q3⟩⟩
    | next => exact hq'.elim
    | brk => exact hq'.elim
    | cont => exact hq'.elim
end
/-- what is known of the text: its defs, its classes, its names -/
structure FL (K : PySem.W.Frag) (L : Lk) (kd : Str → Option Gk) (att : Str → Option Nat) (f : Nat) (F : Fn) (fd : FuncData) (ps : List Str) : Prop where
  dv : ∀ H m, RVs L H m F.dfl (L.dv f)
  ex : ∃ x qual params body scope N, FunD K x qual params body scope (L.dv f) [] (L.ad f) fd ∧ FnScope N ps scope ∧ N.length = F.ns ∧ F.body = compSs body ⟨N, scope, kd, att, fun _ => true⟩
  np : ps.length = F.np
  bd : F.star = false → ∀ n, n ≤ F.np → F.np - n ≤ F.dfl.length → ∃ ds, Vals (dvAt L F f n) ds ∧ Binds K fd ps ds
  bs : F.star = true → ∃ qs pv, ps = qs ++ [pv] ∧ ∀ us rest : List Value, us.length = qs.length → bindArgs fd ⟨us ++ rest, []⟩ = (newTuple rest >>= fun t => pure (qs.zip us ++ [(pv, t)]))
structure GX (K : PySem.W.Frag) (mg : Str → Option Value) (L : Lk) (P : Prog) (kd : Str → Option Gk) (att : Str → Option Nat) (fdT : Nat → FuncData) (psT : Nat → List Str) : Prop where
  lK : K = L.K
  isa : ∀ t c b, P.isa t c = some b → ∀ (H : Hp) (x : V), (match t with
    | .ty n => PySem.W.kitOne L.K (.type n.name) (match c with | .ty k => .type k.name | .cl C => .ref (L.ad C)) = some b
    | .cl C => PySem.W.kitOne L.K (.ref (L.ad C)) (match c with | .ty k => .type k.name | .cl C => .ref (L.ad C)) = some b)
  ins : ∀ C c b, P.isa (.cl C) c = some b → ∀ (H : Hp) a dx fs, H a = some (.ins (L.ad C) dx fs) → TyOf L.K H (.ref a) (.ref (L.ad C))
  fl : ∀ f F, P.fn f = some F → FL K L kd att f F (fdT f) (psT f)
  con : ∀ x i, (kd x = some (.con i) ∨ kd x = some (.cls i) ∨ kd x = some (.fn i)) → ∀ d, P.con i = some d → ∃ v u, mg x = some u ∧ RelV v u ∧ ∀ H m, RV L H m d v
  ty : ∀ x t, kd x = some (.ty t) → mg x = none ∧ bootBuiltins x = some (.type t.name) ∧ x = t.name
  bi : ∀ x f, kd x = some (.bi f) → x = biN f ∧ mg x = none
  fn : ∀ x i, kd x = some (.fn i) → mg x = some (.ref (L.ad i)) ∧ PySem.W.keepIn K (.ref (L.ad i)) = true
  cl : ∀ x i, kd x = some (.cls i) → mg x = some (.ref (L.ad i)) ∧ PySem.W.keepIn K (.ref (L.ad i)) = true
  rng : kd "range" = none → mg "range" = none
  enm : kd "enumerate" = none → mg "enumerate" = none
  att : ∀ f i, att f = some i → L.nm i = f
  nmj : ∀ p ∈ nmT, L.nm p.1 = p.2
  fni : ∀ f F, P.fn f = some F → PySem.W.fnIn K (L.ad f) = true
  kpc : ∀ C, (P.cl C).isSome = true → PySem.W.keepIn K (.ref (L.ad C)) = true
  kpf : ∀ f F, P.fn f = some F → PySem.W.keepIn K (.ref (L.ad f)) = true
  cls : ∀ C c, P.cl C = some c → Cls K (L.ad C)
  noat : ∀ C f, isFld C f P = true → NoAttr K (L.ad C) (L.nm f)
  meth : ∀ C m f, lookupAt C m P = some (.meth f) → Meth K (L.ad C) (L.nm m) (L.ad f)
  cons : ∀ C f d, lookupAt C f P = some (.con d) → ∃ v u, Con K (L.ad C) (L.nm f) v u ∧ ∀ H m, RV L H m d v
  nmf : ∀ f g, L.nm f = L.nm g → f = g
  mkc : ∀ C f a b, P.cl C = some ⟨some f, a, b⟩ → Mk K (L.ad C) (L.ad f)
  prop : ∀ C f g, lookupAt C f P = some (.prop g) → ∃ p, PropOf K (L.ad C) (L.nm f) p (L.ad g)
  own0 : ∀ C k, P.cl C = some k → PySem.W.findIn K (.ref (L.ad C)) "__ne__" = some (some (.builtin "object.__ne__")) ∧ PySem.W.mroIn K (L.ad C) (.type "object") = some true ∧ PySem.W.selfFirst K (L.ad C) = true ∧ PySem.W.findIn K (.ref (L.ad C)) "__format__" = some (some (.builtin "object.__format__"))
theorem lookupAt_cl {P : Prog} {C f : Nat} {a : At} (h : lookupAt C f P = some a) : ∃ c, P.cl C = some c := by
  unfold lookupAt at h
  cases e : P.cl C with
  | none => rw [e] at h; cases h
  | some c => exact ⟨c, rfl⟩
section
variable {prog : Program} {w : World} {K : PySem.W.Frag} {mg : Str → Option Value} {base : Heap} {L : Lk} {P : Prog} {kd : Str → Option Gk} {att : Str → Option Nat} {fdT : Nat → FuncData} {psT : Nat → List Str}
/-- a def keeps what the evaluator says of it -/
def FnG (prog : Program) (w : World) (K : PySem.W.Frag) (mg : Str → Option Value) (base : Heap) (L : Lk) (P : Prog) (k : Nat) : Prop :=
  ∀ f F, P.fn f = some F → FnE prog w K mg base k (L.ad f) fun vs H Q E => spC L (callN P k) f F E vs H Q
theorem ctr_of (g : GX K mg L P kd att fdT psT) {k : Nat} {X : Cx} {W : WX} (e1 : X.prog = prog) (e2 : X.w = w) (e3 : X.K = K) (e4 : X.mg = mg) (e5 : X.base = base) (hr : Room (k + 1) X.A) (hg : X.A.guards = some []) (tk : Takes X W) (f1 : FnG prog w K mg base L P (k + 1)) (f2 : FnG prog w K mg base L P k) :
    Ctr X L P W ⟨callN P (k + 1), callN P k⟩ := by
  subst e1 e2 e3 e4 e5
  refine ⟨fun f F vs τ H Q hF hsp pins s us I r => ?_, fun j f F vs τ H Q E hj hF hsp hE pins s us I r => ?_, fun C f F at_ fl vs τ H Q hC hF hsp pins s us I r => ?_, fun C f gg F a dx fs τ H Q hl hF ha hsp pins s b I => ?_⟩
  · exact runF (f1 f F hF) hr hg I.env0 I r hsp fun e s' c => tk e s' (XE.of_call I (fun cls d H' h => h) c)
  · exact runF (f2 f F hF) (room_inN hr hj) (by rw [inN_guards]; exact hg) (env_inN I.env0 j) I r hsp fun e s' c => tk e s' (XE.of_call I (fun cls d H' h => hE cls d H' h) c)
  · exact runM (g.mkc C f at_ fl hC) (f2 f F hF) hr hg I r tk hsp
  · obtain ⟨cc, hcl⟩ := lookupAt_cl hl
    obtain ⟨p, hp⟩ := g.prop C f gg hl
    have c := g.cls C cc hcl
    obtain ⟨mA, O, _, _, _, _⟩ := ins_get I.hok ha
    obtain ⟨od, J, _⟩ := O.look
    obtain ⟨rest, hrec⟩ := hp.rec_
    have I1 := I.tok (s.toks + 1)
    have hc : (PySem.W.clsIn X.K (L.ad C)).isSome = true := by
      obtain ⟨cd, hc, _⟩ := PySem.W.any_some c.hd
      rw [hc]
      rfl
    refine PySem.W.get_bind I.kIn J (PySem.W.plainGet_of (c.get (L.nm f))).1 (PySem.W.findObj_data hc hp.at_ hp.get hp.tak) (PySem.W.plainGet_of (c.get (L.nm f))).2 (wpAny_call (PySem.W.prop_get (s := { s with toks := s.toks + 1 }) I.kIn hrec ?_))
    refine codeAny_mono (f2 gg F hF X.A.in1 X.stack { s with toks := s.toks + 1 } H [.ref a] [.ref a] Q _ hr.in1 hg I1.env0.in1 (.cons rfl .nil) hsp) fun r s' hq => ?_
    · cases r with
      | error er =>
        obtain ⟨_, _, _, _, _, _, _, _, _, _, _, _, z⟩ := (show CX X.prog X.w X.stack H { s with toks := s.toks + 1 } (fun _ _ _ => False) er s' from hq)
        exact z.elim
      | ok fl =>
        cases fl with
        | ret u =>
          obtain ⟨v, H', I3, rv, q3⟩ := I1.after hq
          show wpAny _ _ (handedOut u) _ _ _
          rw [PySem.W.handedOut_of (handed_of rv)]
          exact wpAny_pure ⟨v, H', I3, rv, q3⟩
        | next => exact False.elim hq
        | brk => exact False.elim hq
        | cont => exact False.elim hq
theorem io_get : ∀ {as σ : List Sl} {i : Nat} {s : Sl}, (ioF as σ)[i]? = some s → (∃ io lk d, as[i]? = some (.own io lk d) ∧ σ[i]? = some s) ∨ (as[i]? = some s ∧ ((∀ io lk d, s ≠ .own io lk d) ∨ σ[i]? = none))
  | [], σ, i, s, h => by cases σ <;> simp [ioF] at h
  | a :: as, [], i, s, h => by simp only [ioF] at h; exact .inr ⟨h, .inr (by simp)⟩
  | a :: as, t :: σ, i, s, h => by
    cases i with
    | zero =>
      cases a with
      | own io lk d => simp [ioF] at h; subst h; exact .inl ⟨io, lk, d, rfl, rfl⟩
      | un => simp [ioF] at h; subst h; exact .inr ⟨rfl, .inl (by intros; simp)⟩
      | val d => simp [ioF] at h; subst h; exact .inr ⟨rfl, .inl (by intros; simp)⟩
    | succ i =>
      have h' : (ioF as σ)[i]? = some s := by cases a <;> simpa [ioF] using h
      simpa using io_get h'
theorem io_own : ∀ {as σ : List Sl} {i : Nat} {io lk : Bool} {d : D} {s : Sl}, as[i]? = some (.own io lk d) → σ[i]? = some s → (ioF as σ)[i]? = some s
  | [], σ, i, io, lk, d, s, h, h2 => by simp at h
  | a :: as, [], i, io, lk, d, s, h, h2 => by simp at h2
  | a :: as, t :: σ, i, io, lk, d, s, h, h2 => by
    cases i with
    | zero => simp at h h2; subst h; subst h2; simp [ioF]
    | succ i =>
      have := io_own (as := as) (σ := σ) (i := i) (io := io) (lk := lk) (d := d) (s := s) (by simpa using h) (by simpa using h2)
      cases a <;> simpa [ioF] using this
theorem io_len : ∀ {as σ : List Sl}, (ioF as σ).length = as.length
  | [], σ => by cases σ <;> simp [ioF]
  | a :: as, [] => by simp [ioF]
  | a :: as, t :: σ => by
    have := io_len (as := as) (σ := σ)
    cases a <;> simp [ioF, this]
/-- a def's slots at its entry -/
theorem rel_start {m : Addr → Prop} {H : Hp} {as : List Sl} {vs : List V} {n : Nat} (rl : Rel L m H as (vs.map some)) : Rel L m H (as ++ List.replicate n Sl.un) (vs.map some ++ List.replicate n none) := by
  have get : ∀ {j : Nat} {s : Sl}, (as ++ List.replicate n Sl.un)[j]? = some s → s ≠ .un → as[j]? = some s ∧ (vs.map some ++ List.replicate n none)[j]? = (vs.map some)[j]? := fun {j s} h hs => by
    by_cases hj : j < as.length
    · rw [List.getElem?_append_left hj] at h
      exact ⟨h, List.getElem?_append_left (by rw [← rl.len]; exact hj)⟩
    · rw [List.getElem?_append_right (by omega)] at h
      have := List.mem_of_getElem? h
      rw [List.mem_replicate] at this
      exact absurd this.2 hs
  refine ⟨rl.mH, by simp [rl.len], fun j d h => ?_, fun j io lk d h => ?_, fun j k io lk io' lk' d e a h1 h2 h3 h4 => ?_⟩
  · obtain ⟨h1, h2⟩ := get h (by simp)
    obtain ⟨v, h3, h4⟩ := rl.val j d h1
    exact ⟨v, by rw [h2]; exact h3, h4⟩
  · obtain ⟨h1, h2⟩ := get h (by simp)
    obtain ⟨v, h3, h4⟩ := rl.own j io lk d h1
    exact ⟨v, by rw [h2]; exact h3, h4⟩
  · obtain ⟨g1, g2⟩ := get h1 (by simp)
    obtain ⟨g3, g4⟩ := get h2 (by simp)
    rw [g2] at h3; rw [g4] at h4
    exact rl.inj _ _ _ _ _ _ _ _ _ g1 g3 h3 h4
/-- and at its end -/
theorem step_end {m m' : Addr → Prop} {H H' : Hp} {as σ' : List Sl} {vs : List V} {τ' : St} {n : Nat} (rl : Rel L m H as (vs.map some)) (hio : as.all isIo = true) (s : Step L (as ++ List.replicate n Sl.un) (vs.map some ++ List.replicate n none) m H σ' τ' m' H') :
    Step L as (vs.map some) m H (ioF as σ') (vs.map some) m' H' ∧ ∀ a, Ow (ioF as σ') (vs.map some) a → Ow σ' τ' a := by
  have io1 : ∀ {j : Nat} {io lk : Bool} {d : D}, as[j]? = some (.own io lk d) → io = true := fun {j io lk d} h => by
    have := List.all_eq_true.mp hio _ (List.mem_of_getElem? h)
    cases io
    · simp [isIo] at this
    · rfl
  have lt : ∀ {j : Nat} {x : Sl}, as[j]? = some x → j < as.length := fun h => (List.getElem?_eq_some_iff.mp h).1
  have gl : ∀ {j : Nat} {x : Sl}, as[j]? = some x → (as ++ List.replicate n Sl.un)[j]? = some x := fun h => by rw [List.getElem?_append_left (lt h)]; exact h
  have gt : ∀ {j : Nat} {x : Sl}, as[j]? = some x → (vs.map some ++ List.replicate n none)[j]? = (vs.map some)[j]? := fun h => List.getElem?_append_left (by rw [← rl.len]; exact lt h)
  -- an own slot of the end
  have own : ∀ {j : Nat} {io lk : Bool} {d : D}, (ioF as σ')[j]? = some (.own io lk d) → ∃ lk0 d0, as[j]? = some (.own true lk0 d0) ∧ σ'[j]? = some (.own io lk d) ∧ io = true ∧ lk = lk0 ∧ τ'[j]? = (vs.map some)[j]? := fun {j io lk d} h => by
    rcases io_get h with ⟨io0, lk0, d0, h1, h2⟩ | ⟨h1, h2⟩
    · have e := io1 h1
      subst e
      obtain ⟨e1, e, h3⟩ := s.io j lk0 d0 (gl h1)
      rw [h2] at h3; cases h3
      exact ⟨lk, d0, h1, h2, rfl, rfl, by rw [e1, gt h1]⟩
    · rcases h2 with h2 | h2
      · exact absurd rfl (h2 _ _ _)
      · have e := io1 h1
        subst e
        obtain ⟨_, e, h3⟩ := s.io j lk d (gl h1)
        rw [h2] at h3; cases h3
  have wr : ∀ a, Wr (as ++ List.replicate n Sl.un) (vs.map some ++ List.replicate n none) a → Wr as (vs.map some) a := by
    rintro a ⟨j, io, d, h1, h2⟩
    by_cases hj : j < as.length
    · rw [List.getElem?_append_left hj] at h1
      rw [gt h1] at h2
      exact ⟨j, io, d, h1, h2⟩
    · rw [List.getElem?_append_right (by omega)] at h1
      have := List.mem_of_getElem? h1
      rw [List.mem_replicate] at this
      cases this.2
  have kp : Kp H m H' m' := s.kp (rel_start rl)
  refine ⟨⟨⟨s.rel.mH, by rw [io_len]; exact rl.len, fun j d h => ?_, fun j io lk d h => ?_, fun j k io lk io' lk' d e a h1 h2 h3 h4 => ?_⟩, fun a o ea hn => s.frame a o ea fun z => hn (wr a z), fun a h => ?_, fun a h => ?_, fun j lk d h => ?_, fun j io d h => ?_, s.dom⟩, fun a h => ?_⟩
  · rcases io_get h with ⟨io0, lk0, d0, h1, h2⟩ | ⟨h1, h2⟩
    · have e := io1 h1
      subst e
      obtain ⟨e1, e, h3⟩ := s.io j lk0 d0 (gl h1)
      rw [h2] at h3; cases h3
    · obtain ⟨v, g1, g2⟩ := rl.val j d h1
      exact ⟨v, g1, RV.mono kp _ _ g2⟩
  · obtain ⟨lk0, d0, h1, h2, e1, e2, e3⟩ := own h
    obtain ⟨a, g1, g2⟩ := s.rel.own j io lk d h2
    exact ⟨a, by rw [← e3]; exact g1, g2⟩
  · obtain ⟨lk0, d0, g1, g2, e1, e2, e3⟩ := own h1
    obtain ⟨lk1, d1, g3, g4, e4, e5, e6⟩ := own h2
    exact rl.inj _ _ _ _ _ _ _ _ _ g1 g3 h3 h4
  · obtain ⟨j, io, lk, d, h1, h2⟩ := h
    obtain ⟨lk0, d0, g1, g2, e1, e2, e3⟩ := own h1
    exact .inl ⟨j, true, lk0, d0, g1, h2⟩
  · obtain ⟨j, io, d, h1, h2⟩ := h
    obtain ⟨lk0, d0, g1, g2, e1, e2, e3⟩ := own h1
    subst e2
    exact .inl ⟨j, true, d0, g1, h2⟩
  · obtain ⟨e1, e, h3⟩ := s.io j lk d (gl h)
    exact ⟨rfl, e, io_own h h3⟩
  · have e := io1 h
    subst e
    obtain ⟨e1, h3⟩ := s.lkd j true d (gl h)
    exact ⟨rfl, io_own h h3⟩
  · obtain ⟨j, io, lk, d, h1, h2⟩ := h
    obtain ⟨lk0, d0, g1, g2, e1, e2, e3⟩ := own h1
    exact ⟨j, io, lk, d, g2, by rw [e3]; exact h2⟩
/-- the body of a def, its parameters bound -/
theorem body_ok (g : GX K mg L P kd att fdT psT) {k f : Nat} {F : Fn} (hF : P.fn f = some F) {qual : Str} {body : List Stmt} {scope : Scope} {N : List Str} (S : FnScope N (psT f) scope) (hN : N.length = F.ns) (hbody : F.body = compSs body ⟨N, scope, kd, att, fun _ => true⟩)
    (f1 : FnG prog w K mg base L P (k + 1)) (f2 : FnG prog w K mg base L P k) {cdv : Value} {A : Around} {outer : List Env} {s : Shared} {H : Hp} {vs : List V} {Q : VK} {E : XK} (hr : Room (k + 1) (A.deeper (PyProof.Rows.envOfC qual scope s.heap.objs.size (L.ad f) cdv))) (hg : A.guards = some [])
    (q : spN L (callN P (k + 2)) f E vs H Q) : vs.length = F.np ∧ ∃ t, PSs (cxOf (CX prog w) prog w K mg base N qual scope (L.ad f) cdv A outer s H E) body t ∧ t { nx := fun _ H' => Q .non H', rt := Q } (L2.start N vs) H := by
  have open_ : ∀ {σ : List Sl} {L' : Lk} {Wt : WX} {H : Hp} {τ : St} {m : Addr → Prop} {Q : VK}, Post L' Wt (TR L') H σ τ m Q (callN P (k + 2) f σ) → (σ.length = F.np ∧ F.np ≤ F.ns ∧ σ.all isIo = true) ∧ Post L' Wt (TR L') H σ τ m Q (match ex P ⟨callN P (k + 1), callN P k⟩ F.body (σ ++ List.replicate (F.ns - F.np) Sl.un) with
      | .ok (.ret (.bor _)) _ => .fail
      | .ok (.ret r) σ' => .ok r (ioF σ σ')
      | .ok .next σ' => .ok (.val .non) (ioF σ σ')
      | .ok _ _ => .fail
      | .exc x σ' => .exc x (ioF σ σ')
      | .fail => .fail) := fun {σ L' Wt H τ m Q} p => by
    simp only [callN] at p
    rw [hF] at p
    dsimp only at p
    split at p
    · rename_i hc; exact ⟨hc, p⟩
    · exact p.elim
  obtain ⟨m, σ, rl, p⟩ := q
  obtain ⟨⟨h1, h2, h3⟩, p⟩ := open_ p
  have hvl : vs.length = F.np := by
    have := rl.len
    rw [List.length_map] at this
    rw [← this, h1]
  refine ⟨hvl, ?_⟩
  have tk : Takes (cxOf (CX prog w) prog w K mg base N qual scope (L.ad f) cdv A outer s H E) (fun cls d _ H' => E cls d H') := takes_of rfl rfl rfl rfl
  have hgd : (A.deeper (PyProof.Rows.envOfC qual scope s.heap.objs.size (L.ad f) cdv)).guards = some [] := hg
  have tx : TX (cxOf (CX prog w) prog w K mg base N qual scope (L.ad f) cdv A outer s H E) L P (fun cls d _ H' => E cls d H') ⟨callN P (k + 1), callN P k⟩ ⟨N, scope, kd, att, fun _ => true⟩ :=
    { lo := ⟨g.lK, g.isa, g.ins⟩
      calm := rfl
      nd := S.nd
      N := rfl
      sc := rfl
      fnX := rfl
      hu := by have := hr.un; show (A.deeper _).units + 128 < _; omega
      gu := hgd
      tk := tk
      ctr := fun X' W' h t => ctr_of g h.prog h.w h.K h.mg h.base (by rw [h.A]; exact hr) (by rw [h.A]; exact hgd) t f1 f2
      dv := fun f' F' hF' H' m' => (g.fl f' F' hF').dv H' m'
      con := g.con
      ty := g.ty
      bi := g.bi
      fn := g.fn
      cl := g.cl
      rng := g.rng
      enm := g.enm
      att := g.att
      nmj := g.nmj
      fni := g.fni
      kpc := g.kpc
      kpf := g.kpf
      own0 := g.own0
      cls := g.cls
      noat := g.noat
      meth := g.meth
      cons := g.cons
      nmf := g.nmf
      own := passes_of rfl }
  refine ⟨_, sndSs body tx, ?_⟩
  rw [← hbody]
  have est : L2.start N vs = vs.map some ++ List.replicate (F.ns - F.np) none := by unfold L2.start; rw [hN, hvl]
  rw [est]
  have rls := rel_start (n := F.ns - F.np) rl
  refine ⟨m, _, rls, ?_⟩
  have fresh : ∀ a, ¬ OwF (σ ++ List.replicate (F.ns - F.np) Sl.un) (vs.map some ++ List.replicate (F.ns - F.np) none) a := by
    rintro a ⟨j, lk, d, z1, z2⟩
    have hm := List.mem_of_getElem? z1
    rw [List.mem_append] at hm
    rcases hm with hm | hm
    · have := List.all_eq_true.mp h3 _ hm
      simp [isIo] at this
    · rw [List.mem_replicate] at hm; cases hm.2
  cases e : ex P ⟨callN P (k + 1), callN P k⟩ F.body (σ ++ List.replicate (F.ns - F.np) Sl.un) with
  | fail => rw [e] at p; exact p
  | exc x σ' =>
    rw [e] at p
    intro m' H' τ' cls d st t
    exact p m' H' cls d (step_end rl h3 st).1 t
  | ok fl' σ' =>
    rw [e] at p
    cases fl' with
    | brk => exact p.elim
    | cont => exact p.elim
    | next =>
      intro m' H' τ' st
      exact p m' H' .non (step_end rl h3 st).1 (by show RV L H' m' .non .non; simp only [RV])
    | ret r =>
      intro m' H' τ' v st t
      obtain ⟨s1, s2⟩ := step_end rl h3 st
      cases r with
      | bor i => exact p.elim
      | val d => exact p m' H' v s1 t
      | tmp d =>
        obtain ⟨a, ea, h0, g1, g2, g3⟩ := t
        refine p m' H' v s1 ⟨a, ea, ?_, g1, fun z => g2 (s2 a z), g3⟩
        rcases h0 with h0 | h0
        · exact h0
        · exact absurd h0 (fresh a)
theorem fn_all (g : GX K mg L P kd att fdT psT) : ∀ k, FnG prog w K mg base L P k := by
  intro k
  induction k using Nat.strongRecOn with
  | ind k ih =>
    intro f F hF
    have fl := g.fl f F hF
    have hno : ∀ {E : XK} {vs : List V} {H : Hp} {Q : VK}, (∀ σ, callN P k f σ = .fail) → ¬ spN L (callN P k) f E vs H Q := fun h q => by
      obtain ⟨m, σ, _, p⟩ := q; rw [h] at p; exact p
    have none : (∀ σ, callN P k f σ = .fail) → FnE prog w K mg base k (L.ad f) fun vs H Q E => spC L (callN P k) f F E vs H Q := fun h A outer s H us vs Q E hr _ e0 r q => by
      rcases q with ⟨_, _, _, q⟩ | ⟨_, ws, rest, _, _, _, q⟩
      · exact (hno h q).elim
      · exact (hno h (q s.heap.objs.size (e0.hok.fresh (Nat.le_refl _)))).elim
    match k, ih with
    | 0, ih => exact none fun _ => rfl
    | 1, ih => exact none fun _ => rfl
    | k + 2, ih =>
      clear none hno
      obtain ⟨x, qual, pr, body, scope, N, fun_, S, hN, hbody⟩ := fl.ex
      have f1 := ih (k + 1) (Nat.lt_succ_self _)
      have f2 := ih k (Nat.lt_succ_of_lt (Nat.lt_succ_self _))
      obtain ⟨oc, od, dV, kV, doc, pm, an, cdv, ct, osl, efd, lk, hcd, _, _⟩ := fun_.ex
      intro A outer s H us vs Q E hr hg e0 r q
      have KX : K.In s.heap := e0.mod.kin.keeps fun b o e => (e0.bs b o e).1
      rw [efd] at lk
      rcases q with ⟨hs, h1, h2, q⟩ | ⟨hs, ws, rest, ev, hl, hz, q⟩
      · obtain ⟨ds, hd, hb⟩ := fl.bd hs vs.length h1 h2
        have r2 := r.append hd
        have hvl : (vs ++ dvAt L F f vs.length).length = F.np := by
          obtain ⟨m, σ, rl, p⟩ := q
          simp only [callN] at p
          rw [hF] at p
          dsimp only at p
          split at p
          · rename_i hc
            have := rl.len
            rw [List.length_map] at this
            rw [← this, hc.1]
          · exact p.elim
        refine StX.run_bnd (G := fun xs H2 => xs = vs ++ dvAt L F f vs.length ∧ H2 = H) lk hcd S hr e0 (fun A' Ex Q' h => ?_) fun s2 H2 xs ⟨ex, eH⟩ hr' => ?_
        · rw [← efd]
          exact hb s us KX (by rw [← r2.length, hvl, fl.np]) _ A' Ex Q' (h s H _ _ e0 Un.refl rfl (fun _ _ z => z) r2 (by rw [hvl, fl.np]) ⟨rfl, rfl⟩)
        · subst ex eH
          exact (body_ok g hF S hN hbody f1 f2 hr' hg q).2
      · obtain ⟨qs, pv, eps, hb⟩ := fl.bs hs
        subst ev
        obtain ⟨u1, u2, eu, r1, r2⟩ := StX.vals_split r
        subst eu
        have hn : H s.heap.objs.size = Option.none := e0.hok.fresh (Nat.le_refl _)
        have hlq : qs.length + 1 = F.np := by rw [← fl.np, eps, List.length_append]; rfl
        have hl1 : u1.length = qs.length := by rw [← r1.length]; omega
        have hl2 : u2.length ≤ sizeLine := by rw [← r2.length]; exact hz
        rw [eps] at S
        refine StX.run_bnd lk hcd S hr e0 (G := fun xs H2 => ∃ p, H p = Option.none ∧ xs = ws ++ [V.ref p] ∧ H2 = upd H p (.tup rest)) (fun A' Ex Q' h => ?_) fun s2 H2 xs ⟨p, hp, ex, eH⟩ hr' => ?_
        · rw [← efd, hb u1 u2 hl1]
          refine wpAny_bind (wpAny_newTuple (wpAny_pure ?_) hl2)
          have new : ObjOk prog w (upd H s.heap.objs.size (.tup rest)) (s.heap.push ({ cls := .type "tuple", data := .seq u2.toArray } : Obj)) s.heap.objs.size (.tup rest) := ⟨hz, u2, r2, ⟨_, Heap.get?_push_size _ rfl, rfl, _, rfl⟩⟩
          have un := StX.un_laid (fs := frs outer) (s := s) (o := ({ cls := .type "tuple", data := .seq u2.toArray } : Obj)) (u := .tup rest) hn
          have z := h _ _ (ws ++ [V.ref s.heap.objs.size]) (u1 ++ [Value.ref s.heap.objs.size]) (StX.env0_laid e0 new) un rfl (fun e s' => StX.cxUp outer s H _ _ E e s' un (fun b o q => Heap.get?_push_of_some _ q) rfl) (r1.append (.cons rfl .nil))
            (by rw [List.length_append, List.length_append]; simp; omega) ⟨_, hn, rfl, rfl⟩
          rw [List.zip_append hl1.symm] at z
          exact z
        · subst ex eH
          rw [← eps] at S
          exact (body_ok g hF S hN hbody f1 f2 hr' hg (q p hp)).2
end
end EV

set_option Elab.async false
set_option linter.all false
set_option maxRecDepth 100000
set_option maxHeartbeats 4000000
/-! ### the text's tables, and what is looked at behind its top -/
namespace EV
open PySem L2
/-- where a def stands -/
inductive Pa where
  | glo (x : Str) | meth (C m : Str) | prop (C m : Str)
def propG (K : PySem.W.Frag) (p : Addr) : Addr := match PySem.W.recIn K p "property" with
  | some (.ref g :: _) => g
  | _ => 0
def Pa.ad (K : PySem.W.Frag) : Pa → Addr
  | .glo x => He.ga K x
  | .meth C m => He.ma K (He.ga K C) m
  | .prop C m => propG K (He.ma K (He.ga K C) m)
structure EnF where
  pa : Pa
  name : Str
  qual : Str
  params : Arguments
  body : List Stmt
  scope : Scope
  N : List Str
  ps : List Str
  fn : Fn
structure EnC where
  x : Str
  cl : Cl
structure Tb where
  fns : List (Nat × EnF)
  cls : List (Nat × EnC)
  cons : List (Nat × Str × D)
  kds : List (Str × Gk)
  names : List Str
  isas : List ((Tk × Tk) × Bool)
def Tb.ad (T : Tb) (K : PySem.W.Frag) (i : Nat) : Addr := match T.fns.lookup i with
  | some e => e.pa.ad K
  | none => (match T.cls.lookup i with
    | some c => He.ga K c.x
    | none => 0)
def nmF (i : Nat) : Str := ⟨Array.replicate (i + 1) 1⟩
def Tb.nm (T : Tb) (i : Nat) : Str := (T.names[i]?).getD (nmF i)
def vOf : Value → V
  | .none => .non
  | .bool b => .bl b
  | .int i _ => .int i
  | .str s _ => .str s
  | .ref a => .ref a
  | .type n => .ty n
  | _ => .non
def dfV (K : PySem.W.Frag) (f : Addr) : List V := match K.lookup f with
  | some ⟨_, _, .func fd, _⟩ => (match fd.defaults with
    | .ref T => (match K.lookup T with
      | some ⟨_, _, .seq its _, _⟩ => its.toList.map vOf
      | _ => [])
    | _ => [])
  | _ => []
def Tb.L (T : Tb) (K : PySem.W.Frag) : Lk := ⟨K, T.ad K, T.nm, fun f => dfV K (T.ad K f)⟩
def Tb.con (T : Tb) (i : Nat) : Option D := match T.cons.lookup i with
  | some q => some q.2
  | none => if (T.cls.lookup i).isSome then some (.gl i) else none
def Tb.P (T : Tb) : Prog := ⟨fun i => (T.fns.lookup i).map (·.fn), fun i => (T.cls.lookup i).map (·.cl), T.con, fun a b => T.isas.lookup (a, b)⟩
def Tb.kd (T : Tb) (x : Str) : Option Gk := T.kds.lookup x
def Tb.att (T : Tb) (x : Str) : Option Nat := T.names.idxOf? x
def Tb.cc (T : Tb) (e : EnF) : CC := ⟨e.N, e.scope, T.kd, T.att, fun _ => true⟩
mutual
/-- a value of the top that is worth d -/
def rvB (L : Lk) : D → V → Bool
  | .non, .non => true
  | .bl b, .bl c => b == c
  | .int i, .int j => decide (i = j)
  | .str x, .str y => decide (x = y)
  | .ty n, .ty k => decide (n.name = k)
  | .gl x, .ref a => decide (a = L.ad x)
  | .tup ds, .ref a => (match L.K.lookup a with
    | some ⟨.type c, _, .seq its _, _⟩ => decide (c = "tuple") && (decide (its.size ≤ sizeLine) && (He.relAll (its.toList.map vOf) its.toList && rvsB L ds (its.toList.map vOf)))
    | _ => false)
  | _, _ => false
def rvsB (L : Lk) : List D → List V → Bool
  | [], [] => true
  | d :: ds, v :: vs => rvB L d v && rvsB L ds vs
  | _, _ => false
end
theorem band {a b : Bool} (h : (a && b) = true) : a = true ∧ b = true := Bool.and_eq_true_iff.mp h
mutual
theorem rvB_ok {L : Lk} {H : Hp} {m : Addr → Prop} : ∀ (d : D) (v : V), rvB L d v = true → RV L H m d v
  | .non, v, h => by cases v <;> simp [rvB] at h; simp only [RV]
  | .bl b, v, h => by cases v <;> simp [rvB] at h; simp only [RV]; rw [h]
  | .int i, v, h => by cases v <;> simp [rvB] at h; simp only [RV]; rw [h]
  | .str s, v, h => by cases v <;> simp [rvB] at h; simp only [RV]; rw [h]
  | .ty n, v, h => by cases v <;> simp [rvB] at h; simp only [RV]; rw [h]
  | .gl x, v, h => by cases v <;> simp [rvB] at h; simp only [RV]; rw [h]
  | .tup ds, v, h => by
    cases v with
    | ref a =>
      simp only [rvB] at h
      cases q : L.K.lookup a with
      | none => rw [q] at h; cases h
      | some o =>
        obtain ⟨oc, od, dt, osl⟩ := o
        rw [q] at h
        cases oc with
        | type c =>
          cases dt with
          | seq its n =>
            obtain ⟨h1, h⟩ := band h
            obtain ⟨h2, h⟩ := band h
            obtain ⟨h3, h4⟩ := band h
            simp only [RV]
            exact ⟨a, _, rfl, .inr ⟨_, its, n, q, congrArg Value.type (of_decide_eq_true h1), rfl, of_decide_eq_true h2, He.relAll_ok h3⟩, rvsB_ok ds _ h4⟩
          | _ => cases h
        | _ => cases dt <;> cases h
    | _ => simp [rvB] at h
  | .lst ds, v, h => by simp [rvB] at h
  | .ins C ns ds, v, h => by simp [rvB] at h
theorem rvsB_ok {L : Lk} {H : Hp} {m : Addr → Prop} : ∀ (ds : List D) (vs : List V), rvsB L ds vs = true → RVs L H m ds vs
  | [], [], _ => .nil
  | [], _ :: _, h => by simp [rvsB] at h
  | _ :: _, [], h => by simp [rvsB] at h
  | d :: ds, v :: vs, h => by
    simp only [rvsB] at h
    obtain ⟨h1, h2⟩ := band h
    exact .cons (rvB_ok d v h1) (rvsB_ok ds vs h2)
end
/-! what is asked of K -/
def fnWa (K : PySem.W.Frag) (a : Addr) : He.FnW := match K.lookup a with
  | some ⟨_, _, .func fd, _⟩ => some (fd.name, fd.qualname, fd.params, fd.body, fd.scope, fd.globals, fd.closure, fd.builtins)
  | _ => none
def EnF.val (e : EnF) : He.FnW := some (e.name, e.qual, e.params, .stmts e.body, e.scope, mainGlobals, [], builtinsNs)
def okF (T : Tb) (K : PySem.W.Frag) (i : Nat) (e : EnF) : Bool := PySem.W.keepIn K (.ref (T.ad K i)) && ((match K.lookup (T.ad K i) with
  | some ⟨_, _, .func fd, _⟩ => PySem.W.codeIn K fd.code e.qual && He.dflB K fd.defaults ((T.L K).dv i)
  | _ => false) && rvsB (T.L K) e.fn.dfl ((T.L K).dv i))
def okAt (T : Tb) (K : PySem.W.Frag) (C : Addr) : Nat × At → Bool
  | (m, .meth f) => He.eqO (PySem.W.findIn K (.ref C) (T.nm m)) (some (some (.ref (T.ad K f)))) && (PySem.W.isFn K (.ref (T.ad K f)) && PySem.W.keepIn K (.ref (T.ad K f)))
  | (m, .prop g) => (match PySem.W.findIn K (.ref C) (T.nm m) with
    | some (some (.ref p)) => He.eqO (PySem.W.specialIn K (.ref p) "__get__") (some (some (.builtin "property.__get__"))) && (decide (PySem.W.takesIn K (.ref p) = some true) && (match PySem.W.recIn K p "property" with
      | some (.ref g' :: _) => decide (g' = T.ad K g)
      | _ => false))
    | _ => false)
  | (m, .con d) => (match PySem.W.findIn K (.ref C) (T.nm m) with
    | some (some u) => He.relB (vOf u) u && (He.eqO (PySem.W.specialIn K u "__get__") (some none) && (!PySem.W.copiedNames.contains (T.nm m) && rvB (T.L K) d (vOf u)))
    | _ => false)
  | (_, .cmet _) => false
  | (_, .smet _) => false
/-- what every class of the text has of object's -/
def okO (K : PySem.W.Frag) (C : Addr) : Bool := He.eqO (PySem.W.findIn K (.ref C) "__ne__") (some (some (.builtin "object.__ne__"))) && (decide (PySem.W.mroIn K C (.type "object") = some true) && (PySem.W.selfFirst K C && (He.eqO (PySem.W.findIn K (.ref C) "__format__") (some (some (.builtin "object.__format__"))) && PySem.W.keepIn K (.ref C))))
def okC (T : Tb) (K : PySem.W.Frag) (c : EnC) : Bool := (PySem.W.plainGet K (He.ga K c.x) Str.empty && (PySem.W.hasDictIn K (He.ga K c.x) && (PySem.W.plainOver K (He.ga K c.x) && He.eqO (PySem.W.findIn K (.ref (He.ga K c.x)) "__setattr__") (some (some (.builtin "object.__setattr__"))))))
  && (c.cl.flds.all (fun f => He.eqO (PySem.W.findIn K (.ref (He.ga K c.x)) (T.nm f)) (some none))
  && (c.cl.attrs.all (okAt T K (He.ga K c.x))
  && (match c.cl.init with
    | some f => PySem.W.makesIn K (He.ga K c.x) && (He.eqO (PySem.W.findIn K (.ref (He.ga K c.x)) "__init__") (some (some (.ref (T.ad K f)))) && (PySem.W.isFn K (.ref (T.ad K f)) && PySem.W.keepIn K (.ref (He.ga K c.x))))
    | none => true)) && okO K (He.ga K c.x))
def okK (T : Tb) (K : PySem.W.Frag) : Str × Gk → Bool
  | (x, .fn i) => He.eqO (PySem.W.nsIn K mainGlobals x) (some (some (.ref (T.ad K i)))) && PySem.W.keepIn K (.ref (T.ad K i))
  | (x, .cls i) => He.eqO (PySem.W.nsIn K mainGlobals x) (some (some (.ref (T.ad K i)))) && PySem.W.keepIn K (.ref (T.ad K i))
  | (x, .con i) => (match PySem.W.nsIn K mainGlobals x, (T.cons.lookup i) with
    | some (some u), some q => He.relB (vOf u) u && rvB (T.L K) q.2 (vOf u)
    | _, _ => false)
  | (x, .bi f) => He.eqO (PySem.W.nsIn K mainGlobals x) (some none) && decide (x = biN f)
  | (x, .ty t) => He.eqO (PySem.W.nsIn K mainGlobals x) (some none) && (decide (bootBuiltins x = some (.type t.name)) && decide (x = t.name))
def tkV (T : Tb) (K : PySem.W.Frag) : Tk → Value
  | .ty n => .type n.name
  | .cl C => .ref (T.ad K C)
def okI (T : Tb) (K : PySem.W.Frag) (p : (Tk × Tk) × Bool) : Bool := decide (PySem.W.kitOne K (tkV T K p.1.1) (tkV T K p.1.2) = some p.2) && (match p.1.1 with
  | .ty _ => true
  | .cl C => (T.cls.lookup C).isSome && (He.eqO (PySem.W.findIn K (.ref (T.ad K C)) "__class__") (some (some (.builtin "object.__class__"))) && (He.eqO (PySem.W.specialIn K (.builtin "object.__class__") "__get__") (some (some (.builtin "getset_descriptor.__get__"))) && (decide (PySem.W.takesIn K (.builtin "object.__class__") = some true) && decide (PySem.W.mroIn K (T.ad K C) (.type "object") = some true)))))
def okT (T : Tb) (K : PySem.W.Frag) : Bool := T.fns.all (fun p => okF T K p.1 p.2) && (T.cls.all (fun p => decide (T.ad K p.1 = He.ga K p.2.x) && okC T K p.2) && (T.kds.all (okK T K) && (T.isas.all (okI T K) && (He.eqO (PySem.W.nsIn K mainGlobals "range") (some none) && He.eqO (PySem.W.nsIn K mainGlobals "enumerate") (some none)))))
/-- the calls of a def bind its parameters -/
def BdOk (e : EnF) : Prop := ∀ (K : PySem.W.Frag) (dvs : List V) (f : Addr) (fd : FuncData), FunD K e.name e.qual e.params e.body e.scope dvs [] f fd → dvs.length = e.fn.dfl.length → ∀ n, n ≤ e.fn.np → e.fn.np - n ≤ e.fn.dfl.length → ∃ ds, Vals (dvs.drop (e.fn.dfl.length - (e.fn.np - n))) ds ∧ Binds K fd e.ps ds
theorem bd0 {e : EnF} (h0 : e.fn.dfl = []) (hp : e.ps.length = e.fn.np) (h : ∀ (kV doc pm : Value) (an : Option Addr) (cdv ct : Value) (us : List Value), us.length = e.ps.length → bindArgs (PySem.W.fnOf e.name e.qual e.params e.body e.scope .none kV doc pm an cdv ct) ⟨us, []⟩ = pure (e.ps.zip us)) : BdOk e := by
  intro K dvs f fd F hl n h1 h2
  rw [h0] at hl
  obtain rfl : dvs = [] := List.length_eq_zero_iff.mp hl
  exact ⟨[], by rw [List.drop_nil]; exact .nil, F.bindsN h⟩
/-- the same of a def with a star parameter -/
def BsOk (e : EnF) : Prop := ∃ qs pv, e.ps = qs ++ [pv] ∧ ∀ (kV doc pm : Value) (an : Option Addr) (cdv ct : Value) (us rest : List Value), us.length = qs.length → bindArgs (PySem.W.fnOf e.name e.qual e.params e.body e.scope .none kV doc pm an cdv ct) ⟨us ++ rest, []⟩ = (newTuple rest >>= fun t => pure (qs.zip us ++ [(pv, t)]))
structure EnOk (T : Tb) (e : EnF) : Prop where
  sc : FnScope e.N e.ps e.scope
  ns : e.N.length = e.fn.ns
  np : e.ps.length = e.fn.np
  body : e.fn.body = compSs e.body (T.cc e)
  bd : (e.fn.star = false ∧ BdOk e) ∨ (e.fn.star = true ∧ e.fn.dfl = [] ∧ BsOk e)
/-- what is asked of the tables alone -/
structure TOk (T : Tb) : Prop where
  nd : T.names.Nodup
  nf : ∀ x ∈ T.names, x.cps[0]? ≠ some 1
  j1 : ∀ p ∈ nmT, T.names[p.1]? = some p.2
  fs : ∀ p ∈ T.fns, EnOk T p.2
  kc : ∀ x i, T.kds.lookup x = some (.con i) ∨ T.kds.lookup x = some (.cls i) ∨ T.kds.lookup x = some (.fn i) → (∃ d, T.cons.lookup i = some d) → T.kds.lookup x = some (.con i)
def kcB (T : Tb) : Str × Gk → Bool
  | (_, .cls i) => (T.cons.lookup i).isNone
  | (_, .fn i) => (T.cons.lookup i).isNone
  | _ => true
theorem lookup_mem' {α β : Type} [BEq α] [LawfulBEq α] {a : α} {b : β} : ∀ {l : List (α × β)}, l.lookup a = some b → (a, b) ∈ l
  | [], h => by simp at h
  | (x, y) :: l, h => by
    rw [List.lookup_cons] at h
    split at h
    · rename_i e
      cases h
      rw [eq_of_beq e]
      exact List.mem_cons_self
    · exact List.mem_cons_of_mem _ (lookup_mem' h)
theorem tok_of {T : Tb} (nd : T.names.Nodup) (nf : T.names.all (fun x => !decide (x.cps[0]? = some 1)) = true) (j1 : nmT.all (fun p => decide (T.names[p.1]? = some p.2)) = true) (fs : ∀ p ∈ T.fns, EnOk T p.2) (kc : T.kds.all (kcB T) = true) : TOk T := by
  refine ⟨nd, fun x hx => ?_, fun p hp => by simpa using List.all_eq_true.mp j1 p hp, fs, fun x i h hd => ?_⟩
  · have := List.all_eq_true.mp nf x hx
    simpa using this
  · obtain ⟨d, hd⟩ := hd
    have no : ∀ g, T.kds.lookup x = some g → kcB T (x, g) = true := fun g hg => List.all_eq_true.mp kc _ (lookup_mem' hg)
    rcases h with h | h | h
    · exact h
    · have := no _ h
      simp [kcB, hd] at this
    · have := no _ h
      simp [kcB, hd] at this
theorem nm_inj {T : Tb} (o : TOk T) : ∀ f g, T.nm f = T.nm g → f = g := by
  intro f g h
  unfold Tb.nm at h
  have fb : ∀ i, (nmF i).cps[0]? = some 1 := fun i => by simp [nmF]
  cases e1 : T.names[f]? with
  | some x =>
    cases e2 : T.names[g]? with
    | some y =>
      rw [e1, e2] at h
      have hxy : x = y := h
      subst hxy
      exact nodup_ix o.nd e1 e2
    | none =>
      rw [e1, e2] at h
      have hx : x = nmF g := h
      exact absurd (show x.cps[0]? = some 1 by rw [hx]; exact fb g) (o.nf x (List.mem_of_getElem? e1))
  | none =>
    cases e2 : T.names[g]? with
    | some y =>
      rw [e1, e2] at h
      have hy : nmF f = y := h
      exact absurd (show y.cps[0]? = some 1 by rw [← hy]; exact fb f) (o.nf y (List.mem_of_getElem? e2))
    | none =>
      rw [e1, e2] at h
      have hy : nmF f = nmF g := h
      have := congrArg (fun s : Str => s.cps.size) hy
      simpa [nmF] using this
def fdOf (K : PySem.W.Frag) (a : Addr) : FuncData := match K.lookup a with
  | some ⟨_, _, .func fd, _⟩ => fd
  | _ => default
def Tb.psT (T : Tb) (i : Nat) : List Str := ((T.fns.lookup i).map (·.ps)).getD []
/-- a def as the head tells it -/
theorem funD_of {T : Tb} {K : PySem.W.Frag} {i : Nat} {e : EnF} (hl : T.fns.lookup i = some e) (hv : fnWa K (T.ad K i) = e.val) (ok : okF T K i e = true) : FunD K e.name e.qual e.params e.body e.scope ((T.L K).dv i) [] (T.ad K i) (fdOf K (T.ad K i)) := by
  obtain ⟨kp, ok⟩ := band ok
  obtain ⟨c2, _⟩ := band ok
  unfold fnWa at hv
  unfold fdOf
  cases q : K.lookup (T.ad K i) with
  | none => rw [q] at c2; cases c2
  | some o =>
    obtain ⟨oc, od, dt, osl⟩ := o
    rw [q] at c2 hv
    cases dt with
    | func fd =>
      obtain ⟨n1, n2, n3, n4, n5, n6, n7, n8, n9, n10, n11, n12, n13, n14, n15⟩ := fd
      have e2 : (some (n1, n2, n3, n4, n5, n6, n7, n15) : He.FnW) = some (e.name, e.qual, e.params, .stmts e.body, e.scope, mainGlobals, [], builtinsNs) := hv
      simp only [Option.some.injEq, Prod.mk.injEq] at e2
      obtain ⟨h1, h2, h3, h4, h5, h6, h7, h8⟩ := e2
      subst h1 h2 h3 h4 h5 h6 h7 h8
      obtain ⟨k1, k2⟩ := band c2
      exact ⟨⟨oc, od, n8, n9, n10, n11, n12, n13, n14, osl, rfl, q, k1, He.dflB_ok k2, .inl rfl⟩, kp⟩
    | _ => cases c2
end EV

set_option Elab.async false
set_option linter.all false
set_option maxRecDepth 100000
set_option maxHeartbeats 4000000
/-! ### the link facts, out of what is looked at -/
namespace EV
open PySem L2
theorem eqO' {a b : Option (Option Value)} (h : He.eqO a b = true) : a = b := He.eqO_ok h
section
variable {T : Tb} {K : PySem.W.Frag} {mg : Str → Option Value} {h : Heap}
theorem ad_cls {C : Nat} {c : EnC} (ok : okT T K = true) (hl : T.cls.lookup C = some c) : T.ad K C = He.ga K c.x ∧ okC T K c = true := by
  obtain ⟨_, ok⟩ := band ok
  obtain ⟨ok, _⟩ := band ok
  have := List.all_eq_true.mp ok _ (lookup_mem' hl)
  obtain ⟨h1, h2⟩ := band this
  exact ⟨of_decide_eq_true h1, h2⟩
theorem okC_cls {c : EnC} (h : okC T K c = true) : Cls K (He.ga K c.x) := by
  obtain ⟨h, _⟩ := band h
  obtain ⟨h1, h⟩ := band h
  obtain ⟨h2, h⟩ := band h
  obtain ⟨h3, h4⟩ := band h
  exact ⟨h1, h2, h3, eqO' h4⟩
theorem p_cl {C : Nat} {c : Cl} (h : T.P.cl C = some c) : ∃ e, T.cls.lookup C = some e ∧ e.cl = c := by
  unfold Tb.P at h
  dsimp only at h
  cases e : T.cls.lookup C with
  | none => rw [e] at h; cases h
  | some x => rw [e] at h; cases h; exact ⟨x, rfl, rfl⟩
theorem at_mem {C f : Nat} {a : At} (h : lookupAt C f T.P = some a) : ∃ e, T.cls.lookup C = some e ∧ (f, a) ∈ e.cl.attrs := by
  unfold lookupAt at h
  cases q : T.P.cl C with
  | none => rw [q] at h; cases h
  | some c =>
    rw [q] at h
    obtain ⟨e, h1, h2⟩ := p_cl q
    subst h2
    exact ⟨e, h1, lookup_mem' h⟩
theorem okC_at {c : EnC} (h : okC T K c = true) {f : Nat} {a : At} (hm : (f, a) ∈ c.cl.attrs) : okAt T K (He.ga K c.x) (f, a) = true := by
  exact List.all_eq_true.mp (band (band (band (band h).2).1).2).1 _ hm
theorem okC_o {c : EnC} (h : okC T K c = true) : okO K (He.ga K c.x) = true := by
  exact (band (band h).2).2
theorem p_fn {f : Nat} {F : Fn} (h : T.P.fn f = some F) : ∃ e, T.fns.lookup f = some e ∧ e.fn = F := by
  unfold Tb.P at h
  dsimp only at h
  cases e : T.fns.lookup f with
  | none => rw [e] at h; cases h
  | some x => rw [e] at h; cases h; exact ⟨x, rfl, rfl⟩
theorem gx_of (X : K.In h) (G : h.Ns mainGlobals mg) (o : TOk T) (ok : okT T K = true) (hv : ∀ p ∈ T.fns, fnWa K (T.ad K p.1) = p.2.val) :
    GX K mg (T.L K) T.P T.kd T.att (fun i => fdOf K (T.ad K i)) T.psT := by
  have ok0 := ok
  obtain ⟨okf, ok⟩ := band ok
  obtain ⟨okc, ok⟩ := band ok
  obtain ⟨okk, ok⟩ := band ok
  obtain ⟨oki, ok⟩ := band ok
  obtain ⟨okr, oke⟩ := band ok
  have kk : ∀ {x g}, T.kd x = some g → okK T K (x, g) = true := fun hx => List.all_eq_true.mp okk _ (lookup_mem' hx)
  have ii : ∀ {t c b}, T.P.isa t c = some b → okI T K ((t, c), b) = true := fun hx => List.all_eq_true.mp oki _ (lookup_mem' (show T.isas.lookup _ = _ from hx))
  have fnE : ∀ f F, T.P.fn f = some F → ∃ (oc : Value) (od : Option Addr) (fd : FuncData) (sl : Array (Option Value)), K.lookup (T.ad K f) = some ⟨oc, od, .func fd, sl⟩ := fun f F hF => by
    obtain ⟨x, hx, _⟩ := p_fn hF
    have := (band (band (List.all_eq_true.mp okf _ (lookup_mem' hx))).2).1
    dsimp only at this
    split at this
    · rename_i oc od fd sl e; exact ⟨oc, od, fd, sl, e⟩
    · cases this
  refine ⟨rfl, fun t c b hb H x => ?_, fun C c b hb H a dx fs ha => ?_, fun f F hF => ?_, fun x i hk d hd => ?_, fun x t hk => ?_, fun x f hk => ?_, fun x i hk => ?_, fun x i hk => ?_, fun _ => PySem.W.mg_none_of X G (eqO' okr), fun _ => PySem.W.mg_none_of X G (eqO' oke), fun f i hi => ?_, ?_, ?_, ?_, ?_, fun C c hc => ?_, fun C f hf => ?_, fun C m f hl => ?_, fun C f d hl => ?_, nm_inj o, fun C f a b hc => ?_, fun C f g hl => ?_, fun C k hk => ?_⟩
  · have := of_decide_eq_true (band (ii hb)).1
    cases t <;> cases c <;> exact this
  · obtain ⟨_, h2⟩ := band (ii hb)
    obtain ⟨h3, h2⟩ := band h2
    obtain ⟨h4, h2⟩ := band h2
    obtain ⟨h5, h2⟩ := band h2
    obtain ⟨h6, h7⟩ := band h2
    obtain ⟨e, he⟩ := Option.isSome_iff_exists.mp h3
    obtain ⟨e1, e2⟩ := ad_cls ok0 he
    exact .ins ha (by show Cls K (T.ad K C); rw [e1]; exact okC_cls e2) (eqO' h4) (eqO' h5) (of_decide_eq_true h6) (of_decide_eq_true h7)
  · unfold Tb.P at hF
    dsimp only at hF
    cases e : T.fns.lookup f with
    | none => rw [e] at hF; cases hF
    | some x =>
      rw [e] at hF; cases hF
      have hm := lookup_mem' e
      have okx := List.all_eq_true.mp okf _ hm
      have hfd := funD_of e (hv _ hm) okx
      have eps : T.psT f = x.ps := by unfold Tb.psT; rw [e]; rfl
      obtain ⟨s1, s2, s3, s4, s5⟩ := o.fs _ hm
      rw [eps]
      have hdl : ((T.L K).dv f).length = x.fn.dfl.length := by
        have r := rvsB_ok (H := fun _ => none) (m := fun _ => False) _ _ (band (band okx).2).2
        exact r.length.symm
      refine ⟨fun H m => rvsB_ok _ _ (band (band okx).2).2, ⟨_, _, _, _, _, _, hfd, s1, s2, s4⟩, s3, fun hs => ?_, fun hs => ?_⟩
      · rcases s5 with ⟨_, s5⟩ | ⟨z, _⟩
        · exact s5 K _ _ _ hfd hdl
        · rw [hs] at z; cases z
      · rcases s5 with ⟨z, _⟩ | ⟨_, hd0, qs, pv, e1, s5⟩
        · rw [hs] at z; cases z
        · refine ⟨qs, pv, e1, ?_⟩
          obtain ⟨oc, od, dV, kV, doc, pm, an, cdv, ct, osl, efd, _, _, hD, _⟩ := hfd.ex
          rw [efd]
          rcases hD with ⟨_, rfl⟩ | ⟨e, _⟩
          · exact s5 kV doc pm an cdv ct
          · rw [hd0] at hdl
            exact absurd (List.length_eq_zero_iff.mp hdl) e
  · have hd' : (∃ q, T.cons.lookup i = some q ∧ q.2 = d) ∨ (T.cons.lookup i = none ∧ d = .gl i) := by
      have hd2 : T.con i = some d := hd
      unfold Tb.con at hd2
      cases e : T.cons.lookup i with
      | none =>
        rw [e] at hd2
        dsimp only at hd2
        split at hd2
        · cases hd2; exact .inr ⟨rfl, rfl⟩
        · cases hd2
      | some q => rw [e] at hd2; cases hd2; exact .inl ⟨q, rfl, rfl⟩
    rcases hd' with hd' | ⟨hno, e⟩
    rotate_left
    · subst e
      rcases hk with hk | hk | hk
      · have := kk hk
        unfold okK at this
        dsimp only at this
        rw [hno] at this
        cases e1 : PySem.W.nsIn K mainGlobals x with
        | none => rw [e1] at this; cases this
        | some r => cases r <;> (rw [e1] at this; cases this)
      · obtain ⟨h1, h2⟩ := band (kk hk)
        exact ⟨.ref (T.ad K i), _, PySem.W.mg_of X G (eqO' h1), rfl, fun H m => by simp only [RV]; rfl⟩
      · obtain ⟨h1, h2⟩ := band (kk hk)
        exact ⟨.ref (T.ad K i), _, PySem.W.mg_of X G (eqO' h1), rfl, fun H m => by simp only [RV]; rfl⟩
    obtain ⟨q, hq, e⟩ := hd'
    subst e
    have hk' := o.kc x i hk ⟨q, hq⟩
    have := kk hk'
    unfold okK at this
    dsimp only at this
    cases e1 : PySem.W.nsIn K mainGlobals x with
    | none => rw [e1] at this; cases this
    | some r =>
      cases r with
      | none => rw [e1] at this; cases this
      | some u =>
        rw [e1, hq] at this
        obtain ⟨h1, h2⟩ := band this
        exact ⟨vOf u, u, PySem.W.mg_of X G e1, He.relB_ok h1, fun H m => rvB_ok _ _ h2⟩
  · obtain ⟨h1, h2⟩ := band (kk hk)
    obtain ⟨h2, h3⟩ := band h2
    exact ⟨PySem.W.mg_none_of X G (eqO' h1), of_decide_eq_true h2, of_decide_eq_true h3⟩
  · obtain ⟨h1, h2⟩ := band (kk hk)
    exact ⟨of_decide_eq_true h2, PySem.W.mg_none_of X G (eqO' h1)⟩
  · obtain ⟨h1, h2⟩ := band (kk hk)
    exact ⟨PySem.W.mg_of X G (eqO' h1), h2⟩
  · obtain ⟨h1, h2⟩ := band (kk hk)
    exact ⟨PySem.W.mg_of X G (eqO' h1), h2⟩
  · show T.nm i = f
    unfold Tb.nm
    rw [idx_get hi]; rfl
  · intro p hp
    show T.nm p.1 = _
    unfold Tb.nm
    rw [o.j1 p hp]; rfl
  · intro f F hF
    obtain ⟨x, _, _, _, e⟩ := fnE f F hF
    show PySem.W.fnIn K (T.ad K f) = true
    unfold PySem.W.fnIn
    rw [e]
  · intro C hC
    obtain ⟨c, hc⟩ := Option.isSome_iff_exists.mp hC
    obtain ⟨e, h1, h2⟩ := p_cl hc
    obtain ⟨e1, e2⟩ := ad_cls ok0 h1
    show PySem.W.keepIn K (.ref (T.ad K C)) = true
    rw [e1]
    exact (band (band (band (band (okC_o e2)).2).2).2).2
  · intro f F hF
    obtain ⟨x, hx, _⟩ := p_fn hF
    exact (band (List.all_eq_true.mp okf _ (lookup_mem' hx))).1
  · obtain ⟨e, h1, h2⟩ := p_cl hc
    obtain ⟨e1, e2⟩ := ad_cls ok0 h1
    show Cls K (T.ad K C)
    rw [e1]; exact okC_cls e2
  · unfold isFld at hf
    cases q : T.P.cl C with
    | none => rw [q] at hf; cases hf
    | some c =>
      rw [q] at hf
      obtain ⟨e, h1, h2⟩ := p_cl q
      subst h2
      obtain ⟨e1, e2⟩ := ad_cls ok0 h1
      show PySem.W.findIn K (.ref (T.ad K C)) (T.nm f) = some none
      rw [e1]
      have := (band (band (band e2).2).1).1
      exact eqO' (List.all_eq_true.mp this f (by simpa using hf))
  · obtain ⟨e, h1, h2⟩ := at_mem hl
    obtain ⟨e1, e2⟩ := ad_cls ok0 h1
    have k1 := okC_at e2 h2
    obtain ⟨k1, k2⟩ := band k1
    obtain ⟨k2, k3⟩ := band k2
    exact ⟨by show PySem.W.findIn K (.ref (T.ad K C)) (T.nm m) = _; rw [e1]; exact eqO' k1, k2, k3⟩
  · obtain ⟨e, h1, h2⟩ := at_mem hl
    obtain ⟨e1, e2⟩ := ad_cls ok0 h1
    have k1 := okC_at e2 h2
    unfold okAt at k1
    dsimp only at k1
    cases q : PySem.W.findIn K (.ref (He.ga K e.x)) (T.nm f) with
    | none => rw [q] at k1; cases k1
    | some r =>
      cases r with
      | none => rw [q] at k1; cases k1
      | some u =>
        rw [q] at k1
        obtain ⟨k1, k2⟩ := band k1
        obtain ⟨k2, k3⟩ := band k2
        obtain ⟨k3, k4⟩ := band k3
        exact ⟨vOf u, u, ⟨by show PySem.W.findIn K (.ref (T.ad K C)) (T.nm f) = _; rw [e1]; exact q, He.relB_ok k1, eqO' k2, by show PySem.W.copiedNames.contains (T.nm f) = false; simpa using k3⟩, fun H m => rvB_ok _ _ k4⟩
  · obtain ⟨e, h1, h2⟩ := p_cl hc
    obtain ⟨e1, e2⟩ := ad_cls ok0 h1
    have := (band (band (band (band e2).2).1).2).2
    rw [h2] at this
    obtain ⟨k1, k2⟩ := band this
    obtain ⟨k2, k3⟩ := band k2
    obtain ⟨k3, k4⟩ := band k3
    show Mk K (T.ad K C) (T.ad K f)
    rw [e1]
    exact ⟨k1, eqO' k2, k3, k4⟩
  · obtain ⟨e, h1, h2⟩ := at_mem hl
    obtain ⟨e1, e2⟩ := ad_cls ok0 h1
    have k1 := okC_at e2 h2
    unfold okAt at k1
    dsimp only at k1
    cases q : PySem.W.findIn K (.ref (He.ga K e.x)) (T.nm f) with
    | none => rw [q] at k1; cases k1
    | some r =>
      cases r with
      | none => rw [q] at k1; cases k1
      | some u =>
        rw [q] at k1
        cases u with
        | ref p =>
          obtain ⟨k1, k2⟩ := band k1
          obtain ⟨k2, k3⟩ := band k2
          refine ⟨p, by show PySem.W.findIn K (.ref (T.ad K C)) (T.nm f) = _; rw [e1]; exact q, eqO' k1, of_decide_eq_true k2, ?_⟩
          cases q2 : PySem.W.recIn K p "property" with
          | none => rw [q2] at k3; cases k3
          | some l =>
            rw [q2] at k3
            match l, k3 with
            | .ref g' :: r, k3 => exact ⟨r, by rw [of_decide_eq_true k3]; rfl⟩
        | _ => cases k1
  · obtain ⟨e, h1, h2⟩ := p_cl hk
    obtain ⟨e1, e2⟩ := ad_cls ok0 h1
    have hO := okC_o e2
    rw [← e1] at hO
    obtain ⟨k1, hO⟩ := band hO
    obtain ⟨k2, hO⟩ := band hO
    obtain ⟨k3, hO⟩ := band hO
    exact ⟨eqO' k1, of_decide_eq_true k2, k3, eqO' (band hO).1⟩
end
end EV

set_option Elab.async false
set_option linter.all false
set_option maxRecDepth 100000
set_option maxHeartbeats 4000000
/-! ### the Hook, the law's end -/
namespace EV
open PySem L2 PySem.Spec PyProof.Rows
/-- the top's objects, without its lists -/
def noLst : Addr × Obj → Bool
  | (_, ⟨.type c, _, _, _⟩) => !decide (c = "list")
  | _ => true
def frN (g : Addr → Option Obj) (as : List Addr) : PySem.W.Frag := (He.frG g as).filter noLst
theorem frN_mem {g : Addr → Option Obj} {as : List Addr} {a : Addr} {o : Obj} (h : (frN g as).lookup a = some o) : g a = some o ∧ noLst (a, o) = true := by
  have h1 := lookup_mem' h
  obtain ⟨h2, h3⟩ := List.mem_filter.mp h1
  refine ⟨?_, h3⟩
  obtain ⟨b, hb, e⟩ := List.mem_filterMap.mp h2
  cases q : g b with
  | none => rw [q] at e; cases e
  | some o' => rw [q] at e; cases e; exact q
theorem frN_in {h : Heap} {as : List Addr} : (frN h.get? as).In h := fun _ _ e => (frN_mem e).1
def kE (n : Nat) (g : Addr → Option Obj) : PySem.W.Frag := frN g (He.asD g n)
def obsE (T : Tb) (n : Nat) (g : Addr → Option Obj) : Bool × List He.FnW := (okT T (kE n g), T.fns.map fun p => fnWa (kE n g) (T.ad (kE n g) p.1))
def valE (T : Tb) : Bool × List He.FnW := (true, T.fns.map fun p => p.2.val)
structure SaysE (T : Tb) (h : Heap) (K : PySem.W.Frag) : Prop where
  kin : K.In h
  nol : ∀ a o, K.lookup a = some o → o.cls ≠ .type "list"
  ok : okT T K = true
  fn : ∀ p ∈ T.fns, fnWa K (T.ad K p.1) = p.2.val
theorem noLst_ok {a : Addr} {o : Obj} (h : noLst (a, o) = true) : o.cls ≠ .type "list" := by
  intro e
  obtain ⟨c, d, dt, sl⟩ := o
  dsimp only at e
  subst e
  simp [noLst] at h
theorem map_eq {α β : Type} {f g : α → β} : ∀ {l : List α}, l.map f = l.map g → ∀ p ∈ l, f p = g p
  | [], _, p, hp => by cases hp
  | a :: l, h, p, hp => by
    rw [List.map_cons, List.map_cons, List.cons.injEq] at h
    rcases List.mem_cons.mp hp with e | e
    · rw [e]; exact h.1
    · exact map_eq h.2 p e
def hookE (T : Tb) (n : Nat) : PySem.W.Hook where
  α := Bool × List He.FnW
  obs := fun s => obsE T n s.heap.get?
  val := fun _ => valE T
  says := fun _ h => ∃ K, SaysE T h K
  of := fun _ _ e => ⟨_, frN_in, fun a o e => noLst_ok (frN_mem e).2, congrArg (fun z : Bool × List He.FnW => z.1) e, map_eq (congrArg (fun z : Bool × List He.FnW => z.2) e)⟩
  keeps := fun _ _ _ ⟨K, c⟩ k => ⟨K, PySem.W.Frag.In.keeps c.kin k, c.nol, c.ok, c.fn⟩
theorem obsE_eq {T : Tb} {n : Nat} {g : Addr → Option Obj} {s : Shared} (h : ∀ a, g a = s.heap.get? a) : obsE T n g = (hookE T n).obs s := by
  have e : g = s.heap.get? := funext h
  rw [e]
  rfl
/-- what the law's script is -/
theorem rel_script {L : Lk} {H : Hp} {a : Addr} {ns : List Int} (hS : Rd H a (.lst (ns.map V.int))) : Rel L (fun _ => False) H [Sl.val (.lst (ns.map D.int))] [some (V.ref a)] := by
  have rvs : ∀ ns : List Int, RVs L H (fun _ => False) (ns.map D.int) (ns.map V.int) := fun ns => by
    induction ns with
    | nil => exact .nil
    | cons n ns ih => exact .cons (by simp only [RV]) ih
  refine ⟨fun _ z => z.elim, rfl, fun i d h => ?_, fun i io lk d h => ?_, fun i j io lk io' lk' d e a h _ _ _ => ?_⟩
  · cases i with
    | zero =>
      simp at h; subst h
      exact ⟨_, rfl, by simp only [RV]; exact ⟨a, _, rfl, ⟨fun z => z, hS⟩, rvs ns⟩⟩
    | succ i => simp at h
  · cases i with
    | zero => simp at h
    | succ i => simp at h
  · cases i with
    | zero => simp at h
    | succ i => simp at h
/-- the law's call at the end, where the script is a list that no one else holds -/
theorem law_end {P : Program} {w : World} {K : PySem.W.Frag} {mg mb : Str → Option Value} {k : Nat} {fa a : Addr} {sp : Sp} {t : Shared} {vs : List Value} {ns : List Int} (hK : K.In t.heap) (hG : t.heap.Ns mainGlobals mg) (hB : t.heap.Ns builtinsNs mb) (hb : ∀ x : Str, x ≠ "__name__" → mb x = bootBuiltins x) (hN : t.heap.NoLimit) (h0 : t.gens = #[])
    (hs : t.heap.get? a = some { cls := .type "list", data := .seq vs.toArray }) (hi : IntsAre vs ns) (hn : ns.length ≤ sizeLine) (hr : Room k callerA) (ka : K.lookup a = none) (F : ∀ base : Heap, FnE P w K mg base k fa sp)
    (main : ∀ H : Hp, Rd H a (.lst (ns.map V.int)) → sp [.ref a] H (fun v _ => v = .bl true) fun _ _ _ => False) :
    codeAny (model P w) callerA (.call (.ref fa) ⟨[.ref a], []⟩) (fun z t' => z = .ok (.ret (.bool true)) ∧ OldK t.heap t'.heap ∧ t'.os = t.os ∧ AllBare t'.gens) t := by
  let o0 : Obj := { cls := .type "list", data := .seq vs.toArray }
  let H : Hp := fun b => if b = a then some (.frz o0 (.lst (ns.map V.int))) else none
  have Ha : H a = some (.frz o0 (.lst (ns.map V.int))) := if_pos rfl
  have Hn : ∀ {b}, b ≠ a → H b = none := fun h => if_neg h
  have good : HOk P w H t.heap := fun b u z => by
    by_cases e : b = a
    · subst e
      rw [Ha] at z; cases z
      exact ⟨hs, by simpa using hn, vs, _, vals_ints hi, hs⟩
    · rw [Hn e] at z; cases z
  -- what is no list is not the script
  have other : ∀ {b : Addr} {o : Obj}, t.heap.get? b = some o → (∀ es ep, o.data ≠ .seq es ep) → (hidT t.heap H).get? b = some o := fun {b o} e d => by
    refine hidT_get e (Hn fun z => ?_)
    subst z
    rw [hs] at e; cases e
    exact d _ _ rfl
  have ns' : ∀ {b : Addr} {m : Str → Option Value}, t.heap.Ns b m → (hidT t.heap H).Ns b m := fun ⟨o, es, ep, e, d, r⟩ => ⟨o, es, ep, other e (by rw [d]; intro _ _ z; cases z), d, r⟩
  have kb : K.In (hidT t.heap H) := fun b o e => hidT_get (hK b o e) (Hn fun z => by subst z; rw [ka] at e; cases e)
  obtain ⟨mc, l1, l2⟩ := hN
  have env : Env0 P w K mg (hidT t.heap H) callerA [] t H := by
    refine ⟨rfl, ⟨kb, ns' hG, ⟨mb, ns' hB, hb⟩, mc, ns' l1, l2⟩, fun b o e => of_hidT e, Nat.le_of_eq (hidT_size _ _), trivial, fun b z => ?_, good, .of_eq h0⟩
    cases (show b ∈ ([] : List Addr) from z)
  refine codeAny_mono (F _ callerA [] t H [.ref a] [.ref a] _ _ hr rfl env (.cons rfl .nil) (main H (.inr ⟨o0, Ha⟩))) fun z t' q => ?_
  match z, q with
  | .error e, q => obtain ⟨_, _, _, _, _, _, _, _, _, _, _, _, z⟩ := q; exact z.elim
  | .ok .next, q => exact q.elim
  | .ok .brk, q => exact q.elim
  | .ok .cont, q => exact q.elim
  | .ok (.ret u), q =>
    obtain ⟨v, H', e1, e2, un, ok2, rv, ev⟩ := q
    subst ev
    cases (show u = Value.bool true from rv)
    refine ⟨rfl, OldK.of_keep fun b o e => ?_, e1, e2⟩
    by_cases eb : b = a
    · subst eb
      have k1 := (good b _ Ha).1
      rw [e] at k1; cases k1
      exact (ok2 b _ (un.frzs b o0 _ Ha)).1
    · exact un.keep b o e (Hn eb) (fun z => by cases (show b ∈ ([] : List Addr) from z)) (by simp)
/-- the law: its def's number i in the tables; what is left is that the evaluator says True -/
theorem walkE {l : PySem.W.OpenLaw} {T : Tb} {n k nh i : Nat} {q : Program} {loose : List Str} {XP : (Str → Option Value) → Heap → Prop} {d : DefRec} {x : Str} {e : EnF}
    (hn : l.most = some n) (hn2 : n ≤ sizeLine) (hdf : d.params.defaults = []) (hr : Room k callerA) (o : TOk T) (hl : T.fns.lookup i = some e) (hpa : e.pa = .glo d.name) (hps : e.ps = [x]) (hnd : e.fn.dfl = []) (hst0 : e.fn.star = false) (hkd : T.kds.lookup d.name = some (.fn i))
    (main : ∀ ns : List Int, ns.length ≤ n → ∃ σ, callN T.P k i [.val (.lst (ns.map D.int))] = .ok (.val (.bl true)) σ) :
    PySem.W.WalkO q loose XP (hookE T nh).says l.row.toRowW d [] (fun f vs => PySem.call f vs) := by
  refine Att.attach_call hn hdf fun w s0 s1 mg mb fa ob pm cd doc a vs ns G Y ho hd hcd hmg hobj hints hlen hg => ?_
  obtain ⟨K, c⟩ := Y
  have gx := gx_of c.kin G.T.g o c.ok c.fn
  have hm := lookup_mem' hl
  have okx := List.all_eq_true.mp (band c.ok).1 _ hm
  have hF : T.P.fn i = some e.fn := by show (T.fns.lookup i).map _ = _; rw [hl]; rfl
  have eq : (T.L K).dv i = [] := by
    have := (band (band okx).2).2
    rw [hnd] at this
    cases z : (T.L K).dv i with
    | nil => rfl
    | cons v vs => rw [z] at this; simp [rvsB] at this
  have efa : fa = T.ad K i := by
    have := (gx.fn d.name i hkd).1
    rw [hmg] at this
    cases this; rfl
  subst efa
  have hfd := funD_of hl (c.fn _ hm) okx
  rw [eq] at hfd
  have eps : T.psT i = [x] := by unfold Tb.psT; rw [hl]; exact hps
  have ka : K.lookup a = none := by
    cases z : K.lookup a with
    | none => rfl
    | some o =>
      have e := c.kin a o z
      rw [hobj] at e; cases e
      exact (c.nol _ _ z rfl).elim
  refine law_end (sp := fun vs H Q E => spC (T.L K) (callN T.P k) i e.fn E vs H Q) c.kin G.T.g G.T.b G.T.builtins G.T.nolimit hg hobj hints (Nat.le_trans hlen hn2) hr ka (fun base => fn_all (prog := l.prog) (w := w) (base := base) gx k i e.fn hF) fun H hS => ?_
  obtain ⟨σ, hm⟩ := main ns hlen
  have hnp : e.fn.np = 1 := by
    have := (o.fs _ (lookup_mem' hl)).np
    rw [← this, hps]; rfl
  have hst : e.fn.star = false := hst0
  refine .inl ⟨hst, by rw [hnp]; exact Nat.le_refl _, by rw [hnp]; exact Nat.zero_le _, fun _ => False, [.val (.lst (ns.map D.int))], ?_, ?_⟩
  · unfold dvAt
    rw [eq, List.drop_nil]
    exact rel_script hS
  · rw [hm]
    intro m' H' v s' t
    have : RV (T.L K) H' m' (.bl true) v := t
    simpa only [RV] using this
end EV

set_option Elab.async false
set_option linter.all false
set_option maxRecDepth 100000
set_option maxHeartbeats 4000000
namespace EV
open PySem L2
/-- (t: only that no rewriting goes into Q and X) -/
abbrev Tag {α : Type} (Q : α → List Sl → Prop) (X : Ex → List Sl → Prop) : Type := Unit
def wp {α : Type} (m : M α) (σ : List Sl) (Q : α → List Sl → Prop) (X : Ex → List Sl → Prop) (t : Tag Q X := Unit.unit) : Prop := match m σ with
  | .ok a σ' => Q a σ'
  | .exc x σ' => X x σ'
  | .fail => False
def wpc (r : Res R) (Q : R → List Sl → Prop) (X : Ex → List Sl → Prop) : Prop := match r with
  | .ok a σ' => Q a σ'
  | .exc x σ' => X x σ'
  | .fail => False
def noBor : R → Prop
  | .bor _ => False
  | _ => True
/-- what is to hold behind a part, by kinds of its worth -/
def seqK (r : M Fl) (S' : Fl → List Sl → Prop) (X : Ex → List Sl → Prop) : Fl → List Sl → Prop
  | .next, σ => wp r σ S' X
  | fl, σ => S' fl σ
def fnK (as : List Sl) (Q : R → List Sl → Prop) : Fl → List Sl → Prop
  | .ret r, σ => noBor r ∧ Q r (ioF as σ)
  | .next, σ => Q (.val .non) (ioF as σ)
  | _, _ => False
def turnK (I : List Sl → Prop) (S' : Fl → List Sl → Prop) : Fl → List Sl → Prop
  | .next, σ => I σ
  | .cont, σ => I σ
  | .brk, σ => S' .next σ
  | .ret r, σ => S' (.ret r) σ
def lcK (I : List D → List Sl → Prop) (acc : List D) : Option D → List Sl → Prop
  | some e, σ => acc.length < lim ∧ I (acc ++ [e]) σ
  | none, σ => I acc σ
def putOk : Sl → Bool
  | .own true _ _ => false
  | .own _ true _ => false
  | _ => true
def intK (Q : Int → List Sl → Prop) : D → List Sl → Prop
  | .int i, σ => Q i σ
  | _, _ => False
def strK (Q : Str → List Sl → Prop) : D → List Sl → Prop
  | .str i, σ => Q i σ
  | _, _ => False
def pairK (Q : D → D → List Sl → Prop) : D → List Sl → Prop
  | .tup [x, y], σ => Q x y σ
  | _, _ => False
def blK (B : Bool → List Sl → Prop) : R → List Sl → Prop
  | .val (.bl k), σ => B k σ
  | _, _ => False
section
variable {α β : Type} {P : Prog} {O : Oc} {σ σ' : List Sl} {X : Ex → List Sl → Prop}
theorem wp_bnd {m : M α} {f : α → M β} {Q : β → List Sl → Prop} (h : wp m σ (fun a σ' => wp (f a) σ' Q X) X) : wp (bnd m f) σ Q X := by
  unfold wp bnd at *
  cases e : m σ <;> rw [e] at h <;> exact h
theorem wp_ofO {o : Option α} {a : α} {Q : α → List Sl → Prop} (e : o = some a) (h : Q a σ) : wp (ofO o) σ Q X := by subst e; exact h
theorem wp_mono {m : M α} {Q Q' : α → List Sl → Prop} {X X' : Ex → List Sl → Prop} (h : wp m σ Q X) (k : ∀ a σ', Q a σ' → Q' a σ') (kx : ∀ a σ', X a σ' → X' a σ') : wp m σ Q' X' := by
  unfold wp at *
  cases e : m σ <;> rw [e] at h
  · exact k _ _ h
  · exact kx _ _ h
  · exact h
variable {Q : R → List Sl → Prop}
variable {B : Bool → List Sl → Prop}
theorem wp_F {m n : M α} {Q : α → List Sl → Prop} {k : Bool} (e : k = false) (h : wp n σ Q X) : wp (if k = true then m else n) σ Q X := by subst e; exact h
variable {S' : Fl → List Sl → Prop}
def whlK (I : List Sl → Prop) (S' : Fl → List Sl → Prop) : Option Fl → List Sl → Prop
  | some fl, σ => turnK I S' fl σ
  | none, σ => S' .next σ
theorem wp_forL {f : D → M Fl} (I : List D → List Sl → Prop) (turn : ∀ d ds σ, I (d :: ds) σ → wp (f d) σ (turnK (I ds) S') X) (stop : ∀ σ, I [] σ → S' .next σ) : ∀ (ds : List D) (σ : List Sl), I ds σ → wp (forL f ds) σ S' X
  | [], σ, h => stop σ h
  | d :: ds, σ, h => by
    simp only [forL]
    refine wp_bnd (wp_mono (turn d ds σ h) (fun fl s h => ?_) fun _ _ h => h)
    cases fl with
    | next => exact wp_forL I turn stop ds s h
    | cont => exact wp_forL I turn stop ds s h
    | brk => exact h
    | ret r => exact h
/-- a comprehension; I: what is left, what is made, the slots -/
theorem wp_lcL {f : D → M (Option D)} {Q : List D → List Sl → Prop} (I : List D → List D → List Sl → Prop) (turn : ∀ d ds acc σ, I (d :: ds) acc σ → wp (f d) σ (lcK (I ds) acc) X) (stop : ∀ acc σ, I [] acc σ → Q acc σ) : ∀ (ds acc : List D) (σ : List Sl), I ds acc σ → wp (lcL f ds acc) σ Q X
  | [], acc, σ, h => stop acc σ h
  | d :: ds, acc, σ, h => by
    simp only [lcL]
    refine wp_bnd (wp_mono (turn d ds acc σ h) (fun o s h => ?_) fun _ _ h => h)
    cases o with
    | none => exact wp_lcL I turn stop ds acc s h
    | some e => dsimp only; rw [if_pos h.1]; exact wp_lcL I turn stop ds _ s h.2
def lcF (P : Prog) (O : Oc) (e : E) (t : Tg) (ws : List Nat) (p : E) (d : D) : M (Option D) := fun σ' => (bnd (asg t d) fun _ => bnd (evT P O p) fun k => if k then bnd (ev P O e) fun r => bnd (frz r) fun x => ret (some x) else ret none) (wipeL ws σ')
theorem wp_callF {c : CallT} {f : Nat} {F : Fn} {rs : List R} {as ps : List Sl} (hF : P.fn f = some F) (ha : toSls σ rs = some as) (hn : (bors rs).Nodup) (hp : params F as = some ps)
    (h : wpc (c f ps) (fun r ps' => noBor r ∧ Q r (back rs ps' σ)) (fun x ps' => X x (back rs ps' σ))) (hst : F.star = false := by rfl) : wp (callF P c f rs) σ Q X := by
  unfold wp callF
  rw [hF]
  dsimp only
  rw [hst]
  simp only [Bool.false_eq_true, if_false, callP]
  rw [ha]
  dsimp only
  rw [if_pos hn, hp]
  dsimp only
  unfold wpc at h
  split at h
  · rename_i r ps' e
    rw [e]
    cases r with
    | bor i => exact h.1.elim
    | val d => exact h.2
    | tmp d => exact h.2
  · rename_i x ps' e
    rw [e]; exact h
  · exact h.elim
/-- a def's body -/
theorem wpc_fn {k f : Nat} {F : Fn} {as : List Sl} (hF : P.fn f = some F) (h1 : as.length = F.np) (h2 : F.np ≤ F.ns) (h3 : as.all isIo = true) (e : as ++ List.replicate (F.ns - F.np) Sl.un = σ')
    (h : wp (ex P ⟨callN P (k + 1), callN P k⟩ F.body) σ' (fnK as Q) (fun x σ1 => X x (ioF as σ1))) : wpc (callN P (k + 2) f as) Q X := by
  subst e
  unfold wpc
  simp only [callN]
  rw [hF]
  dsimp only
  rw [if_pos ⟨h1, h2, h3⟩]
  unfold wp at h
  split at h
  · rename_i fl σ1 e
    rw [e]
    cases fl with
    | next => exact h
    | brk => exact h.elim
    | cont => exact h.elim
    | ret r =>
      cases r with
      | bor i => exact h.1.elim
      | val d => exact h.2
      | tmp d => exact h.2
  · rename_i x σ1 e
    rw [e]; exact h
  · exact h.elim
theorem eqD_int (i j : Int) : eqD (.int i) (.int j) = some (decide (i = j)) := by
  show (if SeqAt.shaped (.int i) && SeqAt.shaped (.int j) then some (PyData.eqv (.int i) (.int j)) else none) = _
  have e : SeqAt.shaped (.int i) = true := rfl
  have e2 : SeqAt.shaped (.int j) = true := rfl
  rw [e, e2]
  simp only [Bool.and_self, if_true, PyData.eqv]
  congr 1
end
end EV

set_option Elab.async false
set_option linter.all false
set_option maxRecDepth 100000
set_option maxHeartbeats 4000000
/-! ### the same rules as equations, for simp -/
namespace EV
open PySem L2
/-- slot i is looked at -/
def bK (i : Nat) (Q : R → List Sl → Prop) (σ0 : List Sl) : List Sl → Nat → Prop
  | .val d :: _, 0 => Q (.val d) σ0
  | .own _ _ _ :: _, 0 => Q (.bor i) σ0
  | _ :: σ, n + 1 => bK i Q σ0 σ n
  | _, _ => False
/-- slot i's data, let go -/
def vK (Q : D → List Sl → Prop) (c : List Sl → List Sl) : List Sl → Nat → Prop
  | .val d :: σ, 0 => Q d (c (.val d :: σ))
  | .own false false d :: σ, 0 => Q d (c (.val d :: σ))
  | s :: σ, n + 1 => vK Q (fun τ => c (s :: τ)) σ n
  | _, _ => False
/-- slot i's data, read -/
def dK (Q : D → List Sl → Prop) (σ0 : List Sl) : List Sl → Nat → Prop
  | .val d :: _, 0 => Q d σ0
  | .own _ _ d :: _, 0 => Q d σ0
  | _ :: σ, n + 1 => dK Q σ0 σ n
  | _, _ => False
/-- slot i holds an object of its own -/
def iK (q : Prop) : List Sl → Nat → Prop
  | .own _ _ _ :: _, 0 => q
  | _ :: σ, n + 1 => iK q σ n
  | _, _ => False
/-- a slot that holds nothing of its own: not set, or data -/
def fr : Option D → Sl
  | none => .un
  | some d => .val d
/-- slot i is set -/
def sK (k : List Sl → Prop) (x : Sl) : List Sl → Nat → Prop
  | .val _ :: σ, 0 => k (x :: σ)
  | .un :: σ, 0 => k (x :: σ)
  | .own false false _ :: σ, 0 => k (x :: σ)
  | s :: σ, n + 1 => sK (fun τ => k (s :: τ)) x σ n
  | _, _ => False
/-- the object of slot i is changed -/
def oK (Q : Bool → D → (D → List Sl) → Prop) (c : List Sl → List Sl) : List Sl → Nat → Prop
  | .own io false d :: σ, 0 => Q io d (fun d' => c (.own io false d' :: σ))
  | s :: σ, n + 1 => oK Q (fun τ => c (s :: τ)) σ n
  | _, _ => False
/-- slot i is given back -/
def rK (S' : Fl → List Sl → Prop) (c : List Sl → List Sl) : List Sl → Nat → Prop
  | .val d :: σ, 0 => S' (.ret (.val d)) (c (.val d :: σ))
  | .own false false d :: σ, 0 => S' (.ret (.tmp d)) (c (.un :: σ))
  | s :: σ, n + 1 => rK S' (fun τ => c (s :: τ)) σ n
  | _, _ => False
section
variable {α β : Type} {P : Prog} {O : Oc} {σ σ' σ0 : List Sl} {X : Ex → List Sl → Prop} {Q : R → List Sl → Prop}
/-- the same without the mark (for proofs) -/
def wp0 {α : Type} (m : M α) (σ : List Sl) (Q : α → List Sl → Prop) (X : Ex → List Sl → Prop) : Prop := match m σ with
  | .ok a σ' => Q a σ'
  | .exc x σ' => X x σ'
  | .fail => False
theorem wp_wp0 {m : M α} {Q : α → List Sl → Prop} {t : Tag Q X} : wp m σ Q X t = wp0 m σ Q X := rfl
theorem e0_ret {a : α} {Q : α → List Sl → Prop} : wp0 (ret a) σ Q X = Q a σ := rfl
theorem e0_bnd {m : M α} {f : α → M β} {Q : β → List Sl → Prop} : wp0 (bnd m f) σ Q X = wp0 m σ (fun a σ' => wp0 (f a) σ' Q X) X := by
  unfold wp0 bnd
  cases m σ <;> rfl
theorem e_ret {a : α} {Q : α → List Sl → Prop} : wp (ret a) σ Q X = Q a σ := rfl
theorem e_bnd {m : M α} {f : α → M β} {Q : β → List Sl → Prop} : wp (bnd m f) σ Q X = wp m σ (fun a σ' => wp (f a) σ' Q X) X := by
  unfold wp bnd
  cases m σ <;> rfl
theorem e_some {a : α} {Q : α → List Sl → Prop} : wp (ofO (some a)) σ Q X = Q a σ := rfl
theorem e_none {Q : α → List Sl → Prop} : wp (ofO (none : Option α)) σ Q X = False := rfl
theorem e_ite {p : Prop} [Decidable p] {a : α} {Q : α → List Sl → Prop} : wp (ofO (if p then some a else none)) σ Q X = (p ∧ Q a σ) := by
  by_cases h : p
  · rw [if_pos h, e_some]; simp [h]
  · rw [if_neg h, e_none]; simp [h]
theorem e_ifm {p : Prop} [Decidable p] {m : M α} {Q : α → List Sl → Prop} : wp (if p then m else stuck) σ Q X = (p ∧ wp m σ Q X) := by
  by_cases h : p
  · rw [if_pos h]; simp [h]
  · rw [if_neg h]; simp only [h, false_and]; rfl
theorem e_T {m n : M α} {Q : α → List Sl → Prop} : wp (if true = true then m else n) σ Q X = wp m σ Q X := rfl
theorem e_F {m n : M α} {Q : α → List Sl → Prop} : wp (if false = true then m else n) σ Q X = wp n σ Q X := rfl
theorem e_Tt {m n : M α} {Q : α → List Sl → Prop} : wp (if True then m else n) σ Q X = wp m σ Q X := by rw [if_pos trivial]
theorem e_Ff {m n : M α} {Q : α → List Sl → Prop} : wp (if False then m else n) σ Q X = wp n σ Q X := by rw [if_neg id]
theorem e_ifd {m n : M α} {Q : α → List Sl → Prop} {p : Prop} [Decidable p] : wp (if decide p = true then m else n) σ Q X = ((p → wp m σ Q X) ∧ (¬ p → wp n σ Q X)) := by
  by_cases h : p
  · rw [decide_eq_true h]; simp [h]
  · rw [decide_eq_false h]; simp [h]
theorem e_ifnd {m n : M α} {Q : α → List Sl → Prop} {p : Prop} [Decidable p] : wp (if (!decide p) = true then m else n) σ Q X = ((p → wp n σ Q X) ∧ (¬ p → wp m σ Q X)) := by
  by_cases h : p
  · rw [decide_eq_true h]; simp [h]
  · rw [decide_eq_false h]; simp [h]
/-! slots -/
theorem bK_v {i : Nat} {d : D} : bK i Q σ0 (.val d :: σ) 0 = Q (.val d) σ0 := rfl
theorem bK_o {i : Nat} {io lk : Bool} {d : D} : bK i Q σ0 (.own io lk d :: σ) 0 = Q (.bor i) σ0 := rfl
theorem bK_s {i n : Nat} {s : Sl} : bK i Q σ0 (s :: σ) (n + 1) = bK i Q σ0 σ n := by cases s <;> rfl
theorem bK_eq {i : Nat} : ∀ {σ : List Sl} {n : Nat}, bK i Q σ0 σ n = (match σ[n]? with
    | some (.val d) => Q (.val d) σ0
    | some (.own _ _ _) => Q (.bor i) σ0
    | _ => False)
  | [], n => by cases n <;> rfl
  | .un :: σ, 0 => rfl
  | .val d :: σ, 0 => rfl
  | .own _ _ _ :: σ, 0 => rfl
  | s :: σ, n + 1 => by rw [bK_s, bK_eq]; rfl
section
variable {Q : D → List Sl → Prop} {c : List Sl → List Sl}
theorem vK_v {d : D} : vK Q c (.val d :: σ) 0 = Q d (c (.val d :: σ)) := rfl
theorem vK_o {d : D} : vK Q c (.own false false d :: σ) 0 = Q d (c (.val d :: σ)) := rfl
theorem vK_s {n : Nat} {s : Sl} : vK Q c (s :: σ) (n + 1) = vK Q (fun τ => c (s :: τ)) σ n := by
  rcases s with _ | _ | ⟨io, lk, d⟩
  · rfl
  · rfl
  · cases io <;> cases lk <;> rfl
theorem vK_eq : ∀ {σ : List Sl} {n : Nat} {c : List Sl → List Sl}, vK Q c σ n = (match σ[n]? with
    | some (.val d) => Q d (c σ)
    | some (.own false false d) => Q d (c (σ.set n (.val d)))
    | _ => False)
  | [], n, c => by cases n <;> rfl
  | .un :: σ, 0, c => rfl
  | .val d :: σ, 0, c => rfl
  | .own io lk _ :: σ, 0, c => by cases io <;> cases lk <;> rfl
  | s :: σ, n + 1, c => by rw [vK_s, vK_eq]; rfl
theorem dK_v {d : D} : dK Q σ0 (.val d :: σ) 0 = Q d σ0 := rfl
theorem dK_o {io lk : Bool} {d : D} : dK Q σ0 (.own io lk d :: σ) 0 = Q d σ0 := rfl
theorem dK_s {n : Nat} {s : Sl} : dK Q σ0 (s :: σ) (n + 1) = dK Q σ0 σ n := by cases s <;> rfl
theorem dK_eq : ∀ {σ : List Sl} {n : Nat}, dK Q σ0 σ n = (match σ[n]? with
    | some (.own _ _ d) => Q d σ0
    | some (.val d) => Q d σ0
    | _ => False)
  | [], n => by cases n <;> rfl
  | .un :: σ, 0 => rfl
  | .val d :: σ, 0 => rfl
  | .own _ _ _ :: σ, 0 => rfl
  | s :: σ, n + 1 => by rw [dK_s, dK_eq]; rfl
end
section
variable {k : List Sl → Prop} {x : Sl}
theorem sK_v {d : D} : sK k x (.val d :: σ) 0 = k (x :: σ) := rfl
theorem sK_u : sK k x (.un :: σ) 0 = k (x :: σ) := rfl
theorem sK_o {d : D} : sK k x (.own false false d :: σ) 0 = k (x :: σ) := rfl
theorem sK_s {n : Nat} {s : Sl} : sK k x (s :: σ) (n + 1) = sK (fun τ => k (s :: τ)) x σ n := by
  rcases s with _ | _ | ⟨io, lk, d⟩
  · rfl
  · rfl
  · cases io <;> cases lk <;> rfl
theorem sK_fr {o : Option D} : sK k x (fr o :: σ) 0 = k (x :: σ) := by cases o <;> rfl
theorem sK_eq : ∀ {σ : List Sl} {n : Nat} {k : List Sl → Prop}, sK k x σ n = (match σ[n]? with
    | none => False
    | some s => putOk s = true ∧ k (σ.set n x))
  | [], n, k => by cases n <;> rfl
  | .un :: σ, 0, k => by show k (x :: σ) = (_ ∧ k (x :: σ)); simp [putOk]
  | .val d :: σ, 0, k => by show k (x :: σ) = (_ ∧ k (x :: σ)); simp [putOk]
  | .own io lk d :: σ, 0, k => by
    cases io <;> cases lk
    · show k (x :: σ) = (_ ∧ k (x :: σ)); simp [putOk]
    · show False = (_ ∧ k (x :: σ)); simp [putOk]
    · show False = (_ ∧ k (x :: σ)); simp [putOk]
    · show False = (_ ∧ k (x :: σ)); simp [putOk]
  | s :: σ, n + 1, k => by rw [sK_s, sK_eq]; rfl
end
section
variable {Q : Bool → D → (D → List Sl) → Prop} {c : List Sl → List Sl}
theorem oK_o {io : Bool} {d : D} : oK Q c (.own io false d :: σ) 0 = Q io d (fun d' => c (.own io false d' :: σ)) := rfl
theorem oK_s {n : Nat} {s : Sl} : oK Q c (s :: σ) (n + 1) = oK Q (fun τ => c (s :: τ)) σ n := by
  rcases s with _ | _ | ⟨io, lk, d⟩
  · rfl
  · rfl
  · cases io <;> cases lk <;> rfl
theorem oK_eq : ∀ {σ : List Sl} {n : Nat} {c : List Sl → List Sl}, oK Q c σ n = (match σ[n]? with
    | some (.own io false d) => Q io d (fun d' => c (σ.set n (.own io false d')))
    | _ => False)
  | [], n, c => by cases n <;> rfl
  | .un :: σ, 0, c => rfl
  | .val d :: σ, 0, c => rfl
  | .own io lk _ :: σ, 0, c => by cases io <;> cases lk <;> rfl
  | s :: σ, n + 1, c => by rw [oK_s, oK_eq]; rfl
end
section
variable {S' : Fl → List Sl → Prop} {c : List Sl → List Sl}
theorem rK_v {d : D} : rK S' c (.val d :: σ) 0 = S' (.ret (.val d)) (c (.val d :: σ)) := rfl
theorem rK_o {d : D} : rK S' c (.own false false d :: σ) 0 = S' (.ret (.tmp d)) (c (.un :: σ)) := rfl
theorem rK_s {n : Nat} {s : Sl} : rK S' c (s :: σ) (n + 1) = rK S' (fun τ => c (s :: τ)) σ n := by
  rcases s with _ | _ | ⟨io, lk, d⟩
  · rfl
  · rfl
  · cases io <;> cases lk <;> rfl
theorem rK_eq : ∀ {σ : List Sl} {n : Nat} {c : List Sl → List Sl}, rK S' c σ n = (match σ[n]? with
    | some (.val d) => S' (.ret (.val d)) (c σ)
    | some (.own false false d) => S' (.ret (.tmp d)) (c (σ.set n .un))
    | _ => False)
  | [], n, c => by cases n <;> rfl
  | .un :: σ, 0, c => rfl
  | .val d :: σ, 0, c => rfl
  | .own io lk _ :: σ, 0, c => by cases io <;> cases lk <;> rfl
  | s :: σ, n + 1, c => by rw [rK_s, rK_eq]; rfl
end
/-! expressions -/
theorem e_c {d : D} : wp (ev P O (.c d)) σ Q X = Q (.val d) σ := by simp only [ev]; rfl
theorem e_b {i : Nat} : wp (ev P O (.b i)) σ Q X = bK i Q σ σ i := by
  rw [bK_eq]; unfold wp; simp only [ev]
  cases σ[i]? with
  | none => rfl
  | some s => cases s <;> rfl
theorem e_v {i : Nat} : wp (ev P O (.v i)) σ Q X = vK (fun d σ1 => Q (.val d) σ1) (fun τ => τ) σ i := by
  rw [vK_eq]; unfold wp; simp only [ev]
  cases σ[i]? with
  | none => rfl
  | some s =>
    rcases s with _ | _ | ⟨io, lk, d⟩
    · rfl
    · rfl
    · cases io <;> cases lk <;> rfl
theorem e_g {x : Nat} : wp (ev P O (.g x)) σ Q X = wp (ofO (P.con x)) σ (fun d σ1 => Q (.val d) σ1) X := by
  unfold wp; simp only [ev]
  cases P.con x <;> rfl
theorem e_dv {d : D} {Q : D → List Sl → Prop} : wp (der (.val d)) σ Q X = Q d σ := rfl
theorem e_dt {d : D} {Q : D → List Sl → Prop} : wp (der (.tmp d)) σ Q X = Q d σ := rfl
theorem e_db {i : Nat} {Q : D → List Sl → Prop} : wp (der (.bor i)) σ Q X = dK Q σ σ i := by
  rw [dK_eq]; unfold wp der; dsimp only
  cases σ[i]? with
  | none => rfl
  | some s => cases s <;> rfl
theorem e_zv {d : D} {Q : D → List Sl → Prop} : wp (frz (.val d)) σ Q X = Q d σ := rfl
theorem e_zt {d : D} {Q : D → List Sl → Prop} : wp (frz (.tmp d)) σ Q X = Q d σ := rfl
theorem e_zb {i : Nat} {Q : D → List Sl → Prop} : wp (frz (.bor i)) σ Q X = vK Q (fun τ => τ) σ i := by
  rw [vK_eq]; unfold wp frz; dsimp only
  cases σ[i]? with
  | none => rfl
  | some s =>
    rcases s with _ | _ | ⟨io, lk, d⟩
    · rfl
    · rfl
    · cases io <;> cases lk <;> rfl
theorem e_bin {op : Operator} {a b : E} : wp (ev P O (.bin op a b)) σ Q X = wp (ev P O a) σ (fun r σ1 => wp (ev P O b) σ1 (fun q σ2 => wp (der r) σ2 (fun x σ3 => wp (der q) σ3 (fun y σ4 => wp (binM P O op r q x y) σ4 Q X) X) X) X) X := by
  simp only [wp_wp0, ev, e0_bnd]
theorem e_neg {a : E} : wp (ev P O (.neg a)) σ Q X = wp (ev P O a) σ (fun r σ1 => wp (der r) σ1 (intK fun i σ2 => Q (.val (.int (-i))) σ2) X) X := by
  simp only [wp_wp0, ev, e0_bnd]
  congr 1; funext r s; congr 1; funext d s; cases d <;> rfl
theorem e_cmp {op : CmpOp} {a b : E} : wp (ev P O (.cmp op a b)) σ Q X = wp (ev P O a) σ (fun r σ1 => wp (ev P O b) σ1 (fun q σ2 => wp (der r) σ2 (fun x σ3 => wp (der q) σ3 (fun y σ4 => wp (cmpM P O op r q x y) σ4 Q X) X) X) X) X := by
  simp only [wp_wp0, ev, e0_bnd]
theorem e_cmp2 {o1 o2 : CmpOp} {a b c : E} : wp (ev P O (.cmp2 o1 o2 a b c)) σ Q X = wp (ev P O a) σ (fun r σ1 => wp (ev P O b) σ1 (fun q σ2 => wp (der r) σ2 (fun x σ3 => wp (der q) σ3 (fun y σ4 => wp (ofO (cmpF o1 x y)) σ4 (fun k σ5 => wp (if k = true then bnd (ev P O c) fun p => bnd (der q) fun y => bnd (der p) fun z => bnd (ofO (cmpF o2 y z)) fun k => ret (.val (.bl k)) else ret (.val (.bl false))) σ5 Q X) X) X) X) X) X := by
  simp only [wp_wp0, ev, e0_bnd]
theorem e_not {a : E} : wp (ev P O (.not a)) σ Q X = wp (ev P O a) σ (fun r σ1 => wp (der r) σ1 (fun x σ2 => wp (ofO (truth x)) σ2 (fun k σ3 => Q (.val (.bl (!k))) σ3) X) X) X := by
  simp only [wp_wp0, ev, e0_bnd, e0_ret]
theorem e_and {a b : E} : wp (ev P O (.and a b)) σ Q X = wp (ev P O a) σ (fun r σ1 => wp (der r) σ1 (fun x σ2 => wp (ofO (truth x)) σ2 (fun k σ3 => wp (if k = true then ev P O b else ret r) σ3 Q X) X) X) X := by
  simp only [wp_wp0, ev, e0_bnd]
theorem e_or {a b : E} : wp (ev P O (.or a b)) σ Q X = wp (ev P O a) σ (fun r σ1 => wp (der r) σ1 (fun x σ2 => wp (ofO (truth x)) σ2 (fun k σ3 => wp (if k = true then ret r else ev P O b) σ3 Q X) X) X) X := by
  simp only [wp_wp0, ev, e0_bnd]
theorem e_ife {t a b : E} : wp (ev P O (.ife t a b)) σ Q X = wp (evT P O t) σ (fun k σ1 => wp (if k = true then ev P O a else ev P O b) σ1 Q X) X := by
  simp only [wp_wp0, ev, e0_bnd]
theorem e_tup {es : E} : wp (ev P O (.tup es)) σ Q X = wp (evD P O es) σ (fun ds σ1 => ds.length ≤ lim ∧ Q (.val (.tup ds)) σ1) X := by
  simp only [wp_wp0, ev, e0_bnd]
  congr 1; funext ds s
  by_cases h : ds.length ≤ lim
  · rw [if_pos h, e0_ret]; simp [h]
  · rw [if_neg h]; simp [h, wp0, stuck]
theorem e_lst {es : E} : wp (ev P O (.lst es)) σ Q X = wp (evD P O es) σ (fun ds σ1 => ds.length ≤ lim ∧ Q (.tmp (.lst ds)) σ1) X := by
  simp only [wp_wp0, ev, e0_bnd]
  congr 1; funext ds s
  by_cases h : ds.length ≤ lim
  · rw [if_pos h, e0_ret]; simp [h]
  · rw [if_neg h]; simp [h, wp0, stuck]
theorem e_bi {f : Bi} {es : E} : wp (ev P O (.bi f es)) σ Q X = wp (evA P O es) σ (fun rs σ1 => wp (ders rs) σ1 (fun ds σ2 => wp (biM P O f rs ds) σ2 Q X) X) X := by
  simp only [wp_wp0, ev, e0_bnd]
theorem e_dsn {Q : List D → List Sl → Prop} : wp (ders []) σ Q X = Q [] σ := rfl
theorem e_dsc {r : R} {rs : List R} {Q : List D → List Sl → Prop} : wp (ders (r :: rs)) σ Q X = wp (der r) σ (fun d σ1 => wp (ders rs) σ1 (fun ds σ2 => Q (d :: ds) σ2) X) X := by
  simp only [wp_wp0, ders, e0_bnd, e0_ret]
theorem e_call {f : Nat} {es : E} : wp (ev P O (.call f es)) σ Q X = wp (evA P O es) σ (fun rs σ1 => wp (callF P O.c1 f rs) σ1 Q X) X := by
  simp only [wp_wp0, ev, e0_bnd]
theorem e_mk {f : Nat} {es : E} : wp (ev P O (.mk f es)) σ Q X = wp (evA P O es) σ (fun rs σ1 => wp (mkF P O.c2 f rs) σ1 Q X) X := by
  simp only [wp_wp0, ev, e0_bnd]
/-- a method, an attribute; by the class's own tables -/
def methK' (P : Prog) (O : Oc) (r : R) (es : E) (Q : R → List Sl → Prop) (X : Ex → List Sl → Prop) (σ : List Sl) (t : Tag Q X) : Bool → Option At → Prop
  | false, some (.meth f) => wp (evA P O es) σ (fun rs σ3 => wp (callF P O.c1 f (r :: rs)) σ3 Q X) X
  | _, _ => False
def methE (P : Prog) (O : Oc) (m : Nat) (r : R) (es : E) (Q : R → List Sl → Prop) (X : Ex → List Sl → Prop) : D → List Sl → Prop
  | .ins C ns ds, σ => methK' P O r es Q X σ () (ns.contains m) (lookupAt C m P)
  | _, _ => False
theorem e_methE {m C : Nat} {r : R} {es : E} {ns : List Nat} {ds : List D} : methE P O m r es Q X (.ins C ns ds) σ = methK' P O r es Q X σ () (ns.contains m) (lookupAt C m P) := rfl
theorem e_methK {r : R} {es : E} {f : Nat} {t : Tag Q X} : methK' P O r es Q X σ t false (some (.meth f)) = wp (evA P O es) σ (fun rs σ3 => wp (callF P O.c1 f (r :: rs)) σ3 Q X) X := rfl
theorem e_meth {o es : E} {m : Nat} : wp (ev P O (.meth o m es)) σ Q X = wp (ev P O o) σ (fun r σ1 => wp (der r) σ1 (methE P O m r es Q X) X) X := by
  simp only [wp_wp0, ev, e0_bnd]
  congr 1; funext r s; congr 1; funext d s
  cases d with
  | ins C ns ds =>
    show wp0 _ _ _ _ = methK' P O r es Q X s () (ns.contains m) (lookupAt C m P)
    dsimp only
    cases ns.contains m with
    | true => simp [methK', wp0, stuck]
    | false =>
      simp only [Bool.false_eq_true, if_false]
      cases lookupAt C m P with
      | none => simp [methK', wp0, stuck]
      | some a =>
        cases a with
        | meth f => exact e0_bnd
        | prop f => rfl
        | con f => rfl
        | cmet f => rfl
        | smet f => rfl
  | _ => rfl
theorem e_smeth {o es : E} {m : Nat} : wp (ev P O (.smeth o m es)) σ Q X = wp (ev P O o) σ (fun r σ1 => wp (der r) σ1 (strK fun t σ2 => wp (evA P O es) σ2 (fun rs σ3 => wp (ders rs) σ3 (fun ds σ4 => wp (ofO (smF m t ds)) σ4 Q X) X) X) X) X := by
  simp only [wp_wp0, ev, e0_bnd]
  congr 1; funext r s; congr 1; funext d s
  cases d <;> first | rfl | simp only [e0_bnd, strK, wp_wp0]
/-- (as Tag) -/
abbrev Tag1 {α : Type} (Q : α → List Sl → Prop) : Type := Unit
def attrK' (P : Prog) (O : Oc) (r : R) (Q : R → List Sl → Prop) (σ : List Sl) (t : Tag1 Q) : Option At → Bool → Bool → Option D → Prop
  | none, true, _, some d => Q (.val d) σ
  | some (.con d), _, false, _ => Q (.val d) σ
  | some (.prop g), _, _, _ => wp (callF P O.c2 g [r]) σ Q fun _ _ => False
  | _, _, _, _ => False
def attrE (P : Prog) (O : Oc) (f : Nat) (r : R) (Q : R → List Sl → Prop) : D → List Sl → Prop
  | .ins C ns ds, σ => attrK' P O r Q σ () (lookupAt C f P) (isFld C f P) (ns.contains f) (fldF f ns ds)
  | _, _ => False
theorem e_attrE {f C : Nat} {r : R} {ns : List Nat} {ds : List D} : attrE P O f r Q (.ins C ns ds) σ = attrK' P O r Q σ () (lookupAt C f P) (isFld C f P) (ns.contains f) (fldF f ns ds) := rfl
theorem e_attrF {r : R} {d : D} {k : Bool} {t : Tag1 Q} : attrK' P O r Q σ t none true k (some d) = Q (.val d) σ := rfl
theorem e_attrC {r : R} {d : D} {k : Bool} {o : Option D} {t : Tag1 Q} : attrK' P O r Q σ t (some (.con d)) k false o = Q (.val d) σ := by cases k <;> rfl
theorem e_attrP {r : R} {g : Nat} {k l : Bool} {o : Option D} {t : Tag1 Q} : attrK' P O r Q σ t (some (.prop g)) k l o = wp (callF P O.c2 g [r]) σ Q fun _ _ => False := by cases k <;> cases l <;> cases o <;> rfl
theorem e_attr {o : E} {f : Nat} : wp (ev P O (.attr o f)) σ Q X = wp (ev P O o) σ (fun r σ1 => wp (der r) σ1 (attrE P O f r Q) X) X := by
  simp only [wp_wp0, ev, e0_bnd]
  congr 1; funext r s; congr 1; funext d s
  cases d with
  | ins C ns ds =>
    show wp0 _ _ _ _ = attrK' P O r Q s () (lookupAt C f P) (isFld C f P) (ns.contains f) (fldF f ns ds)
    dsimp only
    cases lookupAt C f P with
    | none =>
      dsimp only
      cases isFld C f P with
      | false => rfl
      | true =>
        simp only [if_true, e0_bnd]
        cases fldF f ns ds <;> rfl
    | some a =>
      cases a with
      | meth g => rfl
      | cmet g => rfl
      | smet g => rfl
      | con d =>
        dsimp only
        cases ns.contains f with
        | true => cases isFld C f P <;> rfl
        | false => cases isFld C f P <;> rfl
      | prop g =>
        rw [e_attrP]
        dsimp only
        rw [wp_wp0]
        unfold wp0 noX
        cases callF P O.c2 g [r] s <;> rfl
  | _ => rfl
theorem e_ix {o i : E} : wp (ev P O (.ix o i)) σ Q X = wp (ev P O o) σ (fun r σ1 => wp (ev P O i) σ1 (fun q σ2 => wp (der r) σ2 (fun x σ3 => wp (der q) σ3 (fun y σ4 => wp (ofO (ixF x y)) σ4 (fun d σ5 => Q (.val d) σ5) X) X) X) X) X := by
  simp only [wp_wp0, ev, e0_bnd, e0_ret]
theorem e_sl {o lo hi : E} : wp (ev P O (.sl o lo hi)) σ Q X = wp (ev P O o) σ (fun r σ1 => wp (evP P O lo) σ1 (fun l σ2 => wp (evP P O hi) σ2 (fun u σ3 => wp (der r) σ3 (fun x σ4 => wp (ofO (slF x l u)) σ4 Q X) X) X) X) X := by
  simp only [wp_wp0, ev, e0_bnd]
theorem e_pn {Q : Option Int → List Sl → Prop} : wp (evP P O .nil) σ Q X = Q none σ := by simp only [evP]; rfl
theorem e_pt {e : E} {Q : Option Int → List Sl → Prop} : wp (evP P O (.pt e)) σ Q X = wp (ev P O e) σ (fun r σ1 => wp (der r) σ1 (intK fun i σ2 => Q (some i) σ2) X) X := by
  simp only [wp_wp0, evP, e0_bnd]
  congr 1; funext r s; congr 1; funext d s; cases d <;> rfl
theorem e_dn {Q : List D → List Sl → Prop} : wp (evD P O .nil) σ Q X = Q [] σ := by simp only [evD]; rfl
theorem e_da {e r : E} {Q : List D → List Sl → Prop} : wp (evD P O (.arg e r)) σ Q X = wp (ev P O e) σ (fun x σ1 => wp (frz x) σ1 (fun d σ2 => wp (evD P O r) σ2 (fun ds σ3 => Q (d :: ds) σ3) X) X) X := by
  simp only [wp_wp0, evD, e0_bnd, e0_ret]
theorem e_dst {e r : E} {Q : List D → List Sl → Prop} : wp (evD P O (.star e r)) σ Q X = wp (ev P O e) σ (fun x σ1 => wp (der x) σ1 (fun d σ2 => wp (ofO (itemsQ d)) σ2 (fun xs σ3 => wp (evD P O r) σ3 (fun ds σ4 => Q (xs ++ ds) σ4) X) X) X) X := by
  simp only [wp_wp0, evD, e0_bnd, e0_ret]
theorem e_an {Q : List R → List Sl → Prop} : wp (evA P O .nil) σ Q X = Q [] σ := by simp only [evA]; rfl
theorem e_aa {e r : E} {Q : List R → List Sl → Prop} : wp (evA P O (.arg e r)) σ Q X = wp (ev P O e) σ (fun x σ1 => wp (evA P O r) σ1 (fun rs σ2 => Q (x :: rs) σ2) X) X := by
  simp only [wp_wp0, evA, e0_bnd, e0_ret]
theorem e_rng {es : E} {Q : List D × Option Nat → List Sl → Prop} : wp (evI P O (.rng es)) σ Q X = wp (evA P O es) σ (fun rs σ1 => wp (ders rs) σ1 (fun ds σ2 => wp (ofO (rngF ds)) σ2 (fun xs σ3 => Q (xs, none) σ3) X) X) X := by
  simp only [wp_wp0, evI, e0_bnd, e0_ret]
theorem e_enm {e : E} {Q : List D × Option Nat → List Sl → Prop} : wp (evI P O (.enm e)) σ Q X = wp (ev P O e) σ (fun r σ1 => wp (der r) σ1 (fun d σ2 => wp (ofO (itemsQ d)) σ2 (fun xs σ3 => Q (enumFrom 0 xs, lkOf r σ3) σ3) X) X) X := by
  simp only [wp_wp0, evI, e0_bnd]; rfl
theorem e_sq {e : E} {Q : List D × Option Nat → List Sl → Prop} : wp (evI P O (.sq e)) σ Q X = wp (ev P O e) σ (fun r σ1 => wp (der r) σ1 (fun d σ2 => wp (ofO (itemsF d)) σ2 (fun xs σ3 => Q (xs, lkOf r σ3) σ3) X) X) X := by
  simp only [wp_wp0, evI, e0_bnd]; rfl
/-! tests -/
variable {B : Bool → List Sl → Prop}
theorem e_tn {a : E} : wp (evT P O (.tn a)) σ B X = wp (evT P O a) σ (fun k σ1 => B (!k) σ1) X := by simp only [wp_wp0, evT, e0_bnd, e0_ret]
theorem e_ta {a b : E} : wp (evT P O (.ta a b)) σ B X = wp (evT P O a) σ (fun k σ1 => wp (if k = true then evT P O b else ret false) σ1 B X) X := by simp only [wp_wp0, evT, e0_bnd]
theorem e_to {a b : E} : wp (evT P O (.to a b)) σ B X = wp (evT P O a) σ (fun k σ1 => wp (if k = true then ret true else evT P O b) σ1 B X) X := by simp only [wp_wp0, evT, e0_bnd]
theorem e_ti {t a b : E} : wp (evT P O (.ti t a b)) σ B X = wp (evT P O t) σ (fun k σ1 => wp (if k = true then evT P O a else evT P O b) σ1 B X) X := by simp only [wp_wp0, evT, e0_bnd]
theorem e_tc {op : CmpOp} {a b : E} : wp (evT P O (.tc op a b)) σ B X = wp (ev P O a) σ (fun r σ1 => wp (ev P O b) σ1 (fun q σ2 => wp (der r) σ2 (fun x σ3 => wp (der q) σ3 (fun y σ4 => wp (cmpM P O op r q x y) σ4 (blK B) X) X) X) X) X := by
  simp only [wp_wp0, evT, e0_bnd]
  congr 1; funext r s; congr 1; funext q s; congr 1; funext x s; congr 1; funext y s; congr 1; funext z s
  rcases z with z | z | z
  · cases z <;> rfl
  · rfl
  · rfl
theorem e_tc2 {o1 o2 : CmpOp} {a b c : E} : wp (evT P O (.tc2 o1 o2 a b c)) σ B X = wp (ev P O a) σ (fun r σ1 => wp (ev P O b) σ1 (fun q σ2 => wp (der r) σ2 (fun x σ3 => wp (der q) σ3 (fun y σ4 => wp (ofO (cmpF o1 x y)) σ4 (fun k σ5 => wp (if k = true then bnd (ev P O c) fun p => bnd (der q) fun y => bnd (der p) fun z => ofO (cmpF o2 y z) else ret false) σ5 B X) X) X) X) X) X := by
  simp only [wp_wp0, evT, e0_bnd]
theorem e_tr {e : E} : wp (evT P O (.tr e)) σ B X = wp (ev P O e) σ (fun r σ1 => wp (der r) σ1 (fun x σ2 => wp (ofO (truth x)) σ2 B X) X) X := by
  simp only [wp_wp0, evT, e0_bnd]
/-! statements -/
variable {S' : Fl → List Sl → Prop}
theorem e_nil : wp (ex P O .nil) σ S' X = S' .next σ := by simp only [ex]; rfl
theorem e_seq {s r : S} : wp (ex P O (.seq s r)) σ S' X = wp (ex P O s) σ (seqK (ex P O r) S' X) X := by
  simp only [wp_wp0, ex, e0_bnd]
  congr 1; funext fl s; cases fl <;> rfl
theorem e_sqn {r : M Fl} : seqK r S' X .next σ = wp r σ S' X := rfl
theorem e_sqr {r : M Fl} {x : R} : seqK r S' X (.ret x) σ = S' (.ret x) σ := rfl
theorem e_sqb {r : M Fl} : seqK r S' X .brk σ = S' .brk σ := rfl
theorem e_sqc {r : M Fl} : seqK r S' X .cont σ = S' .cont σ := rfl
theorem e_fnv {as : List Sl} {d : D} : fnK as Q (.ret (.val d)) σ = Q (.val d) (ioF as σ) := by simp [fnK, noBor]
theorem e_fnt {as : List Sl} {d : D} : fnK as Q (.ret (.tmp d)) σ = Q (.tmp d) (ioF as σ) := by simp [fnK, noBor]
theorem e_fnn {as : List Sl} : fnK as Q .next σ = Q (.val .non) (ioF as σ) := rfl
theorem e_tkn {I : List Sl → Prop} : turnK I S' .next σ = I σ := rfl
theorem e_tkc {I : List Sl → Prop} : turnK I S' .cont σ = I σ := rfl
theorem e_tkb {I : List Sl → Prop} : turnK I S' .brk σ = S' .next σ := rfl
theorem e_tkr {I : List Sl → Prop} {x : R} : turnK I S' (.ret x) σ = S' (.ret x) σ := rfl
theorem e_lks {I : List D → List Sl → Prop} {acc : List D} {e : D} : lcK I acc (some e) σ = (acc.length < lim ∧ I (acc ++ [e]) σ) := rfl
theorem e_lkn {I : List D → List Sl → Prop} {acc : List D} : lcK I acc none σ = I acc σ := rfl
theorem e_int {Q : Int → List Sl → Prop} {i : Int} : intK Q (.int i) σ = Q i σ := rfl
theorem e_str {Q : Str → List Sl → Prop} {i : Str} : strK Q (.str i) σ = Q i σ := rfl
theorem e_pair {Q : D → D → List Sl → Prop} {x y : D} : pairK Q (.tup [x, y]) σ = Q x y σ := rfl
theorem e_bl {k : Bool} : blK B (.val (.bl k)) σ = B k σ := rfl
theorem e_wks {I : List Sl → Prop} {fl : Fl} : whlK I S' (some fl) σ = turnK I S' fl σ := rfl
theorem e_wkn {I : List Sl → Prop} : whlK I S' none σ = S' .next σ := rfl
theorem e_put {i : Nat} {s : Sl} {Q : Unit → List Sl → Prop} : wp (put i s) σ Q X = sK (fun τ => Q () τ) s σ i := by
  rw [sK_eq]; unfold wp put
  cases σ[i]? with
  | none => rfl
  | some s0 =>
    rcases s0 with _ | _ | ⟨io, lk, d⟩
    · simp [putOk]
    · simp [putOk]
    · cases io <;> cases lk <;> simp [putOk]
theorem e_set1 {i : Nat} {e : E} : wp (ex P O (.set (.name i) e)) σ S' X = wp (ev P O e) σ (fun r σ1 => wp (putR i r) σ1 (fun _ σ2 => S' .next σ2) X) X := by
  simp only [wp_wp0, ex, e0_bnd, e0_ret]
theorem e_pv {i : Nat} {d : D} {Q : Unit → List Sl → Prop} : wp (putR i (.val d)) σ Q X = sK (fun τ => Q () τ) (.val d) σ i := e_put
theorem e_ptm {i : Nat} {d : D} {Q : Unit → List Sl → Prop} : wp (putR i (.tmp d)) σ Q X = sK (fun τ => Q () τ) (.own false false d) σ i := e_put
theorem e_sett {t : Tg} {e : E} : wp (ex P O (.set (.tup t) e)) σ S' X = wp (ev P O e) σ (fun r σ1 => wp (frz r) σ1 (fun d σ2 => wp (asg (.tup t) d) σ2 (fun _ σ3 => S' .next σ3) X) X) X := by
  simp only [wp_wp0, ex, e0_bnd, e0_ret]
theorem e_asN {i : Nat} {d : D} {Q : Unit → List Sl → Prop} : wp (asg (.name i) d) σ Q X = sK (fun τ => Q () τ) (.val d) σ i := by simp only [asg, e_put]
theorem e_asT {t : Tg} {ds : List D} {Q : Unit → List Sl → Prop} : wp (asg (.tup t) (.tup ds)) σ Q X = wp (asgs t ds) σ Q X := by simp only [asg]
theorem e_asn {Q : Unit → List Sl → Prop} : wp (asgs .nil []) σ Q X = Q () σ := by simp only [asgs]; rfl
theorem e_asc {t r : Tg} {d : D} {ds : List D} {Q : Unit → List Sl → Prop} : wp (asgs (.cons t r) (d :: ds)) σ Q X = wp (asg t d) σ (fun _ σ1 => wp (asgs r ds) σ1 Q X) X := by simp only [wp_wp0, asgs, e0_bnd]
theorem e_par {is : List Nat} {es : E} : wp (ex P O (.par is es)) σ S' X = wp (evA P O es) σ (fun rs σ1 => wp (putRs is rs) σ1 (fun _ σ2 => S' .next σ2) X) X := by
  simp only [wp_wp0, ex, e0_bnd, e0_ret]
theorem e_prn {Q : Unit → List Sl → Prop} : wp (putRs [] []) σ Q X = Q () σ := rfl
theorem e_prc {i : Nat} {is : List Nat} {r : R} {rs : List R} {Q : Unit → List Sl → Prop} : wp (putRs (i :: is) (r :: rs)) σ Q X = wp (putR i r) σ (fun _ σ1 => wp (putRs is rs) σ1 Q X) X := by simp only [wp_wp0, putRs, e0_bnd]
theorem iK_o {io lk : Bool} {d : D} {q : Prop} : iK q (.own io lk d :: σ) 0 = q := rfl
theorem iK_s {n : Nat} {s : Sl} {q : Prop} : iK q (s :: σ) (n + 1) = iK q σ n := by cases s <;> rfl
theorem iK_eq {q : Prop} : ∀ {σ : List Sl} {n : Nat}, iK q σ n = (match σ[n]? with
    | some (.own _ _ _) => q
    | _ => False)
  | [], n => by cases n <;> rfl
  | .un :: σ, 0 => rfl
  | .val d :: σ, 0 => rfl
  | .own _ _ _ :: σ, 0 => rfl
  | s :: σ, n + 1 => by rw [iK_s, iK_eq]; rfl
theorem e_isOwn {i : Nat} {Q : Unit → List Sl → Prop} : wp (isOwn i) σ Q X = iK (Q () σ) σ i := by
  rw [iK_eq]; unfold wp isOwn
  cases σ[i]? with
  | none => rfl
  | some s => cases s <;> rfl
theorem e_setix {i : Nat} {k e : E} : wp (ex P O (.setix i k e)) σ S' X = wp (ev P O e) σ (fun r σ1 => wp (frz r) σ1 (fun d σ2 => wp (isOwn i) σ2 (fun _ σ3 => wp (ev P O k) σ3 (fun q σ4 => wp (der q) σ4 (fun j σ5 => wp (setF i j d) σ5 (fun _ σ6 => S' .next σ6) X) X) X) X) X) X := by
  simp only [wp_wp0, ex, e0_bnd, e0_ret]
/-- an item of a list is set -/
def setK (k : Bool → List D → Prop) (d : D) : List D → Int → Prop := fun ds j => match L2.ixN ds.length j with
  | some n => k true (ds.set n d)
  | none => False
def lsK (Q : List D → Prop) : D → Prop
  | .lst ds => Q ds
  | _ => False
theorem e_ls {Q : List D → Prop} {ds : List D} : lsK Q (.lst ds) = Q ds := rfl
theorem e_setF {i : Nat} {j : Int} {d : D} {Q : Unit → List Sl → Prop} : wp (setF i (.int j) d) σ Q X = oK (fun io d0 c => lsK (fun ds => setK (fun _ ds' => Q () (c (.lst ds'))) d ds j) d0) (fun τ => τ) σ i := by
  rw [oK_eq]; unfold wp setF
  cases σ[i]? with
  | none => rfl
  | some s =>
    rcases s with _ | _ | ⟨io, lk, e⟩
    · rfl
    · rfl
    · cases lk
      · cases e <;> first | rfl | skip
        rename_i ds
        simp only [lsK, setK]
        cases L2.ixN ds.length j <;> rfl
      · rfl
theorem e_set30 {k : Bool → List D → Prop} {a b c d : D} : setK k d [a, b, c] 0 = k true [d, b, c] := rfl
theorem e_set31 {k : Bool → List D → Prop} {a b c d : D} : setK k d [a, b, c] 1 = k true [a, d, c] := rfl
theorem e_set32 {k : Bool → List D → Prop} {a b c d : D} : setK k d [a, b, c] 2 = k true [a, b, d] := rfl
theorem e_setat {i f : Nat} {e : E} : wp (ex P O (.setat i f e)) σ S' X = wp (ev P O e) σ (fun r σ1 => wp (frz r) σ1 (fun d σ2 => wp (setA P i f d) σ2 (fun _ σ3 => S' .next σ3) X) X) X := by
  simp only [wp_wp0, ex, e0_bnd, e0_ret]
/-- a field is set -/
def fK (P : Prog) (f : Nat) (d : D) (k : D → Prop) : D → Prop
  | .ins C ns ds => fK' k C ns.length (lookupAt C f P) (isFld C f P) (putFld f d ns ds)
  | _ => False
where fK' (k : D → Prop) (C n : Nat) (a : Option At) (b : Bool) (p : List Nat × List D) : Prop := a.isNone = true ∧ b = true ∧ n < 999 ∧ k (.ins C p.1 p.2)
theorem e_setA {i f : Nat} {d : D} {Q : Unit → List Sl → Prop} : wp (setA P i f d) σ Q X = oK (fun io d0 c => fK P f d (fun d' => Q () (c d')) d0) (fun τ => τ) σ i := by
  rw [oK_eq]; unfold wp setA
  cases σ[i]? with
  | none => rfl
  | some s =>
    rcases s with _ | _ | ⟨io, lk, e⟩
    · rfl
    · rfl
    · cases lk
      · cases e <;> first | rfl | skip
        rename_i C ns ds
        simp only [fK, fK.fK']
        cases lookupAt C f P with
        | none =>
          dsimp only
          by_cases h : ns.length < 999 ∧ isFld C f P = true
          · rw [if_pos h]; simp [h.1, h.2]
          · rw [if_neg h]
            simp only [Option.isNone_none, true_and, eq_iff_iff, false_iff]
            rintro ⟨h1, h2, _⟩
            exact h ⟨h2, h1⟩
        | some a => simp
      · rfl
theorem e_fK {f C : Nat} {d : D} {k : D → Prop} {ns : List Nat} {ds : List D} (h1 : lookupAt C f P = none) (h2 : isFld C f P = true) (h3 : ns.length < 999) : fK P f d k (.ins C ns ds) = k (.ins C (putFld f d ns ds).1 (putFld f d ns ds).2) := by
  show fK.fK' _ _ _ _ _ _ = _
  unfold fK.fK'
  rw [h1, h2]
  simp [h3]
theorem e_expr {e : E} : wp (ex P O (.expr e)) σ S' X = wp (ev P O e) σ (fun _ σ1 => S' .next σ1) X := by simp only [wp_wp0, ex, e0_bnd, e0_ret]
theorem e_retE {e : E} : wp (ex P O (.ret e)) σ S' X = wp (ev P O e) σ (fun r σ1 => S' (.ret r) σ1) X := by simp only [wp_wp0, ex, e0_bnd, e0_ret]
theorem e_retv {i : Nat} : wp (ex P O (.retv i)) σ S' X = rK S' (fun τ => τ) σ i := by
  rw [rK_eq]; unfold wp; simp only [ex]
  cases σ[i]? with
  | none => rfl
  | some s =>
    rcases s with _ | _ | ⟨io, lk, e⟩
    · rfl
    · rfl
    · cases io <;> cases lk <;> rfl
theorem e_iteS {t : E} {a b : S} : wp (ex P O (.ite t a b)) σ S' X = wp (evT P O t) σ (fun k σ1 => wp (if k = true then ex P O a else ex P O b) σ1 S' X) X := by simp only [wp_wp0, ex, e0_bnd]
theorem e_brk : wp (ex P O .brk) σ S' X = S' .brk σ := by simp only [ex]; rfl
theorem e_cont : wp (ex P O .cont) σ S' X = S' .cont σ := by simp only [ex]; rfl
theorem e_unp {i j : Nat} {k : Int} {e : E} : wp (ex P O (.unp i k j e)) σ S' X = wp (ev P O e) σ (fun r σ1 => wp (frz r) σ1 (pairK fun x y σ2 => wp (setF i (.int k) x) σ2 (fun _ σ3 => wp (put j (.val y)) σ3 (fun _ σ4 => S' .next σ4) X) X) X) X := by
  simp only [wp_wp0, ex, e0_bnd]
  congr 1; funext r s; congr 1; funext d s
  match d with
  | .tup [x, y] => simp only [e0_bnd, e0_ret]; rfl
  | .tup [] => rfl
  | .tup [_] => rfl
  | .tup (_ :: _ :: _ :: _) => rfl
  | .non => rfl
  | .bl _ => rfl
  | .int _ => rfl
  | .str _ => rfl
  | .lst _ => rfl
  | .ins _ _ _ => rfl
  | .gl _ => rfl
  | .ty _ => rfl
theorem e_aug {i : Nat} {op : Operator} {e : E} : wp (ex P O (.aug i op e)) σ S' X = wp (ev P O (.b i)) σ (fun r σ1 => wp (ev P O e) σ1 (fun q σ2 => wp (der r) σ2 (fun x σ3 => wp (der q) σ3 (fun y σ4 => intK (fun a σ5 => intK (fun b σ6 => wp (ofO (binF op (.int a) (.int b))) σ6 (fun z σ7 => wp (putR i z) σ7 (fun _ σ8 => S' .next σ8) X) X) y σ5) x σ4) X) X) X) X := by
  simp only [wp_wp0, ex, e0_bnd]
  congr 1; funext r s; congr 1; funext q s; congr 1; funext x s; congr 1; funext y s
  cases x <;> first | rfl | (cases y <;> first | rfl | (simp only [e0_bnd, e0_ret]; rfl))
/-- what is to hold behind a for -/
def forQ (S' : Fl → List Sl → Prop) (lk : Option Nat) (fl : Fl) (σ2 : List Sl) : Prop := S' fl (unlockS lk σ2)
theorem e_forQ {fl : Fl} : forQ S' none fl σ = S' fl σ := rfl
theorem e_for {t : Tg} {it : E} {a : S} : wp (ex P O (.for t it a)) σ S' X = wp (evI P O it) σ (fun iz σ1 => wp (forL (fun d => bnd (asg t d) fun _ => ex P O a) iz.1) (lockS iz.2 σ1) (forQ S' iz.2) (fun x σ2 => X x (unlockS iz.2 σ2))) X := by
  simp only [wp_wp0, ex, e0_bnd]
  congr 1; funext iz s
  unfold wp0
  dsimp only
  cases forL (fun d => bnd (asg t d) fun _ => ex P O a) iz.1 (lockS iz.2 s) <;> rfl
theorem e_whl {t : E} {a : S} : wp (ex P O (.whl t a)) σ S' X = wp (whlL (evT P O t) (ex P O a) turns) σ S' X := by simp only [ex]
/-! data -/
theorem e_mul {q : R} {i j : Int} : wp (binM P O .Mult (.val (.int i)) q (.int i) (.int j)) σ Q X = (mulOk i j ∧ Q (.val (.int (i * j))) σ) := e_ite
theorem e_add {q : R} {r : R} {i j : Int} : wp (binM P O .Add r q (.int i) (.int j)) σ Q X = Q (.val (.int (i + j))) σ := rfl
theorem e_sub {q : R} {r : R} {i j : Int} : wp (binM P O .Sub r q (.int i) (.int j)) σ Q X = Q (.val (.int (i - j))) σ := rfl
theorem e_addF {i j : Int} : wp (ofO (binF .Add (.int i) (.int j))) σ Q X = Q (.val (.int (i + j))) σ := rfl
theorem e_subF {i j : Int} : wp (ofO (binF .Sub (.int i) (.int j))) σ Q X = Q (.val (.int (i - j))) σ := rfl
theorem e_mod {q : R} {r : R} {i j : Int} : wp (binM P O .Mod r q (.int i) (.int j)) σ Q X = (0 < j ∧ Q (.val (.int (i % j))) σ) := e_ite
theorem e_fdiv {q : R} {r : R} {i j : Int} : wp (binM P O .FloorDiv r q (.int i) (.int j)) σ Q X = ((0 < j ∧ j.natAbs.log2 < 9000) ∧ Q (.val (.int (i / j))) σ) := e_ite
theorem e_pow {q : R} {r : R} {i j : Int} : wp (binM P O .Pow r q (.int i) (.int j)) σ Q X = ((0 ≤ j ∧ j ≤ 1000000 ∧ i.natAbs < 2 ^ 64) ∧ Q (.val (.int (i ^ j.toNat))) σ) := e_ite
theorem e_divmod {rs : List R} {i j : Int} : wp (biM P O .divmod rs [.int i, .int j]) σ Q X = ((0 < j ∧ j.natAbs.log2 < 9000) ∧ Q (.val (.tup [.int (i / j), .int (i % j)])) σ) := e_ite
theorem e_addS {q : R} {r : R} {x y : Str} : wp (binM P O .Add r q (.str x) (.str y)) σ Q X = (x.length + y.length ≤ lim ∧ Q (.val (.str (x ++ y))) σ) := e_ite
theorem e_addT {q : R} {r : R} {x y : List D} : wp (binM P O .Add r q (.tup x) (.tup y)) σ Q X = (x.length + y.length ≤ lim ∧ Q (.val (.tup (x ++ y))) σ) := e_ite
theorem e_addL {q : R} {r : R} {x y : List D} : wp (binM P O .Add r q (.lst x) (.lst y)) σ Q X = (x.length + y.length ≤ lim ∧ Q (.tmp (.lst (x ++ y))) σ) := e_ite
theorem e_mulT {q : R} {x : Str} {n : Int} : wp (binM P O .Mult (.val (.str x)) q (.str x) (.int n)) σ Q X = ((0 ≤ n ∧ n < 1000000 ∧ x.length * n.toNat ≤ lim) ∧ Q (.val (.str (Txt.mul x n))) σ) := e_ite
theorem e_len_t {rs : List R} {ds : List D} : wp (biM P O .len rs [.tup ds]) σ Q X = Q (.val (.int ds.length)) σ := rfl
theorem e_len_l {rs : List R} {ds : List D} : wp (biM P O .len rs [.lst ds]) σ Q X = Q (.val (.int ds.length)) σ := rfl
theorem e_len_s {rs : List R} {s : Str} : wp (biM P O .len rs [.str s]) σ Q X = (s.length ≤ lim ∧ Q (.val (.int s.length)) σ) := e_ite
theorem e_max {rs : List R} {i j : Int} : wp (biM P O .max rs [.int i, .int j]) σ Q X = Q (.val (.int (if j > i then j else i))) σ := rfl
theorem e_min {rs : List R} {i j : Int} : wp (biM P O .min rs [.int i, .int j]) σ Q X = Q (.val (.int (if j < i then j else i))) σ := rfl
theorem e_abs {rs : List R} {i : Int} : wp (biM P O .abs rs [.int i]) σ Q X = Q (.val (.int (if i < 0 then -i else i))) σ := rfl
theorem e_tupl {rs : List R} {ds : List D} : wp (biM P O .tuple rs [.lst ds]) σ Q X = Q (.val (.tup ds)) σ := rfl
theorem e_tupt {rs : List R} {ds : List D} : wp (biM P O .tuple rs [.tup ds]) σ Q X = Q (.val (.tup ds)) σ := rfl
theorem e_lstl {rs : List R} {ds : List D} : wp (biM P O .list rs [.lst ds]) σ Q X = Q (.tmp (.lst ds)) σ := rfl
theorem e_lstt {rs : List R} {ds : List D} : wp (biM P O .list rs [.tup ds]) σ Q X = Q (.tmp (.lst ds)) σ := rfl
theorem e_inti {rs : List R} {i : Int} : wp (biM P O .int rs [.int i]) σ Q X = Q (.val (.int i)) σ := rfl
theorem e_intb {rs : List R} {b : Bool} : wp (biM P O .int rs [.bl b]) σ Q X = Q (.val (.int (if b then 1 else 0))) σ := rfl
theorem e_all {rs : List R} {ds : List D} : wp (biM P O .all rs [.lst ds]) σ Q X = wp (ofO (blsF ds)) σ (fun bs σ1 => Q (.val (.bl (bs.all id))) σ1) X := by
  show wp (ofO ((blsF ds).map _)) σ Q X = _
  cases blsF ds <;> rfl
theorem e_any {rs : List R} {ds : List D} : wp (biM P O .any rs [.lst ds]) σ Q X = wp (ofO (blsF ds)) σ (fun bs σ1 => Q (.val (.bl (bs.any id))) σ1) X := by
  show wp (ofO ((blsF ds).map _)) σ Q X = _
  cases blsF ds <;> rfl
theorem e_isi {rs : List R} {a b : D} : wp (biM P O .isinst rs [a, b]) σ Q X = wp (ofO (isiF P a b)) σ (fun k σ1 => Q (.val (.bl k)) σ1) X := by
  show wp (ofO ((isiF P a b).map _)) σ Q X = _
  cases isiF P a b <;> rfl
theorem e_ixt {ds : List D} {i : Int} {Q : D → List Sl → Prop} : wp (ofO (ixF (.tup ds) (.int i))) σ Q X = wp (ofO (atI ds i)) σ Q X := rfl
theorem e_ixl {ds : List D} {i : Int} {Q : D → List Sl → Prop} : wp (ofO (ixF (.lst ds) (.int i))) σ Q X = wp (ofO (atI ds i)) σ Q X := rfl
theorem e_slt {ds : List D} {l u : Option Int} : wp (ofO (slF (.tup ds) l u)) σ Q X = Q (.val (.tup (cutL ds l u))) σ := rfl
theorem e_sll {ds : List D} {l u : Option Int} : wp (ofO (slF (.lst ds) l u)) σ Q X = Q (.tmp (.lst (cutL ds l u))) σ := rfl
theorem e_sls {s : Str} {l u : Option Int} : wp (ofO (slF (.str s) l u)) σ Q X = (s.length ≤ lim ∧ Q (.val (.str (cutS s l u))) σ) := e_ite
theorem e_lt {r q : R} {i j : Int} : wp (cmpM P O .Lt r q (.int i) (.int j)) σ Q X = Q (.val (.bl (decide (i < j)))) σ := rfl
theorem e_le {r q : R} {i j : Int} : wp (cmpM P O .LtE r q (.int i) (.int j)) σ Q X = Q (.val (.bl (decide (i ≤ j)))) σ := rfl
theorem e_gt {r q : R} {i j : Int} : wp (cmpM P O .Gt r q (.int i) (.int j)) σ Q X = Q (.val (.bl (decide (j < i)))) σ := rfl
theorem e_ge {r q : R} {i j : Int} : wp (cmpM P O .GtE r q (.int i) (.int j)) σ Q X = Q (.val (.bl (decide (j ≤ i)))) σ := rfl
theorem e_dat {op : CmpOp} {r q : R} {x y : D} (h : (∀ C ns ds, y ≠ .ins C ns ds) ∨ ((∀ C ns ds, x ≠ .ins C ns ds) ∧ op ≠ .In ∧ op ≠ .NotIn)) : wp (cmpM P O op r q x y) σ Q X = wp (ofO (cmpF op x y)) σ (fun k σ1 => Q (.val (.bl k)) σ1) X := by
  have g : wp (bnd (ofO (cmpF op x y)) fun k => ret (.val (.bl k))) σ Q X = wp (ofO (cmpF op x y)) σ (fun k σ1 => Q (.val (.bl k)) σ1) X := by simp only [wp_wp0, e0_bnd, e0_ret]
  rw [← g]
  rcases h with h | ⟨h, h1, h2⟩
  · cases op <;> cases y <;> first | rfl | exact absurd rfl (h _ _ _) | (cases x <;> first | rfl | exact absurd rfl (h _ _ _))
  · cases op <;> first | rfl | exact absurd rfl h1 | exact absurd rfl h2 | (cases x <;> first | rfl | exact absurd rfl (h _ _ _))
theorem e_eqi {r q : R} {i j : Int} : wp (cmpM P O .Eq r q (.int i) (.int j)) σ Q X = Q (.val (.bl (decide (i = j)))) σ := by
  rw [e_dat (.inl (by intros; simp))]
  have e : cmpF .Eq (.int i) (.int j) = some (decide (i = j)) := eqD_int i j
  rw [e]; rfl
theorem e_nei {r q : R} {i j : Int} : wp (cmpM P O .NotEq r q (.int i) (.int j)) σ Q X = Q (.val (.bl (!decide (i = j)))) σ := by
  rw [e_dat (.inl (by intros; simp))]
  have e : cmpF .NotEq (.int i) (.int j) = some (!decide (i = j)) := by show (eqD (.int i) (.int j)).map _ = _; rw [eqD_int]; rfl
  rw [e]; rfl
theorem e_eqD {r q : R} {x y : D} (h : ∀ C ns ds, x ≠ .ins C ns ds) : wp (cmpM P O .Eq r q x y) σ Q X = wp (ofO (eqD x y)) σ (fun k σ1 => Q (.val (.bl k)) σ1) X := e_dat (.inr ⟨h, by simp, by simp⟩)
theorem e_neD {r q : R} {x y : D} (h : ∀ C ns ds, x ≠ .ins C ns ds) : wp (cmpM P O .NotEq r q x y) σ Q X = wp (ofO (eqD x y)) σ (fun k σ1 => Q (.val (.bl (!k))) σ1) X := by
  rw [e_dat (.inr ⟨h, by simp, by simp⟩)]
  show wp (ofO ((eqD x y).map _)) _ _ _ = _
  cases eqD x y <;> rfl
theorem e_is {r q : R} {d : D} : wp (cmpM P O .Is r q d .non) σ Q X = wp (ofO (cmpF .Is d .non)) σ (fun k σ1 => Q (.val (.bl k)) σ1) X := e_dat (.inl (by intros; simp))
theorem e_isnt {r q : R} {d : D} : wp (cmpM P O .IsNot r q d .non) σ Q X = wp (ofO (cmpF .IsNot d .non)) σ (fun k σ1 => Q (.val (.bl k)) σ1) X := e_dat (.inl (by intros; simp))
theorem e_in {r q : R} {d : D} {y : Str} : wp (cmpM P O .In r q d (.str y)) σ Q X = wp (ofO (cmpF .In d (.str y))) σ (fun k σ1 => Q (.val (.bl k)) σ1) X := e_dat (.inl (by intros; simp))
/-! own special methods, calls of values, f-strings, append -/
theorem e_specN {m C f : Nat} {rs : List R} (h : lookupAt C m P = some (.meth f)) : wp (specN P O m C rs) σ Q X = wp (callF P O.c2 f rs) σ Q fun _ _ => False := by
  have e : specM P O m C rs = callF P O.c2 f rs := by unfold specM; rw [h]
  unfold wp specN noX
  rw [e]
  cases callF P O.c2 f rs σ <;> rfl
theorem e_specM {m C f : Nat} {rs : List R} (h : lookupAt C m P = some (.meth f)) : wp (specM P O m C rs) σ Q X = wp (callF P O.c2 f rs) σ Q X := by
  unfold wp specM
  rw [h]
def lenK (Q : R → List Sl → Prop) : R → List Sl → Prop
  | .val (.int i), σ => (0 ≤ i ∧ i < 9223372036854775808) ∧ Q (.val (.int i)) σ
  | _, _ => False
def txtK (Q : R → List Sl → Prop) : R → List Sl → Prop
  | .val (.str i), σ => Q (.val (.str i)) σ
  | _, _ => False
def boolK (g : Bool → Bool) (Q : R → List Sl → Prop) : R → List Sl → Prop
  | .val (.bl i), σ => Q (.val (.bl (g i))) σ
  | _, _ => False
theorem lenK_i {i : Int} : lenK Q (.val (.int i)) σ = ((0 ≤ i ∧ i < 9223372036854775808) ∧ Q (.val (.int i)) σ) := rfl
theorem txtK_i {i : Str} : txtK Q (.val (.str i)) σ = Q (.val (.str i)) σ := rfl
theorem boolK_i {g : Bool → Bool} {i : Bool} : boolK g Q (.val (.bl i)) σ = Q (.val (.bl (g i))) σ := rfl
theorem okLen_e : (fun a σ' => wp (okLen a) σ' Q X) = lenK Q := by
  funext a σ
  cases a with
  | val d => cases d <;> first | rfl | exact e_ifm
  | _ => rfl
theorem okStr_e : (fun a σ' => wp (okStr a) σ' Q X) = txtK Q := by
  funext a σ
  cases a with
  | val d => cases d <;> rfl
  | _ => rfl
theorem okBool_e {g : Bool → Bool} : (fun a σ' => wp (okBool g a) σ' Q X) = boolK g Q := by
  funext a σ
  cases a with
  | val d => cases d <;> rfl
  | _ => rfl
theorem e_lenI {rs : List R} {C : Nat} {ns : List Nat} {ds : List D} : wp (biM P O .len rs [.ins C ns ds]) σ Q X = wp (specN P O nLen C rs) σ (lenK Q) X := by
  show wp (bnd _ _) σ Q X = _
  rw [e_bnd, okLen_e]
theorem e_strI {rs : List R} {C : Nat} {ns : List Nat} {ds : List D} : wp (biM P O .str rs [.ins C ns ds]) σ Q X = wp (specN P O nStr C rs) σ (txtK Q) X := by
  show wp (bnd _ _) σ Q X = _
  rw [e_bnd, okStr_e]
theorem e_reprI {rs : List R} {C : Nat} {ns : List Nat} {ds : List D} : wp (biM P O .repr rs [.ins C ns ds]) σ Q X = wp (specN P O nRepr C rs) σ (txtK Q) X := by
  show wp (bnd _ _) σ Q X = _
  rw [e_bnd, okStr_e]
theorem e_reprl {rs : List R} {ds : List D} : wp (biM P O .repr rs [.lst ds]) σ Q X = wp (ofO (reprF (.lst ds))) σ Q X := rfl
theorem e_reprt {rs : List R} {ds : List D} : wp (biM P O .repr rs [.tup ds]) σ Q X = wp (ofO (reprF (.tup ds))) σ Q X := rfl
theorem e_strs {rs : List R} {t : Str} : wp (biM P O .str rs [.str t]) σ Q X = Q (.val (.str t)) σ := rfl
theorem e_stri {rs : List R} {i : Int} : wp (biM P O .str rs [.int i]) σ Q X = (i.natAbs.log2 < 1920 ∧ Q (.val (.str (toString i))) σ) := e_ite
theorem e_suml {rs : List R} {ds : List D} : wp (biM P O .sum rs [.lst ds]) σ Q X = wp (ofO (intsF ds)) σ (fun ns σ1 => Q (.val (.int ns.sum)) σ1) X := by
  show wp (ofO ((intsF ds).map _)) σ Q X = _
  cases intsF ds <;> rfl
theorem e_addI {r q : R} {C : Nat} {ns ns' : List Nat} {ds ds' : List D} : wp (binM P O .Add r q (.ins C ns ds) (.ins C ns' ds')) σ Q X = wp (specN P O nAdd C [r, q]) σ Q X := by
  show wp (if C = C then _ else _) σ Q X = _
  rw [if_pos rfl]
theorem e_inI {r q : R} {x : D} {C : Nat} {ns : List Nat} {ds : List D} : wp (cmpM P O .In r q x (.ins C ns ds)) σ Q X = wp (specN P O nContains C [q, r]) σ (boolK (fun b => b) Q) X := by
  have : cmpM P O .In r q x (.ins C ns ds) = bnd (specN P O nContains C [q, r]) (okBool fun b => b) := by cases x <;> rfl
  rw [this, e_bnd, okBool_e]
theorem e_inl {r q : R} {x : D} {ds : List D} : wp (cmpM P O .In r q x (.lst ds)) σ Q X = wp (ofO (inF x ds)) σ (fun k σ1 => Q (.val (.bl k)) σ1) X := by
  rw [e_dat (.inl (by intros; simp))]
  have : cmpF .In x (.lst ds) = inF x ds := by cases x <;> rfl
  rw [this]
theorem e_intp {r q : R} {x : D} {ds : List D} : wp (cmpM P O .In r q x (.tup ds)) σ Q X = wp (ofO (inF x ds)) σ (fun k σ1 => Q (.val (.bl k)) σ1) X := by
  rw [e_dat (.inl (by intros; simp))]
  have : cmpF .In x (.tup ds) = inF x ds := by cases x <;> rfl
  rw [this]
theorem e_ninl {r q : R} {x : D} {ds : List D} : wp (cmpM P O .NotIn r q x (.lst ds)) σ Q X = wp (ofO (inF x ds)) σ (fun k σ1 => Q (.val (.bl (!k))) σ1) X := by
  rw [e_dat (.inl (by intros; simp))]
  have : cmpF .NotIn x (.lst ds) = (inF x ds).map (!·) := by cases x <;> rfl
  rw [this]
  cases inF x ds <;> rfl
theorem e_nintp {r q : R} {x : D} {ds : List D} : wp (cmpM P O .NotIn r q x (.tup ds)) σ Q X = wp (ofO (inF x ds)) σ (fun k σ1 => Q (.val (.bl (!k))) σ1) X := by
  rw [e_dat (.inl (by intros; simp))]
  have : cmpF .NotIn x (.tup ds) = (inF x ds).map (!·) := by cases x <;> rfl
  rw [this]
  cases inF x ds <;> rfl
/-- a callee -/
def calK (P : Prog) (O : Oc) (r : R) (es : E) (Q : R → List Sl → Prop) (X : Ex → List Sl → Prop) : D → List Sl → Prop
  | .ins C ns ds, σ => wp (evA P O es) σ (fun rs σ2 => wp (der r) σ2 (fun d σ3 => wp (callD P O r rs (.ins C ns ds) d) σ3 Q X) X) X
  | .gl x, σ => ((P.cl x).isSome || (P.fn x).isSome) = true ∧ wp (evA P O es) σ (fun rs σ2 => wp (der r) σ2 (fun d σ3 => wp (callD P O r rs (.gl x) d) σ3 Q X) X) X
  | _, _ => False
theorem calK_i {r : R} {es : E} {C : Nat} {ns : List Nat} {ds : List D} : calK P O r es Q X (.ins C ns ds) σ = wp (evA P O es) σ (fun rs σ2 => wp (der r) σ2 (fun d σ3 => wp (callD P O r rs (.ins C ns ds) d) σ3 Q X) X) X := rfl
theorem calK_g {r : R} {es : E} {x : Nat} : calK P O r es Q X (.gl x) σ = (((P.cl x).isSome || (P.fn x).isSome) = true ∧ wp (evA P O es) σ (fun rs σ2 => wp (der r) σ2 (fun d σ3 => wp (callD P O r rs (.gl x) d) σ3 Q X) X) X) := rfl
theorem e_calI {r : R} {rs : List R} {C C' : Nat} {ns ns' : List Nat} {ds ds' : List D} : wp (callD P O r rs (.ins C ns ds) (.ins C' ns' ds')) σ Q X = wp (specM P O nCall C' (r :: rs)) σ Q X := rfl
theorem e_calG {r : R} {rs : List R} {x : Nat} {d : D} : wp (callD P O r rs (.gl x) d) σ Q X = wp (if (P.cl x).isSome = true then mkF P O.c2 x rs else callF P O.c1 x rs) σ Q X := rfl
theorem e_callv {f es : E} : wp (ev P O (.callv f es)) σ Q X = wp (ev P O f) σ (fun r σ1 => wp (der r) σ1 (calK P O r es Q X) X) X := by
  simp only [wp_wp0, ev, e0_bnd]
  congr 1; funext r s; congr 1; funext d s
  cases d with
  | ins C ns ds =>
    show wp0 (bnd _ _) _ _ _ = _
    simp only [e0_bnd]
    rfl
  | gl x =>
    show wp0 (if ((P.cl x).isSome || (P.fn x).isSome) = true then _ else _) _ _ _ = _
    unfold calK
    by_cases h : ((P.cl x).isSome || (P.fn x).isSome) = true
    · rw [if_pos h]
      simp only [e0_bnd, h, true_and]
      rfl
    · rw [if_neg h]
      simp only [h, Bool.false_eq_true, false_and]
      rfl
  | _ => rfl
theorem e_star {e r : E} {Q : List R → List Sl → Prop} : wp (evA P O (.star e r)) σ Q X = wp (ev P O e) σ (fun x σ1 => wp (der x) σ1 (fun d σ2 => wp (ofO (itemsQ d)) σ2 (fun xs σ3 => wp (evA P O r) σ3 (fun rs σ4 => Q (xs.map R.val ++ rs) σ4) X) X) X) X := by
  simp only [wp_wp0, evA, e0_bnd, e0_ret]
/-- the parts of an f-string -/
def fsK (P : Prog) (O : Oc) (r : E) (acc : Str) (Q : Str → List Sl → Prop) (X : Ex → List Sl → Prop) : R → List Sl → Prop
  | .val (.str y), σ => (acc ++ y).length ≤ lim ∧ wp (evF P O r (acc ++ y)) σ Q X
  | _, _ => False
theorem fstK_i {r : E} {acc y : Str} {Q : Str → List Sl → Prop} : fsK P O r acc Q X (.val (.str y)) σ = ((acc ++ y).length ≤ lim ∧ wp (evF P O r (acc ++ y)) σ Q X) := rfl
theorem e_fst {es : E} : wp (ev P O (.fst es)) σ Q X = wp (evF P O es Str.empty) σ (fun t σ1 => Q (.val (.str t)) σ1) X := by
  simp only [wp_wp0, ev, e0_bnd, e0_ret]
theorem e_fstn {acc : Str} {Q : Str → List Sl → Prop} : wp (evF P O .nil acc) σ Q X = Q acc σ := by
  simp only [wp_wp0, evF, e0_ret]
theorem e_fsta {e r : E} {acc : Str} {Q : Str → List Sl → Prop} : wp (evF P O (.arg e r) acc) σ Q X = wp (ev P O e) σ (fsK P O r acc Q X) X := by
  simp only [wp_wp0, evF, e0_bnd]
  congr 1; funext x s
  cases x with
  | val d => cases d <;> first | rfl | exact e_ifm
  | _ => rfl
theorem e_fmt {e : E} : wp (ev P O (.fmt e)) σ Q X = wp (ev P O e) σ (fun r σ1 => wp (der r) σ1 (fun d σ2 => wp (fmtM P O r d) σ2 Q X) X) X := by
  simp only [wp_wp0, ev, e0_bnd]
theorem e_fmts {r : R} {t : Str} : wp (fmtM P O r (.str t)) σ Q X = (t.length ≤ lim ∧ Q (.val (.str t)) σ) := e_ifm
theorem e_fmti {r : R} {i : Int} : wp (fmtM P O r (.int i)) σ Q X = (i.natAbs.log2 < 1920 ∧ Q (.val (.str (toString i))) σ) := e_ifm
theorem e_fmtI {r : R} {C : Nat} {ns : List Nat} {ds : List D} : wp (fmtM P O r (.ins C ns ds)) σ Q X = wp (specN P O nStr C [r]) σ (txtK Q) X := by
  show wp (bnd _ _) σ Q X = _
  rw [e_bnd, okStr_e]
/-- x.append(e), x.extend(e) -/
theorem e_appF {i : Nat} {xs : List D} {Q : Unit → List Sl → Prop} : wp (appF i xs) σ Q X = oK (fun io d0 c => lsK (fun ds => ds.length + xs.length ≤ lim ∧ Q () (c (.lst (ds ++ xs)))) d0) (fun τ => τ) σ i := by
  rw [oK_eq]; unfold wp appF
  cases σ[i]? with
  | none => rfl
  | some s =>
    rcases s with _ | _ | ⟨io, lk, e⟩
    · rfl
    · rfl
    · cases lk
      · cases e <;> first | rfl | skip
        rename_i ds
        simp only [lsK]
        by_cases h : ds.length + xs.length ≤ lim
        · rw [if_pos h]; simp only [h, true_and]
        · rw [if_neg h]; simp only [h, false_and]
      · cases e <;> rfl
def liK (q : Prop) : List Sl → Nat → Prop
  | .own _ _ (.lst _) :: _, 0 => q
  | _ :: σ, n + 1 => liK q σ n
  | _, _ => False
theorem liK_o {q : Prop} {io lk : Bool} {ds : List D} : liK q (.own io lk (.lst ds) :: σ) 0 = q := rfl
theorem liK_s {q : Prop} {n : Nat} {s : Sl} : liK q (s :: σ) (n + 1) = liK q σ n := by
  rcases s with _ | _ | ⟨io, lk, d⟩
  · rfl
  · rfl
  · cases d <;> rfl
theorem liK_eq {q : Prop} : ∀ {σ : List Sl} {n : Nat}, liK q σ n = (match σ[n]? with
    | some (.own _ _ (.lst _)) => q
    | _ => False)
  | [], n => by cases n <;> rfl
  | .un :: σ, 0 => rfl
  | .val d :: σ, 0 => rfl
  | .own _ _ d :: σ, 0 => by cases d <;> rfl
  | s :: σ, n + 1 => by rw [liK_s, liK_eq]; rfl
theorem e_isLst {i : Nat} {Q : Unit → List Sl → Prop} : wp (isLst i) σ Q X = liK (Q () σ) σ i := by
  rw [liK_eq]; unfold wp isLst
  cases σ[i]? with
  | none => rfl
  | some s =>
    rcases s with _ | _ | ⟨io, lk, d⟩
    · rfl
    · rfl
    · cases d <;> rfl
theorem e_app {i : Nat} {e : E} {S' : Fl → List Sl → Prop} : wp (ex P O (.app i e)) σ S' X = wp (isLst i) σ (fun _ σ1 => wp (ev P O e) σ1 (fun r σ2 => wp (frz r) σ2 (fun d σ3 => wp (appF i [d]) σ3 (fun _ σ4 => S' .next σ4) X) X) X) X := by
  simp only [wp_wp0, ex, e0_bnd, e0_ret]
def extK (P : Prog) (O : Oc) (i : Nat) (S' : Fl → List Sl → Prop) (X : Ex → List Sl → Prop) : R → List Sl → Prop
  | .tmp (.lst xs), σ => wp (appF i xs) σ (fun _ σ4 => S' .next σ4) X
  | _, _ => False
theorem extK_i {i : Nat} {xs : List D} {S' : Fl → List Sl → Prop} : extK P O i S' X (.tmp (.lst xs)) σ = wp (appF i xs) σ (fun _ σ4 => S' .next σ4) X := rfl
theorem e_ext {i : Nat} {e : E} {S' : Fl → List Sl → Prop} : wp (ex P O (.ext i e)) σ S' X = wp (isLst i) σ (fun _ σ1 => wp (ev P O e) σ1 (extK P O i S' X) X) X := by
  simp only [wp_wp0, ex, e0_bnd]
  congr 1; funext u s; congr 1; funext x s
  cases x with
  | tmp d => cases d <;> first | rfl | (simp only [e0_bnd, e0_ret]; rfl)
  | _ => rfl
/-! the parameters -/
theorem io_o {io lk : Bool} {d : D} {as : List Sl} {s : Sl} : ioF (.own io lk d :: as) (s :: σ) = s :: ioF as σ := rfl
theorem io_v {d : D} {as : List Sl} {s : Sl} : ioF (.val d :: as) (s :: σ) = .val d :: ioF as σ := rfl
theorem io_n : ioF [] σ = [] := by cases σ <;> rfl
theorem at_0 {α : Type} {a : α} {l : List α} : atI (a :: l) 0 = some a := by
  unfold atI ixN
  rw [if_pos (by decide), if_pos (by simp only [List.length_cons]; omega)]
  rfl
theorem at_1 {α : Type} {a b : α} {l : List α} : atI (a :: b :: l) 1 = some b := by
  unfold atI ixN
  rw [if_pos (by decide), if_pos (by simp only [List.length_cons]; omega)]
  rfl
theorem at_2 {α : Type} {a b c : α} {l : List α} : atI (a :: b :: c :: l) 2 = some c := by
  unfold atI ixN
  rw [if_pos (by decide), if_pos (by simp only [List.length_cons]; omega)]
  rfl
theorem at_3 {α : Type} {a b c d : α} {l : List α} : atI (a :: b :: c :: d :: l) 3 = some d := by
  unfold atI ixN
  rw [if_pos (by decide), if_pos (by simp only [List.length_cons]; omega)]
  rfl
theorem at_4 {α : Type} {a b c d e : α} {l : List α} : atI (a :: b :: c :: d :: e :: l) 4 = some e := by
  unfold atI ixN
  rw [if_pos (by decide), if_pos (by simp only [List.length_cons]; omega)]
  rfl
theorem at_5 {α : Type} {a b c d e f : α} {l : List α} : atI (a :: b :: c :: d :: e :: f :: l) 5 = some f := by
  unfold atI ixN
  rw [if_pos (by decide), if_pos (by simp only [List.length_cons]; omega)]
  rfl
theorem len_0 : (([] : List D).length : Int) = 0 := rfl
theorem len_1 {a : D} : (([a] : List D).length : Int) = 1 := rfl
theorem len_2 {a b : D} : (([a, b] : List D).length : Int) = 2 := rfl
theorem len_3 {a b c : D} : (([a, b, c] : List D).length : Int) = 3 := rfl
theorem len_4 {a b c d : D} : (([a, b, c, d] : List D).length : Int) = 4 := rfl
theorem len_5 {a b c d e : D} : (([a, b, c, d, e] : List D).length : Int) = 5 := rfl
theorem at_get {α : Type} {l : List α} {i : Int} (h0 : 0 ≤ i) (h1 : i < l.length) : atI l i = l[i.toNat]? := by
  unfold atI ixN
  rw [if_pos h0, if_pos h1]
  rfl
end
end EV

set_option Elab.async false
set_option linter.all false
set_option maxRecDepth 100000
set_option maxHeartbeats 4000000
/-! ### comprehensions, calls -/
namespace EV
open PySem L2
section
variable {α β : Type} {P : Prog} {O : Oc} {i : Int} {σ σ' σ0 : List Sl} {X : Ex → List Sl → Prop} {Q : R → List Sl → Prop}
theorem ev_lc {e it p : E} {t : Tg} {ws : List Nat} : ev P O (.lc e t ws it p) = bnd (evI P O it) fun iz σ => if wipeOk ws σ then (match lcL (lcF P O e t ws p) iz.1 [] (lockS iz.2 σ) with
    | .ok ds σ' => .ok (.tmp (.lst ds)) (unlockS iz.2 (restL ws σ σ'))
    | _ => .fail) else .fail := by simp only [ev]; rfl
/-- what is to hold behind a comprehension's turns -/
def lcQ (Q : R → List Sl → Prop) (lk : Option Nat) (ws : List Nat) (σ1 : List Sl) (ds : List D) (σ2 : List Sl) : Prop := Q (.tmp (.lst ds)) (unlockS lk (restL ws σ1 σ2))
theorem e_lc {e it p : E} {t : Tg} {ws : List Nat} : wp (ev P O (.lc e t ws it p)) σ Q X = wp (evI P O it) σ (fun iz σ1 => wipeOk ws σ1 = true ∧ wp (lcL (lcF P O e t ws p) iz.1 []) (lockS iz.2 σ1) (lcQ Q iz.2 ws σ1) (fun _ _ => False)) X := by
  rw [ev_lc, e_bnd]
  simp only [wp_wp0]
  congr 1; funext iz s
  unfold wp0
  dsimp only
  cases h : wipeOk ws s with
  | false => simp
  | true =>
    simp only [if_true, true_and]
    cases lcL (lcF P O e t ws p) iz.1 [] (lockS iz.2 s) <;> rfl
/-- is a comprehension's name free to be used -/
def freeS : Sl → Bool
  | .own _ _ _ => false
  | _ => true
theorem wipe1 {w : Nat} {s : Sl} (h : σ[w]? = some s) (hs : freeS s = true) : wipeOk [w] σ = true := by
  simp only [wipeOk, List.all_cons, List.all_nil, Bool.and_true]
  rw [h]
  cases s <;> first | rfl | cases hs
/-- an element whose reckoning leaves all slots as they were -/
theorem lcL_pure {e : E} {w : Nat} {s : Sl} {g : D → D} {Q : List D → List Sl → Prop} (hw : σ[w]? = some s) (hs : freeS s = true) : ∀ (xs acc : List D) (s' : Sl), freeS s' = true →
    (∀ d ∈ xs, wp (ev P O e) (σ.set w (.val d)) (fun r σ2 => σ2 = σ.set w (.val d) ∧ (r = .val (g d) ∨ r = .tmp (g d))) (fun _ _ => False)) → acc.length + xs.length ≤ lim → (∀ s'', freeS s'' = true → Q (acc ++ xs.map g) (σ.set w s'')) →
    wp (lcL (lcF P O e (.name w) [w] (.tr (.c (.bl true)))) xs acc) (σ.set w s') Q X
  | [], acc, s', hs', _, _, h => by
    have := h s' hs'
    rw [List.map_nil, List.append_nil] at this
    exact this
  | d :: xs, acc, s', hs', he, hl, h => by
    simp only [lcL]
    have hlen : w < σ.length := (List.getElem?_eq_some_iff.mp hw).1
    have key : lcF P O e (.name w) [w] (.tr (.c (.bl true))) d (σ.set w s') = .ok (some (g d)) (σ.set w (.val d)) := by
      have h1 := he d List.mem_cons_self
      unfold wp at h1
      unfold lcF
      simp only [wipeL, asg, put, bnd, List.set_set, evT, ev, ret, der, ofO, truth]
      rw [List.getElem?_set_self (by simpa using hlen)]
      simp only [List.set_set, if_true]
      split at h1
      · rename_i a σ2 e1
        obtain ⟨e2, e3⟩ := h1
        show bnd (ev P O e) _ _ = _
        unfold bnd
        rw [e1]
        subst e2
        rcases e3 with e3 | e3 <;> subst e3 <;> rfl
      · exact h1.elim
      · exact h1.elim
    rw [wp_wp0]
    unfold wp0 bnd
    rw [key]
    dsimp only
    have hl2 : acc.length < lim := by simp only [List.length_cons] at hl; omega
    rw [if_pos hl2]
    refine lcL_pure hw hs xs (acc ++ [g d]) (.val d) rfl (fun d' hd' => he d' (List.mem_cons_of_mem _ hd')) (by simp only [List.length_append, List.length_cons, List.length_nil] at hl ⊢; omega) (fun s'' h'' => ?_)
    have := h s'' h''
    simpa using this
theorem set_back {w : Nat} {s s' : Sl} (hw : σ[w]? = some s) : (σ.set w s').set w s = σ := by
  rw [List.set_set]
  exact List.ext_getElem? fun j => by
    by_cases hj : w = j
    · subst hj
      rw [List.getElem?_set_self (List.getElem?_eq_some_iff.mp hw).1, hw]
    · rw [List.getElem?_set_ne hj]
theorem set_self {w : Nat} {s : Sl} (hw : σ[w]? = some s) : σ.set w s = σ := by
  have := set_back (s' := s) hw
  rwa [List.set_set] at this
/-- [e for x in ..], e a plain function of x; what is walked is no object of a slot -/
theorem wp_lcp {e : E} {w : Nat} {s : Sl} {xs : List D} (g : D → D) (hw : σ[w]? = some s) (hs : freeS s = true) (hl : xs.length ≤ lim)
    (he : ∀ d ∈ xs, wp (ev P O e) (σ.set w (.val d)) (fun r σ2 => σ2 = σ.set w (.val d) ∧ (r = .val (g d) ∨ r = .tmp (g d))) (fun _ _ => False)) (h : Q (.tmp (.lst (xs.map g))) σ) :
    wipeOk [w] σ = true ∧ wp (lcL (lcF P O e (.name w) [w] (.tr (.c (.bl true)))) xs []) (lockS none σ) (lcQ Q none [w] σ) (fun _ _ => False) := by
  refine ⟨wipe1 hw hs, ?_⟩
  have e1 : lockS none σ = σ.set w s := (set_self hw).symm
  rw [e1]
  refine lcL_pure hw hs xs [] s hs he (by simpa using hl) fun s'' h'' => ?_
  simp only [lcQ, unlockS, restL, List.nil_append]
  rw [hw]
  simp only [Option.getD_some]
  rw [set_back hw]
  exact h
/-! calls as equations -/
theorem wpc_ok {r : Res R} {a : R} {s : List Sl} (h : wpc r (fun a' s' => a' = a ∧ s' = s) (fun _ _ => False)) : r = .ok a s := by
  unfold wpc at h
  split at h
  · rw [h.1, h.2]
  · exact h.elim
  · exact h.elim
theorem e_callF {c : CallT} {f : Nat} {F : Fn} {rs : List R} {as ps ps' : List Sl} {r : R} (hF : P.fn f = some F) (ha : toSls σ rs = some as) (hn : (bors rs).Nodup) (hp : params F as = some ps) (hc : c f ps = .ok r ps') (hr : noBor r) (hb : back rs ps' σ = σ') (hst : F.star = false := by rfl) :
    wp (callF P c f rs) σ Q X = Q r σ' := by
  unfold wp callF
  rw [hF]
  dsimp only
  rw [hst]
  simp only [Bool.false_eq_true, if_false, callP]
  rw [ha]
  dsimp only
  rw [if_pos hn, hp]
  dsimp only
  rw [hc]
  subst hb
  cases r with
  | bor i => exact hr.elim
  | val d => rfl
  | tmp d => rfl
theorem e_mkF {c : CallT} {C f : Nat} {at_ : List (Nat × At)} {fl : List Nat} {F : Fn} {rs : List R} {as ps ps' : List Sl} {io lk : Bool} {ns : List Nat} {ds : List D} (hC : P.cl C = some ⟨some f, at_, fl⟩) (hF : P.fn f = some F) (ha : toSls σ rs = some as) (hn : (bors rs).Nodup) (hp : params F (.own true false (.ins C [] []) :: as) = some ps)
    (hc : c f ps = .ok (.val .non) (.own io lk (.ins C ns ds) :: ps')) (hb : back rs ps' σ = σ') (hst : F.star = false := by rfl) : wp (mkF P c C rs) σ Q X = Q (.val (.ins C ns ds)) σ' := by
  unfold wp mkF
  rw [hC]
  dsimp only
  rw [hF]
  dsimp only
  rw [hst]
  simp only [Bool.false_eq_true, if_false, mkP]
  rw [ha]
  dsimp only
  rw [if_pos hn, hp]
  dsimp only
  rw [hc]
  dsimp only
  rw [if_pos rfl]
  subst hb
  rfl
/-! star parameters -/
theorem frzs_val : ∀ (ds : List D) (σ : List Sl), frzs (ds.map R.val) σ = .ok ds σ
  | [], σ => rfl
  | d :: ds, σ => by
    simp only [List.map_cons, frzs, bnd, frz, frzs_val ds σ, ret]
theorem pack_val {n : Nat} {as rs : List R} {ds : List D} {g : List R → M R} (hrs : rs = as ++ ds.map R.val) (hl : as.length = n) (hd : ds.length ≤ lim) : packF n rs g σ = g (as ++ [.val (.tup ds)]) σ := by
  subst hrs
  subst hl
  unfold packF
  rw [if_pos (by simp), List.drop_left, List.take_left]
  unfold bnd
  rw [frzs_val]
  dsimp only
  rw [if_pos hd]
/-- a call of a def with a star parameter, the rest being data -/
theorem e_callS {c : CallT} {f n : Nat} {F : Fn} {rs as' : List R} {dz : List D} {as ps ps' : List Sl} {r : R} (hF : P.fn f = some F) (hst : F.star = true) (hnp : F.np = n + 1) (hrs : rs = as' ++ dz.map R.val) (hl : as'.length = n) (hd : dz.length ≤ lim) (ha : toSls σ (as' ++ [.val (.tup dz)]) = some as) (hn : (bors (as' ++ [.val (.tup dz)])).Nodup) (hp : params F as = some ps) (hc : c f ps = .ok r ps') (hr : noBor r) (hb : back (as' ++ [.val (.tup dz)]) ps' σ = σ') :
    wp (callF P c f rs) σ Q X = Q r σ' := by
  unfold wp callF
  rw [hF]
  dsimp only
  rw [hst]
  simp only [if_true, hnp]
  rw [pack_val hrs hl hd]
  unfold callP
  rw [ha]
  dsimp only
  rw [if_pos hn, hp]
  dsimp only
  rw [hc]
  subst hb
  cases r with
  | bor i => exact hr.elim
  | val d => rfl
  | tmp d => rfl
/-- a new instance by an __init__ with a star parameter, the rest being data -/
theorem e_mkS {c : CallT} {C f n : Nat} {at_ : List (Nat × At)} {fl : List Nat} {F : Fn} {rs as' : List R} {dz : List D} {as ps ps' : List Sl} {io lk : Bool} {ns : List Nat} {ds : List D} (hC : P.cl C = some ⟨some f, at_, fl⟩) (hF : P.fn f = some F) (hst : F.star = true) (hnp : F.np = n + 2) (hrs : rs = as' ++ dz.map R.val) (hl : as'.length = n) (hd : dz.length ≤ lim)
    (ha : toSls σ (as' ++ [.val (.tup dz)]) = some as) (hn : (bors (as' ++ [.val (.tup dz)])).Nodup) (hp : params F (.own true false (.ins C [] []) :: as) = some ps)
    (hc : c f ps = .ok (.val .non) (.own io lk (.ins C ns ds) :: ps')) (hb : back (as' ++ [.val (.tup dz)]) ps' σ = σ') : wp (mkF P c C rs) σ Q X = Q (.val (.ins C ns ds)) σ' := by
  unfold wp mkF
  rw [hC]
  dsimp only
  rw [hF]
  dsimp only
  rw [hst]
  simp only [if_true, hnp]
  rw [pack_val hrs hl hd]
  unfold mkP
  rw [ha]
  dsimp only
  rw [if_pos hn, hp]
  dsimp only
  rw [hc]
  dsimp only
  rw [if_pos rfl]
  subst hb
  rfl
/-! what is given back -/
theorem seek_no {j : Nat} : ∀ {rs : List R} {ss : List Sl}, j ∉ bors rs → seek j rs ss = none
  | [], ss, _ => by cases ss <;> rfl
  | r :: rs, [], _ => by cases r <;> rfl
  | .val d :: rs, s :: ss, h => by
    have : seek j (.val d :: rs) (s :: ss) = seek j rs ss := by cases s <;> rfl
    rw [this]; exact seek_no h
  | .tmp d :: rs, s :: ss, h => by
    have : seek j (.tmp d :: rs) (s :: ss) = seek j rs ss := by cases s <;> rfl
    rw [this]; exact seek_no h
  | .bor i :: rs, s :: ss, h => by
    have h1 : j ≠ i := fun e => h (by subst e; exact List.mem_cons_self)
    have h2 : j ∉ bors rs := fun e => h (List.mem_cons_of_mem _ e)
    cases s with
    | own a b d =>
      show (if i = j then some d else seek j rs ss) = none
      rw [if_neg fun e => h1 e.symm]; exact seek_no h2
    | un => show seek j rs ss = none; exact seek_no h2
    | val d => show seek j rs ss = none; exact seek_no h2
theorem back0 {rs : List R} {ps : List Sl} (h : bors rs = []) : back rs ps σ = σ := by unfold back; rw [h]; rfl
theorem back1 {i : Nat} {rs : List R} {ps : List Sl} {io lk a b : Bool} {d d' : D} (hb : bors rs = []) (h : σ[i]? = some (.own io lk d)) : back (.bor i :: rs) (.own a b d' :: ps) σ = σ.set i (.own io lk d') := by
  unfold back
  have e : bors (.bor i :: rs) = [i] := by show i :: bors rs = _; rw [hb]
  rw [e]
  simp only [List.isEmpty_cons, Bool.false_eq_true, if_false]
  refine List.ext_getElem? fun j => ?_
  rw [List.getElem?_mapIdx]
  by_cases hj : i = j
  · subst hj
    rw [List.getElem?_set_self (List.getElem?_eq_some_iff.mp h).1, h]
    show some (backAt _ _ i (.own io lk d)) = _
    have : seek i (.bor i :: rs) (.own a b d' :: ps) = some d' := by show (if i = i then some d' else _) = _; rw [if_pos rfl]
    simp only [backAt, this, Option.getD_some]
  · rw [List.getElem?_set_ne hj]
    cases hs : σ[j]? with
    | none => rfl
    | some s =>
      have : seek j (.bor i :: rs) (.own a b d' :: ps) = none := seek_no (by rw [e]; simpa using fun z => hj z.symm)
      cases s with
      | own x y z => simp only [Option.map_some, backAt, this, Option.getD_none]
      | un => rfl
      | val z => rfl
theorem lk_v {d : D} : lkOf (.val d) σ = none := rfl
theorem lk_t {d : D} : lkOf (.tmp d) σ = none := rfl
theorem lock_n : lockS none σ = σ := rfl
theorem unlock_n : unlockS none σ = σ := rfl
theorem items_l {ds : List D} : itemsF (.lst ds) = some ds := rfl
theorem items_t {ds : List D} : itemsF (.tup ds) = some ds := rfl
theorem items_s {s : Str} : itemsF (.str s) = some (s.cps.toList.map fun c => .str ⟨#[c]⟩) := rfl
theorem itemsQ_l {ds : List D} : itemsQ (.lst ds) = some ds := rfl
theorem itemsQ_t {ds : List D} : itemsQ (.tup ds) = some ds := rfl
theorem tr_b {b : Bool} : truth (.bl b) = some b := rfl
theorem is_n : cmpF .Is .non .non = some true := rfl
theorem is_i {i : Int} : cmpF .Is (.int i) .non = some false := rfl
theorem is_s {i : Str} : cmpF .Is (.str i) .non = some false := rfl
theorem is_t {i : List D} : cmpF .Is (.tup i) .non = some false := rfl
theorem is_l {i : List D} : cmpF .Is (.lst i) .non = some false := rfl
theorem cmp_le {i j : Int} : cmpF .LtE (.int i) (.int j) = some (decide (i ≤ j)) := rfl
theorem cmp_lt {i j : Int} : cmpF .Lt (.int i) (.int j) = some (decide (i < j)) := rfl
theorem isi_it : isiF P (.int i) (.ty .int) = some true := rfl
theorem isi_ib : isiF P (.int i) (.ty .bool) = some false := rfl
theorem isi_is : isiF P (.int i) (.ty .str) = some false := rfl
theorem isi_ss {t : Str} : isiF P (.str t) (.ty .str) = some true := rfl
theorem isi_si {t : Str} : isiF P (.str t) (.ty .int) = some false := rfl
theorem isi_tt {t : List D} : isiF P (.tup t) (.ty .tuple) = some true := rfl
theorem cut_to {xs : List D} {n : Nat} : cutL xs none (some (n : Int)) = xs.take n := by
  unfold cutL
  rw [HT.sIx_none, HT.sIx_nat, List.drop_zero, Nat.sub_zero]
  exact (List.take_eq_take_min).symm
theorem cut_from {xs : List D} {n : Nat} : cutL xs (some (n : Int)) none = xs.drop n := by
  unfold cutL
  rw [HT.sIx_none, HT.sIx_nat]
  rw [List.take_of_length_le (by rw [List.length_drop]; omega)]
  by_cases h : n ≤ xs.length
  · rw [Nat.min_eq_left h]
  · rw [Nat.min_eq_right (by omega), List.drop_length, List.drop_of_length_le (by omega)]
theorem nd0 : ([] : List Nat).Nodup := List.nodup_nil
theorem nd1 {i : Nat} : [i].Nodup := by simp
theorem e_lcF1 {e : E} {w : Nat} {s : Sl} {d : D} {K : Option D → List Sl → Prop} (hw : σ[w]? = some s) : wp (lcF P O e (.name w) [w] (.tr (.c (.bl true))) d) σ K X = wp (ev P O e) (σ.set w (.val d)) (fun r σ2 => wp (frz r) σ2 (fun x σ3 => K (some x) σ3) X) X := by
  have hlen : w < σ.length := (List.getElem?_eq_some_iff.mp hw).1
  have key : lcF P O e (.name w) [w] (.tr (.c (.bl true))) d σ = (bnd (ev P O e) fun r => bnd (frz r) fun x => ret (some x)) (σ.set w (.val d)) := by
    have hput : put w (.val d) (σ.set w .un) = .ok () (σ.set w (.val d)) := by
      unfold put
      rw [List.getElem?_set_self hlen]
      simp only [List.set_set]
    have ht : evT P O (.tr (.c (.bl true))) (σ.set w (.val d)) = .ok true (σ.set w (.val d)) := by simp only [evT, ev, bnd, ret, der, ofO, truth]
    unfold lcF
    simp only [wipeL, asg]
    rw [bnd_ok hput, bnd_ok ht]
    rfl
  show wp0 _ _ _ _ = _
  unfold wp0
  rw [key]
  show wp0 (bnd (ev P O e) fun r => bnd (frz r) fun x => ret (some x)) (σ.set w (.val d)) K X = _
  simp only [wp_wp0, e0_bnd, e0_ret]
theorem rng_n {n : Int} (h0 : 0 ≤ n) (h1 : n ≤ 1000000) : rngF [.int n] = some ((List.range n.toNat).map fun (k : Nat) => D.int (k : Int)) := by
  have e : rngF [.int n] = if -big ≤ n ∧ n < big then some ((List.range n.toNat).map fun (k : Nat) => D.int (k : Int)) else none := rfl
  rw [e, if_pos (by unfold big; omega)]
end
end EV

set_option Elab.async false
set_option linter.all false
set_option maxRecDepth 100000
set_option maxHeartbeats 4000000
/-! ### == of data -/
namespace EV
open PySem L2
/-- a == b is k; no deeper than n -/
def EqR (n : Nat) (a b : D) (k : Bool) : Prop := ∃ p q, toP a = some p ∧ toP b = some q ∧ p.canLay0 = true ∧ q.canLay0 = true ∧ p.depth ≤ n ∧ q.depth ≤ n ∧ PyData.eqv p q = k
def EqRs (n : Nat) (as bs : List D) (k : Bool) : Prop := ∃ ps qs, toPs as = some ps ∧ toPs bs = some qs ∧ PyData.canLayAll0 ps = true ∧ PyData.canLayAll0 qs = true ∧ PyData.depthAll ps ≤ n ∧ PyData.depthAll qs ≤ n ∧ PyData.eqvAll ps qs = k
theorem EqR.eqD {n : Nat} {a b : D} {k : Bool} (h : EqR n a b k) (hn : n ≤ 64) : eqD a b = some k := by
  obtain ⟨p, q, e1, e2, c1, c2, d1, d2, e⟩ := h
  unfold EV.eqD
  rw [e1, e2]
  have s1 : SeqAt.shaped p = true := by unfold SeqAt.shaped; rw [c1, decide_eq_true (Nat.le_trans d1 hn)]; rfl
  have s2 : SeqAt.shaped q = true := by unfold SeqAt.shaped; rw [c2, decide_eq_true (Nat.le_trans d2 hn)]; rfl
  dsimp only
  rw [s1, s2, e]
  rfl
theorem EqR.int {n : Nat} (i j : Int) : EqR n (.int i) (.int j) (decide (i = j)) := by
  refine ⟨_, _, rfl, rfl, rfl, rfl, Nat.zero_le _, Nat.zero_le _, ?_⟩
  show (i == j) = _
  rfl
theorem EqR.bl {n : Nat} (i j : Bool) : EqR n (.bl i) (.bl j) (i == j) := ⟨_, _, rfl, rfl, rfl, rfl, Nat.zero_le _, Nat.zero_le _, rfl⟩
theorem EqR.non {n : Nat} : EqR n .non .non true := ⟨_, _, rfl, rfl, rfl, rfl, Nat.zero_le _, Nat.zero_le _, rfl⟩
theorem EqR.str {n : Nat} {x y : Str} (hx : PyData.strOk x = true) (hy : PyData.strOk y = true) : EqR n (.str x) (.str y) (decide (x = y)) := by
  refine ⟨_, _, rfl, rfl, hx, hy, Nat.zero_le _, Nat.zero_le _, ?_⟩
  show (x == y) = _
  rfl
theorem EqR.tup {n : Nat} {as bs : List D} {k : Bool} (h : EqRs n as bs k) : EqR (n + 1) (.tup as) (.tup bs) k := by
  obtain ⟨ps, qs, e1, e2, c1, c2, d1, d2, e⟩ := h
  refine ⟨.tuple ps, .tuple qs, by simp only [toP, e1, Option.map_some], by simp only [toP, e2, Option.map_some], c1, c2, ?_, ?_, e⟩
  · simp only [PyData.depth]; omega
  · simp only [PyData.depth]; omega
theorem EqR.lst {n : Nat} {as bs : List D} {k : Bool} (h : EqRs n as bs k) : EqR (n + 1) (.lst as) (.lst bs) k := by
  obtain ⟨ps, qs, e1, e2, c1, c2, d1, d2, e⟩ := h
  refine ⟨.list ps, .list qs, by simp only [toP, e1, Option.map_some], by simp only [toP, e2, Option.map_some], c1, c2, ?_, ?_, e⟩
  · simp only [PyData.depth]; omega
  · simp only [PyData.depth]; omega
theorem EqRs.nil {n : Nat} : EqRs n [] [] true := ⟨[], [], rfl, rfl, rfl, rfl, Nat.zero_le _, Nat.zero_le _, rfl⟩
theorem EqRs.cons {n : Nat} {a b : D} {as bs : List D} {k l : Bool} (h : EqR n a b k) (t : EqRs n as bs l) : EqRs n (a :: as) (b :: bs) (k && l) := by
  obtain ⟨p, q, e1, e2, c1, c2, d1, d2, e⟩ := h
  obtain ⟨ps, qs, f1, f2, g1, g2, i1, i2, f⟩ := t
  refine ⟨p :: ps, q :: qs, by simp only [toPs, e1, f1], by simp only [toPs, e2, f2], by simp only [PyData.canLayAll0, c1, g1, Bool.and_self], by simp only [PyData.canLayAll0, c2, g2, Bool.and_self], ?_, ?_, by simp only [PyData.eqvAll, e, f]⟩
  · simp only [PyData.depthAll]; omega
  · simp only [PyData.depthAll]; omega
theorem names_p {xs : List Str} (h : ∀ x ∈ xs, PyData.strOk x = true) : toPs (xs.map D.str) = some (xs.map PyData.str) ∧ PyData.canLayAll0 (xs.map PyData.str) = true ∧ PyData.depthAll (xs.map PyData.str) = 0 := by
  induction xs with
  | nil => exact ⟨rfl, rfl, rfl⟩
  | cons x xs ih =>
    obtain ⟨h1, h2, h3⟩ := ih fun z hz => h z (List.mem_cons_of_mem _ hz)
    refine ⟨by simp only [List.map_cons, toPs, toP, h1], ?_, ?_⟩
    · have hx : PyData.canLay0 (.str x) = true := h x List.mem_cons_self
      simp only [List.map_cons, PyData.canLayAll0, hx, h2, Bool.and_self]
    · simp only [List.map_cons, PyData.depthAll, h3, PyData.depth, Nat.max_self]
theorem names_e : ∀ (xs ys : List Str), PyData.eqvAll (xs.map PyData.str) (ys.map PyData.str) = decide (xs = ys)
  | [], [] => rfl
  | [], _ :: _ => rfl
  | _ :: _, [] => rfl
  | x :: xs, y :: ys => by
    have e : decide (x :: xs = y :: ys) = (decide (x = y) && decide (xs = ys)) := by
      rw [Bool.eq_iff_iff]
      simp
    rw [e]
    simp only [List.map_cons, PyData.eqvAll, names_e xs ys, PyData.eqv]
    rfl
theorem EqRs.names {n : Nat} {xs ys : List Str} (hx : ∀ x ∈ xs, PyData.strOk x = true) (hy : ∀ x ∈ ys, PyData.strOk x = true) : EqRs n (xs.map D.str) (ys.map D.str) (decide (xs = ys)) := by
  obtain ⟨a1, a2, a3⟩ := names_p hx
  obtain ⟨b1, b2, b3⟩ := names_p hy
  exact ⟨_, _, a1, b1, a2, b2, by omega, by omega, names_e xs ys⟩
section
variable {P : Prog} {O : Oc} {σ : List Sl} {X : Ex → List Sl → Prop} {Q : R → List Sl → Prop} {r q : R} {y : D}
theorem e_eqS {x : Str} : wp (cmpM P O .Eq r q (.str x) y) σ Q X = wp (ofO (eqD (.str x) y)) σ (fun k σ1 => Q (.val (.bl k)) σ1) X := e_eqD (by intros; simp)
theorem e_eqT {x : List D} : wp (cmpM P O .Eq r q (.tup x) y) σ Q X = wp (ofO (eqD (.tup x) y)) σ (fun k σ1 => Q (.val (.bl k)) σ1) X := e_eqD (by intros; simp)
theorem e_eqL {x : List D} : wp (cmpM P O .Eq r q (.lst x) y) σ Q X = wp (ofO (eqD (.lst x) y)) σ (fun k σ1 => Q (.val (.bl k)) σ1) X := e_eqD (by intros; simp)
theorem e_eqB {x : Bool} : wp (cmpM P O .Eq r q (.bl x) y) σ Q X = wp (ofO (eqD (.bl x) y)) σ (fun k σ1 => Q (.val (.bl k)) σ1) X := e_eqD (by intros; simp)
theorem e_neS {x : Str} : wp (cmpM P O .NotEq r q (.str x) y) σ Q X = wp (ofO (eqD (.str x) y)) σ (fun k σ1 => Q (.val (.bl (!k))) σ1) X := e_neD (by intros; simp)
theorem e_neT {x : List D} : wp (cmpM P O .NotEq r q (.tup x) y) σ Q X = wp (ofO (eqD (.tup x) y)) σ (fun k σ1 => Q (.val (.bl (!k))) σ1) X := e_neD (by intros; simp)
theorem e_neL {x : List D} : wp (cmpM P O .NotEq r q (.lst x) y) σ Q X = wp (ofO (eqD (.lst x) y)) σ (fun k σ1 => Q (.val (.bl (!k))) σ1) X := e_neD (by intros; simp)
theorem e_neB {x : Bool} : wp (cmpM P O .NotEq r q (.bl x) y) σ Q X = wp (ofO (eqD (.bl x) y)) σ (fun k σ1 => Q (.val (.bl (!k))) σ1) X := e_neD (by intros; simp)
theorem eqD_bl {a b : Bool} : eqD (.bl a) (.bl b) = some (a == b) := (EqR.bl (n := 0) a b).eqD (by decide)
/-- == of instances by an own __eq__ -/
theorem e_eqM {C f : Nat} {ns ns' : List Nat} {ds ds' : List D} (h : lookupAt C nEq P = some (.meth f)) : wp (cmpM P O .Eq r q (.ins C ns ds) (.ins C ns' ds')) σ Q X = wp (callF P O.c2 f [r, q]) σ (blK fun b σ1 => Q (.val (.bl b)) σ1) (fun _ _ => False) := by
  show wp (if C = C then eqM P O C r q (fun b => b) else stuck) σ Q X = _
  rw [if_pos rfl]
  unfold eqM
  rw [e_bnd, e_specN h, okBool_e]
  congr 1
theorem e_neM {C f : Nat} {ns ns' : List Nat} {ds ds' : List D} (h : lookupAt C nEq P = some (.meth f)) : wp (cmpM P O .NotEq r q (.ins C ns ds) (.ins C ns' ds')) σ Q X = wp (callF P O.c2 f [r, q]) σ (blK fun b σ1 => Q (.val (.bl (!b))) σ1) (fun _ _ => False) := by
  show wp (if C = C then eqM P O C r q (fun b => !b) else stuck) σ Q X = _
  rw [if_pos rfl]
  unfold eqM
  rw [e_bnd, e_specN h, okBool_e]
  congr 1
end
end EV

set_option Elab.async false
set_option linter.all false
set_option maxRecDepth 100000
set_option maxHeartbeats 0
namespace LW
open PySem L2 EV
def top (i : Nat) : Stmt := PySem.Challenge.pw_undotables_k15_whole_repeats_of_repeats.main.body.getD i (.Pass ⟨0, 0, 0, 0⟩)
def clB : Stmt → List Stmt
  | .ClassDef _ _ _ b _ _ _ _ _ _ _ => b
  | _ => []
def inn (i j : Nat) : Stmt := (clB (top i)).getD j (.Pass ⟨0, 0, 0, 0⟩)
def f_InvalidName___init__ : Fn := ⟨2, 2, false, [], (.seq (.setat 0 21 (.v 1)) .nil)⟩
def f_InvalidNames___init__ : Fn := ⟨2, 2, false, [], (.seq (.setat 0 5 (.v 1)) .nil)⟩
def f_InvalidAmount___init__ : Fn := ⟨2, 2, false, [], (.seq (.setat 0 22 (.v 1)) .nil)⟩
def f_InvalidProgram___init__ : Fn := ⟨2, 2, false, [], (.seq (.setat 0 5 (.v 1)) .nil)⟩
def f_InvalidText___init__ : Fn := ⟨2, 2, false, [], (.seq (.setat 0 23 (.v 1)) .nil)⟩
def f_NotAHistory___init__ : Fn := ⟨2, 2, false, [], (.seq (.setat 0 25 (.v 1)) .nil)⟩
def f_is_integer : Fn := ⟨1, 1, false, [], (.seq (.ret (.and (.bi .isinst (.arg (.b 0) (.arg (.c (.ty .int)) .nil))) (.not (.bi .isinst (.arg (.b 0) (.arg (.c (.ty .bool)) .nil)))))) .nil)⟩
def f_is_name : Fn := ⟨1, 2, false, [], (.seq (.ret (.and (.bi .isinst (.arg (.b 0) (.arg (.c (.ty .str)) .nil))) (.and (.cmp2 .LtE .LtE (.c (.int 1)) (.bi .len (.arg (.b 0) .nil)) (.g 2001)) (.bi .all (.arg (.lc (.cmp .In (.b 1) (.g 2000)) (.name 1) [1] (.sq (.b 0)) (.tr (.c (.bl true)))) .nil))))) .nil)⟩
def f_is_amount : Fn := ⟨1, 1, false, [], (.seq (.ret (.or (.cmp .Is (.b 0) (.c .non)) (.and (.call 16 (.arg (.b 0) .nil)) (.cmp .GtE (.b 0) (.c (.int 1)))))) .nil)⟩
def f_check_name : Fn := ⟨1, 1, false, [], (.seq (.ite (.tn (.tr (.call 17 (.arg (.b 0) .nil)))) (.seq .bad .nil) .nil) .nil)⟩
def f_check_names : Fn := ⟨1, 3, false, [], (.seq (.ite (.tn (.tr (.bi .isinst (.arg (.b 0) (.arg (.c (.ty .tuple)) .nil))))) (.seq .bad .nil) .nil) (.seq (.for (.tup (.cons (.name 1) (.cons (.name 2) .nil))) (.enm (.b 0)) (.seq (.ite (.tn (.tr (.call 17 (.arg (.b 2) .nil)))) (.seq .bad .nil) .nil) .nil)) .nil))⟩
def f_check_amount : Fn := ⟨1, 1, false, [], (.seq (.ite (.tn (.tr (.call 18 (.arg (.b 0) .nil)))) (.seq .bad .nil) .nil) .nil)⟩
def f_check_history : Fn := ⟨1, 1, false, [], (.seq (.ite (.tn (.tr (.bi .isinst (.arg (.b 0) (.arg (.g 1020) .nil))))) (.seq .bad .nil) .nil) .nil)⟩
def f_moved : Fn := ⟨4, 5, false, [], (.seq (.ite (.tc .Eq (.b 2) (.c (.str "undo"))) (.seq (.set (.name 4) (.ife (.tc .Is (.b 3) (.c .non)) (.c (.int 0)) (.bi .max (.arg (.c (.int 0)) (.arg (.bin .Sub (.bi .len (.arg (.b 0) .nil)) (.b 3)) .nil))))) (.seq (.ret (.tup (.arg (.sl (.b 0) .nil (.pt (.b 4))) (.arg (.bin .Add (.sl (.b 0) (.pt (.b 4)) .nil) (.b 1)) .nil)))) .nil)) .nil) (.seq (.set (.name 4) (.ife (.tc .Is (.b 3) (.c .non)) (.bi .len (.arg (.b 1) .nil)) (.bi .min (.arg (.bi .len (.arg (.b 1) .nil)) (.arg (.b 3) .nil))))) (.seq (.ret (.tup (.arg (.bin .Add (.b 0) (.sl (.b 1) .nil (.pt (.b 4)))) (.arg (.sl (.b 1) (.pt (.b 4)) .nil) .nil)))) .nil)))⟩
def f_carried : Fn := ⟨3, 3, false, [], (.seq (.ite (.tc .Eq (.ix (.b 2) (.c (.int 0))) (.c (.str "do"))) (.seq (.ret (.tup (.arg (.bin .Add (.b 0) (.tup (.arg (.ix (.b 2) (.c (.int 1))) .nil))) (.arg (.tup .nil) .nil)))) .nil) .nil) (.seq (.ret (.call 25 (.arg (.b 0) (.arg (.b 1) (.arg (.ix (.b 2) (.c (.int 0))) (.arg (.ix (.b 2) (.c (.int 1))) .nil)))))) .nil))⟩
def f_History___init__ : Fn := ⟨3, 3, false, [(.tup []), (.tup [])], (.seq (.expr (.call 21 (.arg (.b 1) .nil))) (.seq (.expr (.call 21 (.arg (.b 2) .nil))) (.seq (.setat 0 35 (.v 1)) (.seq (.setat 0 36 (.v 2)) .nil))))⟩
def f_History_line : Fn := ⟨1, 1, false, [], (.seq (.ret (.bin .Add (.attr (.b 0) 35) (.attr (.b 0) 36))) .nil)⟩
def f_History_do : Fn := ⟨2, 2, false, [], (.seq (.expr (.call 20 (.arg (.b 1) .nil))) (.seq (.ret (.mk 1020 (.arg (.bin .Add (.attr (.b 0) 35) (.tup (.arg (.v 1) .nil))) .nil))) .nil))⟩
def f_History_undo : Fn := ⟨2, 4, false, [(.int 1)], (.seq (.expr (.call 22 (.arg (.b 1) .nil))) (.seq (.set (.tup (.cons (.name 2) (.cons (.name 3) .nil))) (.call 25 (.arg (.attr (.b 0) 35) (.arg (.attr (.b 0) 36) (.arg (.c (.str "undo")) (.arg (.b 1) .nil)))))) (.seq (.ret (.mk 1020 (.arg (.b 2) (.arg (.b 3) .nil)))) .nil)))⟩
def f_History_redo : Fn := ⟨2, 4, false, [(.int 1)], (.seq (.expr (.call 22 (.arg (.b 1) .nil))) (.seq (.set (.tup (.cons (.name 2) (.cons (.name 3) .nil))) (.call 25 (.arg (.attr (.b 0) 35) (.arg (.attr (.b 0) 36) (.arg (.c (.str "redo")) (.arg (.b 1) .nil)))))) (.seq (.ret (.mk 1020 (.arg (.b 2) (.arg (.b 3) .nil)))) .nil)))⟩
def f_History___contains__ : Fn := ⟨2, 3, false, [], (.seq (.ret (.bi .any (.arg (.lc (.cmp .Eq (.b 2) (.b 1)) (.name 2) [2] (.sq (.attr (.b 0) 35)) (.tr (.c (.bl true)))) .nil))) .nil)⟩
def f_History___eq__ : Fn := ⟨2, 2, false, [], (.seq (.ret (.and (.bi .isinst (.arg (.b 1) (.arg (.g 1020) .nil))) (.and (.cmp .Eq (.attr (.b 0) 35) (.attr (.b 1) 35)) (.cmp .Eq (.attr (.b 0) 36) (.attr (.b 1) 36))))) .nil)⟩
def f_History___len__ : Fn := ⟨1, 1, false, [], (.seq (.ret (.bi .len (.arg (.bin .Add (.attr (.b 0) 35) (.attr (.b 0) 36)) .nil))) .nil)⟩
def f_History___str__ : Fn := ⟨1, 1, false, [], (.seq (.ret (.smeth (.c (.str " ")) 1 (.arg (.lst (.star (.attr (.b 0) 35) (.arg (.c (.str "|")) (.star (.attr (.b 0) 36) .nil)))) .nil))) .nil)⟩
def f_History___repr__ : Fn := ⟨1, 1, false, [], (.seq (.ret (.fst (.arg (.c (.str "History(")) (.arg (.fmt (.bi .len (.arg (.attr (.b 0) 35) .nil))) (.arg (.c (.str ", ")) (.arg (.fmt (.bi .len (.arg (.attr (.b 0) 36) .nil))) (.arg (.c (.str ")")) .nil))))))) .nil)⟩
def f_is_move : Fn := ⟨1, 1, false, [], (.seq (.ite (.to (.tn (.tr (.bi .isinst (.arg (.b 0) (.arg (.c (.ty .tuple)) .nil))))) (.to (.tc .NotEq (.bi .len (.arg (.b 0) .nil)) (.c (.int 2))) (.tn (.tr (.bi .isinst (.arg (.ix (.b 0) (.c (.int 0))) (.arg (.c (.ty .str)) .nil))))))) (.seq (.ret (.c (.bl false))) .nil) .nil) (.seq (.ret (.and (.cmp .In (.ix (.b 0) (.c (.int 0))) (.g 2002)) (.call 18 (.arg (.ix (.b 0) (.c (.int 1))) .nil)))) .nil))⟩
def f_are_moves : Fn := ⟨1, 2, false, [], (.seq (.ret (.and (.bi .isinst (.arg (.b 0) (.arg (.c (.ty .tuple)) .nil))) (.and (.cmp .Gt (.bi .len (.arg (.b 0) .nil)) (.c (.int 0))) (.bi .all (.arg (.lc (.call 38 (.arg (.b 1) .nil)) (.name 1) [1] (.sq (.b 0)) (.tr (.c (.bl true)))) .nil))))) .nil)⟩
def f_is_command : Fn := ⟨1, 1, false, [], (.seq (.ite (.to (.tn (.tr (.bi .isinst (.arg (.b 0) (.arg (.c (.ty .tuple)) .nil))))) (.to (.tc .Eq (.bi .len (.arg (.b 0) .nil)) (.c (.int 0))) (.tn (.tr (.bi .isinst (.arg (.ix (.b 0) (.c (.int 0))) (.arg (.c (.ty .str)) .nil))))))) (.seq (.ret (.c (.bl false))) .nil) .nil) (.seq (.ite (.tc .Eq (.ix (.b 0) (.c (.int 0))) (.c (.str "do"))) (.seq (.ret (.and (.cmp .Eq (.bi .len (.arg (.b 0) .nil)) (.c (.int 2))) (.call 17 (.arg (.ix (.b 0) (.c (.int 1))) .nil)))) .nil) .nil) (.seq (.ite (.tc .Eq (.ix (.b 0) (.c (.int 0))) (.c (.str "repeat"))) (.seq (.ret (.and (.cmp .Eq (.bi .len (.arg (.b 0) .nil)) (.c (.int 3))) (.and (.call 16 (.arg (.ix (.b 0) (.c (.int 1))) .nil)) (.and (.cmp .GtE (.ix (.b 0) (.c (.int 1))) (.c (.int 1))) (.call 39 (.arg (.ix (.b 0) (.c (.int 2))) .nil)))))) .nil) .nil) (.seq (.ret (.call 38 (.arg (.b 0) .nil))) .nil))))⟩
def f_check_commands : Fn := ⟨1, 3, false, [], (.seq (.ite (.tn (.tr (.bi .isinst (.arg (.b 0) (.arg (.c (.ty .tuple)) .nil))))) (.seq .bad .nil) .nil) (.seq (.for (.tup (.cons (.name 1) (.cons (.name 2) .nil))) (.enm (.b 0)) (.seq (.ite (.tn (.tr (.call 40 (.arg (.b 2) .nil)))) (.seq .bad .nil) .nil) .nil)) .nil))⟩
def f_command_text : Fn := ⟨1, 3, false, [], (.seq (.ite (.tc .Eq (.ix (.b 0) (.c (.int 0))) (.c (.str "do"))) (.seq (.ret (.fst (.arg (.c (.str "do ")) (.arg (.fmt (.ix (.b 0) (.c (.int 1)))) .nil)))) .nil) .nil) (.seq (.ite (.tc .Eq (.ix (.b 0) (.c (.int 0))) (.c (.str "repeat"))) (.seq (.set (.name 1) (.smeth (.c (.str ", ")) 1 (.arg (.lc (.call 43 (.arg (.b 2) .nil)) (.name 2) [2] (.sq (.ix (.b 0) (.c (.int 2)))) (.tr (.c (.bl true)))) .nil))) (.seq (.ret (.fst (.arg (.fmt (.ix (.b 0) (.c (.int 1)))) (.arg (.fmt (.g 2006)) (.arg (.fmt (.b 1)) (.arg (.c (.str ")")) .nil)))))) .nil)) .nil) (.seq (.ret (.ife (.tc .Is (.ix (.b 0) (.c (.int 1))) (.c .non)) (.fst (.arg (.fmt (.ix (.b 0) (.c (.int 0)))) (.arg (.c (.str " ")) (.arg (.fmt (.g 2005)) .nil)))) (.fst (.arg (.fmt (.ix (.b 0) (.c (.int 0)))) (.arg (.c (.str " ")) (.arg (.fmt (.ix (.b 0) (.c (.int 1)))) .nil)))))) .nil)))⟩
def f_number_in : Fn := ⟨1, 2, false, [], (.seq (.ite (.to (.tc .Eq (.b 0) (.c (.str ""))) (.to (.tc .Eq (.ix (.b 0) (.c (.int 0))) (.c (.str "0"))) (.tn (.tr (.bi .all (.arg (.lc (.cmp .In (.b 1) (.g 2003)) (.name 1) [1] (.sq (.b 0)) (.tr (.c (.bl true)))) .nil)))))) (.seq (.ret (.c .non)) .nil) .nil) (.seq (.ret (.bi .int (.arg (.b 0) .nil))) .nil))⟩
def f_plain_in : Fn := ⟨1, 6, false, [], (.seq (.set (.tup (.cons (.name 1) (.cons (.name 2) (.cons (.name 3) .nil)))) (.smeth (.b 0) 9 (.arg (.c (.str " ")) .nil))) (.seq (.set (.name 4) (.tup (.arg (.v 1) (.arg (.v 3) .nil)))) (.seq (.ite (.ta (.tc .In (.b 1) (.g 2002)) (.tc .NotEq (.b 3) (.g 2005))) (.seq (.set (.name 5) (.call 44 (.arg (.b 3) .nil))) (.seq (.ret (.ife (.tc .Is (.b 5) (.c .non)) (.c .non) (.tup (.arg (.v 1) (.arg (.v 5) .nil))))) .nil)) .nil) (.seq (.ite (.tc .In (.b 1) (.g 2002)) (.seq (.set (.name 4) (.tup (.arg (.v 1) (.arg (.c .non) .nil)))) .nil) .nil) (.seq (.ret (.ife (.tr (.call 40 (.arg (.b 4) .nil))) (.v 4) (.c .non))) .nil)))))⟩
def f_command_in : Fn := ⟨1, 7, false, [], (.seq (.set (.tup (.cons (.name 1) (.cons (.name 2) (.cons (.name 3) .nil)))) (.smeth (.b 0) 9 (.arg (.g 2006) .nil))) (.seq (.ite (.tc .Eq (.b 2) (.c (.str ""))) (.seq (.ret (.call 45 (.arg (.b 0) .nil))) .nil) .nil) (.seq (.set (.name 4) (.call 44 (.arg (.b 1) .nil))) (.seq (.set (.name 5) (.tup (.arg (.c (.str "repeat")) (.arg (.v 4) (.arg (.bi .tuple (.arg (.lc (.call 45 (.arg (.b 6) .nil)) (.name 6) [6] (.sq (.smeth (.sl (.b 3) .nil (.pt (.neg (.c (.int 1))))) 8 (.arg (.c (.str ", ")) .nil))) (.tr (.c (.bl true)))) .nil)) .nil))))) (.seq (.ret (.ife (.ta (.tr (.smeth (.b 3) 10 (.arg (.c (.str ")")) .nil))) (.ta (.tc .IsNot (.b 4) (.c .non)) (.tr (.call 40 (.arg (.b 5) .nil))))) (.v 5) (.c .non))) .nil)))))⟩
def f_parsed : Fn := ⟨1, 3, false, [], (.seq (.ite (.tc .Eq (.b 0) (.g 2004)) (.seq (.ret (.tup .nil)) .nil) .nil) (.seq (.set (.name 1) (.bi .tuple (.arg (.lc (.call 46 (.arg (.b 2) .nil)) (.name 2) [2] (.sq (.smeth (.b 0) 8 (.arg (.c (.str "; ")) .nil))) (.tr (.c (.bl true)))) .nil))) (.seq (.ret (.ife (.tc .In (.c .non) (.b 1)) (.c .non) (.v 1))) .nil)))⟩
def f_place_moved : Fn := ⟨3, 6, false, [], (.seq (.for (.tup (.cons (.name 3) (.cons (.name 4) .nil))) (.sq (.b 2)) (.seq (.set (.name 5) (.ife (.tc .Is (.b 4) (.c .non)) (.v 1) (.v 4))) (.seq (.set (.name 0) (.ife (.tc .Eq (.b 3) (.c (.str "undo"))) (.bi .max (.arg (.c (.int 0)) (.arg (.bin .Sub (.b 0) (.b 5)) .nil))) (.bi .min (.arg (.b 1) (.arg (.bin .Add (.b 0) (.b 5)) .nil))))) .nil))) (.seq (.retv 0) .nil))⟩
def f_turned : Fn := ⟨4, 12, false, [], (.seq (.par [4, 5] (.arg (.bin .Add (.b 0) (.b 1)) (.arg (.c (.int 0)) .nil))) (.seq (.for (.tup (.cons (.name 6) (.cons (.name 7) .nil))) (.sq (.b 2)) (.seq (.set (.name 8) (.ife (.tc .Is (.b 7) (.c .non)) (.v 4) (.v 7))) (.seq (.aug 5 .Add (.ife (.tc .Eq (.b 6) (.c (.str "redo"))) (.v 8) (.bin .Sub (.c (.int 0)) (.b 8)))) .nil))) (.seq (.par [9, 10] (.arg (.call 48 (.arg (.c (.int 0)) (.arg (.b 4) (.arg (.b 2) .nil)))) (.arg (.call 48 (.arg (.b 4) (.arg (.b 4) (.arg (.b 2) .nil)))) .nil))) (.seq (.set (.name 11) (.bin .Add (.call 48 (.arg (.b 0) (.arg (.b 4) (.arg (.b 2) .nil)))) (.bin .Mult (.bin .Sub (.b 3) (.c (.int 1))) (.b 5)))) (.seq (.set (.name 11) (.bi .min (.arg (.bi .max (.arg (.b 11) (.arg (.b 9) .nil))) (.arg (.b 10) .nil)))) (.seq (.ret (.tup (.arg (.v 11) (.arg (.bin .Sub (.b 4) (.b 11)) .nil)))) .nil))))))⟩
def f_followed : Fn := ⟨3, 5, false, [], (.seq (.ite (.tc .NotEq (.ix (.b 2) (.c (.int 0))) (.c (.str "repeat"))) (.seq (.ret (.call 26 (.arg (.b 0) (.arg (.b 1) (.arg (.b 2) .nil))))) .nil) .nil) (.seq (.set (.name 3) (.ix (.call 49 (.arg (.bi .len (.arg (.b 0) .nil)) (.arg (.bi .len (.arg (.b 1) .nil)) (.arg (.ix (.b 2) (.c (.int 2))) (.arg (.ix (.b 2) (.c (.int 1))) .nil))))) (.c (.int 0)))) (.seq (.set (.name 4) (.bin .Add (.b 0) (.b 1))) (.seq (.ret (.tup (.arg (.sl (.b 4) .nil (.pt (.b 3))) (.arg (.sl (.b 4) (.pt (.b 3)) .nil) .nil)))) .nil))))⟩
def f_Program___init__ : Fn := ⟨2, 2, true, [], (.seq (.expr (.call 41 (.arg (.b 1) .nil))) (.seq (.setat 0 43 (.v 1)) .nil))⟩
def f_Program_names : Fn := ⟨1, 2, false, [], (.seq (.ret (.bi .tuple (.arg (.lc (.ix (.b 1) (.c (.int 1))) (.name 1) [1] (.sq (.attr (.b 0) 43)) (.tc .Eq (.ix (.b 1) (.c (.int 0))) (.c (.str "do")))) .nil))) .nil)⟩
def f_Program___add__ : Fn := ⟨2, 3, false, [], (.seq (.set (.name 2) (.bin .Add (.attr (.b 0) 43) (.attr (.b 1) 43))) (.seq (.ret (.mk 1021 (.star (.b 2) .nil))) .nil))⟩
def f_Program___contains__ : Fn := ⟨2, 3, false, [], (.seq (.ret (.bi .any (.arg (.lc (.cmp .Eq (.b 2) (.b 1)) (.name 2) [2] (.sq (.attr (.b 0) 39)) (.tr (.c (.bl true)))) .nil))) .nil)⟩
def f_Program___eq__ : Fn := ⟨2, 2, false, [], (.seq (.ret (.and (.bi .isinst (.arg (.b 1) (.arg (.g 1021) .nil))) (.cmp .Eq (.attr (.b 0) 43) (.attr (.b 1) 43)))) .nil)⟩
def f_Program___len__ : Fn := ⟨1, 1, false, [], (.seq (.ret (.bi .len (.arg (.attr (.b 0) 43) .nil))) .nil)⟩
def f_Program___str__ : Fn := ⟨1, 2, false, [], (.seq (.ret (.smeth (.c (.str "; ")) 1 (.arg (.ife (.tr (.attr (.b 0) 43)) (.lc (.call 43 (.arg (.b 1) .nil)) (.name 1) [1] (.sq (.attr (.b 0) 43)) (.tr (.c (.bl true)))) (.lst (.arg (.g 2004) .nil))) .nil))) .nil)⟩
def f_Program___repr__ : Fn := ⟨1, 1, false, [], (.seq (.ret (.fst (.arg (.c (.str "Program(")) (.arg (.fmt (.bi .len (.arg (.attr (.b 0) 43) .nil))) (.arg (.c (.str ")")) .nil))))) .nil)⟩
def f_Program___call__ : Fn := ⟨2, 5, false, [], (.seq (.expr (.call 24 (.arg (.b 1) .nil))) (.seq (.par [2, 3] (.arg (.attr (.b 1) 35) (.arg (.attr (.b 1) 36) .nil))) (.seq (.for (.name 4) (.sq (.attr (.b 0) 43)) (.seq (.set (.tup (.cons (.name 2) (.cons (.name 3) .nil))) (.call 50 (.arg (.b 2) (.arg (.b 3) (.arg (.b 4) .nil))))) .nil)) (.seq (.ret (.mk 1020 (.arg (.b 2) (.arg (.b 3) .nil)))) .nil))))⟩
def f__law_cell : Fn := ⟨2, 4, false, [], (.seq (.ite (.tc .Lt (.b 1) (.bi .len (.arg (.b 0) .nil))) (.seq (.ret (.ix (.b 0) (.b 1))) .nil) .nil) (.seq (.set (.name 2) (.bin .Mod (.bin .Mult (.c (.int 61027)) (.bin .Add (.bin .Add (.bin .Mult (.b 1) (.b 1)) (.bin .Mult (.c (.int 7)) (.b 1))) (.c (.int 5)))) (.c (.int 2147483477)))) (.seq (.for (.name 3) (.sq (.sl (.b 0) .nil (.pt (.c (.int 3))))) (.seq (.set (.name 2) (.bin .Mod (.bin .Add (.bin .Mult (.b 2) (.c (.int 42019))) (.b 3)) (.c (.int 2147483477)))) .nil)) (.seq (.retv 2) .nil))))⟩
def f__law_pool : Fn := ⟨1, 2, false, [], (.seq (.set (.name 1) (.ife (.to (.tc .Lt (.b 0) (.c (.int 0))) (.tc .GtE (.b 0) (.bin .Pow (.c (.int 10)) (.c (.int 18))))) (.bi .abs (.arg (.b 0) .nil)) (.c (.int 0)))) (.seq (.ret (.lst (.arg (.bin .Mod (.b 0) (.c (.int 2147483477))) (.arg (.v 1) (.arg (.c (.int 0)) .nil))))) .nil))⟩
def f__law_draw : Fn := ⟨2, 4, false, [], (.seq (.setix 0 (.c (.int 2)) (.bin .Add (.ix (.b 0) (.c (.int 2))) (.c (.int 1)))) (.seq (.set (.name 2) (.ix (.b 0) (.c (.int 0)))) (.seq (.setix 0 (.c (.int 0)) (.bin .Mod (.bin .Add (.bin .Add (.bin .Mult (.b 2) (.bin .Add (.bin .Mod (.b 2) (.c (.int 41017))) (.c (.int 27011)))) (.bin .Mult (.c (.int 50021)) (.ix (.b 0) (.c (.int 2))))) (.c (.int 13))) (.c (.int 2147483477)))) (.seq (.ite (.tc .Gt (.ix (.b 0) (.c (.int 1))) (.c (.int 0))) (.seq (.unp 0 1 3 (.bi .divmod (.arg (.ix (.b 0) (.c (.int 1))) (.arg (.b 1) .nil)))) (.seq (.retv 3) .nil)) .nil) (.seq (.ret (.bin .Mod (.bin .FloorDiv (.ix (.b 0) (.c (.int 0))) (.c (.int 32))) (.b 1))) .nil)))))⟩
def f__law_calls : Fn := ⟨2, 9, false, [], (.seq (.set (.name 2) (.lst (.arg (.c (.str "do")) (.arg (.c (.str "undo")) (.arg (.c (.str "redo")) (.arg (.c (.str "all")) (.arg (.c (.str "times")) (.arg (.c (.str "keep")) (.arg (.c (.str "old")) (.arg (.c (.str "item")) (.arg (.c (.str "save")) (.arg (.c (.str "nothing")) (.arg (.c (.str "none")) (.arg (.c (.str "always")) .nil)))))))))))))) (.seq (.par [3, 4] (.arg (.call 191 (.arg (.b 0) (.arg (.c (.int 12)) .nil))) (.arg (.call 191 (.arg (.b 0) (.arg (.c (.int 4)) .nil))) .nil))) (.seq (.ite (.tc .Eq (.b 4) (.c (.int 0))) (.seq (.ret (.lc (.ix (.b 2) (.bin .Mod (.bin .Add (.b 3) (.bin .Mult (.c (.int 5)) (.b 8))) (.c (.int 12)))) (.name 8) [8] (.rng (.arg (.b 1) .nil)) (.tr (.c (.bl true))))) .nil) .nil) (.seq (.set (.name 5) (.c (.str "abcdefghijklmnopqrstuvwxyz"))) (.seq (.ite (.tc .Eq (.b 4) (.c (.int 1))) (.seq (.ret (.lc (.bin .Mult (.ix (.b 5) (.bin .Mod (.bin .Add (.b 3) (.bin .Mult (.c (.int 7)) (.b 8))) (.c (.int 26)))) (.bin .Add (.c (.int 1)) (.bin .Mod (.b 8) (.c (.int 8))))) (.name 8) [8] (.rng (.arg (.b 1) .nil)) (.tr (.c (.bl true))))) .nil) .nil) (.seq (.ite (.tc .Eq (.b 4) (.c (.int 2))) (.seq (.ret (.lc (.ix (.lst (.arg (.c (.str "a")) (.arg (.c (.str "b")) .nil))) (.call 191 (.arg (.b 0) (.arg (.c (.int 2)) .nil)))) (.name 8) [8] (.rng (.arg (.b 1) .nil)) (.tr (.c (.bl true))))) .nil) .nil) (.seq (.set (.name 6) (.smeth (.c (.str "")) 1 (.arg (.lc (.ix (.b 5) (.call 191 (.arg (.b 0) (.arg (.c (.int 26)) .nil)))) (.name 8) [8] (.rng (.arg (.call 191 (.arg (.b 0) (.arg (.c (.int 8)) .nil))) .nil)) (.tr (.c (.bl true)))) .nil))) (.seq (.set (.name 7) (.call 191 (.arg (.b 0) (.arg (.bin .Add (.bi .len (.arg (.b 6) .nil)) (.c (.int 1))) .nil)))) (.seq (.ret (.lc (.bin .Add (.bin .Add (.sl (.b 6) .nil (.pt (.b 7))) (.ix (.b 5) (.bin .Mod (.bin .Add (.b 3) (.bin .Mult (.c (.int 5)) (.b 8))) (.c (.int 26))))) (.sl (.b 6) (.pt (.b 7)) .nil)) (.name 8) [8] (.rng (.arg (.b 1) .nil)) (.tr (.c (.bl true))))) .nil)))))))))⟩
def f__law_front : Fn := ⟨2, 4, false, [], (.seq (.set (.name 2) (.call 197 (.arg (.b 0) (.arg (.c (.int 12)) .nil)))) (.seq (.ret (.lc (.ix (.b 2) (.call 191 (.arg (.b 0) (.arg (.c (.int 12)) .nil)))) (.name 3) [3] (.rng (.arg (.b 1) .nil)) (.tr (.c (.bl true))))) .nil))⟩
def f__law_inner : Fn := ⟨1, 4, false, [], (.seq (.set (.name 1) (.lst .nil)) (.seq (.for (.name 2) (.rng (.arg (.bin .Add (.c (.int 1)) (.call 191 (.arg (.b 0) (.arg (.c (.int 5)) .nil)))) .nil)) (.seq (.set (.name 3) (.ix (.lst (.arg (.bin .Add (.c (.int 1)) (.call 191 (.arg (.b 0) (.arg (.c (.int 4)) .nil)))) (.arg (.bin .Add (.c (.int 1)) (.call 191 (.arg (.b 0) (.arg (.c (.int 9)) .nil)))) (.arg (.c .non) (.arg (.bin .Pow (.c (.int 10)) (.c (.int 30))) .nil))))) (.call 191 (.arg (.b 0) (.arg (.c (.int 4)) .nil))))) (.seq (.app 1 (.tup (.arg (.ix (.lst (.arg (.c (.str "undo")) (.arg (.c (.str "redo")) .nil))) (.call 191 (.arg (.b 0) (.arg (.c (.int 2)) .nil)))) (.arg (.v 3) .nil)))) .nil))) (.seq (.ret (.bi .tuple (.arg (.b 1) .nil))) .nil)))⟩
def f__law_turns : Fn := ⟨1, 1, false, [], (.seq (.ret (.ix (.lst (.arg (.bin .Add (.c (.int 1)) (.call 191 (.arg (.b 0) (.arg (.c (.int 6)) .nil)))) (.arg (.bin .Add (.c (.int 1)) (.call 191 (.arg (.b 0) (.arg (.c (.int 40)) .nil)))) (.arg (.bin .Add (.c (.int 1)) (.call 191 (.arg (.b 0) (.arg (.bin .Pow (.c (.int 10)) (.c (.int 30))) .nil)))) .nil)))) (.call 191 (.arg (.b 0) (.arg (.c (.int 3)) .nil))))) .nil)⟩
def f__law_times : Fn := ⟨2, 2, false, [], (.seq (.ret (.mk 1021 (.arg (.tup (.arg (.c (.str "repeat")) (.arg (.v 0) (.arg (.v 1) .nil)))) .nil))) .nil)⟩
def f__law_one_right : Fn := ⟨4, 9, false, [], (.seq (.set (.name 4) (.mk 1021 .nil)) (.seq (.for (.name 5) (.sq (.b 1)) (.seq (.set (.name 4) (.bin .Add (.b 4) (.mk 1021 (.arg (.b 5) .nil)))) .nil)) (.seq (.set (.name 6) (.lst (.arg (.tup (.arg (.bin .Add (.call 242 (.arg (.b 2) (.arg (.b 1) .nil))) (.call 242 (.arg (.b 3) (.arg (.b 1) .nil)))) (.arg (.call 242 (.arg (.bin .Add (.b 2) (.b 3)) (.arg (.b 1) .nil))) .nil))) .nil))) (.seq (.app 6 (.tup (.arg (.bin .Add (.call 242 (.arg (.b 3) (.arg (.b 1) .nil))) (.call 242 (.arg (.b 2) (.arg (.b 1) .nil)))) (.arg (.call 242 (.arg (.bin .Add (.b 2) (.b 3)) (.arg (.b 1) .nil))) .nil)))) (.seq (.app 6 (.tup (.arg (.call 242 (.arg (.b 2) (.arg (.bin .Add (.b 1) (.b 1)) .nil))) (.arg (.call 242 (.arg (.bin .Mult (.c (.int 2)) (.b 2)) (.arg (.b 1) .nil))) .nil)))) (.seq (.app 6 (.tup (.arg (.call 242 (.arg (.c (.int 1)) (.arg (.b 1) .nil))) (.arg (.v 4) .nil)))) (.seq (.app 6 (.tup (.arg (.call 242 (.arg (.c (.int 2)) (.arg (.b 1) .nil))) (.arg (.bin .Add (.b 4) (.b 4)) .nil)))) (.seq (.app 6 (.tup (.arg (.bin .Add (.b 4) (.call 242 (.arg (.b 3) (.arg (.b 1) .nil)))) (.arg (.call 242 (.arg (.bin .Add (.b 3) (.c (.int 1))) (.arg (.b 1) .nil))) .nil)))) (.seq (.ret (.bi .all (.arg (.lc (.and (.cmp .Eq (.callv (.b 7) (.arg (.b 0) .nil)) (.callv (.b 8) (.arg (.b 0) .nil))) (.cmp .Eq (.bi .str (.arg (.callv (.b 7) (.arg (.b 0) .nil)) .nil)) (.bi .str (.arg (.callv (.b 8) (.arg (.b 0) .nil)) .nil)))) (.tup (.cons (.name 7) (.cons (.name 8) .nil))) [7, 8] (.sq (.b 6)) (.tr (.c (.bl true)))) .nil))) .nil)))))))))⟩
def f__law_comes_back : Fn := ⟨3, 7, false, [], (.seq (.par [3, 4, 5] (.arg (.call 242 (.arg (.c (.int 1)) (.arg (.b 1) .nil))) (.arg (.lst .nil) (.arg (.b 0) .nil)))) (.seq (.for (.name 6) (.rng (.arg (.c (.int 60)) .nil)) (.seq (.ite (.tc .In (.bi .len (.arg (.attr (.b 5) 35) .nil)) (.b 4)) (.seq .brk .nil) .nil) (.seq (.app 4 (.bi .len (.arg (.attr (.b 5) 35) .nil))) (.seq (.set (.name 5) (.callv (.b 3) (.arg (.b 5) .nil))) .nil)))) (.seq (.ite (.tc .NotEq (.ix (.b 4) (.neg (.c (.int 1)))) (.bi .len (.arg (.attr (.b 5) 35) .nil))) (.seq (.ret (.c (.bl false))) .nil) .nil) (.seq (.ret (.and (.cmp .Eq (.b 5) (.callv (.call 242 (.arg (.bin .Add (.bi .len (.arg (.b 4) .nil)) (.b 2)) (.arg (.b 1) .nil))) (.arg (.b 0) .nil))) (.cmp .Eq (.b 5) (.callv (.b 3) (.arg (.b 5) .nil))))) .nil))))⟩
def f__law_right : Fn := ⟨1, 7, false, [], (.seq (.for (.name 1) (.rng (.arg (.c (.int 5)) .nil)) (.seq (.set (.name 2) (.call 235 (.arg (.b 0) .nil))) (.seq (.for (.name 3) (.sq (.lst (.arg (.c (.int 2)) (.arg (.c (.int 20)) (.arg (.c (.int 20)) .nil))))) (.seq (.par [4, 5] (.arg (.call 231 (.arg (.b 0) (.arg (.call 191 (.arg (.b 0) (.arg (.bin .Add (.b 3) (.c (.int 1))) .nil))) .nil))) (.arg (.call 231 (.arg (.b 0) (.arg (.call 191 (.arg (.b 0) (.arg (.bin .Add (.b 3) (.c (.int 1))) .nil))) .nil))) .nil))) (.seq (.set (.name 6) (.mk 1020 (.arg (.bi .tuple (.arg (.b 4) .nil)) (.arg (.bi .tuple (.arg (.b 5) .nil)) .nil)))) (.seq (.ite (.tn (.tr (.call 217 (.arg (.b 6) (.arg (.b 2) (.arg (.call 241 (.arg (.b 0) .nil)) (.arg (.call 241 (.arg (.b 0) .nil)) .nil))))))) (.seq (.ret (.c (.bl false))) .nil) .nil) (.seq (.ite (.tn (.tr (.call 243 (.arg (.b 6) (.arg (.b 2) (.arg (.call 241 (.arg (.b 0) .nil)) .nil)))))) (.seq (.ret (.c (.bl false))) .nil) .nil) .nil))))) .nil))) (.seq (.ret (.c (.bl true))) .nil))⟩
def f_law : Fn := ⟨1, 2, false, [], (.seq (.ret (.bi .all (.arg (.lc (.call 195 (.arg (.call 190 (.arg (.call 189 (.arg (.b 0) (.arg (.b 1) .nil))) .nil)) .nil)) (.name 1) [1] (.rng (.arg (.bi .max (.arg (.c (.int 2)) (.arg (.bi .min (.arg (.bi .len (.arg (.b 0) .nil)) (.arg (.c (.int 6)) .nil))) .nil))) .nil)) (.tr (.c (.bl true)))) .nil))) .nil)⟩
def e_InvalidName___init__ : EnF := ⟨.meth "InvalidName" "__init__", "__init__", "InvalidName.__init__", defArgs (inn 3 0), defBody (inn 3 0), defScope (inn 3 0), ["self", "name"], ["self", "name"], f_InvalidName___init__⟩
def e_InvalidNames___init__ : EnF := ⟨.meth "InvalidNames" "__init__", "__init__", "InvalidNames.__init__", defArgs (inn 4 0), defBody (inn 4 0), defScope (inn 4 0), ["self", "index"], ["self", "index"], f_InvalidNames___init__⟩
def e_InvalidAmount___init__ : EnF := ⟨.meth "InvalidAmount" "__init__", "__init__", "InvalidAmount.__init__", defArgs (inn 5 0), defBody (inn 5 0), defScope (inn 5 0), ["self", "amount"], ["self", "amount"], f_InvalidAmount___init__⟩
def e_InvalidProgram___init__ : EnF := ⟨.meth "InvalidProgram" "__init__", "__init__", "InvalidProgram.__init__", defArgs (inn 6 0), defBody (inn 6 0), defScope (inn 6 0), ["self", "index"], ["self", "index"], f_InvalidProgram___init__⟩
def e_InvalidText___init__ : EnF := ⟨.meth "InvalidText" "__init__", "__init__", "InvalidText.__init__", defArgs (inn 7 0), defBody (inn 7 0), defScope (inn 7 0), ["self", "text"], ["self", "text"], f_InvalidText___init__⟩
def e_NotAHistory___init__ : EnF := ⟨.meth "NotAHistory" "__init__", "__init__", "NotAHistory.__init__", defArgs (inn 8 0), defBody (inn 8 0), defScope (inn 8 0), ["self", "value"], ["self", "value"], f_NotAHistory___init__⟩
def e_is_integer : EnF := ⟨.glo "is_integer", "is_integer", "is_integer", defArgs (top 12), defBody (top 12), defScope (top 12), ["value"], ["value"], f_is_integer⟩
def e_is_name : EnF := ⟨.glo "is_name", "is_name", "is_name", defArgs (top 13), defBody (top 13), defScope (top 13), ["value", "sign"], ["value"], f_is_name⟩
def e_is_amount : EnF := ⟨.glo "is_amount", "is_amount", "is_amount", defArgs (top 14), defBody (top 14), defScope (top 14), ["value"], ["value"], f_is_amount⟩
def e_check_name : EnF := ⟨.glo "check_name", "check_name", "check_name", defArgs (top 15), defBody (top 15), defScope (top 15), ["name"], ["name"], f_check_name⟩
def e_check_names : EnF := ⟨.glo "check_names", "check_names", "check_names", defArgs (top 16), defBody (top 16), defScope (top 16), ["names", "index", "name"], ["names"], f_check_names⟩
def e_check_amount : EnF := ⟨.glo "check_amount", "check_amount", "check_amount", defArgs (top 17), defBody (top 17), defScope (top 17), ["amount"], ["amount"], f_check_amount⟩
def e_check_history : EnF := ⟨.glo "check_history", "check_history", "check_history", defArgs (top 18), defBody (top 18), defScope (top 18), ["history"], ["history"], f_check_history⟩
def e_moved : EnF := ⟨.glo "moved", "moved", "moved", defArgs (top 19), defBody (top 19), defScope (top 19), ["past", "future", "word", "amount", "cut"], ["past", "future", "word", "amount"], f_moved⟩
def e_carried : EnF := ⟨.glo "carried", "carried", "carried", defArgs (top 20), defBody (top 20), defScope (top 20), ["past", "future", "command"], ["past", "future", "command"], f_carried⟩
def e_History___init__ : EnF := ⟨.meth "History" "__init__", "__init__", "History.__init__", defArgs (inn 21 0), defBody (inn 21 0), defScope (inn 21 0), ["self", "past", "future"], ["self", "past", "future"], f_History___init__⟩
def e_History_line : EnF := ⟨.prop "History" "line", "line", "History.line", defArgs (inn 21 2), defBody (inn 21 2), defScope (inn 21 2), ["self"], ["self"], f_History_line⟩
def e_History_do : EnF := ⟨.meth "History" "do", "do", "History.do", defArgs (inn 21 3), defBody (inn 21 3), defScope (inn 21 3), ["self", "name"], ["self", "name"], f_History_do⟩
def e_History_undo : EnF := ⟨.meth "History" "undo", "undo", "History.undo", defArgs (inn 21 4), defBody (inn 21 4), defScope (inn 21 4), ["self", "amount", "past", "future"], ["self", "amount"], f_History_undo⟩
def e_History_redo : EnF := ⟨.meth "History" "redo", "redo", "History.redo", defArgs (inn 21 5), defBody (inn 21 5), defScope (inn 21 5), ["self", "amount", "past", "future"], ["self", "amount"], f_History_redo⟩
def e_History___contains__ : EnF := ⟨.meth "History" "__contains__", "__contains__", "History.__contains__", defArgs (inn 21 6), defBody (inn 21 6), defScope (inn 21 6), ["self", "name", "item"], ["self", "name"], f_History___contains__⟩
def e_History___eq__ : EnF := ⟨.meth "History" "__eq__", "__eq__", "History.__eq__", defArgs (inn 21 7), defBody (inn 21 7), defScope (inn 21 7), ["self", "other"], ["self", "other"], f_History___eq__⟩
def e_History___len__ : EnF := ⟨.meth "History" "__len__", "__len__", "History.__len__", defArgs (inn 21 8), defBody (inn 21 8), defScope (inn 21 8), ["self"], ["self"], f_History___len__⟩
def e_History___str__ : EnF := ⟨.meth "History" "__str__", "__str__", "History.__str__", defArgs (inn 21 9), defBody (inn 21 9), defScope (inn 21 9), ["self"], ["self"], f_History___str__⟩
def e_History___repr__ : EnF := ⟨.meth "History" "__repr__", "__repr__", "History.__repr__", defArgs (inn 21 10), defBody (inn 21 10), defScope (inn 21 10), ["self"], ["self"], f_History___repr__⟩
def e_is_move : EnF := ⟨.glo "is_move", "is_move", "is_move", defArgs (top 28), defBody (top 28), defScope (top 28), ["value"], ["value"], f_is_move⟩
def e_are_moves : EnF := ⟨.glo "are_moves", "are_moves", "are_moves", defArgs (top 29), defBody (top 29), defScope (top 29), ["value", "item"], ["value"], f_are_moves⟩
def e_is_command : EnF := ⟨.glo "is_command", "is_command", "is_command", defArgs (top 30), defBody (top 30), defScope (top 30), ["value"], ["value"], f_is_command⟩
def e_check_commands : EnF := ⟨.glo "check_commands", "check_commands", "check_commands", defArgs (top 31), defBody (top 31), defScope (top 31), ["commands", "index", "command"], ["commands"], f_check_commands⟩
def e_command_text : EnF := ⟨.glo "command_text", "command_text", "command_text", defArgs (top 32), defBody (top 32), defScope (top 32), ["command", "inner", "move"], ["command"], f_command_text⟩
def e_number_in : EnF := ⟨.glo "number_in", "number_in", "number_in", defArgs (top 33), defBody (top 33), defScope (top 33), ["text", "sign"], ["text"], f_number_in⟩
def e_plain_in : EnF := ⟨.glo "plain_in", "plain_in", "plain_in", defArgs (top 34), defBody (top 34), defScope (top 34), ["text", "first", "space", "rest", "command", "number"], ["text"], f_plain_in⟩
def e_command_in : EnF := ⟨.glo "command_in", "command_in", "command_in", defArgs (top 35), defBody (top 35), defScope (top 35), ["text", "first", "middle", "rest", "times", "command", "part"], ["text"], f_command_in⟩
def e_parsed : EnF := ⟨.glo "parsed", "parsed", "parsed", defArgs (top 36), defBody (top 36), defScope (top 36), ["text", "commands", "part"], ["text"], f_parsed⟩
def e_place_moved : EnF := ⟨.glo "place_moved", "place_moved", "place_moved", defArgs (top 37), defBody (top 37), defScope (top 37), ["place", "size", "moves", "kind", "amount", "step"], ["place", "size", "moves"], f_place_moved⟩
def e_turned : EnF := ⟨.glo "turned", "turned", "turned", defArgs (top 38), defBody (top 38), defScope (top 38), ["past_size", "future_size", "commands", "times", "size", "shift", "kind", "amount", "step", "low", "high", "place"], ["past_size", "future_size", "commands", "times"], f_turned⟩
def e_followed : EnF := ⟨.glo "followed", "followed", "followed", defArgs (top 39), defBody (top 39), defScope (top 39), ["past", "future", "command", "place", "line"], ["past", "future", "command"], f_followed⟩
def e_Program___init__ : EnF := ⟨.meth "Program" "__init__", "__init__", "Program.__init__", defArgs (inn 40 0), defBody (inn 40 0), defScope (inn 40 0), ["self", "commands"], ["self", "commands"], f_Program___init__⟩
def e_Program_names : EnF := ⟨.prop "Program" "names", "names", "Program.names", defArgs (inn 40 3), defBody (inn 40 3), defScope (inn 40 3), ["self", "command"], ["self"], f_Program_names⟩
def e_Program___add__ : EnF := ⟨.meth "Program" "__add__", "__add__", "Program.__add__", defArgs (inn 40 4), defBody (inn 40 4), defScope (inn 40 4), ["self", "other", "commands"], ["self", "other"], f_Program___add__⟩
def e_Program___contains__ : EnF := ⟨.meth "Program" "__contains__", "__contains__", "Program.__contains__", defArgs (inn 40 5), defBody (inn 40 5), defScope (inn 40 5), ["self", "name", "item"], ["self", "name"], f_Program___contains__⟩
def e_Program___eq__ : EnF := ⟨.meth "Program" "__eq__", "__eq__", "Program.__eq__", defArgs (inn 40 6), defBody (inn 40 6), defScope (inn 40 6), ["self", "other"], ["self", "other"], f_Program___eq__⟩
def e_Program___len__ : EnF := ⟨.meth "Program" "__len__", "__len__", "Program.__len__", defArgs (inn 40 7), defBody (inn 40 7), defScope (inn 40 7), ["self"], ["self"], f_Program___len__⟩
def e_Program___str__ : EnF := ⟨.meth "Program" "__str__", "__str__", "Program.__str__", defArgs (inn 40 8), defBody (inn 40 8), defScope (inn 40 8), ["self", "command"], ["self"], f_Program___str__⟩
def e_Program___repr__ : EnF := ⟨.meth "Program" "__repr__", "__repr__", "Program.__repr__", defArgs (inn 40 9), defBody (inn 40 9), defScope (inn 40 9), ["self"], ["self"], f_Program___repr__⟩
def e_Program___call__ : EnF := ⟨.meth "Program" "__call__", "__call__", "Program.__call__", defArgs (inn 40 10), defBody (inn 40 10), defScope (inn 40 10), ["self", "history", "past", "future", "command"], ["self", "history"], f_Program___call__⟩
def e__law_cell : EnF := ⟨.glo "_law_cell", "_law_cell", "_law_cell", defArgs (top 42), defBody (top 42), defScope (top 42), ["_law_script", "_law_k", "_law_mixed", "_law_cell_here"], ["_law_script", "_law_k"], f__law_cell⟩
def e__law_pool : EnF := ⟨.glo "_law_pool", "_law_pool", "_law_pool", defArgs (top 43), defBody (top 43), defScope (top 43), ["_law_cell_here", "_law_digits"], ["_law_cell_here"], f__law_pool⟩
def e__law_draw : EnF := ⟨.glo "_law_draw", "_law_draw", "_law_draw", defArgs (top 44), defBody (top 44), defScope (top 44), ["_law_pool_here", "_law_many", "_law_mixed", "_law_digit"], ["_law_pool_here", "_law_many"], f__law_draw⟩
def e__law_calls : EnF := ⟨.glo "_law_calls", "_law_calls", "_law_calls", defArgs (top 45), defBody (top 45), defScope (top 45), ["_law_pool_here", "_law_many", "_law_own", "_law_begin", "_law_mode", "_law_letters", "_law_stem", "_law_cut", "_law_k"], ["_law_pool_here", "_law_many"], f__law_calls⟩
def e__law_front : EnF := ⟨.glo "_law_front", "_law_front", "_law_front", defArgs (top 46), defBody (top 46), defScope (top 46), ["_law_pool_here", "_law_many", "_law_calls_here", "_law_k"], ["_law_pool_here", "_law_many"], f__law_front⟩
def e__law_inner : EnF := ⟨.glo "_law_inner", "_law_inner", "_law_inner", defArgs (top 47), defBody (top 47), defScope (top 47), ["_law_pool_here", "_law_found", "_law_turn", "_law_far"], ["_law_pool_here"], f__law_inner⟩
def e__law_turns : EnF := ⟨.glo "_law_turns", "_law_turns", "_law_turns", defArgs (top 48), defBody (top 48), defScope (top 48), ["_law_pool_here"], ["_law_pool_here"], f__law_turns⟩
def e__law_times : EnF := ⟨.glo "_law_times", "_law_times", "_law_times", defArgs (top 49), defBody (top 49), defScope (top 49), ["_law_many", "_law_inner_here"], ["_law_many", "_law_inner_here"], f__law_times⟩
def e__law_one_right : EnF := ⟨.glo "_law_one_right", "_law_one_right", "_law_one_right", defArgs (top 50), defBody (top 50), defScope (top 50), ["_law_begun", "_law_inner_here", "_law_one_many", "_law_more_many", "_law_single", "_law_step", "_law_pairs", "_law_one", "_law_more"], ["_law_begun", "_law_inner_here", "_law_one_many", "_law_more_many"], f__law_one_right⟩
def e__law_comes_back : EnF := ⟨.glo "_law_comes_back", "_law_comes_back", "_law_comes_back", defArgs (top 51), defBody (top 51), defScope (top 51), ["_law_begun", "_law_inner_here", "_law_far", "_law_single", "_law_seen", "_law_mate", "_law_turn"], ["_law_begun", "_law_inner_here", "_law_far"], f__law_comes_back⟩
def e__law_right : EnF := ⟨.glo "_law_right", "_law_right", "_law_right", defArgs (top 52), defBody (top 52), defScope (top 52), ["_law_pool_here", "_law_turn", "_law_inner_here", "_law_many", "_law_front_here", "_law_rear", "_law_begun"], ["_law_pool_here"], f__law_right⟩
def e_law : EnF := ⟨.glo "law", "law", "law", defArgs (top 53), defBody (top 53), defScope (top 53), ["_law_script", "_law_k"], ["_law_script"], f_law⟩
def tFns : List (Nat × EnF) :=
  (1, e_InvalidName___init__) ::
  (2, e_InvalidNames___init__) ::
  (3, e_InvalidAmount___init__) ::
  (4, e_InvalidProgram___init__) ::
  (5, e_InvalidText___init__) ::
  (12, e_NotAHistory___init__) ::
  (16, e_is_integer) ::
  (17, e_is_name) ::
  (18, e_is_amount) ::
  (20, e_check_name) ::
  (21, e_check_names) ::
  (22, e_check_amount) ::
  (24, e_check_history) ::
  (25, e_moved) ::
  (26, e_carried) ::
  (27, e_History___init__) ::
  (29, e_History_line) ::
  (30, e_History_do) ::
  (31, e_History_undo) ::
  (32, e_History_redo) ::
  (33, e_History___contains__) ::
  (34, e_History___eq__) ::
  (35, e_History___len__) ::
  (36, e_History___str__) ::
  (37, e_History___repr__) ::
  (38, e_is_move) ::
  (39, e_are_moves) ::
  (40, e_is_command) ::
  (41, e_check_commands) ::
  (43, e_command_text) ::
  (44, e_number_in) ::
  (45, e_plain_in) ::
  (46, e_command_in) ::
  (47, e_parsed) ::
  (48, e_place_moved) ::
  (49, e_turned) ::
  (50, e_followed) ::
  (51, e_Program___init__) ::
  (54, e_Program_names) ::
  (55, e_Program___add__) ::
  (56, e_Program___contains__) ::
  (57, e_Program___eq__) ::
  (58, e_Program___len__) ::
  (59, e_Program___str__) ::
  (60, e_Program___repr__) ::
  (61, e_Program___call__) ::
  (189, e__law_cell) ::
  (190, e__law_pool) ::
  (191, e__law_draw) ::
  (197, e__law_calls) ::
  (231, e__law_front) ::
  (235, e__law_inner) ::
  (241, e__law_turns) ::
  (242, e__law_times) ::
  (217, e__law_one_right) ::
  (243, e__law_comes_back) ::
  (195, e__law_right) ::
  (196, e_law) :: []
def tCls : List (Nat × EnC) := [
  (1020, ⟨"History", ⟨some 27, [(27, .prop 29), (28, .meth 30), (29, .meth 31), (30, .meth 32), (31, .meth 33), (2, .meth 34), (32, .meth 35), (33, .meth 36), (34, .meth 37)], [35, 36]⟩⟩),
  (1021, ⟨"Program", ⟨some 51, [(39, .prop 54), (40, .meth 55), (31, .meth 56), (2, .meth 57), (32, .meth 58), (33, .meth 59), (34, .meth 60), (41, .meth 61)], [43]⟩⟩)]
def tCons : List (Nat × Str × D) := [(2000, "LETTERS", (.str "abcdefghijklmnopqrstuvwxyz")), (2001, "MOST_LETTERS", (.int 8)), (2002, "MOVES", (.tup [(.str "undo"), (.str "redo")])), (2003, "DIGITS", (.str "0123456789")), (2004, "NO_COMMANDS", (.str "nothing")), (2005, "ALL", (.str "all")), (2006, "BEFORE_MOVES", (.str " times ("))]
def tKds : List (Str × Gk) := ("is_integer", .fn 16) :: ("is_name", .fn 17) :: ("is_amount", .fn 18) :: ("check_name", .fn 20) :: ("check_names", .fn 21) :: ("check_amount", .fn 22) :: ("check_history", .fn 24) :: ("moved", .fn 25) :: ("carried", .fn 26) :: ("is_move", .fn 38) :: ("are_moves", .fn 39) :: ("is_command", .fn 40) :: ("check_commands", .fn 41) :: ("command_text", .fn 43) :: ("number_in", .fn 44) :: ("plain_in", .fn 45) :: ("command_in", .fn 46) :: ("parsed", .fn 47) :: ("place_moved", .fn 48) :: ("turned", .fn 49) :: ("followed", .fn 50) :: ("_law_cell", .fn 189) :: ("_law_pool", .fn 190) :: ("_law_draw", .fn 191) :: ("_law_calls", .fn 197) :: ("_law_front", .fn 231) :: ("_law_inner", .fn 235) :: ("_law_turns", .fn 241) :: ("_law_times", .fn 242) :: ("_law_one_right", .fn 217) :: ("_law_comes_back", .fn 243) :: ("_law_right", .fn 195) :: ("law", .fn 196) :: ("History", .cls 1020) :: ("Program", .cls 1021) :: ("LETTERS", .con 2000) :: ("MOST_LETTERS", .con 2001) :: ("MOVES", .con 2002) :: ("DIGITS", .con 2003) :: ("NO_COMMANDS", .con 2004) :: ("ALL", .con 2005) :: ("BEFORE_MOVES", .con 2006) :: ("len", .bi .len) :: ("max", .bi .max) :: ("min", .bi .min) :: ("abs", .bi .abs) :: ("isinstance", .bi .isinst) :: ("all", .bi .all) :: ("any", .bi .any) :: ("divmod", .bi .divmod) :: ("int", .ty .int) :: ("bool", .ty .bool) :: ("str", .ty .str) :: ("tuple", .ty .tuple) :: ("ValueError", .ty .valErr) :: []
def tNames : List Str := "?" :: "join" :: "__eq__" :: "append" :: "extend" :: "index" :: "count" :: "pop" :: "split" :: "partition" :: "endswith" :: "startswith" :: "items" :: "keys" :: "values" :: "get" :: "replace" :: "strip" :: "isdigit" :: "sort" :: "__init__" :: "name" :: "amount" :: "text" :: "length" :: "value" :: "of" :: "line" :: "do" :: "undo" :: "redo" :: "__contains__" :: "__len__" :: "__str__" :: "__repr__" :: "past" :: "future" :: "read" :: "is_command" :: "names" :: "__add__" :: "__call__" :: "each" :: "commands" :: "__getitem__" :: "__iter__" :: "last" :: "word" :: "table" :: "new_names" :: "undone_count" :: "changes" :: "parts" :: "history" :: "log" :: "changed" :: "can_revert" :: "__bool__" :: "check_idle" :: "check_discard" :: "carry" :: "perform" :: "save" :: "revert" :: "describe" :: "present" :: "kept" :: "done" :: "lost" :: "most" :: "busy" :: "KIND" :: "discarded" :: "limit" :: "change_limit" :: "setter" :: "carry_out" :: "run" :: "editor" :: "upper" :: []
def tIsas : List ((Tk × Tk) × Bool) := ((.ty .non, .cl 1020), false) :: ((.ty .bool, .cl 1020), false) :: ((.ty .int, .cl 1020), false) :: ((.ty .str, .cl 1020), false) :: ((.ty .tuple, .cl 1020), false) :: ((.ty .list, .cl 1020), false) :: ((.cl 1020, .ty .int), false) :: ((.cl 1020, .ty .bool), false) :: ((.cl 1020, .ty .str), false) :: ((.cl 1020, .ty .tuple), false) :: ((.cl 1020, .ty .list), false) :: ((.cl 1020, .ty .dict), false) :: ((.cl 1020, .cl 1020), true) :: ((.cl 1020, .cl 1021), false) :: ((.ty .non, .cl 1021), false) :: ((.ty .bool, .cl 1021), false) :: ((.ty .int, .cl 1021), false) :: ((.ty .str, .cl 1021), false) :: ((.ty .tuple, .cl 1021), false) :: ((.ty .list, .cl 1021), false) :: ((.cl 1021, .ty .int), false) :: ((.cl 1021, .ty .bool), false) :: ((.cl 1021, .ty .str), false) :: ((.cl 1021, .ty .tuple), false) :: ((.cl 1021, .ty .list), false) :: ((.cl 1021, .ty .dict), false) :: ((.cl 1021, .cl 1020), false) :: ((.cl 1021, .cl 1021), true) :: []
def T : Tb := ⟨tFns, tCls, tCons, tKds, tNames, tIsas⟩
end LW

set_option Elab.async false
set_option linter.all false
set_option maxRecDepth 100000
set_option maxHeartbeats 0
namespace LW
open PySem L2 EV
theorem ok_InvalidName___init__ : EnOk T e_InvalidName___init__ := ⟨⟨rfl, rfl, rfl, by decide +kernel, rfl, by decide +kernel, by decide +kernel⟩, rfl, rfl, by kernel_rfl, .inl ⟨rfl, bd0 rfl rfl fun _ _ _ _ _ _ us hl => match us, hl with | [_, _], _ => rfl⟩⟩
theorem ok_InvalidNames___init__ : EnOk T e_InvalidNames___init__ := ⟨⟨rfl, rfl, rfl, by decide +kernel, rfl, by decide +kernel, by decide +kernel⟩, rfl, rfl, by kernel_rfl, .inl ⟨rfl, bd0 rfl rfl fun _ _ _ _ _ _ us hl => match us, hl with | [_, _], _ => rfl⟩⟩
theorem ok_InvalidAmount___init__ : EnOk T e_InvalidAmount___init__ := ⟨⟨rfl, rfl, rfl, by decide +kernel, rfl, by decide +kernel, by decide +kernel⟩, rfl, rfl, by kernel_rfl, .inl ⟨rfl, bd0 rfl rfl fun _ _ _ _ _ _ us hl => match us, hl with | [_, _], _ => rfl⟩⟩
theorem ok_InvalidProgram___init__ : EnOk T e_InvalidProgram___init__ := ⟨⟨rfl, rfl, rfl, by decide +kernel, rfl, by decide +kernel, by decide +kernel⟩, rfl, rfl, by kernel_rfl, .inl ⟨rfl, bd0 rfl rfl fun _ _ _ _ _ _ us hl => match us, hl with | [_, _], _ => rfl⟩⟩
theorem ok_InvalidText___init__ : EnOk T e_InvalidText___init__ := ⟨⟨rfl, rfl, rfl, by decide +kernel, rfl, by decide +kernel, by decide +kernel⟩, rfl, rfl, by kernel_rfl, .inl ⟨rfl, bd0 rfl rfl fun _ _ _ _ _ _ us hl => match us, hl with | [_, _], _ => rfl⟩⟩
theorem ok_NotAHistory___init__ : EnOk T e_NotAHistory___init__ := ⟨⟨rfl, rfl, rfl, by decide +kernel, rfl, by decide +kernel, by decide +kernel⟩, rfl, rfl, by kernel_rfl, .inl ⟨rfl, bd0 rfl rfl fun _ _ _ _ _ _ us hl => match us, hl with | [_, _], _ => rfl⟩⟩
theorem ok_is_integer : EnOk T e_is_integer := ⟨⟨rfl, rfl, rfl, by decide +kernel, rfl, by decide +kernel, by decide +kernel⟩, rfl, rfl, by kernel_rfl, .inl ⟨rfl, bd0 rfl rfl fun _ _ _ _ _ _ us hl => match us, hl with | [_], _ => rfl⟩⟩
theorem ok_is_name : EnOk T e_is_name := ⟨⟨rfl, rfl, rfl, by decide +kernel, rfl, by decide +kernel, by decide +kernel⟩, rfl, rfl, by kernel_rfl, .inl ⟨rfl, bd0 rfl rfl fun _ _ _ _ _ _ us hl => match us, hl with | [_], _ => rfl⟩⟩
theorem ok_is_amount : EnOk T e_is_amount := ⟨⟨rfl, rfl, rfl, by decide +kernel, rfl, by decide +kernel, by decide +kernel⟩, rfl, rfl, by kernel_rfl, .inl ⟨rfl, bd0 rfl rfl fun _ _ _ _ _ _ us hl => match us, hl with | [_], _ => rfl⟩⟩
theorem ok_check_name : EnOk T e_check_name := ⟨⟨rfl, rfl, rfl, by decide +kernel, rfl, by decide +kernel, by decide +kernel⟩, rfl, rfl, by kernel_rfl, .inl ⟨rfl, bd0 rfl rfl fun _ _ _ _ _ _ us hl => match us, hl with | [_], _ => rfl⟩⟩
theorem ok_check_names : EnOk T e_check_names := ⟨⟨rfl, rfl, rfl, by decide +kernel, rfl, by decide +kernel, by decide +kernel⟩, rfl, rfl, by kernel_rfl, .inl ⟨rfl, bd0 rfl rfl fun _ _ _ _ _ _ us hl => match us, hl with | [_], _ => rfl⟩⟩
theorem ok_check_amount : EnOk T e_check_amount := ⟨⟨rfl, rfl, rfl, by decide +kernel, rfl, by decide +kernel, by decide +kernel⟩, rfl, rfl, by kernel_rfl, .inl ⟨rfl, bd0 rfl rfl fun _ _ _ _ _ _ us hl => match us, hl with | [_], _ => rfl⟩⟩
theorem ok_check_history : EnOk T e_check_history := ⟨⟨rfl, rfl, rfl, by decide +kernel, rfl, by decide +kernel, by decide +kernel⟩, rfl, rfl, by kernel_rfl, .inl ⟨rfl, bd0 rfl rfl fun _ _ _ _ _ _ us hl => match us, hl with | [_], _ => rfl⟩⟩
theorem ok_moved : EnOk T e_moved := ⟨⟨rfl, rfl, rfl, by decide +kernel, rfl, by decide +kernel, by decide +kernel⟩, rfl, rfl, by kernel_rfl, .inl ⟨rfl, bd0 rfl rfl fun _ _ _ _ _ _ us hl => match us, hl with | [_, _, _, _], _ => rfl⟩⟩
theorem ok_carried : EnOk T e_carried := ⟨⟨rfl, rfl, rfl, by decide +kernel, rfl, by decide +kernel, by decide +kernel⟩, rfl, rfl, by kernel_rfl, .inl ⟨rfl, bd0 rfl rfl fun _ _ _ _ _ _ us hl => match us, hl with | [_, _, _], _ => rfl⟩⟩
theorem ok_History___init__ : EnOk T e_History___init__ := ⟨⟨rfl, rfl, rfl, by decide +kernel, rfl, by decide +kernel, by decide +kernel⟩, rfl, rfl, by kernel_rfl, .inl ⟨rfl, by
    intro K dvs g fd F hl n h1 h2
    have h1 : n ≤ 3 := h1
    have h2 : 3 - n ≤ 2 := h2
    have hl : dvs.length = 2 := hl
    have hd : dvs ≠ [] := by rintro rfl; cases hl
    match n, h1, h2 with
    | 1, _, _ => exact F.binds1 1 0 hd (by rw [hl]; rfl) fun T kV doc pm an cdv ct us its hu hi => match us, its, hu, hi.trans hl with | [_], [_, _], _, _ => ⟨_, rfl, rfl⟩
    | 2, _, _ => exact F.binds1 2 1 hd (by rw [hl]; rfl) fun T kV doc pm an cdv ct us its hu hi => match us, its, hu, hi.trans hl with | [_, _], [_, _], _, _ => ⟨_, rfl, rfl⟩
    | 3, _, _ => exact F.binds1 3 2 hd (by rw [hl]; rfl) fun T kV doc pm an cdv ct us its hu hi => match us, its, hu, hi.trans hl with | [_, _, _], [_, _], _, _ => ⟨_, rfl, rfl⟩
    | 0, _, h2 => exact absurd h2 (by decide)
    | n + 4, h1, _ => exact absurd h1 (by omega)⟩⟩
theorem ok_History_line : EnOk T e_History_line := ⟨⟨rfl, rfl, rfl, by decide +kernel, rfl, by decide +kernel, by decide +kernel⟩, rfl, rfl, by kernel_rfl, .inl ⟨rfl, bd0 rfl rfl fun _ _ _ _ _ _ us hl => match us, hl with | [_], _ => rfl⟩⟩
theorem ok_History_do : EnOk T e_History_do := ⟨⟨rfl, rfl, rfl, by decide +kernel, rfl, by decide +kernel, by decide +kernel⟩, rfl, rfl, by kernel_rfl, .inl ⟨rfl, bd0 rfl rfl fun _ _ _ _ _ _ us hl => match us, hl with | [_, _], _ => rfl⟩⟩
theorem ok_History_undo : EnOk T e_History_undo := ⟨⟨rfl, rfl, rfl, by decide +kernel, rfl, by decide +kernel, by decide +kernel⟩, rfl, rfl, by kernel_rfl, .inl ⟨rfl, by
    intro K dvs g fd F hl n h1 h2
    have h1 : n ≤ 2 := h1
    have h2 : 2 - n ≤ 1 := h2
    have hl : dvs.length = 1 := hl
    have hd : dvs ≠ [] := by rintro rfl; cases hl
    match n, h1, h2 with
    | 1, _, _ => exact F.binds1 1 0 hd (by rw [hl]; rfl) fun T kV doc pm an cdv ct us its hu hi => match us, its, hu, hi.trans hl with | [_], [_], _, _ => ⟨_, rfl, rfl⟩
    | 2, _, _ => exact F.binds1 2 1 hd (by rw [hl]; rfl) fun T kV doc pm an cdv ct us its hu hi => match us, its, hu, hi.trans hl with | [_, _], [_], _, _ => ⟨_, rfl, rfl⟩
    | 0, _, h2 => exact absurd h2 (by decide)
    | n + 3, h1, _ => exact absurd h1 (by omega)⟩⟩
theorem ok_History_redo : EnOk T e_History_redo := ⟨⟨rfl, rfl, rfl, by decide +kernel, rfl, by decide +kernel, by decide +kernel⟩, rfl, rfl, by kernel_rfl, .inl ⟨rfl, by
    intro K dvs g fd F hl n h1 h2
    have h1 : n ≤ 2 := h1
    have h2 : 2 - n ≤ 1 := h2
    have hl : dvs.length = 1 := hl
    have hd : dvs ≠ [] := by rintro rfl; cases hl
    match n, h1, h2 with
    | 1, _, _ => exact F.binds1 1 0 hd (by rw [hl]; rfl) fun T kV doc pm an cdv ct us its hu hi => match us, its, hu, hi.trans hl with | [_], [_], _, _ => ⟨_, rfl, rfl⟩
    | 2, _, _ => exact F.binds1 2 1 hd (by rw [hl]; rfl) fun T kV doc pm an cdv ct us its hu hi => match us, its, hu, hi.trans hl with | [_, _], [_], _, _ => ⟨_, rfl, rfl⟩
    | 0, _, h2 => exact absurd h2 (by decide)
    | n + 3, h1, _ => exact absurd h1 (by omega)⟩⟩
theorem ok_History___contains__ : EnOk T e_History___contains__ := ⟨⟨rfl, rfl, rfl, by decide +kernel, rfl, by decide +kernel, by decide +kernel⟩, rfl, rfl, by kernel_rfl, .inl ⟨rfl, bd0 rfl rfl fun _ _ _ _ _ _ us hl => match us, hl with | [_, _], _ => rfl⟩⟩
theorem ok_History___eq__ : EnOk T e_History___eq__ := ⟨⟨rfl, rfl, rfl, by decide +kernel, rfl, by decide +kernel, by decide +kernel⟩, rfl, rfl, by kernel_rfl, .inl ⟨rfl, bd0 rfl rfl fun _ _ _ _ _ _ us hl => match us, hl with | [_, _], _ => rfl⟩⟩
theorem ok_History___len__ : EnOk T e_History___len__ := ⟨⟨rfl, rfl, rfl, by decide +kernel, rfl, by decide +kernel, by decide +kernel⟩, rfl, rfl, by kernel_rfl, .inl ⟨rfl, bd0 rfl rfl fun _ _ _ _ _ _ us hl => match us, hl with | [_], _ => rfl⟩⟩
theorem ok_History___str__ : EnOk T e_History___str__ := ⟨⟨rfl, rfl, rfl, by decide +kernel, rfl, by decide +kernel, by decide +kernel⟩, rfl, rfl, by kernel_rfl, .inl ⟨rfl, bd0 rfl rfl fun _ _ _ _ _ _ us hl => match us, hl with | [_], _ => rfl⟩⟩
theorem ok_History___repr__ : EnOk T e_History___repr__ := ⟨⟨rfl, rfl, rfl, by decide +kernel, rfl, by decide +kernel, by decide +kernel⟩, rfl, rfl, by kernel_rfl, .inl ⟨rfl, bd0 rfl rfl fun _ _ _ _ _ _ us hl => match us, hl with | [_], _ => rfl⟩⟩
theorem ok_is_move : EnOk T e_is_move := ⟨⟨rfl, rfl, rfl, by decide +kernel, rfl, by decide +kernel, by decide +kernel⟩, rfl, rfl, by kernel_rfl, .inl ⟨rfl, bd0 rfl rfl fun _ _ _ _ _ _ us hl => match us, hl with | [_], _ => rfl⟩⟩
theorem ok_are_moves : EnOk T e_are_moves := ⟨⟨rfl, rfl, rfl, by decide +kernel, rfl, by decide +kernel, by decide +kernel⟩, rfl, rfl, by kernel_rfl, .inl ⟨rfl, bd0 rfl rfl fun _ _ _ _ _ _ us hl => match us, hl with | [_], _ => rfl⟩⟩
theorem ok_is_command : EnOk T e_is_command := ⟨⟨rfl, rfl, rfl, by decide +kernel, rfl, by decide +kernel, by decide +kernel⟩, rfl, rfl, by kernel_rfl, .inl ⟨rfl, bd0 rfl rfl fun _ _ _ _ _ _ us hl => match us, hl with | [_], _ => rfl⟩⟩
theorem ok_check_commands : EnOk T e_check_commands := ⟨⟨rfl, rfl, rfl, by decide +kernel, rfl, by decide +kernel, by decide +kernel⟩, rfl, rfl, by kernel_rfl, .inl ⟨rfl, bd0 rfl rfl fun _ _ _ _ _ _ us hl => match us, hl with | [_], _ => rfl⟩⟩
theorem ok_command_text : EnOk T e_command_text := ⟨⟨rfl, rfl, rfl, by decide +kernel, rfl, by decide +kernel, by decide +kernel⟩, rfl, rfl, by kernel_rfl, .inl ⟨rfl, bd0 rfl rfl fun _ _ _ _ _ _ us hl => match us, hl with | [_], _ => rfl⟩⟩
theorem ok_number_in : EnOk T e_number_in := ⟨⟨rfl, rfl, rfl, by decide +kernel, rfl, by decide +kernel, by decide +kernel⟩, rfl, rfl, by kernel_rfl, .inl ⟨rfl, bd0 rfl rfl fun _ _ _ _ _ _ us hl => match us, hl with | [_], _ => rfl⟩⟩
theorem ok_plain_in : EnOk T e_plain_in := ⟨⟨rfl, rfl, rfl, by decide +kernel, rfl, by decide +kernel, by decide +kernel⟩, rfl, rfl, by kernel_rfl, .inl ⟨rfl, bd0 rfl rfl fun _ _ _ _ _ _ us hl => match us, hl with | [_], _ => rfl⟩⟩
theorem ok_command_in : EnOk T e_command_in := ⟨⟨rfl, rfl, rfl, by decide +kernel, rfl, by decide +kernel, by decide +kernel⟩, rfl, rfl, by kernel_rfl, .inl ⟨rfl, bd0 rfl rfl fun _ _ _ _ _ _ us hl => match us, hl with | [_], _ => rfl⟩⟩
theorem ok_parsed : EnOk T e_parsed := ⟨⟨rfl, rfl, rfl, by decide +kernel, rfl, by decide +kernel, by decide +kernel⟩, rfl, rfl, by kernel_rfl, .inl ⟨rfl, bd0 rfl rfl fun _ _ _ _ _ _ us hl => match us, hl with | [_], _ => rfl⟩⟩
theorem ok_place_moved : EnOk T e_place_moved := ⟨⟨rfl, rfl, rfl, by decide +kernel, rfl, by decide +kernel, by decide +kernel⟩, rfl, rfl, by kernel_rfl, .inl ⟨rfl, bd0 rfl rfl fun _ _ _ _ _ _ us hl => match us, hl with | [_, _, _], _ => rfl⟩⟩
theorem ok_turned : EnOk T e_turned := ⟨⟨rfl, rfl, rfl, by decide +kernel, rfl, by decide +kernel, by decide +kernel⟩, rfl, rfl, by kernel_rfl, .inl ⟨rfl, bd0 rfl rfl fun _ _ _ _ _ _ us hl => match us, hl with | [_, _, _, _], _ => rfl⟩⟩
theorem ok_followed : EnOk T e_followed := ⟨⟨rfl, rfl, rfl, by decide +kernel, rfl, by decide +kernel, by decide +kernel⟩, rfl, rfl, by kernel_rfl, .inl ⟨rfl, bd0 rfl rfl fun _ _ _ _ _ _ us hl => match us, hl with | [_, _, _], _ => rfl⟩⟩
theorem ok_Program___init__ : EnOk T e_Program___init__ := ⟨⟨rfl, rfl, rfl, by decide +kernel, rfl, by decide +kernel, by decide +kernel⟩, rfl, rfl, by kernel_rfl, .inr ⟨rfl, rfl, ["self"], "commands", rfl, fun _ _ _ _ _ _ us rest hl => match us, rest, hl with | [_], [], _ => rfl | [_], _ :: _, _ => rfl⟩⟩
theorem ok_Program_names : EnOk T e_Program_names := ⟨⟨rfl, rfl, rfl, by decide +kernel, rfl, by decide +kernel, by decide +kernel⟩, rfl, rfl, by kernel_rfl, .inl ⟨rfl, bd0 rfl rfl fun _ _ _ _ _ _ us hl => match us, hl with | [_], _ => rfl⟩⟩
theorem ok_Program___add__ : EnOk T e_Program___add__ := ⟨⟨rfl, rfl, rfl, by decide +kernel, rfl, by decide +kernel, by decide +kernel⟩, rfl, rfl, by kernel_rfl, .inl ⟨rfl, bd0 rfl rfl fun _ _ _ _ _ _ us hl => match us, hl with | [_, _], _ => rfl⟩⟩
theorem ok_Program___contains__ : EnOk T e_Program___contains__ := ⟨⟨rfl, rfl, rfl, by decide +kernel, rfl, by decide +kernel, by decide +kernel⟩, rfl, rfl, by kernel_rfl, .inl ⟨rfl, bd0 rfl rfl fun _ _ _ _ _ _ us hl => match us, hl with | [_, _], _ => rfl⟩⟩
theorem ok_Program___eq__ : EnOk T e_Program___eq__ := ⟨⟨rfl, rfl, rfl, by decide +kernel, rfl, by decide +kernel, by decide +kernel⟩, rfl, rfl, by kernel_rfl, .inl ⟨rfl, bd0 rfl rfl fun _ _ _ _ _ _ us hl => match us, hl with | [_, _], _ => rfl⟩⟩
theorem ok_Program___len__ : EnOk T e_Program___len__ := ⟨⟨rfl, rfl, rfl, by decide +kernel, rfl, by decide +kernel, by decide +kernel⟩, rfl, rfl, by kernel_rfl, .inl ⟨rfl, bd0 rfl rfl fun _ _ _ _ _ _ us hl => match us, hl with | [_], _ => rfl⟩⟩
theorem ok_Program___str__ : EnOk T e_Program___str__ := ⟨⟨rfl, rfl, rfl, by decide +kernel, rfl, by decide +kernel, by decide +kernel⟩, rfl, rfl, by kernel_rfl, .inl ⟨rfl, bd0 rfl rfl fun _ _ _ _ _ _ us hl => match us, hl with | [_], _ => rfl⟩⟩
theorem ok_Program___repr__ : EnOk T e_Program___repr__ := ⟨⟨rfl, rfl, rfl, by decide +kernel, rfl, by decide +kernel, by decide +kernel⟩, rfl, rfl, by kernel_rfl, .inl ⟨rfl, bd0 rfl rfl fun _ _ _ _ _ _ us hl => match us, hl with | [_], _ => rfl⟩⟩
theorem ok_Program___call__ : EnOk T e_Program___call__ := ⟨⟨rfl, rfl, rfl, by decide +kernel, rfl, by decide +kernel, by decide +kernel⟩, rfl, rfl, by kernel_rfl, .inl ⟨rfl, bd0 rfl rfl fun _ _ _ _ _ _ us hl => match us, hl with | [_, _], _ => rfl⟩⟩
theorem ok__law_cell : EnOk T e__law_cell := ⟨⟨rfl, rfl, rfl, by decide +kernel, rfl, by decide +kernel, by decide +kernel⟩, rfl, rfl, by kernel_rfl, .inl ⟨rfl, bd0 rfl rfl fun _ _ _ _ _ _ us hl => match us, hl with | [_, _], _ => rfl⟩⟩
theorem ok__law_pool : EnOk T e__law_pool := ⟨⟨rfl, rfl, rfl, by decide +kernel, rfl, by decide +kernel, by decide +kernel⟩, rfl, rfl, by kernel_rfl, .inl ⟨rfl, bd0 rfl rfl fun _ _ _ _ _ _ us hl => match us, hl with | [_], _ => rfl⟩⟩
theorem ok__law_draw : EnOk T e__law_draw := ⟨⟨rfl, rfl, rfl, by decide +kernel, rfl, by decide +kernel, by decide +kernel⟩, rfl, rfl, by kernel_rfl, .inl ⟨rfl, bd0 rfl rfl fun _ _ _ _ _ _ us hl => match us, hl with | [_, _], _ => rfl⟩⟩
theorem ok__law_calls : EnOk T e__law_calls := ⟨⟨rfl, rfl, rfl, by decide +kernel, rfl, by decide +kernel, by decide +kernel⟩, rfl, rfl, by kernel_rfl, .inl ⟨rfl, bd0 rfl rfl fun _ _ _ _ _ _ us hl => match us, hl with | [_, _], _ => rfl⟩⟩
theorem ok__law_front : EnOk T e__law_front := ⟨⟨rfl, rfl, rfl, by decide +kernel, rfl, by decide +kernel, by decide +kernel⟩, rfl, rfl, by kernel_rfl, .inl ⟨rfl, bd0 rfl rfl fun _ _ _ _ _ _ us hl => match us, hl with | [_, _], _ => rfl⟩⟩
theorem ok__law_inner : EnOk T e__law_inner := ⟨⟨rfl, rfl, rfl, by decide +kernel, rfl, by decide +kernel, by decide +kernel⟩, rfl, rfl, by kernel_rfl, .inl ⟨rfl, bd0 rfl rfl fun _ _ _ _ _ _ us hl => match us, hl with | [_], _ => rfl⟩⟩
theorem ok__law_turns : EnOk T e__law_turns := ⟨⟨rfl, rfl, rfl, by decide +kernel, rfl, by decide +kernel, by decide +kernel⟩, rfl, rfl, by kernel_rfl, .inl ⟨rfl, bd0 rfl rfl fun _ _ _ _ _ _ us hl => match us, hl with | [_], _ => rfl⟩⟩
theorem ok__law_times : EnOk T e__law_times := ⟨⟨rfl, rfl, rfl, by decide +kernel, rfl, by decide +kernel, by decide +kernel⟩, rfl, rfl, by kernel_rfl, .inl ⟨rfl, bd0 rfl rfl fun _ _ _ _ _ _ us hl => match us, hl with | [_, _], _ => rfl⟩⟩
theorem ok__law_one_right : EnOk T e__law_one_right := ⟨⟨rfl, rfl, rfl, by decide +kernel, rfl, by decide +kernel, by decide +kernel⟩, rfl, rfl, by kernel_rfl, .inl ⟨rfl, bd0 rfl rfl fun _ _ _ _ _ _ us hl => match us, hl with | [_, _, _, _], _ => rfl⟩⟩
theorem ok__law_comes_back : EnOk T e__law_comes_back := ⟨⟨rfl, rfl, rfl, by decide +kernel, rfl, by decide +kernel, by decide +kernel⟩, rfl, rfl, by kernel_rfl, .inl ⟨rfl, bd0 rfl rfl fun _ _ _ _ _ _ us hl => match us, hl with | [_, _, _], _ => rfl⟩⟩
theorem ok__law_right : EnOk T e__law_right := ⟨⟨rfl, rfl, rfl, by decide +kernel, rfl, by decide +kernel, by decide +kernel⟩, rfl, rfl, by kernel_rfl, .inl ⟨rfl, bd0 rfl rfl fun _ _ _ _ _ _ us hl => match us, hl with | [_], _ => rfl⟩⟩
theorem ok_law : EnOk T e_law := ⟨⟨rfl, rfl, rfl, by decide +kernel, rfl, by decide +kernel, by decide +kernel⟩, rfl, rfl, by kernel_rfl, .inl ⟨rfl, bd0 rfl rfl fun _ _ _ _ _ _ us hl => match us, hl with | [_], _ => rfl⟩⟩
theorem fs : ∀ p ∈ T.fns, EnOk T p.2 :=
  List.forall_mem_cons.mpr ⟨ok_InvalidName___init__, 
  List.forall_mem_cons.mpr ⟨ok_InvalidNames___init__, 
  List.forall_mem_cons.mpr ⟨ok_InvalidAmount___init__, 
  List.forall_mem_cons.mpr ⟨ok_InvalidProgram___init__, 
  List.forall_mem_cons.mpr ⟨ok_InvalidText___init__, 
  List.forall_mem_cons.mpr ⟨ok_NotAHistory___init__, 
  List.forall_mem_cons.mpr ⟨ok_is_integer, 
  List.forall_mem_cons.mpr ⟨ok_is_name, 
  List.forall_mem_cons.mpr ⟨ok_is_amount, 
  List.forall_mem_cons.mpr ⟨ok_check_name, 
  List.forall_mem_cons.mpr ⟨ok_check_names, 
  List.forall_mem_cons.mpr ⟨ok_check_amount, 
  List.forall_mem_cons.mpr ⟨ok_check_history, 
  List.forall_mem_cons.mpr ⟨ok_moved, 
  List.forall_mem_cons.mpr ⟨ok_carried, 
  List.forall_mem_cons.mpr ⟨ok_History___init__, 
  List.forall_mem_cons.mpr ⟨ok_History_line, 
  List.forall_mem_cons.mpr ⟨ok_History_do, 
  List.forall_mem_cons.mpr ⟨ok_History_undo, 
  List.forall_mem_cons.mpr ⟨ok_History_redo, 
  List.forall_mem_cons.mpr ⟨ok_History___contains__, 
  List.forall_mem_cons.mpr ⟨ok_History___eq__, 
  List.forall_mem_cons.mpr ⟨ok_History___len__, 
  List.forall_mem_cons.mpr ⟨ok_History___str__, 
  List.forall_mem_cons.mpr ⟨ok_History___repr__, 
  List.forall_mem_cons.mpr ⟨ok_is_move, 
  List.forall_mem_cons.mpr ⟨ok_are_moves, 
  List.forall_mem_cons.mpr ⟨ok_is_command, 
  List.forall_mem_cons.mpr ⟨ok_check_commands, 
  List.forall_mem_cons.mpr ⟨ok_command_text, 
  List.forall_mem_cons.mpr ⟨ok_number_in, 
  List.forall_mem_cons.mpr ⟨ok_plain_in, 
  List.forall_mem_cons.mpr ⟨ok_command_in, 
  List.forall_mem_cons.mpr ⟨ok_parsed, 
  List.forall_mem_cons.mpr ⟨ok_place_moved, 
  List.forall_mem_cons.mpr ⟨ok_turned, 
  List.forall_mem_cons.mpr ⟨ok_followed, 
  List.forall_mem_cons.mpr ⟨ok_Program___init__, 
  List.forall_mem_cons.mpr ⟨ok_Program_names, 
  List.forall_mem_cons.mpr ⟨ok_Program___add__, 
  List.forall_mem_cons.mpr ⟨ok_Program___contains__, 
  List.forall_mem_cons.mpr ⟨ok_Program___eq__, 
  List.forall_mem_cons.mpr ⟨ok_Program___len__, 
  List.forall_mem_cons.mpr ⟨ok_Program___str__, 
  List.forall_mem_cons.mpr ⟨ok_Program___repr__, 
  List.forall_mem_cons.mpr ⟨ok_Program___call__, 
  List.forall_mem_cons.mpr ⟨ok__law_cell, 
  List.forall_mem_cons.mpr ⟨ok__law_pool, 
  List.forall_mem_cons.mpr ⟨ok__law_draw, 
  List.forall_mem_cons.mpr ⟨ok__law_calls, 
  List.forall_mem_cons.mpr ⟨ok__law_front, 
  List.forall_mem_cons.mpr ⟨ok__law_inner, 
  List.forall_mem_cons.mpr ⟨ok__law_turns, 
  List.forall_mem_cons.mpr ⟨ok__law_times, 
  List.forall_mem_cons.mpr ⟨ok__law_one_right, 
  List.forall_mem_cons.mpr ⟨ok__law_comes_back, 
  List.forall_mem_cons.mpr ⟨ok__law_right, 
  List.forall_mem_cons.mpr ⟨ok_law, fun _ h => (List.not_mem_nil h).elim⟩⟩⟩⟩⟩⟩⟩⟩⟩⟩⟩⟩⟩⟩⟩⟩⟩⟩⟩⟩⟩⟩⟩⟩⟩⟩⟩⟩⟩⟩⟩⟩⟩⟩⟩⟩⟩⟩⟩⟩⟩⟩⟩⟩⟩⟩⟩⟩⟩⟩⟩⟩⟩⟩⟩⟩⟩⟩
theorem tok : TOk T := tok_of (by decide +kernel) (by decide +kernel) (by decide +kernel) fs (by decide +kernel)
end LW

set_option Elab.async false
set_option linter.all false
set_option maxRecDepth 100000
set_option maxHeartbeats 1000000
namespace LW
open PySem L2 EV
local macro_rules | `(tactic| walk_at "s") => `(tactic| simp (config := { dsimp := false }) only [↓e_ret, ↓e_bnd, ↓e_some, ↓e_none, ↓e_T, ↓e_F, ↓e_Tt, ↓e_Ff, ↓e_ifd, ↓e_ifnd, ↓bK_v, ↓bK_o, ↓bK_s, ↓vK_v, ↓vK_o, ↓vK_s, ↓dK_v, ↓dK_o, ↓dK_s, ↓sK_v, ↓sK_u, ↓sK_o, ↓sK_s, ↓sK_fr, ↓oK_o, ↓oK_s, ↓rK_v, ↓rK_o, ↓rK_s, ↓e_c, ↓e_b, ↓e_v, ↓e_g, ↓e_dv, ↓e_dt, ↓e_db, ↓e_zv, ↓e_zt, ↓e_zb, ↓e_bin, ↓e_neg, ↓e_cmp, ↓e_cmp2, ↓e_not, ↓e_and, ↓e_or, ↓e_ife, ↓e_tup, ↓e_lst, ↓e_bi, ↓e_dsn, ↓e_dsc, ↓e_call, ↓e_mk, ↓e_methK, ↓e_meth, ↓e_smeth, ↓e_attrF, ↓e_attrC, ↓e_attrP, ↓e_attr, ↓e_ix, ↓e_sl, ↓e_pn, ↓e_pt, ↓e_dn, ↓e_da, ↓e_dst, ↓e_an, ↓e_aa, ↓e_rng, ↓e_enm, ↓e_sq, ↓e_tn, ↓e_ta, ↓e_to, ↓e_ti, ↓e_tc, ↓e_tc2, ↓e_tr, ↓e_nil, ↓e_seq, ↓e_sqn, ↓e_sqr, ↓e_sqb, ↓e_sqc, ↓e_fnv, ↓e_fnt, ↓e_fnn, ↓e_tkn, ↓e_tkc, ↓e_tkb, ↓e_tkr, ↓e_lks, ↓e_lkn, ↓e_int, ↓e_str, ↓e_pair, ↓e_bl, ↓e_wks, ↓e_wkn, ↓e_put, ↓e_set1, ↓e_pv, ↓e_ptm, ↓e_sett, ↓e_asN, ↓e_asT, ↓e_asn, ↓e_asc, ↓e_par, ↓e_prn, ↓e_prc, ↓iK_o, ↓iK_s, ↓e_isOwn, ↓e_setix, ↓e_ls, ↓e_setF, ↓e_set30, ↓e_set31, ↓e_set32, ↓e_setat, ↓e_setA, ↓e_expr, ↓e_retE, ↓e_retv, ↓e_iteS, ↓e_brk, ↓e_cont, ↓e_unp, ↓e_aug, ↓e_forQ, ↓e_for, ↓e_whl, ↓e_mul, ↓e_add, ↓e_sub, ↓e_addF, ↓e_subF, ↓e_mod, ↓e_fdiv, ↓e_pow, ↓e_divmod, ↓e_addS, ↓e_addT, ↓e_addL, ↓e_mulT, ↓e_len_t, ↓e_len_l, ↓e_len_s, ↓e_max, ↓e_min, ↓e_abs, ↓e_tupl, ↓e_tupt, ↓e_lstl, ↓e_lstt, ↓e_inti, ↓e_intb, ↓e_all, ↓e_any, ↓e_isi, ↓e_ixt, ↓e_ixl, ↓e_slt, ↓e_sll, ↓e_sls, ↓e_lt, ↓e_le, ↓e_gt, ↓e_ge, ↓e_eqi, ↓e_nei, ↓e_is, ↓e_isnt, ↓e_in, ↓lenK_i, ↓txtK_i, ↓boolK_i, ↓e_lenI, ↓e_strI, ↓e_reprI, ↓e_reprl, ↓e_reprt, ↓e_strs, ↓e_stri, ↓e_suml, ↓e_addI, ↓e_inI, ↓e_inl, ↓e_intp, ↓e_ninl, ↓e_nintp, ↓calK_i, ↓calK_g, ↓e_calI, ↓e_calG, ↓e_callv, ↓e_star, ↓fstK_i, ↓e_fst, ↓e_fstn, ↓e_fsta, ↓e_fmt, ↓e_fmts, ↓e_fmti, ↓e_fmtI, ↓e_appF, ↓liK_o, ↓liK_s, ↓e_isLst, ↓e_app, ↓extK_i, ↓e_ext, ↓e_lc, ↓e_eqS, ↓e_eqT, ↓e_eqL, ↓e_eqB, ↓e_neS, ↓e_neT, ↓e_neL, ↓e_neB, at_0, at_1, at_2, at_3, at_4, at_5, lk_v, lk_t, lock_n, unlock_n, items_l, items_t, items_s, itemsQ_l, itemsQ_t, tr_b, is_n, is_i, is_s, is_t, is_l, cmp_le, cmp_lt, isi_it, isi_ib, isi_is, isi_ss, isi_si, isi_tt, eqD_bl, io_o, io_v, io_n, true_and, Int.reduceLT, Int.reduceLE, Bool.not_true, Bool.not_false, Int.reduceEq, true_implies, false_implies, not_true_eq_false, not_false_eq_true, and_true, implies_true, len_0, len_1, len_2, len_3, len_4, len_5])
abbrev P : Prog := T.P
/-! ### draws -/
structure Pl where
  m : Int
  g : Int
  c : Int
def Pl.d (p : Pl) : D := .lst [.int p.m, .int p.g, .int p.c]
structure Pl.ok (p : Pl) : Prop where
  m0 : 0 ≤ p.m
  m1 : p.m < 2147483477
  g0 : 0 ≤ p.g
def drawM (p : Pl) : Int := (p.m * (p.m % 41017 + 27011) + 50021 * (p.c + 1) + 13) % 2147483477
def drawV (p : Pl) (n : Int) : Int := if 0 < p.g then p.g % n else drawM p / 32 % n
def drawP (p : Pl) (n : Int) : Pl := ⟨drawM p, if 0 < p.g then p.g / n else p.g, p.c + 1⟩
theorem drawP_ok {p : Pl} {n : Int} (h : p.ok) (hn : 0 < n) : (drawP p n).ok := by
  refine ⟨Int.emod_nonneg _ (by decide), Int.emod_lt_of_pos _ (by decide), ?_⟩
  show 0 ≤ if 0 < p.g then p.g / n else p.g
  split
  · exact Int.ediv_nonneg h.g0 (by omega)
  · exact h.g0
theorem drawV_0 {p : Pl} {n : Int} (hn : 0 < n) : 0 ≤ drawV p n := by
  unfold drawV
  split <;> exact Int.emod_nonneg _ (by omega)
theorem drawV_lt {p : Pl} {n : Int} (hn : 0 < n) : drawV p n < n := by
  unfold drawV
  split <;> exact Int.emod_lt_of_pos _ hn
theorem draw_wpc {k : Nat} {p : Pl} {n : Int} {Q : R → List Sl → Prop} {X : Ex → List Sl → Prop} (hp : p.ok) (hn : 0 < n) (hn2 : n.natAbs.log2 < 9000) (h : Q (.val (.int (drawV p n))) [.own true false (drawP p n).d, .val (.int n)]) :
    wpc (callN P (k + 2) 191 [.own true false p.d, .val (.int n)]) Q X := by
  refine wpc_fn (F := f__law_draw) rfl rfl (by decide) rfl rfl ?_
  show wp (ex P _ f__law_draw.body) [.own true false (.lst [.int p.m, .int p.g, .int p.c]), .val (.int n), .un, .un] _ _
  unfold f__law_draw
  dsimp only
  obtain ⟨m0, m1, g0⟩ := hp
  walk_at "s"
  unfold drawV drawP Pl.d drawM at h
  refine ⟨.inl ⟨by omega, by omega⟩, .inl ⟨by decide, by decide⟩, fun hg => ⟨⟨hn, hn2⟩, ?_⟩, fun hg => ⟨by decide +kernel, hn, ?_⟩⟩
  · rw [if_pos hg, if_pos hg] at h; exact h
  · rw [if_neg hg, if_neg hg] at h; exact h
theorem log_small {n : Int} (h0 : 0 < n) (h : n < 1073741824) : n.natAbs.log2 < 9000 := by
  have : n.natAbs.log2 < 30 := (Nat.log2_lt (by omega)).mpr (by omega)
  omega
theorem draw_runB {k : Nat} {p : Pl} {n : Int} (hp : p.ok) (hn : 0 < n) (hn2 : n.natAbs.log2 < 9000) :
    callN P (k + 2) 191 [.own true false p.d, .val (.int n)] = .ok (.val (.int (drawV p n))) [.own true false (drawP p n).d, .val (.int n)] := wpc_ok (draw_wpc hp hn hn2 ⟨rfl, rfl⟩)
theorem draw_eqB {k : Nat} {p : Pl} {n : Int} {io : Bool} {σ : List Sl} {Q : R → List Sl → Prop} {X : Ex → List Sl → Prop} (hp : p.ok) (hn : 0 < n) (hn2 : n.natAbs.log2 < 9000) :
    wp (callF P (callN P (k + 2)) 191 [.bor 0, .val (.int n)]) (.own io false p.d :: σ) Q X = Q (.val (.int (drawV p n))) (.own io false (drawP p n).d :: σ) :=
  e_callF (F := f__law_draw) rfl rfl nd1 rfl (draw_runB hp hn hn2) trivial (back1 rfl rfl)
theorem draw_callB {k : Nat} {p : Pl} {n : Int} {io : Bool} {σ : List Sl} {Q : R → List Sl → Prop} {X : Ex → List Sl → Prop} (hp : p.ok) (hn : 0 < n) (hn2 : n.natAbs.log2 < 9000)
    (h : ∀ (p' : Pl) (r : Int), p'.ok → 0 ≤ r → r < n → Q (.val (.int r)) (.own io false p'.d :: σ)) : wp (callF P (callN P (k + 2)) 191 [.bor 0, .val (.int n)]) (.own io false p.d :: σ) Q X := by
  rw [draw_eqB hp hn hn2]
  exact h _ _ (drawP_ok hp hn) (drawV_0 hn) (drawV_lt hn)
theorem draw_run {k : Nat} {p : Pl} {n : Int} (hp : p.ok) (hn : 0 < n) (hn2 : n < 1073741824) :
    callN P (k + 2) 191 [.own true false p.d, .val (.int n)] = .ok (.val (.int (drawV p n))) [.own true false (drawP p n).d, .val (.int n)] := draw_runB hp hn (log_small hn hn2)
theorem draw_eq0 {k : Nat} {p : Pl} {n : Int} {io : Bool} {σ : List Sl} {Q : R → List Sl → Prop} {X : Ex → List Sl → Prop} (hp : p.ok) (hn : 0 < n) (hn2 : n < 1073741824) :
    wp (callF P (callN P (k + 2)) 191 [.bor 0, .val (.int n)]) (.own io false p.d :: σ) Q X = Q (.val (.int (drawV p n))) (.own io false (drawP p n).d :: σ) :=
  e_callF (F := f__law_draw) rfl rfl nd1 rfl (draw_run hp hn hn2) trivial (back1 rfl rfl)
/-! ### the pool, a cell -/
def poolOf (x : Int) : Pl := ⟨x % 2147483477, if x < 0 ∨ 1000000000000000000 ≤ x then (if x < 0 then -x else x) else 0, 0⟩
theorem poolOf_ok (x : Int) : (poolOf x).ok := by
  refine ⟨Int.emod_nonneg _ (by decide), Int.emod_lt_of_pos _ (by decide), ?_⟩
  show 0 ≤ if x < 0 ∨ 1000000000000000000 ≤ x then (if x < 0 then -x else x) else 0
  split
  · split <;> omega
  · omega
theorem le_lim {n : Nat} (h : n ≤ 100000) : n ≤ lim := Nat.le_trans h (by decide)
theorem pool_wpc {k : Nat} {x : Int} {Q : R → List Sl → Prop} {X : Ex → List Sl → Prop} (h : Q (.tmp (poolOf x).d) [.val (.int x)]) : wpc (callN P (k + 2) 190 [.val (.int x)]) Q X := by
  refine wpc_fn (F := f__law_pool) rfl rfl (by decide) rfl rfl ?_
  show wp (ex P _ f__law_pool.body) [.val (.int x), .un] _ _
  unfold f__law_pool
  dsimp only
  walk_at "s"
  have e18 : (10 : Int) ^ Int.toNat 18 = 1000000000000000000 := by decide +kernel
  rw [e18]
  unfold Pl.d poolOf at h
  dsimp only at h
  refine ⟨fun h0 => ⟨le_lim (by simp), ?_⟩, fun h0 => ⟨by decide, fun h1 => ⟨le_lim (by simp), ?_⟩, fun h1 => ⟨le_lim (by simp), ?_⟩⟩⟩
  · rw [if_pos (.inl h0)] at h; exact h
  · rw [if_pos (.inr h1)] at h; exact h
  · rw [if_neg (by omega)] at h; exact h
theorem pool_eq {k : Nat} {x : Int} {σ : List Sl} {Q : R → List Sl → Prop} {X : Ex → List Sl → Prop} : wp (callF P (callN P (k + 2)) 190 [.val (.int x)]) σ Q X = Q (.tmp (poolOf x).d) σ :=
  e_callF (F := f__law_pool) rfl rfl nd0 rfl (wpc_ok (pool_wpc ⟨rfl, rfl⟩)) trivial (back0 rfl)
/-- the script -/
def scr (ns : List Int) : D := .lst (ns.map D.int)
def mixV (m : Int) (cs : List Int) : Int := cs.foldl (fun m c => (m * 42019 + c) % 2147483477) m
def cellV (ns : List Int) (j : Int) : Int := if j < ns.length then (ns[j.toNat]?).getD 0 else mixV (61027 * (j * j + 7 * j + 5) % 2147483477) (ns.take 3)
theorem cell_wpc {k : Nat} {ns : List Int} {j : Int} {Q : R → List Sl → Prop} {X : Ex → List Sl → Prop} (h0 : 0 ≤ j) (h1 : j < 1000) (h : Q (.val (.int (cellV ns j))) [.val (scr ns), .val (.int j)]) : wpc (callN P (k + 2) 189 [.val (scr ns), .val (.int j)]) Q X := by
  refine wpc_fn (F := f__law_cell) rfl rfl (by decide) rfl rfl ?_
  show wp (ex P _ f__law_cell.body) [.val (.lst (ns.map D.int)), .val (.int j), .un, .un] _ _
  unfold f__law_cell
  dsimp only
  walk_at "s"
  rw [List.length_map]
  refine ⟨fun hj => ?_, fun hj => ⟨.inl ⟨by omega, by omega⟩, .inl ⟨by decide, by decide⟩, .inl ⟨by decide, by decide⟩, ?_⟩⟩
  · rw [at_get h0 (by rw [List.length_map]; exact hj), List.getElem?_map]
    have hlt : j.toNat < ns.length := by omega
    unfold cellV at h
    rw [if_pos hj] at h
    rw [List.getElem?_eq_getElem hlt] at h ⊢
    rw [Option.map_some]
    walk_at "s"
    exact h
  · have e3 : cutL (ns.map D.int) none (some 3) = (ns.take 3).map D.int := by
      rw [show (3 : Int) = ((3 : Nat) : Int) from rfl, cut_to, List.map_take]
    rw [e3]
    unfold cellV at h
    rw [if_neg hj] at h
    refine wp_forL (fun rest σ => ∃ (m : Int) (cs : List Int) (s : Sl), rest = cs.map D.int ∧ freeS s = true ∧ σ = [.val (.lst (ns.map D.int)), .val (.int j), .val (.int m), s] ∧ 0 ≤ m ∧ m < 2147483477 ∧ mixV m cs = mixV (61027 * (j * j + 7 * j + 5) % 2147483477) (ns.take 3)) ?_ ?_ _ _ ⟨_, ns.take 3, .un, rfl, rfl, rfl, Int.emod_nonneg _ (by decide), Int.emod_lt_of_pos _ (by decide), rfl⟩
    · rintro d ds σ ⟨m, cs, s, e1, e2, e3, m0, m1, e4⟩
      cases cs with
      | nil => cases e1
      | cons c cs =>
        simp only [List.map_cons, List.cons.injEq] at e1
        obtain ⟨rfl, rfl⟩ := e1
        subst e3
        cases s with
        | own _ _ _ => cases e2
        | un =>
          walk_at "s"
          exact ⟨.inr (.inl ⟨by decide, by decide⟩), _, cs, _, rfl, rfl, rfl, Int.emod_nonneg _ (by decide), Int.emod_lt_of_pos _ (by decide), e4⟩
        | val d =>
          walk_at "s"
          exact ⟨.inr (.inl ⟨by decide, by decide⟩), _, cs, _, rfl, rfl, rfl, Int.emod_nonneg _ (by decide), Int.emod_lt_of_pos _ (by decide), e4⟩
    · rintro σ ⟨m, cs, s, e1, e2, e3, m0, m1, e4⟩
      have : cs = [] := by simpa using e1.symm
      subst this
      subst e3
      show forQ _ none _ _
      walk_at "s"
      rw [← e4] at h
      exact h
theorem cell_eq {k : Nat} {ns : List Int} {j : Int} {σ : List Sl} {Q : R → List Sl → Prop} {X : Ex → List Sl → Prop} (h0 : 0 ≤ j) (h1 : j < 1000) : wp (callF P (callN P (k + 2)) 189 [.val (scr ns), .val (.int j)]) σ Q X = Q (.val (.int (cellV ns j))) σ :=
  e_callF (F := f__law_cell) rfl rfl nd0 rfl (wpc_ok (cell_wpc h0 h1 ⟨rfl, rfl⟩)) trivial (back0 rfl)
end LW

set_option Elab.async false
set_option linter.all false
set_option maxRecDepth 100000
set_option maxHeartbeats 1000000
namespace LW
open PySem L2 EV
section
variable {O : Oc} {r : R} {σ : List Sl} {Q : R → List Sl → Prop} {X : Ex → List Sl → Prop} {es : E} {a b d : D} {q : D → Prop}
theorem con_1020 : P.con 1020 = some (.gl 1020) := rfl
theorem isi_h {ns : List Nat} {ds : List D} : isiF P (.ins 1020 ns ds) (.gl 1020) = some true := rfl
theorem con_2000 : P.con 2000 = some (.str "abcdefghijklmnopqrstuvwxyz") := rfl
theorem con_2001 : P.con 2001 = some (.int 8) := rfl
theorem at_h_past : attrE P O 35 r Q (.ins 1020 [35, 36] [a, b]) σ = Q (.val a) σ := rfl
theorem at_h_future : attrE P O 36 r Q (.ins 1020 [35, 36] [a, b]) σ = Q (.val b) σ := rfl
theorem at_h_line : attrE P O 27 r Q (.ins 1020 [35, 36] [a, b]) σ = wp (callF P O.c2 29 [r]) σ Q fun _ _ => False := rfl
theorem me_h_do : methE P O 28 r es Q X (.ins 1020 [35, 36] [a, b]) σ = wp (evA P O es) σ (fun rs σ3 => wp (callF P O.c1 30 (r :: rs)) σ3 Q X) X := rfl
theorem me_h_undo : methE P O 29 r es Q X (.ins 1020 [35, 36] [a, b]) σ = wp (evA P O es) σ (fun rs σ3 => wp (callF P O.c1 31 (r :: rs)) σ3 Q X) X := rfl
theorem me_h_redo : methE P O 30 r es Q X (.ins 1020 [35, 36] [a, b]) σ = wp (evA P O es) σ (fun rs σ3 => wp (callF P O.c1 32 (r :: rs)) σ3 Q X) X := rfl
theorem fs_h_past : fK P 35 d q (.ins 1020 [] []) = q (.ins 1020 [35] [d]) := e_fK rfl rfl (by decide)
theorem fs_h_future : fK P 36 d q (.ins 1020 [35] [a]) = q (.ins 1020 [35, 36] [a, d]) := e_fK rfl rfl (by decide)
end
local macro_rules | `(tactic| walk_at "s") => `(tactic| simp (config := { dsimp := false }) only [↓e_ret, ↓e_bnd, ↓e_some, ↓e_none, ↓e_T, ↓e_F, ↓e_Tt, ↓e_Ff, ↓e_ifd, ↓e_ifnd, ↓bK_v, ↓bK_o, ↓bK_s, ↓vK_v, ↓vK_o, ↓vK_s, ↓dK_v, ↓dK_o, ↓dK_s, ↓sK_v, ↓sK_u, ↓sK_o, ↓sK_s, ↓sK_fr, ↓oK_o, ↓oK_s, ↓rK_v, ↓rK_o, ↓rK_s, ↓e_c, ↓e_b, ↓e_v, ↓e_g, ↓e_dv, ↓e_dt, ↓e_db, ↓e_zv, ↓e_zt, ↓e_zb, ↓e_bin, ↓e_neg, ↓e_cmp, ↓e_cmp2, ↓e_not, ↓e_and, ↓e_or, ↓e_ife, ↓e_tup, ↓e_lst, ↓e_bi, ↓e_dsn, ↓e_dsc, ↓e_call, ↓e_mk, ↓e_methK, ↓e_meth, ↓e_smeth, ↓e_attrF, ↓e_attrC, ↓e_attrP, ↓e_attr, ↓e_ix, ↓e_sl, ↓e_pn, ↓e_pt, ↓e_dn, ↓e_da, ↓e_dst, ↓e_an, ↓e_aa, ↓e_rng, ↓e_enm, ↓e_sq, ↓e_tn, ↓e_ta, ↓e_to, ↓e_ti, ↓e_tc, ↓e_tc2, ↓e_tr, ↓e_nil, ↓e_seq, ↓e_sqn, ↓e_sqr, ↓e_sqb, ↓e_sqc, ↓e_fnv, ↓e_fnt, ↓e_fnn, ↓e_tkn, ↓e_tkc, ↓e_tkb, ↓e_tkr, ↓e_lks, ↓e_lkn, ↓e_int, ↓e_str, ↓e_pair, ↓e_bl, ↓e_wks, ↓e_wkn, ↓e_put, ↓e_set1, ↓e_pv, ↓e_ptm, ↓e_sett, ↓e_asN, ↓e_asT, ↓e_asn, ↓e_asc, ↓e_par, ↓e_prn, ↓e_prc, ↓iK_o, ↓iK_s, ↓e_isOwn, ↓e_setix, ↓e_ls, ↓e_setF, ↓e_set30, ↓e_set31, ↓e_set32, ↓e_setat, ↓e_setA, ↓e_expr, ↓e_retE, ↓e_retv, ↓e_iteS, ↓e_brk, ↓e_cont, ↓e_unp, ↓e_aug, ↓e_forQ, ↓e_for, ↓e_whl, ↓e_mul, ↓e_add, ↓e_sub, ↓e_addF, ↓e_subF, ↓e_mod, ↓e_fdiv, ↓e_pow, ↓e_divmod, ↓e_addS, ↓e_addT, ↓e_addL, ↓e_mulT, ↓e_len_t, ↓e_len_l, ↓e_len_s, ↓e_max, ↓e_min, ↓e_abs, ↓e_tupl, ↓e_tupt, ↓e_lstl, ↓e_lstt, ↓e_inti, ↓e_intb, ↓e_all, ↓e_any, ↓e_isi, ↓e_ixt, ↓e_ixl, ↓e_slt, ↓e_sll, ↓e_sls, ↓e_lt, ↓e_le, ↓e_gt, ↓e_ge, ↓e_eqi, ↓e_nei, ↓e_is, ↓e_isnt, ↓e_in, ↓lenK_i, ↓txtK_i, ↓boolK_i, ↓e_lenI, ↓e_strI, ↓e_reprI, ↓e_reprl, ↓e_reprt, ↓e_strs, ↓e_stri, ↓e_suml, ↓e_addI, ↓e_inI, ↓e_inl, ↓e_intp, ↓e_ninl, ↓e_nintp, ↓calK_i, ↓calK_g, ↓e_calI, ↓e_calG, ↓e_callv, ↓e_star, ↓fstK_i, ↓e_fst, ↓e_fstn, ↓e_fsta, ↓e_fmt, ↓e_fmts, ↓e_fmti, ↓e_fmtI, ↓e_appF, ↓liK_o, ↓liK_s, ↓e_isLst, ↓e_app, ↓extK_i, ↓e_ext, ↓e_lc, ↓e_eqS, ↓e_eqT, ↓e_eqL, ↓e_eqB, ↓e_neS, ↓e_neT, ↓e_neL, ↓e_neB, con_1020, isi_h, con_2000, con_2001, ↓at_h_past, ↓at_h_future, ↓at_h_line, ↓me_h_do, ↓me_h_undo, ↓me_h_redo, ↓fs_h_past, ↓fs_h_future, at_0, at_1, at_2, at_3, at_4, at_5, lk_v, lk_t, lock_n, unlock_n, items_l, items_t, items_s, itemsQ_l, itemsQ_t, tr_b, is_n, is_i, is_s, is_t, is_l, cmp_le, cmp_lt, isi_it, isi_ib, isi_is, isi_ss, isi_si, isi_tt, eqD_bl, io_o, io_v, io_n, true_and, Int.reduceLT, Int.reduceLE, Bool.not_true, Bool.not_false, Int.reduceEq, true_implies, false_implies, not_true_eq_false, not_false_eq_true, and_true, implies_true, len_0, len_1, len_2, len_3, len_4, len_5])
structure Nm (s : Str) : Prop where
  l1 : 1 ≤ s.length
  l8 : s.length ≤ 8
  az : ∀ c ∈ s.cps.toList, 97 ≤ c ∧ c ≤ 122
theorem letter {c : Nat} (h : 97 ≤ c ∧ c ≤ 122) : (!(Builtin.Str.occurrences ("abcdefghijklmnopqrstuvwxyz" : Str) ⟨#[c]⟩ 0 ("abcdefghijklmnopqrstuvwxyz" : Str).length 1).isEmpty) = true := by
  have := StrLaws.found_one ("abcdefghijklmnopqrstuvwxyz" : Str) c
  rw [show (⟨#[c]⟩ : Str) = ⟨[c].toArray⟩ from rfl] at *
  rw [this]
  have hc : c = 97 ∨ c = 98 ∨ c = 99 ∨ c = 100 ∨ c = 101 ∨ c = 102 ∨ c = 103 ∨ c = 104 ∨ c = 105 ∨ c = 106 ∨ c = 107 ∨ c = 108 ∨ c = 109 ∨ c = 110 ∨ c = 111 ∨ c = 112 ∨ c = 113 ∨ c = 114 ∨ c = 115 ∨ c = 116 ∨ c = 117 ∨ c = 118 ∨ c = 119 ∨ c = 120 ∨ c = 121 ∨ c = 122 := by omega
  rcases hc with rfl | rfl | rfl | rfl | rfl | rfl | rfl | rfl | rfl | rfl | rfl | rfl | rfl | rfl | rfl | rfl | rfl | rfl | rfl | rfl | rfl | rfl | rfl | rfl | rfl | rfl <;> decide +kernel
theorem is_name_wpc {k : Nat} {s : Str} {Q : R → List Sl → Prop} {X : Ex → List Sl → Prop} (hs : Nm s) (h : Q (.val (.bl true)) [.val (.str s)]) : wpc (callN P (k + 2) 17 [.val (.str s)]) Q X := by
  refine wpc_fn (F := f_is_name) rfl rfl (by decide) rfl rfl ?_
  show wp (ex P _ f_is_name.body) [.val (.str s), .un] _ _
  unfold f_is_name
  dsimp only
  obtain ⟨l1, l8, az⟩ := hs
  walk_at "s"
  refine ⟨le_lim (by omega), fun _ => ⟨fun _ => ?_, fun h8 => absurd h8 (by omega)⟩, fun h1 => absurd h1 (by omega)⟩
  refine wp_lcp (fun _ => .bl true) rfl rfl (le_lim (by rw [List.length_map]; show s.length ≤ 100000; omega)) (fun d hd => ?_) ?_
  · obtain ⟨c, hc, rfl⟩ := List.mem_map.mp hd
    show wp _ [.val (.str s), .val (.str ⟨#[c]⟩)] _ _
    walk_at "s"
    show wp (ofO (some (!(Builtin.Str.occurrences ("abcdefghijklmnopqrstuvwxyz" : Str) ⟨#[c]⟩ 0 ("abcdefghijklmnopqrstuvwxyz" : Str).length 1).isEmpty))) _ _ _
    rw [letter (az c hc)]
    exact ⟨rfl, .inl rfl⟩
  · walk_at "s"
    rw [List.map_map, show ((fun (_ : D) => D.bl true) ∘ fun (c : Nat) => D.str ⟨#[c]⟩) = fun _ => D.bl true from rfl]
    have e : ∀ (l : List Nat), blsF (l.map fun _ => D.bl true) = some (l.map fun _ => true) := by
      intro l
      induction l with
      | nil => rfl
      | cons a l ih => simp only [List.map_cons, blsF, ih, Option.map_some]
    rw [e]
    walk_at "s"
    have e2 : (s.cps.toList.map fun _ => true).all id = true := by simp
    rw [e2]
    exact h
theorem is_name_eq {k : Nat} {s : Str} {σ : List Sl} {Q : R → List Sl → Prop} {X : Ex → List Sl → Prop} (hs : Nm s) : wp (callF P (callN P (k + 2)) 17 [.val (.str s)]) σ Q X = Q (.val (.bl true)) σ :=
  e_callF (F := f_is_name) rfl rfl nd0 rfl (wpc_ok (is_name_wpc hs ⟨rfl, rfl⟩)) trivial (back0 rfl)
end LW

set_option Elab.async false
set_option linter.all false
set_option maxRecDepth 100000
set_option maxHeartbeats 1000000
namespace LW
open PySem L2 EV
local macro_rules | `(tactic| walk_at "s") => `(tactic| simp (config := { dsimp := false }) only [↓e_ret, ↓e_bnd, ↓e_some, ↓e_none, ↓e_T, ↓e_F, ↓e_Tt, ↓e_Ff, ↓e_ifd, ↓e_ifnd, ↓bK_v, ↓bK_o, ↓bK_s, ↓vK_v, ↓vK_o, ↓vK_s, ↓dK_v, ↓dK_o, ↓dK_s, ↓sK_v, ↓sK_u, ↓sK_o, ↓sK_s, ↓sK_fr, ↓oK_o, ↓oK_s, ↓rK_v, ↓rK_o, ↓rK_s, ↓e_c, ↓e_b, ↓e_v, ↓e_g, ↓e_dv, ↓e_dt, ↓e_db, ↓e_zv, ↓e_zt, ↓e_zb, ↓e_bin, ↓e_neg, ↓e_cmp, ↓e_cmp2, ↓e_not, ↓e_and, ↓e_or, ↓e_ife, ↓e_tup, ↓e_lst, ↓e_bi, ↓e_dsn, ↓e_dsc, ↓e_call, ↓e_mk, ↓e_methK, ↓e_meth, ↓e_smeth, ↓e_attrF, ↓e_attrC, ↓e_attrP, ↓e_attr, ↓e_ix, ↓e_sl, ↓e_pn, ↓e_pt, ↓e_dn, ↓e_da, ↓e_dst, ↓e_an, ↓e_aa, ↓e_rng, ↓e_enm, ↓e_sq, ↓e_tn, ↓e_ta, ↓e_to, ↓e_ti, ↓e_tc, ↓e_tc2, ↓e_tr, ↓e_nil, ↓e_seq, ↓e_sqn, ↓e_sqr, ↓e_sqb, ↓e_sqc, ↓e_fnv, ↓e_fnt, ↓e_fnn, ↓e_tkn, ↓e_tkc, ↓e_tkb, ↓e_tkr, ↓e_lks, ↓e_lkn, ↓e_int, ↓e_str, ↓e_pair, ↓e_bl, ↓e_wks, ↓e_wkn, ↓e_put, ↓e_set1, ↓e_pv, ↓e_ptm, ↓e_sett, ↓e_asN, ↓e_asT, ↓e_asn, ↓e_asc, ↓e_par, ↓e_prn, ↓e_prc, ↓iK_o, ↓iK_s, ↓e_isOwn, ↓e_setix, ↓e_ls, ↓e_setF, ↓e_set30, ↓e_set31, ↓e_set32, ↓e_setat, ↓e_setA, ↓e_expr, ↓e_retE, ↓e_retv, ↓e_iteS, ↓e_brk, ↓e_cont, ↓e_unp, ↓e_aug, ↓e_forQ, ↓e_for, ↓e_whl, ↓e_mul, ↓e_add, ↓e_sub, ↓e_addF, ↓e_subF, ↓e_mod, ↓e_fdiv, ↓e_pow, ↓e_divmod, ↓e_addS, ↓e_addT, ↓e_addL, ↓e_mulT, ↓e_len_t, ↓e_len_l, ↓e_len_s, ↓e_max, ↓e_min, ↓e_abs, ↓e_tupl, ↓e_tupt, ↓e_lstl, ↓e_lstt, ↓e_inti, ↓e_intb, ↓e_all, ↓e_any, ↓e_isi, ↓e_ixt, ↓e_ixl, ↓e_slt, ↓e_sll, ↓e_sls, ↓e_lt, ↓e_le, ↓e_gt, ↓e_ge, ↓e_eqi, ↓e_nei, ↓e_is, ↓e_isnt, ↓e_in, ↓lenK_i, ↓txtK_i, ↓boolK_i, ↓e_lenI, ↓e_strI, ↓e_reprI, ↓e_reprl, ↓e_reprt, ↓e_strs, ↓e_stri, ↓e_suml, ↓e_addI, ↓e_inI, ↓e_inl, ↓e_intp, ↓e_ninl, ↓e_nintp, ↓calK_i, ↓calK_g, ↓e_calI, ↓e_calG, ↓e_callv, ↓e_star, ↓fstK_i, ↓e_fst, ↓e_fstn, ↓e_fsta, ↓e_fmt, ↓e_fmts, ↓e_fmti, ↓e_fmtI, ↓e_appF, ↓liK_o, ↓liK_s, ↓e_isLst, ↓e_app, ↓extK_i, ↓e_ext, ↓e_lc, ↓e_eqS, ↓e_eqT, ↓e_eqL, ↓e_eqB, ↓e_neS, ↓e_neT, ↓e_neL, ↓e_neB, con_1020, isi_h, con_2000, con_2001, ↓at_h_past, ↓at_h_future, ↓at_h_line, ↓me_h_do, ↓me_h_undo, ↓me_h_redo, ↓fs_h_past, ↓fs_h_future, ↓is_name_eq, at_0, at_1, at_2, at_3, at_4, at_5, lk_v, lk_t, lock_n, unlock_n, items_l, items_t, items_s, itemsQ_l, itemsQ_t, tr_b, is_n, is_i, is_s, is_t, is_l, cmp_le, cmp_lt, isi_it, isi_ib, isi_is, isi_ss, isi_si, isi_tt, eqD_bl, io_o, io_v, io_n, true_and, Int.reduceLT, Int.reduceLE, Bool.not_true, Bool.not_false, Int.reduceEq, true_implies, false_implies, not_true_eq_false, not_false_eq_true, and_true, implies_true, len_0, len_1, len_2, len_3, len_4, len_5])
section
variable {k : Nat} {σ : List Sl} {Q : R → List Sl → Prop} {X : Ex → List Sl → Prop} {i : Int} {s : Str}
theorem is_int_wpc (h : Q (.val (.bl true)) [.val (.int i)]) : wpc (callN P (k + 2) 16 [.val (.int i)]) Q X := by
  refine wpc_fn (F := f_is_integer) rfl rfl (by decide) rfl rfl ?_
  show wp (ex P _ f_is_integer.body) [.val (.int i)] _ _
  unfold f_is_integer
  dsimp only
  walk_at "s"
  exact h
theorem is_int_eq : wp (callF P (callN P (k + 2)) 16 [.val (.int i)]) σ Q X = Q (.val (.bl true)) σ :=
  e_callF (F := f_is_integer) rfl rfl nd0 rfl (wpc_ok (is_int_wpc ⟨rfl, rfl⟩)) trivial (back0 rfl)
end
local macro_rules | `(tactic| walk_at "s") => `(tactic| simp (config := { dsimp := false }) only [↓e_ret, ↓e_bnd, ↓e_some, ↓e_none, ↓e_T, ↓e_F, ↓e_Tt, ↓e_Ff, ↓e_ifd, ↓e_ifnd, ↓bK_v, ↓bK_o, ↓bK_s, ↓vK_v, ↓vK_o, ↓vK_s, ↓dK_v, ↓dK_o, ↓dK_s, ↓sK_v, ↓sK_u, ↓sK_o, ↓sK_s, ↓sK_fr, ↓oK_o, ↓oK_s, ↓rK_v, ↓rK_o, ↓rK_s, ↓e_c, ↓e_b, ↓e_v, ↓e_g, ↓e_dv, ↓e_dt, ↓e_db, ↓e_zv, ↓e_zt, ↓e_zb, ↓e_bin, ↓e_neg, ↓e_cmp, ↓e_cmp2, ↓e_not, ↓e_and, ↓e_or, ↓e_ife, ↓e_tup, ↓e_lst, ↓e_bi, ↓e_dsn, ↓e_dsc, ↓e_call, ↓e_mk, ↓e_methK, ↓e_meth, ↓e_smeth, ↓e_attrF, ↓e_attrC, ↓e_attrP, ↓e_attr, ↓e_ix, ↓e_sl, ↓e_pn, ↓e_pt, ↓e_dn, ↓e_da, ↓e_dst, ↓e_an, ↓e_aa, ↓e_rng, ↓e_enm, ↓e_sq, ↓e_tn, ↓e_ta, ↓e_to, ↓e_ti, ↓e_tc, ↓e_tc2, ↓e_tr, ↓e_nil, ↓e_seq, ↓e_sqn, ↓e_sqr, ↓e_sqb, ↓e_sqc, ↓e_fnv, ↓e_fnt, ↓e_fnn, ↓e_tkn, ↓e_tkc, ↓e_tkb, ↓e_tkr, ↓e_lks, ↓e_lkn, ↓e_int, ↓e_str, ↓e_pair, ↓e_bl, ↓e_wks, ↓e_wkn, ↓e_put, ↓e_set1, ↓e_pv, ↓e_ptm, ↓e_sett, ↓e_asN, ↓e_asT, ↓e_asn, ↓e_asc, ↓e_par, ↓e_prn, ↓e_prc, ↓iK_o, ↓iK_s, ↓e_isOwn, ↓e_setix, ↓e_ls, ↓e_setF, ↓e_set30, ↓e_set31, ↓e_set32, ↓e_setat, ↓e_setA, ↓e_expr, ↓e_retE, ↓e_retv, ↓e_iteS, ↓e_brk, ↓e_cont, ↓e_unp, ↓e_aug, ↓e_forQ, ↓e_for, ↓e_whl, ↓e_mul, ↓e_add, ↓e_sub, ↓e_addF, ↓e_subF, ↓e_mod, ↓e_fdiv, ↓e_pow, ↓e_divmod, ↓e_addS, ↓e_addT, ↓e_addL, ↓e_mulT, ↓e_len_t, ↓e_len_l, ↓e_len_s, ↓e_max, ↓e_min, ↓e_abs, ↓e_tupl, ↓e_tupt, ↓e_lstl, ↓e_lstt, ↓e_inti, ↓e_intb, ↓e_all, ↓e_any, ↓e_isi, ↓e_ixt, ↓e_ixl, ↓e_slt, ↓e_sll, ↓e_sls, ↓e_lt, ↓e_le, ↓e_gt, ↓e_ge, ↓e_eqi, ↓e_nei, ↓e_is, ↓e_isnt, ↓e_in, ↓lenK_i, ↓txtK_i, ↓boolK_i, ↓e_lenI, ↓e_strI, ↓e_reprI, ↓e_reprl, ↓e_reprt, ↓e_strs, ↓e_stri, ↓e_suml, ↓e_addI, ↓e_inI, ↓e_inl, ↓e_intp, ↓e_ninl, ↓e_nintp, ↓calK_i, ↓calK_g, ↓e_calI, ↓e_calG, ↓e_callv, ↓e_star, ↓fstK_i, ↓e_fst, ↓e_fstn, ↓e_fsta, ↓e_fmt, ↓e_fmts, ↓e_fmti, ↓e_fmtI, ↓e_appF, ↓liK_o, ↓liK_s, ↓e_isLst, ↓e_app, ↓extK_i, ↓e_ext, ↓e_lc, ↓e_eqS, ↓e_eqT, ↓e_eqL, ↓e_eqB, ↓e_neS, ↓e_neT, ↓e_neL, ↓e_neB, con_1020, isi_h, con_2000, con_2001, ↓at_h_past, ↓at_h_future, ↓at_h_line, ↓me_h_do, ↓me_h_undo, ↓me_h_redo, ↓fs_h_past, ↓fs_h_future, ↓is_name_eq, ↓is_int_eq, at_0, at_1, at_2, at_3, at_4, at_5, lk_v, lk_t, lock_n, unlock_n, items_l, items_t, items_s, itemsQ_l, itemsQ_t, tr_b, is_n, is_i, is_s, is_t, is_l, cmp_le, cmp_lt, isi_it, isi_ib, isi_is, isi_ss, isi_si, isi_tt, eqD_bl, io_o, io_v, io_n, true_and, Int.reduceLT, Int.reduceLE, Bool.not_true, Bool.not_false, Int.reduceEq, true_implies, false_implies, not_true_eq_false, not_false_eq_true, and_true, implies_true, len_0, len_1, len_2, len_3, len_4, len_5])
/-- an amount -/
def Am : Option Int → D
  | none => .non
  | some i => .int i
def AmOk : Option Int → Prop
  | none => True
  | some i => 1 ≤ i
section
variable {k : Nat} {σ : List Sl} {Q : R → List Sl → Prop} {X : Ex → List Sl → Prop} {i : Int} {s : Str} {a : Option Int}
theorem is_amount_wpc (ha : AmOk a) (h : Q (.val (.bl true)) [.val (Am a)]) : wpc (callN P (k + 3) 18 [.val (Am a)]) Q X := by
  refine wpc_fn (F := f_is_amount) rfl rfl (by decide) rfl rfl ?_
  cases a with
  | none =>
    show wp (ex P _ f_is_amount.body) [.val .non] _ _
    unfold f_is_amount
    dsimp only
    walk_at "s"
    exact h
  | some i =>
    show wp (ex P _ f_is_amount.body) [.val (.int i)] _ _
    unfold f_is_amount
    dsimp only
    walk_at "s"
    rw [decide_eq_true (show (1 : Int) ≤ i from ha)]
    exact h
theorem is_amount_eq (ha : AmOk a) : wp (callF P (callN P (k + 3)) 18 [.val (Am a)]) σ Q X = Q (.val (.bl true)) σ :=
  e_callF (F := f_is_amount) rfl rfl nd0 rfl (wpc_ok (is_amount_wpc ha ⟨rfl, rfl⟩)) trivial (back0 rfl)
theorem check_amount_wpc (ha : AmOk a) (h : Q (.val .non) [.val (Am a)]) : wpc (callN P (k + 4) 22 [.val (Am a)]) Q X := by
  refine wpc_fn (F := f_check_amount) rfl rfl (by decide) rfl rfl ?_
  show wp (ex P _ f_check_amount.body) [.val (Am a)] _ _
  unfold f_check_amount
  dsimp only
  walk_at "s"
  rw [is_amount_eq ha]
  walk_at "s"
  exact h
theorem check_amount_eq (ha : AmOk a) : wp (callF P (callN P (k + 4)) 22 [.val (Am a)]) σ Q X = Q (.val .non) σ :=
  e_callF (F := f_check_amount) rfl rfl nd0 rfl (wpc_ok (check_amount_wpc ha ⟨rfl, rfl⟩)) trivial (back0 rfl)
theorem check_name_wpc (hs : Nm s) (h : Q (.val .non) [.val (.str s)]) : wpc (callN P (k + 4) 20 [.val (.str s)]) Q X := by
  refine wpc_fn (F := f_check_name) rfl rfl (by decide) rfl rfl ?_
  show wp (ex P _ f_check_name.body) [.val (.str s)] _ _
  unfold f_check_name
  dsimp only
  walk_at "s"
  rw [is_name_eq hs]
  walk_at "s"
  exact h
theorem check_name_eq (hs : Nm s) : wp (callF P (callN P (k + 4)) 20 [.val (.str s)]) σ Q X = Q (.val .non) σ :=
  e_callF (F := f_check_name) rfl rfl nd0 rfl (wpc_ok (check_name_wpc hs ⟨rfl, rfl⟩)) trivial (back0 rfl)
end
/-- names as data -/
def nms (xs : List Str) : List D := xs.map D.str
def tn (xs : List Str) : D := .tup (nms xs)
structure NmsOk (xs : List Str) : Prop where
  nm : ∀ x ∈ xs, Nm x
section
variable {k : Nat} {σ : List Sl} {Q : R → List Sl → Prop} {X : Ex → List Sl → Prop} {xs : List Str}
theorem check_names_wpc (hx : NmsOk xs) (h : Q (.val .non) [.val (tn xs)]) : wpc (callN P (k + 4) 21 [.val (tn xs)]) Q X := by
  refine wpc_fn (F := f_check_names) rfl rfl (by decide) rfl rfl ?_
  show wp (ex P _ f_check_names.body) [.val (.tup (nms xs)), .un, .un] _ _
  unfold f_check_names
  dsimp only
  walk_at "s"
  refine wp_forL (fun rest σ => ∃ (n : Nat) (ys : List Str) (s1 s2 : Sl), rest = enumFrom n (nms ys) ∧ (∀ y ∈ ys, Nm y) ∧ freeS s1 = true ∧ freeS s2 = true ∧ σ = [.val (.tup (nms xs)), s1, s2]) ?_ ?_ _ _ ⟨0, xs, .un, .un, rfl, hx.nm, rfl, rfl, rfl⟩
  · rintro d ds σ ⟨n, ys, s1, s2, e1, e2, e3, e4, e5⟩
    cases ys with
    | nil => cases e1
    | cons y ys =>
      simp only [nms, List.map_cons, enumFrom, List.cons.injEq] at e1
      obtain ⟨rfl, rfl⟩ := e1
      subst e5
      cases s1 with
      | own _ _ _ => cases e3
      | un =>
        cases s2 with
        | own _ _ _ => cases e4
        | un =>
          walk_at "s"
          rw [is_name_eq (e2 y List.mem_cons_self)]
          walk_at "s"
          exact ⟨n + 1, ys, _, _, rfl, fun z hz => e2 z (List.mem_cons_of_mem _ hz), rfl, rfl, rfl⟩
        | val d2 =>
          walk_at "s"
          rw [is_name_eq (e2 y List.mem_cons_self)]
          walk_at "s"
          exact ⟨n + 1, ys, _, _, rfl, fun z hz => e2 z (List.mem_cons_of_mem _ hz), rfl, rfl, rfl⟩
      | val d1 =>
        cases s2 with
        | own _ _ _ => cases e4
        | un =>
          walk_at "s"
          rw [is_name_eq (e2 y List.mem_cons_self)]
          walk_at "s"
          exact ⟨n + 1, ys, _, _, rfl, fun z hz => e2 z (List.mem_cons_of_mem _ hz), rfl, rfl, rfl⟩
        | val d2 =>
          walk_at "s"
          rw [is_name_eq (e2 y List.mem_cons_self)]
          walk_at "s"
          exact ⟨n + 1, ys, _, _, rfl, fun z hz => e2 z (List.mem_cons_of_mem _ hz), rfl, rfl, rfl⟩
  · rintro σ ⟨n, ys, s1, s2, e1, e2, e3, e4, e5⟩
    subst e5
    show forQ _ none _ _
    walk_at "s"
    exact h
theorem check_names_eq (hx : NmsOk xs) : wp (callF P (callN P (k + 4)) 21 [.val (tn xs)]) σ Q X = Q (.val .non) σ :=
  e_callF (F := f_check_names) rfl rfl nd0 rfl (wpc_ok (check_names_wpc hx ⟨rfl, rfl⟩)) trivial (back0 rfl)
end
end LW

set_option Elab.async false
set_option linter.all false
set_option maxRecDepth 100000
set_option maxHeartbeats 1000000
namespace LW
open PySem L2 EV
theorem eq_uu : eqD (.str "undo") (.str "undo") = some true := (EqR.str (n := 0) (by decide +kernel) (by decide +kernel)).eqD (by decide) |>.trans (by decide +kernel)
theorem eq_ru : eqD (.str "redo") (.str "undo") = some false := (EqR.str (n := 0) (by decide +kernel) (by decide +kernel)).eqD (by decide) |>.trans (by decide +kernel)
local macro_rules | `(tactic| walk_at "s") => `(tactic| simp (config := { dsimp := false }) only [↓e_ret, ↓e_bnd, ↓e_some, ↓e_none, ↓e_T, ↓e_F, ↓e_Tt, ↓e_Ff, ↓e_ifd, ↓e_ifnd, ↓bK_v, ↓bK_o, ↓bK_s, ↓vK_v, ↓vK_o, ↓vK_s, ↓dK_v, ↓dK_o, ↓dK_s, ↓sK_v, ↓sK_u, ↓sK_o, ↓sK_s, ↓sK_fr, ↓oK_o, ↓oK_s, ↓rK_v, ↓rK_o, ↓rK_s, ↓e_c, ↓e_b, ↓e_v, ↓e_g, ↓e_dv, ↓e_dt, ↓e_db, ↓e_zv, ↓e_zt, ↓e_zb, ↓e_bin, ↓e_neg, ↓e_cmp, ↓e_cmp2, ↓e_not, ↓e_and, ↓e_or, ↓e_ife, ↓e_tup, ↓e_lst, ↓e_bi, ↓e_dsn, ↓e_dsc, ↓e_call, ↓e_mk, ↓e_methK, ↓e_meth, ↓e_smeth, ↓e_attrF, ↓e_attrC, ↓e_attrP, ↓e_attr, ↓e_ix, ↓e_sl, ↓e_pn, ↓e_pt, ↓e_dn, ↓e_da, ↓e_dst, ↓e_an, ↓e_aa, ↓e_rng, ↓e_enm, ↓e_sq, ↓e_tn, ↓e_ta, ↓e_to, ↓e_ti, ↓e_tc, ↓e_tc2, ↓e_tr, ↓e_nil, ↓e_seq, ↓e_sqn, ↓e_sqr, ↓e_sqb, ↓e_sqc, ↓e_fnv, ↓e_fnt, ↓e_fnn, ↓e_tkn, ↓e_tkc, ↓e_tkb, ↓e_tkr, ↓e_lks, ↓e_lkn, ↓e_int, ↓e_str, ↓e_pair, ↓e_bl, ↓e_wks, ↓e_wkn, ↓e_put, ↓e_set1, ↓e_pv, ↓e_ptm, ↓e_sett, ↓e_asN, ↓e_asT, ↓e_asn, ↓e_asc, ↓e_par, ↓e_prn, ↓e_prc, ↓iK_o, ↓iK_s, ↓e_isOwn, ↓e_setix, ↓e_ls, ↓e_setF, ↓e_set30, ↓e_set31, ↓e_set32, ↓e_setat, ↓e_setA, ↓e_expr, ↓e_retE, ↓e_retv, ↓e_iteS, ↓e_brk, ↓e_cont, ↓e_unp, ↓e_aug, ↓e_forQ, ↓e_for, ↓e_whl, ↓e_mul, ↓e_add, ↓e_sub, ↓e_addF, ↓e_subF, ↓e_mod, ↓e_fdiv, ↓e_pow, ↓e_divmod, ↓e_addS, ↓e_addT, ↓e_addL, ↓e_mulT, ↓e_len_t, ↓e_len_l, ↓e_len_s, ↓e_max, ↓e_min, ↓e_abs, ↓e_tupl, ↓e_tupt, ↓e_lstl, ↓e_lstt, ↓e_inti, ↓e_intb, ↓e_all, ↓e_any, ↓e_isi, ↓e_ixt, ↓e_ixl, ↓e_slt, ↓e_sll, ↓e_sls, ↓e_lt, ↓e_le, ↓e_gt, ↓e_ge, ↓e_eqi, ↓e_nei, ↓e_is, ↓e_isnt, ↓e_in, ↓lenK_i, ↓txtK_i, ↓boolK_i, ↓e_lenI, ↓e_strI, ↓e_reprI, ↓e_reprl, ↓e_reprt, ↓e_strs, ↓e_stri, ↓e_suml, ↓e_addI, ↓e_inI, ↓e_inl, ↓e_intp, ↓e_ninl, ↓e_nintp, ↓calK_i, ↓calK_g, ↓e_calI, ↓e_calG, ↓e_callv, ↓e_star, ↓fstK_i, ↓e_fst, ↓e_fstn, ↓e_fsta, ↓e_fmt, ↓e_fmts, ↓e_fmti, ↓e_fmtI, ↓e_appF, ↓liK_o, ↓liK_s, ↓e_isLst, ↓e_app, ↓extK_i, ↓e_ext, ↓e_lc, ↓e_eqS, ↓e_eqT, ↓e_eqL, ↓e_eqB, ↓e_neS, ↓e_neT, ↓e_neL, ↓e_neB, con_1020, isi_h, con_2000, con_2001, ↓at_h_past, ↓at_h_future, ↓at_h_line, ↓me_h_do, ↓me_h_undo, ↓me_h_redo, ↓fs_h_past, ↓fs_h_future, eq_uu, eq_ru, at_0, at_1, at_2, at_3, at_4, at_5, lk_v, lk_t, lock_n, unlock_n, items_l, items_t, items_s, itemsQ_l, itemsQ_t, tr_b, is_n, is_i, is_s, is_t, is_l, cmp_le, cmp_lt, isi_it, isi_ib, isi_is, isi_ss, isi_si, isi_tt, eqD_bl, io_o, io_v, io_n, true_and, Int.reduceLT, Int.reduceLE, Bool.not_true, Bool.not_false, Int.reduceEq, true_implies, false_implies, not_true_eq_false, not_false_eq_true, and_true, implies_true, len_0, len_1, len_2, len_3, len_4, len_5])
theorem cut_toI {xs : List D} {c : Int} (h : 0 ≤ c) : cutL xs none (some c) = xs.take c.toNat := by
  have e : c = ((c.toNat : Nat) : Int) := (Int.toNat_of_nonneg h).symm
  rw [e, cut_to]; rfl
theorem cut_fromI {xs : List D} {c : Int} (h : 0 ≤ c) : cutL xs (some c) none = xs.drop c.toNat := by
  have e : c = ((c.toNat : Nat) : Int) := (Int.toNat_of_nonneg h).symm
  rw [e, cut_from]; rfl
def mvU (p f : List Str) : Option Int → List Str × List Str
  | none => ([], p ++ f)
  | some i => (p.take (p.length - i.toNat), p.drop (p.length - i.toNat) ++ f)
def mvR (p f : List Str) : Option Int → List Str × List Str
  | none => (p ++ f, [])
  | some i => (p ++ f.take i.toNat, f.drop i.toNat)
theorem nms_len {xs : List Str} : (nms xs).length = xs.length := List.length_map _
theorem nms_app {xs ys : List Str} : nms xs ++ nms ys = nms (xs ++ ys) := (List.map_append).symm
theorem nms_take {xs : List Str} {n : Nat} : (nms xs).take n = nms (xs.take n) := (List.map_take).symm
theorem nms_drop {xs : List Str} {n : Nat} : (nms xs).drop n = nms (xs.drop n) := (List.map_drop).symm
section
variable {k : Nat} {σ : List Sl} {Q : R → List Sl → Prop} {X : Ex → List Sl → Prop} {p f : List Str} {a : Option Int}
theorem movedU_wpc (ha : AmOk a) (hl : p.length + f.length ≤ 1000) (h : Q (.val (.tup [tn (mvU p f a).1, tn (mvU p f a).2])) [.val (tn p), .val (tn f), .val (.str "undo"), .val (Am a)]) : wpc (callN P (k + 2) 25 [.val (tn p), .val (tn f), .val (.str "undo"), .val (Am a)]) Q X := by
  refine wpc_fn (F := f_moved) rfl rfl (by decide) rfl rfl ?_
  unfold tn at *
  cases a with
  | none =>
    show wp (ex P _ f_moved.body) [.val (.tup (nms p)), .val (.tup (nms f)), .val (.str "undo"), .val .non, .un] _ _
    unfold f_moved
    dsimp only
    walk_at "s"
    rw [cut_toI (by decide), cut_fromI (by decide)]
    simp only [Int.toNat_zero, List.take_zero, List.drop_zero, nms_app, nms_len]
    exact ⟨le_lim (by omega), le_lim (by simp), h⟩
  | some i =>
    have ha : 1 ≤ i := ha
    show wp (ex P _ f_moved.body) [.val (.tup (nms p)), .val (.tup (nms f)), .val (.str "undo"), .val (.int i), .un] _ _
    unfold f_moved
    dsimp only
    walk_at "s"
    have hc : (if (((nms p).length : Nat) : Int) - i > 0 then (((nms p).length : Nat) : Int) - i else 0) = ((p.length - i.toNat : Nat) : Int) := by
      rw [nms_len]; split <;> omega
    rw [hc, cut_to, cut_from]
    simp only [nms_take, nms_drop, nms_app, nms_len]
    refine ⟨?_, le_lim (by simp), h⟩
    rw [List.length_drop]
    exact le_lim (by omega)
theorem movedU_eq (ha : AmOk a) (hl : p.length + f.length ≤ 1000) : wp (callF P (callN P (k + 2)) 25 [.val (tn p), .val (tn f), .val (.str "undo"), .val (Am a)]) σ Q X = Q (.val (.tup [tn (mvU p f a).1, tn (mvU p f a).2])) σ :=
  e_callF (F := f_moved) rfl rfl nd0 rfl (wpc_ok (movedU_wpc ha hl ⟨rfl, rfl⟩)) trivial (back0 rfl)
theorem movedR_wpc (ha : AmOk a) (hl : p.length + f.length ≤ 1000) (h : Q (.val (.tup [tn (mvR p f a).1, tn (mvR p f a).2])) [.val (tn p), .val (tn f), .val (.str "redo"), .val (Am a)]) : wpc (callN P (k + 2) 25 [.val (tn p), .val (tn f), .val (.str "redo"), .val (Am a)]) Q X := by
  refine wpc_fn (F := f_moved) rfl rfl (by decide) rfl rfl ?_
  unfold tn at *
  cases a with
  | none =>
    show wp (ex P _ f_moved.body) [.val (.tup (nms p)), .val (.tup (nms f)), .val (.str "redo"), .val .non, .un] _ _
    unfold f_moved
    dsimp only
    walk_at "s"
    rw [cut_to, cut_from]
    simp only [nms_len, nms_take, nms_drop, nms_app, List.take_length, List.drop_length]
    exact ⟨le_lim (by omega), le_lim (by simp), h⟩
  | some i =>
    have ha : 1 ≤ i := ha
    show wp (ex P _ f_moved.body) [.val (.tup (nms p)), .val (.tup (nms f)), .val (.str "redo"), .val (.int i), .un] _ _
    unfold f_moved
    dsimp only
    walk_at "s"
    have hc : (if i < (((nms f).length : Nat) : Int) then i else (((nms f).length : Nat) : Int)) = ((min i.toNat f.length : Nat) : Int) := by
      rw [nms_len]; split <;> omega
    rw [hc, cut_to, cut_from]
    simp only [nms_take, nms_drop, nms_app, nms_len]
    have t : f.take (min i.toNat f.length) = f.take i.toNat := List.take_eq_take_min.symm
    have d : f.drop (min i.toNat f.length) = f.drop i.toNat := by
      by_cases hh : i.toNat ≤ f.length
      · rw [Nat.min_eq_left hh]
      · rw [Nat.min_eq_right (by omega), List.drop_length, List.drop_of_length_le (by omega)]
    rw [t, d]
    refine ⟨?_, le_lim (by simp), h⟩
    rw [List.length_take]
    exact le_lim (by omega)
theorem movedR_eq (ha : AmOk a) (hl : p.length + f.length ≤ 1000) : wp (callF P (callN P (k + 2)) 25 [.val (tn p), .val (tn f), .val (.str "redo"), .val (Am a)]) σ Q X = Q (.val (.tup [tn (mvR p f a).1, tn (mvR p f a).2])) σ :=
  e_callF (F := f_moved) rfl rfl nd0 rfl (wpc_ok (movedR_wpc ha hl ⟨rfl, rfl⟩)) trivial (back0 rfl)
end
end LW

set_option Elab.async false
set_option linter.all false
set_option maxRecDepth 100000
set_option maxHeartbeats 1000000
namespace LW
open PySem L2 EV
local macro_rules | `(tactic| walk_at "s") => `(tactic| simp (config := { dsimp := false }) only [↓e_ret, ↓e_bnd, ↓e_some, ↓e_none, ↓e_T, ↓e_F, ↓e_Tt, ↓e_Ff, ↓e_ifd, ↓e_ifnd, ↓bK_v, ↓bK_o, ↓bK_s, ↓vK_v, ↓vK_o, ↓vK_s, ↓dK_v, ↓dK_o, ↓dK_s, ↓sK_v, ↓sK_u, ↓sK_o, ↓sK_s, ↓sK_fr, ↓oK_o, ↓oK_s, ↓rK_v, ↓rK_o, ↓rK_s, ↓e_c, ↓e_b, ↓e_v, ↓e_g, ↓e_dv, ↓e_dt, ↓e_db, ↓e_zv, ↓e_zt, ↓e_zb, ↓e_bin, ↓e_neg, ↓e_cmp, ↓e_cmp2, ↓e_not, ↓e_and, ↓e_or, ↓e_ife, ↓e_tup, ↓e_lst, ↓e_bi, ↓e_dsn, ↓e_dsc, ↓e_call, ↓e_mk, ↓e_methK, ↓e_meth, ↓e_smeth, ↓e_attrF, ↓e_attrC, ↓e_attrP, ↓e_attr, ↓e_ix, ↓e_sl, ↓e_pn, ↓e_pt, ↓e_dn, ↓e_da, ↓e_dst, ↓e_an, ↓e_aa, ↓e_rng, ↓e_enm, ↓e_sq, ↓e_tn, ↓e_ta, ↓e_to, ↓e_ti, ↓e_tc, ↓e_tc2, ↓e_tr, ↓e_nil, ↓e_seq, ↓e_sqn, ↓e_sqr, ↓e_sqb, ↓e_sqc, ↓e_fnv, ↓e_fnt, ↓e_fnn, ↓e_tkn, ↓e_tkc, ↓e_tkb, ↓e_tkr, ↓e_lks, ↓e_lkn, ↓e_int, ↓e_str, ↓e_pair, ↓e_bl, ↓e_wks, ↓e_wkn, ↓e_put, ↓e_set1, ↓e_pv, ↓e_ptm, ↓e_sett, ↓e_asN, ↓e_asT, ↓e_asn, ↓e_asc, ↓e_par, ↓e_prn, ↓e_prc, ↓iK_o, ↓iK_s, ↓e_isOwn, ↓e_setix, ↓e_ls, ↓e_setF, ↓e_set30, ↓e_set31, ↓e_set32, ↓e_setat, ↓e_setA, ↓e_expr, ↓e_retE, ↓e_retv, ↓e_iteS, ↓e_brk, ↓e_cont, ↓e_unp, ↓e_aug, ↓e_forQ, ↓e_for, ↓e_whl, ↓e_mul, ↓e_add, ↓e_sub, ↓e_addF, ↓e_subF, ↓e_mod, ↓e_fdiv, ↓e_pow, ↓e_divmod, ↓e_addS, ↓e_addT, ↓e_addL, ↓e_mulT, ↓e_len_t, ↓e_len_l, ↓e_len_s, ↓e_max, ↓e_min, ↓e_abs, ↓e_tupl, ↓e_tupt, ↓e_lstl, ↓e_lstt, ↓e_inti, ↓e_intb, ↓e_all, ↓e_any, ↓e_isi, ↓e_ixt, ↓e_ixl, ↓e_slt, ↓e_sll, ↓e_sls, ↓e_lt, ↓e_le, ↓e_gt, ↓e_ge, ↓e_eqi, ↓e_nei, ↓e_is, ↓e_isnt, ↓e_in, ↓lenK_i, ↓txtK_i, ↓boolK_i, ↓e_lenI, ↓e_strI, ↓e_reprI, ↓e_reprl, ↓e_reprt, ↓e_strs, ↓e_stri, ↓e_suml, ↓e_addI, ↓e_inI, ↓e_inl, ↓e_intp, ↓e_ninl, ↓e_nintp, ↓calK_i, ↓calK_g, ↓e_calI, ↓e_calG, ↓e_callv, ↓e_star, ↓fstK_i, ↓e_fst, ↓e_fstn, ↓e_fsta, ↓e_fmt, ↓e_fmts, ↓e_fmti, ↓e_fmtI, ↓e_appF, ↓liK_o, ↓liK_s, ↓e_isLst, ↓e_app, ↓extK_i, ↓e_ext, ↓e_lc, ↓e_eqS, ↓e_eqT, ↓e_eqL, ↓e_eqB, ↓e_neS, ↓e_neT, ↓e_neL, ↓e_neB, con_1020, isi_h, con_2000, con_2001, ↓at_h_past, ↓at_h_future, ↓at_h_line, ↓me_h_do, ↓me_h_undo, ↓me_h_redo, ↓fs_h_past, ↓fs_h_future, eq_uu, eq_ru, at_0, at_1, at_2, at_3, at_4, at_5, lk_v, lk_t, lock_n, unlock_n, items_l, items_t, items_s, itemsQ_l, itemsQ_t, tr_b, is_n, is_i, is_s, is_t, is_l, cmp_le, cmp_lt, isi_it, isi_ib, isi_is, isi_ss, isi_si, isi_tt, eqD_bl, io_o, io_v, io_n, true_and, Int.reduceLT, Int.reduceLE, Bool.not_true, Bool.not_false, Int.reduceEq, true_implies, false_implies, not_true_eq_false, not_false_eq_true, and_true, implies_true, len_0, len_1, len_2, len_3, len_4, len_5])
/-- a history -/
def hs (p f : List Str) : D := .ins 1020 [35, 36] [tn p, tn f]
theorem NmsOk.take {xs : List Str} {n : Nat} (h : NmsOk xs) : NmsOk (xs.take n) := ⟨fun x hx => h.nm x (List.mem_of_mem_take hx)⟩
theorem NmsOk.drop {xs : List Str} {n : Nat} (h : NmsOk xs) : NmsOk (xs.drop n) := ⟨fun x hx => h.nm x (List.mem_of_mem_drop hx)⟩
theorem NmsOk.app {xs ys : List Str} (h : NmsOk xs) (g : NmsOk ys) : NmsOk (xs ++ ys) := ⟨fun x hx => (List.mem_append.mp hx).elim (h.nm x) (g.nm x)⟩
theorem NmsOk.nil : NmsOk [] := ⟨fun x hx => by cases hx⟩
theorem NmsOk.one {x : Str} (h : Nm x) : NmsOk [x] := ⟨fun y hy => by rw [List.mem_singleton.mp hy]; exact h⟩
structure HOk (p f : List Str) : Prop where
  hp : NmsOk p
  hf : NmsOk f
  l : p.length + f.length ≤ 1000
theorem HOk.U {p f : List Str} (h : HOk p f) (a : Option Int) : HOk (mvU p f a).1 (mvU p f a).2 := by
  cases a with
  | none => exact ⟨.nil, h.hp.app h.hf, by have := h.l; simp only [mvU, List.length_append, List.length_nil]; omega⟩
  | some i => exact ⟨h.hp.take, h.hp.drop.app h.hf, by have := h.l; simp only [mvU, List.length_append, List.length_take, List.length_drop]; omega⟩
theorem HOk.R {p f : List Str} (h : HOk p f) (a : Option Int) : HOk (mvR p f a).1 (mvR p f a).2 := by
  cases a with
  | none => exact ⟨h.hp.app h.hf, .nil, by have := h.l; simp only [mvR, List.length_append, List.length_nil]; omega⟩
  | some i => exact ⟨h.hp.app h.hf.take, h.hf.drop, by have := h.l; simp only [mvR, List.length_append, List.length_take, List.length_drop]; omega⟩
section
variable {k : Nat} {σ : List Sl} {Q : R → List Sl → Prop} {X : Ex → List Sl → Prop} {p f p2 f2 : List Str} {a : Option Int} {s : Str}
theorem init_wpc (hp : NmsOk p) (hf : NmsOk f) (h : Q (.val .non) [.own true false (hs p f), .val (tn p), .val (tn f)]) : wpc (callN P (k + 5) 27 [.own true false (.ins 1020 [] []), .val (tn p), .val (tn f)]) Q X := by
  refine wpc_fn (F := f_History___init__) rfl rfl (by decide) rfl rfl ?_
  show wp (ex P _ f_History___init__.body) [.own true false (.ins 1020 [] []), .val (tn p), .val (tn f)] _ _
  unfold f_History___init__
  dsimp only
  walk_at "s"
  rw [check_names_eq hp]
  walk_at "s"
  rw [check_names_eq hf]
  walk_at "s"
  exact h
theorem init_run (hp : NmsOk p) (hf : NmsOk f) : callN P (k + 5) 27 [.own true false (.ins 1020 [] []), .val (tn p), .val (tn f)] = .ok (.val .non) [.own true false (hs p f), .val (tn p), .val (tn f)] := wpc_ok (init_wpc hp hf ⟨rfl, rfl⟩)
theorem mk_eq (hp : NmsOk p) (hf : NmsOk f) : wp (mkF P (callN P (k + 5)) 1020 [.val (tn p), .val (tn f)]) σ Q X = Q (.val (hs p f)) σ :=
  e_mkF (F := f_History___init__) rfl rfl rfl nd0 rfl (init_run hp hf) (back0 rfl)
theorem mk_eq1 (hp : NmsOk p) : wp (mkF P (callN P (k + 5)) 1020 [.val (tn p)]) σ Q X = Q (.val (hs p [])) σ :=
  e_mkF (F := f_History___init__) rfl rfl rfl nd0 rfl (init_run hp .nil) (back0 rfl)
theorem line_wpc (hl : p.length + f.length ≤ 1000) (h : Q (.val (tn (p ++ f))) [.val (hs p f)]) : wpc (callN P (k + 2) 29 [.val (hs p f)]) Q X := by
  refine wpc_fn (F := f_History_line) rfl rfl (by decide) rfl rfl ?_
  show wp (ex P _ f_History_line.body) [.val (.ins 1020 [35, 36] [.tup (nms p), .tup (nms f)])] _ _
  unfold f_History_line
  dsimp only
  walk_at "s"
  simp only [nms_app, nms_len]
  exact ⟨le_lim (by omega), h⟩
theorem line_eq (hl : p.length + f.length ≤ 1000) : wp (callF P (callN P (k + 2)) 29 [.val (hs p f)]) σ Q X = Q (.val (tn (p ++ f))) σ :=
  e_callF (F := f_History_line) rfl rfl nd0 rfl (wpc_ok (line_wpc hl ⟨rfl, rfl⟩)) trivial (back0 rfl)
theorem do_wpc (ho : HOk p f) (hs1 : Nm s) (h : Q (.val (hs (p ++ [s]) [])) [.val (hs p f), .val (.str s)]) : wpc (callN P (k + 7) 30 [.val (hs p f), .val (.str s)]) Q X := by
  refine wpc_fn (F := f_History_do) rfl rfl (by decide) rfl rfl ?_
  show wp (ex P _ f_History_do.body) [.val (.ins 1020 [35, 36] [.tup (nms p), .tup (nms f)]), .val (.str s)] _ _
  unfold f_History_do
  dsimp only
  walk_at "s"
  rw [check_name_eq hs1]
  walk_at "s"
  refine ⟨le_lim (by simp), ?_, ?_⟩
  · have := ho.l
    rw [nms_len]; exact le_lim (by simp; omega)
  · have e : D.tup (nms p ++ [.str s]) = tn (p ++ [s]) := by unfold tn nms; rw [List.map_append]; rfl
    rw [e, mk_eq1 (ho.hp.app (.one hs1))]
    walk_at "s"
    exact h
theorem do_eq (ho : HOk p f) (hs1 : Nm s) : wp (callF P (callN P (k + 7)) 30 [.val (hs p f), .val (.str s)]) σ Q X = Q (.val (hs (p ++ [s]) [])) σ :=
  e_callF (F := f_History_do) rfl rfl nd0 rfl (wpc_ok (do_wpc ho hs1 ⟨rfl, rfl⟩)) trivial (back0 rfl)
theorem undo_wpc (ho : HOk p f) (ha : AmOk a) (h : Q (.val (hs (mvU p f a).1 (mvU p f a).2)) [.val (hs p f), .val (Am a)]) : wpc (callN P (k + 7) 31 [.val (hs p f), .val (Am a)]) Q X := by
  refine wpc_fn (F := f_History_undo) rfl rfl (by decide) rfl rfl ?_
  show wp (ex P _ f_History_undo.body) [.val (.ins 1020 [35, 36] [tn p, tn f]), .val (Am a), .un, .un] _ _
  unfold f_History_undo
  dsimp only
  walk_at "s"
  rw [check_amount_eq ha]
  walk_at "s"
  rw [movedU_eq ha ho.l]
  walk_at "s"
  rw [mk_eq (ho.U a).hp (ho.U a).hf]
  walk_at "s"
  exact h
theorem undo_eq (ho : HOk p f) (ha : AmOk a) : wp (callF P (callN P (k + 7)) 31 [.val (hs p f), .val (Am a)]) σ Q X = Q (.val (hs (mvU p f a).1 (mvU p f a).2)) σ :=
  e_callF (F := f_History_undo) rfl rfl nd0 rfl (wpc_ok (undo_wpc ho ha ⟨rfl, rfl⟩)) trivial (back0 rfl)
theorem redo_wpc (ho : HOk p f) (ha : AmOk a) (h : Q (.val (hs (mvR p f a).1 (mvR p f a).2)) [.val (hs p f), .val (Am a)]) : wpc (callN P (k + 7) 32 [.val (hs p f), .val (Am a)]) Q X := by
  refine wpc_fn (F := f_History_redo) rfl rfl (by decide) rfl rfl ?_
  show wp (ex P _ f_History_redo.body) [.val (.ins 1020 [35, 36] [tn p, tn f]), .val (Am a), .un, .un] _ _
  unfold f_History_redo
  dsimp only
  walk_at "s"
  rw [check_amount_eq ha]
  walk_at "s"
  rw [movedR_eq ha ho.l]
  walk_at "s"
  rw [mk_eq (ho.R a).hp (ho.R a).hf]
  walk_at "s"
  exact h
theorem redo_eq (ho : HOk p f) (ha : AmOk a) : wp (callF P (callN P (k + 7)) 32 [.val (hs p f), .val (Am a)]) σ Q X = Q (.val (hs (mvR p f a).1 (mvR p f a).2)) σ :=
  e_callF (F := f_History_redo) rfl rfl nd0 rfl (wpc_ok (redo_wpc ho ha ⟨rfl, rfl⟩)) trivial (back0 rfl)
theorem Nm.ok {s : Str} (h : Nm s) : PyData.strOk s = true := by
  unfold PyData.strOk
  rw [Array.all_eq_true']
  intro c hc
  have := h.az c (by simpa using hc)
  simp only [decide_eq_true_eq]
  omega
theorem eq_tn {xs ys : List Str} (hx : NmsOk xs) (hy : NmsOk ys) : eqD (tn xs) (tn ys) = some (decide (xs = ys)) :=
  (EqR.tup (n := 0) (EqRs.names (fun x h => (hx.nm x h).ok) (fun x h => (hy.nm x h).ok))).eqD (by decide)
theorem tn_eq {O : Oc} {r q : R} {xs ys : List Str} (hx : NmsOk xs) (hy : NmsOk ys) : wp (cmpM P O .Eq r q (tn xs) (tn ys)) σ Q X = Q (.val (.bl (decide (xs = ys)))) σ := by
  show wp (cmpM P O .Eq r q (.tup (nms xs)) (tn ys)) σ Q X = _
  rw [e_eqT, show D.tup (nms xs) = tn xs from rfl, eq_tn hx hy]; rfl
theorem tn_ne {O : Oc} {r q : R} {xs ys : List Str} (hx : NmsOk xs) (hy : NmsOk ys) : wp (cmpM P O .NotEq r q (tn xs) (tn ys)) σ Q X = Q (.val (.bl (!decide (xs = ys)))) σ := by
  show wp (cmpM P O .NotEq r q (.tup (nms xs)) (tn ys)) σ Q X = _
  rw [e_neT, show D.tup (nms xs) = tn xs from rfl, eq_tn hx hy]; rfl
theorem tn_len {O : Oc} {rs : List R} {xs : List Str} : wp (biM P O .len rs [tn xs]) σ Q X = Q (.val (.int xs.length)) σ := by
  show wp (biM P O .len rs [.tup (nms xs)]) σ Q X = _
  rw [e_len_t, nms_len]
theorem tn_add {O : Oc} {r q : R} {xs ys : List Str} : wp (binM P O .Add r q (tn xs) (tn ys)) σ Q X = (xs.length + ys.length ≤ lim ∧ Q (.val (tn (xs ++ ys))) σ) := by
  show wp (binM P O .Add r q (.tup (nms xs)) (.tup (nms ys))) σ Q X = _
  rw [e_addT, nms_len, nms_len, nms_app]; rfl
theorem eq_wpc (h1 : HOk p f) (h2 : HOk p2 f2) (h : Q (.val (.bl (decide (p = p2 ∧ f = f2)))) [.val (hs p f), .val (hs p2 f2)]) : wpc (callN P (k + 2) 34 [.val (hs p f), .val (hs p2 f2)]) Q X := by
  refine wpc_fn (F := f_History___eq__) rfl rfl (by decide) rfl rfl ?_
  show wp (ex P _ f_History___eq__.body) [.val (.ins 1020 [35, 36] [tn p, tn f]), .val (.ins 1020 [35, 36] [tn p2, tn f2])] _ _
  unfold f_History___eq__
  dsimp only
  walk_at "s"
  rw [tn_eq h1.hp h2.hp]
  walk_at "s"
  refine ⟨fun e => ?_, fun e => ?_⟩
  · rw [tn_eq h1.hf h2.hf]
    walk_at "s"
    have : decide (p = p2 ∧ f = f2) = decide (f = f2) := by rw [Bool.eq_iff_iff]; simp [e]
    rw [this] at h
    exact h
  · have : decide (p = p2 ∧ f = f2) = decide (p = p2) := by rw [Bool.eq_iff_iff]; simp [e]
    rw [this] at h
    exact h
theorem eqc_eq (h1 : HOk p f) (h2 : HOk p2 f2) : wp (callF P (callN P (k + 2)) 34 [.val (hs p f), .val (hs p2 f2)]) σ Q X = Q (.val (.bl (decide (p = p2 ∧ f = f2)))) σ :=
  e_callF (F := f_History___eq__) rfl rfl nd0 rfl (wpc_ok (eq_wpc h1 h2 ⟨rfl, rfl⟩)) trivial (back0 rfl)
theorem hs_eq {k j : Nat} (h1 : HOk p f) (h2 : HOk p2 f2) : wp (cmpM P ⟨callN P j, callN P (k + 2)⟩ .Eq (.val (hs p f)) (.val (hs p2 f2)) (hs p f) (hs p2 f2)) σ Q X = Q (.val (.bl (decide (p = p2 ∧ f = f2)))) σ := by
  show wp (cmpM P ⟨callN P j, callN P (k + 2)⟩ .Eq (.val (hs p f)) (.val (hs p2 f2)) (.ins 1020 [35, 36] [tn p, tn f]) (.ins 1020 [35, 36] [tn p2, tn f2])) σ Q X = _
  rw [e_eqM (f := 34) rfl]
  show wp (callF P (callN P (k + 2)) 34 _) _ _ _ = _
  rw [eqc_eq h1 h2]; rfl
theorem hs_ne {k j : Nat} (h1 : HOk p f) (h2 : HOk p2 f2) : wp (cmpM P ⟨callN P j, callN P (k + 2)⟩ .NotEq (.val (hs p f)) (.val (hs p2 f2)) (hs p f) (hs p2 f2)) σ Q X = Q (.val (.bl (!decide (p = p2 ∧ f = f2)))) σ := by
  show wp (cmpM P ⟨callN P j, callN P (k + 2)⟩ .NotEq (.val (hs p f)) (.val (hs p2 f2)) (.ins 1020 [35, 36] [tn p, tn f]) (.ins 1020 [35, 36] [tn p2, tn f2])) σ Q X = _
  rw [e_neM (f := 34) rfl]
  show wp (callF P (callN P (k + 2)) 34 _) _ _ _ = _
  rw [eqc_eq h1 h2]; rfl
/-! a history's attributes and methods, by its name -/
theorem hs_past {O : Oc} {r : R} : attrE P O 35 r Q (hs p f) σ = Q (.val (tn p)) σ := rfl
theorem hs_future {O : Oc} {r : R} : attrE P O 36 r Q (hs p f) σ = Q (.val (tn f)) σ := rfl
theorem hs_line {k j : Nat} (hl : p.length + f.length ≤ 1000) : attrE P ⟨callN P j, callN P (k + 2)⟩ 27 (.val (hs p f)) Q (hs p f) σ = Q (.val (tn (p ++ f))) σ := by
  show wp (callF P (callN P (k + 2)) 29 _) _ _ _ = _
  rw [line_eq hl]
theorem hs_do {O : Oc} {r : R} {es : E} : methE P O 28 r es Q X (hs p f) σ = wp (evA P O es) σ (fun rs σ3 => wp (callF P O.c1 30 (r :: rs)) σ3 Q X) X := rfl
theorem hs_undo {O : Oc} {r : R} {es : E} : methE P O 29 r es Q X (hs p f) σ = wp (evA P O es) σ (fun rs σ3 => wp (callF P O.c1 31 (r :: rs)) σ3 Q X) X := rfl
theorem hs_redo {O : Oc} {r : R} {es : E} : methE P O 30 r es Q X (hs p f) σ = wp (evA P O es) σ (fun rs σ3 => wp (callF P O.c1 32 (r :: rs)) σ3 Q X) X := rfl
end
end LW

set_option Elab.async false
set_option linter.all false
set_option maxRecDepth 100000
set_option maxHeartbeats 1000000
namespace LW
open PySem L2 EV
/-! ### letters and words -/
def chS (c : Nat) : Str := ⟨#[c]⟩
def isAz (c : Nat) : Prop := 97 ≤ c ∧ c ≤ 122
theorem Nm.ch {c : Nat} (h : isAz c) : Nm (chS c) := ⟨by show 1 ≤ 1; omega, by show 1 ≤ 8; omega, fun x hx => by
  have : x = c := by simpa [chS] using hx
  rw [this]; exact h⟩
theorem rep_fold (c : Nat) : ∀ (n : Nat) (acc : Array Nat), ((List.replicate n (#[c] : Array Nat)).foldl (· ++ ·) acc).toList = acc.toList ++ List.replicate n c
  | 0, acc => by simp
  | n + 1, acc => by
    rw [List.replicate_succ, List.foldl_cons, rep_fold c n]
    simp [List.replicate_succ]
theorem Nm.mul {c : Nat} {n : Int} (h : isAz c) (h1 : 1 ≤ n) (h2 : n ≤ 8) : Nm (Txt.mul (chS c) n) := by
  unfold Txt.mul
  rw [if_neg (by omega)]
  split
  · exact Nm.ch h
  · have e := rep_fold c n.toNat #[]
    have e2 : ((List.replicate n.toNat (chS c).cps).foldl (· ++ ·) #[]).toList = List.replicate n.toNat c := by
      have : (chS c).cps = #[c] := rfl
      rw [this, e]; simp
    have l : (⟨(List.replicate n.toNat (chS c).cps).foldl (· ++ ·) #[]⟩ : Str).length = n.toNat := by
      show ((List.replicate n.toNat (chS c).cps).foldl (· ++ ·) #[]).size = _
      rw [← Array.length_toList, e2, List.length_replicate]
    refine ⟨by rw [l]; omega, by rw [l]; omega, fun x hx => ?_⟩
    have hx' : x ∈ List.replicate n.toNat c := by rw [← e2]; exact hx
    rw [(List.mem_replicate.mp hx').2]; exact h
/-- the words of the interface -/
def ownS : List Str := ["do", "undo", "redo", "all", "times", "keep", "old", "item", "save", "nothing", "none", "always"]
theorem ownS_nm : ∀ x ∈ ownS, Nm x := by
  have h : ownS.all (fun s => decide (1 ≤ s.length) && (decide (s.length ≤ 8) && s.cps.toList.all fun c => decide (97 ≤ c) && decide (c ≤ 122))) = true := by decide +kernel
  intro x hx
  have := List.all_eq_true.mp h x hx
  simp only [Bool.and_eq_true, decide_eq_true_eq, List.all_eq_true] at this
  exact ⟨this.1, this.2.1, this.2.2⟩
def lets : Str := "abcdefghijklmnopqrstuvwxyz"
theorem lets_len : lets.cps.toList.length = 26 := by decide +kernel
theorem lets_az : ∀ c ∈ lets.cps.toList, isAz c := by
  have h : lets.cps.toList.all (fun c => decide (97 ≤ c) && decide (c ≤ 122)) = true := by decide +kernel
  intro c hc
  have := List.all_eq_true.mp h c hc
  simp only [Bool.and_eq_true, decide_eq_true_eq] at this
  exact this
theorem lets_at {i : Int} (h0 : 0 ≤ i) (h1 : i < 26) : ∃ c, isAz c ∧ ixF (.str lets) (.int i) = some (.str (chS c)) := by
  have hl : i.toNat < lets.cps.toList.length := by rw [lets_len]; omega
  refine ⟨lets.cps.toList[i.toNat], lets_az _ (List.getElem_mem hl), ?_⟩
  show (if lets.length ≤ lim then (atI lets.cps.toList i).map fun c => D.str ⟨#[c]⟩ else none) = _
  rw [if_pos (by decide +kernel), at_get h0 (by rw [lets_len]; omega), List.getElem?_eq_getElem hl]
  rfl
end LW

set_option Elab.async false
set_option linter.all false
set_option maxRecDepth 100000
set_option maxHeartbeats 1000000
namespace LW
open PySem L2 EV
local macro_rules | `(tactic| walk_at "s") => `(tactic| simp (config := { dsimp := false }) only [↓e_ret, ↓e_bnd, ↓e_some, ↓e_none, ↓e_T, ↓e_F, ↓e_Tt, ↓e_Ff, ↓e_ifd, ↓e_ifnd, ↓bK_v, ↓bK_o, ↓bK_s, ↓vK_v, ↓vK_o, ↓vK_s, ↓dK_v, ↓dK_o, ↓dK_s, ↓sK_v, ↓sK_u, ↓sK_o, ↓sK_s, ↓sK_fr, ↓oK_o, ↓oK_s, ↓rK_v, ↓rK_o, ↓rK_s, ↓e_c, ↓e_b, ↓e_v, ↓e_g, ↓e_dv, ↓e_dt, ↓e_db, ↓e_zv, ↓e_zt, ↓e_zb, ↓e_bin, ↓e_neg, ↓e_cmp, ↓e_cmp2, ↓e_not, ↓e_and, ↓e_or, ↓e_ife, ↓e_tup, ↓e_lst, ↓e_bi, ↓e_dsn, ↓e_dsc, ↓e_call, ↓e_mk, ↓e_methK, ↓e_meth, ↓e_smeth, ↓e_attrF, ↓e_attrC, ↓e_attrP, ↓e_attr, ↓e_ix, ↓e_sl, ↓e_pn, ↓e_pt, ↓e_dn, ↓e_da, ↓e_dst, ↓e_an, ↓e_aa, ↓e_rng, ↓e_enm, ↓e_sq, ↓e_tn, ↓e_ta, ↓e_to, ↓e_ti, ↓e_tc, ↓e_tc2, ↓e_tr, ↓e_nil, ↓e_seq, ↓e_sqn, ↓e_sqr, ↓e_sqb, ↓e_sqc, ↓e_fnv, ↓e_fnt, ↓e_fnn, ↓e_tkn, ↓e_tkc, ↓e_tkb, ↓e_tkr, ↓e_lks, ↓e_lkn, ↓e_int, ↓e_str, ↓e_pair, ↓e_bl, ↓e_wks, ↓e_wkn, ↓e_put, ↓e_set1, ↓e_pv, ↓e_ptm, ↓e_sett, ↓e_asN, ↓e_asT, ↓e_asn, ↓e_asc, ↓e_par, ↓e_prn, ↓e_prc, ↓iK_o, ↓iK_s, ↓e_isOwn, ↓e_setix, ↓e_ls, ↓e_setF, ↓e_set30, ↓e_set31, ↓e_set32, ↓e_setat, ↓e_setA, ↓e_expr, ↓e_retE, ↓e_retv, ↓e_iteS, ↓e_brk, ↓e_cont, ↓e_unp, ↓e_aug, ↓e_forQ, ↓e_for, ↓e_whl, ↓e_mul, ↓e_add, ↓e_sub, ↓e_addF, ↓e_subF, ↓e_mod, ↓e_fdiv, ↓e_pow, ↓e_divmod, ↓e_addS, ↓e_addT, ↓e_addL, ↓e_mulT, ↓e_len_t, ↓e_len_l, ↓e_len_s, ↓e_max, ↓e_min, ↓e_abs, ↓e_tupl, ↓e_tupt, ↓e_lstl, ↓e_lstt, ↓e_inti, ↓e_intb, ↓e_all, ↓e_any, ↓e_isi, ↓e_ixt, ↓e_ixl, ↓e_slt, ↓e_sll, ↓e_sls, ↓e_lt, ↓e_le, ↓e_gt, ↓e_ge, ↓e_eqi, ↓e_nei, ↓e_is, ↓e_isnt, ↓e_in, ↓lenK_i, ↓txtK_i, ↓boolK_i, ↓e_lenI, ↓e_strI, ↓e_reprI, ↓e_reprl, ↓e_reprt, ↓e_strs, ↓e_stri, ↓e_suml, ↓e_addI, ↓e_inI, ↓e_inl, ↓e_intp, ↓e_ninl, ↓e_nintp, ↓calK_i, ↓calK_g, ↓e_calI, ↓e_calG, ↓e_callv, ↓e_star, ↓fstK_i, ↓e_fst, ↓e_fstn, ↓e_fsta, ↓e_fmt, ↓e_fmts, ↓e_fmti, ↓e_fmtI, ↓e_appF, ↓liK_o, ↓liK_s, ↓e_isLst, ↓e_app, ↓extK_i, ↓e_ext, ↓e_lc, ↓e_eqS, ↓e_eqT, ↓e_eqL, ↓e_eqB, ↓e_neS, ↓e_neT, ↓e_neL, ↓e_neB, con_1020, isi_h, con_2000, con_2001, at_0, at_1, at_2, at_3, at_4, at_5, lk_v, lk_t, lock_n, unlock_n, items_l, items_t, items_s, itemsQ_l, itemsQ_t, tr_b, is_n, is_i, is_s, is_t, is_l, cmp_le, cmp_lt, isi_it, isi_ib, isi_is, isi_ss, isi_si, isi_tt, eqD_bl, io_o, io_v, io_n, true_and, Int.reduceLT, Int.reduceLE, Bool.not_true, Bool.not_false, Int.reduceEq, true_implies, false_implies, not_true_eq_false, not_false_eq_true, and_true, implies_true, len_0, len_1, len_2, len_3, len_4, len_5])
theorem join_ch : ∀ (cs : List Nat), (Txt.join ("" : Str) (cs.map chS)).cps.toList = cs := by
  intro cs
  have e : Txt.join ("" : Str) (cs.map chS) = Str.join ("" : Str) (cs.map chS) := StrLaws.glued_eq_join _ _
  rw [e]
  clear e
  induction cs with
  | nil => rfl
  | cons c cs ih =>
    cases cs with
    | nil => rfl
    | cons c2 cs =>
      show ((chS c ++ ("" : Str)) ++ Str.join ("" : Str) ((c2 :: cs).map chS)).cps.toList = _
      have h1 : ∀ a b : Str, (a ++ b).cps.toList = a.cps.toList ++ b.cps.toList := fun a b => by
        show (a.cps ++ b.cps).toList = _
        rw [Array.toList_append]
      rw [h1, h1, ih]
      rfl
theorem draw_call {k : Nat} {p : Pl} {n : Int} {io : Bool} {σ : List Sl} {Q : R → List Sl → Prop} {X : Ex → List Sl → Prop} (hp : p.ok) (hn : 0 < n) (hn2 : n < 1073741824)
    (h : ∀ (p' : Pl) (r : Int), p'.ok → 0 ≤ r → r < n → Q (.val (.int r)) (.own io false p'.d :: σ)) : wp (callF P (callN P (k + 2)) 191 [.bor 0, .val (.int n)]) (.own io false p.d :: σ) Q X := by
  rw [draw_eq0 hp hn hn2]
  exact h _ _ (drawP_ok hp hn) (drawV_0 hn) (drawV_lt hn)
/-- a comprehension whose elements draw -/
theorem wp_lcPool {O : Oc} {e : E} {j : Nat} {s : Sl} {xs : List D} {σ : List Sl} {io : Bool} {p : Pl} {Q : R → List Sl → Prop} (Pn : D → Prop) (hw : σ[j]? = some s) (hs : freeS s = true) (hl : xs.length ≤ lim) (hp : p.ok)
    (he : ∀ (p : Pl) (d : D), d ∈ xs → p.ok → wp (ev P O e) (.own io false p.d :: σ.set j (.val d)) (fun r σ2 => ∃ (p' : Pl) (v : D), p'.ok ∧ Pn v ∧ r = .val v ∧ σ2 = .own io false p'.d :: σ.set j (.val d)) (fun _ _ => False))
    (h : ∀ (p' : Pl) (vs : List D), p'.ok → vs.length = xs.length → (∀ v ∈ vs, Pn v) → Q (.tmp (.lst vs)) (.own io false p'.d :: σ)) :
    wipeOk [j + 1] (.own io false p.d :: σ) = true ∧ wp (lcL (lcF P O e (.name (j + 1)) [j + 1] (.tr (.c (.bl true)))) xs []) (lockS none (.own io false p.d :: σ)) (lcQ Q none [j + 1] (.own io false p.d :: σ)) (fun _ _ => False) := by
  have hj : j < σ.length := (List.getElem?_eq_some_iff.mp hw).1
  refine ⟨wipe1 (s := s) (by simpa using hw) hs, ?_⟩
  refine wp_lcL (fun rest acc σ' => ∃ (q : Pl) (s' : Sl), q.ok ∧ freeS s' = true ∧ σ' = .own io false q.d :: σ.set j s' ∧ (∀ v ∈ acc, Pn v) ∧ acc.length + rest.length = xs.length ∧ ∀ d ∈ rest, d ∈ xs) ?_ ?_ xs [] _ ⟨p, s, hp, hs, by rw [set_self hw]; rfl, fun v hv => (by cases hv), by simp, fun d hd => hd⟩
  · rintro d ds acc σ' ⟨q, s', hq, hs', rfl, ha, hlen, hin⟩
    rw [e_lcF1 (s := s') (by simpa using List.getElem?_set_self hj)]
    show wp _ (.own io false q.d :: (σ.set j s').set j (.val d)) _ _
    rw [List.set_set]
    refine wp_mono (he q d (hin d List.mem_cons_self) hq) (fun r σ2 hr => ?_) fun _ _ hh => hh
    obtain ⟨p', v, hp', hv, rfl, rfl⟩ := hr
    refine ⟨by simp only [List.length_cons] at hlen; omega, p', .val d, hp', rfl, rfl, fun u hu => ?_, by simp only [List.length_append, List.length_cons, List.length_nil] at hlen ⊢; omega, fun u hu => hin u (List.mem_cons_of_mem _ hu)⟩
    rcases List.mem_append.mp hu with hu | hu
    · exact ha u hu
    · rw [List.mem_singleton.mp hu]; exact hv
  · rintro acc σ' ⟨q, s', hq, hs', rfl, ha, hlen, _⟩
    unfold lcQ
    have e1 : restL [j + 1] (.own io false p.d :: σ) (.own io false q.d :: σ.set j s') = .own io false q.d :: σ := by
      simp only [restL, List.getElem?_cons_succ, hw, Option.getD_some, List.set_cons_succ]
      rw [set_back hw]
    rw [e1]
    exact h q acc hq (by simpa using hlen) ha
theorem map_nms {N : Nat} {g : D → D} {t : Nat → Str} (h : ∀ k, k < N → g (.int (k : Int)) = .str (t k)) : ((List.range N).map fun (k : Nat) => D.int (k : Int)).map g = nms ((List.range N).map t) := by
  unfold nms
  rw [List.map_map, List.map_map]
  refine List.map_congr_left fun k hk => ?_
  exact h k (List.mem_range.mp hk)
theorem nm_a : Nm (Str.ofString "a") := by
  have e : Str.ofString "a" = chS 97 := by decide +kernel
  rw [e]; exact Nm.ch ⟨by decide, by decide⟩
theorem nm_b : Nm (Str.ofString "b") := by
  have e : Str.ofString "b" = chS 98 := by decide +kernel
  rw [e]; exact Nm.ch ⟨by decide, by decide⟩
theorem vs_nms : ∀ {vs : List D}, (∀ v ∈ vs, ∃ s, v = .str s ∧ Nm s) → ∃ xs, vs = nms xs ∧ NmsOk xs
  | [], _ => ⟨[], rfl, .nil⟩
  | v :: vs, h => by
    obtain ⟨s, rfl, hs⟩ := h v List.mem_cons_self
    obtain ⟨xs, rfl, hx⟩ := vs_nms fun u hu => h u (List.mem_cons_of_mem _ hu)
    exact ⟨s :: xs, rfl, ⟨fun x hx' => by
      rcases List.mem_cons.mp hx' with rfl | hx'
      · exact hs
      · exact hx.nm x hx'⟩⟩
theorem vs_chs : ∀ {vs : List D}, (∀ v ∈ vs, ∃ c, v = .str (chS c) ∧ isAz c) → ∃ cs : List Nat, vs = nms (cs.map chS) ∧ ∀ c ∈ cs, isAz c
  | [], _ => ⟨[], rfl, fun c hc => by cases hc⟩
  | v :: vs, h => by
    obtain ⟨c, rfl, hs⟩ := h v List.mem_cons_self
    obtain ⟨cs, rfl, hx⟩ := vs_chs fun u hu => h u (List.mem_cons_of_mem _ hu)
    exact ⟨c :: cs, rfl, fun x hx' => by
      rcases List.mem_cons.mp hx' with rfl | hx'
      · exact hs
      · exact hx x hx'⟩
theorem strsF_nms (xs : List Str) : strsF (nms xs) = some xs := by
  induction xs with
  | nil => rfl
  | cons x xs ih => show (strsF (nms xs)).map (x :: ·) = _; rw [ih]; rfl
def e8 (j : Int) : Int := 1 + j % 8
def mt (f : Int → Nat) (j : Int) : Str := Txt.mul (chS (f j)) (e8 j)
def letMul (f : Int → Nat) : D → D
  | .int j => .str (mt f j)
  | d => d
theorem letMul_i (f : Int → Nat) (j : Int) : R.val (.str (Txt.mul (chS (f j)) (e8 j))) = R.val (letMul f (.int j)) := rfl
theorem mulT_ok {c : Nat} {n : Int} {σ : List Sl} {Q : R → List Sl → Prop} {X : Ex → List Sl → Prop} (h1 : 1 ≤ n) (h2 : n ≤ 8) (h : Q (.val (.str (Txt.mul (chS c) n))) σ) : wp (ofO (binR .Mult (.val (.str (chS c))) (.str (chS c)) (.int n))) σ Q X := by
  refine wp_ofO (a := .val (.str (Txt.mul (chS c) n))) ?_ h
  have e : binR .Mult (.val (.str (chS c))) (.str (chS c)) (.int n) = if 0 ≤ n ∧ n < 1000000 ∧ (chS c).length * n.toNat ≤ lim then some (.val (.str (Txt.mul (chS c) n))) else none := rfl
  rw [e, if_pos]
  have l1 : (chS c).length = 1 := rfl
  rw [l1]
  exact ⟨by omega, by omega, le_lim (by omega)⟩
theorem m8 (j : Int) : 1 ≤ e8 j ∧ e8 j ≤ 8 := by unfold e8; omega
theorem mt_nm (f : Int → Nat) (j : Int) (h : isAz (f j)) : Nm (mt f j) := Nm.mul h (m8 j).1 (m8 j).2
def letPut (f : Int → Nat) (a b : Str) : D → D
  | .int j => .str ((a ++ chS (f j)) ++ b)
  | d => d
theorem cutS_to {z : Str} {c : Int} (h : 0 ≤ c) : (cutS z none (some c)).cps.toList = z.cps.toList.take c.toNat := by
  have e : c = ((c.toNat : Nat) : Int) := (Int.toNat_of_nonneg h).symm
  unfold cutS
  rw [HT.sIx_none, e, HT.sIx_nat, List.drop_zero, Nat.sub_zero]
  show List.take (min c.toNat z.length) z.cps.toList = _
  have : z.length = z.cps.toList.length := by show z.cps.size = _; rw [Array.length_toList]
  rw [this]
  exact List.take_eq_take_min.symm
theorem cutS_from {z : Str} {c : Int} (h : 0 ≤ c) (h2 : c ≤ z.length) : (cutS z (some c) none).cps.toList = z.cps.toList.drop c.toNat := by
  have e : c = ((c.toNat : Nat) : Int) := (Int.toNat_of_nonneg h).symm
  unfold cutS
  rw [HT.sIx_none, e, HT.sIx_nat]
  show List.take (z.length - min c.toNat z.length) (List.drop (min c.toNat z.length) z.cps.toList) = _
  have hl : z.length = z.cps.toList.length := by show z.cps.size = _; rw [Array.length_toList]
  rw [Nat.min_eq_left (by omega), List.take_of_length_le (by rw [List.length_drop]; omega)]
  rfl
theorem str_app (a b : Str) : (a ++ b).cps.toList = a.cps.toList ++ b.cps.toList := by
  show (a.cps ++ b.cps).toList = _
  rw [Array.toList_append]
theorem str_len (a : Str) : a.length = a.cps.toList.length := by show a.cps.size = _; rw [Array.length_toList]
theorem Nm.put {z : Str} {c : Int} {x : Nat} (h : 0 ≤ c) (h2 : c ≤ z.length) (hz : ∀ c ∈ z.cps.toList, isAz c) (hl : z.length ≤ 7) (hx : isAz x) : Nm ((cutS z none (some c) ++ chS x) ++ cutS z (some c) none) := by
  have e : ((cutS z none (some c) ++ chS x) ++ cutS z (some c) none).cps.toList = z.cps.toList.take c.toNat ++ [x] ++ z.cps.toList.drop c.toNat := by
    rw [str_app, str_app, cutS_to h, cutS_from h h2]; rfl
  have l : ((cutS z none (some c) ++ chS x) ++ cutS z (some c) none).length = z.length + 1 := by
    rw [str_len, e, List.length_append, List.length_append, List.length_take, List.length_drop, str_len z]
    rw [str_len] at h2
    simp only [List.length_cons, List.length_nil]
    omega
  refine ⟨by rw [l]; omega, by rw [l]; omega, fun y hy => ?_⟩
  rw [e] at hy
  rcases List.mem_append.mp hy with hy | hy
  · rcases List.mem_append.mp hy with hy | hy
    · exact hz y (List.mem_of_mem_take hy)
    · rw [List.mem_singleton.mp hy]; exact hx
  · exact hz y (List.mem_of_mem_drop hy)
theorem sm_join (xs : List Str) (h : (xs.map (·.length)).sum + xs.length * (Str.ofString "").length ≤ lim) : smF 1 (Str.ofString "") [D.lst (nms xs)] = some (.val (.str (Txt.join (Str.ofString "") xs))) := by
  show (strsF (nms xs)).bind _ = _
  rw [strsF_nms]
  show (if (xs.map (·.length)).sum + xs.length * (Str.ofString "").length ≤ lim then some (R.val (.str (Txt.join (Str.ofString "") xs))) else none) = _
  rw [if_pos h]
theorem chs_sum (cs : List Nat) : ((cs.map chS).map (·.length)).sum = cs.length := by
  induction cs with
  | nil => rfl
  | cons c cs ih =>
    rw [List.map_cons, List.map_cons, List.sum_cons, ih, List.length_cons]
    show 1 + cs.length = _
    omega
def ownAt (b : Int) : D → D
  | .int k => .str ((ownS[((b + 5 * k) % 12).toNat]?).getD ("do" : Str))
  | d => d
theorem ownAt_nm (b : Int) (k : Nat) : Nm ((ownS[((b + 5 * (k : Int)) % 12).toNat]?).getD ("do" : Str)) := by
  cases e : ownS[((b + 5 * (k : Int)) % 12).toNat]? with
  | none => exact ownS_nm _ (by simp [ownS])
  | some x => exact ownS_nm x (List.mem_of_getElem? e)
theorem el1 {O : Oc} {s0 s1 s2 s4 s6 s7 : Sl} {b j n8 : Int} {c : Nat} {Q : R → List Sl → Prop} {X : Ex → List Sl → Prop} (e : ixF (.str lets) (.int ((b + 7 * j) % 26)) = some (.str (chS c))) (h8 : 1 + j % 8 = n8) (h1 : 1 ≤ n8) (h2 : n8 ≤ 8)
    (h : Q (.val (.str (Txt.mul (chS c) n8))) [s0, s1, s2, .val (.int b), s4, .val (.str (Str.ofString "abcdefghijklmnopqrstuvwxyz")), s6, s7, .val (.int j)]) :
    wp (ev P O (.bin .Mult (.ix (.b 5) (.bin .Mod (.bin .Add (.b 3) (.bin .Mult (.c (.int 7)) (.b 8))) (.c (.int 26)))) (.bin .Add (.c (.int 1)) (.bin .Mod (.b 8) (.c (.int 8)))))) [s0, s1, s2, .val (.int b), s4, .val (.str (Str.ofString "abcdefghijklmnopqrstuvwxyz")), s6, s7, .val (.int j)] Q X := by
  walk_at "s"
  refine ⟨.inl ⟨by decide, by decide⟩, ?_⟩
  refine wp_ofO e ?_
  simp (config := { dsimp := false }) only [↓e_c, ↓e_bin, ↓e_b, ↓bK_s, ↓bK_v, ↓e_dv, ↓e_mod, ↓e_add]
  refine ⟨by decide, ?_⟩
  rw [h8]
  exact mulT_ok h1 h2 h
theorem rng_lim {n : Int} (h : n ≤ 1000) : ((List.range n.toNat).map fun (k : Nat) => D.int (k : Int)).length ≤ lim := le_lim (by rw [List.length_map, List.length_range]; omega)
theorem calls_wpc {k : Nat} {p : Pl} {n : Int} {Q : R → List Sl → Prop} {X : Ex → List Sl → Prop} (hp : p.ok) (hn : 0 ≤ n) (hn2 : n ≤ 1000)
    (h : ∀ (p' : Pl) (xs : List Str), p'.ok → NmsOk xs → (xs.length : Int) = n → Q (.tmp (.lst (nms xs))) [.own true false p'.d, .val (.int n)]) : wpc (callN P (k + 4) 197 [.own true false p.d, .val (.int n)]) Q X := by
  refine wpc_fn (F := f__law_calls) rfl rfl (by decide) rfl rfl ?_
  show wp (ex P _ f__law_calls.body) [.own true false p.d, .val (.int n), .un, .un, .un, .un, .un, .un, .un] _ _
  unfold f__law_calls
  dsimp only
  walk_at "s"
  refine ⟨le_lim (by simp), ?_⟩
  refine draw_call hp (by decide) (by decide) fun p1 b hp1 b0 b1 => ?_
  walk_at "s"
  refine draw_call hp1 (by decide) (by decide) fun p2 m hp2 m0 m1 => ?_
  walk_at "s"
  rw [rng_n hn (by omega)]
  walk_at "s"
  refine ⟨fun hm => ?_, fun hm => ⟨fun hm1 => ?_, fun hm1 => ⟨fun hm2 => ?_, fun hm2 => ?_⟩⟩⟩
  · refine wp_lcp (ownAt b) rfl rfl (rng_lim hn2) (fun d hd => ?_) ?_
    · obtain ⟨j, hj, rfl⟩ := List.mem_map.mp hd
      simp only [List.set_cons_succ, List.set_cons_zero]
      walk_at "s"
      have i0 : 0 ≤ (b + 5 * (j : Int)) % 12 := Int.emod_nonneg _ (by decide)
      have i1 : (b + 5 * (j : Int)) % 12 < 12 := Int.emod_lt_of_pos _ (by decide)
      refine ⟨.inl ⟨by decide, by decide⟩, ?_⟩
      rw [show ([D.str (Str.ofString "do"), D.str (Str.ofString "undo"), D.str (Str.ofString "redo"), D.str (Str.ofString "all"), D.str (Str.ofString "times"), D.str (Str.ofString "keep"), D.str (Str.ofString "old"), D.str (Str.ofString "item"), D.str (Str.ofString "save"), D.str (Str.ofString "nothing"), D.str (Str.ofString "none"), D.str (Str.ofString "always")] : List D) = nms ownS from rfl]
      have hlt : ((b + 5 * (j : Int)) % 12).toNat < ownS.length := by show _ < 12; omega
      rw [at_get i0 (by rw [nms_len]; show _ < ((12 : Nat) : Int); omega)]
      unfold nms
      rw [List.getElem?_map, List.getElem?_eq_getElem hlt, Option.map_some]
      walk_at "s"
      refine .inl ?_
      simp only [ownAt]
      rw [List.getElem?_eq_getElem hlt]
      rfl
    · walk_at "s"
      rw [map_nms (t := fun j => (ownS[((b + 5 * (j : Int)) % 12).toNat]?).getD ("do" : Str)) fun j _ => rfl]
      exact h p2 _ hp2 ⟨fun x hx => by obtain ⟨j, _, rfl⟩ := List.mem_map.mp hx; exact ownAt_nm b j⟩ (by rw [List.length_map, List.length_range]; omega)
  · obtain ⟨f, hf⟩ : ∃ f : Int → Nat, ∀ j, isAz (f j) ∧ ixF (.str lets) (.int ((b + 7 * j) % 26)) = some (.str (chS (f j))) := Classical.skolem.mp fun j => lets_at (Int.emod_nonneg _ (by decide)) (Int.emod_lt_of_pos _ (by decide))
    refine wp_lcp (letMul f) rfl rfl (rng_lim hn2) (fun d hd => ?_) ?_
    · obtain ⟨j, hj, rfl⟩ := List.mem_map.mp hd
      simp only [List.set_cons_succ, List.set_cons_zero]
      exact el1 (hf j).2 rfl (m8 j).1 (m8 j).2 ⟨rfl, .inl (letMul_i f j)⟩
    · walk_at "s"
      rw [map_nms (g := letMul f) (t := fun (j : Nat) => mt f (j : Int)) fun j _ => rfl]
      refine h p2 _ hp2 ⟨fun x hx => ?_⟩ (by rw [List.length_map, List.length_range]; omega)
      obtain ⟨j, _, rfl⟩ := List.mem_map.mp hx
      exact mt_nm f j (hf j).1
  · refine wp_lcPool (j := 7) (fun v => ∃ s, v = .str s ∧ Nm s) rfl rfl (rng_lim hn2) hp2 (fun q d hd hq => ?_) (fun q vs hq hl hv => ?_)
    · simp only [List.set_cons_succ, List.set_cons_zero]
      walk_at "s"
      refine ⟨le_lim (by simp), ?_⟩
      refine draw_call hq (by decide) (by decide) fun q2 r hq2 r0 r1 => ?_
      walk_at "s"
      have hr : r = 0 ∨ r = 1 := by omega
      rcases hr with rfl | rfl
      · refine wp_ofO at_0 ⟨q2, .str (Str.ofString "a"), hq2, ⟨Str.ofString "a", rfl, nm_a⟩, rfl, rfl⟩
      · refine wp_ofO at_1 ⟨q2, .str (Str.ofString "b"), hq2, ⟨Str.ofString "b", rfl, nm_b⟩, rfl, rfl⟩
    · walk_at "s"
      obtain ⟨xs, rfl, hx⟩ := vs_nms hv
      exact h q xs hq hx (by rw [nms_len, List.length_map, List.length_range] at hl; omega)
  · refine draw_call hp2 (by decide) (by decide) fun p3 z hp3 z0 z1 => ?_
    walk_at "s"
    refine wp_ofO (rng_n z0 (by omega)) ?_
    refine wp_lcPool (j := 7) (fun v => ∃ c, v = .str (chS c) ∧ isAz c) rfl rfl (le_lim (by rw [List.length_map, List.length_range]; omega)) hp3 (fun q d hd hq => ?_) (fun q vs hq hl hv => ?_)
    · simp only [List.set_cons_succ, List.set_cons_zero]
      walk_at "s"
      refine draw_call hq (by decide) (by decide) fun q2 r hq2 r0 r1 => ?_
      walk_at "s"
      obtain ⟨c, hc, e⟩ := lets_at r0 r1
      exact wp_ofO e ⟨q2, _, hq2, ⟨c, rfl, hc⟩, rfl, rfl⟩
    · obtain ⟨cs, rfl, hcs⟩ := vs_chs hv
      have hcl : cs.length ≤ 7 := by rw [nms_len, List.length_map, List.length_map, List.length_range] at hl; omega
      walk_at "s"
      have e0 : (Str.ofString "").length = 0 := by decide +kernel
      refine wp_ofO (sm_join _ (by rw [chs_sum, e0]; exact le_lim (by omega))) ?_
      have hj := join_ch cs
      revert hj
      generalize Txt.join (Str.ofString "") (cs.map chS) = stem
      intro hj
      have hsl : stem.length = cs.length := by rw [str_len]; exact congrArg List.length hj
      have hsz : ∀ c ∈ stem.cps.toList, isAz c := fun c hc => hcs c (by rw [← show stem.cps.toList = cs from hj]; exact hc)
      walk_at "s"
      refine ⟨le_lim (by omega), ?_⟩
      refine draw_call hq (by omega) (by omega) fun p4 c hp4 c0 c1 => ?_
      walk_at "s"
      refine wp_ofO (rng_n hn (by omega)) ?_
      obtain ⟨f, hf⟩ : ∃ f : Int → Nat, ∀ j, isAz (f j) ∧ ixF (.str lets) (.int ((b + 5 * j) % 26)) = some (.str (chS (f j))) := Classical.skolem.mp fun j => lets_at (Int.emod_nonneg _ (by decide)) (Int.emod_lt_of_pos _ (by decide))
      have l1 : (cutS stem none (some c)).length ≤ 7 := by rw [str_len, cutS_to c0, List.length_take]; rw [str_len] at hsl; omega
      have l2 : (cutS stem (some c) none).length ≤ 7 := by rw [str_len, cutS_from c0 (by omega), List.length_drop]; rw [str_len] at hsl; omega
      refine wp_lcp (letPut f (cutS stem none (some c)) (cutS stem (some c) none)) rfl rfl (rng_lim hn2) (fun d hd => ?_) ?_
      · obtain ⟨j, hj, rfl⟩ := List.mem_map.mp hd
        simp only [List.set_cons_succ, List.set_cons_zero]
        walk_at "s"
        refine ⟨le_lim (by omega), .inl ⟨by decide, by decide⟩, ?_⟩
        refine wp_ofO (hf j).2 ?_
        walk_at "s"
        have lc : (chS (f j)).length = 1 := rfl
        rw [lc, Str.length_append, lc]
        refine ⟨le_lim (by omega), le_lim (by omega), le_lim (by omega), .inl ?_⟩
        simp only [letPut]
      · walk_at "s"
        rw [map_nms (t := fun (j : Nat) => (cutS stem none (some c) ++ chS (f (j : Int))) ++ cutS stem (some c) none) fun j _ => by simp only [letPut]]
        refine h p4 _ hp4 ⟨fun x hx => ?_⟩ (by rw [List.length_map, List.length_range]; omega)
        obtain ⟨j, _, rfl⟩ := List.mem_map.mp hx
        exact Nm.put c0 (by omega) hsz (by omega) (hf j).1
theorem calls_call {k : Nat} {p : Pl} {n : Int} {io : Bool} {σ : List Sl} {Q : R → List Sl → Prop} {X : Ex → List Sl → Prop} (hp : p.ok) (hn : 0 ≤ n) (hn2 : n ≤ 1000)
    (h : ∀ (p' : Pl) (xs : List Str), p'.ok → NmsOk xs → (xs.length : Int) = n → Q (.tmp (.lst (nms xs))) (.own io false p'.d :: σ)) : wp (callF P (callN P (k + 4)) 197 [.bor 0, .val (.int n)]) (.own io false p.d :: σ) Q X := by
  refine wp_callF (F := f__law_calls) rfl rfl nd1 rfl (calls_wpc hp hn hn2 fun p' xs hp' hx hl => ⟨trivial, ?_⟩)
  rw [back1 (io := io) (lk := false) (d := p.d) rfl rfl]
  exact h p' xs hp' hx hl
end LW

set_option Elab.async false
set_option linter.all false
set_option maxRecDepth 100000
set_option maxHeartbeats 1000000
namespace LW
open PySem L2 EV
/-! ### commands as data -/
def BIG : Int := 2 ^ 300
structure Mv where
  u : Bool
  a : Option Int
def Mv.w (m : Mv) : Str := if m.u then "undo" else "redo"
def Mv.d (m : Mv) : D := .tup [.str m.w, Am m.a]
structure Mv.ok (m : Mv) : Prop where
  am : AmOk m.a
  lt : ∀ i, m.a = some i → i < BIG
inductive Cm where
  | doc (n : Str) | mv (m : Mv) | rep (t : Int) (ms : List Mv)
def mvsD (ms : List Mv) : D := .tup (ms.map Mv.d)
def Cm.d : Cm → D
  | .doc n => .tup [.str "do", .str n]
  | .mv m => m.d
  | .rep t ms => .tup [.str "repeat", .int t, mvsD ms]
structure MvsOk (ms : List Mv) : Prop where
  ok : ∀ m ∈ ms, m.ok
  ne : ms ≠ []
  len : ms.length ≤ 1000
def Cm.ok : Cm → Prop
  | .doc n => Nm n
  | .mv m => m.ok
  | .rep t ms => (1 ≤ t ∧ t < BIG) ∧ MvsOk ms
structure CsOk (cs : List Cm) : Prop where
  ok : ∀ c ∈ cs, c.ok
  len : cs.length ≤ 1000
def csD (cs : List Cm) : D := .tup (cs.map Cm.d)
/-- a program -/
def pg (cs : List Cm) : D := .ins 1021 [43] [csD cs]
/-! ### words -/
theorem eqS {a b : Str} (ha : PyData.strOk a = true) (hb : PyData.strOk b = true) : eqD (.str a) (.str b) = some (decide (a = b)) := (EqR.str (n := 0) ha hb).eqD (by decide)
theorem eqS' {a b : Str} {k : Bool} (ha : PyData.strOk a = true) (hb : PyData.strOk b = true) (h : decide (a = b) = k) : eqD (.str a) (.str b) = some k := by rw [eqS ha hb, h]
theorem eq_dd : eqD (.str "do") (.str "do") = some true := eqS' (by decide +kernel) (by decide +kernel) (by decide +kernel)
theorem eq_ud : eqD (.str "undo") (.str "do") = some false := eqS' (by decide +kernel) (by decide +kernel) (by decide +kernel)
theorem eq_rd : eqD (.str "redo") (.str "do") = some false := eqS' (by decide +kernel) (by decide +kernel) (by decide +kernel)
theorem eq_pd : eqD (.str "repeat") (.str "do") = some false := eqS' (by decide +kernel) (by decide +kernel) (by decide +kernel)
theorem eq_dp : eqD (.str "do") (.str "repeat") = some false := eqS' (by decide +kernel) (by decide +kernel) (by decide +kernel)
theorem eq_up : eqD (.str "undo") (.str "repeat") = some false := eqS' (by decide +kernel) (by decide +kernel) (by decide +kernel)
theorem eq_rp : eqD (.str "redo") (.str "repeat") = some false := eqS' (by decide +kernel) (by decide +kernel) (by decide +kernel)
theorem eq_pp : eqD (.str "repeat") (.str "repeat") = some true := eqS' (by decide +kernel) (by decide +kernel) (by decide +kernel)
theorem eq_ur : eqD (.str "undo") (.str "redo") = some false := eqS' (by decide +kernel) (by decide +kernel) (by decide +kernel)
theorem eq_rr : eqD (.str "redo") (.str "redo") = some true := eqS' (by decide +kernel) (by decide +kernel) (by decide +kernel)
theorem in_u : inF (.str "undo") [.str "undo", .str "redo"] = some true := by decide +kernel
theorem in_r : inF (.str "redo") [.str "undo", .str "redo"] = some true := by decide +kernel
theorem con_2002 : P.con 2002 = some (.tup [.str "undo", .str "redo"]) := rfl
theorem con_1021 : P.con 1021 = some (.gl 1021) := rfl
theorem isi_p {ns : List Nat} {ds : List D} : isiF P (.ins 1021 ns ds) (.gl 1021) = some true := rfl
theorem isi_ph {ns : List Nat} {ds : List D} : isiF P (.ins 1020 ns ds) (.gl 1021) = some false := rfl
section
variable {O : Oc} {r : R} {es : E} {a d : D} {σ : List Sl} {Q : R → List Sl → Prop} {X : Ex → List Sl → Prop} {q : D → Prop} {cs : List Cm}
theorem at_p_cs : attrE P O 43 r Q (.ins 1021 [43] [a]) σ = Q (.val a) σ := rfl
theorem pg_cs : attrE P O 43 r Q (pg cs) σ = Q (.val (csD cs)) σ := rfl
theorem fs_p_cs : fK P 43 d q (.ins 1021 [] []) = q (.ins 1021 [43] [d]) := e_fK rfl rfl (by decide)
end
local macro_rules | `(tactic| walk_at "s") => `(tactic| simp (config := { dsimp := false }) only [↓e_ret, ↓e_bnd, ↓e_some, ↓e_none, ↓e_T, ↓e_F, ↓e_Tt, ↓e_Ff, ↓e_ifd, ↓e_ifnd, ↓bK_v, ↓bK_o, ↓bK_s, ↓vK_v, ↓vK_o, ↓vK_s, ↓dK_v, ↓dK_o, ↓dK_s, ↓sK_v, ↓sK_u, ↓sK_o, ↓sK_s, ↓sK_fr, ↓oK_o, ↓oK_s, ↓rK_v, ↓rK_o, ↓rK_s, ↓e_c, ↓e_b, ↓e_v, ↓e_g, ↓e_dv, ↓e_dt, ↓e_db, ↓e_zv, ↓e_zt, ↓e_zb, ↓e_bin, ↓e_neg, ↓e_cmp, ↓e_cmp2, ↓e_not, ↓e_and, ↓e_or, ↓e_ife, ↓e_tup, ↓e_lst, ↓e_bi, ↓e_dsn, ↓e_dsc, ↓e_call, ↓e_mk, ↓e_methK, ↓e_meth, ↓e_smeth, ↓e_attrF, ↓e_attrC, ↓e_attrP, ↓e_attr, ↓e_ix, ↓e_sl, ↓e_pn, ↓e_pt, ↓e_dn, ↓e_da, ↓e_dst, ↓e_an, ↓e_aa, ↓e_rng, ↓e_enm, ↓e_sq, ↓e_tn, ↓e_ta, ↓e_to, ↓e_ti, ↓e_tc, ↓e_tc2, ↓e_tr, ↓e_nil, ↓e_seq, ↓e_sqn, ↓e_sqr, ↓e_sqb, ↓e_sqc, ↓e_fnv, ↓e_fnt, ↓e_fnn, ↓e_tkn, ↓e_tkc, ↓e_tkb, ↓e_tkr, ↓e_lks, ↓e_lkn, ↓e_int, ↓e_str, ↓e_pair, ↓e_bl, ↓e_wks, ↓e_wkn, ↓e_put, ↓e_set1, ↓e_pv, ↓e_ptm, ↓e_sett, ↓e_asN, ↓e_asT, ↓e_asn, ↓e_asc, ↓e_par, ↓e_prn, ↓e_prc, ↓iK_o, ↓iK_s, ↓e_isOwn, ↓e_setix, ↓e_ls, ↓e_setF, ↓e_set30, ↓e_set31, ↓e_set32, ↓e_setat, ↓e_setA, ↓e_expr, ↓e_retE, ↓e_retv, ↓e_iteS, ↓e_brk, ↓e_cont, ↓e_unp, ↓e_aug, ↓e_forQ, ↓e_for, ↓e_whl, ↓e_mul, ↓e_add, ↓e_sub, ↓e_addF, ↓e_subF, ↓e_mod, ↓e_fdiv, ↓e_pow, ↓e_divmod, ↓e_addS, ↓e_addT, ↓e_addL, ↓e_mulT, ↓e_len_t, ↓e_len_l, ↓e_len_s, ↓e_max, ↓e_min, ↓e_abs, ↓e_tupl, ↓e_tupt, ↓e_lstl, ↓e_lstt, ↓e_inti, ↓e_intb, ↓e_all, ↓e_any, ↓e_isi, ↓e_ixt, ↓e_ixl, ↓e_slt, ↓e_sll, ↓e_sls, ↓e_lt, ↓e_le, ↓e_gt, ↓e_ge, ↓e_eqi, ↓e_nei, ↓e_is, ↓e_isnt, ↓e_in, ↓lenK_i, ↓txtK_i, ↓boolK_i, ↓e_lenI, ↓e_strI, ↓e_reprI, ↓e_reprl, ↓e_reprt, ↓e_strs, ↓e_stri, ↓e_suml, ↓e_addI, ↓e_inI, ↓e_inl, ↓e_intp, ↓e_ninl, ↓e_nintp, ↓calK_i, ↓calK_g, ↓e_calI, ↓e_calG, ↓e_callv, ↓e_star, ↓fstK_i, ↓e_fst, ↓e_fstn, ↓e_fsta, ↓e_fmt, ↓e_fmts, ↓e_fmti, ↓e_fmtI, ↓e_appF, ↓liK_o, ↓liK_s, ↓e_isLst, ↓e_app, ↓extK_i, ↓e_ext, ↓e_lc, ↓e_eqS, ↓e_eqT, ↓e_eqL, ↓e_eqB, ↓e_neS, ↓e_neT, ↓e_neL, ↓e_neB, con_2002, in_u, in_r, eq_dd, eq_ud, eq_rd, eq_pd, eq_dp, eq_up, eq_rp, eq_pp, con_1021, isi_p, ↓at_p_cs, at_0, at_1, at_2, at_3, at_4, at_5, lk_v, lk_t, lock_n, unlock_n, items_l, items_t, items_s, itemsQ_l, itemsQ_t, tr_b, is_n, is_i, is_s, is_t, is_l, cmp_le, cmp_lt, isi_it, isi_ib, isi_is, isi_ss, isi_si, isi_tt, eqD_bl, io_o, io_v, io_n, true_and, Int.reduceLT, Int.reduceLE, Bool.not_true, Bool.not_false, Int.reduceEq, true_implies, false_implies, not_true_eq_false, not_false_eq_true, and_true, implies_true, len_0, len_1, len_2, len_3, len_4, len_5])
section
variable {k : Nat} {σ : List Sl} {Q : R → List Sl → Prop} {X : Ex → List Sl → Prop} {m : Mv} {ms : List Mv} {c : Cm} {cs : List Cm}
theorem is_move_wpc (hm : m.ok) (h : Q (.val (.bl true)) [.val m.d]) : wpc (callN P (k + 4) 38 [.val m.d]) Q X := by
  refine wpc_fn (F := f_is_move) rfl rfl (by decide) rfl rfl ?_
  show wp (ex P _ f_is_move.body) [.val (.tup [.str m.w, Am m.a])] _ _
  unfold f_is_move
  dsimp only
  obtain ⟨u, a⟩ := m
  have am : AmOk a := hm.am
  cases u with
  | true =>
    show wp _ [.val (.tup [.str "undo", Am a])] _ _
    walk_at "s"
    rw [is_amount_eq am]
    exact ⟨trivial, h⟩
  | false =>
    show wp _ [.val (.tup [.str "redo", Am a])] _ _
    walk_at "s"
    rw [is_amount_eq am]
    exact ⟨trivial, h⟩
theorem is_move_eq (hm : m.ok) : wp (callF P (callN P (k + 4)) 38 [.val m.d]) σ Q X = Q (.val (.bl true)) σ :=
  e_callF (F := f_is_move) rfl rfl nd0 rfl (wpc_ok (is_move_wpc hm ⟨rfl, rfl⟩)) trivial (back0 rfl)
theorem bls_true (n : Nat) : blsF (List.replicate n (.bl true)) = some (List.replicate n true) := by
  induction n with
  | zero => rfl
  | succ n ih => rw [List.replicate_succ, List.replicate_succ]; show (blsF _).map _ = _; rw [ih]; rfl
theorem all_true (n : Nat) : (List.replicate n true).all id = true := by
  rw [List.all_eq_true]; intro b hb; exact (List.mem_replicate.mp hb).2
theorem are_moves_wpc (hm : MvsOk ms) (h : Q (.val (.bl true)) [.val (mvsD ms)]) : wpc (callN P (k + 5) 39 [.val (mvsD ms)]) Q X := by
  refine wpc_fn (F := f_are_moves) rfl rfl (by decide) rfl rfl ?_
  show wp (ex P _ f_are_moves.body) [.val (.tup (ms.map Mv.d)), .un] _ _
  unfold f_are_moves
  dsimp only
  walk_at "s"
  rw [List.length_map]
  have hl : 0 < ms.length := List.length_pos_iff.mpr hm.ne
  refine ⟨fun _ => ?_, fun hn => absurd (by omega) hn⟩
  refine wp_lcp (fun _ => .bl true) rfl rfl (le_lim (by rw [List.length_map]; exact Nat.le_trans hm.len (by decide))) (fun d hd => ?_) ?_
  · obtain ⟨m, hm1, rfl⟩ := List.mem_map.mp hd
    simp only [List.set_cons_succ, List.set_cons_zero]
    walk_at "s"
    rw [is_move_eq (hm.ok m hm1)]
    walk_at "s"
    exact .inl trivial
  · walk_at "s"
    rw [List.map_map, show (List.map ((fun _ => D.bl true) ∘ Mv.d) ms) = List.replicate ms.length (.bl true) by rw [List.map_eq_replicate_iff]; intro _ _; rfl, bls_true]
    walk_at "s"
    rw [all_true]
    exact h
theorem are_moves_eq (hm : MvsOk ms) : wp (callF P (callN P (k + 5)) 39 [.val (mvsD ms)]) σ Q X = Q (.val (.bl true)) σ :=
  e_callF (F := f_are_moves) rfl rfl nd0 rfl (wpc_ok (are_moves_wpc hm ⟨rfl, rfl⟩)) trivial (back0 rfl)
theorem is_command_wpc (hc : c.ok) (h : Q (.val (.bl true)) [.val c.d]) : wpc (callN P (k + 6) 40 [.val c.d]) Q X := by
  refine wpc_fn (F := f_is_command) rfl rfl (by decide) rfl rfl ?_
  show wp (ex P _ f_is_command.body) [.val c.d] _ _
  unfold f_is_command
  dsimp only
  cases c with
  | doc n =>
    show wp _ [.val (.tup [.str "do", .str n])] _ _
    walk_at "s"
    rw [is_name_eq hc]
    exact ⟨trivial, h⟩
  | mv m =>
    obtain ⟨u, a⟩ := m
    cases u with
    | true =>
      show wp _ [.val (.tup [.str "undo", Am a])] _ _
      walk_at "s"
      show wp (callF P _ 38 [.val (Mv.d ⟨true, a⟩)]) _ _ _
      rw [is_move_eq hc]
      exact ⟨trivial, h⟩
    | false =>
      show wp _ [.val (.tup [.str "redo", Am a])] _ _
      walk_at "s"
      show wp (callF P _ 38 [.val (Mv.d ⟨false, a⟩)]) _ _ _
      rw [is_move_eq hc]
      exact ⟨trivial, h⟩
  | rep t ms =>
    show wp _ [.val (.tup [.str "repeat", .int t, mvsD ms])] _ _
    walk_at "s"
    rw [is_int_eq]
    walk_at "s"
    refine ⟨fun _ => ?_, fun hn => absurd hc.1.1 hn⟩
    rw [are_moves_eq hc.2]
    exact ⟨trivial, h⟩
theorem is_command_eq (hc : c.ok) : wp (callF P (callN P (k + 6)) 40 [.val c.d]) σ Q X = Q (.val (.bl true)) σ :=
  e_callF (F := f_is_command) rfl rfl nd0 rfl (wpc_ok (is_command_wpc hc ⟨rfl, rfl⟩)) trivial (back0 rfl)
theorem check_commands_wpc (hc : CsOk cs) (h : Q (.val .non) [.val (csD cs)]) : wpc (callN P (k + 7) 41 [.val (csD cs)]) Q X := by
  refine wpc_fn (F := f_check_commands) rfl rfl (by decide) rfl rfl ?_
  show wp (ex P _ f_check_commands.body) [.val (.tup (cs.map Cm.d)), .un, .un] _ _
  unfold f_check_commands
  dsimp only
  walk_at "s"
  refine wp_forL (fun rest σ => ∃ (n : Nat) (ys : List Cm) (o1 o2 : Option D), rest = enumFrom n (ys.map Cm.d) ∧ (∀ y ∈ ys, y.ok) ∧ σ = [.val (.tup (cs.map Cm.d)), fr o1, fr o2]) ?_ ?_ _ _ ⟨0, cs, none, none, rfl, hc.ok, rfl⟩
  · rintro d ds σ ⟨n, ys, o1, o2, e1, e2, e5⟩
    cases ys with
    | nil => cases e1
    | cons y ys =>
      simp only [List.map_cons, enumFrom, List.cons.injEq] at e1
      obtain ⟨rfl, rfl⟩ := e1
      subst e5
      walk_at "s"
      rw [is_command_eq (e2 y List.mem_cons_self)]
      walk_at "s"
      exact ⟨n + 1, ys, some _, some _, rfl, fun z hz => e2 z (List.mem_cons_of_mem _ hz), rfl⟩
  · rintro σ ⟨n, ys, o1, o2, e1, e2, e5⟩
    subst e5
    show forQ _ none _ _
    walk_at "s"
    exact h
theorem check_commands_eq (hc : CsOk cs) : wp (callF P (callN P (k + 7)) 41 [.val (csD cs)]) σ Q X = Q (.val .non) σ :=
  e_callF (F := f_check_commands) rfl rfl nd0 rfl (wpc_ok (check_commands_wpc hc ⟨rfl, rfl⟩)) trivial (back0 rfl)
theorem pinit_wpc (hc : CsOk cs) (h : Q (.val .non) [.own true false (pg cs), .val (csD cs)]) : wpc (callN P (k + 8) 51 [.own true false (.ins 1021 [] []), .val (csD cs)]) Q X := by
  refine wpc_fn (F := f_Program___init__) rfl rfl (by decide) rfl rfl ?_
  show wp (ex P _ f_Program___init__.body) [.own true false (.ins 1021 [] []), .val (csD cs)] _ _
  unfold f_Program___init__
  dsimp only
  walk_at "s"
  rw [check_commands_eq hc]
  walk_at "s"
  rw [fs_p_cs]
  exact h
/-- Program(*commands) -/
theorem pmk_eq {rs : List R} (hc : CsOk cs) (hr : rs = (cs.map Cm.d).map R.val) : wp (mkF P (callN P (k + 8)) 1021 rs) σ Q X = Q (.val (pg cs)) σ :=
  e_mkS (F := f_Program___init__) (as' := []) rfl rfl rfl rfl hr rfl (le_lim (by rw [List.length_map]; exact Nat.le_trans hc.len (by decide))) rfl nd0 rfl (wpc_ok (pinit_wpc hc ⟨rfl, rfl⟩)) (back0 rfl)
theorem CsOk.app {ds : List Cm} (h : CsOk cs) (g : CsOk ds) (hl : cs.length + ds.length ≤ 1000) : CsOk (cs ++ ds) := ⟨fun c hc => (List.mem_append.mp hc).elim (h.ok c) (g.ok c), by rw [List.length_append]; exact hl⟩
theorem padd_wpc {ds : List Cm} (hc : CsOk cs) (hd : CsOk ds) (hl : cs.length + ds.length ≤ 1000) (h : Q (.val (pg (cs ++ ds))) [.val (pg cs), .val (pg ds)]) : wpc (callN P (k + 10) 55 [.val (pg cs), .val (pg ds)]) Q X := by
  refine wpc_fn (F := f_Program___add__) rfl rfl (by decide) rfl rfl ?_
  show wp (ex P _ f_Program___add__.body) [.val (.ins 1021 [43] [.tup (cs.map Cm.d)]), .val (.ins 1021 [43] [.tup (ds.map Cm.d)]), .un] _ _
  unfold f_Program___add__
  dsimp only
  walk_at "s"
  refine ⟨le_lim (by rw [List.length_map, List.length_map]; omega), ?_⟩
  rw [pmk_eq (hc.app hd hl) (by rw [List.append_nil, List.map_append, List.map_append, List.map_append])]
  exact ⟨trivial, h⟩
theorem padd_eq {ds : List Cm} (hc : CsOk cs) (hd : CsOk ds) (hl : cs.length + ds.length ≤ 1000) : wp (callF P (callN P (k + 10)) 55 [.val (pg cs), .val (pg ds)]) σ Q X = Q (.val (pg (cs ++ ds))) σ :=
  e_callF (F := f_Program___add__) rfl rfl nd0 rfl (wpc_ok (padd_wpc hc hd hl ⟨rfl, rfl⟩)) trivial (back0 rfl)
theorem pg_add {j : Nat} {ds : List Cm} (hc : CsOk cs) (hd : CsOk ds) (hl : cs.length + ds.length ≤ 1000) : wp (binM P ⟨callN P j, callN P (k + 10)⟩ .Add (.val (pg cs)) (.val (pg ds)) (pg cs) (pg ds)) σ Q X = Q (.val (pg (cs ++ ds))) σ := by
  show wp (binM P ⟨callN P j, callN P (k + 10)⟩ .Add (.val (pg cs)) (.val (pg ds)) (.ins 1021 [43] [csD cs]) (.ins 1021 [43] [csD ds])) σ Q X = _
  rw [e_addI, e_specN (f := 55) rfl]
  exact padd_eq hc hd hl
end
end LW

set_option Elab.async false
set_option linter.all false
set_option maxRecDepth 100000
set_option maxHeartbeats 1000000
namespace LW
open PySem L2 EV
/-! ### how moves and turns change the size of the past -/
def mx (a b : Int) : Int := if b > a then b else a
def mn (a b : Int) : Int := if b < a then b else a
def stA (z : Int) : Option Int → Int
  | none => z
  | some i => i
def pm1 (z x : Int) (m : Mv) : Int := if m.u then mx 0 (x - stA z m.a) else mn z (x + stA z m.a)
def pmV (z : Int) (ms : List Mv) (x : Int) : Int := ms.foldl (pm1 z) x
def sh1 (z s : Int) (m : Mv) : Int := s + (if m.u then 0 - stA z m.a else stA z m.a)
def shV (z : Int) (ms : List Mv) (s : Int) : Int := ms.foldl (sh1 z) s
def turnV (z x : Int) (ms : List Mv) (t : Int) : Int := mn (mx (pmV z ms x + (t - 1) * shV z ms 0) (pmV z ms 0)) (pmV z ms z)
local macro_rules | `(tactic| walk_at "s") => `(tactic| simp (config := { dsimp := false }) only [↓e_ret, ↓e_bnd, ↓e_some, ↓e_none, ↓e_T, ↓e_F, ↓e_Tt, ↓e_Ff, ↓e_ifd, ↓e_ifnd, ↓bK_v, ↓bK_o, ↓bK_s, ↓vK_v, ↓vK_o, ↓vK_s, ↓dK_v, ↓dK_o, ↓dK_s, ↓sK_v, ↓sK_u, ↓sK_o, ↓sK_s, ↓sK_fr, ↓oK_o, ↓oK_s, ↓rK_v, ↓rK_o, ↓rK_s, ↓e_c, ↓e_b, ↓e_v, ↓e_g, ↓e_dv, ↓e_dt, ↓e_db, ↓e_zv, ↓e_zt, ↓e_zb, ↓e_bin, ↓e_neg, ↓e_cmp, ↓e_cmp2, ↓e_not, ↓e_and, ↓e_or, ↓e_ife, ↓e_tup, ↓e_lst, ↓e_bi, ↓e_dsn, ↓e_dsc, ↓e_call, ↓e_mk, ↓e_methK, ↓e_meth, ↓e_smeth, ↓e_attrF, ↓e_attrC, ↓e_attrP, ↓e_attr, ↓e_ix, ↓e_sl, ↓e_pn, ↓e_pt, ↓e_dn, ↓e_da, ↓e_dst, ↓e_an, ↓e_aa, ↓e_rng, ↓e_enm, ↓e_sq, ↓e_tn, ↓e_ta, ↓e_to, ↓e_ti, ↓e_tc, ↓e_tc2, ↓e_tr, ↓e_nil, ↓e_seq, ↓e_sqn, ↓e_sqr, ↓e_sqb, ↓e_sqc, ↓e_fnv, ↓e_fnt, ↓e_fnn, ↓e_tkn, ↓e_tkc, ↓e_tkb, ↓e_tkr, ↓e_lks, ↓e_lkn, ↓e_int, ↓e_str, ↓e_pair, ↓e_bl, ↓e_wks, ↓e_wkn, ↓e_put, ↓e_set1, ↓e_pv, ↓e_ptm, ↓e_sett, ↓e_asN, ↓e_asT, ↓e_asn, ↓e_asc, ↓e_par, ↓e_prn, ↓e_prc, ↓iK_o, ↓iK_s, ↓e_isOwn, ↓e_setix, ↓e_ls, ↓e_setF, ↓e_set30, ↓e_set31, ↓e_set32, ↓e_setat, ↓e_setA, ↓e_expr, ↓e_retE, ↓e_retv, ↓e_iteS, ↓e_brk, ↓e_cont, ↓e_unp, ↓e_aug, ↓e_forQ, ↓e_for, ↓e_whl, ↓e_mul, ↓e_add, ↓e_sub, ↓e_addF, ↓e_subF, ↓e_mod, ↓e_fdiv, ↓e_pow, ↓e_divmod, ↓e_addS, ↓e_addT, ↓e_addL, ↓e_mulT, ↓e_len_t, ↓e_len_l, ↓e_len_s, ↓e_max, ↓e_min, ↓e_abs, ↓e_tupl, ↓e_tupt, ↓e_lstl, ↓e_lstt, ↓e_inti, ↓e_intb, ↓e_all, ↓e_any, ↓e_isi, ↓e_ixt, ↓e_ixl, ↓e_slt, ↓e_sll, ↓e_sls, ↓e_lt, ↓e_le, ↓e_gt, ↓e_ge, ↓e_eqi, ↓e_nei, ↓e_is, ↓e_isnt, ↓e_in, ↓lenK_i, ↓txtK_i, ↓boolK_i, ↓e_lenI, ↓e_strI, ↓e_reprI, ↓e_reprl, ↓e_reprt, ↓e_strs, ↓e_stri, ↓e_suml, ↓e_addI, ↓e_inI, ↓e_inl, ↓e_intp, ↓e_ninl, ↓e_nintp, ↓calK_i, ↓calK_g, ↓e_calI, ↓e_calG, ↓e_callv, ↓e_star, ↓fstK_i, ↓e_fst, ↓e_fstn, ↓e_fsta, ↓e_fmt, ↓e_fmts, ↓e_fmti, ↓e_fmtI, ↓e_appF, ↓liK_o, ↓liK_s, ↓e_isLst, ↓e_app, ↓extK_i, ↓e_ext, ↓e_lc, ↓e_eqS, ↓e_eqT, ↓e_eqL, ↓e_eqB, ↓e_neS, ↓e_neT, ↓e_neL, ↓e_neB, eq_uu, eq_ru, eq_rr, eq_ur, eq_dd, eq_ud, eq_rd, eq_pd, eq_dp, eq_up, eq_rp, eq_pp, con_1021, isi_p, con_1020, isi_h, ↓at_p_cs, ↓tn_len, ↓tn_add, ↓hs_past, ↓hs_future, at_0, at_1, at_2, at_3, at_4, at_5, lk_v, lk_t, lock_n, unlock_n, items_l, items_t, items_s, itemsQ_l, itemsQ_t, tr_b, is_n, is_i, is_s, is_t, is_l, cmp_le, cmp_lt, isi_it, isi_ib, isi_is, isi_ss, isi_si, isi_tt, eqD_bl, io_o, io_v, io_n, true_and, Int.reduceLT, Int.reduceLE, Bool.not_true, Bool.not_false, Int.reduceEq, true_implies, false_implies, not_true_eq_false, not_false_eq_true, and_true, implies_true, len_0, len_1, len_2, len_3, len_4, len_5])
section
variable {k : Nat} {σ : List Sl} {Q : R → List Sl → Prop} {X : Ex → List Sl → Prop} {m : Mv} {ms : List Mv} {c : Cm} {cs : List Cm} {x z t : Int} {p f : List Str}
theorem place_moved_wpc (h : Q (.val (.int (pmV z ms x))) [.val (.int x), .val (.int z), .val (mvsD ms)]) : wpc (callN P (k + 2) 48 [.val (.int x), .val (.int z), .val (mvsD ms)]) Q X := by
  refine wpc_fn (F := f_place_moved) rfl rfl (by decide) rfl rfl ?_
  show wp (ex P _ f_place_moved.body) [.val (.int x), .val (.int z), .val (.tup (ms.map Mv.d)), .un, .un, .un] _ _
  unfold f_place_moved
  dsimp only
  walk_at "s"
  refine wp_forL (fun rest σ => ∃ (ys : List Mv) (y : Int) (o1 o2 o3 : Option D), rest = ys.map Mv.d ∧ pmV z ys y = pmV z ms x ∧ σ = [.val (.int y), .val (.int z), .val (.tup (ms.map Mv.d)), fr o1, fr o2, fr o3]) ?_ ?_ _ _ ⟨ms, x, none, none, none, rfl, rfl, rfl⟩
  · rintro d ds σ ⟨ys, y, o1, o2, o3, e1, e2, e5⟩
    cases ys with
    | nil => cases e1
    | cons w ys =>
      simp only [List.map_cons, List.cons.injEq] at e1
      obtain ⟨rfl, rfl⟩ := e1
      subst e5
      obtain ⟨u, a⟩ := w
      cases u with
      | true =>
        cases a with
        | none =>
          show wp (bnd (asg _ (.tup [.str "undo", .non])) _) _ _ _
          walk_at "s"
          exact ⟨ys, _, some _, some _, some _, rfl, e2, rfl⟩
        | some i =>
          show wp (bnd (asg _ (.tup [.str "undo", .int i])) _) _ _ _
          walk_at "s"
          exact ⟨ys, _, some _, some _, some _, rfl, e2, rfl⟩
      | false =>
        cases a with
        | none =>
          show wp (bnd (asg _ (.tup [.str "redo", .non])) _) _ _ _
          walk_at "s"
          exact ⟨ys, _, some _, some _, some _, rfl, e2, rfl⟩
        | some i =>
          show wp (bnd (asg _ (.tup [.str "redo", .int i])) _) _ _ _
          walk_at "s"
          exact ⟨ys, _, some _, some _, some _, rfl, e2, rfl⟩
  · rintro σ ⟨ys, y, o1, o2, o3, e1, e2, e5⟩
    have e0 : ys = [] := by simpa using e1.symm
    subst e0
    subst e5
    show forQ _ none _ _
    walk_at "s"
    rw [← e2] at h
    exact h
theorem place_moved_eq : wp (callF P (callN P (k + 2)) 48 [.val (.int x), .val (.int z), .val (mvsD ms)]) σ Q X = Q (.val (.int (pmV z ms x))) σ :=
  e_callF (F := f_place_moved) rfl rfl nd0 rfl (wpc_ok (place_moved_wpc ⟨rfl, rfl⟩)) trivial (back0 rfl)
theorem log_lt {n k : Nat} (hk : 0 < k) (h : n < 2 ^ k) : n.log2 < k := by
  by_cases h0 : n = 0
  · subst h0; exact hk
  · exact (Nat.log2_lt h0).mpr h
theorem mul_big {i j : Int} (hi : i.natAbs < 2 ^ 400) (hj : j.natAbs < 2 ^ 400) : mulOk i j := by
  have h1 := log_lt (by decide) hi
  have h2 := log_lt (by decide) hj
  exact .inr (.inr (by omega))
theorem sh_bound (hz : 0 ≤ z ∧ z ≤ 1000) : ∀ (ms : List Mv) (s : Int), (∀ m ∈ ms, m.ok) → (shV z ms s).natAbs ≤ s.natAbs + ms.length * 2 ^ 300
  | [], s, _ => by simp [shV]
  | m :: ms, s, h => by
    have ih := sh_bound hz ms (sh1 z s m) fun m' hm => h m' (List.mem_cons_of_mem _ hm)
    have hm := h m List.mem_cons_self
    have e : shV z (m :: ms) s = shV z ms (sh1 z s m) := rfl
    rw [e, List.length_cons]
    have hs : (stA z m.a).natAbs ≤ 2 ^ 300 := by
      cases ha : m.a with
      | none =>
        show z.natAbs ≤ _
        have : (1000 : Nat) ≤ 2 ^ 300 := by decide +kernel
        omega
      | some i =>
        have h1 := hm.lt i ha
        have h2 := hm.am
        rw [ha] at h2
        have h3 : 1 ≤ i := h2
        show i.natAbs ≤ _
        have hb : BIG = ((2 ^ 300 : Nat) : Int) := by decide +kernel
        rw [hb] at h1
        omega
    have h1 : (sh1 z s m).natAbs ≤ s.natAbs + 2 ^ 300 := by
      unfold sh1
      split <;> omega
    have : (ms.length + 1) * 2 ^ 300 = ms.length * 2 ^ 300 + 2 ^ 300 := by rw [Nat.add_mul, Nat.one_mul]
    omega
theorem turn_mul (hz : 0 ≤ z ∧ z ≤ 1000) (hm : MvsOk ms) (ht : 1 ≤ t ∧ t < BIG) : mulOk (t - 1) (shV z ms 0) := by
  have hb : BIG = ((2 ^ 300 : Nat) : Int) := by decide +kernel
  have h1 := sh_bound hz ms 0 hm.ok
  have h2 := hm.len
  refine mul_big ?_ ?_
  · have h3 : (t - 1).natAbs < 2 ^ 300 := by rw [hb] at ht; omega
    exact Nat.lt_trans h3 (by decide +kernel)
  · have h3 : ms.length * 2 ^ 300 ≤ 1000 * 2 ^ 300 := Nat.mul_le_mul_right _ h2
    have h4 : 1000 * 2 ^ 300 < 2 ^ 400 := by decide +kernel
    simp only [Int.natAbs_zero, Nat.zero_add] at h1
    exact Nat.lt_of_le_of_lt (Nat.le_trans h1 h3) h4
theorem turned_wpc {y : Int} (hx : 0 ≤ x + y ∧ x + y ≤ 1000) (hm : MvsOk ms) (ht : 1 ≤ t ∧ t < BIG) (h : Q (.val (.tup [.int (turnV (x + y) x ms t), .int (x + y - turnV (x + y) x ms t)])) [.val (.int x), .val (.int y), .val (mvsD ms), .val (.int t)]) :
    wpc (callN P (k + 4) 49 [.val (.int x), .val (.int y), .val (mvsD ms), .val (.int t)]) Q X := by
  refine wpc_fn (F := f_turned) rfl rfl (by decide) rfl rfl ?_
  show wp (ex P _ f_turned.body) [.val (.int x), .val (.int y), .val (.tup (ms.map Mv.d)), .val (.int t), .un, .un, .un, .un, .un, .un, .un, .un] _ _
  unfold f_turned
  dsimp only
  walk_at "s"
  refine wp_forL (fun rest σ => ∃ (ys : List Mv) (w : Int) (o1 o2 o3 : Option D), rest = ys.map Mv.d ∧ shV (x + y) ys w = shV (x + y) ms 0 ∧ σ = [.val (.int x), .val (.int y), .val (.tup (ms.map Mv.d)), .val (.int t), .val (.int (x + y)), .val (.int w), fr o1, fr o2, fr o3, .un, .un, .un]) ?_ ?_ _ _ ⟨ms, 0, none, none, none, rfl, rfl, rfl⟩
  · rintro d ds σ ⟨ys, w, o1, o2, o3, e1, e2, e5⟩
    cases ys with
    | nil => cases e1
    | cons v ys =>
      simp only [List.map_cons, List.cons.injEq] at e1
      obtain ⟨rfl, rfl⟩ := e1
      subst e5
      obtain ⟨u, a⟩ := v
      cases u with
      | true =>
        cases a with
        | none =>
          show wp (bnd (asg _ (.tup [.str "undo", .non])) _) _ _ _
          walk_at "s"
          exact ⟨ys, _, some _, some _, some _, rfl, e2, rfl⟩
        | some i =>
          show wp (bnd (asg _ (.tup [.str "undo", .int i])) _) _ _ _
          walk_at "s"
          exact ⟨ys, _, some _, some _, some _, rfl, e2, rfl⟩
      | false =>
        cases a with
        | none =>
          show wp (bnd (asg _ (.tup [.str "redo", .non])) _) _ _ _
          walk_at "s"
          exact ⟨ys, _, some _, some _, some _, rfl, e2, rfl⟩
        | some i =>
          show wp (bnd (asg _ (.tup [.str "redo", .int i])) _) _ _ _
          walk_at "s"
          exact ⟨ys, _, some _, some _, some _, rfl, e2, rfl⟩
  · rintro σ ⟨ys, w, o1, o2, o3, e1, e2, e5⟩
    have e0 : ys = [] := by simpa using e1.symm
    subst e0
    subst e5
    have e3 : w = shV (x + y) ms 0 := e2
    subst e3
    show forQ _ none _ _
    walk_at "s"
    rw [show D.tup (ms.map Mv.d) = mvsD ms from rfl, place_moved_eq]
    walk_at "s"
    rw [place_moved_eq]
    walk_at "s"
    rw [place_moved_eq]
    walk_at "s"
    refine ⟨turn_mul hx hm ht, ?_⟩
    exact ⟨le_lim (by simp), h⟩
theorem turned_eq {y : Int} (hx : 0 ≤ x + y ∧ x + y ≤ 1000) (hm : MvsOk ms) (ht : 1 ≤ t ∧ t < BIG) : wp (callF P (callN P (k + 4)) 49 [.val (.int x), .val (.int y), .val (mvsD ms), .val (.int t)]) σ Q X = Q (.val (.tup [.int (turnV (x + y) x ms t), .int (x + y - turnV (x + y) x ms t)])) σ :=
  e_callF (F := f_turned) rfl rfl nd0 rfl (wpc_ok (turned_wpc hx hm ht ⟨rfl, rfl⟩)) trivial (back0 rfl)
theorem st_nn (hz : 0 ≤ z) (hm : m.ok) : 0 ≤ stA z m.a := by
  cases ha : m.a with
  | none => exact hz
  | some i =>
    have := hm.am
    rw [ha] at this
    have h1 : 1 ≤ i := this
    show 0 ≤ i
    omega
theorem pm1_in (hz : 0 ≤ z) (hm : m.ok) (h0 : 0 ≤ x) (h1 : x ≤ z) : 0 ≤ pm1 z x m ∧ pm1 z x m ≤ z := by
  have hs := st_nn hz hm
  unfold pm1 mx mn
  split
  · split <;> omega
  · split <;> omega
theorem pm_in (hz : 0 ≤ z) : ∀ (ms : List Mv) (x : Int), (∀ m ∈ ms, m.ok) → 0 ≤ x → x ≤ z → 0 ≤ pmV z ms x ∧ pmV z ms x ≤ z
  | [], x, _, h0, h1 => ⟨h0, h1⟩
  | m :: ms, x, h, h0, h1 => by
    have hm := pm1_in hz (h m List.mem_cons_self) h0 h1
    exact pm_in hz ms (pm1 z x m) (fun m' hm' => h m' (List.mem_cons_of_mem _ hm')) hm.1 hm.2
theorem turn_in (hz : 0 ≤ z) (hm : ∀ m ∈ ms, m.ok) : 0 ≤ turnV z x ms t ∧ turnV z x ms t ≤ z := by
  have h1 := pm_in hz ms 0 hm (Int.le_refl _) hz
  have h2 := pm_in hz ms z hm hz (Int.le_refl _)
  unfold turnV mx mn
  split <;> split at * <;> omega
def runC (s : List Str × List Str) : Cm → List Str × List Str
  | .doc n => (s.1 ++ [n], [])
  | .mv m => if m.u then mvU s.1 s.2 m.a else mvR s.1 s.2 m.a
  | .rep t ms => ((s.1 ++ s.2).take (turnV (s.1.length + s.2.length) s.1.length ms t).toNat, (s.1 ++ s.2).drop (turnV (s.1.length + s.2.length) s.1.length ms t).toNat)
theorem hok_runC (ho : HOk p f) (hc : c.ok) (hl : p.length + f.length ≤ 999) : HOk (runC (p, f) c).1 (runC (p, f) c).2 := by
  cases c with
  | doc n => exact ⟨ho.hp.app (.one hc), .nil, by show (p ++ [n]).length + 0 ≤ _; rw [List.length_append]; simp; omega⟩
  | mv m =>
    obtain ⟨u, a⟩ := m
    cases u with
    | true => exact ho.U a
    | false => exact ho.R a
  | rep t ms =>
    have h := ho.hp.app ho.hf
    refine ⟨h.take, h.drop, ?_⟩
    show (List.take _ _).length + (List.drop _ _).length ≤ _
    rw [← List.length_append, List.take_append_drop, List.length_append]
    exact ho.l
theorem carried_wpc (hc : c.ok) (hn : ∀ t ms, c ≠ .rep t ms) (hl : p.length + f.length ≤ 999) (h : Q (.val (.tup [tn (runC (p, f) c).1, tn (runC (p, f) c).2])) [.val (tn p), .val (tn f), .val c.d]) : wpc (callN P (k + 4) 26 [.val (tn p), .val (tn f), .val c.d]) Q X := by
  refine wpc_fn (F := f_carried) rfl rfl (by decide) rfl rfl ?_
  show wp (ex P _ f_carried.body) [.val (tn p), .val (tn f), .val c.d] _ _
  unfold f_carried
  dsimp only
  cases c with
  | doc n =>
    show wp _ [.val (.tup (nms p)), .val (tn f), .val (.tup [.str "do", .str n])] _ _
    walk_at "s"
    have e : D.tup (nms p ++ [.str n]) = tn (p ++ [n]) := by unfold tn nms; rw [List.map_append]; rfl
    rw [e, nms_len]
    exact ⟨le_lim (by simp), le_lim (by simp; omega), le_lim (by simp), le_lim (by simp), h⟩
  | mv m =>
    obtain ⟨u, a⟩ := m
    have am : AmOk a := hc.am
    cases u with
    | true =>
      show wp _ [.val (tn p), .val (tn f), .val (.tup [.str "undo", Am a])] _ _
      walk_at "s"
      rw [movedU_eq am (by omega)]
      exact ⟨trivial, h⟩
    | false =>
      show wp _ [.val (tn p), .val (tn f), .val (.tup [.str "redo", Am a])] _ _
      walk_at "s"
      rw [movedR_eq am (by omega)]
      exact ⟨trivial, h⟩
  | rep t ms => exact absurd rfl (hn t ms)
theorem carried_eq (hc : c.ok) (hn : ∀ t ms, c ≠ .rep t ms) (hl : p.length + f.length ≤ 999) : wp (callF P (callN P (k + 4)) 26 [.val (tn p), .val (tn f), .val c.d]) σ Q X = Q (.val (.tup [tn (runC (p, f) c).1, tn (runC (p, f) c).2])) σ :=
  e_callF (F := f_carried) rfl rfl nd0 rfl (wpc_ok (carried_wpc hc hn hl ⟨rfl, rfl⟩)) trivial (back0 rfl)
theorem tn_to {xs : List Str} {c : Int} (h : 0 ≤ c) : slF (tn xs) none (some c) = some (.val (tn (xs.take c.toNat))) := by
  show some (R.val (.tup (cutL (nms xs) none (some c)))) = _
  rw [cut_toI h, nms_take]; rfl
theorem tn_from {xs : List Str} {c : Int} (h : 0 ≤ c) : slF (tn xs) (some c) none = some (.val (tn (xs.drop c.toNat))) := by
  show some (R.val (.tup (cutL (nms xs) (some c) none))) = _
  rw [cut_fromI h, nms_drop]; rfl
theorem followed_wpc (hc : c.ok) (hl : p.length + f.length ≤ 999) (h : Q (.val (.tup [tn (runC (p, f) c).1, tn (runC (p, f) c).2])) [.val (tn p), .val (tn f), .val c.d]) : wpc (callN P (k + 6) 50 [.val (tn p), .val (tn f), .val c.d]) Q X := by
  refine wpc_fn (F := f_followed) rfl rfl (by decide) rfl rfl ?_
  show wp (ex P _ f_followed.body) [.val (tn p), .val (tn f), .val c.d, .un, .un] _ _
  unfold f_followed
  dsimp only
  cases c with
  | doc n =>
    show wp _ [.val (tn p), .val (tn f), .val (.tup [.str "do", .str n]), .un, .un] _ _
    walk_at "s"
    show wp (callF P _ 26 [_, _, .val (Cm.d (.doc n))]) _ _ _
    rw [carried_eq hc (by intros; simp) hl]
    exact ⟨trivial, h⟩
  | mv m =>
    obtain ⟨u, a⟩ := m
    cases u with
    | true =>
      show wp _ [.val (tn p), .val (tn f), .val (.tup [.str "undo", Am a]), .un, .un] _ _
      walk_at "s"
      show wp (callF P _ 26 [_, _, .val (Cm.d (.mv ⟨true, a⟩))]) _ _ _
      rw [carried_eq hc (by intros; simp) hl]
      exact ⟨trivial, h⟩
    | false =>
      show wp _ [.val (tn p), .val (tn f), .val (.tup [.str "redo", Am a]), .un, .un] _ _
      walk_at "s"
      show wp (callF P _ 26 [_, _, .val (Cm.d (.mv ⟨false, a⟩))]) _ _ _
      rw [carried_eq hc (by intros; simp) hl]
      exact ⟨trivial, h⟩
  | rep t ms =>
    show wp _ [.val (tn p), .val (tn f), .val (.tup [.str "repeat", .int t, mvsD ms]), .un, .un] _ _
    walk_at "s"
    rw [turned_eq (by omega) hc.2 hc.1]
    walk_at "s"
    refine ⟨le_lim (by omega), ?_⟩
    have hi := turn_in (z := p.length + f.length) (x := p.length) (t := t) (by omega) hc.2.ok
    refine wp_ofO (tn_to hi.1) ?_
    walk_at "s"
    refine wp_ofO (tn_from hi.1) ?_
    walk_at "s"
    exact ⟨le_lim (by simp), h⟩
theorem followed_eq (hc : c.ok) (hl : p.length + f.length ≤ 999) : wp (callF P (callN P (k + 6)) 50 [.val (tn p), .val (tn f), .val c.d]) σ Q X = Q (.val (.tup [tn (runC (p, f) c).1, tn (runC (p, f) c).2])) σ :=
  e_callF (F := f_followed) rfl rfl nd0 rfl (wpc_ok (followed_wpc hc hl ⟨rfl, rfl⟩)) trivial (back0 rfl)
theorem check_history_wpc (h : Q (.val .non) [.val (hs p f)]) : wpc (callN P (k + 2) 24 [.val (hs p f)]) Q X := by
  refine wpc_fn (F := f_check_history) rfl rfl (by decide) rfl rfl ?_
  show wp (ex P _ f_check_history.body) [.val (.ins 1020 [35, 36] [tn p, tn f])] _ _
  unfold f_check_history
  dsimp only
  walk_at "s"
  exact h
theorem check_history_eq : wp (callF P (callN P (k + 2)) 24 [.val (hs p f)]) σ Q X = Q (.val .non) σ :=
  e_callF (F := f_check_history) rfl rfl nd0 rfl (wpc_ok (check_history_wpc ⟨rfl, rfl⟩)) trivial (back0 rfl)
/-- the dos of a program -/
def dos : List Cm → Nat
  | [] => 0
  | .doc _ :: cs => dos cs + 1
  | _ :: cs => dos cs
def runP (s : List Str × List Str) (cs : List Cm) : List Str × List Str := cs.foldl runC s
theorem runC_len (hc : c.ok) : (runC (p, f) c).1.length + (runC (p, f) c).2.length ≤ p.length + f.length + dos [c] := by
  cases c with
  | doc n => show (p ++ [n]).length + 0 ≤ p.length + f.length + 1; rw [List.length_append, List.length_singleton]; omega
  | mv m =>
    obtain ⟨u, a⟩ := m
    cases u with
    | true =>
      cases a with
      | none => show 0 + (p ++ f).length ≤ _; rw [List.length_append]; omega
      | some i =>
        show (List.take _ p).length + (List.drop _ p ++ f).length ≤ _
        rw [List.length_append, List.length_take, List.length_drop]; omega
    | false =>
      cases a with
      | none => show (p ++ f).length + 0 ≤ _; rw [List.length_append]; omega
      | some i =>
        show (p ++ List.take _ f).length + (List.drop _ f).length ≤ _
        rw [List.length_append, List.length_take, List.length_drop]; omega
  | rep t ms =>
    show (List.take _ (p ++ f)).length + (List.drop _ (p ++ f)).length ≤ _
    rw [← List.length_append, List.take_append_drop, List.length_append]; omega
theorem dos_cons : dos (c :: cs) = dos [c] + dos cs := by cases c <;> simp [dos, Nat.add_comm]
theorem pcall_wpc (hc : CsOk cs) (ho : HOk p f) (hl : p.length + f.length + dos cs ≤ 999) (h : Q (.val (hs (runP (p, f) cs).1 (runP (p, f) cs).2)) [.val (pg cs), .val (hs p f)]) : wpc (callN P (k + 8) 61 [.val (pg cs), .val (hs p f)]) Q X := by
  refine wpc_fn (F := f_Program___call__) rfl rfl (by decide) rfl rfl ?_
  show wp (ex P _ f_Program___call__.body) [.val (.ins 1021 [43] [.tup (cs.map Cm.d)]), .val (hs p f), .un, .un, .un] _ _
  unfold f_Program___call__
  dsimp only
  walk_at "s"
  rw [check_history_eq]
  walk_at "s"
  refine wp_forL (fun rest σ => ∃ (ys : List Cm) (p' f' : List Str) (o1 : Option D), rest = ys.map Cm.d ∧ (∀ y ∈ ys, y.ok) ∧ HOk p' f' ∧ p'.length + f'.length + dos ys ≤ 999 ∧ runP (p', f') ys = runP (p, f) cs ∧ σ = [.val (.ins 1021 [43] [.tup (cs.map Cm.d)]), .val (hs p f), .val (tn p'), .val (tn f'), fr o1]) ?_ ?_ _ _ ⟨cs, p, f, none, rfl, hc.ok, ho, hl, rfl, rfl⟩
  · rintro d ds σ ⟨ys, p', f', o1, e1, e2, e3, e4, e5, e6⟩
    cases ys with
    | nil => cases e1
    | cons y ys =>
      simp only [List.map_cons, List.cons.injEq] at e1
      obtain ⟨rfl, rfl⟩ := e1
      subst e6
      have hy := e2 y List.mem_cons_self
      rw [dos_cons] at e4
      walk_at "s"
      rw [followed_eq hy (by omega)]
      walk_at "s"
      have := runC_len (p := p') (f := f') hy
      exact ⟨ys, _, _, some _, rfl, fun z hz => e2 z (List.mem_cons_of_mem _ hz), hok_runC e3 hy (by omega), by omega, e5, rfl⟩
  · rintro σ ⟨ys, p', f', o1, e1, e2, e3, e4, e5, e6⟩
    have e0 : ys = [] := by simpa using e1.symm
    subst e0
    subst e6
    have e7 : (p', f') = runP (p, f) cs := e5
    rw [← e7] at h
    show forQ _ none _ _
    walk_at "s"
    rw [mk_eq e3.hp e3.hf]
    exact ⟨trivial, h⟩
theorem pcall_eq (hc : CsOk cs) (ho : HOk p f) (hl : p.length + f.length + dos cs ≤ 999) : wp (callF P (callN P (k + 8)) 61 [.val (pg cs), .val (hs p f)]) σ Q X = Q (.val (hs (runP (p, f) cs).1 (runP (p, f) cs).2)) σ :=
  e_callF (F := f_Program___call__) rfl rfl nd0 rfl (wpc_ok (pcall_wpc hc ho hl ⟨rfl, rfl⟩)) trivial (back0 rfl)
end
end LW

set_option Elab.async false
set_option linter.all false
set_option maxRecDepth 100000
set_option maxHeartbeats 1000000
namespace LW
open PySem L2 EV
/-! ### turns, in plain numbers -/
theorem mx_eq (a b : Int) : mx a b = max a b := by unfold mx; split <;> omega
theorem mn_eq (a b : Int) : mn a b = min a b := by unfold mn; split <;> omega
theorem shV_add (z : Int) : ∀ (ms : List Mv) (s : Int), shV z ms s = s + shV z ms 0
  | [], s => by simp [shV]
  | m :: ms, s => by
    have h1 := shV_add z ms (sh1 z s m)
    have h2 := shV_add z ms (sh1 z 0 m)
    show shV z ms (sh1 z s m) = s + shV z ms (sh1 z 0 m)
    rw [h1, h2]
    unfold sh1
    omega
/-- one row of moves goes on by its shift, unless the places to which it takes the ends hold it -/
structure Cl (z s lo hi : Int) (g : Int → Int) : Prop where
  le : lo ≤ hi
  l0 : 0 ≤ lo
  hz : hi ≤ z
  at_ : ∀ x, 0 ≤ x → x ≤ z → g x = min (max (x + s) lo) hi
theorem cl_pm {z : Int} (hz : 0 ≤ z) : ∀ (ms : List Mv), (∀ m ∈ ms, m.ok) → Cl z (shV z ms 0) (pmV z ms 0) (pmV z ms z) (pmV z ms)
  | [], _ => ⟨hz, Int.le_refl _, Int.le_refl _, fun x h0 h1 => by show x = min (max (x + 0) 0) z; omega⟩
  | m :: ms, h => by
    have ih := cl_pm hz ms fun m' hm => h m' (List.mem_cons_of_mem _ hm)
    have hm := h m List.mem_cons_self
    have hs := st_nn hz hm
    have e : ∀ x, pmV z (m :: ms) x = pmV z ms (pm1 z x m) := fun _ => rfl
    have es : shV z (m :: ms) 0 = sh1 z 0 m + shV z ms 0 := by show shV z ms (sh1 z 0 m) = _; rw [shV_add]
    have i0 := pm1_in hz hm (Int.le_refl 0) hz
    have iz := pm1_in hz hm hz (Int.le_refl z)
    have a0 := ih.at_ 0 (Int.le_refl _) hz
    have az := ih.at_ z hz (Int.le_refl _)
    have b0 := ih.at_ _ i0.1 i0.2
    have bz := ih.at_ _ iz.1 iz.2
    have l1 := ih.le
    have l2 := ih.l0
    have l3 := ih.hz
    refine ⟨?_, ?_, ?_, fun x h0 h1 => ?_⟩
    · rw [e, e, b0, bz]
      have : pm1 z 0 m ≤ pm1 z z m := by
        unfold pm1
        split <;> (simp only [mx_eq, mn_eq]; omega)
      omega
    · rw [e, b0]; omega
    · rw [e, bz]; omega
    · have ix := pm1_in hz hm h0 h1
      have bx := ih.at_ _ ix.1 ix.2
      rw [e, e, e, b0, bz, bx, es]
      unfold pm1 sh1
      split
      · simp only [mx_eq]; omega
      · simp only [mn_eq]; omega
theorem Cl.in_ {z s lo hi : Int} {g : Int → Int} (c : Cl z s lo hi g) {x : Int} (h0 : 0 ≤ x) (h1 : x ≤ z) : lo ≤ g x ∧ g x ≤ hi := by
  have := c.at_ x h0 h1
  have := c.le
  omega
def itN (g : Int → Int) : Nat → Int → Int
  | 0, x => x
  | n + 1, x => itN g n (g x)
theorem itN_add (g : Int → Int) : ∀ (a b : Nat) (x : Int), itN g (a + b) x = itN g b (itN g a x)
  | 0, b, x => by rw [Nat.zero_add]; rfl
  | a + 1, b, x => by rw [Nat.add_right_comm]; exact itN_add g a b (g x)
theorem itN_succ (g : Int → Int) (n : Nat) (x : Int) : itN g (n + 1) x = g (itN g n x) := itN_add g n 1 x
theorem itN_in {z s lo hi : Int} {g : Int → Int} (c : Cl z s lo hi g) : ∀ (n : Nat) {x : Int}, 0 ≤ x → x ≤ z → 0 ≤ itN g n x ∧ itN g n x ≤ z
  | 0, x, h0, h1 => ⟨h0, h1⟩
  | n + 1, x, h0, h1 => by
    have h := c.in_ h0 h1
    have := c.l0
    have := c.hz
    exact itN_in c n (by omega) (by omega)
theorem Cl.turns {z s lo hi : Int} {g : Int → Int} (c : Cl z s lo hi g) {x : Int} (h0 : 0 ≤ x) (h1 : x ≤ z) : ∀ n : Nat, itN g (n + 1) x = min (max (g x + (n : Int) * s) lo) hi
  | 0 => by
    have := c.in_ h0 h1
    show g x = _
    simp only [Int.ofNat_zero, Int.zero_mul]
    omega
  | n + 1 => by
    have ih := c.turns h0 h1 n
    have hi1 := c.in_ h0 h1
    have l1 := c.le
    have l2 := c.l0
    have l3 := c.hz
    rw [itN_succ, ih]
    rw [c.at_ _ (by omega) (by omega)]
    have e : ((n + 1 : Nat) : Int) * s = (n : Int) * s + s := by rw [Int.natCast_add, Int.add_mul]; simp
    rw [e]
    have p1 : 0 ≤ s → 0 ≤ (n : Int) * s := fun h => Int.mul_nonneg (by omega) h
    have p2 : s ≤ 0 → (n : Int) * s ≤ 0 := fun h => Int.mul_nonpos_of_nonneg_of_nonpos (by omega) h
    generalize (n : Int) * s = w at *
    by_cases hs : 0 ≤ s
    · have := p1 hs; omega
    · have := p2 (by omega); omega
/-- turned() does so many turns -/
theorem turnV_it {z x t : Int} {ms : List Mv} (hz : 0 ≤ z) (hm : ∀ m ∈ ms, m.ok) (h0 : 0 ≤ x) (h1 : x ≤ z) (ht : 1 ≤ t) : turnV z x ms t = itN (pmV z ms) t.toNat x := by
  have c := cl_pm hz ms hm
  obtain ⟨n, rfl⟩ : ∃ n : Nat, t = ((n + 1 : Nat) : Int) := ⟨(t - 1).toNat, by omega⟩
  have e : (((n + 1 : Nat) : Int)).toNat = n + 1 := by omega
  rw [e, c.turns h0 h1 n]
  unfold turnV
  rw [mx_eq, mn_eq]
  have : (((n + 1 : Nat) : Int) - 1) = (n : Int) := by omega
  rw [this]
theorem pmV_app (z : Int) (ms ns : List Mv) (x : Int) : pmV z (ms ++ ns) x = pmV z ns (pmV z ms x) := List.foldl_append
theorem itN_two (g : Int → Int) : ∀ (n : Nat) (x : Int), itN (fun y => g (g y)) n x = itN g (2 * n) x
  | 0, x => rfl
  | n + 1, x => by
    show itN _ n (g (g x)) = _
    rw [itN_two g n]
    rfl
theorem itN_congr {g h : Int → Int} (e : ∀ x, g x = h x) (n : Nat) (x : Int) : itN g n x = itN h n x := by
  have : g = h := funext e
  rw [this]
/-! ### a line, cut at a place -/
def stL (L : List Str) (x : Int) : List Str × List Str := (L.take x.toNat, L.drop x.toNat)
theorem stL_self (p f : List Str) : stL (p ++ f) p.length = (p, f) := by
  unfold stL
  rw [Int.toNat_natCast, List.take_left, List.drop_left]
theorem stL_len {L : List Str} {x : Int} (h0 : 0 ≤ x) (h1 : x ≤ L.length) : ((stL L x).1.length : Int) = x ∧ ((stL L x).1.length : Int) + (stL L x).2.length = L.length := by
  unfold stL
  constructor
  · show ((L.take _).length : Int) = _; rw [List.length_take]; omega
  · show ((L.take _).length : Int) + (L.drop _).length = _; rw [List.length_take, List.length_drop]; omega
theorem stL_app {L : List Str} {x : Int} : (stL L x).1 ++ (stL L x).2 = L := List.take_append_drop _ _
theorem stL_inj {L : List Str} {x y : Int} (h0 : 0 ≤ x) (h1 : x ≤ L.length) (g0 : 0 ≤ y) (g1 : y ≤ L.length) (e : (stL L x).1.length = (stL L y).1.length) : x = y := by
  have := (stL_len h0 h1).1
  have := (stL_len g0 g1).1
  omega
theorem mv_place {L : List Str} {x : Int} {m : Mv} (hm : m.ok) (h0 : 0 ≤ x) (h1 : x ≤ L.length) : runC (stL L x) (.mv m) = stL L (pm1 L.length x m) := by
  obtain ⟨u, a⟩ := m
  have am : AmOk a := hm.am
  cases u with
  | true =>
    show mvU (L.take x.toNat) (L.drop x.toNat) a = stL L (mx 0 (x - stA _ a))
    rw [mx_eq]
    cases a with
    | none =>
      show (([] : List Str), L.take x.toNat ++ L.drop x.toNat) = stL L (max 0 (x - L.length))
      rw [List.take_append_drop]
      unfold stL
      rw [show (max 0 (x - (L.length : Int))).toNat = 0 by omega, List.take_zero, List.drop_zero]
    | some i =>
      have hi : 1 ≤ i := am
      simp only [mvU, stA, stL]
      have e1 : (L.take x.toNat).length - i.toNat = (max 0 (x - i)).toNat := by rw [List.length_take]; omega
      rw [e1, List.take_take, List.drop_take]
      have e2 : min (max 0 (x - i)).toNat x.toNat = (max 0 (x - i)).toNat := by omega
      rw [e2]
      congr 1
      have e3 : L.drop x.toNat = (L.drop (max 0 (x - i)).toNat).drop (x.toNat - (max 0 (x - i)).toNat) := by rw [List.drop_drop]; congr 1; omega
      rw [e3, List.take_append_drop]
  | false =>
    show mvR (L.take x.toNat) (L.drop x.toNat) a = stL L (mn L.length (x + stA _ a))
    rw [mn_eq]
    cases a with
    | none =>
      show (L.take x.toNat ++ L.drop x.toNat, ([] : List Str)) = stL L (min L.length (x + L.length))
      rw [List.take_append_drop]
      unfold stL
      rw [show (min (L.length : Int) (x + L.length)).toNat = L.length by omega, List.take_length, List.drop_length]
    | some i =>
      have hi : 1 ≤ i := am
      simp only [mvR, stA, stL]
      have e0 : (min (L.length : Int) (x + i)).toNat = min L.length (x.toNat + i.toNat) := by omega
      rw [e0]
      by_cases hx : x.toNat + i.toNat ≤ L.length
      · rw [Nat.min_eq_right hx, List.take_add, List.drop_drop]
      · have e1 : List.take i.toNat (List.drop x.toNat L) = List.drop x.toNat L := List.take_of_length_le (by rw [List.length_drop]; omega)
        have e2 : List.drop i.toNat (List.drop x.toNat L) = [] := List.drop_of_length_le (by rw [List.length_drop]; omega)
        rw [Nat.min_eq_left (by omega), e1, e2, List.take_append_drop, List.take_length, List.drop_length]
theorem rep_place {L : List Str} {x t : Int} {ms : List Mv} (hm : ∀ m ∈ ms, m.ok) (h0 : 0 ≤ x) (h1 : x ≤ L.length) (ht : 1 ≤ t) : runC (stL L x) (.rep t ms) = stL L (itN (pmV L.length ms) t.toNat x) := by
  have l := stL_len h0 h1
  show (((stL L x).1 ++ (stL L x).2).take _, ((stL L x).1 ++ (stL L x).2).drop _) = _
  rw [stL_app, l.2, l.1, turnV_it (by omega) hm h0 h1 ht]
  rfl
theorem mvs_place {L : List Str} : ∀ (ms : List Mv) {x : Int}, (∀ m ∈ ms, m.ok) → 0 ≤ x → x ≤ L.length → runP (stL L x) (ms.map Cm.mv) = stL L (pmV L.length ms x)
  | [], x, _, _, _ => rfl
  | m :: ms, x, h, h0, h1 => by
    have hm := h m List.mem_cons_self
    have i := pm1_in (by omega) hm h0 h1
    show runP (runC (stL L x) (.mv m)) (ms.map Cm.mv) = _
    rw [mv_place hm h0 h1, mvs_place ms (fun m' hm' => h m' (List.mem_cons_of_mem _ hm')) i.1 i.2]
    rfl
theorem runP_app (s : List Str × List Str) (cs ds : List Cm) : runP s (cs ++ ds) = runP (runP s cs) ds := List.foldl_append
theorem runP_rep {L : List Str} {x t : Int} {ms : List Mv} (hm : ∀ m ∈ ms, m.ok) (h0 : 0 ≤ x) (h1 : x ≤ L.length) (ht : 1 ≤ t) : runP (stL L x) [.rep t ms] = stL L (itN (pmV L.length ms) t.toNat x) := rep_place hm h0 h1 ht
end LW

set_option Elab.async false
set_option linter.all false
set_option maxRecDepth 100000
set_option maxHeartbeats 1000000
namespace LW
open PySem L2 EV
/-! ### the text of a history -/
theorem mem_join {y : Str} : ∀ {xs : List Str} {c : Nat}, c ∈ (Str.join y xs).cps.toList → c ∈ y.cps.toList ∨ ∃ x ∈ xs, c ∈ x.cps.toList
  | [], c, h => by exact absurd h (by simp [Str.join, Str.empty])
  | [x], c, h => .inr ⟨x, List.mem_singleton.mpr rfl, h⟩
  | x :: z :: r, c, h => by
    have h' : c ∈ ((x ++ y) ++ Str.join y (z :: r)).cps.toList := h
    rw [str_app, str_app] at h'
    rcases List.mem_append.mp h' with h1 | h1
    · rcases List.mem_append.mp h1 with h2 | h2
      · exact .inr ⟨x, List.mem_cons_self, h2⟩
      · exact .inl h2
    · rcases mem_join h1 with h2 | ⟨w, hw, h2⟩
      · exact .inl h2
      · exact .inr ⟨w, List.mem_cons_of_mem _ hw, h2⟩
theorem strOk_iff {s : Str} : PyData.strOk s = true ↔ ∀ c ∈ s.cps.toList, c < 1114112 := by
  unfold PyData.strOk
  rw [Array.all_eq_true']
  constructor
  · intro h c hc
    simpa using h c (by simpa using hc)
  · intro h c hc
    simpa using h c (by simpa using hc)
theorem strOk_join {y : Str} {xs : List Str} (hy : PyData.strOk y = true) (hx : ∀ x ∈ xs, PyData.strOk x = true) : PyData.strOk (Txt.join y xs) = true := by
  have e : Txt.join y xs = Str.join y xs := StrLaws.glued_eq_join _ _
  rw [e, strOk_iff]
  intro c hc
  rcases mem_join hc with h | ⟨x, h1, h2⟩
  · exact strOk_iff.mp hy c h
  · exact strOk_iff.mp (hx x h1) c h2
theorem sum_len : ∀ {xs : List Str}, (∀ x ∈ xs, x.length ≤ 8) → (xs.map (·.length)).sum ≤ 8 * xs.length
  | [], _ => by simp
  | x :: xs, h => by
    have h1 := h x List.mem_cons_self
    have h2 := sum_len (xs := xs) fun y hy => h y (List.mem_cons_of_mem _ hy)
    simp only [List.map_cons, List.sum_cons, List.length_cons]
    omega
def strH (p f : List Str) : Str := Txt.join " " (p ++ (Str.ofString "|") :: f)
theorem strsF_app : ∀ (xs : List Str) (ds : List D), strsF (nms xs ++ ds) = (strsF ds).map (xs ++ ·)
  | [], ds => by show strsF ds = _; cases strsF ds <;> rfl
  | x :: xs, ds => by
    show (strsF (nms xs ++ ds)).map (x :: ·) = _
    rw [strsF_app xs ds]
    cases strsF ds <;> rfl
theorem itemsQ_tn {p : List Str} : itemsQ (tn p) = some (nms p) := rfl
theorem strH_ok {p f : List Str} (ho : HOk p f) : PyData.strOk (strH p f) = true := strOk_join (by decide +kernel) fun x hx => by
  rcases List.mem_append.mp hx with h | h
  · exact (ho.hp.nm x h).ok
  · rcases List.mem_cons.mp h with h | h
    · rw [h]; decide +kernel
    · exact (ho.hf.nm x h).ok
theorem join_lim {p f : List Str} (ho : HOk p f) : (((p ++ (Str.ofString "|") :: f).map (·.length)).sum + (p ++ (Str.ofString "|") :: f).length * (Str.ofString " ").length ≤ lim) := by
  have h1 : ∀ x ∈ p ++ (Str.ofString "|") :: f, x.length ≤ 8 := fun x hx => by
    rcases List.mem_append.mp hx with h | h
    · exact (ho.hp.nm x h).l8
    · rcases List.mem_cons.mp h with h | h
      · rw [h]; decide +kernel
      · exact (ho.hf.nm x h).l8
  have h2 := sum_len h1
  have h3 : (p ++ (Str.ofString "|") :: f).length = p.length + f.length + 1 := by rw [List.length_append, List.length_cons]; omega
  have h4 : (Str.ofString " ").length = 1 := by decide +kernel
  rw [h4]
  have := ho.l
  exact le_lim (by omega)
theorem join_hs {p f : List Str} (ho : HOk p f) : smF 1 (Str.ofString " ") [.lst (nms p ++ .str (Str.ofString "|") :: (nms f ++ []))] = some (.val (.str (strH p f))) := by
  have e : strsF (nms p ++ .str (Str.ofString "|") :: (nms f ++ [])) = some (p ++ (Str.ofString "|") :: f) := by
    rw [strsF_app]
    have : strsF (.str (Str.ofString "|") :: (nms f ++ [])) = some ((Str.ofString "|") :: f) := by
      show (strsF (nms f ++ [])).map _ = _
      rw [strsF_app]
      show some ((Str.ofString "|") :: (f ++ [])) = _
      rw [List.append_nil]
    rw [this]; rfl
  show (strsF _).bind _ = _
  rw [e]
  show (if _ then _ else _) = _
  rw [if_pos (join_lim ho)]
  rfl
local macro_rules | `(tactic| walk_at "s") => `(tactic| simp (config := { dsimp := false }) only [↓e_ret, ↓e_bnd, ↓e_some, ↓e_none, ↓e_T, ↓e_F, ↓e_Tt, ↓e_Ff, ↓e_ifd, ↓e_ifnd, ↓bK_v, ↓bK_o, ↓bK_s, ↓vK_v, ↓vK_o, ↓vK_s, ↓dK_v, ↓dK_o, ↓dK_s, ↓sK_v, ↓sK_u, ↓sK_o, ↓sK_s, ↓sK_fr, ↓oK_o, ↓oK_s, ↓rK_v, ↓rK_o, ↓rK_s, ↓e_c, ↓e_b, ↓e_v, ↓e_g, ↓e_dv, ↓e_dt, ↓e_db, ↓e_zv, ↓e_zt, ↓e_zb, ↓e_bin, ↓e_neg, ↓e_cmp, ↓e_cmp2, ↓e_not, ↓e_and, ↓e_or, ↓e_ife, ↓e_tup, ↓e_lst, ↓e_bi, ↓e_dsn, ↓e_dsc, ↓e_call, ↓e_mk, ↓e_methK, ↓e_meth, ↓e_smeth, ↓e_attrF, ↓e_attrC, ↓e_attrP, ↓e_attr, ↓e_ix, ↓e_sl, ↓e_pn, ↓e_pt, ↓e_dn, ↓e_da, ↓e_dst, ↓e_an, ↓e_aa, ↓e_rng, ↓e_enm, ↓e_sq, ↓e_tn, ↓e_ta, ↓e_to, ↓e_ti, ↓e_tc, ↓e_tc2, ↓e_tr, ↓e_nil, ↓e_seq, ↓e_sqn, ↓e_sqr, ↓e_sqb, ↓e_sqc, ↓e_fnv, ↓e_fnt, ↓e_fnn, ↓e_tkn, ↓e_tkc, ↓e_tkb, ↓e_tkr, ↓e_lks, ↓e_lkn, ↓e_int, ↓e_str, ↓e_pair, ↓e_bl, ↓e_wks, ↓e_wkn, ↓e_put, ↓e_set1, ↓e_pv, ↓e_ptm, ↓e_sett, ↓e_asN, ↓e_asT, ↓e_asn, ↓e_asc, ↓e_par, ↓e_prn, ↓e_prc, ↓iK_o, ↓iK_s, ↓e_isOwn, ↓e_setix, ↓e_ls, ↓e_setF, ↓e_set30, ↓e_set31, ↓e_set32, ↓e_setat, ↓e_setA, ↓e_expr, ↓e_retE, ↓e_retv, ↓e_iteS, ↓e_brk, ↓e_cont, ↓e_unp, ↓e_aug, ↓e_forQ, ↓e_for, ↓e_whl, ↓e_mul, ↓e_add, ↓e_sub, ↓e_addF, ↓e_subF, ↓e_mod, ↓e_fdiv, ↓e_pow, ↓e_divmod, ↓e_addS, ↓e_addT, ↓e_addL, ↓e_mulT, ↓e_len_t, ↓e_len_l, ↓e_len_s, ↓e_max, ↓e_min, ↓e_abs, ↓e_tupl, ↓e_tupt, ↓e_lstl, ↓e_lstt, ↓e_inti, ↓e_intb, ↓e_all, ↓e_any, ↓e_isi, ↓e_ixt, ↓e_ixl, ↓e_slt, ↓e_sll, ↓e_sls, ↓e_lt, ↓e_le, ↓e_gt, ↓e_ge, ↓e_eqi, ↓e_nei, ↓e_is, ↓e_isnt, ↓e_in, ↓lenK_i, ↓txtK_i, ↓boolK_i, ↓e_lenI, ↓e_strI, ↓e_reprI, ↓e_reprl, ↓e_reprt, ↓e_strs, ↓e_stri, ↓e_suml, ↓e_addI, ↓e_inI, ↓e_inl, ↓e_intp, ↓e_ninl, ↓e_nintp, ↓calK_i, ↓calK_g, ↓e_calI, ↓e_calG, ↓e_callv, ↓e_star, ↓fstK_i, ↓e_fst, ↓e_fstn, ↓e_fsta, ↓e_fmt, ↓e_fmts, ↓e_fmti, ↓e_fmtI, ↓e_appF, ↓liK_o, ↓liK_s, ↓e_isLst, ↓e_app, ↓extK_i, ↓e_ext, ↓e_lc, ↓e_eqS, ↓e_eqT, ↓e_eqL, ↓e_eqB, ↓e_neS, ↓e_neT, ↓e_neL, ↓e_neB, con_1021, isi_p, con_1020, isi_h, ↓at_p_cs, ↓tn_len, ↓tn_add, ↓hs_past, ↓hs_future, itemsQ_tn, at_0, at_1, at_2, at_3, at_4, at_5, lk_v, lk_t, lock_n, unlock_n, items_l, items_t, items_s, itemsQ_l, itemsQ_t, tr_b, is_n, is_i, is_s, is_t, is_l, cmp_le, cmp_lt, isi_it, isi_ib, isi_is, isi_ss, isi_si, isi_tt, eqD_bl, io_o, io_v, io_n, true_and, Int.reduceLT, Int.reduceLE, Bool.not_true, Bool.not_false, Int.reduceEq, true_implies, false_implies, not_true_eq_false, not_false_eq_true, and_true, implies_true, len_0, len_1, len_2, len_3, len_4, len_5])
section
variable {k j : Nat} {σ : List Sl} {Q : R → List Sl → Prop} {X : Ex → List Sl → Prop} {p f : List Str}
theorem hstr_wpc (ho : HOk p f) (h : Q (.val (.str (strH p f))) [.val (hs p f)]) : wpc (callN P (k + 2) 36 [.val (hs p f)]) Q X := by
  refine wpc_fn (F := f_History___str__) rfl rfl (by decide) rfl rfl ?_
  show wp (ex P _ f_History___str__.body) [.val (hs p f)] _ _
  unfold f_History___str__
  dsimp only
  walk_at "s"
  have := ho.l
  refine ⟨le_lim (by rw [List.length_append, List.length_cons, List.length_append, nms_len, nms_len]; simp; omega), ?_⟩
  refine wp_ofO (join_hs ho) ?_
  walk_at "s"
  exact h
theorem hstr_eq (ho : HOk p f) : wp (callF P (callN P (k + 2)) 36 [.val (hs p f)]) σ Q X = Q (.val (.str (strH p f))) σ :=
  e_callF (F := f_History___str__) rfl rfl nd0 rfl (wpc_ok (hstr_wpc ho ⟨rfl, rfl⟩)) trivial (back0 rfl)
/-- str(history) -/
theorem hs_str (ho : HOk p f) : wp (biM P ⟨callN P j, callN P (k + 2)⟩ .str [.val (hs p f)] [hs p f]) σ Q X = Q (.val (.str (strH p f))) σ := by
  show wp (biM P ⟨callN P j, callN P (k + 2)⟩ .str [.val (hs p f)] [.ins 1020 [35, 36] [tn p, tn f]]) σ Q X = _
  rw [e_strI, e_specN (f := 36) rfl]
  show wp (callF P (callN P (k + 2)) 36 _) _ _ _ = _
  rw [hstr_eq ho]; rfl
end
end LW

set_option Elab.async false
set_option linter.all false
set_option maxRecDepth 100000
set_option maxHeartbeats 1000000
namespace LW
open PySem L2 EV
/-! ### what the law draws -/
local macro_rules | `(tactic| walk_at "s") => `(tactic| simp (config := { dsimp := false }) only [↓e_ret, ↓e_bnd, ↓e_some, ↓e_none, ↓e_T, ↓e_F, ↓e_Tt, ↓e_Ff, ↓e_ifd, ↓e_ifnd, ↓bK_v, ↓bK_o, ↓bK_s, ↓vK_v, ↓vK_o, ↓vK_s, ↓dK_v, ↓dK_o, ↓dK_s, ↓sK_v, ↓sK_u, ↓sK_o, ↓sK_s, ↓sK_fr, ↓oK_o, ↓oK_s, ↓rK_v, ↓rK_o, ↓rK_s, ↓e_c, ↓e_b, ↓e_v, ↓e_g, ↓e_dv, ↓e_dt, ↓e_db, ↓e_zv, ↓e_zt, ↓e_zb, ↓e_bin, ↓e_neg, ↓e_cmp, ↓e_cmp2, ↓e_not, ↓e_and, ↓e_or, ↓e_ife, ↓e_tup, ↓e_lst, ↓e_bi, ↓e_dsn, ↓e_dsc, ↓e_call, ↓e_mk, ↓e_methK, ↓e_meth, ↓e_smeth, ↓e_attrF, ↓e_attrC, ↓e_attrP, ↓e_attr, ↓e_ix, ↓e_sl, ↓e_pn, ↓e_pt, ↓e_dn, ↓e_da, ↓e_dst, ↓e_an, ↓e_aa, ↓e_rng, ↓e_enm, ↓e_sq, ↓e_tn, ↓e_ta, ↓e_to, ↓e_ti, ↓e_tc, ↓e_tc2, ↓e_tr, ↓e_nil, ↓e_seq, ↓e_sqn, ↓e_sqr, ↓e_sqb, ↓e_sqc, ↓e_fnv, ↓e_fnt, ↓e_fnn, ↓e_tkn, ↓e_tkc, ↓e_tkb, ↓e_tkr, ↓e_lks, ↓e_lkn, ↓e_int, ↓e_str, ↓e_pair, ↓e_bl, ↓e_wks, ↓e_wkn, ↓e_put, ↓e_set1, ↓e_pv, ↓e_ptm, ↓e_sett, ↓e_asN, ↓e_asT, ↓e_asn, ↓e_asc, ↓e_par, ↓e_prn, ↓e_prc, ↓iK_o, ↓iK_s, ↓e_isOwn, ↓e_setix, ↓e_ls, ↓e_setF, ↓e_set30, ↓e_set31, ↓e_set32, ↓e_setat, ↓e_setA, ↓e_expr, ↓e_retE, ↓e_retv, ↓e_iteS, ↓e_brk, ↓e_cont, ↓e_unp, ↓e_aug, ↓e_forQ, ↓e_for, ↓e_whl, ↓e_mul, ↓e_add, ↓e_sub, ↓e_addF, ↓e_subF, ↓e_mod, ↓e_fdiv, ↓e_pow, ↓e_divmod, ↓e_addS, ↓e_addT, ↓e_addL, ↓e_mulT, ↓e_len_t, ↓e_len_l, ↓e_len_s, ↓e_max, ↓e_min, ↓e_abs, ↓e_tupl, ↓e_tupt, ↓e_lstl, ↓e_lstt, ↓e_inti, ↓e_intb, ↓e_all, ↓e_any, ↓e_isi, ↓e_ixt, ↓e_ixl, ↓e_slt, ↓e_sll, ↓e_sls, ↓e_lt, ↓e_le, ↓e_gt, ↓e_ge, ↓e_eqi, ↓e_nei, ↓e_is, ↓e_isnt, ↓e_in, ↓lenK_i, ↓txtK_i, ↓boolK_i, ↓e_lenI, ↓e_strI, ↓e_reprI, ↓e_reprl, ↓e_reprt, ↓e_strs, ↓e_stri, ↓e_suml, ↓e_addI, ↓e_inI, ↓e_inl, ↓e_intp, ↓e_ninl, ↓e_nintp, ↓calK_i, ↓calK_g, ↓e_calI, ↓e_calG, ↓e_callv, ↓e_star, ↓fstK_i, ↓e_fst, ↓e_fstn, ↓e_fsta, ↓e_fmt, ↓e_fmts, ↓e_fmti, ↓e_fmtI, ↓e_appF, ↓liK_o, ↓liK_s, ↓e_isLst, ↓e_app, ↓extK_i, ↓e_ext, ↓e_lc, ↓e_eqS, ↓e_eqT, ↓e_eqL, ↓e_eqB, ↓e_neS, ↓e_neT, ↓e_neL, ↓e_neB, con_1021, isi_p, con_1020, isi_h, ↓at_p_cs, ↓tn_len, ↓tn_add, ↓hs_past, ↓hs_future, at_0, at_1, at_2, at_3, at_4, at_5, lk_v, lk_t, lock_n, unlock_n, items_l, items_t, items_s, itemsQ_l, itemsQ_t, tr_b, is_n, is_i, is_s, is_t, is_l, cmp_le, cmp_lt, isi_it, isi_ib, isi_is, isi_ss, isi_si, isi_tt, eqD_bl, io_o, io_v, io_n, true_and, Int.reduceLT, Int.reduceLE, Bool.not_true, Bool.not_false, Int.reduceEq, true_implies, false_implies, not_true_eq_false, not_false_eq_true, and_true, implies_true, len_0, len_1, len_2, len_3, len_4, len_5])
section
variable {k : Nat} {σ : List Sl} {Q : R → List Sl → Prop} {X : Ex → List Sl → Prop} {p : Pl} {n : Int}
theorem at_nms {ys : List Str} {r : Int} (h0 : 0 ≤ r) (h1 : r < ys.length) (hy : NmsOk ys) : ∃ s, atI (nms ys) r = some (.str s) ∧ Nm s := by
  rw [at_get h0 (by rw [nms_len]; exact h1)]
  have hlt : r.toNat < ys.length := by omega
  refine ⟨ys[r.toNat], ?_, hy.nm _ (List.getElem_mem hlt)⟩
  unfold nms
  rw [List.getElem?_map, List.getElem?_eq_getElem hlt]; rfl
theorem front_wpc (hp : p.ok) (hn : 0 ≤ n) (hn2 : n ≤ 1000) (h : ∀ (p' : Pl) (xs : List Str), p'.ok → NmsOk xs → (xs.length : Int) = n → Q (.tmp (.lst (nms xs))) [.own true false p'.d, .val (.int n)]) : wpc (callN P (k + 6) 231 [.own true false p.d, .val (.int n)]) Q X := by
  refine wpc_fn (F := f__law_front) rfl rfl (by decide) rfl rfl ?_
  show wp (ex P _ f__law_front.body) [.own true false p.d, .val (.int n), .un, .un] _ _
  unfold f__law_front
  dsimp only
  walk_at "s"
  refine calls_call hp (by decide) (by decide) fun p1 ys hp1 hy hl => ?_
  walk_at "s"
  refine wp_ofO (rng_n hn (by omega)) ?_
  refine wp_lcPool (fun v => ∃ s, v = .str s ∧ Nm s) (j := 2) (s := .un) rfl rfl (rng_lim hn2) hp1 (fun p2 d hd hp2 => ?_) fun p2 vs hp2 hlen hv => ?_
  · simp only [List.set_cons_succ, List.set_cons_zero]
    walk_at "s"
    refine draw_call hp2 (by decide) (by decide) fun p3 r hp3 r0 r1 => ?_
    walk_at "s"
    obtain ⟨s, e, hs⟩ := at_nms r0 (by rw [hl]; exact r1) hy
    refine wp_ofO e ?_
    exact ⟨p3, _, hp3, ⟨s, rfl, hs⟩, rfl, rfl⟩
  · obtain ⟨xs, rfl, hx⟩ := vs_nms hv
    walk_at "s"
    refine h p2 xs hp2 hx ?_
    rw [List.length_map, List.length_range, nms_len] at hlen
    omega
theorem front_call {io : Bool} (hp : p.ok) (hn : 0 ≤ n) (hn2 : n ≤ 1000) (h : ∀ (p' : Pl) (xs : List Str), p'.ok → NmsOk xs → (xs.length : Int) = n → Q (.tmp (.lst (nms xs))) (.own io false p'.d :: σ)) : wp (callF P (callN P (k + 6)) 231 [.bor 0, .val (.int n)]) (.own io false p.d :: σ) Q X := by
  refine wp_callF (F := f__law_front) rfl rfl nd1 rfl (front_wpc hp hn hn2 fun p' xs hp' hx hl => ⟨trivial, ?_⟩)
  rw [back1 (io := io) (lk := false) (d := p.d) rfl rfl]
  exact h p' xs hp' hx hl
theorem e30 : (10 : Int) ^ Int.toNat 30 = 1000000000000000000000000000000 := by decide +kernel
theorem pow_ok : (10 : Int).natAbs < 2 ^ 64 := by decide +kernel
theorem pick_am {a b c r : Int} (h0 : 0 ≤ r) (h1 : r < 4) (ha : 1 ≤ a ∧ a < BIG) (hb : 1 ≤ b ∧ b < BIG) (hc : 1 ≤ c ∧ c < BIG) : ∃ m : Option Int, atI [D.int a, D.int b, D.non, D.int c] r = some (Am m) ∧ AmOk m ∧ ∀ i, m = some i → i < BIG := by
  rcases (by omega : r = 0 ∨ r = 1 ∨ r = 2 ∨ r = 3) with rfl | rfl | rfl | rfl
  · exact ⟨some a, at_0, ha.1, fun i e => by cases e; exact ha.2⟩
  · exact ⟨some b, at_1, hb.1, fun i e => by cases e; exact hb.2⟩
  · exact ⟨none, at_2, trivial, fun i e => by cases e⟩
  · exact ⟨some c, at_3, hc.1, fun i e => by cases e; exact hc.2⟩
theorem pick_w {r : Int} (h0 : 0 ≤ r) (h1 : r < 2) : ∃ u : Bool, atI [D.str "undo", D.str "redo"] r = some (D.str (if u then "undo" else "redo")) := by
  rcases (by omega : r = 0 ∨ r = 1) with rfl | rfl
  · exact ⟨true, at_0⟩
  · exact ⟨false, at_1⟩
theorem big_of {a : Int} (h : a < 2000000000000000000000000000000) : a < BIG := Int.lt_of_lt_of_le h (by decide +kernel)
theorem inner_wpc (hp : p.ok) (h : ∀ (p' : Pl) (ms : List Mv), p'.ok → MvsOk ms → ms.length ≤ 5 → Q (.val (mvsD ms)) [.own true false p'.d]) : wpc (callN P (k + 4) 235 [.own true false p.d]) Q X := by
  refine wpc_fn (F := f__law_inner) rfl rfl (by decide) rfl rfl ?_
  show wp (ex P _ f__law_inner.body) [.own true false p.d, .un, .un, .un] _ _
  unfold f__law_inner
  dsimp only
  walk_at "s"
  refine ⟨le_lim (by simp), ?_⟩
  refine draw_call hp (by decide) (by decide) fun p1 n hp1 n0 n1 => ?_
  walk_at "s"
  refine wp_ofO (rng_n (by omega) (by omega)) ?_
  refine wp_forL (fun rest σ => ∃ (q : Pl) (ms : List Mv) (o2 o3 : Option D), q.ok ∧ (∀ m ∈ ms, m.ok) ∧ ms.length + rest.length = (1 + n).toNat ∧ σ = [.own true false q.d, .own false false (.lst (ms.map Mv.d)), fr o2, fr o3]) ?_ ?_ _ _ ⟨p1, [], none, none, hp1, (fun m hm => by cases hm), by simp, rfl⟩
  · rintro d ds σ ⟨q, ms, o2, o3, hq, hm, hl, rfl⟩
    walk_at "s"
    refine draw_call hq (by decide) (by decide) fun p2 a hp2 a0 a1 => ?_
    walk_at "s"
    refine draw_call hp2 (by decide) (by decide) fun p3 b hp3 b0 b1 => ?_
    walk_at "s"
    refine ⟨pow_ok, le_lim (by simp), ?_⟩
    refine draw_call hp3 (by decide) (by decide) fun p4 r hp4 r0 r1 => ?_
    walk_at "s"
    obtain ⟨am, e1, am1, am2⟩ := pick_am (a := 1 + a) (b := 1 + b) (c := (10 : Int) ^ Int.toNat 30) r0 r1 ⟨by omega, big_of (by omega)⟩ ⟨by omega, big_of (by omega)⟩ (by rw [e30]; exact ⟨by decide, big_of (by decide)⟩)
    refine wp_ofO e1 ?_
    walk_at "s"
    refine ⟨le_lim (by simp), ?_⟩
    refine draw_call hp4 (by decide) (by decide) fun p5 w hp5 w0 w1 => ?_
    walk_at "s"
    obtain ⟨u, e2⟩ := pick_w w0 w1
    refine wp_ofO e2 ?_
    walk_at "s"
    rw [List.length_cons] at hl
    refine ⟨le_lim (by simp), le_lim (by rw [List.length_map]; simp; omega), ?_⟩
    refine ⟨p5, ms ++ [⟨u, am⟩], some d, some (Am am), hp5, fun m' hm' => ?_, by rw [List.length_append, List.length_singleton]; omega, ?_⟩
    · rcases List.mem_append.mp hm' with h1 | h1
      · exact hm m' h1
      · rw [List.mem_singleton.mp h1]; exact ⟨am1, am2⟩
    · rw [List.map_append]; rfl
  · rintro σ ⟨q, ms, o2, o3, hq, hm, hl, rfl⟩
    show forQ _ none _ _
    walk_at "s"
    rw [List.length_nil] at hl
    exact h q ms hq ⟨hm, fun e => by subst e; simp at hl; omega, by omega⟩ (by omega)
theorem inner_call {io : Bool} (hp : p.ok) (h : ∀ (p' : Pl) (ms : List Mv), p'.ok → MvsOk ms → ms.length ≤ 5 → Q (.val (mvsD ms)) (.own io false p'.d :: σ)) : wp (callF P (callN P (k + 4)) 235 [.bor 0]) (.own io false p.d :: σ) Q X := by
  refine wp_callF (F := f__law_inner) rfl rfl nd1 rfl (inner_wpc hp fun p' ms hp' hx hl => ⟨trivial, ?_⟩)
  rw [back1 (io := io) (lk := false) (d := p.d) rfl rfl]
  exact h p' ms hp' hx hl
theorem l30 : ((10 : Int) ^ Int.toNat 30).natAbs.log2 < 9000 := by rw [e30]; decide +kernel
theorem turns_wpc (hp : p.ok) (h : ∀ (p' : Pl) (t : Int), p'.ok → 1 ≤ t → t ≤ 1000000000000000000000000000000 → Q (.val (.int t)) [.own true false p'.d]) : wpc (callN P (k + 4) 241 [.own true false p.d]) Q X := by
  refine wpc_fn (F := f__law_turns) rfl rfl (by decide) rfl rfl ?_
  show wp (ex P _ f__law_turns.body) [.own true false p.d] _ _
  unfold f__law_turns
  dsimp only
  walk_at "s"
  refine draw_call hp (by decide) (by decide) fun p2 a hp2 a0 a1 => ?_
  walk_at "s"
  refine draw_call hp2 (by decide) (by decide) fun p3 b hp3 b0 b1 => ?_
  walk_at "s"
  refine ⟨pow_ok, ?_⟩
  refine draw_callB hp3 (by rw [e30]; decide) l30 fun p4 c hp4 c0 c1 => ?_
  rw [e30] at c1
  walk_at "s"
  refine ⟨le_lim (by simp), ?_⟩
  refine draw_call hp4 (by decide) (by decide) fun p5 r hp5 r0 r1 => ?_
  walk_at "s"
  rcases (by omega : r = 0 ∨ r = 1 ∨ r = 2) with rfl | rfl | rfl
  · walk_at "s"
    exact h p5 _ hp5 (by omega) (by omega)
  · walk_at "s"
    exact h p5 _ hp5 (by omega) (by omega)
  · walk_at "s"
    exact h p5 _ hp5 (by omega) (by omega)
theorem turns_call {io : Bool} (hp : p.ok) (h : ∀ (p' : Pl) (t : Int), p'.ok → 1 ≤ t → t ≤ 1000000000000000000000000000000 → Q (.val (.int t)) (.own io false p'.d :: σ)) : wp (callF P (callN P (k + 4)) 241 [.bor 0]) (.own io false p.d :: σ) Q X := by
  refine wp_callF (F := f__law_turns) rfl rfl nd1 rfl (turns_wpc hp fun p' t hp' h1 h2 => ⟨trivial, ?_⟩)
  rw [back1 (io := io) (lk := false) (d := p.d) rfl rfl]
  exact h p' t hp' h1 h2
theorem csRep {t : Int} {ms : List Mv} (ht : 1 ≤ t ∧ t < BIG) (hm : MvsOk ms) : CsOk [.rep t ms] := ⟨fun c hc => by rw [List.mem_singleton.mp hc]; exact ⟨ht, hm⟩, by simp⟩
theorem times_wpc {t : Int} {ms : List Mv} (ht : 1 ≤ t ∧ t < BIG) (hm : MvsOk ms) (h : Q (.val (pg [.rep t ms])) [.val (.int t), .val (mvsD ms)]) : wpc (callN P (k + 10) 242 [.val (.int t), .val (mvsD ms)]) Q X := by
  refine wpc_fn (F := f__law_times) rfl rfl (by decide) rfl rfl ?_
  show wp (ex P _ f__law_times.body) [.val (.int t), .val (mvsD ms)] _ _
  unfold f__law_times
  dsimp only
  walk_at "s"
  refine ⟨le_lim (by simp), ?_⟩
  refine Eq.mpr (pmk_eq (cs := [.rep t ms]) (csRep ht hm) rfl) ?_
  exact ⟨trivial, h⟩
theorem times_eq {t : Int} {ms : List Mv} (ht : 1 ≤ t ∧ t < BIG) (hm : MvsOk ms) : wp (callF P (callN P (k + 10)) 242 [.val (.int t), .val (mvsD ms)]) σ Q X = Q (.val (pg [.rep t ms])) σ :=
  e_callF (F := f__law_times) rfl rfl nd0 rfl (wpc_ok (times_wpc ht hm ⟨rfl, rfl⟩)) trivial (back0 rfl)
end
end LW

set_option Elab.async false
set_option linter.all false
set_option maxRecDepth 100000
set_option maxHeartbeats 1000000
namespace LW
open PySem L2 EV
section
variable {k j : Nat} {σ : List Sl} {Q : R → List Sl → Prop} {X : Ex → List Sl → Prop} {p f : List Str} {cs : List Cm} {O : Oc} {rs : List R} {es : E} {r : R}
/-- program(history) -/
theorem calK_pg : calK P O r es Q X (pg cs) σ = wp (evA P O es) σ (fun rs σ2 => wp (der r) σ2 (fun d σ3 => wp (callD P O r rs (pg cs) d) σ3 Q X) X) X := rfl
theorem pg_call (hc : CsOk cs) (ho : HOk p f) (hl : p.length + f.length + dos cs ≤ 999) : wp (callD P ⟨callN P j, callN P (k + 8)⟩ (.val (pg cs)) [.val (hs p f)] (pg cs) (pg cs)) σ Q X = Q (.val (hs (runP (p, f) cs).1 (runP (p, f) cs).2)) σ := by
  show wp (specM P ⟨callN P j, callN P (k + 8)⟩ nCall 1021 [.val (pg cs), .val (hs p f)]) σ Q X = _
  rw [e_specM (f := 61) rfl]
  exact pcall_eq hc ho hl
theorem hok_runP : ∀ {cs : List Cm} {p f : List Str}, (∀ c ∈ cs, c.ok) → HOk p f → p.length + f.length + dos cs ≤ 999 → HOk (runP (p, f) cs).1 (runP (p, f) cs).2
  | [], p, f, _, ho, _ => ho
  | c :: cs, p, f, hc, ho, hl => by
    have h1 := hc c List.mem_cons_self
    rw [dos_cons] at hl
    have h2 := runC_len (p := p) (f := f) h1
    exact hok_runP (p := (runC (p, f) c).1) (f := (runC (p, f) c).2) (fun c' hc' => hc c' (List.mem_cons_of_mem _ hc')) (hok_runC ho h1 (by omega)) (by omega)
/-- two programs that lead every history of a line to the same -/
def Pair (p f : List Str) (cs ds : List Cm) : Prop := CsOk cs ∧ CsOk ds ∧ dos cs = 0 ∧ dos ds = 0 ∧ runP (p, f) cs = runP (p, f) ds
def prD (q : List Cm × List Cm) : D := .tup [pg q.1, pg q.2]
end
local macro_rules | `(tactic| walk_at "s") => `(tactic| simp (config := { dsimp := false }) only [↓e_ret, ↓e_bnd, ↓e_some, ↓e_none, ↓e_T, ↓e_F, ↓e_Tt, ↓e_Ff, ↓e_ifd, ↓e_ifnd, ↓bK_v, ↓bK_o, ↓bK_s, ↓vK_v, ↓vK_o, ↓vK_s, ↓dK_v, ↓dK_o, ↓dK_s, ↓sK_v, ↓sK_u, ↓sK_o, ↓sK_s, ↓sK_fr, ↓oK_o, ↓oK_s, ↓rK_v, ↓rK_o, ↓rK_s, ↓e_c, ↓e_b, ↓e_v, ↓e_g, ↓e_dv, ↓e_dt, ↓e_db, ↓e_zv, ↓e_zt, ↓e_zb, ↓e_bin, ↓e_neg, ↓e_cmp, ↓e_cmp2, ↓e_not, ↓e_and, ↓e_or, ↓e_ife, ↓e_tup, ↓e_lst, ↓e_bi, ↓e_dsn, ↓e_dsc, ↓e_call, ↓e_mk, ↓e_methK, ↓e_meth, ↓e_smeth, ↓e_attrF, ↓e_attrC, ↓e_attrP, ↓e_attr, ↓e_ix, ↓e_sl, ↓e_pn, ↓e_pt, ↓e_dn, ↓e_da, ↓e_dst, ↓e_an, ↓e_aa, ↓e_rng, ↓e_enm, ↓e_sq, ↓e_tn, ↓e_ta, ↓e_to, ↓e_ti, ↓e_tc, ↓e_tc2, ↓e_tr, ↓e_nil, ↓e_seq, ↓e_sqn, ↓e_sqr, ↓e_sqb, ↓e_sqc, ↓e_fnv, ↓e_fnt, ↓e_fnn, ↓e_tkn, ↓e_tkc, ↓e_tkb, ↓e_tkr, ↓e_lks, ↓e_lkn, ↓e_int, ↓e_str, ↓e_pair, ↓e_bl, ↓e_wks, ↓e_wkn, ↓e_put, ↓e_set1, ↓e_pv, ↓e_ptm, ↓e_sett, ↓e_asN, ↓e_asT, ↓e_asn, ↓e_asc, ↓e_par, ↓e_prn, ↓e_prc, ↓iK_o, ↓iK_s, ↓e_isOwn, ↓e_setix, ↓e_ls, ↓e_setF, ↓e_set30, ↓e_set31, ↓e_set32, ↓e_setat, ↓e_setA, ↓e_expr, ↓e_retE, ↓e_retv, ↓e_iteS, ↓e_brk, ↓e_cont, ↓e_unp, ↓e_aug, ↓e_forQ, ↓e_for, ↓e_whl, ↓e_mul, ↓e_add, ↓e_sub, ↓e_addF, ↓e_subF, ↓e_mod, ↓e_fdiv, ↓e_pow, ↓e_divmod, ↓e_addS, ↓e_addT, ↓e_addL, ↓e_mulT, ↓e_len_t, ↓e_len_l, ↓e_len_s, ↓e_max, ↓e_min, ↓e_abs, ↓e_tupl, ↓e_tupt, ↓e_lstl, ↓e_lstt, ↓e_inti, ↓e_intb, ↓e_all, ↓e_any, ↓e_isi, ↓e_ixt, ↓e_ixl, ↓e_slt, ↓e_sll, ↓e_sls, ↓e_lt, ↓e_le, ↓e_gt, ↓e_ge, ↓e_eqi, ↓e_nei, ↓e_is, ↓e_isnt, ↓e_in, ↓lenK_i, ↓txtK_i, ↓boolK_i, ↓e_lenI, ↓e_strI, ↓e_reprI, ↓e_reprl, ↓e_reprt, ↓e_strs, ↓e_stri, ↓e_suml, ↓e_addI, ↓e_inI, ↓e_inl, ↓e_intp, ↓e_ninl, ↓e_nintp, ↓calK_i, ↓calK_g, ↓e_calI, ↓e_calG, ↓e_callv, ↓e_star, ↓fstK_i, ↓e_fst, ↓e_fstn, ↓e_fsta, ↓e_fmt, ↓e_fmts, ↓e_fmti, ↓e_fmtI, ↓e_appF, ↓liK_o, ↓liK_s, ↓e_isLst, ↓e_app, ↓extK_i, ↓e_ext, ↓e_lc, ↓e_eqS, ↓e_eqT, ↓e_eqL, ↓e_eqB, ↓e_neS, ↓e_neT, ↓e_neL, ↓e_neB, con_1021, isi_p, con_1020, isi_h, ↓at_p_cs, ↓tn_len, ↓tn_add, ↓hs_past, ↓hs_future, ↓calK_pg, at_0, at_1, at_2, at_3, at_4, at_5, lk_v, lk_t, lock_n, unlock_n, items_l, items_t, items_s, itemsQ_l, itemsQ_t, tr_b, is_n, is_i, is_s, is_t, is_l, cmp_le, cmp_lt, isi_it, isi_ib, isi_is, isi_ss, isi_si, isi_tt, eqD_bl, io_o, io_v, io_n, true_and, Int.reduceLT, Int.reduceLE, Bool.not_true, Bool.not_false, Int.reduceEq, true_implies, false_implies, not_true_eq_false, not_false_eq_true, and_true, implies_true, len_0, len_1, len_2, len_3, len_4, len_5])
section
variable {k j : Nat} {σ : List Sl} {Q : R → List Sl → Prop} {X : Ex → List Sl → Prop} {p f : List Str} {ms : List Mv} {a b : Int}
/-- one of the law's pairs -/
theorem pair_ev {s1 s2 s3 s4 s5 s6 : Sl} {cs ds : List Cm} (ho : HOk p f) (hl : p.length + f.length ≤ 999) (h : Pair p f cs ds) (hq : Q (.val (.bl true)) [.val (hs p f), s1, s2, s3, s4, s5, s6, .val (pg cs), .val (pg ds)]) :
    wp (ev P ⟨callN P (k + 11), callN P (k + 10)⟩ (.and (.cmp .Eq (.callv (.b 7) (.arg (.b 0) .nil)) (.callv (.b 8) (.arg (.b 0) .nil))) (.cmp .Eq (.bi .str (.arg (.callv (.b 7) (.arg (.b 0) .nil)) .nil)) (.bi .str (.arg (.callv (.b 8) (.arg (.b 0) .nil)) .nil))))) [.val (hs p f), s1, s2, s3, s4, s5, s6, .val (pg cs), .val (pg ds)] Q X := by
  obtain ⟨hc, hd, d1, d2, e⟩ := h
  have g1 := hok_runP hc.ok ho (by omega)
  have g2 := hok_runP hd.ok ho (by omega)
  walk_at "s"
  rw [pg_call hc ho (by omega)]
  walk_at "s"
  rw [pg_call hd ho (by omega)]
  walk_at "s"
  rw [hs_eq g1 g2, e]
  walk_at "s"
  rw [pg_call hc ho (by omega)]
  walk_at "s"
  rw [hs_str g1]
  walk_at "s"
  rw [pg_call hd ho (by omega)]
  walk_at "s"
  rw [hs_str g2]
  walk_at "s"
  rw [e]
  refine wp_ofO (eqS' (strH_ok g2) (strH_ok g2) (decide_eq_true rfl)) ?_
  exact hq
theorem dos_mv : ∀ (ms : List Mv), dos (ms.map Cm.mv) = 0
  | [] => rfl
  | m :: ms => dos_mv ms
theorem dos_app : ∀ (cs ds : List Cm), dos (cs ++ ds) = dos cs + dos ds
  | [], ds => by simp [dos]
  | c :: cs, ds => by
    rw [List.cons_append, dos_cons, dos_app cs ds, dos_cons (cs := cs)]
    omega
theorem csMv {ms : List Mv} (hm : MvsOk ms) : CsOk (ms.map Cm.mv) := ⟨fun c hc => by obtain ⟨m, h, rfl⟩ := List.mem_map.mp hc; exact hm.ok m h, by rw [List.length_map]; exact hm.len⟩
/-- the six pairs of the law -/
def prs (ms : List Mv) (a b : Int) : List (List Cm × List Cm) :=
  [([.rep a ms] ++ [.rep b ms], [.rep (a + b) ms]), ([.rep b ms] ++ [.rep a ms], [.rep (a + b) ms]), ([.rep a (ms ++ ms)], [.rep (2 * a) ms]), ([.rep 1 ms], ms.map Cm.mv), ([.rep 2 ms], ms.map Cm.mv ++ ms.map Cm.mv), (ms.map Cm.mv ++ [.rep b ms], [.rep (b + 1) ms])]
theorem small_big {t : Int} (h1 : 1 ≤ t) (h2 : t ≤ 4000000000000000000000000000000) : 1 ≤ t ∧ t < BIG := ⟨h1, Int.lt_of_le_of_lt h2 (by decide +kernel)⟩
theorem prs_ok (hm : MvsOk ms) (hm5 : ms.length ≤ 5) (ha : 1 ≤ a ∧ a ≤ 1000000000000000000000000000000) (hb : 1 ≤ b ∧ b ≤ 1000000000000000000000000000000) : ∀ q ∈ prs ms a b, Pair p f q.1 q.2 := by
  have hx0 : (0 : Int) ≤ p.length := by omega
  have hx1 : (p.length : Int) ≤ (p ++ f).length := by rw [List.length_append]; omega
  have A : 1 ≤ a ∧ a < BIG := small_big ha.1 (by omega)
  have B : 1 ≤ b ∧ b < BIG := small_big hb.1 (by omega)
  have AB : 1 ≤ a + b ∧ a + b < BIG := small_big (by omega) (by omega)
  have A2 : 1 ≤ 2 * a ∧ 2 * a < BIG := small_big (by omega) (by omega)
  have B1 : 1 ≤ b + 1 ∧ b + 1 < BIG := small_big (by omega) (by omega)
  have one : (1 : Int) ≤ 1 ∧ (1 : Int) < BIG := small_big (by decide) (by decide)
  have two : (1 : Int) ≤ 2 ∧ (2 : Int) < BIG := small_big (by decide) (by decide)
  have hmm : MvsOk (ms ++ ms) := ⟨fun m h => (List.mem_append.mp h).elim (hm.ok m) (hm.ok m), fun e => hm.ne (List.append_eq_nil_iff.mp e).1, by rw [List.length_append]; omega⟩
  have cm := csMv hm
  have l5 : (ms.map Cm.mv).length ≤ 5 := by rw [List.length_map]; exact hm5
  have z0 : (0 : Int) ≤ (p ++ f).length := by omega
  have c := cl_pm z0 ms hm.ok
  have rp : ∀ {t : Int} {x : Int}, 1 ≤ t → 0 ≤ x → x ≤ (p ++ f).length → runP (stL (p ++ f) x) [.rep t ms] = stL (p ++ f) (itN (pmV (p ++ f).length ms) t.toNat x) := fun ht h0 h1 => runP_rep hm.ok h0 h1 ht
  have mvp : ∀ {x : Int}, 0 ≤ x → x ≤ (p ++ f).length → runP (stL (p ++ f) x) (ms.map Cm.mv) = stL (p ++ f) (pmV (p ++ f).length ms x) := fun h0 h1 => mvs_place ms hm.ok h0 h1
  have inn : ∀ (n : Nat) {x : Int}, 0 ≤ x → x ≤ (p ++ f).length → 0 ≤ itN (pmV (p ++ f).length ms) n x ∧ itN (pmV (p ++ f).length ms) n x ≤ (p ++ f).length := fun n {x} h0 h1 => itN_in c n h0 h1
  have e0 := (stL_self p f).symm
  intro q hq
  simp only [prs, List.mem_cons, List.not_mem_nil, or_false] at hq
  rcases hq with rfl | rfl | rfl | rfl | rfl | rfl
  · refine ⟨(csRep A hm).app (csRep B hm) (by simp), csRep AB hm, rfl, rfl, ?_⟩
    rw [e0]
    show runP _ ([.rep a ms] ++ [.rep b ms]) = runP _ [.rep (a + b) ms]
    rw [runP_app, rp A.1 hx0 hx1, rp B.1 (inn _ hx0 hx1).1 (inn _ hx0 hx1).2, rp AB.1 hx0 hx1, ← itN_add]
    congr 2
    omega
  · refine ⟨(csRep B hm).app (csRep A hm) (by simp), csRep AB hm, rfl, rfl, ?_⟩
    rw [e0]
    show runP _ ([.rep b ms] ++ [.rep a ms]) = runP _ [.rep (a + b) ms]
    rw [runP_app, rp B.1 hx0 hx1, rp A.1 (inn _ hx0 hx1).1 (inn _ hx0 hx1).2, rp AB.1 hx0 hx1, ← itN_add]
    congr 2
    omega
  · refine ⟨csRep A hmm, csRep A2 hm, rfl, rfl, ?_⟩
    rw [e0]
    show runP _ [.rep a (ms ++ ms)] = runP _ [.rep (2 * a) ms]
    rw [runP_rep hmm.ok hx0 hx1 A.1, rp A2.1 hx0 hx1, itN_congr (h := fun y => pmV (p ++ f).length ms (pmV (p ++ f).length ms y)) (fun x => pmV_app _ ms ms x), itN_two]
    congr 2
    omega
  · refine ⟨csRep one hm, cm, rfl, dos_mv ms, ?_⟩
    rw [e0]
    show runP _ [.rep 1 ms] = runP _ (ms.map Cm.mv)
    rw [rp one.1 hx0 hx1, mvp hx0 hx1]
    rfl
  · refine ⟨csRep two hm, cm.app cm (by omega), rfl, by show dos (_ ++ _) = 0; rw [dos_app, dos_mv], ?_⟩
    rw [e0]
    show runP _ [.rep 2 ms] = runP _ (ms.map Cm.mv ++ ms.map Cm.mv)
    have i1 : 0 ≤ pmV (p ++ f).length ms p.length ∧ pmV (p ++ f).length ms p.length ≤ (p ++ f).length := inn 1 hx0 hx1
    rw [rp two.1 hx0 hx1, runP_app, mvp hx0 hx1, mvp i1.1 i1.2]
    rfl
  · refine ⟨cm.app (csRep B hm) (by simp; omega), csRep B1 hm, by show dos (_ ++ _) = 0; rw [dos_app, dos_mv]; rfl, rfl, ?_⟩
    rw [e0]
    show runP _ (ms.map Cm.mv ++ [.rep b ms]) = runP _ [.rep (b + 1) ms]
    have i1 : 0 ≤ pmV (p ++ f).length ms p.length ∧ pmV (p ++ f).length ms p.length ≤ (p ++ f).length := inn 1 hx0 hx1
    rw [runP_app, mvp hx0 hx1, rp B.1 i1.1 i1.2, rp B1.1 hx0 hx1]
    have e1 : (b + 1).toNat = 1 + b.toNat := by omega
    rw [e1, itN_add]
    rfl
theorem mvs_app {ms : List Mv} {O : Oc} {r q : R} : wp (binM P O .Add r q (mvsD ms) (mvsD ms)) σ Q X = (ms.length + ms.length ≤ lim ∧ Q (.val (mvsD (ms ++ ms))) σ) := by
  show wp (binM P O .Add r q (.tup (ms.map Mv.d)) (.tup (ms.map Mv.d))) σ Q X = _
  rw [e_addT, List.length_map]
  unfold mvsD
  rw [List.map_append]
theorem items_mvs {ms : List Mv} : itemsF (mvsD ms) = some (ms.map Mv.d) := rfl
theorem e_lcF {O : Oc} {e q : E} {t : Tg} {ws : List Nat} {d : D} {K : Option D → List Sl → Prop} : wp (lcF P O e t ws q d) σ K X = wp (bnd (asg t d) fun _ => bnd (evT P O q) fun k => if k then bnd (ev P O e) fun r => bnd (frz r) fun x => ret (some x) else ret none) (wipeL ws σ) K X := rfl
def pairE : E := .and (.cmp .Eq (.callv (.b 7) (.arg (.b 0) .nil)) (.callv (.b 8) (.arg (.b 0) .nil))) (.cmp .Eq (.bi .str (.arg (.callv (.b 7) (.arg (.b 0) .nil)) .nil)) (.bi .str (.arg (.callv (.b 8) (.arg (.b 0) .nil)) .nil)))
/-- the law's comprehension over its pairs -/
theorem pairs_lc {s1 s2 s3 s4 s5 s6 : Sl} {qs : List (List Cm × List Cm)} {Q : List D → List Sl → Prop} (ho : HOk p f) (hl : p.length + f.length ≤ 999) (hp : ∀ q ∈ qs, Pair p f q.1 q.2) (hn : qs.length ≤ 999)
    (h : ∀ acc s7 s8, (∀ v ∈ acc, v = D.bl true) → acc.length ≤ 999 → Q acc [.val (hs p f), s1, s2, s3, s4, s5, s6, s7, s8]) :
    wp (lcL (lcF P ⟨callN P (k + 11), callN P (k + 10)⟩ pairE (.tup (.cons (.name 7) (.cons (.name 8) .nil))) [7, 8] (.tr (.c (.bl true)))) (qs.map prD) []) [.val (hs p f), s1, s2, s3, s4, s5, s6, .un, .un] Q X := by
  refine wp_lcL (fun rest acc σ' => ∃ (ys : List (List Cm × List Cm)) (s7 s8 : Sl), rest = ys.map prD ∧ (∀ q ∈ ys, Pair p f q.1 q.2) ∧ acc.length + ys.length ≤ 999 ∧ (∀ v ∈ acc, v = D.bl true) ∧ σ' = [.val (hs p f), s1, s2, s3, s4, s5, s6, s7, s8]) ?_ ?_ _ _ _ ⟨qs, .un, .un, rfl, hp, by simpa using hn, (fun v hv => by cases hv), rfl⟩
  · rintro d ds acc σ' ⟨ys, s7, s8, e1, hp, hn, ha, rfl⟩
    cases ys with
    | nil => cases e1
    | cons y ys =>
      simp only [List.map_cons, List.cons.injEq] at e1
      obtain ⟨rfl, rfl⟩ := e1
      rw [e_lcF]
      show wp _ [.val (hs p f), s1, s2, s3, s4, s5, s6, .un, .un] _ _
      unfold prD
      walk_at "s"
      refine pair_ev ho hl (hp y List.mem_cons_self) ?_
      walk_at "s"
      refine ⟨by simp only [List.length_cons] at hn; exact Nat.lt_of_le_of_lt (m := 999) (by omega) (by decide), ys, _, _, rfl, (fun q hq => hp q (List.mem_cons_of_mem _ hq)), by simp only [List.length_append, List.length_cons, List.length_nil] at hn ⊢; omega, ?_, rfl⟩
      intro v hv
      rcases List.mem_append.mp hv with hv | hv
      · exact ha v hv
      · exact List.mem_singleton.mp hv
  · rintro acc σ' ⟨ys, s7, s8, e1, hp, hn, ha, rfl⟩
    exact h _ _ _ ha (by omega)
theorem one_right_wpc (ho : HOk p f) (hl : p.length + f.length ≤ 999) (hm : MvsOk ms) (hm5 : ms.length ≤ 5) (ha : 1 ≤ a ∧ a ≤ 1000000000000000000000000000000) (hb : 1 ≤ b ∧ b ≤ 1000000000000000000000000000000)
    (h : Q (.val (.bl true)) [.val (hs p f), .val (mvsD ms), .val (.int a), .val (.int b)]) : wpc (callN P (k + 12) 217 [.val (hs p f), .val (mvsD ms), .val (.int a), .val (.int b)]) Q X := by
  refine wpc_fn (F := f__law_one_right) rfl rfl (by decide) rfl rfl ?_
  show wp (ex P _ f__law_one_right.body) [.val (hs p f), .val (mvsD ms), .val (.int a), .val (.int b), .un, .un, .un, .un, .un] _ _
  unfold f__law_one_right
  dsimp only
  walk_at "s"
  refine Eq.mpr (pmk_eq (cs := []) ⟨(fun c hc => by cases hc), by simp⟩ rfl) ?_
  walk_at "s"
  rw [items_mvs]
  walk_at "s"
  refine wp_forL (fun rest σ => ∃ (ds ys : List Mv) (o5 : Option D), rest = ys.map Mv.d ∧ ds ++ ys = ms ∧ σ = [.val (hs p f), .val (mvsD ms), .val (.int a), .val (.int b), .val (pg (ds.map Cm.mv)), fr o5, .un, .un, .un]) ?_ ?_ _ _ ⟨[], ms, none, rfl, rfl, rfl⟩
  · rintro d ds' σ ⟨ds, ys, o5, e1, e2, rfl⟩
    cases ys with
    | nil => cases e1
    | cons y ys =>
      simp only [List.map_cons, List.cons.injEq] at e1
      obtain ⟨rfl, rfl⟩ := e1
      have hy : y.ok := hm.ok y (by rw [← e2]; simp)
      have hds : ∀ m ∈ ds, m.ok := fun m hm' => hm.ok m (by rw [← e2]; exact List.mem_append_left _ hm')
      have l1 : ds.length ≤ 5 := by rw [← e2] at hm5; simp at hm5; omega
      have c1 : CsOk (ds.map Cm.mv) := ⟨fun c hc => by obtain ⟨m, h, rfl⟩ := List.mem_map.mp hc; exact hds m h, by rw [List.length_map]; omega⟩
      have c2 : CsOk [.mv y] := ⟨fun c hc => by rw [List.mem_singleton.mp hc]; exact hy, by simp⟩
      walk_at "s"
      refine Eq.mpr (pmk_eq (cs := [.mv y]) c2 rfl) ?_
      walk_at "s"
      rw [pg_add c1 c2 (by rw [List.length_map]; simp; omega)]
      walk_at "s"
      exact ⟨ds ++ [y], ys, some _, rfl, by rw [← e2]; simp, by rw [List.map_append]; rfl⟩
  · rintro σ ⟨ds, ys, o5, e1, e2, rfl⟩
    have e0 : ys = [] := by simpa using e1.symm
    subst e0
    rw [List.append_nil] at e2
    subst e2
    show forQ _ none _ _
    have A : 1 ≤ a ∧ a < BIG := small_big ha.1 (by omega)
    have B : 1 ≤ b ∧ b < BIG := small_big hb.1 (by omega)
    have AB : 1 ≤ a + b ∧ a + b < BIG := small_big (by omega) (by omega)
    have A2 : 1 ≤ 2 * a ∧ 2 * a < BIG := small_big (by omega) (by omega)
    have B1 : 1 ≤ b + 1 ∧ b + 1 < BIG := small_big (by omega) (by omega)
    have one : (1 : Int) ≤ 1 ∧ (1 : Int) < BIG := small_big (by decide) (by decide)
    have two : (1 : Int) ≤ 2 ∧ (2 : Int) < BIG := small_big (by decide) (by decide)
    have hmm : MvsOk (ds ++ ds) := ⟨fun m h => (List.mem_append.mp h).elim (hm.ok m) (hm.ok m), fun e => hm.ne (List.append_eq_nil_iff.mp e).1, by rw [List.length_append]; omega⟩
    have cm := csMv hm
    have l5 : (ds.map Cm.mv).length ≤ 5 := by rw [List.length_map]; exact hm5
    walk_at "s"
    rw [times_eq A hm]
    walk_at "s"
    rw [times_eq B hm]
    walk_at "s"
    rw [pg_add (csRep A hm) (csRep B hm) (by simp)]
    walk_at "s"
    rw [times_eq AB hm]
    walk_at "s"
    refine ⟨le_lim (by simp), le_lim (by simp), ?_⟩
    rw [times_eq B hm]
    walk_at "s"
    rw [times_eq A hm]
    walk_at "s"
    rw [pg_add (csRep B hm) (csRep A hm) (by simp)]
    walk_at "s"
    rw [times_eq AB hm]
    walk_at "s"
    refine ⟨le_lim (by simp), le_lim (by simp), ?_⟩
    rw [mvs_app]
    refine ⟨le_lim (by omega), ?_⟩
    walk_at "s"
    rw [times_eq A hmm]
    walk_at "s"
    refine ⟨.inl ⟨by decide, by decide⟩, ?_⟩
    rw [times_eq A2 hm]
    walk_at "s"
    refine ⟨le_lim (by simp), le_lim (by simp), ?_⟩
    rw [times_eq one hm]
    walk_at "s"
    refine ⟨le_lim (by simp), le_lim (by simp), ?_⟩
    rw [times_eq two hm]
    walk_at "s"
    rw [pg_add cm cm (by omega)]
    walk_at "s"
    refine ⟨le_lim (by simp), le_lim (by simp), ?_⟩
    rw [times_eq B hm]
    walk_at "s"
    rw [pg_add cm (csRep B hm) (by simp; omega)]
    walk_at "s"
    rw [times_eq B1 hm]
    walk_at "s"
    refine ⟨le_lim (by simp), le_lim (by simp), rfl, ?_⟩
    refine pairs_lc (qs := prs ds a b) (s6 := .own false true _) ho hl (prs_ok hm hm5 ha hb) (by simp [prs]) fun acc s7 s8 hacc hla => ?_
    unfold lcQ
    rw [List.eq_replicate_iff.mpr ⟨rfl, hacc⟩]
    walk_at "s"
    rw [bls_true]
    walk_at "s"
    rw [all_true]
    exact h
end
end LW

set_option Elab.async false
set_option linter.all false
set_option maxRecDepth 100000
set_option maxHeartbeats 1000000
namespace LW
open PySem L2 EV
theorem Cl.orb {z s lo hi : Int} {g : Int → Int} (c : Cl z s lo hi g) {x : Int} (h0 : 0 ≤ x) (h1 : x ≤ z) : (∀ n, itN g n x ≤ itN g (n + 1) x) ∨ (∀ n, itN g (n + 1) x ≤ itN g n x) := by
  have st : ∀ n, 0 ≤ itN g n x ∧ itN g n x ≤ z := fun n => itN_in c n h0 h1
  have l1 := c.le
  have l2 := c.l0
  have l3 := c.hz
  rcases Int.le_total x (g x) with h | h
  · refine .inl fun n => ?_
    induction n with
    | zero => exact h
    | succ n ih =>
      rw [itN_succ g (n + 1), itN_succ g n] at *
      have a := st n
      have b := c.at_ _ a.1 a.2
      have d := c.at_ (g (itN g n x)) (by omega) (by omega)
      omega
  · refine .inr fun n => ?_
    induction n with
    | zero => exact h
    | succ n ih =>
      rw [itN_succ g (n + 1), itN_succ g n] at *
      have a := st n
      have b := c.at_ _ a.1 a.2
      have d := c.at_ (g (itN g n x)) (by omega) (by omega)
      omega
theorem up_le {u : Nat → Int} (h : ∀ n, u n ≤ u (n + 1)) : ∀ (d t : Nat), u t ≤ u (t + d)
  | 0, t => Int.le_refl _
  | d + 1, t => Int.le_trans (up_le h d t) (h _)
theorem dn_le {u : Nat → Int} (h : ∀ n, u (n + 1) ≤ u n) : ∀ (d t : Nat), u (t + d) ≤ u t
  | 0, t => Int.le_refl _
  | d + 1, t => Int.le_trans (h _) (dn_le h d t)
/-- what was seen before is the place seen last -/
theorem Cl.fix {z s lo hi : Int} {g : Int → Int} (c : Cl z s lo hi g) {x : Int} (h0 : 0 ≤ x) (h1 : x ≤ z) {m t : Nat} (ht : t ≤ m) (e : itN g (m + 1) x = itN g t x) : itN g m x = itN g (m + 1) x := by
  obtain ⟨d, rfl⟩ : ∃ d, m = t + d := ⟨m - t, by omega⟩
  rcases c.orb h0 h1 with h | h
  · have a : itN g t x ≤ itN g (t + d) x := up_le (u := fun n => itN g n x) h d t
    have b := h (t + d)
    omega
  · have a : itN g (t + d) x ≤ itN g t x := dn_le (u := fun n => itN g n x) h d t
    have b := h (t + d)
    omega
theorem Cl.soon {z s lo hi : Int} {g : Int → Int} (c : Cl z s lo hi g) {x : Int} (h0 : 0 ≤ x) (h1 : x ≤ z) (hz : z ≤ 40) (h : ∀ t, t + 1 < 60 → itN g (t + 1) x ≠ itN g t x) : False := by
  have st : ∀ n, 0 ≤ itN g n x ∧ itN g n x ≤ z := fun n => itN_in c n h0 h1
  rcases c.orb h0 h1 with o | o
  · have : ∀ n : Nat, n < 60 → (n : Int) ≤ itN g n x := by
      intro n
      induction n with
      | zero => intro _; exact h0
      | succ n ih => intro hn; have a := ih (by omega); have b := o n; have d := h n (by omega); omega
    have a := this 50 (by omega)
    have b := st 50
    omega
  · have : ∀ n : Nat, n < 60 → (n : Int) + itN g n x ≤ z := by
      intro n
      induction n with
      | zero => intro _; show ((0 : Nat) : Int) + x ≤ z; omega
      | succ n ih => intro hn; have a := ih (by omega); have b := o n; have d := h n (by omega); omega
    have a := this 50 (by omega)
    have b := st 50
    omega
theorem itN_fix {g : Int → Int} {x : Int} (h : g x = x) : ∀ n, itN g n x = x
  | 0 => rfl
  | n + 1 => by show itN g n (g x) = x; rw [h]; exact itN_fix h n
theorem ints_p (xs : List Int) : toPs (xs.map D.int) = some (xs.map PyData.int) ∧ PyData.canLayAll0 (xs.map PyData.int) = true ∧ PyData.depthAll (xs.map PyData.int) = 0 := by
  induction xs with
  | nil => exact ⟨rfl, rfl, rfl⟩
  | cons x xs ih =>
    obtain ⟨h1, h2, h3⟩ := ih
    refine ⟨by simp only [List.map_cons, toPs, toP, h1], ?_, ?_⟩
    · have hx : PyData.canLay0 (.int x) = true := rfl
      simp only [List.map_cons, PyData.canLayAll0, hx, h2, Bool.and_self]
    · simp only [List.map_cons, PyData.depthAll, h3, PyData.depth, Nat.max_self]
theorem any_ints (v : Int) : ∀ xs : List Int, ((xs.map PyData.int).any fun z => PyData.eqv z (.int v)) = decide (v ∈ xs)
  | [] => rfl
  | x :: xs => by
    have e : decide (v ∈ x :: xs) = (decide (x = v) || decide (v ∈ xs)) := by
      rw [Bool.eq_iff_iff, Bool.or_eq_true, decide_eq_true_iff, decide_eq_true_iff, decide_eq_true_iff, List.mem_cons]
      exact ⟨fun h => h.elim (fun h => .inl h.symm) .inr, fun h => h.elim (fun h => .inl h.symm) .inr⟩
    rw [e, List.map_cons, List.any_cons, any_ints v xs]
    rfl
theorem hok_st {p f : List Str} (ho : HOk p f) (x : Int) : HOk (stL (p ++ f) x).1 (stL (p ++ f) x).2 := by
  have e : ∀ s ∈ p ++ f, Nm s := fun s hs => (List.mem_append.mp hs).elim (ho.hp.nm s) (ho.hf.nm s)
  have l : (stL (p ++ f) x).1.length + (stL (p ++ f) x).2.length = p.length + f.length := by rw [← List.length_append, stL_app, List.length_append]
  exact ⟨⟨fun s hs => e s (List.mem_of_mem_take hs)⟩, ⟨fun s hs => e s (List.mem_of_mem_drop hs)⟩, by have := ho.l; omega⟩
theorem in_ints {v : Int} {xs : List Int} : inF (.int v) (xs.map D.int) = some (decide (v ∈ xs)) := by
  obtain ⟨h1, h2, h3⟩ := ints_p xs
  unfold inF
  rw [h1]
  show (if SeqAt.shaped (.int v) && SeqAt.shaped (.list (xs.map PyData.int)) then _ else _) = _
  have s1 : SeqAt.shaped (.list (xs.map PyData.int)) = true := by
    unfold SeqAt.shaped
    have c : PyData.canLay0 (.list (xs.map PyData.int)) = true := h2
    have d : PyData.depth (.list (xs.map PyData.int)) ≤ 64 := by simp only [PyData.depth]; omega
    rw [c, decide_eq_true d]; rfl
  rw [s1, if_pos (by rfl), any_ints]
theorem at_m1 {α : Type} {l : List α} {v : α} : atI (l ++ [v]) (-1) = some v := by
  have e : atI (l ++ [v]) (-1) = (l ++ [v])[l.length]? := by
    unfold atI
    have : ixN (l ++ [v]).length (-1) = some l.length := by
      unfold ixN
      rw [List.length_append]
      simp
      try omega
    rw [this]
    rfl
  rw [e]
  simp
local macro_rules | `(tactic| walk_at "s") => `(tactic| simp (config := { dsimp := false }) only [↓e_ret, ↓e_bnd, ↓e_some, ↓e_none, ↓e_T, ↓e_F, ↓e_Tt, ↓e_Ff, ↓e_ifd, ↓e_ifnd, ↓bK_v, ↓bK_o, ↓bK_s, ↓vK_v, ↓vK_o, ↓vK_s, ↓dK_v, ↓dK_o, ↓dK_s, ↓sK_v, ↓sK_u, ↓sK_o, ↓sK_s, ↓sK_fr, ↓oK_o, ↓oK_s, ↓rK_v, ↓rK_o, ↓rK_s, ↓e_c, ↓e_b, ↓e_v, ↓e_g, ↓e_dv, ↓e_dt, ↓e_db, ↓e_zv, ↓e_zt, ↓e_zb, ↓e_bin, ↓e_neg, ↓e_cmp, ↓e_cmp2, ↓e_not, ↓e_and, ↓e_or, ↓e_ife, ↓e_tup, ↓e_lst, ↓e_bi, ↓e_dsn, ↓e_dsc, ↓e_call, ↓e_mk, ↓e_methK, ↓e_meth, ↓e_smeth, ↓e_attrF, ↓e_attrC, ↓e_attrP, ↓e_attr, ↓e_ix, ↓e_sl, ↓e_pn, ↓e_pt, ↓e_dn, ↓e_da, ↓e_dst, ↓e_an, ↓e_aa, ↓e_rng, ↓e_enm, ↓e_sq, ↓e_tn, ↓e_ta, ↓e_to, ↓e_ti, ↓e_tc, ↓e_tc2, ↓e_tr, ↓e_nil, ↓e_seq, ↓e_sqn, ↓e_sqr, ↓e_sqb, ↓e_sqc, ↓e_fnv, ↓e_fnt, ↓e_fnn, ↓e_tkn, ↓e_tkc, ↓e_tkb, ↓e_tkr, ↓e_lks, ↓e_lkn, ↓e_int, ↓e_str, ↓e_pair, ↓e_bl, ↓e_wks, ↓e_wkn, ↓e_put, ↓e_set1, ↓e_pv, ↓e_ptm, ↓e_sett, ↓e_asN, ↓e_asT, ↓e_asn, ↓e_asc, ↓e_par, ↓e_prn, ↓e_prc, ↓iK_o, ↓iK_s, ↓e_isOwn, ↓e_setix, ↓e_ls, ↓e_setF, ↓e_set30, ↓e_set31, ↓e_set32, ↓e_setat, ↓e_setA, ↓e_expr, ↓e_retE, ↓e_retv, ↓e_iteS, ↓e_brk, ↓e_cont, ↓e_unp, ↓e_aug, ↓e_forQ, ↓e_for, ↓e_whl, ↓e_mul, ↓e_add, ↓e_sub, ↓e_addF, ↓e_subF, ↓e_mod, ↓e_fdiv, ↓e_pow, ↓e_divmod, ↓e_addS, ↓e_addT, ↓e_addL, ↓e_mulT, ↓e_len_t, ↓e_len_l, ↓e_len_s, ↓e_max, ↓e_min, ↓e_abs, ↓e_tupl, ↓e_tupt, ↓e_lstl, ↓e_lstt, ↓e_inti, ↓e_intb, ↓e_all, ↓e_any, ↓e_isi, ↓e_ixt, ↓e_ixl, ↓e_slt, ↓e_sll, ↓e_sls, ↓e_lt, ↓e_le, ↓e_gt, ↓e_ge, ↓e_eqi, ↓e_nei, ↓e_is, ↓e_isnt, ↓e_in, ↓lenK_i, ↓txtK_i, ↓boolK_i, ↓e_lenI, ↓e_strI, ↓e_reprI, ↓e_reprl, ↓e_reprt, ↓e_strs, ↓e_stri, ↓e_suml, ↓e_addI, ↓e_inI, ↓e_inl, ↓e_intp, ↓e_ninl, ↓e_nintp, ↓calK_i, ↓calK_g, ↓e_calI, ↓e_calG, ↓e_callv, ↓e_star, ↓fstK_i, ↓e_fst, ↓e_fstn, ↓e_fsta, ↓e_fmt, ↓e_fmts, ↓e_fmti, ↓e_fmtI, ↓e_appF, ↓liK_o, ↓liK_s, ↓e_isLst, ↓e_app, ↓extK_i, ↓e_ext, ↓e_lc, ↓e_eqS, ↓e_eqT, ↓e_eqL, ↓e_eqB, ↓e_neS, ↓e_neT, ↓e_neL, ↓e_neB, con_1021, isi_p, con_1020, isi_h, ↓at_p_cs, ↓tn_len, ↓tn_add, ↓hs_past, ↓hs_future, ↓calK_pg, at_0, at_1, at_2, at_3, at_4, at_5, lk_v, lk_t, lock_n, unlock_n, items_l, items_t, items_s, itemsQ_l, itemsQ_t, tr_b, is_n, is_i, is_s, is_t, is_l, cmp_le, cmp_lt, isi_it, isi_ib, isi_is, isi_ss, isi_si, isi_tt, eqD_bl, io_o, io_v, io_n, true_and, Int.reduceLT, Int.reduceLE, Bool.not_true, Bool.not_false, Int.reduceEq, true_implies, false_implies, not_true_eq_false, not_false_eq_true, and_true, implies_true, len_0, len_1, len_2, len_3, len_4, len_5])
section
variable {k j : Nat} {σ : List Sl} {Q : R → List Sl → Prop} {X : Ex → List Sl → Prop} {p f : List Str} {ms : List Mv} {a b : Int}
theorem comes_back_wpc (ho : HOk p f) (hl : p.length + f.length ≤ 40) (hm : MvsOk ms) (hm5 : ms.length ≤ 5) (ha : 1 ≤ a ∧ a ≤ 1000000000000000000000000000000)
    (h : Q (.val (.bl true)) [.val (hs p f), .val (mvsD ms), .val (.int a)]) : wpc (callN P (k + 12) 243 [.val (hs p f), .val (mvsD ms), .val (.int a)]) Q X := by
  have one : (1 : Int) ≤ 1 ∧ (1 : Int) < BIG := small_big (by decide) (by decide)
  have z0 : (0 : Int) ≤ (p ++ f).length := by omega
  have hx1 : (p.length : Int) ≤ (p ++ f).length := by rw [List.length_append]; omega
  have hx0 : (0 : Int) ≤ p.length := by omega
  have hlz : ((p ++ f).length : Int) ≤ 40 := by rw [List.length_append]; omega
  have c := cl_pm z0 ms hm.ok
  generalize hg : pmV (p ++ f).length ms = g at c
  have inn : ∀ n, 0 ≤ itN g n p.length ∧ itN g n p.length ≤ (p ++ f).length := fun n => itN_in c n hx0 hx1
  refine wpc_fn (F := f__law_comes_back) rfl rfl (by decide) rfl rfl ?_
  show wp (ex P _ f__law_comes_back.body) [.val (hs p f), .val (mvsD ms), .val (.int a), .un, .un, .un, .un] _ _
  unfold f__law_comes_back
  dsimp only
  walk_at "s"
  rw [times_eq one hm]
  walk_at "s"
  refine ⟨Nat.zero_le _, ?_⟩
  refine wp_ofO (rng_n (by decide) (by decide)) ?_
  refine wp_forL (fun rest σ => ∃ (i : Nat) (o6 : Option D), i + rest.length = 60 ∧ (∀ t, t + 1 < i → itN g (t + 1) p.length ≠ itN g t p.length) ∧ σ = [.val (hs p f), .val (mvsD ms), .val (.int a), .val (pg [.rep 1 ms]), .own false false (.lst (((List.range i).map fun t => itN g t p.length).map D.int)), .val (hs (stL (p ++ f) (itN g i p.length)).1 (stL (p ++ f) (itN g i p.length)).2), fr o6]) ?_ ?_ _ _ ⟨0, none, by simp, (fun t ht => by omega), by rw [show itN g 0 p.length = p.length from rfl, stL_self]; rfl⟩
  · rintro d ds' σ ⟨i, o6, e1, e2, rfl⟩
    walk_at "s"
    have el : ((stL (p ++ f) (itN g i p.length)).1.length : Int) = itN g i p.length := (stL_len (inn i).1 (inn i).2).1
    have hi := hok_st ho (itN g i p.length)
    have hil : (stL (p ++ f) (itN g i p.length)).1.length + (stL (p ++ f) (itN g i p.length)).2.length ≤ 40 := by rw [← List.length_append, stL_app, List.length_append]; exact hl
    have run1 : ∀ n, runP ((stL (p ++ f) (itN g n p.length)).1, (stL (p ++ f) (itN g n p.length)).2) [.rep 1 ms] = stL (p ++ f) (itN g (n + 1) p.length) := fun n => by
      show runP (stL (p ++ f) (itN g n p.length)) [.rep 1 ms] = _
      rw [runP_rep hm.ok (inn n).1 (inn n).2 one.1, hg, itN_succ]
      rfl
    rw [el, in_ints]
    by_cases hin : itN g i p.length ∈ (List.range i).map fun t => itN g t p.length
    · rw [decide_eq_true hin]
      obtain ⟨t, ht, et⟩ := List.mem_map.mp hin
      have ht := List.mem_range.mp ht
      obtain ⟨m, rfl⟩ : ∃ m, i = m + 1 := ⟨i - 1, by omega⟩
      have fx := c.fix hx0 hx1 (m := m) (t := t) (by omega) et.symm
      clear hin
      have er : ((List.range (m + 1)).map fun t => itN g t p.length).map D.int = ((List.range m).map fun t => itN g t p.length).map D.int ++ [D.int (itN g m p.length)] := by
        rw [List.range_succ, List.map_append, List.map_append]; rfl
      have elen : ∀ v, ((((List.range m).map fun t => itN g t p.length).map D.int ++ [v]).length : Int) = (m + 1 : Nat) := fun v => by simp
      simp only [List.length_cons] at e1
      have N : 1 ≤ ((m + 1 : Nat) : Int) + a ∧ ((m + 1 : Nat) : Int) + a < BIG := small_big (by omega) (by omega)
      have gf : g (itN g (m + 1) p.length) = itN g (m + 1) p.length := (congrArg g fx.symm).trans (itN_succ g m _).symm
      have run2 : runP (p, f) [.rep (((m + 1 : Nat) : Int) + a) ms] = stL (p ++ f) (itN g (m + 1) p.length) := by
        rw [← stL_self p f]
        rw [runP_rep hm.ok hx0 hx1 N.1, hg, show (((m + 1 : Nat) : Int) + a).toNat = (m + 1) + a.toNat by omega, itN_add, itN_fix gf]
      rw [er]
      walk_at "s"
      refine wp_ofO at_m1 ?_
      walk_at "s"
      rw [el, fx]
      walk_at "s"
      rw [elen, times_eq N hm]
      walk_at "s"
      rw [pg_call (csRep N hm) ho (by show _ + _ + 0 ≤ 999; omega)]
      walk_at "s"
      rw [run2, hs_eq hi hi, decide_eq_true ⟨rfl, rfl⟩]
      walk_at "s"
      rw [pg_call (csRep one hm) hi (by show _ + _ + 0 ≤ 999; omega), run1, itN_succ g (m + 1), gf]
      walk_at "s"
      rw [hs_eq hi hi, decide_eq_true ⟨rfl, rfl⟩]
      walk_at "s"
      exact h
    · rw [decide_eq_false hin]
      walk_at "s"
      refine ⟨le_lim (by simp only [List.length_map, List.length_range, List.length_cons, List.length_nil] at e1 ⊢; omega), ?_⟩
      rw [pg_call (csRep one hm) hi (by show _ + _ + 0 ≤ 999; omega)]
      walk_at "s"
      rw [run1, el]
      refine ⟨i + 1, some _, by simp only [List.length_cons] at e1; omega, fun t ht => ?_, by rw [List.range_succ, List.map_append, List.map_append]; rfl⟩
      by_cases hti : t + 1 < i
      · exact e2 t hti
      · have : t + 1 = i := by omega
        intro he
        refine hin ?_
        rw [← this, he]
        exact List.mem_map.mpr ⟨t, List.mem_range.mpr (by omega), rfl⟩
  · rintro σ ⟨i, o6, e1, e2, rfl⟩
    exact (c.soon hx0 hx1 hlz fun t ht => e2 t (by simp at e1; omega)).elim
theorem comes_back_eq (ho : HOk p f) (hl : p.length + f.length ≤ 40) (hm : MvsOk ms) (hm5 : ms.length ≤ 5) (ha : 1 ≤ a ∧ a ≤ 1000000000000000000000000000000) : wp (callF P (callN P (k + 12)) 243 [.val (hs p f), .val (mvsD ms), .val (.int a)]) σ Q X = Q (.val (.bl true)) σ :=
  e_callF (F := f__law_comes_back) rfl rfl nd0 rfl (wpc_ok (comes_back_wpc ho hl hm hm5 ha ⟨rfl, rfl⟩)) trivial (back0 rfl)
theorem one_right_eq (ho : HOk p f) (hl : p.length + f.length ≤ 40) (hm : MvsOk ms) (hm5 : ms.length ≤ 5) (ha : 1 ≤ a ∧ a ≤ 1000000000000000000000000000000) (hb : 1 ≤ b ∧ b ≤ 1000000000000000000000000000000) : wp (callF P (callN P (k + 12)) 217 [.val (hs p f), .val (mvsD ms), .val (.int a), .val (.int b)]) σ Q X = Q (.val (.bl true)) σ :=
  e_callF (F := f__law_one_right) rfl rfl nd0 rfl (wpc_ok (one_right_wpc ho (by omega) hm hm5 ha hb ⟨rfl, rfl⟩)) trivial (back0 rfl)
end
end LW

set_option Elab.async false
set_option linter.all false
set_option maxRecDepth 100000
set_option maxHeartbeats 1000000
namespace LW
open PySem L2 EV
/-- a slot that holds an object of its own, or nothing -/
def fw : Option D → Sl
  | none => .un
  | some d => .own false false d
theorem sK_fw {k : List Sl → Prop} {x : Sl} {σ : List Sl} {o : Option D} : sK k x (fw o :: σ) 0 = k (x :: σ) := by cases o <;> rfl
local macro_rules | `(tactic| walk_at "s") => `(tactic| simp (config := { dsimp := false }) only [↓e_ret, ↓e_bnd, ↓e_some, ↓e_none, ↓e_T, ↓e_F, ↓e_Tt, ↓e_Ff, ↓e_ifd, ↓e_ifnd, ↓bK_v, ↓bK_o, ↓bK_s, ↓vK_v, ↓vK_o, ↓vK_s, ↓dK_v, ↓dK_o, ↓dK_s, ↓sK_v, ↓sK_u, ↓sK_o, ↓sK_s, ↓sK_fr, ↓oK_o, ↓oK_s, ↓rK_v, ↓rK_o, ↓rK_s, ↓e_c, ↓e_b, ↓e_v, ↓e_g, ↓e_dv, ↓e_dt, ↓e_db, ↓e_zv, ↓e_zt, ↓e_zb, ↓e_bin, ↓e_neg, ↓e_cmp, ↓e_cmp2, ↓e_not, ↓e_and, ↓e_or, ↓e_ife, ↓e_tup, ↓e_lst, ↓e_bi, ↓e_dsn, ↓e_dsc, ↓e_call, ↓e_mk, ↓e_methK, ↓e_meth, ↓e_smeth, ↓e_attrF, ↓e_attrC, ↓e_attrP, ↓e_attr, ↓e_ix, ↓e_sl, ↓e_pn, ↓e_pt, ↓e_dn, ↓e_da, ↓e_dst, ↓e_an, ↓e_aa, ↓e_rng, ↓e_enm, ↓e_sq, ↓e_tn, ↓e_ta, ↓e_to, ↓e_ti, ↓e_tc, ↓e_tc2, ↓e_tr, ↓e_nil, ↓e_seq, ↓e_sqn, ↓e_sqr, ↓e_sqb, ↓e_sqc, ↓e_fnv, ↓e_fnt, ↓e_fnn, ↓e_tkn, ↓e_tkc, ↓e_tkb, ↓e_tkr, ↓e_lks, ↓e_lkn, ↓e_int, ↓e_str, ↓e_pair, ↓e_bl, ↓e_wks, ↓e_wkn, ↓e_put, ↓e_set1, ↓e_pv, ↓e_ptm, ↓e_sett, ↓e_asN, ↓e_asT, ↓e_asn, ↓e_asc, ↓e_par, ↓e_prn, ↓e_prc, ↓iK_o, ↓iK_s, ↓e_isOwn, ↓e_setix, ↓e_ls, ↓e_setF, ↓e_set30, ↓e_set31, ↓e_set32, ↓e_setat, ↓e_setA, ↓e_expr, ↓e_retE, ↓e_retv, ↓e_iteS, ↓e_brk, ↓e_cont, ↓e_unp, ↓e_aug, ↓e_forQ, ↓e_for, ↓e_whl, ↓e_mul, ↓e_add, ↓e_sub, ↓e_addF, ↓e_subF, ↓e_mod, ↓e_fdiv, ↓e_pow, ↓e_divmod, ↓e_addS, ↓e_addT, ↓e_addL, ↓e_mulT, ↓e_len_t, ↓e_len_l, ↓e_len_s, ↓e_max, ↓e_min, ↓e_abs, ↓e_tupl, ↓e_tupt, ↓e_lstl, ↓e_lstt, ↓e_inti, ↓e_intb, ↓e_all, ↓e_any, ↓e_isi, ↓e_ixt, ↓e_ixl, ↓e_slt, ↓e_sll, ↓e_sls, ↓e_lt, ↓e_le, ↓e_gt, ↓e_ge, ↓e_eqi, ↓e_nei, ↓e_is, ↓e_isnt, ↓e_in, ↓lenK_i, ↓txtK_i, ↓boolK_i, ↓e_lenI, ↓e_strI, ↓e_reprI, ↓e_reprl, ↓e_reprt, ↓e_strs, ↓e_stri, ↓e_suml, ↓e_addI, ↓e_inI, ↓e_inl, ↓e_intp, ↓e_ninl, ↓e_nintp, ↓calK_i, ↓calK_g, ↓e_calI, ↓e_calG, ↓e_callv, ↓e_star, ↓fstK_i, ↓e_fst, ↓e_fstn, ↓e_fsta, ↓e_fmt, ↓e_fmts, ↓e_fmti, ↓e_fmtI, ↓e_appF, ↓liK_o, ↓liK_s, ↓e_isLst, ↓e_app, ↓extK_i, ↓e_ext, ↓e_lc, ↓e_eqS, ↓e_eqT, ↓e_eqL, ↓e_eqB, ↓e_neS, ↓e_neT, ↓e_neL, ↓e_neB, sK_fw, con_1021, isi_p, con_1020, isi_h, ↓at_p_cs, ↓tn_len, ↓tn_add, ↓hs_past, ↓hs_future, at_0, at_1, at_2, at_3, at_4, at_5, lk_v, lk_t, lock_n, unlock_n, items_l, items_t, items_s, itemsQ_l, itemsQ_t, tr_b, is_n, is_i, is_s, is_t, is_l, cmp_le, cmp_lt, isi_it, isi_ib, isi_is, isi_ss, isi_si, isi_tt, eqD_bl, io_o, io_v, io_n, true_and, Int.reduceLT, Int.reduceLE, Bool.not_true, Bool.not_false, Int.reduceEq, true_implies, false_implies, not_true_eq_false, not_false_eq_true, and_true, implies_true, len_0, len_1, len_2, len_3, len_4, len_5])
section
variable {k j : Nat} {σ : List Sl} {Q : R → List Sl → Prop} {X : Ex → List Sl → Prop} {p : Pl}
theorem right_wpc (hp : p.ok) (h : ∀ p' : Pl, Q (.val (.bl true)) [.own true false p'.d]) : wpc (callN P (k + 13) 195 [.own true false p.d]) Q X := by
  refine wpc_fn (F := f__law_right) rfl rfl (by decide) rfl rfl ?_
  show wp (ex P _ f__law_right.body) [.own true false p.d, .un, .un, .un, .un, .un, .un] _ _
  unfold f__law_right
  dsimp only
  walk_at "s"
  refine wp_ofO (rng_n (by decide) (by decide)) ?_
  refine wp_forL (fun rest σ => ∃ (q : Pl) (o1 o2 o3 o4 o5 o6 : Option D), q.ok ∧ σ = [.own true false q.d, fr o1, fr o2, fr o3, fw o4, fw o5, fr o6]) ?_ ?_ _ _ ⟨p, none, none, none, none, none, none, hp, rfl⟩
  · rintro d ds' σ ⟨q, o1, o2, o3, o4, o5, o6, hq, rfl⟩
    walk_at "s"
    refine inner_call hq fun q1 ms hq1 hm hm5 => ?_
    walk_at "s"
    refine ⟨le_lim (by simp), ?_⟩
    refine wp_forL (fun rest σ => ∃ (q : Pl) (o3 o4 o5 o6 : Option D), q.ok ∧ (∀ v ∈ rest, ∃ x : Int, v = .int x ∧ 0 < x ∧ x ≤ 20) ∧ σ = [.own true false q.d, .val d, .val (mvsD ms), fr o3, fw o4, fw o5, fr o6]) ?_ ?_ _ _ ⟨q1, o3, o4, o5, o6, hq1, ?_, rfl⟩
    · rintro e es σ ⟨q, o3, o4, o5, o6, hq, hr, rfl⟩
      obtain ⟨x, rfl, x0, x1⟩ := hr e List.mem_cons_self
      walk_at "s"
      refine draw_call hq (by omega) (by omega) fun q1 n1 hq1 a0 a1 => ?_
      walk_at "s"
      refine front_call hq1 a0 (by omega) fun q2 xs hq2 hx lx => ?_
      walk_at "s"
      refine draw_call hq2 (by omega) (by omega) fun q3 n2 hq3 b0 b1 => ?_
      walk_at "s"
      refine front_call hq3 b0 (by omega) fun q4 ys hq4 hy ly => ?_
      have ho : HOk xs ys := ⟨hx, hy, by omega⟩
      walk_at "s"
      rw [show D.tup (nms xs) = tn xs from rfl, show D.tup (nms ys) = tn ys from rfl, mk_eq hx hy]
      walk_at "s"
      refine turns_call hq4 fun q5 t1 hq5 c1 c2 => ?_
      walk_at "s"
      refine turns_call hq5 fun q6 t2 hq6 d1 d2 => ?_
      walk_at "s"
      rw [one_right_eq ho (by omega) hm hm5 ⟨c1, c2⟩ ⟨d1, d2⟩]
      walk_at "s"
      refine turns_call hq6 fun q7 t3 hq7 e1 e2 => ?_
      walk_at "s"
      rw [comes_back_eq ho (by omega) hm hm5 ⟨e1, e2⟩]
      walk_at "s"
      exact ⟨q7, some _, some _, some _, some _, hq7, fun v hv => hr v (List.mem_cons_of_mem _ hv), rfl⟩
    · rintro σ ⟨q, o3, o4, o5, o6, hq, _, rfl⟩
      exact ⟨q, some _, some _, o3, o4, o5, o6, hq, rfl⟩
    · intro v hv
      simp only [List.mem_cons, List.not_mem_nil, or_false] at hv
      rcases hv with rfl | rfl | rfl
      · exact ⟨2, rfl, by decide, by decide⟩
      · exact ⟨20, rfl, by decide, by decide⟩
      · exact ⟨20, rfl, by decide, by decide⟩
  · rintro σ ⟨q, o1, o2, o3, o4, o5, o6, hq, rfl⟩
    show forQ _ none _ _
    walk_at "s"
    exact h q
end
theorem right_call {k : Nat} {p : Pl} {σ : List Sl} {Q : R → List Sl → Prop} {X : Ex → List Sl → Prop} (hp : p.ok) (h : Q (.val (.bl true)) σ) : wp (callF P (callN P (k + 13)) 195 [.tmp p.d]) σ Q X :=
  wp_callF (F := f__law_right) rfl rfl nd0 rfl (right_wpc hp fun p' => ⟨trivial, by rw [back0 rfl]; exact h⟩)
theorem law_wpc {k : Nat} {ns : List Int} {Q : R → List Sl → Prop} {X : Ex → List Sl → Prop} (h : Q (.val (.bl true)) [.val (scr ns)]) : wpc (callN P (k + 15) 196 [.val (scr ns)]) Q X := by
  refine wpc_fn (F := f_law) rfl rfl (by decide) rfl rfl ?_
  show wp (ex P _ f_law.body) [.val (scr ns), .un] _ _
  unfold f_law
  dsimp only
  walk_at "s"
  rw [show ∀ O, biM P O .len [.val (scr ns)] [scr ns] = biM P O .len [.val (.lst (ns.map D.int))] [.lst (ns.map D.int)] from fun _ => rfl]
  walk_at "s"
  generalize hN : (if (if (6 : Int) < (((ns.map D.int).length : Nat) : Int) then 6 else (((ns.map D.int).length : Nat) : Int)) > 2 then (if (6 : Int) < (((ns.map D.int).length : Nat) : Int) then 6 else (((ns.map D.int).length : Nat) : Int)) else 2) = N
  have h2 : 0 ≤ N := by rw [← hN]; split <;> (try split) <;> omega
  have h6 : N ≤ 6 := by rw [← hN]; split <;> (try split) <;> omega
  clear hN
  refine wp_ofO (rng_n h2 (by omega)) ?_
  refine wp_lcp (fun _ => .bl true) rfl rfl (le_lim (by rw [List.length_map, List.length_range]; omega)) (fun d hd => ?_) ?_
  · obtain ⟨j, hj, rfl⟩ := List.mem_map.mp hd
    have hj2 := List.mem_range.mp hj
    simp only [List.set_cons_succ, List.set_cons_zero]
    walk_at "s"
    rw [cell_eq (by omega) (by omega)]
    walk_at "s"
    rw [pool_eq]
    walk_at "s"
    exact right_call (poolOf_ok _) ⟨rfl, .inl rfl⟩
  · walk_at "s"
    rw [List.map_map, show ((fun (_ : D) => D.bl true) ∘ fun (c : Nat) => D.int (c : Int)) = fun _ => D.bl true from rfl]
    have e : ∀ (l : List Nat), blsF (l.map fun _ => D.bl true) = some (l.map fun _ => true) := by
      intro l
      induction l with
      | nil => rfl
      | cons a l ih => simp only [List.map_cons, blsF, ih, Option.map_some]
    refine wp_ofO (e _) ?_
    walk_at "s"
    have e2 : ((List.range N.toNat).map fun _ => true).all id = true := by simp
    rw [e2]
    exact h
theorem main : ∀ ns : List Int, ns.length ≤ 63 → ∃ σ, callN T.P 40 196 [.val (.lst (ns.map D.int))] = .ok (.val (.bl true)) σ := fun ns _ =>
  ⟨_, wpc_ok (law_wpc (k := 25) (ns := ns) ⟨rfl, rfl⟩)⟩
end LW

set_option Elab.async false
set_option linter.all false
set_option maxRecDepth 100000
set_option maxHeartbeats 0
namespace LW
open PySem L2 EV
def loose : List Str := "_wall" :: "__name__" :: "UndoError" :: "InvalidName" :: "InvalidNames" :: "InvalidAmount" :: "InvalidProgram" :: "InvalidText" :: "NotAHistory" :: "LETTERS" :: "MOST_LETTERS" :: "is_integer" :: "is_name" :: "is_amount" :: "check_name" :: "check_names" :: "check_amount" :: "check_history" :: "moved" :: "carried" :: "History" :: "MOVES" :: "DIGITS" :: "NO_COMMANDS" :: "ALL" :: "BEFORE_MOVES" :: "is_move" :: "are_moves" :: "is_command" :: "check_commands" :: "command_text" :: "number_in" :: "plain_in" :: "command_in" :: "parsed" :: "place_moved" :: "turned" :: "followed" :: "Program" :: "_law_cell" :: "_law_pool" :: "_law_draw" :: "_law_calls" :: "_law_front" :: "_law_inner" :: "_law_turns" :: "_law_times" :: "_law_one_right" :: "_law_comes_back" :: "_law_right" :: []
abbrev hk : PySem.W.Hook := hookE T 5
def ob (s : PySem.W.SharedT) : Bool × List He.FnW := obsE T 5 (HandSHeadRun.getT s)
theorem ob_eq (s : PySem.W.SharedT) : ob s = hk.obs s.abs := obsE_eq (HandSHeadRun.getT_eq s)
theorem run (w : World) : HandSHeadRun.RunEq (PySem.W.OpenLaw.row PySem.Challenge.rw_undotables_k15_whole_repeats_of_repeats) (PySem.W.view (PySem.W.OpenLaw.row PySem.Challenge.rw_undotables_k15_whole_repeats_of_repeats).prog [53]) hk ob 9000 loose w := by
  intro os
  kernel_rfl
end LW
open PySem PySem.W PySem.Calls PyProof.Rows
theorem PySem.Challenge.cw_undotables_k15_whole_repeats_of_repeats_holds : PySem.Challenge.rw_undotables_k15_whole_repeats_of_repeats.Holds := by
  w_on; o_law
  refine HandSHeadRun.head_any (r := OpenLaw.row PySem.Challenge.rw_undotables_k15_whole_repeats_of_repeats) (q := view (OpenLaw.row PySem.Challenge.rw_undotables_k15_whole_repeats_of_repeats).prog [53]) (H := LW.hk) (ob := LW.ob) (M := 9000) (loose := LW.loose) (d := HandSHeadRun.topDef (OpenLaw.row PySem.Challenge.rw_undotables_k15_whole_repeats_of_repeats).prog 53) (kwd := []) LW.ob_eq
    (by kernel_rfl) (fun s => by kernel_rfl) LW.run (by kernel_rfl) (by kernel_rfl) (by kernel_rfl) (by rfl) (by first | assumption | decide +kernel) (by decide +kernel) ⟨rfl, rfl, rfl, rfl, rfl, by decide +kernel⟩ ?hw ?hc
  case hw => w_witness2
  case hc =>
    have hnm : (HandSHeadRun.topDef (OpenLaw.row PySem.Challenge.rw_undotables_k15_whole_repeats_of_repeats).prog 53).name = ("law" : PySem.Str) := by kernel_rfl
    exact EV.walkE (l := PySem.Challenge.rw_undotables_k15_whole_repeats_of_repeats) (n := 63) (k := 40) (x := "_law_script") (i := 196) (e := LW.e_law) rfl (by decide) (by kernel_rfl) ⟨rfl, by decide, by decide⟩ LW.tok (by rfl) (by rw [hnm]; rfl) rfl rfl rfl (by rw [hnm]; rfl) LW.main

