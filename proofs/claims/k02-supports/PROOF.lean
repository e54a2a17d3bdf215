import PyProof.Rows.All
import Wide.All
import OpenK.AllK
import Wide.FinOn
import KE.DataEq
import KE.DataCmp
import HandS.List
import HandS.ForMost
import HandS.ForExc
import HandS.HeadHook2
import HandS.Wide
import HandS.Flow
import HandS.IsInst
import HandS.More
import HandS.Style
import HandS.Defaults
import HandS.Ends
import HandS.HeadEnd
import HandS.HeadHook1
import PyProof.StrLawsIn
import KE.KStateDown
import HandS.Head0
import HandS.Head1
import HandS.Head2
import PySem.Challenge.RW_grantroll_k02_supports
set_option Elab.async false
set_option linter.all false
set_option maxRecDepth 100000
set_option maxHeartbeats 2000000
/-! One text: the interpreter over the hand layer and its soundness (Co..), runs in plain Lean (Pu..), the law, the head. -/
/-! CoA: plain data, a small code language, its interpreter. -/
namespace Co
open PySem

/-! ### data -/
inductive D where
  | non | bl (b : Bool) | int (i : Int) | str (s : Str)
  | tup (ds : List D) | lst (ds : List D)
  | scr (ns : List Int)
  | ins (c : Str) (fs : List (Str × D))
  | exc (c : Str) (fs : List (Str × D))
  | ref (n : Nat)
mutual
def D.py : D → Option PyData
  | .non => some .none
  | .bl b => some (.bool b)
  | .int i => some (.int i)
  | .str s => some (.str s)
  | .tup ds => (D.pys ds).map .tuple
  | .lst ds => (D.pys ds).map .list
  | _ => none
def D.pys : List D → Option (List PyData)
  | [] => some []
  | d :: ds => match D.py d, D.pys ds with
    | some p, some ps => some (p :: ps)
    | _, _ => none
end
/-- what a slot holds, what an expression gives: a value; a view of somebody's list; a list of one's own -/
inductive X where
  | v (d : D) | vw (ds : List D) | own (ds : List D)
inductive O where
  | lst (ds : List D)
abbrev Sl := List (Option X)
abbrev S := List O
/-- an outcome -/
inductive R (α : Type) where
  | ok (a : α) (s : S) | ex (e : D) (s : S) | bad
def R.bind {α β : Type} (r : R α) (f : α → S → R β) : R β := match r with
  | .ok a s => f a s
  | .ex e s => .ex e s
  | .bad => .bad
/-- where nothing may be raised -/
def R.noex {α : Type} : R α → R α
  | .ok a s => .ok a s
  | _ => .bad
@[simp] theorem R.noex_ok {α : Type} (a : α) (s : S) : R.noex (.ok a s) = .ok a s := rfl
def R.lift {α : Type} (s : S) : Option α → R α
  | some a => .ok a s
  | none => .bad
@[simp] theorem R.bind_ok {α β : Type} (a : α) (s : S) (f : α → S → R β) : R.bind (.ok a s) f = f a s := rfl
@[simp] theorem R.bind_ex {α β : Type} (e : D) (s : S) (f : α → S → R β) : R.bind (.ex e s : R α) f = .ex e s := rfl
@[simp] theorem R.bind_bad {α β : Type} (f : α → S → R β) : R.bind (.bad : R α) f = .bad := rfl
@[simp] theorem R.lift_some {α : Type} (s : S) (a : α) : R.lift s (some a) = .ok a s := rfl
@[simp] theorem R.lift_none {α : Type} (s : S) : R.lift s (none : Option α) = .bad := rfl

/-- a slot read -/
def X.rd : X → X
  | .own ds => .vw ds
  | x => x
/-- an operand: a list of one's own is let go -/
def X.arg : X → X
  | .own ds => .v (.lst ds)
  | x => x
/-- .. to be stored -/
def X.sto : X → Option D
  | .v d => some d
  | .own ds => some (.lst ds)
  | .vw _ => none
def X.d : X → D
  | .v d => d
  | .vw ds => .lst ds
  | .own ds => .lst ds
/-- the items of a list or a tuple -/
def X.items (s : S) (x : X) : Option (List D) := match x.d with
  | .tup ds => some ds
  | .lst ds => some ds
  | .ref n => match s[n]? with
    | some (.lst ds) => some ds
    | _ => none
  | _ => none
/-- .. that nobody changes meanwhile -/
def X.fzItems (x : X) : Option (List D) := match x.d with
  | .tup ds => some ds
  | .lst ds => some ds
  | .str z => if z.length ≤ sizeLine then some (z.cps.toList.map fun c => .str ⟨#[c]⟩) else none
  | _ => none
/-- as data -/
def X.py (s : S) (x : X) : Option PyData := match x.d with
  | .ref n => match s[n]? with
    | some (.lst ds) => (D.lst ds).py
    | _ => none
  | d => d.py
def stoAll : List X → Option (List D)
  | [] => some []
  | x :: xs => match x.sto, stoAll xs with
    | some d, some ds => some (d :: ds)
    | _, _ => none

/-! ### code -/
inductive BOp where | add | sub | mul | fdiv | mod | pow
inductive COp where | eq | ne | lt | le | gt | ge | is | isNot | in | notIn
/-- built-in functions of plain values -/
inductive Ty where | int | bool | str | tuple | list
deriving DecidableEq
inductive Bi where | len | abs | int | min2 | max2 | repr
inductive T where
  | name (i : Nat)
  | tup (is : List Nat)
def T.ixs : T → List Nat
  | .name i => [i]
  | .tup is => is
inductive E where
  | var (i : Nat) | cst (d : D) | glob (x : Nat)
  | tup (es : List E) | lst (es : List E)
  | bin (op : BOp) (a b : E) | neg (a : E)
  | cmp (op : COp) (a b : E) | chain (o1 o2 : COp) (a b c : E)
  | ands (es : List E) | ors (es : List E) | not (a : E)
  | ife (c a b : E)
  | call (f : Nat) (es : List E)
  | bi (b : Bi) (es : List E)
  | isi (c : Ty) (a : E)
  | rng1 (a : E) | rng2 (a b : E)
  | sub (o i : E)
  | sli (o : E) (lo hi : Option E)
  | lc (elt : E) (t : T) (it : E) (ifs : List E)
  | allc (e : E)
  | newref (e : E)
inductive Sm where
  | expr (e : E)
  | asg (t : T) (e : E)
  | asgOwn (i : Nat) (e : E)
  | app (i : Nat) (e : E)
  | insrt (i : Nat) (k e : E)
  | setItem (i : Nat) (k e : E)
  | refSet (o k e : E)
  | ret (e : E) | retMv (i : Nat) | retN
  | ifs (c : E) (a b : List Sm)
  | for_ (t : T) (it : E) (body : List Sm)
  | while_ (c : E) (body : List Sm)
  | brk | cont | pass
  | raise (c : Str) (es : List E)
  | toRef (i : Nat)

/-! ### the operations -/
def binE (op : BOp) (s : S) (a b : X) : Option X :=
  match op with
  | .add => match a.d, b.d with
    | .int i, .int j => some (.v (.int (i + j)))
    | .str x, .str y => if x.length + y.length ≤ sizeLine then some (.v (.str (x ++ y))) else none
    | .lst xs, .lst ys => if xs.length + ys.length ≤ sizeLine then some (.own (xs ++ ys)) else none
    | .tup xs, .tup ys => if xs.length + ys.length ≤ sizeLine ∧ xs.isEmpty = false then some (.v (.tup (xs ++ ys))) else none
    | _, _ => none
  | .sub => match a.d, b.d with
    | .int i, .int j => some (.v (.int (i - j)))
    | _, _ => none
  | .mul => match a.d, b.d with
    | .int i, .int j => if i.natAbs.log2 + j.natAbs.log2 < 1000000 then some (.v (.int (i * j))) else none
    | .lst xs, .int k => if xs.length * k.toNat ≤ sizeLine ∧ -(2 ^ 63) ≤ k ∧ k < 2 ^ 63 then some (.own (List.replicate k.toNat xs).flatten) else none
    | _, _ => none
  | .fdiv => match a.d, b.d with
    | .int i, .int j => if 0 < j ∧ j.natAbs.log2 < 9000 then some (.v (.int (i / j))) else none
    | _, _ => none
  | .mod => match a.d, b.d with
    | .int i, .int j => if 0 < j then some (.v (.int (i % j))) else none
    | _, _ => none
  | .pow => match a.d, b.d with
    | .int i, .int j => if 0 ≤ j ∧ (i.natAbs.log2 + 1) * j.toNat ≤ 2 ^ 27 then some (.v (.int (i ^ j.toNat))) else none
    | _, _ => none
/-- == of data, one of them not deep -/
def eqE (s : S) (a b : X) : Option Bool := match a.py s, b.py s with
  | some p, some q => if p.depth ≤ 64 ∨ q.depth ≤ 64 then some (PyData.eqv p q) else none
  | _, _ => none
def inE (s : S) (a b : X) : Option Bool := match b.d with
  | .str y => match a.d with
    | .str x => some (!(Builtin.Str.occurrences y x 0 y.length 1).isEmpty)
    | _ => none
  | _ => match a.py s, b.items s with
    | some p, some ds => match D.pys ds with
      | some qs => if p.depth ≤ 64 ∨ PyData.depthAll qs ≤ 64 then some (qs.any fun q => PyData.eqv q p) else none
      | none => none
    | _, _ => none
def isNone : PyData → Bool
  | .none => true
  | _ => false
def ltE (s : S) (a b : X) : Option Bool := match a.d, b.d with
  | .int i, .int j => some (decide (i < j))
  | _, _ => match a.py s, b.py s with
    | some p, some q => if W.alike p q = true ∧ p.depth ≤ 64 ∧ q.depth ≤ 64 ∧ isNone p = false then some (W.dataLt p q) else none
    | _, _ => none
def cmpE (op : COp) (s : S) (a b : X) : Option Bool :=
  match op with
  | .eq => eqE s a b
  | .ne => (eqE s a b).map (!·)
  | .lt => ltE s a b
  | .gt => ltE s b a
  | .le => (ltE s b a).map (!·)
  | .ge => (ltE s a b).map (!·)
  | .is => match b.d with
    | .non => some (match a.d with | .non => true | _ => false)
    | _ => none
  | .isNot => match b.d with
    | .non => some (match a.d with | .non => false | _ => true)
    | _ => none
  | .in => inE s a b
  | .notIn => (inE s a b).map (!·)
def truE (s : S) (a : X) : Option Bool := match a.d with
  | .non => some false
  | .bl b => some b
  | .int i => some (i != 0)
  | .str x => if x.length ≤ sizeLine then some (x.length != 0) else none
  | _ => (a.items s).map fun ds => !ds.isEmpty
def isSeq : PyData → Bool
  | .list _ => true
  | .tuple _ => true
  | _ => false
/-- isinstance against a built-in class -/
def isiE (c : Ty) (d : D) : Option Bool := match d with
  | .ins _ _ => none
  | .exc _ _ => none
  | .scr _ => none
  | .non => some false
  | .bl _ => some (match c with | .int => true | .bool => true | _ => false)
  | .int _ => some (match c with | .int => true | _ => false)
  | .str _ => some (match c with | .str => true | _ => false)
  | .tup _ => some (match c with | .tuple => true | _ => false)
  | .lst _ => some (match c with | .list => true | _ => false)
  | .ref _ => some (match c with | .list => true | _ => false)
def biE (b : Bi) (s : S) (xs : List X) : Option X :=
  match b, xs with
  | .len, [x] => match x.d with
    | .str z => if z.length ≤ sizeLine then some (.v (.int z.length)) else none
    | _ => (x.items s).map fun ds => .v (.int ds.length)
  | .abs, [x] => match x.d with
    | .int i => some (.v (.int (if i < 0 then -i else i)))
    | _ => none
  | .int, [x] => match x.d with
    | .int i => some (.v (.int i))
    | .bl k => some (.v (.int (if k then 1 else 0)))
    | _ => none
  | .min2, [x, y] => match x.d, y.d with
    | .int i, .int j => some (.v (.int (if j < i then j else i)))
    | _, _ => none
  | .max2, [x, y] => match x.d, y.d with
    | .int i, .int j => some (.v (.int (if j > i then j else i)))
    | _, _ => none
  | .repr, [x] => match x.py s with
    | some p => if p.showable = true ∧ p.depth ≤ 64 ∧ p.shown.length ≤ sizeLine ∧ isSeq p = true then some (.v (.str p.shown)) else none
    | none => none
  | _, _ => none
def subE (s : S) (o i : X) : Option X := match i.d with
  | .int k => match o.d with
    | .str z => if z.length ≤ sizeLine then (L2.atI z.cps.toList k).map fun c => .v (.str ⟨#[c]⟩) else none
    | _ => match o.items s with
      | some ds => (L2.atI ds k).map .v
      | none => none
  | _ => none
/-- the part of xs between two ends -/
def cut {α : Type} (xs : List α) (lo hi : Option Int) : List α := (xs.drop (HT.sIx xs.length 0 lo)).take (HT.sIx xs.length xs.length hi - HT.sIx xs.length 0 lo)
def sliE (s : S) (o : X) (lo hi : Option Int) : Option X := match o.d with
  | .scr ns => some (.own ((cut ns lo hi).map .int))
  | .tup ds => if ¬ (HT.sIx ds.length 0 lo = 0 ∧ HT.sIx ds.length ds.length hi = ds.length) then some (.v (.tup (cut ds lo hi))) else none
  | _ => match o.items s with
    | some ds => some (.own (cut ds lo hi))
    | none => none
def asInt : X → Option Int
  | .v (.int i) => some i
  | _ => none

def bools : List D → Option (List Bool)
  | [] => some []
  | .bl b :: ds => (bools ds).map (b :: ·)
  | _ => none

def rngD (lo : Int) (n : Nat) : List D := (List.range n).map fun (i : Nat) => D.int (lo + (i : Int))
def rOk (i : Int) : Bool := decide (-1000000 ≤ i) && decide (i ≤ 1000000)
def small (i : Int) : Bool := decide (-(2 ^ 62) ≤ i) && decide (i < 2 ^ 62)

/-! ### targets -/
def wipeSl (sl : Sl) : List Nat → Sl
  | [] => sl
  | v :: vs => (wipeSl sl vs).set v none
def bindNames : List Nat → List D → Sl → Option Sl
  | [], [], sl => some sl
  | i :: is, d :: ds, sl => bindNames is ds (sl.set i (some (.v d)))
  | _, _, _ => none
def bindT (t : T) (d : D) (s : S) (sl : Sl) : Option Sl := match t with
  | .name i => some (sl.set i (some (.v d)))
  | .tup is => match (X.v d).items s with
    | some ds => if ds.length = is.length then bindNames is ds sl else none
    | none => none

/-- items of a comprehension, one behind another -/
def lcLoop (f : D → S → R (Option D)) : List D → S → R (List D)
  | [], s => .ok [] s
  | d :: ds, s => (f d s).bind fun o s => (lcLoop f ds s).bind fun r s => .ok (match o with | some e => e :: r | none => r) s
/-- and | or, from the left -/
def boolLoop (stop : Bool) (f : α → S → R X) : List α → S → R X
  | [], _ => .bad
  | [a], s => f a s
  | a :: b :: r, s => (f a s).bind fun x s => (R.lift s (truE s x)).bind fun k s => if k = stop then .ok x s else boolLoop stop f (b :: r) s

abbrev Fns := Nat → List X → S → R X
section
variable (G : Nat → Option D) (F : Fns)
mutual
def ev (sl : Sl) : E → S → R X
  | .var i, s => match sl[i]? with
    | some (some x) => .ok x.rd s
    | _ => .bad
  | .cst d, s => .ok (.v d) s
  | .glob x, s => R.lift s ((G x).map .v)
  | .tup es, s => (evs sl es s).bind fun xs s => R.lift s ((stoAll xs).map fun ds => .v (.tup ds))
  | .lst es, s => (evs sl es s).bind fun xs s => R.lift s ((stoAll xs).map fun ds => .own ds)
  | .bin op a b, s => (ev sl a s).bind fun x s => (ev sl b s).bind fun y s => R.lift s (binE op s x.arg y.arg)
  | .neg a, s => (ev sl a s).bind fun x s => R.lift s ((asInt x.arg).map fun i => .v (.int (-i)))
  | .cmp op a b, s => (ev sl a s).bind fun x s => (ev sl b s).bind fun y s => R.lift s ((cmpE op s x.arg y.arg).map fun k => .v (.bl k))
  | .chain o1 o2 a b c, s => (ev sl a s).bind fun x s => (ev sl b s).bind fun y s => (R.lift s (cmpE o1 s x.arg y.arg)).bind fun k s =>
      if k = true then (ev sl c s).bind fun z s => R.lift s ((cmpE o2 s y.arg z.arg).map fun k => .v (.bl k)) else .ok (.v (.bl false)) s
  | .ands es, s => evb sl false es s
  | .ors es, s => evb sl true es s
  | .not a, s => (ev sl a s).bind fun x s => R.lift s ((truE s x.arg).map fun k => .v (.bl (!k)))
  | .ife c a b, s => (ev sl c s).bind fun x s => (R.lift s (truE s x.arg)).bind fun k s => if k = true then ev sl a s else ev sl b s
  | .call f es, s => (evs sl es s).bind fun xs s => F f xs s
  | .bi b es, s => (evs sl es s).bind fun xs s => R.lift s (biE b s xs)
  | .isi c a, s => (ev sl a s).bind fun x s => R.lift s ((isiE c x.arg.d).map fun b => .v (.bl b))
  | .rng1 a, s => (ev sl a s).bind fun x s => R.lift s ((asInt x.arg).bind fun j => if rOk j = true then some (.own (rngD 0 j.toNat)) else none)
  | .rng2 a b, s => (ev sl a s).bind fun x s => (ev sl b s).bind fun y s => R.lift s ((asInt x.arg).bind fun i => (asInt y.arg).bind fun j => if rOk i = true ∧ rOk j = true then some (.own (rngD i (j - i).toNat)) else none)
  | .sub o i, s => (ev sl o s).bind fun x s => (ev sl i s).bind fun y s => R.lift s (subE s x.arg y.arg)
  | .sli o lo hi, s => (ev sl o s).bind fun x s => (evo sl lo s).bind fun l s => (evo sl hi s).bind fun h s => R.lift s (sliE s x.arg l h)
  | .lc elt t it ifs, s => (ev sl it s).bind fun x s => match x.arg.fzItems with
    | some ds => (lcLoop (fun d s => match bindT t d s (wipeSl sl t.ixs) with
        | some sl' => (evi sl' ifs s).bind fun k s => if k = true then (ev sl' elt s).bind fun y s => R.lift s (y.sto.map some) else .ok none s
        | none => .bad) ds s).noex.bind fun es s => .ok (.own es) s
    | none => .bad
  | .allc e, s => (ev sl e s).bind fun x s => match x.arg.d with
    | .lst ds => R.lift s ((bools ds).map fun bs => X.v (D.bl (bs.all id)))
    | _ => .bad
  | .newref e, s => (ev sl e s).bind fun x s => match x with
    | .own ds => .ok (.v (.ref s.length)) (s ++ [.lst ds])
    | _ => .bad
termination_by structural e => e
def evs (sl : Sl) : List E → S → R (List X)
  | [], s => .ok [] s
  | e :: es, s => (ev sl e s).bind fun x s => (evs sl es s).bind fun xs s => .ok (x.arg :: xs) s
termination_by structural es => es
/-- and (stop = false) | or (stop = true) -/
def evb (sl : Sl) (stop : Bool) : List E → S → R X
  | [], _ => .bad
  | [e], s => (ev sl e s).bind fun x s => .ok x.arg s
  | e :: e' :: es, s => (ev sl e s).bind fun x s => (R.lift s (truE s x.arg)).bind fun k s => if k = stop then .ok x.arg s else evb sl stop (e' :: es) s
termination_by structural es => es
/-- a comprehension's tests: none or one -/
def evi (sl : Sl) : List E → S → R Bool
  | [], s => .ok true s
  | e :: es, s => match es with
    | [] => (ev sl e s).bind fun x s => R.lift s (truE s x.arg)
    | _ :: _ => .bad
termination_by structural es => es
def evo (sl : Sl) : Option E → S → R (Option Int)
  | none, s => .ok none s
  | some e, s => (ev sl e s).bind fun x s => R.lift s ((asInt x.arg).map some)
termination_by structural o => o
end
/-! ### statements -/
inductive SR where
  | nx (sl : Sl) (s : S) | rt (x : X) (s : S) | bk (sl : Sl) (s : S) | ct (sl : Sl) (s : S) | ex (e : D) (sl : Sl) (s : S) | bad
def R.sr {α : Type} (r : R α) (sl : Sl) (f : α → S → SR) : SR := match r with
  | .ok a s => f a s
  | .ex e s => .ex e sl s
  | .bad => .bad
@[simp] theorem R.sr_ok {α : Type} (a : α) (s : S) (sl : Sl) (f : α → S → SR) : R.sr (.ok a s) sl f = f a s := rfl
@[simp] theorem R.sr_ex {α : Type} (e : D) (s : S) (sl : Sl) (f : α → S → SR) : R.sr (.ex e s : R α) sl f = .ex e sl s := rfl
@[simp] theorem R.sr_bad {α : Type} (sl : Sl) (f : α → S → SR) : R.sr (.bad : R α) sl f = .bad := rfl
def SR.seq (r : SR) (f : Sl → S → SR) : SR := match r with
  | .nx sl s => f sl s
  | r => r
@[simp] theorem SR.seq_nx (sl : Sl) (s : S) (f : Sl → S → SR) : SR.seq (.nx sl s) f = f sl s := rfl
@[simp] theorem SR.seq_rt (x : X) (s : S) (f : Sl → S → SR) : SR.seq (.rt x s) f = .rt x s := rfl
@[simp] theorem SR.seq_bk (sl : Sl) (s : S) (f : Sl → S → SR) : SR.seq (.bk sl s) f = .bk sl s := rfl
@[simp] theorem SR.seq_ct (sl : Sl) (s : S) (f : Sl → S → SR) : SR.seq (.ct sl s) f = .ct sl s := rfl
@[simp] theorem SR.seq_ex (e : D) (sl : Sl) (s : S) (f : Sl → S → SR) : SR.seq (.ex e sl s) f = .ex e sl s := rfl
@[simp] theorem SR.seq_bad (f : Sl → S → SR) : SR.seq .bad f = .bad := rfl
def SR.of (o : Option SR) : SR := match o with
  | some r => r
  | none => .bad
@[simp] theorem SR.of_some (r : SR) : SR.of (some r) = r := rfl
@[simp] theorem SR.of_none : SR.of none = .bad := rfl
def forLoop (b : D → Sl → S → SR) : List D → Sl → S → SR
  | [], sl, s => .nx sl s
  | d :: ds, sl, s => match b d sl s with
    | .nx sl s => forLoop b ds sl s
    | .ct sl s => forLoop b ds sl s
    | .bk sl s => .nx sl s
    | r => r
def whileLoop (t : Sl → S → R Bool) (b : Sl → S → SR) : Nat → Sl → S → SR
  | 0, _, _ => .bad
  | n + 1, sl, s => match t sl s with
    | .ok true s => (match b sl s with
      | .nx sl s => whileLoop t b n sl s
      | .ct sl s => whileLoop t b n sl s
      | .bk sl s => .nx sl s
      | r => r)
    | .ok false s => .nx sl s
    | .ex e s => .ex e sl s
    | .bad => .bad
/-- what a for walks: nobody changes it meanwhile -/
def itE (sl : Sl) (e : E) (s : S) : R (List D) := (ev G F sl e s).bind fun x s => R.lift s (match x with
  | .vw ds => (match e with
    | .var i => (match sl[i]? with
      | some (some (.vw _)) => some ds
      | _ => none)
    | _ => none)
  | x => x.arg.fzItems)
def wfuel : Nat := 1000000
mutual
def exS (sl : Sl) : Sm → S → SR
  | .expr e, s => (ev G F sl e s).sr sl fun _ s => .nx sl s
  | .asg t e, s => (ev G F sl e s).sr sl fun x s => .of (x.sto.bind fun d => (bindT t d s sl).map fun sl => .nx sl s)
  | .asgOwn i e, s => (ev G F sl e s).sr sl fun x s => match x with
    | .own ds => .nx (sl.set i (some (.own ds))) s
    | _ => .bad
  | .app i e, s => match sl[i]? with
    | some (some (.own ds)) => (ev G F sl e s).sr sl fun x s => .of (x.sto.bind fun d => if ds.length < sizeLine then some (.nx (sl.set i (some (.own (ds ++ [d])))) s) else none)
    | _ => .bad
  | .insrt i k e, s => match sl[i]? with
    | some (some (.own ds)) => (ev G F sl k s).sr sl fun y s => (ev G F sl e s).sr sl fun x s => .of ((asInt y.arg).bind fun j => x.sto.bind fun d => if ds.length < sizeLine ∧ 0 ≤ j ∧ small j = true then some (.nx (sl.set i (some (.own (ds.take j.toNat ++ [d] ++ ds.drop j.toNat)))) s) else none)
    | _ => .bad
  | .setItem i k e, s => match sl[i]? with
    | some (some (.own ds)) => (ev G F sl e s).sr sl fun x s => (ev G F sl k s).sr sl fun y s => .of (x.sto.bind fun d => (asInt y.arg).bind fun j => (L2.ixN ds.length j).map fun m => .nx (sl.set i (some (.own (ds.set m d)))) s)
    | _ => .bad
  | .refSet o k e, s => (ev G F sl e s).sr sl fun x s => (ev G F sl o s).sr sl fun z s => (ev G F sl k s).sr sl fun y s => .of (x.sto.bind fun d => (asInt y.arg).bind fun j => match z with
      | .v (.ref n) => (match s[n]? with
        | some (.lst ds) => (L2.ixN ds.length j).map fun m => .nx sl (s.set n (.lst (ds.set m d)))
        | _ => none)
      | _ => none)
  | .ret e, s => (ev G F sl e s).sr sl fun x s => match x with
    | .vw _ => .bad
    | x => .rt x s
  | .retMv i, s => match sl[i]? with
    | some (some (.own ds)) => .rt (.own ds) s
    | _ => .bad
  | .retN, s => .rt (.v .non) s
  | .ifs c a b, s => (ev G F sl c s).sr sl fun x s => match truE s x.arg with
    | some true => exSs sl a s
    | some false => exSs sl b s
    | none => .bad
  | .for_ t it body, s => (itE G F sl it s).sr sl fun ds s => forLoop (fun d sl s => match bindT t d s sl with
    | some sl => exSs sl body s
    | none => .bad) ds sl s
  | .while_ c body, s => whileLoop (fun sl s => (ev G F sl c s).bind fun x s => R.lift s (truE s x.arg)) (fun sl s => exSs sl body s) wfuel sl s
  | .brk, s => .bk sl s
  | .cont, s => .ct sl s
  | .pass, s => .nx sl s
  | .raise _ _, _ => .bad
  | .toRef i, s => match sl[i]? with
    | some (some (.own ds)) => .nx (sl.set i (some (.v (.ref s.length)))) (s ++ [.lst ds])
    | _ => .bad
termination_by structural st => st
def exSs (sl : Sl) : List Sm → S → SR
  | [], s => .nx sl s
  | st :: r, s => (exS sl st s).seq fun sl s => exSs sl r s
termination_by structural st => st
end
end
/-! ### functions -/
structure Fn where
  ps : List Str
  N : List Str
  body : List Sm
def SR.fin : SR → R X
  | .nx _ s => .ok (.v .non) s
  | .rt x s => (match x with
    | .vw _ => .bad
    | x => .ok x s)
  | .ex e _ s => .ex e s
  | _ => .bad
def startSl (n : Nat) (xs : List X) : Sl := xs.map some ++ List.replicate (n - xs.length) none
structure Prog where
  G : Nat → Option D
  tab : Nat → Option Fn
def callN (P : Prog) : Nat → Fns
  | 0 => fun _ _ _ => .bad
  | n + 1 => fun f xs s => match P.tab f with
    | some fd => if xs.length = fd.ps.length then (exSs P.G (callN P n) (startSl fd.N.length xs) fd.body s).fin else .bad
    | none => .bad
end Co
/-! CoB: how plain data lie in the hand layer's heaps. -/
namespace Co
open PySem PySem.Spec PyProof.Rows L2

/-- what an address is to us: frozen; a list that stands still while we look; slot i's own list; the n-th shared object -/
inductive Role where
  | fz (o : HO) | vw | own (i : Nat) | io (n : Nat)
abbrev Gh := Addr → Option Role
def gset (g : Gh) (a : Addr) (r : Option Role) : Gh := fun b => if b = a then r else g b
theorem gset_same {g : Gh} {a : Addr} {r : Option Role} : gset g a r a = r := if_pos rfl
theorem gset_ne {g : Gh} {a b : Addr} {r : Option Role} (h : b ≠ a) : gset g a r b = g b := if_neg h
/-- a list of the written part -/
def KL (K : PySem.W.Frag) (a : Addr) (xs : List V) : Prop := ∀ H : Hp, SqL K H a xs

variable (K : PySem.W.Frag)
mutual
def Rv (g : Gh) : D → V → Prop
  | .non, v => v = .non
  | .bl b, v => v = .bl b
  | .int i, v => v = .int i
  | .str s, v => v = .str s
  | .tup ds, v => ∃ a vs, v = .ref a ∧ g a = some (.fz (.tup vs)) ∧ Rvs g ds vs
  | .lst ds, v => ∃ a vs, v = .ref a ∧ g a = some (.fz (.lst vs)) ∧ Rvs g ds vs
  | .scr ns, v => ∃ a, v = .ref a ∧ ((∃ o, g a = some (.fz o) ∧ (o = .lst (ns.map V.int) ∨ ∃ ob, o = .frz ob (.lst (ns.map V.int)))) ∨ KL K a (ns.map V.int))
  | .ref n, v => ∃ a, v = .ref a ∧ g a = some (.io n)
  | .ins _ _, _ => False
  | .exc _ _, _ => False
def Rvs (g : Gh) : List D → List V → Prop
  | [], vs => vs = []
  | d :: ds, vs => ∃ v r, vs = v :: r ∧ Rv g d v ∧ Rvs g ds r
end
def ORel (g : Gh) (o : O) (h : Option HO) : Prop := match o with
  | .lst ds => ∃ vs, h = some (.lst vs) ∧ Rvs K g ds vs
structure HRel (g : Gh) (s : S) (H : Hp) : Prop where
  fz : ∀ a o, g a = some (.fz o) → H a = some o
  dom : ∀ a r, g a = some r → ∃ o, H a = some o
  io : ∀ (n : Nat) o, s[n]? = some o → ∃ a, g a = some (.io n) ∧ ORel K g o (H a)
  uq : ∀ a b n, g a = some (.io n) → g b = some (.io n) → a = b
  bd : ∀ a n, g a = some (.io n) → n < s.length
/-- an expression's step -/
structure Ext (g : Gh) (H : Hp) (g' : Gh) (H' : Hp) : Prop where
  le : ∀ a r, g a = some r → g' a = some r
  st : ∀ a r, g a = some r → (∀ n, r ≠ .io n) → H' a = H a
/-- a statement's -/
structure ExtS (g : Gh) (H : Hp) (g' : Gh) (H' : Hp) : Prop where
  le : ∀ a r, g a = some r → (∀ i, r ≠ .own i) → g' a = some r
  st : ∀ a r, g a = some r → (∀ i, r ≠ .own i) → (∀ n, r ≠ .io n) → H' a = H a
def RX (g : Gh) (H : Hp) (x : X) (v : V) : Prop := match x with
  | .v d => Rv K g d v
  | .vw ds => ∃ a vs, v = .ref a ∧ (g a = some .vw ∨ ∃ i, g a = some (.own i)) ∧ H a = some (.lst vs) ∧ Rvs K g ds vs
  | .own ds => ∃ a vs, v = .ref a ∧ g a = none ∧ H a = some (.lst vs) ∧ Rvs K g ds vs
def RXs (g : Gh) (H : Hp) : List X → List V → Prop
  | [], vs => vs = []
  | x :: xs, vs => ∃ v r, vs = v :: r ∧ RX K g H x v ∧ RXs g H xs r
def RS (g : Gh) (H : Hp) (i : Nat) (x : X) (v : V) : Prop := match x with
  | .v d => Rv K g d v
  | .vw ds => ∃ a vs, v = .ref a ∧ g a = some .vw ∧ H a = some (.lst vs) ∧ Rvs K g ds vs
  | .own ds => ∃ a vs, v = .ref a ∧ g a = some (.own i) ∧ H a = some (.lst vs) ∧ Rvs K g ds vs
structure SRel (g : Gh) (sl : Sl) (σ : L2.St) (H : Hp) : Prop where
  len : sl.length = σ.length
  at_ : ∀ (i : Nat) x, sl[i]? = some (some x) → ∃ v, σ[i]? = some (some v) ∧ RS K g H i x v
variable {K}

/-! ### steps compose -/
theorem Ext.refl (g : Gh) (H : Hp) : Ext g H g H := ⟨fun _ _ h => h, fun _ _ _ _ => rfl⟩
theorem Ext.trans {g g1 g2 : Gh} {H H1 H2 : Hp} (a : Ext g H g1 H1) (b : Ext g1 H1 g2 H2) : Ext g H g2 H2 :=
  ⟨fun x r h => b.le x r (a.le x r h), fun x r h n => (b.st x r (a.le x r h) n).trans (a.st x r h n)⟩
theorem Ext.s {g g1 : Gh} {H H1 : Hp} (a : Ext g H g1 H1) : ExtS g H g1 H1 := ⟨fun x r h _ => a.le x r h, fun x r h _ n => a.st x r h n⟩
theorem ExtS.refl (g : Gh) (H : Hp) : ExtS g H g H := (Ext.refl g H).s
theorem ExtS.trans {g g1 g2 : Gh} {H H1 H2 : Hp} (a : ExtS g H g1 H1) (b : ExtS g1 H1 g2 H2) : ExtS g H g2 H2 :=
  ⟨fun x r h n => b.le x r (a.le x r h n) n, fun x r h n m => (b.st x r (a.le x r h n) n m).trans (a.st x r h n m)⟩

/-! ### what a value's relation leans on -/
/-- the roles that values name are kept -/
def Kp (g g' : Gh) : Prop := ∀ a r, g a = some r → (∀ i, r ≠ .own i) → r ≠ .vw → g' a = some r
theorem Ext.kp {g g' : Gh} {H H' : Hp} (e : Ext g H g' H') : Kp g g' := fun a r h _ _ => e.le a r h
theorem ExtS.kp {g g' : Gh} {H H' : Hp} (e : ExtS g H g' H') : Kp g g' := fun a r h n _ => e.le a r h n
mutual
theorem Rv.kp {g g' : Gh} (k : Kp g g') : ∀ (d : D) (v : V), Rv K g d v → Rv K g' d v
  | .non, _, h => by simpa only [Rv] using h
  | .bl _, _, h => by simpa only [Rv] using h
  | .int _, _, h => by simpa only [Rv] using h
  | .str _, _, h => by simpa only [Rv] using h
  | .tup ds, v, h => by
    simp only [Rv] at h ⊢
    obtain ⟨a, vs, e, ha, r⟩ := h
    exact ⟨a, vs, e, k a _ ha (fun _ z => by cases z) (fun z => by cases z), Rvs.kp k ds vs r⟩
  | .lst ds, v, h => by
    simp only [Rv] at h ⊢
    obtain ⟨a, vs, e, ha, r⟩ := h
    exact ⟨a, vs, e, k a _ ha (fun _ z => by cases z) (fun z => by cases z), Rvs.kp k ds vs r⟩
  | .scr ns, v, h => by
    simp only [Rv] at h ⊢
    obtain ⟨a, e, h⟩ := h
    refine ⟨a, e, ?_⟩
    rcases h with ⟨o, ha, ho⟩ | h
    · exact .inl ⟨o, k a _ ha (fun _ z => by cases z) (fun z => by cases z), ho⟩
    · exact .inr h
  | .ref n, v, h => by
    simp only [Rv] at h ⊢
    obtain ⟨a, e, ha⟩ := h
    exact ⟨a, e, k a _ ha (fun _ z => by cases z) (fun z => by cases z)⟩
  | .ins _ _, _, h => by simp only [Rv] at h
  | .exc _ _, _, h => by simp only [Rv] at h
theorem Rvs.kp {g g' : Gh} (k : Kp g g') : ∀ (ds : List D) (vs : List V), Rvs K g ds vs → Rvs K g' ds vs
  | [], _, h => by simpa only [Rvs] using h
  | d :: ds, vs, h => by
    simp only [Rvs] at h ⊢
    obtain ⟨v, r, e, h1, h2⟩ := h
    exact ⟨v, r, e, Rv.kp k d v h1, Rvs.kp k ds r h2⟩
end
theorem Rvs.nil {g : Gh} : Rvs K g [] [] := by simp only [Rvs]
theorem Rvs.cons {g : Gh} {d : D} {ds : List D} {v : V} {vs : List V} (h : Rv K g d v) (r : Rvs K g ds vs) : Rvs K g (d :: ds) (v :: vs) := by
  simp only [Rvs]
  exact ⟨v, vs, rfl, h, r⟩
theorem Rvs.inv {g : Gh} {d : D} {ds : List D} {vs : List V} (h : Rvs K g (d :: ds) vs) : ∃ v r, vs = v :: r ∧ Rv K g d v ∧ Rvs K g ds r := by
  simpa only [Rvs] using h
theorem Rvs.inv0 {g : Gh} {vs : List V} (h : Rvs K g [] vs) : vs = [] := by simpa only [Rvs] using h
theorem Rvs.len {g : Gh} : ∀ {ds : List D} {vs : List V}, Rvs K g ds vs → ds.length = vs.length
  | [], _, h => by rw [h.inv0]; rfl
  | d :: ds, _, h => by
    obtain ⟨v, r, rfl, _, h2⟩ := h.inv
    simp only [List.length_cons, h2.len]
theorem Rvs.append {g : Gh} : ∀ {ds es : List D} {vs ws : List V}, Rvs K g ds vs → Rvs K g es ws → Rvs K g (ds ++ es) (vs ++ ws)
  | [], _, _, _, h, h' => by rw [h.inv0]; exact h'
  | d :: ds, _, _, _, h, h' => by
    obtain ⟨v, r, rfl, h1, h2⟩ := h.inv
    exact .cons h1 (h2.append h')
theorem Rvs.get {g : Gh} : ∀ {ds : List D} {vs : List V} {i : Nat} {d : D}, Rvs K g ds vs → ds[i]? = some d → ∃ v, vs[i]? = some v ∧ Rv K g d v
  | [], _, _, _, h, e => by simp at e
  | d :: ds, _, 0, d', h, e => by
    obtain ⟨v, r, rfl, h1, h2⟩ := h.inv
    simp only [List.getElem?_cons_zero, Option.some.injEq] at e
    subst e
    exact ⟨v, rfl, h1⟩
  | d :: ds, _, i + 1, d', h, e => by
    obtain ⟨v, r, rfl, h1, h2⟩ := h.inv
    exact h2.get (by simpa using e)
theorem Rvs.set {g : Gh} {d : D} {v : V} (hd : Rv K g d v) : ∀ {ds : List D} {vs : List V} (i : Nat), Rvs K g ds vs → Rvs K g (ds.set i d) (vs.set i v)
  | [], _, _, h => by rw [h.inv0]; exact .nil
  | d :: ds, _, 0, h => by
    obtain ⟨v, r, rfl, h1, h2⟩ := h.inv
    exact .cons hd h2
  | d :: ds, _, i + 1, h => by
    obtain ⟨v, r, rfl, h1, h2⟩ := h.inv
    exact .cons h1 (h2.set hd i)
theorem Rvs.insert {g : Gh} {d : D} {v : V} (hd : Rv K g d v) : ∀ {ds : List D} {vs : List V} (i : Nat), Rvs K g ds vs → Rvs K g (ds.insertIdx i d) (vs.insertIdx i v)
  | ds, vs, 0, h => .cons hd h
  | [], _, i + 1, h => by rw [h.inv0]; exact .nil
  | d :: ds, _, i + 1, h => by
    obtain ⟨v, r, rfl, h1, h2⟩ := h.inv
    exact .cons h1 (h2.insert hd i)
theorem Rvs.take {g : Gh} : ∀ {ds : List D} {vs : List V} (n : Nat), Rvs K g ds vs → Rvs K g (ds.take n) (vs.take n)
  | _, _, 0, _ => .nil
  | [], _, n + 1, h => by rw [h.inv0]; exact .nil
  | d :: ds, _, n + 1, h => by
    obtain ⟨v, r, rfl, h1, h2⟩ := h.inv
    exact .cons h1 (h2.take n)
theorem Rvs.drop {g : Gh} : ∀ {ds : List D} {vs : List V} (n : Nat), Rvs K g ds vs → Rvs K g (ds.drop n) (vs.drop n)
  | _, _, 0, h => h
  | [], _, n + 1, h => by rw [h.inv0]; exact .nil
  | d :: ds, _, n + 1, h => by
    obtain ⟨v, r, rfl, h1, h2⟩ := h.inv
    exact h2.drop n
theorem Rvs.cut {g : Gh} {ds : List D} {vs : List V} (h : Rvs K g ds vs) (lo hi : Option Int) : Rvs K g (Co.cut ds lo hi) (cutV vs lo hi) := by
  unfold Co.cut cutV
  rw [h.len]
  exact (h.drop _).take _
theorem Rvs.flat {g : Gh} {ds : List D} {vs : List V} (h : Rvs K g ds vs) : ∀ n : Nat, Rvs K g (List.replicate n ds).flatten (List.replicate n vs).flatten
  | 0 => .nil
  | n + 1 => by
    simp only [List.replicate_succ, List.flatten_cons]
    exact h.append (h.flat n)
theorem Rvs.ints {g : Gh} : ∀ (ns : List Int), Rvs K g (ns.map D.int) (ns.map V.int)
  | [] => .nil
  | n :: ns => .cons (by simp only [Rv]) (Rvs.ints ns)

/-! ### a value stands -/
theorem RX.step {g g' : Gh} {H H' : Hp} {x : X} {v : V} (e : Ext g H g' H') (h : RX K g H x.arg v) : RX K g' H' x.arg v := by
  cases x with
  | v d => exact Rv.kp e.kp d v h
  | vw ds =>
    obtain ⟨a, vs, rfl, hr, ha, r⟩ := h
    refine ⟨a, vs, rfl, ?_, ?_, Rvs.kp e.kp _ _ r⟩
    · rcases hr with hr | ⟨i, hr⟩
      · exact .inl (e.le _ _ hr)
      · exact .inr ⟨i, e.le _ _ hr⟩
    · rcases hr with hr | ⟨i, hr⟩
      · rw [e.st _ _ hr (fun _ z => by cases z)]; exact ha
      · rw [e.st _ _ hr (fun _ z => by cases z)]; exact ha
  | own ds => exact Rv.kp e.kp _ v h
theorem X.arg_arg (x : X) : x.arg.arg = x.arg := by cases x <;> rfl
theorem RS.step {g g' : Gh} {H H' : Hp} {i : Nat} {x : X} {v : V} (e : Ext g H g' H') (h : RS K g H i x v) : RS K g' H' i x v := by
  cases x with
  | v d => exact Rv.kp e.kp d v h
  | vw ds =>
    obtain ⟨a, vs, rfl, hr, ha, r⟩ := h
    exact ⟨a, vs, rfl, e.le _ _ hr, by rw [e.st _ _ hr (fun _ z => by cases z)]; exact ha, Rvs.kp e.kp _ _ r⟩
  | own ds =>
    obtain ⟨a, vs, rfl, hr, ha, r⟩ := h
    exact ⟨a, vs, rfl, e.le _ _ hr, by rw [e.st _ _ hr (fun _ z => by cases z)]; exact ha, Rvs.kp e.kp _ _ r⟩
theorem SRel.step {g g' : Gh} {H H' : Hp} {sl : Sl} {σ : L2.St} (e : Ext g H g' H') (h : SRel K g sl σ H) : SRel K g' sl σ H' :=
  ⟨h.len, fun i x hx => let ⟨v, e1, r⟩ := h.at_ i x hx; ⟨v, e1, r.step e⟩⟩
theorem RS.rd {g : Gh} {H : Hp} {i : Nat} {x : X} {v : V} (h : RS K g H i x v) : RX K g H x.rd v := by
  cases x with
  | v d => exact h
  | vw ds =>
    obtain ⟨a, vs, rfl, hr, ha, r⟩ := h
    exact ⟨a, vs, rfl, .inl hr, ha, r⟩
  | own ds =>
    obtain ⟨a, vs, rfl, hr, ha, r⟩ := h
    exact ⟨a, vs, rfl, .inr ⟨i, hr⟩, ha, r⟩

/-! ### new things -/
section
variable {g : Gh} {s : S} {H : Hp} {p : Addr} {o : HO}
theorem HRel.new (h : HRel K g s H) (hp : H p = none) : g p = none := by
  cases e : g p with
  | none => rfl
  | some r =>
    obtain ⟨o, ho⟩ := h.dom p r e
    rw [hp] at ho
    cases ho
/-- a new object without a role -/
theorem HRel.laid (h : HRel K g s H) (hp : H p = none) : HRel K g s (upd H p o) := by
  have hn := h.new hp
  have ne : ∀ a r, g a = some r → a ≠ p := fun a r e z => by rw [z, hn] at e; cases e
  refine ⟨fun a u e => by rw [upd_ne (ne a _ e)]; exact h.fz a u e, fun a r e => by rw [upd_ne (ne a _ e)]; exact h.dom a r e, fun n u e => ?_, h.uq, h.bd⟩
  obtain ⟨a, ha, r⟩ := h.io n u e
  exact ⟨a, ha, by rw [upd_ne (ne a _ ha)]; exact r⟩
theorem Ext.laid (h : HRel K g s H) (hp : H p = none) : Ext g H g (upd H p o) := by
  have hn := h.new hp
  exact ⟨fun _ _ e => e, fun a r e _ => upd_ne fun z => by rw [z, hn] at e; cases e⟩
/-- an object without a role gets one -/
theorem HRel.role (h : HRel K g s H) {r : Role} (hp : g p = none) (ho : H p = some o) (hf : ∀ u, r = .fz u → u = o) (hi : ∀ n, r ≠ .io n) : HRel K (gset g p (some r)) s H := by
  have kp : Kp g (gset g p (some r)) := fun a q e _ _ => by rw [gset_ne (fun z => by rw [z, hp] at e; cases e)]; exact e
  refine ⟨fun a u e => ?_, fun a q e => ?_, fun n u e => ?_, fun a b n ea eb => ?_, fun a n e => ?_⟩
  · by_cases z : a = p
    · subst z
      rw [gset_same] at e
      rw [hf u (Option.some.inj e)]
      exact ho
    · rw [gset_ne z] at e
      exact h.fz a u e
  · by_cases z : a = p
    · subst z; exact ⟨o, ho⟩
    · rw [gset_ne z] at e
      exact h.dom a q e
  · obtain ⟨a, ha, q⟩ := h.io n u e
    refine ⟨a, by rw [gset_ne (fun z => by rw [z, hp] at ha; cases ha)]; exact ha, ?_⟩
    cases u with
    | lst ds =>
      obtain ⟨vs, e1, r1⟩ := q
      exact ⟨vs, e1, Rvs.kp kp _ _ r1⟩
  · have na : a ≠ p := fun z => by rw [z, gset_same] at ea; exact hi n (Option.some.inj ea)
    have nb : b ≠ p := fun z => by rw [z, gset_same] at eb; exact hi n (Option.some.inj eb)
    rw [gset_ne na] at ea
    rw [gset_ne nb] at eb
    exact h.uq a b n ea eb
  · have na : a ≠ p := fun z => by rw [z, gset_same] at e; exact hi n (Option.some.inj e)
    rw [gset_ne na] at e
    exact h.bd a n e
theorem Ext.role {r : Role} (hp : g p = none) : Ext g H (gset g p (some r)) H :=
  ⟨fun a q e => by rw [gset_ne (fun z => by rw [z, hp] at e; cases e)]; exact e, fun _ _ _ _ => rfl⟩
/-- an operand: a list of one's own is frozen -/
theorem RX.argd {x : X} {v : V} (h : HRel K g s H) (r : RX K g H x v) : ∃ g', Ext g H g' H ∧ HRel K g' s H ∧ RX K g' H x.arg v := by
  cases x with
  | v d => exact ⟨g, Ext.refl g H, h, r⟩
  | vw ds => exact ⟨g, Ext.refl g H, h, r⟩
  | own ds =>
    obtain ⟨a, vs, rfl, hn, ha, q⟩ := r
    refine ⟨gset g a (some (.fz (.lst vs))), Ext.role hn, h.role hn ha (fun u e => by cases e; rfl) (fun _ z => by cases z), ?_⟩
    show Rv K _ (.lst ds) (.ref a)
    simp only [Rv]
    exact ⟨a, vs, rfl, gset_same, Rvs.kp (Ext.role (H := H) hn).kp _ _ q⟩
theorem RX.stod {x : X} {v : V} {d : D} (h : HRel K g s H) (r : RX K g H x v) (e : x.sto = some d) : ∃ g', Ext g H g' H ∧ HRel K g' s H ∧ Rv K g' d v := by
  cases x with
  | v d' =>
    have e' : d' = d := Option.some.inj e
    subst e'
    exact ⟨g, Ext.refl g H, h, r⟩
  | vw ds => cases e
  | own ds =>
    have e' : D.lst ds = d := Option.some.inj e
    subst e'
    exact RX.argd (x := .own ds) h r
end

/-! ### as data -/
section
variable {X : Cx} {pins : List (Addr × Obj)} {σ : L2.St} {H : Hp} {sh : Shared} {g : Gh} {s : S}
theorem HRel.sqt (h : HRel K g s H) {a : Addr} {vs : List V} (e : g a = some (.fz (.tup vs))) : SqT K H a vs := SqT.of (h.fz a _ e)
theorem HRel.sql (h : HRel K g s H) {a : Addr} {vs : List V} (e : g a = some (.fz (.lst vs))) : SqL K H a vs := SqL.of (h.fz a _ e)
mutual
theorem Rv.dp (h : HRel K g s H) : ∀ (d : D) (v : V) (p : PyData), Rv K g d v → d.py = some p → Dp K H v p
  | .non, _, _, r, e => by
    simp only [Rv] at r; simp only [D.py, Option.some.injEq] at e; subst r e; exact .non
  | .bl b, _, _, r, e => by
    simp only [Rv] at r; simp only [D.py, Option.some.injEq] at e; subst r e; exact .bl b
  | .int i, _, _, r, e => by
    simp only [Rv] at r; simp only [D.py, Option.some.injEq] at e; subst r e; exact .int i
  | .str x, _, _, r, e => by
    simp only [Rv] at r; simp only [D.py, Option.some.injEq] at e; subst r e; exact .str x
  | .tup ds, _, _, r, e => by
    simp only [Rv] at r
    obtain ⟨a, vs, rfl, ha, r⟩ := r
    simp only [D.py, Option.map_eq_some_iff] at e
    obtain ⟨ps, e1, rfl⟩ := e
    exact .tup (h.sqt ha) (Rvs.dp h ds vs ps r e1)
  | .lst ds, _, _, r, e => by
    simp only [Rv] at r
    obtain ⟨a, vs, rfl, ha, r⟩ := r
    simp only [D.py, Option.map_eq_some_iff] at e
    obtain ⟨ps, e1, rfl⟩ := e
    exact .lst (h.sql ha) (Rvs.dp h ds vs ps r e1)
  | .scr _, _, _, _, e => by simp only [D.py] at e; cases e
  | .ref _, _, _, _, e => by simp only [D.py] at e; cases e
  | .ins _ _, _, _, _, e => by simp only [D.py] at e; cases e
  | .exc _ _, _, _, _, e => by simp only [D.py] at e; cases e
theorem Rvs.dp (h : HRel K g s H) : ∀ (ds : List D) (vs : List V) (ps : List PyData), Rvs K g ds vs → D.pys ds = some ps → DpAll K H vs ps
  | [], _, _, r, e => by
    rw [r.inv0]
    simp only [D.pys, Option.some.injEq] at e
    subst e
    exact .nil
  | d :: ds, _, ps, r, e => by
    obtain ⟨v, w, rfl, r1, r2⟩ := r.inv
    simp only [D.pys] at e
    cases e1 : d.py with
    | none => rw [e1] at e; simp at e
    | some p =>
      cases e2 : D.pys ds with
      | none => rw [e1, e2] at e; simp at e
      | some qs =>
        rw [e1, e2] at e
        simp only [Option.some.injEq] at e
        subst e
        exact .cons (Rv.dp h d v p r1 e1) (Rvs.dp h ds w qs r2 e2)
end
mutual
theorem D.plain : ∀ (d : D) (p : PyData), d.py = some p → p.plain = true
  | .non, _, e => by simp only [D.py, Option.some.injEq] at e; subst e; rfl
  | .bl _, _, e => by simp only [D.py, Option.some.injEq] at e; subst e; rfl
  | .int _, _, e => by simp only [D.py, Option.some.injEq] at e; subst e; rfl
  | .str _, _, e => by simp only [D.py, Option.some.injEq] at e; subst e; rfl
  | .tup ds, _, e => by
    simp only [D.py, Option.map_eq_some_iff] at e
    obtain ⟨ps, e1, rfl⟩ := e
    simp only [PyData.plain]
    exact D.plains ds ps e1
  | .lst ds, _, e => by
    simp only [D.py, Option.map_eq_some_iff] at e
    obtain ⟨ps, e1, rfl⟩ := e
    simp only [PyData.plain]
    exact D.plains ds ps e1
  | .scr _, _, e => by simp only [D.py] at e; cases e
  | .ref _, _, e => by simp only [D.py] at e; cases e
  | .ins _ _, _, e => by simp only [D.py] at e; cases e
  | .exc _ _, _, e => by simp only [D.py] at e; cases e
theorem D.plains : ∀ (ds : List D) (ps : List PyData), D.pys ds = some ps → PyData.plainAll ps = true
  | [], _, e => by simp only [D.pys, Option.some.injEq] at e; subst e; simp only [PyData.plainAll]
  | d :: ds, ps, e => by
    simp only [D.pys] at e
    cases e1 : d.py with
    | none => rw [e1] at e; simp at e
    | some p =>
      cases e2 : D.pys ds with
      | none => rw [e1, e2] at e; simp at e
      | some qs =>
        rw [e1, e2] at e
        simp only [Option.some.injEq] at e
        subst e
        simp only [PyData.plainAll, D.plain d p e1, D.plains ds qs e2, Bool.and_self]
end
/-- an operand's list -/
theorem RX.list {x : Co.X} {v : V} {ds : List D} (h : HRel K g s H) (r : RX K g H x.arg v) (e : x.arg.d = .lst ds) : ∃ a vs, v = .ref a ∧ H a = some (.lst vs) ∧ Rvs K g ds vs := by
  cases x with
  | v d =>
    have e' : d = .lst ds := e
    subst e'
    have r' : Rv K g (.lst ds) v := r
    simp only [Rv] at r'
    obtain ⟨a, vs, rfl, ha, q⟩ := r'
    exact ⟨a, vs, rfl, h.fz _ _ ha, q⟩
  | vw es =>
    obtain ⟨a, vs, rfl, _, ha, q⟩ := r
    cases e
    exact ⟨a, vs, rfl, ha, q⟩
  | own es =>
    cases e
    have r' : Rv K g (.lst _) v := r
    simp only [Rv] at r'
    obtain ⟨a, vs, rfl, ha, q⟩ := r'
    exact ⟨a, vs, rfl, h.fz _ _ ha, q⟩
/-- .. when it is no list -/
theorem RX.val {x : Co.X} {v : V} {d : D} (r : RX K g H x.arg v) (e : x.arg.d = d) (hn : ∀ ds, d ≠ .lst ds) : Rv K g d v := by
  cases x with
  | v d' =>
    have e' : d' = d := e
    subst e'
    exact r
  | vw es => exact absurd e.symm (hn es)
  | own es => exact absurd e.symm (hn es)
theorem RX.ref {v : V} {n : Nat} {o : O} (h : HRel K g s H) (r : Rv K g (.ref n) v) (e : s[n]? = some o) : ∃ a, v = .ref a ∧ g a = some (.io n) ∧ ORel K g o (H a) := by
  simp only [Rv] at r
  obtain ⟨a, rfl, ha⟩ := r
  obtain ⟨b, hb, q⟩ := h.io n o e
  have eab := h.uq a b n ha hb
  subst eab
  exact ⟨a, rfl, ha, q⟩
/-- the items of an operand -/
theorem RX.items {x : Co.X} {v : V} {ds : List D} (h : HRel K g s H) (r : RX K g H x.arg v) (e : x.arg.items s = some ds) :
    ∃ a vs, v = .ref a ∧ (SqL K H a vs ∨ SqT K H a vs) ∧ Rvs K g ds vs := by
  unfold Co.X.items at e
  cases hd : x.arg.d with
  | tup es =>
    rw [hd] at e
    cases e
    have q := RX.val r hd (fun _ z => by cases z)
    simp only [Rv] at q
    obtain ⟨a, vs, rfl, ha, q⟩ := q
    exact ⟨a, vs, rfl, .inr (h.sqt ha), q⟩
  | lst es =>
    rw [hd] at e
    cases e
    obtain ⟨a, vs, rfl, ha, q⟩ := RX.list h r hd
    exact ⟨a, vs, rfl, .inl (SqL.of ha), q⟩
  | ref n =>
    rw [hd] at e
    dsimp only at e
    have q := RX.val r hd (fun _ z => by cases z)
    cases es : s[n]? with
    | none => rw [es] at e; simp at e
    | some o =>
      cases o with
      | lst fs =>
        rw [es] at e
        simp only [Option.some.injEq] at e
        subst e
        obtain ⟨a, rfl, ha, vs, e1, r1⟩ := RX.ref h q es
        exact ⟨a, vs, rfl, .inl (SqL.of e1), r1⟩
  | _ => rw [hd] at e; cases e
theorem RX.dp {x : Co.X} {v : V} {p : PyData} (h : HRel K g s H) (r : RX K g H x.arg v) (e : x.arg.py s = some p) : Dp K H v p ∧ p.plain = true := by
  have lst : ∀ ds, x.arg.d = .lst ds → (D.lst ds).py = some p → Dp K H v p ∧ p.plain = true := fun ds hd e => by
    obtain ⟨a, vs, rfl, ha, q⟩ := RX.list h r hd
    refine ⟨?_, D.plain _ _ e⟩
    simp only [D.py, Option.map_eq_some_iff] at e
    obtain ⟨ps, e1, rfl⟩ := e
    exact .lst (SqL.of ha) (Rvs.dp h _ _ _ q e1)
  have oth : ∀ d, x.arg.d = d → (∀ ds, d ≠ .lst ds) → d.py = some p → Dp K H v p ∧ p.plain = true := fun d hd hn e => ⟨Rv.dp h d v p (RX.val r hd hn) e, D.plain _ _ e⟩
  unfold Co.X.py at e
  cases hd : x.arg.d with
  | lst ds => rw [hd] at e; exact lst ds hd e
  | ref n =>
    rw [hd] at e
    dsimp only at e
    have q := RX.val r hd (fun _ z => by cases z)
    cases es : s[n]? with
    | none => rw [es] at e; simp at e
    | some o =>
      cases o with
      | lst fs =>
        rw [es] at e
        obtain ⟨a, rfl, ha, vs, e1, r1⟩ := RX.ref h q es
        refine ⟨?_, D.plain _ _ e⟩
        simp only [D.py, Option.map_eq_some_iff] at e
        obtain ⟨ps, e2, rfl⟩ := e
        exact .lst (SqL.of e1) (Rvs.dp h _ _ _ r1 e2)
  | non => rw [hd] at e; exact oth _ hd (fun _ z => by cases z) e
  | bl b => rw [hd] at e; exact oth _ hd (fun _ z => by cases z) e
  | int i => rw [hd] at e; exact oth _ hd (fun _ z => by cases z) e
  | str z => rw [hd] at e; exact oth _ hd (fun _ z => by cases z) e
  | tup ds => rw [hd] at e; exact oth _ hd (fun _ z => by cases z) e
  | scr ns => rw [hd] at e; exact oth _ hd (fun _ z => by cases z) e
  | ins c fs => rw [hd] at e; exact oth _ hd (fun _ z => by cases z) e
  | exc c fs => rw [hd] at e; exact oth _ hd (fun _ z => by cases z) e
end
end Co
/-! CoC: the interpreter's expressions are what the model does. -/
namespace Co
open PySem PySem.Spec PyProof.Rows L2

/-- an exception: its class, its fields -/
def RE (K : PySem.W.Frag) (g : Gh) : D → Value → Option Addr → Prop
  | .exc c fs, cls, d => cls = .ref (He.ga K c) ∧ (fs = [] ∨ ∃ dd vfs, d = some dd ∧ g dd = some (.fz (.xd vfs)) ∧ vfs.map (·.1) = fs.map (·.1) ∧ Rvs K g (fs.map (·.2)) (vfs.map (·.2)))
  | _, _, _ => False
def Post (K : PySem.W.Frag) (W : WX) (σ : L2.St) (g : Gh) (H : Hp) {α β : Type} (rel : Gh → Hp → α → β → Prop) (Q : β → Hp → Prop) : R α → Prop
  | .ok x s' => ∀ g' H' v, Ext g H g' H' → HRel K g' s' H' → rel g' H' x v → Q v H'
  | .ex e s' => ∀ g' H' cls d, Ext g H g' H' → HRel K g' s' H' → RE K g' e cls d → W cls d σ H'
  | .bad => False
section
variable {K : PySem.W.Frag} {W : WX} {σ : L2.St} {g g' : Gh} {H H' : Hp} {α β γ δ : Type} {rel : Gh → Hp → α → β → Prop} {rel2 : Gh → Hp → γ → δ → Prop}
theorem Post.from {Q : β → Hp → Prop} {r : R α} (h : Post K W σ g H rel Q r) (e : Ext g H g' H') : Post K W σ g' H' rel Q r := by
  cases r with
  | ok x s => exact fun g2 H2 v e2 hr rx => h g2 H2 v (e.trans e2) hr rx
  | ex x s => exact fun g2 H2 c d e2 hr rx => h g2 H2 c d (e.trans e2) hr rx
  | bad => exact h
theorem Post.weaken {Q Q' : β → Hp → Prop} {r : R α} (h : Post K W σ g H rel Q r) (i : ∀ v H', Q v H' → Q' v H') : Post K W σ g H rel Q' r := by
  cases r with
  | ok x s => exact fun g2 H2 v e2 hr rx => i v H2 (h g2 H2 v e2 hr rx)
  | ex x s => exact h
  | bad => exact h
theorem Post.bind {Q : δ → Hp → Prop} {r : R α} {f : α → S → R γ} (h : Post K W σ g H rel2 Q (r.bind f)) :
    Post K W σ g H rel (fun v H1 => ∃ g1 s1 x, Ext g H g1 H1 ∧ HRel K g1 s1 H1 ∧ rel g1 H1 x v ∧ Post K W σ g1 H1 rel2 Q (f x s1)) r := by
  cases r with
  | ok x s => exact fun g2 H2 v e2 hr rx => ⟨g2, s, x, e2, hr, rx, Post.from h e2⟩
  | ex x s => exact h
  | bad => exact h
theorem Post.lift {Q : β → Hp → Prop} {s : S} {o : Option α} (h : Post K W σ g H rel Q (R.lift s o)) : ∃ x, o = some x ∧ ∀ g' H' v, Ext g H g' H' → HRel K g' s H' → rel g' H' x v → Q v H' := by
  cases o with
  | none => exact h.elim
  | some x => exact ⟨x, rfl, h⟩
end
abbrev relB : Gh → Hp → Bool → Bool → Prop := fun _ _ a b => a = b
abbrev relO : Gh → Hp → Option Int → Option Int → Prop := fun _ _ a b => a = b
section
variable (K : PySem.W.Frag) (W : WX) (G : Nat → Option D) (F : Fns)
def tE (c : E) : TE := fun σ H Q => ∃ g sl s, HRel K g s H ∧ SRel K g sl σ H ∧ Post K W σ g H (RX K) Q (ev G F sl c s)
/-- an expression's truth -/
def tst (sl : Sl) (c : E) (s : S) : R Bool := (ev G F sl c s).bind fun x s => R.lift s (truE s x.arg)
def tT (c : E) : TT := fun σ H Q => ∃ g sl s, HRel K g s H ∧ SRel K g sl σ H ∧ Post K W σ g H relB Q (tst G F sl c s)
def tA (cs : List E) : TA := fun σ H Q => ∃ g sl s, HRel K g s H ∧ SRel K g sl σ H ∧ Post K W σ g H (RXs K) Q (evs G F sl cs s)
def tO (c : Option E) : TO := fun σ H Q => ∃ g sl s, HRel K g s H ∧ SRel K g sl σ H ∧ Post K W σ g H relO Q (evo G F sl c s)
end
theorem PE.imp {X : Cx} {e : Expr} {t t' : TE} (h : PE X e t) (i : ∀ σ H Q, t' σ H Q → t σ H Q) : PE X e t' := ⟨fun pins s σ H Q I q => h.run pins s σ H Q I (i _ _ _ q)⟩
theorem PT.imp {X : Cx} {e : Expr} {t t' : TT} (h : PT X e t) (i : ∀ σ H Q, t' σ H Q → t σ H Q) : PT X e t' := ⟨fun pins s σ H Q I q => h.run pins s σ H Q I (i _ _ _ q)⟩
theorem PW.imp {X : Cx} {e : Expr} {t t' : TT} (h : PW X e t) (i : ∀ σ H Q, t' σ H Q → t σ H Q) : PW X e t' := ⟨fun w pins s σ H Q I q => h.run w pins s σ H Q I (i _ _ _ q)⟩
theorem PA.imp {X : Cx} {e : List Expr} {t t' : TA} (h : PA X e t) (i : ∀ σ H Q, t' σ H Q → t σ H Q) : PA X e t' := ⟨fun p pins s σ H Q I q => h.run p pins s σ H Q I (i _ _ _ q)⟩
theorem PO.imp {X : Cx} {e : Option Expr} {t t' : TO} (h : PO X e t) (i : ∀ σ H Q, t' σ H Q → t σ H Q) : PO X e t' := ⟨fun pins s σ H Q I q => h.run pins s σ H Q I (i _ _ _ q)⟩

/-! ### what the context gives -/
structure Ct (P : Prog) (gn fn : Nat → Str) (F : Fns) (W : WX) (X : Cx) : Prop where
  calm : X.calm = true
  nd : X.N.Nodup
  units : X.A.units + 100 < cLine
  gd : X.A.guards = some []
  glb : ∀ i d, P.G i = some d → ∃ u v, X.mg (gn i) = some u ∧ RelV v u ∧ ∀ g, Rv X.K g d v
  blt : ∀ x ∈ (["len", "abs", "int", "min", "max", "repr", "isinstance", "bool", "str", "tuple", "list", "all", "range"] : List Str), X.mg x = none
  call : ∀ f, (P.tab f).isSome = true → ∃ a, X.mg (fn f) = some (.ref a) ∧ PySem.W.keepIn X.K (.ref a) = true ∧
    ∀ (pins : List (Addr × Obj)) (σ : L2.St) (H : Hp) (sh : Shared) (us : List Value) (vs : List V) (g : Gh) (xs : List Co.X) (s : S) (Q : VK), Inv X pins σ H sh → Vals vs us → HRel X.K g s H → RXs X.K g H xs vs → (∀ x ∈ xs, x.arg = x) →
      Post X.K W σ g H (RX X.K) Q (F f xs s) → wpAny (model X.prog X.w) X.A (call (.ref a) us) (EP X pins σ Q) X.xe sh

section
variable {P : Prog} {gn fn : Nat → Str} {F : Fns} {W : WX} {X : Cx}
/-- an operand's reading, the operand let go -/
theorem opd {σ : L2.St} {H : Hp} {Q : VK} {c : E} {g : Gh} {sl : Sl} {s : S} {β γ : Type} {rel2 : Gh → Hp → γ → β → Prop} {Q2 : β → Hp → Prop} {f : Co.X → S → R γ} (hr : HRel X.K g s H) (sr : SRel X.K g sl σ H)
    (h : Post X.K W σ g H rel2 Q2 ((ev P.G F sl c s).bind f))
    (k : ∀ g1 s1 x v H1, Ext g H g1 H1 → HRel X.K g1 s1 H1 → SRel X.K g1 sl σ H1 → RX X.K g1 H1 x.arg v → Post X.K W σ g1 H1 rel2 Q2 (f x s1) → Q v H1) : tE X.K W P.G F c σ H Q := by
  refine ⟨g, sl, s, hr, sr, ?_⟩
  have b := Post.bind (rel := RX X.K) h
  revert b
  generalize ev P.G F sl c s = r
  intro b
  cases r with
  | ok x s1 =>
    intro g2 H2 v e2 hr2 rx
    obtain ⟨g1, s1', x', e1, hr1, rx1, p⟩ := b g2 H2 v e2 hr2 rx
    obtain ⟨g1', e1', hr1', rx'⟩ := RX.argd hr1 rx1
    exact k g1' s1' x' v H2 (e1.trans e1') hr1' (sr.step (e1.trans e1')) rx' (p.from e1')
  | ex e s1 => exact b
  | bad => exact b

/-! ### names and constants -/
theorem se_var {i : Nat} {x : Str} {pos : Pos} (hN : X.N[i]? = some x) (hv : Vis X.env.scope x) (hd : (x == ("__debug__" : Str)) = false) (hcd : (x == ("__classdict__" : Str)) = false) : PE X (.Name x pos) (tE X.K W P.G F (.var i)) := by
  refine PE.imp (pe_var hN hv hd hcd) fun σ H Q ⟨g, sl, s, hr, sr, h⟩ => ?_
  simp only [ev] at h
  cases e : sl[i]? with
  | none => rw [e] at h; exact h.elim
  | some o =>
    cases o with
    | none => rw [e] at h; exact h.elim
    | some y =>
      rw [e] at h
      obtain ⟨v, e1, r⟩ := sr.at_ i y e
      exact ⟨v, e1, h g H v (Ext.refl g H) hr r.rd⟩
theorem se_cst {d : D} {v : V} {e : Expr} (h : PE X e (tC v)) (r : ∀ g, Rv X.K g d v) : PE X e (tE X.K W P.G F (.cst d)) := by
  refine PE.imp h fun σ H Q ⟨g, sl, s, hr, sr, h⟩ => ?_
  exact h g H v (Ext.refl g H) hr (r g)
theorem se_glob (C : Ct P gn fn F W X) {i : Nat} {x : Str} {pos : Pos} (hx : x = gn i) (hg : Gl X x) (hd : (x == ("__debug__" : Str)) = false) : PE X (.Name x pos) (tE X.K W P.G F (.glob i)) := by
  cases e : P.G i with
  | none =>
    refine ⟨fun pins s σ H Q I ⟨g, sl, s', hr, sr, h⟩ => ?_⟩
    simp only [ev, e] at h
    exact h.elim
  | some d =>
    obtain ⟨u, v, hm, r, q⟩ := C.glb i d e
    refine PE.imp (pe_glob (v := v) hg (by rw [hx]; exact hm) r hd) fun σ H Q ⟨g, sl, s', hr, sr, h⟩ => ?_
    simp only [ev, e] at h
    exact h g H v (Ext.refl g H) hr (q g)

/-! ### argument lists -/
theorem sa_nil : PA X [] (tA X.K W P.G F []) := by
  refine PA.imp pa_nil fun σ H Q ⟨g, sl, s, hr, sr, h⟩ => ?_
  exact h g H [] (Ext.refl g H) hr rfl
theorem RXs.step {K : PySem.W.Frag} {g g' : Gh} {H H' : Hp} (e : Ext g H g' H') : ∀ {xs : List Co.X} {vs : List V}, (∀ x ∈ xs, x.arg = x) → RXs K g H xs vs → RXs K g' H' xs vs
  | [], _, _, h => h
  | x :: xs, _, ha, ⟨v, r, e1, h1, h2⟩ => by
    refine ⟨v, r, e1, ?_, RXs.step e (fun y hy => ha y (List.mem_cons_of_mem _ hy)) h2⟩
    have q : RX K g H x.arg v := by rw [ha x (List.mem_cons_self ..)]; exact h1
    rw [← ha x (List.mem_cons_self ..)]
    exact q.step e
theorem sa_cons {c : E} {cs : List E} {e : Expr} {es : List Expr} (ha : PE X e (tE X.K W P.G F c)) (hr : PA X es (tA X.K W P.G F cs)) (hs : starEach (e :: es) X.env = (false, eval e X.env) :: starEach es X.env) :
    PA X (e :: es) (tA X.K W P.G F (c :: cs)) := by
  refine PA.imp (pa_cons ha hr hs) fun σ H Q ⟨g, sl, s, hr, sr, h⟩ => ?_
  simp only [evs] at h
  refine opd hr sr h fun g1 s1 x v H1 e1 hr1 sr1 rx h1 => ?_
  refine ⟨g1, sl, s1, hr1, sr1, ?_⟩
  have b := Post.bind (rel := RXs X.K) h1
  revert b
  generalize evs P.G F sl cs s1 = r
  intro b
  cases r with
  | ok xs s2 =>
    intro g2 H2 vs e2 hr2 rxs
    obtain ⟨g3, s3, ys, e3, hr3, rys, p⟩ := b g2 H2 vs e2 hr2 rxs
    exact p g3 H2 (v :: vs) (Ext.refl _ _) hr3 ⟨v, vs, rfl, rx.step e3, rys⟩
  | ex e s2 => exact b
  | bad => exact b
theorem evs_arg {G : Nat → Option D} {F : Fns} {sl : Sl} : ∀ {cs : List E} {s s' : S} {xs : List Co.X}, evs G F sl cs s = .ok xs s' → ∀ x ∈ xs, x.arg = x
  | [], s, s', xs, h => by
    simp only [evs, R.ok.injEq] at h
    obtain ⟨rfl, _⟩ := h
    intro x hx
    cases hx
  | c :: cs, s, s', xs, h => by
    simp only [evs] at h
    cases e1 : ev G F sl c s with
    | ok x s1 =>
      rw [e1, R.bind_ok] at h
      cases e2 : evs G F sl cs s1 with
      | ok ys s2 =>
        rw [e2, R.bind_ok, R.ok.injEq] at h
        obtain ⟨rfl, _⟩ := h
        intro y hy
        rcases List.mem_cons.mp hy with rfl | hy
        · exact X.arg_arg x
        · exact evs_arg e2 y hy
      | ex e s2 => rw [e2] at h; cases h
      | bad => rw [e2] at h; cases h
    | ex e s1 => rw [e1] at h; cases h
    | bad => rw [e1] at h; cases h

/-! ### displays -/
theorem RXs.stod {K : PySem.W.Frag} {g : Gh} {H : Hp} : ∀ {xs : List Co.X} {vs : List V} {ds : List D}, (∀ x ∈ xs, x.arg = x) → RXs K g H xs vs → stoAll xs = some ds → Rvs K g ds vs
  | [], _, _, _, h, e => by
    cases e
    rw [show _ = [] from h]
    exact .nil
  | x :: xs, _, ds, ha, ⟨v, r, e1, h1, h2⟩, e => by
    subst e1
    have hx := ha x (List.mem_cons_self ..)
    unfold stoAll at e
    cases x with
    | v d =>
      simp only [X.sto] at e
      cases e2 : stoAll xs with
      | none => rw [e2] at e; cases e
      | some es =>
        rw [e2] at e
        cases e
        exact .cons h1 (RXs.stod (fun y hy => ha y (List.mem_cons_of_mem _ hy)) h2 e2)
    | vw ds => simp only [X.sto] at e; cases e
    | own ds => cases hx
theorem evs_len {G : Nat → Option D} {F : Fns} {sl : Sl} : ∀ {cs : List E} {s s' : S} {xs : List Co.X}, evs G F sl cs s = .ok xs s' → xs.length = cs.length
  | [], s, s', xs, h => by
    simp only [evs, R.ok.injEq] at h
    obtain ⟨rfl, _⟩ := h
    rfl
  | c :: cs, s, s', xs, h => by
    simp only [evs] at h
    cases e1 : ev G F sl c s with
    | ok x s1 =>
      rw [e1, R.bind_ok] at h
      cases e2 : evs G F sl cs s1 with
      | ok ys s2 =>
        rw [e2, R.bind_ok, R.ok.injEq] at h
        obtain ⟨rfl, _⟩ := h
        rw [List.length_cons, List.length_cons, evs_len e2]
      | ex e s2 => rw [e2] at h; cases h
      | bad => rw [e2] at h; cases h
    | ex e s1 => rw [e1] at h; cases h
    | bad => rw [e1] at h; cases h
theorem RXs.len {K : PySem.W.Frag} {g : Gh} {H : Hp} : ∀ {xs : List Co.X} {vs : List V}, RXs K g H xs vs → xs.length = vs.length
  | [], _, h => by rw [show _ = [] from h]; rfl
  | x :: xs, _, ⟨v, r, e1, h1, h2⟩ => by rw [e1, List.length_cons, List.length_cons, h2.len]
/-- an argument list's reading -/
theorem args {σ : L2.St} {H : Hp} {Q : List V → Hp → Prop} {cs : List E} {g : Gh} {sl : Sl} {s : S} {β γ : Type} {rel2 : Gh → Hp → γ → β → Prop} {Q2 : β → Hp → Prop} {f : List Co.X → S → R γ} (hr : HRel X.K g s H) (sr : SRel X.K g sl σ H)
    (h : Post X.K W σ g H rel2 Q2 ((evs P.G F sl cs s).bind f))
    (k : ∀ g1 s1 xs vs H1, Ext g H g1 H1 → HRel X.K g1 s1 H1 → SRel X.K g1 sl σ H1 → RXs X.K g1 H1 xs vs → (∀ x ∈ xs, x.arg = x) → xs.length = cs.length → Post X.K W σ g1 H1 rel2 Q2 (f xs s1) → Q vs H1) : tA X.K W P.G F cs σ H Q := by
  refine ⟨g, sl, s, hr, sr, ?_⟩
  have b := Post.bind (rel := RXs X.K) h
  have ha := @evs_arg P.G F sl cs s
  have hl := @evs_len P.G F sl cs s
  cases er : evs P.G F sl cs s with
  | ok x s1 =>
    rw [er] at h
    intro g2 H2 v e2 hr2 rx
    exact k g2 s1 x v H2 e2 hr2 (sr.step e2) rx (ha er) (hl er) (Post.from h e2)
  | ex e s1 => rw [er] at h; exact h
  | bad => rw [er] at h; exact h
theorem small_len {n m : Nat} (h : n = m) (hm : m ≤ 1000) : n ≤ sizeLine := by rw [sizeLine_eq]; omega
theorem se_tup {cs : List E} {es : List Expr} {x1 : Nat} {pos : Pos} (ha : PA X es (tA X.K W P.G F cs)) (hl : cs.length ≤ 1000) : PE X (.Tuple es x1 pos) (tE X.K W P.G F (.tup cs)) := by
  refine PE.imp (pe_tup ha) fun σ H Q ⟨g, sl, s, hr, sr, h⟩ => ?_
  simp only [ev] at h
  refine args hr sr h fun g1 s1 xs vs H1 e1 hr1 sr1 rxs ha hl1 h1 => ?_
  refine ⟨small_len (rxs.len.symm.trans hl1) hl, fun p hp => ?_⟩
  obtain ⟨x, ex, q⟩ := Post.lift h1
  simp only [Option.map_eq_some_iff] at ex
  obtain ⟨ds, ed, rfl⟩ := ex
  have hn : g1 p = none := hr1.new hp
  have hr2 := hr1.laid (o := .tup vs) hp
  refine q (gset g1 p (some (.fz (.tup vs)))) (upd H1 p (.tup vs)) (.ref p) ((Ext.laid hr1 hp).trans (Ext.role hn)) (hr2.role hn upd_same (fun u e => by cases e; rfl) (fun _ z => by cases z)) ?_
  show Rv _ _ (.tup ds) _
  simp only [Rv]
  exact ⟨p, vs, rfl, gset_same, Rvs.kp (Ext.role (H := H1) hn).kp _ _ (rxs.stod ha ed)⟩
theorem se_lst {cs : List E} {es : List Expr} {pos : Pos} (ha : PA X es (tA X.K W P.G F cs)) (hl : cs.length ≤ 1000) : PE X (.List es pos) (tE X.K W P.G F (.lst cs)) := by
  refine PE.imp (pe_lst ha) fun σ H Q ⟨g, sl, s, hr, sr, h⟩ => ?_
  simp only [ev] at h
  refine args hr sr h fun g1 s1 xs vs H1 e1 hr1 sr1 rxs ha hl1 h1 => ?_
  refine ⟨small_len (rxs.len.symm.trans hl1) hl, fun p hp => ?_⟩
  obtain ⟨x, ex, q⟩ := Post.lift h1
  simp only [Option.map_eq_some_iff] at ex
  obtain ⟨ds, ed, rfl⟩ := ex
  exact q g1 (upd H1 p (.lst vs)) (.ref p) (Ext.laid hr1 hp) (hr1.laid hp) ⟨p, vs, rfl, hr1.new hp, upd_same, rxs.stod ha ed⟩
end
end Co
/-! CoC2: operators and comparisons. -/
namespace Co
open PySem PySem.Spec PyProof.Rows L2

def bopA : BOp → Operator
  | .add => .Add | .sub => .Sub | .mul => .Mult | .fdiv => .FloorDiv | .mod => .Mod | .pow => .Pow
def copA : COp → CmpOp
  | .eq => .Eq | .ne => .NotEq | .lt => .Lt | .le => .LtE | .gt => .Gt | .ge => .GtE | .is => .Is | .isNot => .IsNot | .in => .In | .notIn => .NotIn
def rB (K : PySem.W.Frag) (op : BOp) : R2 := fun v u H Q => ∃ g s, ∃ x y : Co.X, HRel K g s H ∧ RX K g H x.arg v ∧ RX K g H y.arg u ∧
  ∃ z, binE op s x.arg y.arg = some z ∧ ∀ g' H' w, Ext g H g' H' → HRel K g' s H' → RX K g' H' z w → Q w H'
def rC (K : PySem.W.Frag) (op : COp) : R2 := fun v u H Q => ∃ g s, ∃ x y : Co.X, HRel K g s H ∧ RX K g H x.arg v ∧ RX K g H y.arg u ∧
  ∃ k, cmpE op s x.arg y.arg = some k ∧ Q (.bl k) H
section
variable {X : Cx}

theorem val_int {K : PySem.W.Frag} {g : Gh} {H : Hp} {x : Co.X} {v : V} {i : Int} (r : RX K g H x.arg v) (e : x.arg.d = .int i) : v = .int i := by
  have q := RX.val r e (fun _ z => by cases z)
  simpa only [Rv] using q
theorem val_str {K : PySem.W.Frag} {g : Gh} {H : Hp} {x : Co.X} {v : V} {i : Str} (r : RX K g H x.arg v) (e : x.arg.d = .str i) : v = .str i := by
  have q := RX.val r e (fun _ z => by cases z)
  simpa only [Rv] using q
theorem val_bl {K : PySem.W.Frag} {g : Gh} {H : Hp} {x : Co.X} {v : V} {i : Bool} (r : RX K g H x.arg v) (e : x.arg.d = .bl i) : v = .bl i := by
  have q := RX.val r e (fun _ z => by cases z)
  simpa only [Rv] using q
theorem val_tup {K : PySem.W.Frag} {g : Gh} {H : Hp} {s : S} {x : Co.X} {v : V} {ds : List D} (h : HRel K g s H) (r : RX K g H x.arg v) (e : x.arg.d = .tup ds) : ∃ a vs, v = .ref a ∧ SqT K H a vs ∧ Rvs K g ds vs ∧ g a = some (.fz (.tup vs)) := by
  have q := RX.val r e (fun _ z => by cases z)
  simp only [Rv] at q
  obtain ⟨a, vs, e1, ha, q⟩ := q
  exact ⟨a, vs, e1, h.sqt ha, q, ha⟩
theorem rv_int {K : PySem.W.Frag} {g : Gh} {H : Hp} {i : Int} : RX K g H (.v (.int i)) (.int i) := by
  show Rv _ _ _ _
  simp only [Rv]
theorem rv_str {K : PySem.W.Frag} {g : Gh} {H : Hp} {i : Str} : RX K g H (.v (.str i)) (.str i) := by
  show Rv _ _ _ _
  simp only [Rv]
theorem rv_bl {K : PySem.W.Frag} {g : Gh} {H : Hp} {i : Bool} : RX K g H (.v (.bl i)) (.bl i) := by
  show Rv _ _ _ _
  simp only [Rv]
/-- a new list is the answer -/
theorem new_own {K : PySem.W.Frag} {g : Gh} {H : Hp} {s : S} {Q : VK} {ds : List D} {vs : List V} (hr : HRel K g s H) (r : Rvs K g ds vs) (q : ∀ g' H' w, Ext g H g' H' → HRel K g' s H' → RX K g' H' (.own ds) w → Q w H') :
    ∀ p, H p = none → Q (.ref p) (upd H p (.lst vs)) := fun p hp => q g _ _ (Ext.laid hr hp) (hr.laid hp) ⟨p, vs, rfl, hr.new hp, upd_same, r⟩
/-- a new tuple is the answer -/
theorem new_tup {K : PySem.W.Frag} {g : Gh} {H : Hp} {s : S} {Q : VK} {ds : List D} {vs : List V} (hr : HRel K g s H) (r : Rvs K g ds vs) (q : ∀ g' H' w, Ext g H g' H' → HRel K g' s H' → RX K g' H' (.v (.tup ds)) w → Q w H') :
    ∀ p, H p = none → Q (.ref p) (upd H p (.tup vs)) := fun p hp => by
  have hn : g p = none := hr.new hp
  refine q (gset g p (some (.fz (.tup vs)))) _ _ ((Ext.laid hr hp).trans (Ext.role hn)) ((hr.laid hp).role hn upd_same (fun u e => by cases e; rfl) (fun _ z => by cases z)) ?_
  show Rv _ _ (.tup ds) _
  simp only [Rv]
  exact ⟨p, vs, rfl, gset_same, Rvs.kp (Ext.role (H := H) hn).kp _ _ r⟩
theorem intBits_le (x : Int) : Builtin.Int.intBits x ≤ x.natAbs.log2 + 1 := by
  unfold Builtin.Int.intBits
  split <;> omega

theorem op_ok (op : BOp) : OpR X (binaryOp (bopA op)) (rB X.K op) := by
  intro pins s σ H v u v' u' Q I rx ry h
  obtain ⟨g, st, x, y, hr, r1, r2, z, ez, q⟩ := h
  unfold binE at ez
  cases op with
  | add =>
    dsimp only at ez
    split at ez
    · rename_i i j hx hy
      cases ez
      have e1 := val_int r1 hx
      have e2 := val_int r2 hy
      subst e1 e2
      exact op_add pins s σ H _ _ v' u' Q I rx ry ⟨_, _, rfl, rfl, q g H _ (Ext.refl _ _) hr rv_int⟩
    · rename_i i j hx hy
      split at ez
      · rename_i hz
        cases ez
        have e1 := val_str r1 hx
        have e2 := val_str r2 hy
        subst e1 e2
        exact op_add_str pins s σ H _ _ v' u' Q I rx ry ⟨_, _, rfl, rfl, hz, q g H _ (Ext.refl _ _) hr rv_str⟩
      · cases ez
    · rename_i i j hx hy
      split at ez
      · rename_i hz
        cases ez
        obtain ⟨a, vs, rfl, ha, qa⟩ := RX.list hr r1 hx
        obtain ⟨b, ws, rfl, hb, qb⟩ := RX.list hr r2 hy
        exact op_cat pins s σ H _ _ v' u' Q I rx ry ⟨a, b, vs, ws, rfl, rfl, ha, hb, by rw [← qa.len, ← qb.len]; exact hz, new_own hr (qa.append qb) q⟩
      · cases ez
    · rename_i i j hx hy
      split at ez
      · rename_i hz
        cases ez
        obtain ⟨a, vs, rfl, ha, qa, ga⟩ := val_tup hr r1 hx
        obtain ⟨b, ws, rfl, hb, qb, gb⟩ := val_tup hr r2 hy
        refine op_catT pins s σ H _ _ v' u' Q I rx ry ⟨a, b, vs, ws, rfl, rfl, ha, hb, ?_, by rw [← qa.len, ← qb.len]; exact hz.1, fun e => ?_, fun _ => new_tup hr (qa.append qb) q⟩
        · intro e
          subst e
          have l := qa.len
          have z2 := hz.2
          cases i with
          | nil => cases z2
          | cons => cases l
        · subst e
          have l := qb.len
          cases j with
          | nil =>
            refine q g H _ (Ext.refl _ _) hr ?_
            show Rv _ _ (.tup (i ++ [])) _
            simp only [List.append_nil, Rv]
            exact ⟨a, vs, rfl, ga, qa⟩
          | cons => cases l
      · cases ez
    · cases ez
  | sub =>
    dsimp only at ez
    split at ez
    · rename_i i j hx hy
      cases ez
      have e1 := val_int r1 hx
      have e2 := val_int r2 hy
      subst e1 e2
      exact op_sub pins s σ H _ _ v' u' Q I rx ry ⟨_, _, rfl, rfl, q g H _ (Ext.refl _ _) hr rv_int⟩
    · cases ez
  | mul =>
    dsimp only at ez
    split at ez
    · rename_i i j hx hy
      split at ez
      · rename_i hz
        cases ez
        have e1 := val_int r1 hx
        have e2 := val_int r2 hy
        subst e1 e2
        exact op_mulW pins s σ H _ _ v' u' Q I rx ry ⟨_, _, rfl, rfl, hz, q g H _ (Ext.refl _ _) hr rv_int⟩
      · cases ez
    · rename_i i j hx hy
      split at ez
      · rename_i hz
        cases ez
        obtain ⟨a, vs, rfl, ha, qa⟩ := RX.list hr r1 hx
        have e2 := val_int r2 hy
        subst e2
        exact op_rep pins s σ H _ _ v' u' Q I rx ry ⟨a, j, vs, rfl, rfl, ha, hz.2.1, hz.2.2, by rw [← qa.len]; exact hz.1, new_own hr (qa.flat _) q⟩
      · cases ez
    · cases ez
  | fdiv =>
    dsimp only at ez
    split at ez
    · rename_i i j hx hy
      split at ez
      · rename_i hz
        cases ez
        have e1 := val_int r1 hx
        have e2 := val_int r2 hy
        subst e1 e2
        exact op_fdivW pins s σ H _ _ v' u' Q I rx ry ⟨_, _, rfl, rfl, hz, q g H _ (Ext.refl _ _) hr rv_int⟩
      · cases ez
    · cases ez
  | mod =>
    dsimp only at ez
    split at ez
    · rename_i i j hx hy
      split at ez
      · rename_i hz
        cases ez
        have e1 := val_int r1 hx
        have e2 := val_int r2 hy
        subst e1 e2
        exact op_mod pins s σ H _ _ v' u' Q I rx ry ⟨_, _, rfl, rfl, hz, q g H _ (Ext.refl _ _) hr rv_int⟩
      · cases ez
    · cases ez
  | pow =>
    dsimp only at ez
    split at ez
    · rename_i i j hx hy
      split at ez
      · rename_i hz
        cases ez
        have e1 := val_int r1 hx
        have e2 := val_int r2 hy
        subst e1 e2
        obtain ⟨t, rfl⟩ := rx
        obtain ⟨t', rfl⟩ := ry
        refine pow_int hz.1 ?_ ⟨.int _, H, I.tok _, ⟨_, rfl⟩, q g H _ (Ext.refl _ _) hr rv_int⟩
        have h1 := intBits_le i
        have h2 : (Builtin.Int.intBits i) * j.toNat ≤ 2 ^ 27 := Nat.le_trans (Nat.mul_le_mul_right _ h1) hz.2
        have h3 : (j.toNat : Int) = j := Int.toNat_of_nonneg hz.1
        rw [← h3]
        exact_mod_cast h2
      · cases ez
    · cases ez

/-! ### comparisons -/
theorem min_ok {u a b : Nat} (h : u + 100 < cLine) (z : a ≤ 64 ∨ b ≤ 64) : u + min a b < cLine := by
  have : min a b ≤ 64 := by rcases z with z | z <;> omega
  omega
theorem rel_non {K : PySem.W.Frag} {g : Gh} {H : Hp} {x : Co.X} {v : V} (r : RX K g H x.arg v) : decide (v = .non) = (match x.arg.d with | .non => true | _ => false) := by
  have oth : ∀ d, x.arg.d = d → (∀ ds, d ≠ .lst ds) → Rv K g d v := fun d e hn => RX.val r e hn
  cases hd : x.arg.d with
  | non =>
    have q := oth _ hd (fun _ z => by cases z)
    simp only [Rv] at q
    subst q
    rfl
  | lst ds =>
    have : ∃ a, v = .ref a := by
      cases x with
      | v d =>
        have e' : d = .lst ds := hd
        subst e'
        have r' : Rv K g (.lst ds) v := r
        simp only [Rv] at r'
        obtain ⟨a, _, e, _⟩ := r'
        exact ⟨a, e⟩
      | vw es => obtain ⟨a, vs, rfl, _⟩ := r; exact ⟨a, rfl⟩
      | own es =>
        have r' : Rv K g (.lst _) v := r
        simp only [Rv] at r'
        obtain ⟨a, _, e, _⟩ := r'
        exact ⟨a, e⟩
    obtain ⟨a, rfl⟩ := this
    exact decide_eq_false (fun z => by cases z)
  | bl b => have q := oth _ hd (fun _ z => by cases z); simp only [Rv] at q; subst q; rfl
  | int b => have q := oth _ hd (fun _ z => by cases z); simp only [Rv] at q; subst q; rfl
  | str b => have q := oth _ hd (fun _ z => by cases z); simp only [Rv] at q; subst q; rfl
  | tup b => have q := oth _ hd (fun _ z => by cases z); simp only [Rv] at q; obtain ⟨a, _, rfl, _⟩ := q; exact decide_eq_false (fun z => by cases z)
  | scr b => have q := oth _ hd (fun _ z => by cases z); simp only [Rv] at q; obtain ⟨a, rfl, _⟩ := q; exact decide_eq_false (fun z => by cases z)
  | ref b => have q := oth _ hd (fun _ z => by cases z); simp only [Rv] at q; obtain ⟨a, rfl, _⟩ := q; exact decide_eq_false (fun z => by cases z)
  | ins b c => have q := oth _ hd (fun _ z => by cases z); simp only [Rv] at q
  | exc b c => have q := oth _ hd (fun _ z => by cases z); simp only [Rv] at q
theorem isNone_ne {p : PyData} (h : isNone p = false) : p ≠ .none := fun e => by subst e; cases h
/-- the two sides' data, read -/
theorem two_reads {pins : List (Addr × Obj)} {sh : Shared} {σ : L2.St} {H : Hp} {g : Gh} {s : S} {x y : Co.X} {v u : V} {v' u' : Value} {p q : PyData} (I : Inv X pins σ H sh) (hr : HRel X.K g s H) (r1 : RX X.K g H x.arg v) (r2 : RX X.K g H y.arg u)
    (rx : RelV v v') (ry : RelV u u') (e1 : x.arg.py s = some p) (e2 : y.arg.py s = some q) : (∃ as, Reads sh.heap v' p as) ∧ (∃ as, Reads sh.heap u' q as) ∧ p.plain = true ∧ q.plain = true :=
  ⟨Dp.reads I p v v' (RX.dp hr r1 e1).1 rx, Dp.reads I q u u' (RX.dp hr r2 e2).1 ry, (RX.dp hr r1 e1).2, (RX.dp hr r2 e2).2⟩
theorem eqE_ok (hu : X.A.units + 100 < cLine) {pins : List (Addr × Obj)} {sh : Shared} {σ : L2.St} {H : Hp} {g : Gh} {s : S} {x y : Co.X} {v u : V} {v' u' : Value} {k : Bool} (I : Inv X pins σ H sh) (hr : HRel X.K g s H)
    (r1 : RX X.K g H x.arg v) (r2 : RX X.K g H y.arg u) (rx : RelV v v') (ry : RelV u u') (e : eqE s x.arg y.arg = some k) :
    ∃ p q as bs, Reads sh.heap v' p as ∧ Reads sh.heap u' q bs ∧ p.plain = true ∧ q.plain = true ∧ X.A.units + min p.depth q.depth < cLine ∧ k = PyData.eqv p q := by
  unfold eqE at e
  split at e
  · rename_i p q e1 e2
    split at e
    · rename_i hz
      cases e
      obtain ⟨⟨as, q1⟩, ⟨bs, q2⟩, h1, h2⟩ := two_reads I hr r1 r2 rx ry e1 e2
      exact ⟨p, q, as, bs, q1, q2, h1, h2, min_ok hu hz, rfl⟩
    · cases e
  · cases e
theorem ltE_ok (hu : X.A.units + 100 < cLine) {pins : List (Addr × Obj)} {sh : Shared} {σ : L2.St} {H : Hp} {g : Gh} {s : S} {x y : Co.X} {v u : V} {v' u' : Value} {k : Bool} (I : Inv X pins σ H sh) (hr : HRel X.K g s H)
    (r1 : RX X.K g H x.arg v) (r2 : RX X.K g H y.arg u) (rx : RelV v v') (ry : RelV u u') (e : ltE s x.arg y.arg = some k) :
    (∃ i j, v = .int i ∧ u = .int j ∧ k = decide (i < j)) ∨ ∃ p q as bs, Reads sh.heap v' p as ∧ Reads sh.heap u' q bs ∧ W.alike p q = true ∧ p ≠ .none ∧ X.A.units + min p.depth q.depth < cLine ∧ k = W.dataLt p q := by
  unfold ltE at e
  split at e
  · rename_i i j hx hy
    cases e
    exact .inl ⟨i, j, val_int r1 hx, val_int r2 hy, rfl⟩
  · split at e
    · rename_i p q e1 e2
      split at e
      · rename_i hz
        cases e
        obtain ⟨⟨as, q1⟩, ⟨bs, q2⟩, h1, h2⟩ := two_reads I hr r1 r2 rx ry e1 e2
        exact .inr ⟨p, q, as, bs, q1, q2, hz.1, isNone_ne hz.2.2.2, min_ok hu (.inl hz.2.1), rfl⟩
      · cases e
    · cases e
theorem inE_ok (hu : X.A.units + 100 < cLine) {pins : List (Addr × Obj)} {sh : Shared} {σ : L2.St} {H : Hp} {g : Gh} {s : S} {x y : Co.X} {v u : V} {v' u' : Value} {k : Bool} (I : Inv X pins σ H sh) (hr : HRel X.K g s H)
    (r1 : RX X.K g H x.arg v) (r2 : RX X.K g H y.arg u) (rx : RelV v v') (ry : RelV u u') (e : inE s x.arg y.arg = some k) :
    (∃ i j, v = .str i ∧ u = .str j ∧ k = !(Builtin.Str.occurrences j i 0 j.length 1).isEmpty) ∨
      ∃ p qs as bs, Reads sh.heap v' p as ∧ (Reads sh.heap u' (.list qs) bs ∨ Reads sh.heap u' (.tuple qs) bs) ∧ p.plain = true ∧ PyData.plainAll qs = true ∧ X.A.units + 1 + min (PyData.depthAll qs) p.depth < cLine ∧ k = qs.any fun q => PyData.eqv q p := by
  unfold inE at e
  split at e
  · rename_i j hy
    split at e
    · rename_i i hx
      cases e
      exact .inl ⟨i, j, val_str r1 hx, val_str r2 hy, rfl⟩
    · cases e
  · split at e
    · rename_i p ds e1 e2
      split at e
      · rename_i qs e3
        split at e
        · rename_i hz
          cases e
          obtain ⟨d1, d2⟩ := RX.dp hr r1 e1
          obtain ⟨as, q1⟩ := Dp.reads I p v v' d1 rx
          obtain ⟨a, vs, rfl, hq, rv⟩ := RX.items hr r2 e2
          have da := Rvs.dp hr ds vs qs rv e3
          have hu2 : X.A.units + 1 + min (PyData.depthAll qs) p.depth < cLine := by
            have : min (PyData.depthAll qs) p.depth ≤ 64 := by rcases hz with z | z <;> omega
            omega
          rcases hq with hq | hq
          · obtain ⟨bs, q2⟩ := Dp.reads I (.list qs) _ u' (.lst hq da) ry
            exact .inr ⟨p, qs, as, bs, q1, .inl q2, d2, D.plains ds qs e3, hu2, rfl⟩
          · obtain ⟨bs, q2⟩ := Dp.reads I (.tuple qs) _ u' (.tup hq da) ry
            exact .inr ⟨p, qs, as, bs, q1, .inr q2, d2, D.plains ds qs e3, hu2, rfl⟩
        · cases e
      · cases e
    · cases e
theorem not_lt_dec (i j : Int) : (!decide (i < j)) = decide (j ≤ i) := by
  by_cases h : i < j
  · rw [decide_eq_true h, decide_eq_false (by omega)]; rfl
  · rw [decide_eq_false h, decide_eq_true (by omega)]; rfl

theorem cmp_ok (hu : X.A.units + 100 < cLine) (op : COp) : OpR X (compareOp (copA op)) (rC X.K op) := by
  intro pins s σ H v u v' u' Q I rx ry h
  obtain ⟨g, st, x, y, hr, r1, r2, k, ek, q⟩ := h
  unfold cmpE at ek
  cases op with
  | eq =>
    obtain ⟨p, p', as, bs, q1, q2, h1, h2, h3, rfl⟩ := eqE_ok hu I hr r1 r2 rx ry ek
    exact SeqAt.eq_plain q1 q2 h1 h2 h3 ⟨.bl _, H, I, rfl, q⟩
  | ne =>
    obtain ⟨k', ek', rfl⟩ := Option.map_eq_some_iff.mp ek
    obtain ⟨p, p', as, bs, q1, q2, h1, h2, h3, rfl⟩ := eqE_ok hu I hr r1 r2 rx ry ek'
    exact SeqAt.ne_plain q1 q2 h1 h2 h3 ⟨.bl _, H, I, rfl, q⟩
  | lt =>
    rcases ltE_ok hu I hr r1 r2 rx ry ek with ⟨i, j, rfl, rfl, rfl⟩ | ⟨p, p', as, bs, q1, q2, h1, h2, h3, rfl⟩
    · exact op_lt pins s σ H _ _ v' u' Q I rx ry ⟨i, j, rfl, rfl, q⟩
    · exact W.lt_data q1 q2 h1 h2 h3 ⟨.bl _, H, I, rfl, q⟩
  | gt =>
    rcases ltE_ok hu I hr r2 r1 ry rx ek with ⟨i, j, rfl, rfl, rfl⟩ | ⟨p, p', as, bs, q1, q2, h1, h2, h3, rfl⟩
    · exact op_gt pins s σ H _ _ v' u' Q I rx ry ⟨j, i, rfl, rfl, q⟩
    · exact W.gt_data q2 q1 (by rw [W.alike_comm]; exact h1) (W.ne_none_both h1 h2) (by rw [Nat.min_comm]; exact h3) ⟨.bl _, H, I, rfl, q⟩
  | le =>
    obtain ⟨k', ek', rfl⟩ := Option.map_eq_some_iff.mp ek
    rcases ltE_ok hu I hr r2 r1 ry rx ek' with ⟨i, j, rfl, rfl, rfl⟩ | ⟨p, p', as, bs, q1, q2, h1, h2, h3, rfl⟩
    · refine op_le pins s σ H _ _ v' u' Q I rx ry ⟨j, i, rfl, rfl, ?_⟩
      show Q (V.bl (decide (j ≤ i))) H
      rw [← not_lt_dec]
      exact q
    · exact W.le_data q2 q1 (by rw [W.alike_comm]; exact h1) (W.ne_none_both h1 h2) (by rw [Nat.min_comm]; exact h3) ⟨.bl _, H, I, rfl, q⟩
  | ge =>
    obtain ⟨k', ek', rfl⟩ := Option.map_eq_some_iff.mp ek
    rcases ltE_ok hu I hr r1 r2 rx ry ek' with ⟨i, j, rfl, rfl, rfl⟩ | ⟨p, p', as, bs, q1, q2, h1, h2, h3, rfl⟩
    · refine op_ge pins s σ H _ _ v' u' Q I rx ry ⟨i, j, rfl, rfl, ?_⟩
      show Q (V.bl (decide (j ≤ i))) H
      rw [← not_lt_dec]
      exact q
    · exact W.ge_data q1 q2 h1 h2 h3 ⟨.bl _, H, I, rfl, q⟩
  | is =>
    dsimp only at ek
    split at ek
    · rename_i hy
      cases ek
      have e2 := RX.val r2 hy (fun _ z => by cases z)
      simp only [Rv] at e2
      subst e2
      refine op_isN pins s σ H _ _ v' u' Q I rx ry ⟨rfl, ?_⟩
      rw [rel_non r1]
      exact q
    · cases ek
  | isNot =>
    dsimp only at ek
    split at ek
    · rename_i hy
      cases ek
      have e2 := RX.val r2 hy (fun _ z => by cases z)
      simp only [Rv] at e2
      subst e2
      refine op_notN pins s σ H _ _ v' u' Q I rx ry ⟨rfl, ?_⟩
      rw [rel_non r1]
      revert q
      cases x.arg.d <;> exact id
    · cases ek
  | «in» =>
    rcases inE_ok hu I hr r1 r2 rx ry ek with ⟨i, j, rfl, rfl, rfl⟩ | ⟨p, qs, as, bs, q1, q2, h1, h2, h3, rfl⟩
    · exact op_in_str pins s σ H _ _ v' u' Q I rx ry ⟨i, j, rfl, rfl, q⟩
    · rcases q2 with q2 | q2
      · exact SeqAt.in_list_data q2 q1 h2 h1 h3 ⟨.bl _, H, I, rfl, q⟩
      · exact SeqAt.in_tuple_data q2 q1 h2 h1 h3 ⟨.bl _, H, I, rfl, q⟩
  | notIn =>
    obtain ⟨k', ek', rfl⟩ := Option.map_eq_some_iff.mp ek
    rcases inE_ok hu I hr r1 r2 rx ry ek' with ⟨i, j, rfl, rfl, rfl⟩ | ⟨p, qs, as, bs, q1, q2, h1, h2, h3, rfl⟩
    · exact L2.op_notin_str pins s σ H _ _ v' u' Q I rx ry ⟨i, j, rfl, rfl, q⟩
    · rcases q2 with q2 | q2
      · exact SeqAt.notIn_list_data q2 q1 h2 h1 h3 ⟨.bl _, H, I, rfl, q⟩
      · exact SeqAt.notIn_tuple_data q2 q1 h2 h1 h3 ⟨.bl _, H, I, rfl, q⟩
end
end Co
/-! CoC3: expressions, by the interpreter. -/
namespace Co
open PySem PySem.Spec PyProof.Rows L2
theorem R.bind_assoc {α β γ : Type} (r : R α) (f : α → S → R β) (k : β → S → R γ) : (r.bind f).bind k = r.bind fun x s => (f x s).bind k := by cases r <;> rfl
section
variable {P : Prog} {gn fn : Nat → Str} {F : Fns} {W : WX} {X : Cx}
/-- an answer that comes from data alone -/
theorem lift_q {σ : L2.St} {g : Gh} {H : Hp} {s : S} {α β : Type} {rel : Gh → Hp → α → β → Prop} {Q : β → Hp → Prop} {o : Option α} (h : Post X.K W σ g H rel Q (R.lift s o)) :
    ∃ x, o = some x ∧ ∀ g' H' v, Ext g H g' H' → HRel X.K g' s H' → rel g' H' x v → Q v H' := Post.lift h

/-! ### operators -/
theorem se_bin {op : BOp} {ca cb : E} {a b : Expr} {pos : Pos} (ha : PE X a (tE X.K W P.G F ca)) (hb : PE X b (tE X.K W P.G F cb)) : PE X (.BinOp a (bopA op) b pos) (tE X.K W P.G F (.bin op ca cb)) := by
  refine PE.imp (pe_op (op_ok op) ha hb) fun σ H Q ⟨g, sl, s, hr, sr, h⟩ => ?_
  simp only [ev] at h
  refine opd hr sr h fun g1 s1 x v H1 e1 hr1 sr1 rx h1 => ?_
  refine opd hr1 sr1 h1 fun g2 s2 y u H2 e2 hr2 sr2 ry h2 => ?_
  obtain ⟨z, ez, q⟩ := lift_q h2
  exact ⟨g2, s2, x, y, hr2, rx.step e2, ry, z, ez, q⟩
theorem asInt_val {K : PySem.W.Frag} {g : Gh} {H : Hp} {x : Co.X} {v : V} {i : Int} (r : RX K g H x.arg v) (e : asInt x.arg = some i) : v = .int i := by
  cases x with
  | v d =>
    cases d with
    | int j =>
      cases e
      exact val_int (x := .v (.int i)) r rfl
    | _ => cases e
  | vw ds => cases e
  | own ds => cases e
theorem se_neg {ca : E} {a : Expr} {pos : Pos} (ha : PE X a (tE X.K W P.G F ca)) : PE X (.UnaryOp .USub a pos) (tE X.K W P.G F (.neg ca)) := by
  refine PE.imp (pe_un un_neg ha) fun σ H Q ⟨g, sl, s, hr, sr, h⟩ => ?_
  simp only [ev] at h
  refine opd hr sr h fun g1 s1 x v H1 e1 hr1 sr1 rx h1 => ?_
  obtain ⟨z, ez, q⟩ := lift_q h1
  obtain ⟨i, ei, rfl⟩ := Option.map_eq_some_iff.mp ez
  exact ⟨i, asInt_val rx ei, q g1 H1 _ (Ext.refl _ _) hr1 rv_int⟩
theorem se_cmp (C : Ct P gn fn F W X) {op : COp} {ca cb : E} {a b : Expr} {pos : Pos} (ha : PE X a (tE X.K W P.G F ca)) (hb : PE X b (tE X.K W P.G F cb)) (hm : behindInMarks (copA op) b = false) :
    PE X (.Compare a [copA op] [b] pos) (tE X.K W P.G F (.cmp op ca cb)) := by
  refine PE.imp (pe_cmpR (cmp_ok C.units op) ha hb hm) fun σ H Q ⟨g, sl, s, hr, sr, h⟩ => ?_
  simp only [ev] at h
  refine opd hr sr h fun g1 s1 x v H1 e1 hr1 sr1 rx h1 => ?_
  refine opd hr1 sr1 h1 fun g2 s2 y u H2 e2 hr2 sr2 ry h2 => ?_
  obtain ⟨z, ez, q⟩ := lift_q h2
  obtain ⟨k, ek, rfl⟩ := Option.map_eq_some_iff.mp ez
  exact ⟨g2, s2, x, y, hr2, rx.step e2, ry, k, ek, q g2 H2 _ (Ext.refl _ _) hr2 rv_bl⟩
theorem st_cmp (C : Ct P gn fn F W X) {op : COp} {ca cb : E} {a b : Expr} {pos : Pos} (ha : PE X a (tE X.K W P.G F ca)) (hb : PE X b (tE X.K W P.G F cb)) (hm : behindInMarks (copA op) b = false) :
    PT X (.Compare a [copA op] [b] pos) (tT X.K W P.G F (.cmp op ca cb)) := by
  refine PT.imp (pt_cmpR (cmp_ok C.units op) ha hb hm) fun σ H Q ⟨g, sl, s, hr, sr, h⟩ => ?_
  simp only [tst, ev] at h
  rw [R.bind_assoc] at h
  refine opd hr sr h fun g1 s1 x v H1 e1 hr1 sr1 rx h1 => ?_
  rw [R.bind_assoc] at h1
  refine opd hr1 sr1 h1 fun g2 s2 y u H2 e2 hr2 sr2 ry h2 => ?_
  cases ek : cmpE op s2 x.arg y.arg with
  | none => rw [ek] at h2; exact h2.elim
  | some k =>
    rw [ek] at h2
    exact ⟨g2, s2, x, y, hr2, rx.step e2, ry, k, ek, k, rfl, h2 g2 H2 k (Ext.refl _ _) hr2 rfl⟩

/-! ### truth -/
theorem tru_rel {K : PySem.W.Frag} {g : Gh} {H : Hp} {s : S} {x : Co.X} {v : V} {k : Bool} (hr : HRel K g s H) (r : RX K g H x.arg v) (e : truE s x.arg = some k) : TruV K v H k := by
  unfold truE at e
  have its : (x.arg.items s).map (fun ds => !ds.isEmpty) = some k → TruV K v H k := fun e => by
    obtain ⟨ds, ed, rfl⟩ := Option.map_eq_some_iff.mp e
    obtain ⟨a, vs, rfl, hq, rv⟩ := RX.items hr r ed
    have e2 : ds.isEmpty = vs.isEmpty := by
      have l := rv.len
      cases ds <;> cases vs <;> first | rfl | cases l
    rcases hq with hq | hq
    · exact .inl ⟨vs, hq, by rw [e2]⟩
    · exact .inr (.inl ⟨vs, hq, by rw [e2]⟩)
  split at e
  · rename_i hd
    cases e
    have q := RX.val r hd (fun _ z => by cases z)
    simp only [Rv] at q
    subst q
    rfl
  · rename_i b hd
    cases e
    rw [val_bl r hd]
    rfl
  · rename_i i hd
    cases e
    rw [val_int r hd]
    rfl
  · rename_i z hd
    split at e
    · rename_i hz
      cases e
      rw [val_str r hd]
      refine ⟨hz, ?_⟩
      by_cases h0 : z.length = 0
      · rw [h0]; rfl
      · have h1 : (z.length != 0) = true := by simp [h0]
        have h2 : ((z.length : Int) != 0) = true := by
          simp only [bne_iff_ne, ne_eq]
          omega
        rw [h1, h2]
    · cases e
  · exact its e
theorem st_of {c : E} {e : Expr} (he : PE X e (tE X.K W P.G F c)) (hp : ∀ whole, isTrue e X.env whole = (do let v ← whole; standAt e.pos; holding [v] (truthy v))) : PT X e (tT X.K W P.G F c) := by
  refine PT.imp (pt_truth he hp) fun σ H Q ⟨g, sl, s, hr, sr, h⟩ => ?_
  refine opd hr sr h fun g1 s1 x v H1 e1 hr1 sr1 rx h1 => ?_
  obtain ⟨k, ek, q⟩ := lift_q h1
  exact ⟨k, tru_rel hr1 rx ek, q g1 H1 k (Ext.refl _ _) hr1 rfl⟩
/-- a test read, then on -/
theorem tstd {σ : L2.St} {H : Hp} {Q : Bool → Hp → Prop} {c : E} {g : Gh} {sl : Sl} {s : S} {β γ : Type} {rel2 : Gh → Hp → γ → β → Prop} {Q2 : β → Hp → Prop} {f : Bool → S → R γ} (hr : HRel X.K g s H) (sr : SRel X.K g sl σ H)
    (h : Post X.K W σ g H rel2 Q2 ((tst P.G F sl c s).bind f))
    (k : ∀ g1 s1 b H1, Ext g H g1 H1 → HRel X.K g1 s1 H1 → SRel X.K g1 sl σ H1 → Post X.K W σ g1 H1 rel2 Q2 (f b s1) → Q b H1) : tT X.K W P.G F c σ H Q := by
  refine ⟨g, sl, s, hr, sr, ?_⟩
  have b := Post.bind (rel := relB) h
  revert b
  generalize tst P.G F sl c s = r
  intro b
  cases r with
  | ok x s1 =>
    intro g2 H2 v e2 hr2 rx
    obtain ⟨g1, s1', x', e1, hr1, rx1, p⟩ := b g2 H2 v e2 hr2 rx
    have e3 : x' = v := rx1
    subst e3
    exact k g1 s1' x' H2 e1 hr1 (sr.step e1) p
  | ex e s1 => exact b
  | bad => exact b
theorem se_not {ca : E} {a : Expr} {pos : Pos} (ha : PE X a (tE X.K W P.G F ca)) : PE X (.UnaryOp .Not a pos) (tE X.K W P.G F (.not ca)) := by
  refine PE.imp (pe_notT ha) fun σ H Q ⟨g, sl, s, hr, sr, h⟩ => ?_
  simp only [ev] at h
  refine opd hr sr h fun g1 s1 x v H1 e1 hr1 sr1 rx h1 => ?_
  obtain ⟨z, ez, q⟩ := lift_q h1
  obtain ⟨k, ek, rfl⟩ := Option.map_eq_some_iff.mp ez
  exact ⟨k, tru_rel hr1 rx ek, q g1 H1 _ (Ext.refl _ _) hr1 rv_bl⟩
theorem st_not {ca : E} {a : Expr} {pos : Pos} (ha : PT X a (tT X.K W P.G F ca)) : PT X (.UnaryOp .Not a pos) (tT X.K W P.G F (.not ca)) := by
  refine PT.imp (pt_not ha) fun σ H Q ⟨g, sl, s, hr, sr, h⟩ => ?_
  have e : tst P.G F sl (.not ca) s = (tst P.G F sl ca s).bind fun k s => .ok (!k) s := by
    simp only [tst, ev, R.bind_assoc]
    congr 1
    funext x s1
    cases truE s1 x.arg <;> rfl
  rw [e] at h
  exact tstd hr sr h fun g1 s1 b H1 e1 hr1 sr1 h1 => h1 g1 H1 _ (Ext.refl _ _) hr1 rfl

/-! ### and, or -/
def tBv (K : PySem.W.Frag) (W : WX) (G : Nat → Option D) (F : Fns) (stop : Bool) (cs : List E) : TE := fun σ H Q => ∃ g sl s, HRel K g s H ∧ SRel K g sl σ H ∧ Post K W σ g H (RX K) Q (evb G F sl stop cs s)
def tBt (K : PySem.W.Frag) (W : WX) (G : Nat → Option D) (F : Fns) (stop : Bool) (cs : List E) : TT := fun σ H Q => ∃ g sl s, HRel K g s H ∧ SRel K g sl σ H ∧ Post K W σ g H relB Q ((evb G F sl stop cs s).bind fun x s => R.lift s (truE s x.arg))
theorem se_b1 {stop : Bool} {c : E} {a : Expr} {o : BoolOp} {pos : Pos} (ha : PE X a (tE X.K W P.G F c)) : PE X (.BoolOp o [a] pos) (tBv X.K W P.G F stop [c]) := by
  refine PE.imp (pe_one ha) fun σ H Q ⟨g, sl, s, hr, sr, h⟩ => ?_
  simp only [evb] at h
  exact opd hr sr h fun g1 s1 x v H1 e1 hr1 sr1 rx h1 => h1 g1 H1 v (Ext.refl _ _) hr1 rx
theorem se_and {c c' : E} {cs : List E} {a b : Expr} {rest : List Expr} {pos : Pos} (ha : PE X a (tE X.K W P.G F c)) (hb : PE X (.BoolOp .And (b :: rest) pos) (tBv X.K W P.G F false (c' :: cs))) :
    PE X (.BoolOp .And (a :: b :: rest) pos) (tBv X.K W P.G F false (c :: c' :: cs)) := by
  refine PE.imp (pe_andT ha hb) fun σ H Q ⟨g, sl, s, hr, sr, h⟩ => ?_
  rw [evb] at h
  refine opd hr sr h fun g1 s1 x v H1 e1 hr1 sr1 rx h1 => ?_
  cases ek : truE s1 x.arg with
  | none => rw [ek] at h1; exact h1.elim
  | some k =>
    rw [ek] at h1
    simp only [R.lift_some, R.bind_ok] at h1
    refine ⟨k, tru_rel hr1 rx ek, ?_⟩
    cases k with
    | true => exact iteT ⟨g1, sl, s1, hr1, sr1, h1⟩
    | false => exact iteF (h1 g1 H1 v (Ext.refl _ _) hr1 rx)
theorem se_or {c c' : E} {cs : List E} {a b : Expr} {rest : List Expr} {pos : Pos} (ha : PE X a (tE X.K W P.G F c)) (hb : PE X (.BoolOp .Or (b :: rest) pos) (tBv X.K W P.G F true (c' :: cs))) :
    PE X (.BoolOp .Or (a :: b :: rest) pos) (tBv X.K W P.G F true (c :: c' :: cs)) := by
  refine PE.imp (pe_orT ha hb) fun σ H Q ⟨g, sl, s, hr, sr, h⟩ => ?_
  rw [evb] at h
  refine opd hr sr h fun g1 s1 x v H1 e1 hr1 sr1 rx h1 => ?_
  cases ek : truE s1 x.arg with
  | none => rw [ek] at h1; exact h1.elim
  | some k =>
    rw [ek] at h1
    simp only [R.lift_some, R.bind_ok] at h1
    refine ⟨k, tru_rel hr1 rx ek, ?_⟩
    cases k with
    | true => exact iteT (h1 g1 H1 v (Ext.refl _ _) hr1 rx)
    | false => exact iteF ⟨g1, sl, s1, hr1, sr1, h1⟩
theorem se_ands {cs : List E} {es : List Expr} {pos : Pos} (h : PE X (.BoolOp .And es pos) (tBv X.K W P.G F false cs)) : PE X (.BoolOp .And es pos) (tE X.K W P.G F (.ands cs)) :=
  PE.imp h fun σ H Q ⟨g, sl, s, hr, sr, h⟩ => ⟨g, sl, s, hr, sr, by simpa only [ev] using h⟩
theorem se_ors {cs : List E} {es : List Expr} {pos : Pos} (h : PE X (.BoolOp .Or es pos) (tBv X.K W P.G F true cs)) : PE X (.BoolOp .Or es pos) (tE X.K W P.G F (.ors cs)) :=
  PE.imp h fun σ H Q ⟨g, sl, s, hr, sr, h⟩ => ⟨g, sl, s, hr, sr, by simpa only [ev] using h⟩
theorem evb_one {G : Nat → Option D} {sl : Sl} {stop : Bool} {c : E} {s : S} : ((evb G F sl stop [c] s).bind fun x s => R.lift s (truE s x.arg)) = tst G F sl c s := by
  simp only [evb, tst, R.bind_assoc, R.bind_ok, Co.X.arg_arg]
theorem evb_cons {G : Nat → Option D} {sl : Sl} {stop : Bool} {c c' : E} {cs : List E} {s : S} : ((evb G F sl stop (c :: c' :: cs) s).bind fun x s => R.lift s (truE s x.arg)) =
    (tst G F sl c s).bind fun k s => if k = stop then .ok stop s else (evb G F sl stop (c' :: cs) s).bind fun x s => R.lift s (truE s x.arg) := by
  rw [evb]
  simp only [tst, R.bind_assoc]
  congr 1
  funext x s1
  cases ek : truE s1 x.arg with
  | none => rfl
  | some k =>
    simp only [R.lift_some, R.bind_ok]
    by_cases h : k = stop
    · rw [if_pos h, if_pos h, R.bind_ok, Co.X.arg_arg, ek, R.lift_some, h]
    · rw [if_neg h, if_neg h]
theorem sw_and1 {stop : Bool} {c : E} {a : Expr} {pos : Pos} (ha : PT X a (tT X.K W P.G F c)) : PW X (.BoolOp .And [a] pos) (tBt X.K W P.G F stop [c]) :=
  PW.imp (pw_and1 ha) fun σ H Q ⟨g, sl, s, hr, sr, h⟩ => ⟨g, sl, s, hr, sr, by rw [evb_one] at h; exact h⟩
theorem sw_or1 {stop : Bool} {c : E} {a : Expr} {pos : Pos} (ha : PT X a (tT X.K W P.G F c)) : PW X (.BoolOp .Or [a] pos) (tBt X.K W P.G F stop [c]) :=
  PW.imp (pw_or1 ha) fun σ H Q ⟨g, sl, s, hr, sr, h⟩ => ⟨g, sl, s, hr, sr, by rw [evb_one] at h; exact h⟩
theorem sw_and {c c' : E} {cs : List E} {a b : Expr} {rest : List Expr} {pos : Pos} (ha : PT X a (tT X.K W P.G F c)) (hb : PW X (.BoolOp .And (b :: rest) pos) (tBt X.K W P.G F false (c' :: cs))) :
    PW X (.BoolOp .And (a :: b :: rest) pos) (tBt X.K W P.G F false (c :: c' :: cs)) := by
  refine PW.imp (pw_and ha hb) fun σ H Q ⟨g, sl, s, hr, sr, h⟩ => ?_
  rw [evb_cons] at h
  refine tstd hr sr h fun g1 s1 k H1 e1 hr1 sr1 h1 => ?_
  cases k with
  | true => exact iteT ⟨g1, sl, s1, hr1, sr1, h1⟩
  | false => exact iteF (h1 g1 H1 _ (Ext.refl _ _) hr1 rfl)
theorem sw_or {c c' : E} {cs : List E} {a b : Expr} {rest : List Expr} {pos : Pos} (ha : PT X a (tT X.K W P.G F c)) (hb : PW X (.BoolOp .Or (b :: rest) pos) (tBt X.K W P.G F true (c' :: cs))) :
    PW X (.BoolOp .Or (a :: b :: rest) pos) (tBt X.K W P.G F true (c :: c' :: cs)) := by
  refine PW.imp (pw_or ha hb) fun σ H Q ⟨g, sl, s, hr, sr, h⟩ => ?_
  rw [evb_cons] at h
  refine tstd hr sr h fun g1 s1 k H1 e1 hr1 sr1 h1 => ?_
  cases k with
  | true => exact iteT (h1 g1 H1 _ (Ext.refl _ _) hr1 rfl)
  | false => exact iteF ⟨g1, sl, s1, hr1, sr1, h1⟩
theorem st_ands {cs : List E} {es : List Expr} {pos : Pos} (h : PW X (.BoolOp .And es pos) (tBt X.K W P.G F false cs)) : PT X (.BoolOp .And es pos) (tT X.K W P.G F (.ands cs)) :=
  PT.imp h.pt fun σ H Q ⟨g, sl, s, hr, sr, h⟩ => ⟨g, sl, s, hr, sr, by simpa only [tst, ev] using h⟩
theorem st_ors {cs : List E} {es : List Expr} {pos : Pos} (h : PW X (.BoolOp .Or es pos) (tBt X.K W P.G F true cs)) : PT X (.BoolOp .Or es pos) (tT X.K W P.G F (.ors cs)) :=
  PT.imp h.pt fun σ H Q ⟨g, sl, s, hr, sr, h⟩ => ⟨g, sl, s, hr, sr, by simpa only [tst, ev] using h⟩
theorem se_ife {cc ca cb : E} {c a b : Expr} {pos : Pos} (hc : PT X c (tT X.K W P.G F cc)) (ha : PE X a (tE X.K W P.G F ca)) (hb : PE X b (tE X.K W P.G F cb)) : PE X (.IfExp c a b pos) (tE X.K W P.G F (.ife cc ca cb)) := by
  refine PE.imp (pe_ifExp hc ha hb) fun σ H Q ⟨g, sl, s, hr, sr, h⟩ => ?_
  have e : ev P.G F sl (.ife cc ca cb) s = (tst P.G F sl cc s).bind fun k s => if k = true then ev P.G F sl ca s else ev P.G F sl cb s := by
    simp only [ev, tst, R.bind_assoc]
  rw [e] at h
  refine tstd hr sr h fun g1 s1 k H1 e1 hr1 sr1 h1 => ?_
  cases k with
  | true => exact iteT ⟨g1, sl, s1, hr1, sr1, h1⟩
  | false => exact iteF ⟨g1, sl, s1, hr1, sr1, h1⟩
end
end Co
/-! CoC4: chains, items, slices, built-in functions. -/
namespace Co
open PySem PySem.Spec PyProof.Rows L2
section
variable {P : Prog} {gn fn : Nat → Str} {F : Fns} {W : WX} {X : Cx}

/-! ### a < b < c -/
theorem chain_q {K : PySem.W.Frag} {W : WX} {σ : L2.St} {o1 o2 : COp} {g : Gh} {H : Hp} {s : S} {sl : Sl} {x y : Co.X} {cc : E} {α β : Type} {rel : Gh → Hp → α → β → Prop} {Q : β → Hp → Prop} {k : Co.X → S → R α}
    (h : Post K W σ g H rel Q (((R.lift s (cmpE o1 s x.arg y.arg)).bind fun k s => if k = true then (ev P.G F sl cc s).bind fun z s => R.lift s ((cmpE o2 s y.arg z.arg).map fun k => .v (.bl k)) else .ok (.v (.bl false)) s).bind k)) :
    ∃ b, cmpE o1 s x.arg y.arg = some b ∧ (b = true → Post K W σ g H rel Q ((ev P.G F sl cc s).bind fun z s => (R.lift s ((cmpE o2 s y.arg z.arg).map fun k => .v (.bl k))).bind k)) ∧ (b = false → Post K W σ g H rel Q (k (.v (.bl false)) s)) := by
  cases ek : cmpE o1 s x.arg y.arg with
  | none => rw [ek] at h; exact h.elim
  | some b =>
    rw [ek] at h
    refine ⟨b, rfl, fun e => ?_, fun e => ?_⟩
    · subst e
      simp only [R.lift_some, R.bind_ok, if_true, R.bind_assoc] at h
      exact h
    · subst e
      simp only [R.lift_some, R.bind_ok, Bool.false_eq_true, if_false] at h
      exact h
theorem bind_ret {α : Type} (r : R α) : r.bind (fun x s => .ok x s) = r := by cases r <;> rfl
theorem se_chain (C : Ct P gn fn F W X) {o1 o2 : COp} {ca cb cc : E} {a b c : Expr} {pos : Pos} (ha : PE X a (tE X.K W P.G F ca)) (hb : PE X b (tE X.K W P.G F cb)) (hc : PE X c (tE X.K W P.G F cc))
    (hm : lastMarks [copA o1, copA o2] [b, c] = false) : PE X (.Compare a [copA o1, copA o2] [b, c] pos) (tE X.K W P.G F (.chain o1 o2 ca cb cc)) := by
  refine PE.imp (pe_chain (cmp_ok C.units o1) (cmp_ok C.units o2) ha hb hc hm) fun σ H Q ⟨g, sl, s, hr, sr, h⟩ => ?_
  simp only [ev] at h
  refine opd hr sr h fun g1 s1 x v H1 e1 hr1 sr1 rx h1 => ?_
  refine opd hr1 sr1 h1 fun g2 s2 y u H2 e2 hr2 sr2 ry h2 => ?_
  rw [← bind_ret (R.bind (R.lift s2 (cmpE o1 s2 x.arg y.arg)) _)] at h2
  obtain ⟨b, eb, ht, hf⟩ := chain_q h2
  refine ⟨g2, s2, x, y, hr2, rx.step e2, ry, b, eb, b, rfl, ?_⟩
  cases b with
  | true =>
    refine iteT (opd hr2 sr2 (ht rfl) fun g3 s3 z w H3 e3 hr3 sr3 rz h3 => ?_)
    rw [bind_ret] at h3
    obtain ⟨z', ez, q⟩ := lift_q h3
    obtain ⟨k, ek, rfl⟩ := Option.map_eq_some_iff.mp ez
    exact ⟨g3, s3, y, z, hr3, ry.step e3, rz, k, ek, q g3 H3 _ (Ext.refl _ _) hr3 rv_bl⟩
  | false => exact iteF (hf rfl g2 H2 _ (Ext.refl _ _) hr2 rv_bl)
theorem st_chain (C : Ct P gn fn F W X) {o1 o2 : COp} {ca cb cc : E} {a b c : Expr} {pos : Pos} (ha : PE X a (tE X.K W P.G F ca)) (hb : PE X b (tE X.K W P.G F cb)) (hc : PE X c (tE X.K W P.G F cc))
    (hm : lastMarks [copA o1, copA o2] [b, c] = false) : PT X (.Compare a [copA o1, copA o2] [b, c] pos) (tT X.K W P.G F (.chain o1 o2 ca cb cc)) := by
  refine PT.imp (pt_chain (cmp_ok C.units o1) (cmp_ok C.units o2) ha hb hc hm) fun σ H Q ⟨g, sl, s, hr, sr, h⟩ => ?_
  simp only [tst, ev] at h
  rw [R.bind_assoc] at h
  refine opd hr sr h fun g1 s1 x v H1 e1 hr1 sr1 rx h1 => ?_
  rw [R.bind_assoc] at h1
  refine opd hr1 sr1 h1 fun g2 s2 y u H2 e2 hr2 sr2 ry h2 => ?_
  obtain ⟨b, eb, ht, hf⟩ := chain_q h2
  refine ⟨g2, s2, x, y, hr2, rx.step e2, ry, b, eb, b, rfl, ?_⟩
  cases b with
  | true =>
    refine iteT (opd hr2 sr2 (ht rfl) fun g3 s3 z w H3 e3 hr3 sr3 rz h3 => ?_)
    cases ek : cmpE o2 s3 y.arg z.arg with
    | none => rw [ek] at h3; exact h3.elim
    | some k =>
      rw [ek] at h3
      exact ⟨g3, s3, y, z, hr3, ry.step e3, rz, k, ek, k, rfl, h3 g3 H3 k (Ext.refl _ _) hr3 rfl⟩
  | false => exact iteF ⟨false, rfl, hf rfl g2 H2 _ (Ext.refl _ _) hr2 rfl⟩

/-! ### o[i], o[lo:hi] -/
def rSub (K : PySem.W.Frag) : R2 := fun v u H Q => ∃ g s, ∃ x y : Co.X, HRel K g s H ∧ RX K g H x.arg v ∧ RX K g H y.arg u ∧
  ∃ z, subE s x.arg y.arg = some z ∧ ∀ g' H' w, Ext g H g' H' → HRel K g' s H' → RX K g' H' z w → Q w H'
theorem sub_ok : IxR X (rSub X.K) := by
  intro value slice pins s σ H v u v' u' Q I rx ry h hs
  obtain ⟨g, st, x, y, hr, r1, r2, z, ez, q⟩ := h
  unfold subE at ez
  split at ez
  · rename_i k hy
    have e2 := val_int r2 hy
    subst e2
    split at ez
    · rename_i w hx
      split at ez
      · rename_i hz
        obtain ⟨c, ec, rfl⟩ := Option.map_eq_some_iff.mp ez
        have e1 := val_str r1 hx
        subst e1
        exact ix_str value slice pins s σ H _ _ v' u' Q I rx ry ⟨w, k, c, rfl, rfl, hz, ec, q g H _ (Ext.refl _ _) hr rv_str⟩ hs
      · cases ez
    · split at ez
      · rename_i ds ed
        obtain ⟨d, e3, rfl⟩ := Option.map_eq_some_iff.mp ez
        obtain ⟨a, vs, rfl, hq, rv⟩ := RX.items hr r1 ed
        unfold atI at e3
        cases ej : ixN ds.length k with
        | none => rw [ej] at e3; cases e3
        | some j =>
          rw [ej] at e3
          obtain ⟨w, e4, rw'⟩ := rv.get (show ds[j]? = some d from e3)
          have ea : atI vs k = some w := by
            unfold atI
            rw [← rv.len, ej]
            exact e4
          rcases hq with hq | hq
          · exact ix_list value slice pins s σ H _ _ v' u' Q I rx ry ⟨a, vs, k, w, rfl, rfl, hq, ea, q g H _ (Ext.refl _ _) hr rw'⟩ hs
          · exact ix_tup value slice pins s σ H _ _ v' u' Q I rx ry ⟨a, vs, k, w, rfl, rfl, hq, ea, q g H _ (Ext.refl _ _) hr rw'⟩ hs
      · cases ez
  · cases ez
theorem se_sub {co ci : E} {o i : Expr} {pos : Pos} (ha : PE X o (tE X.K W P.G F co)) (hb : PE X i (tE X.K W P.G F ci)) (hs : PlainIx i) : PE X (.Subscript o i pos) (tE X.K W P.G F (.sub co ci)) := by
  refine PE.imp (pe_ix sub_ok ha hb hs) fun σ H Q ⟨g, sl, s, hr, sr, h⟩ => ?_
  simp only [ev] at h
  refine opd hr sr h fun g1 s1 x v H1 e1 hr1 sr1 rx h1 => ?_
  refine opd hr1 sr1 h1 fun g2 s2 y u H2 e2 hr2 sr2 ry h2 => ?_
  obtain ⟨z, ez, q⟩ := lift_q h2
  exact ⟨g2, s2, x, y, hr2, rx.step e2, ry, z, ez, q⟩
theorem so_none : PO X none (tO X.K W P.G F none) := by
  refine PO.imp po_none fun σ H Q ⟨g, sl, s, hr, sr, h⟩ => ?_
  exact h g H none (Ext.refl _ _) hr rfl
theorem so_some {c : E} {e : Expr} (h : PE X e (tE X.K W P.G F c)) : PO X (some e) (tO X.K W P.G F (some c)) := by
  refine PO.imp (po_some h) fun σ H Q ⟨g, sl, s, hr, sr, h⟩ => ?_
  simp only [evo] at h
  refine opd hr sr h fun g1 s1 x v H1 e1 hr1 sr1 rx h1 => ?_
  obtain ⟨z, ez, q⟩ := lift_q h1
  obtain ⟨i, ei, rfl⟩ := Option.map_eq_some_iff.mp ez
  exact ⟨i, asInt_val rx ei, q g1 H1 _ (Ext.refl _ _) hr1 rfl⟩
/-- a slice's end read, then on -/
theorem ptd {σ : L2.St} {H : Hp} {Q : Option Int → Hp → Prop} {c : Option E} {g : Gh} {sl : Sl} {s : S} {β γ : Type} {rel2 : Gh → Hp → γ → β → Prop} {Q2 : β → Hp → Prop} {f : Option Int → S → R γ} (hr : HRel X.K g s H) (sr : SRel X.K g sl σ H)
    (h : Post X.K W σ g H rel2 Q2 ((evo P.G F sl c s).bind f))
    (k : ∀ g1 s1 b H1, Ext g H g1 H1 → HRel X.K g1 s1 H1 → SRel X.K g1 sl σ H1 → Post X.K W σ g1 H1 rel2 Q2 (f b s1) → Q b H1) : tO X.K W P.G F c σ H Q := by
  refine ⟨g, sl, s, hr, sr, ?_⟩
  have b := Post.bind (rel := relO) h
  revert b
  generalize evo P.G F sl c s = r
  intro b
  cases r with
  | ok x s1 =>
    intro g2 H2 v e2 hr2 rx
    obtain ⟨g1, s1', x', e1, hr1, rx1, p⟩ := b g2 H2 v e2 hr2 rx
    have e3 : x' = v := rx1
    subst e3
    exact k g1 s1' x' H2 e1 hr1 (sr.step e1) p
  | ex e s1 => exact b
  | bad => exact b
def rSli (K : PySem.W.Frag) : V → Option Int → Option Int → Hp → VK → Prop := fun v lo hi H Q => ∃ g s, ∃ x : Co.X, HRel K g s H ∧ RX K g H x.arg v ∧
  ∃ z, sliE s x.arg lo hi = some z ∧ ∀ g' H' w, Ext g H g' H' → HRel K g' s H' → RX K g' H' z w → Q w H'
theorem cut_map {α β : Type} (f : α → β) (xs : List α) (lo hi : Option Int) : (cut xs lo hi).map f = cut (xs.map f) lo hi := by
  unfold cut
  rw [List.map_take, List.map_drop, List.length_map]
theorem sli_ok : SlR X (rSli X.K) := by
  intro pins s σ H v v' vl vu lo hi sl Q I rx hs pl pu h
  obtain ⟨g, st, x, hr, r1, z, ez, q⟩ := h
  unfold sliE at ez
  split at ez
  · rename_i ns hx
    cases ez
    have e1 := RX.val r1 hx (fun _ z => by cases z)
    simp only [Rv] at e1
    obtain ⟨a, rfl, e1⟩ := e1
    have hq : SqL X.K H a (ns.map V.int) := by
      rcases e1 with ⟨o, ga, ho⟩ | e1
      · rcases ho with rfl | ⟨ob, rfl⟩
        · exact .inl (.inl (hr.fz _ _ ga))
        · exact .inl (.inr ⟨ob, hr.fz _ _ ga⟩)
      · exact e1 H
    refine sl_list pins s σ H _ v' vl vu lo hi sl Q I rx hs pl pu ⟨a, ns.map V.int, rfl, hq, new_own hr ?_ q⟩
    have e := Rvs.cut (Rvs.ints (K := X.K) (g := g) ns) lo hi
    rw [cut_map]
    exact e
  · rename_i ds hx
    split at ez
    · rename_i hz
      cases ez
      obtain ⟨a, vs, rfl, ha, qa, ga⟩ := val_tup hr r1 hx
      exact sl_tup pins s σ H _ v' vl vu lo hi sl Q I rx hs pl pu ⟨a, vs, rfl, ha, by rw [← qa.len]; exact hz, new_tup hr (qa.cut lo hi) q⟩
    · cases ez
  · rename_i h1 h2
    split at ez
    · rename_i ds ed
      cases ez
      obtain ⟨a, vs, rfl, hq, rv⟩ := RX.items hr r1 ed
      rcases hq with hq | hq
      · exact sl_list pins s σ H _ v' vl vu lo hi sl Q I rx hs pl pu ⟨a, vs, rfl, hq, new_own hr (rv.cut lo hi) q⟩
      · exfalso
        unfold Co.X.items at ed
        cases hd : x.arg.d with
        | tup es => exact h2 es hd
        | lst es =>
          obtain ⟨b, ws, eb, hb, _⟩ := RX.list hr r1 hd
          cases eb
          obtain ⟨its, _, pl1, _⟩ := I.list (SqL.of hb)
          obtain ⟨its2, _, pl2, _⟩ := I.tuple hq
          obtain ⟨o, n, e, hc, _⟩ := pl1
          obtain ⟨o2, e2, hc2, _⟩ := pl2
          rw [e] at e2
          cases e2
          rw [hc] at hc2
          exact absurd hc2 (by decide)
        | ref n =>
          rw [hd] at ed
          dsimp only at ed
          have qv := RX.val r1 hd (fun _ z => by cases z)
          cases es : st[n]? with
          | none => rw [es] at ed; simp at ed
          | some o =>
              cases o with
              | lst fs =>
                obtain ⟨b, eb, _, ws, e1, _⟩ := RX.ref hr qv es
                cases eb
                obtain ⟨its, _, pl1, _⟩ := I.list (SqL.of e1)
                obtain ⟨its2, _, pl2, _⟩ := I.tuple hq
                obtain ⟨o, n, e, hc, _⟩ := pl1
                obtain ⟨o2, e2, hc2, _⟩ := pl2
                rw [e] at e2
                cases e2
                rw [hc] at hc2
                exact absurd hc2 (by decide)
        | _ => rw [hd] at ed; cases ed
    · cases ez
theorem se_sli {co : E} {cl ch : Option E} {o : Expr} {lo hi : Option Expr} {p2 pos : Pos} (ha : PE X o (tE X.K W P.G F co)) (hl : PO X lo (tO X.K W P.G F cl)) (hh : PO X hi (tO X.K W P.G F ch)) :
    PE X (.Subscript o (.Slice lo hi none p2) pos) (tE X.K W P.G F (.sli co cl ch)) := by
  refine PE.imp (pe_slice sli_ok ha hl hh) fun σ H Q ⟨g, sl, s, hr, sr, h⟩ => ?_
  simp only [ev] at h
  refine opd hr sr h fun g1 s1 x v H1 e1 hr1 sr1 rx h1 => ?_
  refine ptd hr1 sr1 h1 fun g2 s2 l H2 e2 hr2 sr2 h2 => ?_
  refine ptd hr2 sr2 h2 fun g3 s3 u H3 e3 hr3 sr3 h3 => ?_
  obtain ⟨z, ez, q⟩ := lift_q h3
  exact ⟨g3, s3, x, hr3, rx.step (e2.trans e3), z, ez, q⟩

/-! ### built-in functions -/
def rBi (K : PySem.W.Frag) (b : Bi) : List V → Hp → VK → Prop := fun vs H Q => ∃ g s xs, HRel K g s H ∧ RXs K g H xs vs ∧ (∀ x ∈ xs, x.arg = x) ∧
  ∃ z, biE b s xs = some z ∧ ∀ g' H' w, Ext g H g' H' → HRel K g' s H' → RX K g' H' z w → Q w H'
theorem one_arg {K : PySem.W.Frag} {g : Gh} {H : Hp} {x : Co.X} {vs : List V} (h : RXs K g H [x] vs) (ha : ∀ y ∈ [x], y.arg = y) : ∃ v, vs = [v] ∧ RX K g H x.arg v ∧ x.arg = x := by
  obtain ⟨v, r, e, h1, h2⟩ := h
  rw [show r = [] from h2] at e
  have e2 := ha x (List.mem_cons_self ..)
  exact ⟨v, e, by rw [e2]; exact h1, e2⟩
theorem two_args {K : PySem.W.Frag} {g : Gh} {H : Hp} {x y : Co.X} {vs : List V} (h : RXs K g H [x, y] vs) (ha : ∀ z ∈ [x, y], z.arg = z) : ∃ v u, vs = [v, u] ∧ RX K g H x.arg v ∧ RX K g H y.arg u ∧ x.arg = x ∧ y.arg = y := by
  obtain ⟨v, r, e, h1, u, r2, e3, h2, h3⟩ := h
  rw [show r2 = [] from h3] at e3
  rw [e3] at e
  have e2 := ha x (List.mem_cons_self ..)
  have e4 := ha y (List.mem_cons_of_mem _ (List.mem_cons_self ..))
  exact ⟨v, u, e, by rw [e2]; exact h1, by rw [e4]; exact h2, e2, e4⟩
theorem bi_len : CallR X (.builtin "len") (rBi X.K .len) := by
  intro pins s σ H vs us Q I r h
  obtain ⟨g, st, xs, hr, rx, ha, z, ez, q⟩ := h
  unfold biE at ez
  split at ez <;> first | (rename_i e; cases e) | skip
  · rename_i x
    obtain ⟨v, rfl, r1, ex⟩ := one_arg rx ha
    rw [← ex] at ez
    split at ez
    · rename_i w hx
      split at ez
      · rename_i hz
        cases ez
        have e1 := val_str r1 hx
        subst e1
        exact call_len pins s σ H _ us Q I r ⟨_, w.length, rfl, ⟨hz, rfl⟩, q g H _ (Ext.refl _ _) hr rv_int⟩
      · cases ez
    · obtain ⟨ds, ed, rfl⟩ := Option.map_eq_some_iff.mp ez
      obtain ⟨a, ws, rfl, hq, rv⟩ := RX.items hr r1 ed
      refine call_len pins s σ H _ us Q I r ⟨_, ds.length, rfl, ?_, q g H _ (Ext.refl _ _) hr rv_int⟩
      rcases hq with hq | hq
      · exact .inl ⟨ws, hq, rv.len⟩
      · exact .inr ⟨ws, hq, rv.len⟩
  all_goals cases ez
theorem bi_abs : CallR X (.builtin "abs") (rBi X.K .abs) := by
  intro pins s σ H vs us Q I r h
  obtain ⟨g, st, xs, hr, rx, ha, z, ez, q⟩ := h
  unfold biE at ez
  split at ez <;> first | (rename_i e; cases e) | skip
  · rename_i x
    obtain ⟨v, rfl, r1, ex⟩ := one_arg rx ha
    rw [← ex] at ez
    split at ez
    · rename_i i hx
      cases ez
      have e1 := val_int r1 hx
      subst e1
      exact call_abs pins s σ H _ us Q I r ⟨i, rfl, q g H _ (Ext.refl _ _) hr rv_int⟩
    · cases ez
  all_goals cases ez
theorem bi_int : CallR X (.type "int") (rBi X.K .int) := by
  intro pins s σ H vs us Q I r h
  obtain ⟨g, st, xs, hr, rx, ha, z, ez, q⟩ := h
  unfold biE at ez
  split at ez <;> first | (rename_i e; cases e) | skip
  · rename_i x
    obtain ⟨v, rfl, r1, ex⟩ := one_arg rx ha
    rw [← ex] at ez
    split at ez
    · rename_i i hx
      cases ez
      have e1 := val_int r1 hx
      subst e1
      exact call_int1 pins s σ H _ us Q I r (.inl ⟨i, rfl, q g H _ (Ext.refl _ _) hr rv_int⟩)
    · rename_i i hx
      cases ez
      have e1 := val_bl r1 hx
      subst e1
      exact call_int1 pins s σ H _ us Q I r (.inr ⟨i, rfl, q g H _ (Ext.refl _ _) hr rv_int⟩)
    · cases ez
  all_goals cases ez
theorem bi_min2 (hc : X.calm = true) : CallR X (.builtin "min") (rBi X.K .min2) := by
  intro pins s σ H vs us Q I r h
  obtain ⟨g, st, xs, hr, rx, ha, z, ez, q⟩ := h
  unfold biE at ez
  split at ez <;> first | (rename_i e; cases e) | skip
  · rename_i x y
    obtain ⟨v, u, rfl, r1, r2, ex, ey⟩ := two_args rx ha
    rw [← ex, ← ey] at ez
    split at ez
    · rename_i i j hx hy
      cases ez
      have e1 := val_int r1 hx
      have e2 := val_int r2 hy
      subst e1 e2
      exact call_min2 hc pins s σ H _ us Q I r ⟨i, j, rfl, q g H _ (Ext.refl _ _) hr rv_int⟩
    · cases ez
  all_goals cases ez
theorem bi_max2 (hc : X.calm = true) : CallR X (.builtin "max") (rBi X.K .max2) := by
  intro pins s σ H vs us Q I r h
  obtain ⟨g, st, xs, hr, rx, ha, z, ez, q⟩ := h
  unfold biE at ez
  split at ez <;> first | (rename_i e; cases e) | skip
  · rename_i x y
    obtain ⟨v, u, rfl, r1, r2, ex, ey⟩ := two_args rx ha
    rw [← ex, ← ey] at ez
    split at ez
    · rename_i i j hx hy
      cases ez
      have e1 := val_int r1 hx
      have e2 := val_int r2 hy
      subst e1 e2
      exact call_max2 hc pins s σ H _ us Q I r ⟨i, j, rfl, q g H _ (Ext.refl _ _) hr rv_int⟩
    · cases ez
  all_goals cases ez
mutual
theorem no_dict : ∀ (p : PyData), p.plain = true → p.hasDict = false
  | .none, _ => by simp only [PyData.hasDict]
  | .bool _, _ => by simp only [PyData.hasDict]
  | .int _, _ => by simp only [PyData.hasDict]
  | .str _, _ => by simp only [PyData.hasDict]
  | .list xs, h => by
    simp only [PyData.plain] at h
    simp only [PyData.hasDict]
    exact no_dicts xs h
  | .tuple xs, h => by
    simp only [PyData.plain] at h
    simp only [PyData.hasDict]
    exact no_dicts xs h
  | .dict _, h => by
    simp only [PyData.plain] at h
    cases h
theorem no_dicts : ∀ (ps : List PyData), PyData.plainAll ps = true → PyData.hasDictAll ps = false
  | [], _ => by simp only [PyData.hasDictAll]
  | x :: xs, h => by
    simp only [PyData.plainAll, Bool.and_eq_true] at h
    simp only [PyData.hasDictAll, no_dict x h.1, no_dicts xs h.2, Bool.or_self]
end
theorem bi_repr (C : Ct P gn fn F W X) : CallR X (.builtin "repr") (rBi X.K .repr) := by
  intro pins s σ H vs us Q I r h
  obtain ⟨g, st, xs, hr, rx, ha, z, ez, q⟩ := h
  unfold biE at ez
  split at ez <;> first | (rename_i e; cases e) | skip
  · rename_i x
    obtain ⟨v, rfl, r1, ex⟩ := one_arg rx ha
    rw [← ex] at ez
    split at ez
    · rename_i p ep
      split at ez
      · rename_i hz
        obtain ⟨h1, h2, h3, h4⟩ := hz
        cases ez
        obtain ⟨dp, pl⟩ := RX.dp hr r1 ep
        obtain ⟨u, rfl, ru⟩ := vals1 r
        obtain ⟨as, rd⟩ := Dp.reads I p v u dp ru
        have nd := no_dict p pl
        have hu := C.units
        have fin : ∀ a, u = .ref a → wpAny (model X.prog X.w) X.A (call (.builtin "repr") [u]) (EP X pins σ Q) X.xe s := fun a e => by
          subst e
          refine repr_of_reads' rd h1 (fun z => by rw [nd] at z; cases z) C.gd (by omega) (fun _ _ q => q) (fun h' u' tk kk => ?_) h3
          exact ⟨.str p.shown, H, I.kept (t' := tk) kk, ⟨u', rfl⟩, q g H _ (Ext.refl _ _) hr rv_str⟩
        cases rd with
        | list _ _ _ _ => exact fin _ rfl
        | tuple _ _ _ _ => exact fin _ rfl
        | none => cases h4
        | bool => cases h4
        | int => cases h4
        | str => cases h4
        | dict => cases h4
      · cases ez
    · cases ez
  all_goals cases ez
end
end Co
/-! CoC5: calls, isinstance, all, what is walked, comprehensions. -/
namespace Co
open PySem PySem.Spec PyProof.Rows L2
/-! ### the shape of arguments -/
/-- neither starred nor a set's display nor a slice -/
def ordE : Expr → Bool
  | .Starred _ _ => false
  | .Set _ _ _ => false
  | .Slice _ _ _ _ => false
  | _ => true
theorem star_cons {e : Expr} (h : ordE e = true) (es : List Expr) (env : Env) : starEach (e :: es) env = (false, eval e env) :: starEach es env := by
  cases e <;> first | rfl | cases h
theorem star_any {pos : Pos} {env : Env} : ∀ {es : List Expr}, es.all ordE = true → (backTo pos (starEach es env)).any (·.1) = false
  | [], _ => rfl
  | e :: es, h => by
    simp only [List.all_cons, Bool.and_eq_true] at h
    rw [star_cons h.1]
    show (false || (backTo pos (starEach es env)).any (·.1)) = false
    rw [star_any h.2]
    rfl
theorem noset {e : Expr} (h : ordE e = true) (op : CmpOp) : behindInMarks op e = false := by
  cases e <;> first | rfl | cases h
theorem plainIx {e : Expr} (h : ordE e = true) : PlainIx e := by
  intro o i
  cases e <;> first | rfl | cases h
theorem nofold {e : Expr} (h : ordE e = true) (env : Env) : ∀ x, foldedSetIterable e env x = pure x := by
  intro x
  cases e <;> first | rfl | cases h
section
variable {P : Prog} {gn fn : Nat → Str} {F : Fns} {W : WX} {X : Cx}

/-! ### built-in functions by their names -/
theorem bi_imp {b : Bi} {cs : List E} : ∀ σ H Q, tE X.K W P.G F (.bi b cs) σ H Q → tCB (rBi X.K b) (tA X.K W P.G F cs) σ H Q := fun σ H Q ⟨g, sl, s, hr, sr, h⟩ => by
  simp only [ev] at h
  refine args hr sr h fun g1 s1 xs vs H1 e1 hr1 sr1 rxs ha hl h1 => ?_
  obtain ⟨z, ez, q⟩ := lift_q h1
  exact ⟨g1, s1, xs, hr1, rxs, ha, z, ez, q⟩
def biName : Bi → Str
  | .len => "len" | .abs => "abs" | .int => "int" | .min2 => "min" | .max2 => "max" | .repr => "repr"
theorem se_bi (C : Ct P gn fn F W X) (b : Bi) {c : E} {cs : List E} {e : Expr} {es : List Expr} {p pos : Pos} (hg : Gl X (biName b)) (ha : PA X (e :: es) (tA X.K W P.G F (c :: cs))) (ho : (e :: es).all ordE = true) :
    PE X (.Call (.Name (biName b) p) (e :: es) [] pos) (tE X.K W P.G F (.bi b (c :: cs))) := by
  have h1 : ordE e = true ∧ es.all ordE = true := by simpa only [List.all_cons, Bool.and_eq_true] using ho
  have s1 := star_cons h1.1 es X.env
  have s2 := star_any (pos := pos) (env := X.env) h1.2
  have m : X.mg (biName b) = none := C.blt _ (by cases b <;> decide)
  refine PE.imp ?_ bi_imp
  cases b with
  | len => exact pe_callB bi_len hg m boot_len ha (by decide) (by decide) s1 s2
  | abs => exact pe_callB bi_abs hg m (by decide +kernel) ha (by decide) (by decide) s1 s2
  | int => exact pe_callTy bi_int hg m (by decide +kernel) ha (by decide) (by decide) s1 s2
  | min2 => exact pe_callB (bi_min2 C.calm) hg m (by decide +kernel) ha (by decide) (by decide) s1 s2
  | max2 => exact pe_callB (bi_max2 C.calm) hg m (by decide +kernel) ha (by decide) (by decide) s1 s2
  | repr => exact pe_callB (bi_repr C) hg m (by decide +kernel) ha (by decide) (by decide) s1 s2

/-! ### isinstance against a built-in class -/
def tyS : Ty → String
  | .int => "int" | .bool => "bool" | .str => "str" | .tuple => "tuple" | .list => "list"
def isB (t : String) (c : Ty) : Bool := match c with
  | .int => t == "int" || t == "bool"
  | .bool => t == "bool"
  | .str => t == "str"
  | .tuple => t == "tuple"
  | .list => t == "list"
theorem kit_tab : (["NoneType", "bool", "int", "str", "tuple", "list"].all fun t => [Ty.int, .bool, .str, .tuple, .list].all fun c => kitB t (tyS c) == some (isB t c)) = true := by decide +kernel
theorem kit_at {t : String} (h : t ∈ ["NoneType", "bool", "int", "str", "tuple", "list"]) (c : Ty) : kitB t (tyS c) = some (isB t c) := by
  have h1 := List.all_eq_true.mp kit_tab t h
  have h2 := List.all_eq_true.mp h1 c (by cases c <;> decide)
  exact beq_iff_eq.mp h2
theorem se_isi (C : Ct P gn fn F W X) {c : Ty} {ca : E} {e : Expr} {n p pos : Pos} (hg : Gl X "isinstance") (hc : Gl X (Str.ofString (tyS c))) (ha : PE X e (tE X.K W P.G F ca)) (ho : ordE e = true) :
    PE X (.Call (.Name "isinstance" p) [e, .Name (Str.ofString (tyS c)) n] [] pos) (tE X.K W P.G F (.isi c ca)) := by
  have m : X.mg "isinstance" = none := C.blt _ (by decide)
  have pt : PE X (.Name (Str.ofString (tyS c)) n) (tC (.ty (tyS c))) := by
    cases c with
    | int => exact pe_bltn hc (C.blt _ (by decide)) (show bootBuiltins _ = some (.type "int") by decide +kernel) rfl (by decide) (by decide)
    | bool => exact pe_bltn hc (C.blt _ (by decide)) (show bootBuiltins _ = some (.type "bool") by decide +kernel) rfl (by decide) (by decide)
    | str => exact pe_bltn hc (C.blt _ (by decide)) (show bootBuiltins _ = some (.type "str") by decide +kernel) rfl (by decide) (by decide)
    | tuple => exact pe_bltn hc (C.blt _ (by decide)) (show bootBuiltins _ = some (.type "tuple") by decide +kernel) rfl (by decide) (by decide)
    | list => exact pe_bltn hc (C.blt _ (by decide)) (show bootBuiltins _ = some (.type "list") by decide +kernel) rfl (by decide) (by decide)
  refine PE.imp (pe_callB call_isi hg m (by decide +kernel) (pa_cons ha (pa_cons pt pa_nil rfl) (star_cons ho _ _)) (by decide) (by decide) (star_cons ho _ _) rfl) fun σ H Q ⟨g, sl, s, hr, sr, h⟩ => ?_
  simp only [ev] at h
  refine opd hr sr h fun g1 s1 x v H1 e1 hr1 sr1 rx h1 => ?_
  obtain ⟨z, ez, q⟩ := lift_q h1
  obtain ⟨k, ek, rfl⟩ := Option.map_eq_some_iff.mp ez
  have fin : ∀ (t : String) , t ∈ ["NoneType", "bool", "int", "str", "tuple", "list"] → TyOf X.K H1 v (.type t) → k = isB t c → rIsi X.K [v, .ty (tyS c)] H1 Q := fun t ht ty hk =>
    ⟨v, .ty (tyS c), .type t, .type (tyS c), k, rfl, .ty _, .base ty, by rw [hk]; exact kit_ty (kit_at ht c), q g1 H1 _ (Ext.refl _ _) hr1 rv_bl⟩
  show rIsi X.K [v, .ty (tyS c)] H1 Q
  have vv : ∀ d, x.arg.d = d → (∀ ds, d ≠ .lst ds) → Rv X.K g1 d v := fun d e hn => RX.val rx e hn
  unfold isiE at ek
  cases hd : x.arg.d with
  | non =>
    rw [hd] at ek; cases ek
    have r := vv _ hd (fun _ z => by cases z)
    simp only [Rv] at r
    subst r
    exact fin "NoneType" (by decide) .non (by cases c <;> rfl)
  | bl b =>
    rw [hd] at ek; cases ek
    have r := vv _ hd (fun _ z => by cases z)
    simp only [Rv] at r
    subst r
    exact fin "bool" (by decide) (.bl b) (by cases c <;> rfl)
  | int b =>
    rw [hd] at ek; cases ek
    have r := vv _ hd (fun _ z => by cases z)
    simp only [Rv] at r
    subst r
    exact fin "int" (by decide) (.int b) (by cases c <;> rfl)
  | str b =>
    rw [hd] at ek; cases ek
    have r := vv _ hd (fun _ z => by cases z)
    simp only [Rv] at r
    subst r
    exact fin "str" (by decide) (.str b) (by cases c <;> rfl)
  | tup b =>
    rw [hd] at ek; cases ek
    have r := vv _ hd (fun _ z => by cases z)
    simp only [Rv] at r
    obtain ⟨a, vs, rfl, ga, _⟩ := r
    exact fin "tuple" (by decide) (.tup (hr1.fz _ _ ga)) (by cases c <;> rfl)
  | lst b =>
    rw [hd] at ek; cases ek
    obtain ⟨a, vs, rfl, ha, _⟩ := RX.list hr1 rx hd
    exact fin "list" (by decide) (.lst ha) (by cases c <;> rfl)
  | ref b =>
    rw [hd] at ek; cases ek
    have r := vv _ hd (fun _ z => by cases z)
    simp only [Rv] at r
    obtain ⟨a, rfl, ga⟩ := r
    have l := hr1.bd a b ga
    cases es : s1[b]? with
    | none => rw [List.getElem?_eq_none_iff] at es; omega
    | some o =>
      obtain ⟨a2, g2, o2⟩ := hr1.io b o es
      have e2 := hr1.uq _ _ _ ga g2
      subst e2
      cases o with
      | lst ds =>
        obtain ⟨vs, hv, _⟩ := o2
        exact fin "list" (by decide) (.lst hv) (by cases c <;> rfl)
  | scr _ => rw [hd] at ek; cases ek
  | ins _ _ => rw [hd] at ek; cases ek
  | exc _ _ => rw [hd] at ek; cases ek

/-! ### calls of the program's own functions -/
theorem se_call (C : Ct P gn fn F W X) {f : Nat} {c : E} {cs : List E} {x : Str} {e : Expr} {es : List Expr} {p pos : Pos} (hf : (P.tab f).isSome = true) (hx : x = fn f) (hg : Gl X x) (hdb : (x == ("__debug__" : Str)) = false)
    (ha : PA X (e :: es) (tA X.K W P.G F (c :: cs))) (ho : (e :: es).all ordE = true) : PE X (.Call (.Name x p) (e :: es) [] pos) (tE X.K W P.G F (.call f (c :: cs))) := by
  have h1 : ordE e = true ∧ es.all ordE = true := by simpa only [List.all_cons, Bool.and_eq_true] using ho
  have s1 := star_cons h1.1 es X.env
  have s2 := star_any (pos := pos) (env := X.env) h1.2
  obtain ⟨a, hm, hk, hF⟩ := C.call f hf
  refine ⟨fun pins sh σ H Q I ⟨g, sl, s, hr, sr, h⟩ => ?_⟩
  simp only [ev] at h
  refine wpAny_Call_Name_kw (ld_glob I hg (by rw [hx]; exact hm) ?_ hdb)
  refine PySem.W.callWith_K (h₀ := X.base) I.ok.mod.kin hk (thn (ha.run pos pins sh σ H (fun vs H1 => ∃ g1 s1 xs, HRel X.K g1 s1 H1 ∧ RXs X.K g1 H1 xs vs ∧ (∀ x ∈ xs, x.arg = x) ∧ Post X.K W σ g1 H1 (RX X.K) Q (F f xs s1)) I (args hr sr h fun g1 s1 xs vs H1 e1 hr1 sr1 rxs ha hl h1 => ⟨g1, s1, xs, hr1, rxs, ha, h1⟩)) fun us s1' ⟨vs, H1, I1, r, q⟩ => ⟨I1.kIn, ?_⟩) s1 s2
  obtain ⟨g1, s1, xs, hr1, rxs, ha1, h1⟩ := q
  exact hF pins σ H1 s1' us vs g1 xs s1 Q I1 r hr1 rxs ha1 h1
theorem se_call0 (C : Ct P gn fn F W X) {f : Nat} {x : Str} {p pos : Pos} (hf : (P.tab f).isSome = true) (hx : x = fn f) (hg : Gl X x) (hdb : (x == ("__debug__" : Str)) = false) : PE X (.Call (.Name x p) [] [] pos) (tE X.K W P.G F (.call f [])) := by
  obtain ⟨a, hm, hk, hF⟩ := C.call f hf
  refine ⟨fun pins sh σ H Q I ⟨g, sl, s, hr, sr, h⟩ => ?_⟩
  simp only [ev, evs, R.bind_ok] at h
  refine wpAny_Call_Name_kw (ld_glob I hg (by rw [hx]; exact hm) ?_ hdb)
  exact PySem.W.callWith_K0 I.kIn hk (hF pins σ H sh [] [] g [] s Q I .nil hr rfl (fun x hx => by cases hx) h)

/-! ### all(..) of a list of truth values -/
theorem bools_vals {K : PySem.W.Frag} {g : Gh} : ∀ {ds : List D} {bs : List Bool} {vs : List V}, bools ds = some bs → Rvs K g ds vs → vs = bs.map V.bl
  | [], bs, vs, e, r => by
    cases e
    rw [r.inv0]
    rfl
  | d :: ds, bs, vs, e, r => by
    obtain ⟨v, w, rfl, r1, r2⟩ := r.inv
    cases d with
    | bl b =>
      simp only [bools] at e
      obtain ⟨cs, ec, rfl⟩ := Option.map_eq_some_iff.mp e
      simp only [Rv] at r1
      subst r1
      rw [bools_vals ec r2]
      rfl
    | _ => simp only [bools] at e; cases e
theorem se_allc (C : Ct P gn fn F W X) {c : E} {e : Expr} {p pos : Pos} (hg : Gl X "all") (ha : PE X e (tE X.K W P.G F c)) (ho : ordE e = true) : PE X (.Call (.Name "all" p) [e] [] pos) (tE X.K W P.G F (.allc c)) := by
  have m : X.mg "all" = none := C.blt _ (by decide)
  refine PE.imp (pe_callB (cr_all C.calm) hg m (by decide +kernel) (pa_cons ha pa_nil (star_cons ho _ _)) (by decide) (by decide) (star_cons ho _ _) rfl) fun σ H Q ⟨g, sl, s, hr, sr, h⟩ => ?_
  simp only [ev] at h
  refine opd hr sr h fun g1 s1 x v H1 e1 hr1 sr1 rx h1 => ?_
  show rAll X.K [v] H1 Q
  cases hd : x.arg.d with
  | lst ds =>
    rw [hd] at h1
    obtain ⟨z, ez, q⟩ := lift_q h1
    obtain ⟨bs, eb, rfl⟩ := Option.map_eq_some_iff.mp ez
    obtain ⟨a, vs, rfl, ha, rv⟩ := RX.list hr1 rx hd
    have e2 := bools_vals eb rv
    subst e2
    exact ⟨a, bs, rfl, SqL.of ha, q g1 H1 _ (Ext.refl _ _) hr1 rv_bl⟩
  | _ => rw [hd] at h1; exact h1.elim
/-- a list that is to be shared -/
theorem se_newref {c : E} {e : Expr} (ha : PE X e (tE X.K W P.G F c)) : PE X e (tE X.K W P.G F (.newref c)) := by
  refine PE.imp ha fun σ H Q ⟨g, sl, s, hr, sr, h⟩ => ?_
  refine ⟨g, sl, s, hr, sr, ?_⟩
  simp only [ev] at h
  revert h
  generalize ev P.G F sl c s = r
  intro h
  cases r with
  | ok x s1 =>
    rw [R.bind_ok] at h
    cases x with
    | own ds =>
      intro g' H' v e1 hr1 rx
      obtain ⟨a, vs, rfl, hn, ha, rv⟩ := rx
      have hr2 : HRel X.K (gset g' a (some (.io s1.length))) (s1 ++ [.lst ds]) H' := by
        have kp : Kp g' (gset g' a (some (.io s1.length))) := (Ext.role (H := H') hn).kp
        have ne : ∀ b r, g' b = some r → b ≠ a := fun b r e z => by rw [z, hn] at e; cases e
        refine ⟨fun b o e => ?_, fun b r e => ?_, fun n o e => ?_, fun b c n eb ec => ?_, fun b n e => ?_⟩
        · by_cases z : b = a
          · subst z; rw [gset_same] at e; cases e
          · rw [gset_ne z] at e; exact hr1.fz b o e
        · by_cases z : b = a
          · subst z; exact ⟨_, ha⟩
          · rw [gset_ne z] at e; exact hr1.dom b r e
        · by_cases hl : n < s1.length
          · rw [List.getElem?_append_left hl] at e
            obtain ⟨b, gb, ob⟩ := hr1.io n o e
            refine ⟨b, by rw [gset_ne (ne b _ gb)]; exact gb, ?_⟩
            cases o with
            | lst es =>
              obtain ⟨ws, e2, r2⟩ := ob
              exact ⟨ws, e2, Rvs.kp kp _ _ r2⟩
          · have hn2 : n = s1.length := by
              have := (List.getElem?_eq_some_iff.mp e).1
              simp only [List.length_append, List.length_cons, List.length_nil] at this
              omega
            subst hn2
            rw [List.getElem?_append_right (Nat.le_refl _), Nat.sub_self] at e
            cases e
            exact ⟨a, gset_same, vs, ha, Rvs.kp kp _ _ rv⟩
        · by_cases zb : b = a
          · by_cases zc : c = a
            · rw [zb, zc]
            · rw [zb, gset_same] at eb
              rw [gset_ne zc] at ec
              cases eb
              exact absurd (hr1.bd c _ ec) (Nat.lt_irrefl _)
          · by_cases zc : c = a
            · rw [zc, gset_same] at ec
              rw [gset_ne zb] at eb
              cases ec
              exact absurd (hr1.bd b _ eb) (Nat.lt_irrefl _)
            · rw [gset_ne zb] at eb
              rw [gset_ne zc] at ec
              exact hr1.uq b c n eb ec
        · simp only [List.length_append, List.length_cons, List.length_nil]
          by_cases z : b = a
          · subst z; rw [gset_same] at e; cases e; omega
          · rw [gset_ne z] at e
            have := hr1.bd b n e
            omega
      refine h _ H' (.ref a) (e1.trans (Ext.role hn)) hr2 ?_
      show Rv X.K _ (.ref _) _
      simp only [Rv]
      exact ⟨a, rfl, gset_same⟩
    | v d => exact h.elim
    | vw ds => exact h.elim
  | ex e s1 => exact h
  | bad => exact h
end
end Co
/-! CoC6: what is walked, targets, comprehensions. -/
namespace Co
open PySem PySem.Spec PyProof.Rows L2

/-! ### what is walked -/
/-- J yields the items ds, as long as the state goes on from g0, H0 by Rl -/
structure Walk (K : PySem.W.Frag) (Rl : Gh → Hp → Gh → Hp → Prop) (J : It) (ds : List D) (g0 : Gh) (H0 : Hp) : Prop where
  go : ∀ i d g s H, ds[i]? = some d → Rl g0 H0 g H → HRel K g s H → J.go i H ∧ ∀ x H', J.yld i H x H' → ∃ g', Ext g H g' H' ∧ HRel K g' s H' ∧ Rv K g' d x
  stop : ∀ i g s H, ds.length ≤ i → Rl g0 H0 g H → HRel K g s H → J.stop i H
  len : ds.length ≤ sizeLine
section
variable {K : PySem.W.Frag} {Rl : Gh → Hp → Gh → Hp → Prop} {g0 : Gh} {H0 : Hp} {ds : List D} {a : Addr} {vs : List V}
theorem walk_list (hH : ∀ g H, Rl g0 H0 g H → H a = some (.lst vs)) (kp : ∀ g H, Rl g0 H0 g H → Kp g0 g) (r : Rvs K g0 ds vs) (hl : vs.length ≤ sizeLine) : Walk K Rl (Itl K a) ds g0 H0 where
  go := fun i d g s H e rl hr => by
    have hq : SqL K H a vs := SqL.of (hH g H rl)
    obtain ⟨v, ev, rv⟩ := (Rvs.kp (kp g H rl) _ _ r).get e
    refine ⟨⟨vs, v, hq, ev⟩, fun x H' y => ?_⟩
    obtain ⟨rfl, y⟩ := y
    have := (y vs hq).symm.trans ev
    cases this
    exact ⟨g, Ext.refl _ _, hr, rv⟩
  stop := fun i g s H h rl hr => ⟨vs, SqL.of (hH g H rl), by rw [← r.len]; exact h⟩
  len := by rw [r.len]; exact hl
theorem walk_tup (hH : ∀ g H, Rl g0 H0 g H → H a = some (.tup vs)) (kp : ∀ g H, Rl g0 H0 g H → Kp g0 g) (r : Rvs K g0 ds vs) (hl : vs.length ≤ sizeLine) : Walk K Rl (Itt K a) ds g0 H0 where
  go := fun i d g s H e rl hr => by
    have hq : SqT K H a vs := SqT.of (hH g H rl)
    obtain ⟨v, ev, rv⟩ := (Rvs.kp (kp g H rl) _ _ r).get e
    refine ⟨⟨vs, v, hq, ev⟩, fun x H' y => ?_⟩
    obtain ⟨rfl, y⟩ := y
    have := (y vs hq).symm.trans ev
    cases this
    exact ⟨g, Ext.refl _ _, hr, rv⟩
  stop := fun i g s H h rl hr => ⟨vs, SqT.of (hH g H rl), by rw [← r.len]; exact h⟩
  len := by rw [r.len]; exact hl
theorem walk_str (z : Str) (hz : z.length ≤ sizeLine) : Walk K Rl (Its z) (z.cps.toList.map fun c => D.str ⟨#[c]⟩) g0 H0 where
  go := fun i d g s H e rl hr => by
    rw [List.getElem?_map] at e
    obtain ⟨c, ec, rfl⟩ := Option.map_eq_some_iff.mp e
    have ec' : z.cps[i]? = some c := by rw [← Array.getElem?_toList]; exact ec
    refine ⟨(Array.getElem?_eq_some_iff.mp ec').1, fun x H' y => ?_⟩
    obtain ⟨rfl, c', ec2, rfl⟩ := y
    rw [ec'] at ec2
    cases ec2
    exact ⟨g, Ext.refl _ _, hr, by simp only [Rv]⟩
  stop := fun i g s H h rl hr => by
    show z.cps.size ≤ i
    rw [List.length_map, Array.length_toList] at h
    exact h
  len := by rw [List.length_map, Array.length_toList]; exact hz
theorem walk_rng (lo : Int) (n : Nat) (hn : n ≤ sizeLine) : Walk K Rl (Itr lo n) (rngD lo n) g0 H0 where
  go := fun i d g s H e rl hr => by
    unfold rngD at e
    rw [List.getElem?_map] at e
    obtain ⟨c, ec, rfl⟩ := Option.map_eq_some_iff.mp e
    obtain ⟨hl, e1⟩ := List.getElem?_eq_some_iff.mp ec
    rw [List.length_range] at hl
    rw [List.getElem_range] at e1
    subst e1
    refine ⟨hl, fun x H' y => ?_⟩
    obtain ⟨rfl, rfl⟩ := y
    exact ⟨g, Ext.refl _ _, hr, by simp only [Rv]⟩
  stop := fun i g s H h rl hr => by
    unfold rngD at h
    rw [List.length_map, List.length_range] at h
    exact h
  len := by unfold rngD; rw [List.length_map, List.length_range]; exact hn
end
theorem PI.imp {X : Cx} {tg e : Expr} {t t' : TI} (h : PI X tg e t) (i : ∀ σ H Q, t' σ H Q → t σ H Q) : PI X tg e t' := ⟨fun pins s σ H Q I q => h.run pins s σ H Q I (i _ _ _ q)⟩
def iAny (K : PySem.W.Frag) (te : TE) : TI := fun σ H R => te σ H fun x H1 =>
  (∃ a xs, x = .ref a ∧ SqL K H1 a xs ∧ (xs.length ≤ sizeLine → R (Itl K a) H1)) ∨ (∃ a xs, x = .ref a ∧ SqT K H1 a xs ∧ (xs.length ≤ sizeLine → R (Itt K a) H1)) ∨ ∃ z, x = .str z ∧ R (Its z) H1
theorem pi_any {X : Cx} {tg e : Expr} {te : TE} (he : PE X e te) : PI X tg e (iAny X.K te) := by
  refine ⟨fun pins s σ H R I h => ?_⟩
  refine thn (he.run pins s σ H _ I h) fun v s1 ⟨y, H1, I1, r1, q⟩ => ?_
  rcases q with ⟨a, xs, rfl, hq, q⟩ | ⟨a, xs, rfl, hq, q⟩ | ⟨x, rfl, q⟩
  · cases r1
    obtain ⟨its, rv, p, hz⟩ := I1.list hq
    refine wpAny_pyIter_list p.isList ?_
    refine ⟨s1.heap.objs.size, [s1.heap.objs.size], _, _, H1, rfl, I1.kept (t' := s1.toks) fun b o e => Heap.get?_push_of_some _ e, turn_list a _, ⟨_, Heap.get?_push_size _ rfl, rfl, rfl⟩, fun b hb => ?_, q hz⟩
    have e : b = s1.heap.objs.size := by simpa using hb
    subst e
    exact I1.fpOk (Nat.le_refl _) (I1.hok.fresh (Nat.le_refl _))
  · cases r1
    obtain ⟨its, rv, p, hz⟩ := I1.tuple hq
    refine wpAny_pyIter_tuple (show s1.heap.IsTuple a its.toArray from p) ?_
    refine ⟨s1.heap.objs.size, [s1.heap.objs.size], _, _, H1, rfl, I1.kept (t' := s1.toks) fun b o e => Heap.get?_push_of_some _ e, turn_tuple a _, ⟨_, Heap.get?_push_size _ rfl, rfl, rfl⟩, fun b hb => ?_, q hz⟩
    have e : b = s1.heap.objs.size := by simpa using hb
    subst e
    exact I1.fpOk (Nat.le_refl _) (I1.hok.fresh (Nat.le_refl _))
  · obtain ⟨t, rfl⟩ := r1
    cases ha : x.cps.all (· < 128)
    · exact wpAny_pyIter_wide ha (pi_one (tk := s1.toks) I1 _ (turn_str _ x t "str_iterator" (.inr rfl)) ⟨_, Heap.get?_push_size _ rfl, rfl, rfl⟩ q)
    · exact wpAny_pyIter_ascii ha (pi_one (tk := s1.toks) I1 _ (turn_str _ x t "str_ascii_iterator" (.inl rfl)) ⟨_, Heap.get?_push_size _ rfl, rfl, rfl⟩ q)
/-- a comprehension's iterable -/
def itC (G : Nat → Option D) (F : Fns) (sl : Sl) (c : E) (s : S) : R (List D) := (ev G F sl c s).bind fun x s => R.lift s x.arg.fzItems
def tI (K : PySem.W.Frag) (W : WX) (Rl : Gh → Hp → Gh → Hp → Prop) (r : Sl → S → R (List D)) : TI := fun σ H R => ∃ g sl s, HRel K g s H ∧ SRel K g sl σ H ∧ Post K W σ g H (fun g' H' ds J => Walk K Rl J ds g' H') R (r sl s)
section
variable {P : Prog} {gn fn : Nat → Str} {F : Fns} {W : WX} {X : Cx} {tg : Expr}
/-- an operand that is walked: Rl keeps what it must -/
theorem walk_of {Rl : Gh → Hp → Gh → Hp → Prop} {g : Gh} {H : Hp} {s : S} {x : Co.X} {v : V} {ds : List D} {R : It → Hp → Prop} (hr : HRel X.K g s H) (rx : RX X.K g H x.arg v) (e : x.arg.fzItems = some ds)
    (kp : ∀ g' H', Rl g H g' H' → Kp g g') (fz : ∀ g' H' a o, Rl g H g' H' → g a = some (.fz o) → H' a = some o) (vw : ∀ g' H' a vs, Rl g H g' H' → x = .vw ds → v = .ref a → H a = some (.lst vs) → H' a = H a)
    (q : ∀ J, Walk X.K Rl J ds g H → R J H) :
    (∃ a xs, v = .ref a ∧ SqL X.K H a xs ∧ (xs.length ≤ sizeLine → R (Itl X.K a) H)) ∨ (∃ a xs, v = .ref a ∧ SqT X.K H a xs ∧ (xs.length ≤ sizeLine → R (Itt X.K a) H)) ∨ ∃ z, v = .str z ∧ R (Its z) H := by
  unfold Co.X.fzItems at e
  cases hd : x.arg.d with
  | tup es =>
    rw [hd] at e
    cases e
    obtain ⟨a, vs, rfl, hq, rv, ga⟩ := val_tup hr rx hd
    exact .inr (.inl ⟨a, vs, rfl, hq, fun hl => q _ (walk_tup (fun g' H' rl => fz g' H' a _ rl ga) kp rv hl)⟩)
  | lst es =>
    rw [hd] at e
    cases e
    left
    cases x with
    | v d =>
      have e' : d = .lst ds := hd
      subst e'
      have r' : Rv X.K g (.lst ds) v := rx
      simp only [Rv] at r'
      obtain ⟨a, vs, rfl, ga, rv⟩ := r'
      exact ⟨a, vs, rfl, hr.sql ga, fun hl => q _ (walk_list (fun g' H' rl => fz g' H' a _ rl ga) kp rv hl)⟩
    | own es =>
      cases hd
      have r' : Rv X.K g (.lst ds) v := rx
      simp only [Rv] at r'
      obtain ⟨a, vs, rfl, ga, rv⟩ := r'
      exact ⟨a, vs, rfl, hr.sql ga, fun hl => q _ (walk_list (fun g' H' rl => fz g' H' a _ rl ga) kp rv hl)⟩
    | vw es =>
      cases hd
      obtain ⟨a, vs, rfl, _, ha, rv⟩ := rx
      exact ⟨a, vs, rfl, SqL.of ha, fun hl => q _ (walk_list (fun g' H' rl => (vw g' H' a vs rl rfl rfl ha).trans ha) kp rv hl)⟩
  | str z =>
    rw [hd] at e
    dsimp only at e
    split at e
    · rename_i hz
      cases e
      exact .inr (.inr ⟨z, val_str rx hd, q _ (walk_str z hz)⟩)
    · cases e
  | _ => rw [hd] at e; cases e
theorem si_of {c : E} {e : Expr} (he : PE X e (tE X.K W P.G F c)) : PI X tg e (tI X.K W Ext (fun sl s => itC P.G F sl c s)) := by
  refine PI.imp (pi_any he) fun σ H R ⟨g, sl, s, hr, sr, h⟩ => ?_
  refine opd hr sr h fun g1 s1 x v H1 e1 hr1 sr1 rx h1 => ?_
  obtain ⟨ds, ed, q⟩ := Post.lift h1
  refine walk_of (Rl := Ext) hr1 rx ed (fun g' H' e => e.kp) (fun g' H' a o e ga => (e.st a _ ga (fun _ z => by cases z)).trans (hr1.fz _ _ ga)) (fun g' H' a vs e ex ev ha => ?_) fun J w => q g1 H1 J (Ext.refl _ _) hr1 w
  subst ex ev
  obtain ⟨b, ws, eb, ro, _, _⟩ := rx
  cases eb
  rcases ro with ro | ⟨i, ro⟩
  · exact e.st a _ ro (fun _ z => by cases z)
  · exact e.st a _ ro (fun _ z => by cases z)
theorem rOk_iff {j : Int} (h : rOk j = true) : -1000000 ≤ j ∧ j ≤ 1000000 := by
  unfold rOk at h
  simp only [Bool.and_eq_true, decide_eq_true_eq] at h
  exact h
/-- range(a) -/
theorem si_rng1 {Rl : Gh → Hp → Gh → Hp → Prop} (C : Ct P gn fn F W X) {ca : E} {a : Expr} {p pos : Pos} (hg : Gl X "range") (ha : PE X a (tE X.K W P.G F ca)) (ho : ordE a = true) :
    PI X tg (.Call (.Name "range" p) [a] [] pos) (tI X.K W Rl (fun sl s => itC P.G F sl (.rng1 ca) s)) := by
  refine PI.imp (pi_range1 hg (C.blt _ (by decide)) (pa_cons ha pa_nil (star_cons ho _ _)) (star_cons ho _ _)) fun σ H R ⟨g, sl, s, hr, sr, h⟩ => ?_
  simp only [itC, ev, Co.R.bind_assoc] at h
  refine opd hr sr h fun g1 s1 x v H1 e1 hr1 sr1 rx h1 => ?_
  show ∃ j : Int, [v] = [.int j] ∧ -(2 ^ 62) ≤ j ∧ j < 2 ^ 62 ∧ R (Itr 0 j.toNat) H1
  cases ei : asInt x.arg with
  | none => rw [ei] at h1; exact h1.elim
  | some j =>
    rw [ei] at h1
    simp only [Option.bind_some] at h1
    split at h1
    · rename_i hz
      have b := rOk_iff hz
      rw [asInt_val rx ei]
      refine ⟨j, rfl, by omega, by omega, ?_⟩
      simp only [Co.R.lift_some, Co.R.bind_ok, Co.X.arg, Co.X.fzItems, Co.X.d] at h1
      exact h1 g1 H1 _ (Ext.refl _ _) hr1 (walk_rng 0 j.toNat (by rw [sizeLine_eq]; omega))
    · exact h1.elim
theorem si_rng2 {Rl : Gh → Hp → Gh → Hp → Prop} (C : Ct P gn fn F W X) {ca cb : E} {a b : Expr} {p pos : Pos} (hg : Gl X "range") (ha : PE X a (tE X.K W P.G F ca)) (hb : PE X b (tE X.K W P.G F cb)) (ho : ordE a = true) (hob : ordE b = true) :
    PI X tg (.Call (.Name "range" p) [a, b] [] pos) (tI X.K W Rl (fun sl s => itC P.G F sl (.rng2 ca cb) s)) := by
  refine PI.imp (pi_range2 hg (C.blt _ (by decide)) (pa_cons ha (pa_cons hb pa_nil (star_cons hob _ _)) (star_cons ho _ _)) ?_ (star_cons hob _ _)) fun σ H R ⟨g, sl, s, hr, sr, h⟩ => ?_
  · rw [star_cons ho, star_cons hob]; rfl
  simp only [itC, ev, Co.R.bind_assoc] at h
  refine opd hr sr h fun g1 s1 x v H1 e1 hr1 sr1 rx h1 => ?_
  refine opd hr1 sr1 h1 fun g2 s2 y u H2 e2 hr2 sr2 ry h2 => ?_
  show ∃ i j : Int, [v, u] = [.int i, .int j] ∧ (-(2 ^ 62) ≤ i ∧ i < 2 ^ 62 ∧ -(2 ^ 62) ≤ j ∧ j < 2 ^ 62) ∧ R (Itr i (j - i).toNat) H2
  cases ei : asInt x.arg with
  | none => rw [ei] at h2; exact h2.elim
  | some i =>
    cases ej : asInt y.arg with
    | none => rw [ei, ej] at h2; exact h2.elim
    | some j =>
      rw [ei, ej] at h2
      simp only [Option.bind_some] at h2
      split at h2
      · rename_i hz
        have b1 := rOk_iff hz.1
        have b2 := rOk_iff hz.2
        rw [asInt_val rx ei, asInt_val ry ej]
        refine ⟨i, j, rfl, ⟨by omega, by omega, by omega, by omega⟩, ?_⟩
        simp only [Co.R.lift_some, Co.R.bind_ok, Co.X.arg, Co.X.fzItems, Co.X.d] at h2
        exact h2 g2 H2 _ (Ext.refl _ _) hr2 (walk_rng i (j - i).toNat (by rw [sizeLine_eq]; omega))
      · exact h2.elim

/-! ### slots -/
theorem SRel.set {K : PySem.W.Frag} {g : Gh} {sl : Sl} {σ : L2.St} {H : Hp} {d : D} {v : V} (h : SRel K g sl σ H) (i : Nat) (r : Rv K g d v) : SRel K g (sl.set i (some (.v d))) (σ.set i (some v)) H := by
  refine ⟨by rw [List.length_set, List.length_set]; exact h.len, fun j x hx => ?_⟩
  by_cases e : i = j
  · subst e
    have hl : i < sl.length := by
      have := (List.getElem?_eq_some_iff.mp hx).1
      rwa [List.length_set] at this
    rw [List.getElem?_set_self hl] at hx
    cases hx
    exact ⟨v, List.getElem?_set_self (by rw [← h.len]; exact hl), r⟩
  · rw [List.getElem?_set_ne e] at hx
    obtain ⟨w, e1, r1⟩ := h.at_ j x hx
    exact ⟨w, by rw [List.getElem?_set_ne e]; exact e1, r1⟩
theorem SRel.none {K : PySem.W.Frag} {g : Gh} {sl : Sl} {σ : L2.St} {H : Hp} (h : SRel K g sl σ H) (i : Nat) : SRel K g (sl.set i none) (σ.set i none) H := by
  refine ⟨by rw [List.length_set, List.length_set]; exact h.len, fun j x hx => ?_⟩
  by_cases e : i = j
  · subst e
    have hl : i < sl.length := by
      have := (List.getElem?_eq_some_iff.mp hx).1
      rwa [List.length_set] at this
    rw [List.getElem?_set_self hl] at hx
    cases hx
  · rw [List.getElem?_set_ne e] at hx
    obtain ⟨w, e1, r1⟩ := h.at_ j x hx
    exact ⟨w, by rw [List.getElem?_set_ne e]; exact e1, r1⟩
theorem SRel.wipe {K : PySem.W.Frag} {g : Gh} {sl : Sl} {σ : L2.St} {H : Hp} (h : SRel K g sl σ H) : ∀ vs : List Nat, SRel K g (wipeSl sl vs) (L2.wipe σ vs) H
  | [] => h
  | v :: vs => (SRel.wipe h vs).none v
def setsV : List Nat → List V → L2.St → L2.St
  | i :: is, v :: vs, σ => setsV is vs (σ.set i (some v))
  | _, _, σ => σ
theorem set_swap (σ : L2.St) (i j : Nat) (h : i ≠ j) (a b : Option V) : (σ.set i a).set j b = (σ.set j b).set i a := List.set_comm _ _ h
theorem wipe_set (i : Nat) (x : Option V) : ∀ (σ : L2.St) (is : List Nat), (L2.wipe (σ.set i x) is).set i none = (L2.wipe σ is).set i none
  | σ, [] => by
    show (σ.set i x).set i none = σ.set i none
    rw [List.set_set]
  | σ, j :: is => by
    show ((L2.wipe (σ.set i x) is).set j none).set i none = ((L2.wipe σ is).set j none).set i none
    by_cases e : j = i
    · subst e
      rw [List.set_set, List.set_set]
      exact wipe_set j x σ is
    · rw [set_swap _ j i e, set_swap _ j i e, wipe_set i x σ is]
theorem wipe_sets : ∀ (is : List Nat) (vs : List V) (σ : L2.St), L2.wipe (setsV is vs σ) is = L2.wipe σ is
  | [], [], σ => rfl
  | [], _ :: _, σ => rfl
  | i :: is, [], σ => rfl
  | i :: is, v :: vs, σ => by
    show (L2.wipe (setsV is vs (σ.set i (some v))) is).set i none = (L2.wipe σ is).set i none
    rw [wipe_sets is vs]
    exact wipe_set i _ σ is
theorem wipe_none (i : Nat) : ∀ (σ : L2.St) (is : List Nat), i ∈ is → (L2.wipe σ is).set i none = L2.wipe σ is
  | σ, j :: is, h => by
    show ((L2.wipe σ is).set j none).set i none = (L2.wipe σ is).set j none
    by_cases e : j = i
    · subst e
      rw [List.set_set]
    · rw [set_swap _ j i e, wipe_none i σ is (by
        rcases List.mem_cons.mp h with h | h
        · exact absurd h.symm e
        · exact h)]
theorem wipe_twice (σ : L2.St) (vs : List Nat) : ∀ is : List Nat, (∀ i ∈ is, i ∈ vs) → L2.wipe (L2.wipe σ vs) is = L2.wipe σ vs
  | [], _ => rfl
  | i :: is, h => by
    show (L2.wipe (L2.wipe σ vs) is).set i none = L2.wipe σ vs
    rw [wipe_twice σ vs is (fun j hj => h j (List.mem_cons_of_mem _ hj))]
    exact wipe_none i σ vs (h i (List.mem_cons_self ..))

/-! ### targets -/
def gT (K : PySem.W.Frag) (t : T) : TG := fun v σ H Q => ∃ g s sl d sl', HRel K g s H ∧ SRel K g sl σ H ∧ Rv K g d v ∧ bindT t d s sl = some sl' ∧ ∀ σ', L2.wipe σ' t.ixs = L2.wipe σ t.ixs → SRel K g sl' σ' H → Q σ' H
theorem PG.imp {X : Cx} {tg : Expr} {t t' : TG} (h : PG X tg t) (i : ∀ v σ H Q, t' v σ H Q → t v σ H Q) : PG X tg t' := ⟨fun pins s σ H v u Q I r q => h.run pins s σ H v u Q I r (i _ _ _ _ q)⟩
theorem sg_name {i : Nat} {x : Str} {pos : Pos} (hN : X.N.Nodup) (hi : X.N[i]? = some x) (hx : Loc X.env.scope x) (hf : X.fn x = true ∨ X.env.scope.names.lookup x = some .local) : PG X (.Name x pos) (gT X.K (.name i)) := by
  refine PG.imp (pg_name hN hi hx hf) fun v σ H Q ⟨g, s, sl, d, sl', hr, sr, rv, eb, q⟩ => ?_
  cases eb
  refine q _ ?_ (sr.set i rv)
  show (σ.set i (some v)).set i none = σ.set i none
  rw [List.set_set]
def gNms : List Nat → TGs
  | [] => gNil
  | i :: is => gCons (gName i) (gNms is)
theorem gNms_run : ∀ (is : List Nat) (vs : List V) (σ : L2.St) (H : Hp) (Q : L2.St → Hp → Prop), vs.length = is.length → Q (setsV is vs σ) H → gNms is vs σ H Q
  | [], [], σ, H, Q, _, q => ⟨rfl, q⟩
  | i :: is, v :: vs, σ, H, Q, hl, q => ⟨v, vs, rfl, gNms_run is vs _ H Q (by simpa using hl) q⟩
theorem bindNames_rel {K : PySem.W.Frag} {g : Gh} {H : Hp} : ∀ {is : List Nat} {ds : List D} {vs : List V} {sl sl' : Sl} {σ : L2.St}, bindNames is ds sl = some sl' → Rvs K g ds vs → SRel K g sl σ H → SRel K g sl' (setsV is vs σ) H
  | [], [], vs, sl, sl', σ, e, r, sr => by
    rw [r.inv0]
    cases e
    exact sr
  | i :: is, d :: ds, vs, sl, sl', σ, e, r, sr => by
    obtain ⟨v, w, rfl, r1, r2⟩ := r.inv
    exact bindNames_rel (is := is) (ds := ds) e r2 (sr.set i r1)
  | [], _ :: _, _, _, _, _, e, _, _ => by cases e
  | _ :: _, [], _, _, _, _, e, _, _ => by cases e
theorem sg_tup (hc : X.calm = true) {es : List Expr} {is : List Nat} {k : Nat} {pos : Pos} (h : PGs X es (gNms is)) (hn : (assignEach es X.env).length = is.length) (hst : (assignEach es X.env).findIdx? (·.1) = none) : PG X (.Tuple es k pos) (gT X.K (.tup is)) := by
  have h1 : PG X (.Tuple es k pos) (gTup X.K is.length (gNms is)) := pg_tup hc h hn hst
  have h2 : PG X (.Tuple es k pos) (gLst X.K is.length (gNms is)) := pg_lst hc h hn hst
  refine ⟨fun pins sh σ H v u Q I r ⟨g, s, sl, d, sl', hr, sr, rv, eb, q⟩ => ?_⟩
  simp only [bindT] at eb
  cases ed : (Co.X.v d).items s with
  | none => rw [ed] at eb; cases eb
  | some ds =>
    rw [ed] at eb
    dsimp only at eb
    split at eb
    · rename_i hl
      obtain ⟨a, vs, rfl, hq, rvs⟩ := RX.items (x := .v d) hr (show RX X.K g H (.v d) v from rv) ed
      have fin : gNms is vs σ H Q := gNms_run is vs σ H Q (by rw [← rvs.len]; exact hl) (q _ (wipe_sets is vs σ) (bindNames_rel eb rvs sr))
      rcases hq with hq | hq
      · exact h2.run pins sh σ H _ u Q I r ⟨a, vs, rfl, hq, by rw [← rvs.len]; exact hl, fin⟩
      · exact h1.run pins sh σ H _ u Q I r ⟨a, vs, rfl, hq, by rw [← rvs.len]; exact hl, fin⟩
    · cases eb

/-! ### [elt for t in it if ..] -/
abbrev W0 : WX := fun _ _ _ _ => False
def tIf (K : PySem.W.Frag) (G : Nat → Option D) (F : Fns) (cs : List E) : TT := fun σ H Q => ∃ g sl s, HRel K g s H ∧ SRel K g sl σ H ∧ Post K W0 σ g H relB Q (evi G F sl cs s)
theorem PTs.imp {X : Cx} {e : List Expr} {t t' : TT} (h : PTs X e t) (i : ∀ σ H Q, t' σ H Q → t σ H Q) : PTs X e t' := ⟨fun pins s σ H Q I q => h.run pins s σ H Q I (i _ _ _ q)⟩
theorem sif_nil : PTs X [] (tIf X.K P.G F []) := by
  refine PTs.imp pts_nil fun σ H Q ⟨g, sl, s, hr, sr, h⟩ => ?_
  exact h g H true (Ext.refl _ _) hr rfl
theorem sif_one {c : E} {e : Expr} (h : PT X e (tT X.K W0 P.G F c)) : PTs X [e] (tIf X.K P.G F [c]) :=
  PTs.imp (pts_one h) fun σ H Q ⟨g, sl, s, hr, sr, h⟩ => ⟨g, sl, s, hr, sr, h⟩
/-- a role is given up -/
theorem HRel.drop {K : PySem.W.Frag} {g : Gh} {s : S} {H : Hp} {a : Addr} (h : HRel K g s H) (ha : ∀ r, g a = some r → r = .vw ∨ ∃ i, r = .own i) : HRel K (gset g a none) s H := by
  have kp : Kp g (gset g a none) := fun b r e n1 n2 => by
    by_cases z : b = a
    · subst z
      rcases ha r e with q | ⟨i, q⟩
      · exact absurd q n2
      · exact absurd q (n1 i)
    · rw [gset_ne z]; exact e
  refine ⟨fun b o e => ?_, fun b r e => ?_, fun n o e => ?_, fun b c n eb ec => ?_, fun b n e => ?_⟩
  · by_cases z : b = a
    · subst z; rw [gset_same] at e; cases e
    · rw [gset_ne z] at e; exact h.fz b o e
  · by_cases z : b = a
    · subst z; rw [gset_same] at e; cases e
    · rw [gset_ne z] at e; exact h.dom b r e
  · obtain ⟨b, gb, ob⟩ := h.io n o e
    refine ⟨b, kp b _ gb (fun _ z => by cases z) (fun z => by cases z), ?_⟩
    cases o with
    | lst ds =>
      obtain ⟨vs, e1, r1⟩ := ob
      exact ⟨vs, e1, Rvs.kp kp _ _ r1⟩
  · have nb : b ≠ a := fun z => by rw [z, gset_same] at eb; cases eb
    have nc : c ≠ a := fun z => by rw [z, gset_same] at ec; cases ec
    rw [gset_ne nb] at eb
    rw [gset_ne nc] at ec
    exact h.uq b c n eb ec
  · have nb : b ≠ a := fun z => by rw [z, gset_same] at e; cases e
    rw [gset_ne nb] at e
    exact h.bd b n e
/-- a list with the role vw is changed -/
theorem HRel.updv {K : PySem.W.Frag} {g : Gh} {s : S} {H : Hp} {a : Addr} {o : HO} (h : HRel K g s H) (ha : g a = some .vw ∨ (∃ i, g a = some (.own i))) : HRel K g s (upd H a o) := by
  have ne : ∀ b r, g b = some r → (r ≠ .vw ∧ ∀ i, r ≠ .own i) → b ≠ a := fun b r e n z => by
    subst z
    rcases ha with q | ⟨i, q⟩
    · rw [q] at e; cases e; exact n.1 rfl
    · rw [q] at e; cases e; exact n.2 i rfl
  refine ⟨fun b u e => by rw [upd_ne (ne b _ e ⟨(fun z => by cases z), fun _ z => by cases z⟩)]; exact h.fz b u e, fun b r e => ?_, fun n u e => ?_, h.uq, h.bd⟩
  · by_cases z : b = a
    · subst z; exact ⟨o, upd_same⟩
    · rw [upd_ne z]; exact h.dom b r e
  · obtain ⟨b, gb, ob⟩ := h.io n u e
    exact ⟨b, gb, by rw [upd_ne (ne b _ gb ⟨(fun z => by cases z), fun _ z => by cases z⟩)]; exact ob⟩
theorem lcLoop_cons {f : D → S → R (Option D)} {d : D} {ds : List D} {s : S} {es : List D} {s' : S} (h : lcLoop f (d :: ds) s = .ok es s') :
    ∃ o s1 r, f d s = .ok o s1 ∧ lcLoop f ds s1 = .ok r s' ∧ es = (match o with | some e => e :: r | none => r) := by
  simp only [lcLoop] at h
  cases e1 : f d s with
  | ok o s1 =>
    rw [e1, R.bind_ok] at h
    cases e2 : lcLoop f ds s1 with
    | ok r s2 =>
      rw [e2, R.bind_ok] at h
      cases h
      exact ⟨o, s1, r, rfl, e2, rfl⟩
    | ex e s2 => rw [e2] at h; cases h
    | bad => rw [e2] at h; cases h
  | ex e s1 => rw [e1] at h; cases h
  | bad => rw [e1] at h; cases h
theorem R.noex_inv {α : Type} {r : R α} {a : α} {s : S} (h : r.noex = .ok a s) : r = .ok a s := by
  cases r with
  | ok b t => exact h
  | ex e t => cases h
  | bad => cases h
theorem se_lc (hN : X.N.Nodup) (hc : X.calm = true) {t : T} {ci ce : E} {cifs : List E} {elt iter : Expr} {ifs : List Expr} {scope : Scope} {own : List (Str × Nat)} {pos : Pos} (hi : PI X tg iter (tI X.K W Ext (fun sl s => itC P.G F sl ci s)))
    (ok : BlkOk X.N X.env.scope scope own) (hown : own.map (·.2) = t.ixs)
    (hg : ∀ (s : Shared) (H : Hp) (C : Addr) (cl : List (Str × Addr)) (fp : List Addr), PG (X.blk s H scope (compEnvC scope cl C X.env) fp) tg (gT X.K t))
    (ht : ∀ (s : Shared) (H : Hp) (C : Addr) (cl : List (Str × Addr)) (fp : List Addr), PTs (X.blk s H scope (compEnvC scope cl C X.env) fp) ifs (tIf X.K P.G F cifs))
    (he : ∀ (s : Shared) (H : Hp) (C : Addr) (cl : List (Str × Addr)) (fp : List Addr), PE (X.blk s H scope (compEnvC scope cl C X.env) fp) elt (tE X.K W0 P.G F ce)) (hs : ∀ x, foldedSetIterable iter X.env x = pure x) :
    ∀ {tl : TE}, (∀ σ H Q, tl σ H Q → tLc (tI X.K W Ext (fun sl s => itC P.G F sl ci s)) (gT X.K t) (tIf X.K P.G F cifs) (tE X.K W0 P.G F ce) t.ixs σ H Q) → PE X (.ListComp elt [⟨tg, iter, ifs, 0⟩] scope pos) tl := by
  intro tl i
  refine PE.imp (pe_lc hc hN hi ok hg ht he hs) fun σ H Q h => ?_
  rw [hown]
  exact i σ H Q h
/-- the reading of a comprehension -/
theorem lc_read {t : T} {ci ce : E} {cifs : List E} : ∀ σ H Q, tE X.K W P.G F (.lc ce t ci cifs) σ H Q → tLc (tI X.K W Ext (fun sl s => itC P.G F sl ci s)) (gT X.K t) (tIf X.K P.G F cifs) (tE X.K W0 P.G F ce) t.ixs σ H Q := by
  intro σ H Q ⟨g, sl, s, hr, sr, h⟩
  refine ⟨g, sl, s, hr, sr, ?_⟩
  have h2 : Post X.K W σ g H (RX X.K) Q ((itC P.G F sl ci s).bind fun ds s => (lcLoop (fun d s => match bindT t d s (wipeSl sl t.ixs) with
        | some sl' => (evi P.G F sl' cifs s).bind fun k s => if k = true then (ev P.G F sl' ce s).bind fun y s => R.lift s (y.sto.map some) else .ok none s
        | none => .bad) ds s).noex.bind fun es s => .ok (.own es) s) := by
    have e : (ev P.G F sl (.lc ce t ci cifs) s) = ((itC P.G F sl ci s).bind fun ds s => (lcLoop (fun d s => match bindT t d s (wipeSl sl t.ixs) with
        | some sl' => (evi P.G F sl' cifs s).bind fun k s => if k = true then (ev P.G F sl' ce s).bind fun y s => R.lift s (y.sto.map some) else .ok none s
        | none => .bad) ds s).noex.bind fun es s => .ok (.own es) s) := by
      simp only [ev, itC, R.bind_assoc]
      congr 1
      funext x s1
      cases x.arg.fzItems <;> rfl
    rw [← e]
    exact h
  generalize hf : (fun (d : D) (s : S) => match bindT t d s (wipeSl sl t.ixs) with
        | some sl' => (evi P.G F sl' cifs s).bind fun k s => if k = true then (ev P.G F sl' ce s).bind fun y s => R.lift s (y.sto.map some) else .ok none s
        | none => (.bad : R (Option D))) = f at h2
  have b := Post.bind (rel := fun g' H' ds (J : It) => Walk X.K Ext J ds g' H') h2
  show Post X.K W σ g H (fun g' H' ds (J : It) => Walk X.K Ext J ds g' H') _ (itC P.G F sl ci s)
  revert b
  generalize itC P.G F sl ci s = r
  intro b
  cases r with
  | ex e s1 => exact b
  | bad => exact b
  | ok ds0 s0 =>
    intro g2 H2 J e2 hr2 wk
    obtain ⟨g1, s1, ds, e1, hr1, w, p⟩ := b g2 H2 J e2 hr2 wk
    clear b h h2
    intro D hD
    cases el : (lcLoop f ds s1).noex with
    | ex e s2 => exact absurd el (by cases lcLoop f ds s1 <;> intro z <;> cases z)
    | bad => rw [el] at p; exact p.elim
    | ok es sE =>
      rw [el, R.bind_ok] at p
      have el' := R.noex_inv el
      have hn : g1 D = none := hr1.new hD
      have sr1 := sr.step e1
      -- the state between two turns
      refine ⟨fun i m H => m = ds.length - i ∧ i ≤ ds.length ∧ ∃ gi si av ad rest, Ext g1 H2 (gset gi D none) H ∧ gi D = some .vw ∧ HRel X.K gi si H ∧ H D = some (.lst av) ∧ Rvs X.K gi ad av ∧ ad.length ≤ i ∧ lcLoop f (ds.drop i) si = .ok rest sE ∧ ad ++ rest = es, ⟨ds.length, ?_⟩, ?_⟩
      · refine ⟨by simp, Nat.zero_le _, gset g1 D (some .vw), s1, [], [], es, ?_, gset_same, ?_, upd_same, .nil, Nat.zero_le _, el', rfl⟩
        · refine ⟨fun a r e => ?_, fun a r e _ => ?_⟩
          · have ne : a ≠ D := fun z => by rw [z, hn] at e; cases e
            rw [gset_ne ne, gset_ne ne]
            exact e
          · exact upd_ne fun z => by rw [z, hn] at e; cases e
        · exact (hr1.laid hD).role hn upd_same (fun u z => by cases z) (fun _ z => by cases z)
      · rintro i m H3 ⟨rfl, hi, gi, si, av, ad, rest, ex, gD, hri, hDi, rad, hlen, eli, eas⟩
        -- the ghost with D kept goes on from g1, too
        have exD : Ext g1 H2 gi H3 := ⟨fun a r e => by
            have ne : a ≠ D := fun z => by rw [z, hn] at e; cases e
            have q := ex.le a r e
            rw [gset_ne ne] at q
            exact q, ex.st⟩
        by_cases hlt : i < ds.length
        · right
          obtain ⟨d, ed⟩ : ∃ d, ds[i]? = some d := ⟨ds[i], List.getElem?_eq_getElem hlt⟩
          have edrop : ds.drop i = d :: ds.drop (i + 1) := by
            rw [List.drop_eq_getElem_cons hlt]
            congr 1
            exact Option.some.inj ((List.getElem?_eq_getElem hlt).symm.trans ed)
          rw [edrop] at eli
          obtain ⟨o, s4, r4, ef, er4, erest⟩ := lcLoop_cons eli
          obtain ⟨hgo, hyld⟩ := w.go i d gi si H3 ed exD hri
          refine ⟨hgo, fun H' => i + 1 ≤ ds.length ∧ ∃ gi si av ad rest, Ext g1 H2 (gset gi D none) H' ∧ gi D = some .vw ∧ HRel X.K gi si H' ∧ H' D = some (.lst av) ∧ Rvs X.K gi ad av ∧ ad.length ≤ i + 1 ∧ lcLoop f (ds.drop (i + 1)) si = .ok rest sE ∧ ad ++ rest = es,
            fun H' q => ⟨ds.length - (i + 1), by omega, rfl, q⟩, fun x H' y => ?_⟩
          obtain ⟨g5, e5, hr5, rv5⟩ := hyld x H' y
          have sr5 : SRel X.K g5 (wipeSl sl t.ixs) (L2.wipe σ t.ixs) H' := ((sr1.step exD).step e5).wipe t.ixs
          rw [← hf] at ef
          dsimp only at ef
          cases ebt : bindT t d si (wipeSl sl t.ixs) with
          | none => rw [ebt] at ef; cases ef
          | some sl' =>
            rw [ebt] at ef
            dsimp only at ef
            refine ⟨g5, si, wipeSl sl t.ixs, d, sl', hr5, sr5, rv5, ebt, fun σ2 ew sr6 => ⟨?_, ?_⟩⟩
            · rw [ew]
              exact wipe_twice σ t.ixs t.ixs (fun _ h => h)
            · refine ⟨g5, sl', si, hr5, sr6, ?_⟩
              cases ek : evi P.G F sl' cifs si with
              | ex e s6 => rw [ek] at ef; cases ef
              | bad => rw [ek] at ef; cases ef
              | ok k s6 =>
                rw [ek, R.bind_ok] at ef
                intro g6 H6 kb e6 hr6 ekb
                have ekb' : k = kb := ekb
                subst ekb'
                cases k with
                | true =>
                  refine iteT ⟨g6, sl', s6, hr6, sr6.step e6, ?_⟩
                  simp only [if_true] at ef
                  cases ey : ev P.G F sl' ce s6 with
                  | ex e s7 => rw [ey] at ef; cases ef
                  | bad => rw [ey] at ef; cases ef
                  | ok yx s7 =>
                    rw [ey, R.bind_ok] at ef
                    intro g7 H7 v7 e7 hr7 rx7
                    cases es7 : yx.sto with
                    | none => rw [es7] at ef; cases ef
                    | some dy =>
                      rw [es7] at ef
                      simp only [Option.map_some, R.lift_some, R.ok.injEq] at ef
                      obtain ⟨eo, es4⟩ := ef
                      subst eo es4
                      obtain ⟨g8, e8, hr8, rv8⟩ := RX.stod hr7 rx7 es7
                      have eall : Ext gi H3 g8 H7 := ((e5.trans e6).trans e7).trans e8
                      have gD8 : g8 D = some .vw := eall.le _ _ gD
                      have hD7 : H7 D = some (.lst av) := (eall.st _ _ gD (fun _ z => by cases z)).trans hDi
                      have rad8 := Rvs.kp eall.kp _ _ rad
                      refine ⟨av, hD7, ?_, by omega, g8, s7, av ++ [v7], ad ++ [dy], r4, ?_, gD8, hr8.updv (.inl gD8), upd_same, rad8.append (.cons rv8 .nil), ?_, er4, ?_⟩
                      · rw [← rad.len]
                        have := w.len
                        omega
                      · refine ⟨fun a r e => ?_, fun a r e n => ?_⟩
                        · have ne : a ≠ D := fun z => by rw [z, hn] at e; cases e
                          rw [gset_ne ne]
                          exact eall.le _ _ (exD.le _ _ e)
                        · have ne : a ≠ D := fun z => by rw [z, hn] at e; cases e
                          rw [upd_ne ne]
                          exact (eall.st _ _ (exD.le _ _ e) n).trans (exD.st _ _ e n)
                      · rw [List.length_append]
                        simp only [List.length_cons, List.length_nil]
                        omega
                      · rw [← eas, erest, List.append_assoc]
                        rfl
                | false =>
                  refine iteF ?_
                  simp only [Bool.false_eq_true, if_false, R.ok.injEq] at ef
                  obtain ⟨eo, es4⟩ := ef
                  subst eo es4
                  have eall : Ext gi H3 g6 H6 := e5.trans e6
                  have gD8 : g6 D = some .vw := eall.le _ _ gD
                  have hD7 : H6 D = some (.lst av) := (eall.st _ _ gD (fun _ z => by cases z)).trans hDi
                  refine ⟨by omega, g6, s6, av, ad, r4, ?_, gD8, hr6, hD7, Rvs.kp eall.kp _ _ rad, by omega, er4, by rw [← eas, erest]⟩
                  refine ⟨fun a r e => ?_, fun a r e n => (eall.st _ _ (exD.le _ _ e) n).trans (exD.st _ _ e n)⟩
                  have ne : a ≠ D := fun z => by rw [z, hn] at e; cases e
                  rw [gset_ne ne]
                  exact eall.le _ _ (exD.le _ _ e)
        · left
          have ei : i = ds.length := by omega
          subst ei
          refine ⟨w.stop _ gi si H3 (Nat.le_refl _) exD hri, ?_⟩
          rw [List.drop_length] at eli
          simp only [lcLoop, R.ok.injEq] at eli
          obtain ⟨rfl, rfl⟩ := eli
          rw [List.append_nil] at eas
          subst eas
          have hdrop : HRel X.K (gset gi D none) si H3 := hri.drop fun r e => by rw [gD] at e; cases e; exact .inl rfl
          refine p _ H3 (.ref D) ex hdrop ⟨D, av, rfl, gset_same, hDi, ?_⟩
          refine Rvs.kp (g := gi) (fun a r e n1 n2 => ?_) _ _ rad
          have ne : a ≠ D := fun z => by rw [z, gD] at e; cases e; exact n2 rfl
          rw [gset_ne ne]
          exact e
end
end Co
/-! CoD: statements. -/
namespace Co
open PySem PySem.Spec PyProof.Rows L2

def PostS (K : PySem.W.Frag) (W : WX) (g : Gh) (H : Hp) (D : Ends) : SR → Prop
  | .nx sl s => ∀ g' σ' H', ExtS g H g' H' → HRel K g' s H' → SRel K g' sl σ' H' → D.nx σ' H'
  | .rt x s => ∀ g' H' v, ExtS g H g' H' → HRel K g' s H' → RX K g' H' x v → D.rt v H'
  | .bk sl s => ∀ g' σ' H', ExtS g H g' H' → HRel K g' s H' → SRel K g' sl σ' H' → D.bk σ' H'
  | .ct sl s => ∀ g' σ' H', ExtS g H g' H' → HRel K g' s H' → SRel K g' sl σ' H' → D.ct σ' H'
  | .ex e sl s => ∀ g' σ' H' cls d, ExtS g H g' H' → HRel K g' s H' → SRel K g' sl σ' H' → RE K g' e cls d → W cls d σ' H'
  | .bad => False
section
variable {K : PySem.W.Frag} {W : WX} {σ : L2.St} {g g' : Gh} {H H' : Hp} {D : Ends}
theorem PostS.from {r : SR} (h : PostS K W g H D r) (e : ExtS g H g' H') : PostS K W g' H' D r := by
  cases r with
  | nx sl s => exact fun g2 σ2 H2 e2 => h g2 σ2 H2 (e.trans e2)
  | rt x s => exact fun g2 H2 v e2 => h g2 H2 v (e.trans e2)
  | bk sl s => exact fun g2 σ2 H2 e2 => h g2 σ2 H2 (e.trans e2)
  | ct sl s => exact fun g2 σ2 H2 e2 => h g2 σ2 H2 (e.trans e2)
  | ex x sl s => exact fun g2 σ2 H2 c d e2 => h g2 σ2 H2 c d (e.trans e2)
  | bad => exact h
theorem PostS.sr {α β : Type} {rel : Gh → Hp → α → β → Prop} {sl : Sl} {r : R α} {f : α → S → SR} (sr : SRel K g sl σ H) (h : PostS K W g H D (r.sr sl f)) :
    Post K W σ g H rel (fun v H1 => ∃ g1 s1 x, Ext g H g1 H1 ∧ HRel K g1 s1 H1 ∧ rel g1 H1 x v ∧ PostS K W g1 H1 D (f x s1)) r := by
  cases r with
  | ok x s => exact fun g2 H2 v e2 hr rx => ⟨g2, s, x, e2, hr, rx, PostS.from h e2.s⟩
  | ex x s => exact fun g2 H2 c d e2 hr re => h g2 σ H2 c d e2.s hr (sr.step e2) re
  | bad => exact h
theorem PostS.of {o : Option SR} (h : PostS K W g H D (.of o)) : ∃ r, o = some r ∧ PostS K W g H D r := by
  cases o with
  | none => exact h.elim
  | some r => exact ⟨r, rfl, h⟩
end
section
variable (K : PySem.W.Frag) (W : WX) (G : Nat → Option D) (F : Fns)
def tS (c : Sm) : TS := fun D σ H => ∃ g sl s, HRel K g s H ∧ SRel K g sl σ H ∧ PostS K W g H D (exS G F sl c s)
def tSs (cs : List Sm) : TS := fun D σ H => ∃ g sl s, HRel K g s H ∧ SRel K g sl σ H ∧ PostS K W g H D (exSs G F sl cs s)
end
theorem PS.imp {X : Cx} {e : Stmt} {t t' : TS} (h : PS X e t) (i : ∀ D σ H, t' D σ H → t D σ H) : PS X e t' := ⟨fun pins s σ H D I q => h.run pins s σ H D I (i _ _ _ q)⟩
theorem PSs.imp {X : Cx} {e : List Stmt} {t t' : TS} (h : PSs X e t) (i : ∀ D σ H, t' D σ H → t D σ H) : PSs X e t' := ⟨fun pins s σ H D I q => h.run pins s σ H D I (i _ _ _ q)⟩
section
variable {P : Prog} {gn fn : Nat → Str} {F : Fns} {W : WX} {X : Cx}
/-- an operand in a statement -/
theorem opdS {σ : L2.St} {H : Hp} {Q : VK} {D : Ends} {c : E} {g : Gh} {sl : Sl} {s : S} {f : Co.X → S → SR} (hr : HRel X.K g s H) (sr : SRel X.K g sl σ H) (h : PostS X.K W g H D ((ev P.G F sl c s).sr sl f))
    (k : ∀ g1 s1 x v H1, Ext g H g1 H1 → HRel X.K g1 s1 H1 → SRel X.K g1 sl σ H1 → RX X.K g1 H1 x v → PostS X.K W g1 H1 D (f x s1) → Q v H1) : tE X.K W P.G F c σ H Q := by
  refine ⟨g, sl, s, hr, sr, ?_⟩
  have b := PostS.sr (rel := RX X.K) sr h
  revert b
  generalize ev P.G F sl c s = r
  intro b
  cases r with
  | ok x s1 =>
    intro g2 H2 v e2 hr2 rx
    obtain ⟨g1, s1', x', e1, hr1, rx1, p⟩ := b g2 H2 v e2 hr2 rx
    exact k g1 s1' x' v H2 e1 hr1 (sr.step e1) rx1 p
  | ex e s1 => exact b
  | bad => exact b
/-- .. let go -/
theorem opdSa {σ : L2.St} {H : Hp} {Q : VK} {D : Ends} {c : E} {g : Gh} {sl : Sl} {s : S} {f : Co.X → S → SR} (hr : HRel X.K g s H) (sr : SRel X.K g sl σ H) (h : PostS X.K W g H D ((ev P.G F sl c s).sr sl f))
    (k : ∀ g1 s1 x v H1, Ext g H g1 H1 → HRel X.K g1 s1 H1 → SRel X.K g1 sl σ H1 → RX X.K g1 H1 x.arg v → PostS X.K W g1 H1 D (f x s1) → Q v H1) : tE X.K W P.G F c σ H Q :=
  opdS hr sr h fun g1 s1 x v H1 e1 hr1 sr1 rx p => by
    obtain ⟨g2, e2, hr2, rx2⟩ := RX.argd hr1 rx
    exact k g2 s1 x v H1 (e1.trans e2) hr2 (sr1.step e2) rx2 (p.from e2.s)
theorem tstS {σ : L2.St} {H : Hp} {Q : Bool → Hp → Prop} {D : Ends} {c : E} {g : Gh} {sl : Sl} {s : S} {f : Bool → S → SR} (hr : HRel X.K g s H) (sr : SRel X.K g sl σ H) (h : PostS X.K W g H D ((tst P.G F sl c s).sr sl f))
    (k : ∀ g1 s1 b H1, Ext g H g1 H1 → HRel X.K g1 s1 H1 → SRel X.K g1 sl σ H1 → PostS X.K W g1 H1 D (f b s1) → Q b H1) : tT X.K W P.G F c σ H Q := by
  refine ⟨g, sl, s, hr, sr, ?_⟩
  have b := PostS.sr (rel := relB) sr h
  revert b
  generalize tst P.G F sl c s = r
  intro b
  cases r with
  | ok x s1 =>
    intro g2 H2 v e2 hr2 rx
    obtain ⟨g1, s1', x', e1, hr1, rx1, p⟩ := b g2 H2 v e2 hr2 rx
    have e3 : x' = v := rx1
    subst e3
    exact k g1 s1' x' H2 e1 hr1 (sr.step e1) p
  | ex e s1 => exact b
  | bad => exact b

/-! ### blocks -/
theorem ss_nil : PSs X [] (tSs X.K W P.G F []) := by
  refine PSs.imp pss_nil fun D σ H ⟨g, sl, s, hr, sr, h⟩ => ?_
  simp only [exSs] at h
  exact h g σ H (ExtS.refl _ _) hr sr
theorem ss_cons {c : Sm} {cs : List Sm} {st : Stmt} {rest : List Stmt} (h1 : PS X st (tS X.K W P.G F c)) (h2 : PSs X rest (tSs X.K W P.G F cs)) : PSs X (st :: rest) (tSs X.K W P.G F (c :: cs)) := by
  refine PSs.imp (pss_cons h1 h2) fun D σ H ⟨g, sl, s, hr, sr, h⟩ => ?_
  simp only [exSs] at h
  refine ⟨g, sl, s, hr, sr, ?_⟩
  cases e : exS P.G F sl c s with
  | nx sl1 s1 =>
    rw [e, SR.seq_nx] at h
    exact fun g' σ' H' e1 hr1 sr1 => ⟨g', sl1, s1, hr1, sr1, h.from e1⟩
  | rt x s1 => rw [e] at h; exact h
  | bk sl1 s1 => rw [e] at h; exact h
  | ct sl1 s1 => rw [e] at h; exact h
  | ex x sl1 s1 => rw [e] at h; exact h
  | bad => rw [e] at h; exact h.elim
/-- a statement of ours alone: the state's description changes -/
theorem ss_ghost {c : Sm} {cs : List Sm} {rest : List Stmt} (h2 : PSs X rest (tSs X.K W P.G F cs))
    (hg : ∀ (g : Gh) (sl : Sl) (s : S) (σ : L2.St) (H : Hp), HRel X.K g s H → SRel X.K g sl σ H → exS P.G F sl c s = .bad ∨ ∃ g1 sl1 s1, exS P.G F sl c s = .nx sl1 s1 ∧ ExtS g H g1 H ∧ HRel X.K g1 s1 H ∧ SRel X.K g1 sl1 σ H) :
    PSs X rest (tSs X.K W P.G F (c :: cs)) := by
  refine PSs.imp h2 fun D σ H ⟨g, sl, s, hr, sr, h⟩ => ?_
  simp only [exSs] at h
  rcases hg g sl s σ H hr sr with e | ⟨g1, sl1, s1, e, e1, hr1, sr1⟩
  · rw [e] at h; exact h.elim
  · rw [e, SR.seq_nx] at h
    exact ⟨g1, sl1, s1, hr1, sr1, h.from e1⟩
theorem s_pass {pos : Pos} : PS X (.Pass pos) (tS X.K W P.G F .pass) := PS.imp ps_pass fun D σ H ⟨g, sl, s, hr, sr, h⟩ => h g σ H (ExtS.refl _ _) hr sr
theorem s_brk {pos : Pos} : PS X (.Break pos) (tS X.K W P.G F .brk) := PS.imp ps_break fun D σ H ⟨g, sl, s, hr, sr, h⟩ => h g σ H (ExtS.refl _ _) hr sr
theorem s_cont {pos : Pos} : PS X (.Continue pos) (tS X.K W P.G F .cont) := PS.imp ps_continue fun D σ H ⟨g, sl, s, hr, sr, h⟩ => h g σ H (ExtS.refl _ _) hr sr
theorem s_expr {c : E} {e : Expr} {pos : Pos} (he : PE X e (tE X.K W P.G F c)) (hs : swapsWith e none pos.line X.env = pure false) : PS X (.Expr e pos) (tS X.K W P.G F (.expr c)) := by
  refine PS.imp (ps_expr he hs) fun D σ H ⟨g, sl, s, hr, sr, h⟩ => ?_
  simp only [exS] at h
  exact opdS hr sr h fun g1 s1 x v H1 e1 hr1 sr1 rx p => p g1 σ H1 (ExtS.refl _ _) hr1 sr1
theorem s_ret {c : E} {e : Expr} {pos : Pos} (he : PE X e (tE X.K W P.G F c)) : PS X (.Return (some e) pos) (tS X.K W P.G F (.ret c)) := by
  refine PS.imp (ps_ret he) fun D σ H ⟨g, sl, s, hr, sr, h⟩ => ?_
  simp only [exS] at h
  refine opdS hr sr h fun g1 s1 x v H1 e1 hr1 sr1 rx p => ?_
  cases x with
  | v d => exact p g1 H1 v (ExtS.refl _ _) hr1 rx
  | own ds => exact p g1 H1 v (ExtS.refl _ _) hr1 rx
  | vw ds => exact p.elim
theorem s_retN {pos : Pos} : PS X (.Return none pos) (tS X.K W P.G F .retN) := by
  refine PS.imp ps_retN fun D σ H ⟨g, sl, s, hr, sr, h⟩ => ?_
  simp only [exS] at h
  exact h g H .non (ExtS.refl _ _) hr (show Rv X.K g .non .non by simp only [Rv])
/-- a list of one's own is given away -/
theorem HRel.unown {K : PySem.W.Frag} {g : Gh} {s : S} {H : Hp} {a : Addr} {i : Nat} (h : HRel K g s H) (ha : g a = some (.own i)) : HRel K (gset g a none) s H := h.drop fun r e => by rw [ha] at e; cases e; exact .inr ⟨i, rfl⟩
theorem ExtS.unown {g : Gh} {H : Hp} {a : Addr} {i : Nat} {r : Option Role} (ha : g a = some (.own i)) : ExtS g H (gset g a r) H :=
  ⟨fun b q e n => by rw [gset_ne (fun z => by subst z; rw [ha] at e; cases e; exact n i rfl)]; exact e, fun _ _ _ _ _ => rfl⟩
theorem Kp.unown {g : Gh} {a : Addr} {i : Nat} {r : Option Role} (ha : g a = some (.own i)) : Kp g (gset g a r) := (ExtS.unown (H := fun _ => none) ha).kp
theorem s_retMv {i : Nat} {x : Str} {p pos : Pos} (hN : X.N[i]? = some x) (hv : Vis X.env.scope x) (hd : (x == ("__debug__" : Str)) = false) (hcd : (x == ("__classdict__" : Str)) = false) : PS X (.Return (some (.Name x p)) pos) (tS X.K W P.G F (.retMv i)) := by
  refine PS.imp (ps_ret (pe_var hN hv hd hcd)) fun D σ H ⟨g, sl, s, hr, sr, h⟩ => ?_
  simp only [exS] at h
  cases e : sl[i]? with
  | none => rw [e] at h; exact h.elim
  | some o =>
    cases o with
    | none => rw [e] at h; exact h.elim
    | some y =>
      rw [e] at h
      cases y with
      | v d => exact h.elim
      | vw ds => exact h.elim
      | own ds =>
        obtain ⟨v, e1, a, vs, rfl, ga, ha, rv⟩ := sr.at_ i _ e
        exact ⟨_, e1, h (gset g a none) H _ (ExtS.unown ga) (hr.unown ga) ⟨a, vs, rfl, gset_same, ha, Rvs.kp (Kp.unown ga) _ _ rv⟩⟩

/-! ### assignments -/
theorem s_asg {t : T} {c : E} {tg e : Expr} {pos : Pos} (he : PE X e (tE X.K W P.G F c)) (hg : PG X tg (gT X.K t)) (hs : swapsWithSole [tg] e pos.line X.env = pure false) (hw : swappedStores [tg] e X.env = pure none)
    (h1 : (assignEach [tg] X.env).map (·.2) = [assign tg X.env]) : PS X (.Assign [tg] e pos) (tS X.K W P.G F (.asg t c)) := by
  refine PS.imp (ps_asg he hg hs hw h1) fun D σ H ⟨g, sl, s, hr, sr, h⟩ => ?_
  simp only [exS] at h
  refine opdS hr sr h fun g1 s1 x v H1 e1 hr1 sr1 rx p => ?_
  obtain ⟨r, er, p⟩ := p.of
  obtain ⟨d, ed, er⟩ := Option.bind_eq_some_iff.mp er
  obtain ⟨sl', es, rfl⟩ := Option.map_eq_some_iff.mp er
  obtain ⟨g2, e2, hr2, rv⟩ := RX.stod hr1 rx ed
  exact ⟨g2, s1, sl, d, sl', hr2, sr1.step e2, rv, es, fun σ' _ sr' => p g2 σ' H1 e2.s hr2 sr'⟩
/-- name = [..] on one line -/
theorem s_asgLc (hN : X.N.Nodup) (hc : X.calm = true) {t : T} {ci ce : E} {cifs : List E} {elt iter tg : Expr} {ifs : List Expr} {scope : Scope} {own : List (Str × Nat)} {i : Nat} {y : Str} {py pos spos : Pos}
    (hy : X.N[i]? = some y) (hyl : X.env.scope.names.lookup y = some .local) (hsw : swapsWith (.ListComp elt [⟨tg, iter, ifs, 0⟩] scope pos) (some (.Name y py)) spos.line X.env = pure true)
    (hi : PI X tg iter (tI X.K W Ext (fun sl s => itC P.G F sl ci s)))
    (ok : BlkOk X.N X.env.scope scope own) (hown : own.map (·.2) = t.ixs)
    (hg : ∀ (s : Shared) (H : Hp) (C : Addr) (cl : List (Str × Addr)) (fp : List Addr), PG (X.blk s H scope (compEnvC scope cl C X.env) fp) tg (gT X.K t))
    (ht : ∀ (s : Shared) (H : Hp) (C : Addr) (cl : List (Str × Addr)) (fp : List Addr), PTs (X.blk s H scope (compEnvC scope cl C X.env) fp) ifs (tIf X.K P.G F cifs))
    (he : ∀ (s : Shared) (H : Hp) (C : Addr) (cl : List (Str × Addr)) (fp : List Addr), PE (X.blk s H scope (compEnvC scope cl C X.env) fp) elt (tE X.K W0 P.G F ce)) (hs : ∀ x, foldedSetIterable iter X.env x = pure x) :
    PS X (.Assign [.Name y py] (.ListComp elt [⟨tg, iter, ifs, 0⟩] scope pos) spos) (tAsg (tE X.K W P.G F (.lc ce t ci cifs)) (gName i)) := by
  refine PS.imp (ps_setLc hc hN hy hyl hsw hi ok hg ht he hs) fun D σ H h => ?_
  rw [hown]
  exact lc_read σ H _ h
/-- what x = e asks, from the reading of e -/
theorem s_name {i : Nat} {c : E} {st : Stmt} (h : PS X st (tAsg (tE X.K W P.G F c) (gName i))) : PS X st (tS X.K W P.G F (.asg (.name i) c)) := by
  refine PS.imp h fun D σ H ⟨g, sl, s, hr, sr, h⟩ => ?_
  simp only [exS] at h
  refine opdS hr sr h fun g1 s1 x v H1 e1 hr1 sr1 rx p => ?_
  obtain ⟨r, er, p⟩ := p.of
  obtain ⟨d, ed, er⟩ := Option.bind_eq_some_iff.mp er
  obtain ⟨sl', es, rfl⟩ := Option.map_eq_some_iff.mp er
  cases es
  obtain ⟨g2, e2, hr2, rv⟩ := RX.stod hr1 rx ed
  exact p g2 _ H1 e2.s hr2 ((sr1.step e2).set i rv)
theorem SRel.setOwn {K : PySem.W.Frag} {g : Gh} {sl : Sl} {σ : L2.St} {H : Hp} {ds : List D} {a : Addr} {vs : List V} (h : SRel K g sl σ H) (i : Nat) (ga : g a = some (.own i)) (ha : H a = some (.lst vs)) (r : Rvs K g ds vs) : SRel K g (sl.set i (some (.own ds))) (σ.set i (some (.ref a))) H := by
  refine ⟨by rw [List.length_set, List.length_set]; exact h.len, fun j x hx => ?_⟩
  by_cases e : i = j
  · subst e
    have hl : i < sl.length := by
      have := (List.getElem?_eq_some_iff.mp hx).1
      rwa [List.length_set] at this
    rw [List.getElem?_set_self hl] at hx
    cases hx
    exact ⟨.ref a, List.getElem?_set_self (by rw [← h.len]; exact hl), a, vs, rfl, ga, ha, r⟩
  · rw [List.getElem?_set_ne e] at hx
    obtain ⟨w, e1, r1⟩ := h.at_ j x hx
    exact ⟨w, by rw [List.getElem?_set_ne e]; exact e1, r1⟩
theorem s_own {i : Nat} {c : E} {st : Stmt} (h : PS X st (tAsg (tE X.K W P.G F c) (gName i))) : PS X st (tS X.K W P.G F (.asgOwn i c)) := by
  refine PS.imp h fun D σ H ⟨g, sl, s, hr, sr, h⟩ => ?_
  simp only [exS] at h
  refine opdS hr sr h fun g1 s1 x v H1 e1 hr1 sr1 rx p => ?_
  cases x with
  | v d => exact p.elim
  | vw ds => exact p.elim
  | own ds =>
    obtain ⟨a, vs, rfl, hn, ha, rv⟩ := rx
    have e2 : Ext g1 H1 (gset g1 a (some (.own i))) H1 := Ext.role hn
    exact p _ _ H1 e2.s (hr1.role hn ha (fun u z => by cases z) (fun _ z => by cases z)) ((sr1.step e2).setOwn i gset_same ha (Rvs.kp e2.kp _ _ rv))
theorem s_asgN {i : Nat} {x : Str} {c : E} {e : Expr} {p pos : Pos} (hN : X.N.Nodup) (hi : X.N[i]? = some x) (hx : Loc X.env.scope x) (he : PE X e (tE X.K W P.G F c)) (hs : swapsWith e (some (.Name x p)) pos.line X.env = pure false) (hf : X.fn x = true ∨ X.env.scope.names.lookup x = some .local) :
    PS X (.Assign [.Name x p] e pos) (tAsg (tE X.K W P.G F c) (gName i)) := ps_set hN hi hx he hs hf

/-! ### a list of one's own is changed -/
theorem own_at {K : PySem.W.Frag} {g : Gh} {sl : Sl} {σ : L2.St} {H : Hp} {i : Nat} {ds : List D} (sr : SRel K g sl σ H) (e : sl[i]? = some (some (.own ds))) : ∃ a vs, σ[i]? = some (some (.ref a)) ∧ g a = some (.own i) ∧ H a = some (.lst vs) ∧ Rvs K g ds vs := by
  obtain ⟨v, e1, a, vs, rfl, ga, ha, rv⟩ := sr.at_ i _ e
  exact ⟨a, vs, e1, ga, ha, rv⟩
theorem SRel.updOwn {K : PySem.W.Frag} {g : Gh} {sl : Sl} {σ : L2.St} {H : Hp} {i : Nat} {ds : List D} {a : Addr} {vs : List V} (h : SRel K g sl σ H) (e1 : σ[i]? = some (some (.ref a))) (ga : g a = some (.own i)) (r : Rvs K g ds vs) :
    SRel K g (sl.set i (some (.own ds))) σ (upd H a (.lst vs)) := by
  refine ⟨by rw [List.length_set]; exact h.len, fun j x hx => ?_⟩
  by_cases e : i = j
  · subst e
    have hl : i < sl.length := by
      have := (List.getElem?_eq_some_iff.mp hx).1
      rwa [List.length_set] at this
    rw [List.getElem?_set_self hl] at hx
    cases hx
    exact ⟨.ref a, e1, a, vs, rfl, ga, upd_same, r⟩
  · rw [List.getElem?_set_ne e] at hx
    obtain ⟨w, e2, r1⟩ := h.at_ j x hx
    refine ⟨w, e2, ?_⟩
    cases x with
    | v d => exact r1
    | vw es =>
      obtain ⟨b, ws, rfl, gb, hb, rb⟩ := r1
      exact ⟨b, ws, rfl, gb, by rw [upd_ne (fun z => by subst z; rw [ga] at gb; cases gb)]; exact hb, rb⟩
    | own es =>
      obtain ⟨b, ws, rfl, gb, hb, rb⟩ := r1
      exact ⟨b, ws, rfl, gb, by rw [upd_ne (fun z => by subst z; rw [ga] at gb; cases gb; exact e rfl)]; exact hb, rb⟩
theorem ExtS.updOwn {g : Gh} {H : Hp} {a : Addr} {i : Nat} {o : HO} (ga : g a = some (.own i)) : ExtS g H g (upd H a o) :=
  ⟨fun _ _ e _ => e, fun b r e n _ => upd_ne fun z => by subst z; rw [ga] at e; cases e; exact n i rfl⟩
theorem s_app {i : Nat} {x : Str} {c : E} {e : Expr} {p apos cpos pos : Pos} (hN : X.N[i]? = some x) (hv : Vis X.env.scope x) (hd : (x == ("__debug__" : Str)) = false) (hcd : (x == ("__classdict__" : Str)) = false)
    (he : PE X e (tE X.K W P.G F c)) (ho : ordE e = true) (hline : (apos.endLine == cpos.line) = true) : PS X (.Expr (.Call (.Attribute (.Name x p) "append" apos) [e] [] cpos) pos) (tS X.K W P.G F (.app i c)) := by
  refine PS.imp (ps_expr (pe_bm PySem.F.plainAttrs_list PySem.F.slot_list_append PySem.F.type_list_append mt_append (pe_var hN hv hd hcd) (pa_cons he pa_nil (star_cons ho _ _)) rfl (by rw [star_cons ho]; rfl) hline (star_cons ho _ _) rfl) rfl) fun D σ H ⟨g, sl, s, hr, sr, h⟩ => ?_
  simp only [exS] at h
  cases e1 : sl[i]? with
  | none => rw [e1] at h; exact h.elim
  | some o =>
    cases o with
    | none => rw [e1] at h; exact h.elim
    | some y =>
      rw [e1] at h
      cases y with
      | v d => exact h.elim
      | vw ds => exact h.elim
      | own ds =>
        obtain ⟨a, vs, es, ga, ha, rv⟩ := own_at sr e1
        refine ⟨.ref a, es, .inl ⟨rfl, vs, SqL.of ha⟩, ?_⟩
        refine opdS hr sr h fun g1 s1 z w H1 ex hr1 sr1 rx p => ?_
        obtain ⟨r, er, p⟩ := p.of
        obtain ⟨d, ed, er⟩ := Option.bind_eq_some_iff.mp er
        split at er
        · rename_i hz
          cases er
          obtain ⟨g2, e2, hr2, rd⟩ := RX.stod hr1 rx ed
          have e12 := ex.trans e2
          have ga2 := e12.le _ _ ga
          have ha2 : H1 a = some (.lst vs) := (e12.st _ _ ga (fun _ z => by cases z)).trans ha
          have rv2 := Rvs.kp e12.kp _ _ rv
          refine ⟨a, vs, w, rfl, rfl, ha2, by rw [← rv.len]; exact hz, ?_⟩
          exact p g2 σ _ (e2.s.trans (ExtS.updOwn ga2)) (hr2.updv (.inr ⟨i, ga2⟩)) ((sr1.step e2).updOwn es ga2 (rv2.append (.cons rd .nil)))
        · cases er
theorem small_iff {j : Int} (h : small j = true) : -(2 ^ 62) ≤ j ∧ j < 2 ^ 62 := by
  unfold small at h
  simp only [Bool.and_eq_true, decide_eq_true_eq] at h
  exact h
theorem s_insrt {i : Nat} {x : Str} {ck ce : E} {k e : Expr} {p apos cpos pos : Pos} (hN : X.N[i]? = some x) (hv : Vis X.env.scope x) (hd : (x == ("__debug__" : Str)) = false) (hcd : (x == ("__classdict__" : Str)) = false)
    (hk : PE X k (tE X.K W P.G F ck)) (he : PE X e (tE X.K W P.G F ce)) (hok : ordE k = true) (ho : ordE e = true) (hline : (apos.endLine == cpos.line) = true) :
    PS X (.Expr (.Call (.Attribute (.Name x p) "insert" apos) [k, e] [] cpos) pos) (tS X.K W P.G F (.insrt i ck ce)) := by
  refine PS.imp (ps_expr (pe_bm PySem.F.plainAttrs_list PySem.F.slot_list_insert PySem.F.type_list_insert mt_insert (pe_var hN hv hd hcd) (pa_cons hk (pa_cons he pa_nil (star_cons ho _ _)) (star_cons hok _ _)) rfl (by rw [star_cons hok, star_cons ho]; rfl) hline (star_cons hok _ _) (by rw [star_cons ho]; rfl)) rfl) fun D σ H ⟨g, sl, s, hr, sr, h⟩ => ?_
  simp only [exS] at h
  cases e1 : sl[i]? with
  | none => rw [e1] at h; exact h.elim
  | some o =>
    cases o with
    | none => rw [e1] at h; exact h.elim
    | some y =>
      rw [e1] at h
      cases y with
      | v d => exact h.elim
      | vw ds => exact h.elim
      | own ds =>
        obtain ⟨a, vs, es, ga, ha, rv⟩ := own_at sr e1
        refine ⟨.ref a, es, .inl ⟨rfl, vs, SqL.of ha⟩, ?_⟩
        refine opdSa hr sr h fun g0 s0 z0 w0 H0 ex0 hr0 sr0 rx0 p0 => ?_
        refine opdS hr0 sr0 p0 fun g1 s1 z w H1 ex hr1 sr1 rx p => ?_
        obtain ⟨r, er, p⟩ := p.of
        obtain ⟨j, ej, er⟩ := Option.bind_eq_some_iff.mp er
        obtain ⟨d, ed, er⟩ := Option.bind_eq_some_iff.mp er
        split at er
        · rename_i hz
          cases er
          obtain ⟨g2, e2, hr2, rd⟩ := RX.stod hr1 rx ed
          have e12 := ex0.trans (ex.trans e2)
          have ga2 := e12.le _ _ ga
          have ha2 : H1 a = some (.lst vs) := (e12.st _ _ ga (fun _ z => by cases z)).trans ha
          have rv2 := Rvs.kp e12.kp _ _ rv
          have b := small_iff hz.2.2
          have ew0 : w0 = .int j := asInt_val rx0 ej
          subst ew0
          refine ⟨a, vs, j, w, rfl, rfl, ha2, by rw [← rv.len]; exact hz.1, hz.2.1, by omega, ?_⟩
          exact p g2 σ _ (e2.s.trans (ExtS.updOwn ga2)) (hr2.updv (.inr ⟨i, ga2⟩)) ((sr1.step e2).updOwn es ga2 (((rv2.take _).append (.cons rd .nil)).append (rv2.drop _)))
        · cases er
theorem s_setItem {i : Nat} {x : Str} {ck ce : E} {k e : Expr} {p spos pos : Pos} (hN : X.N[i]? = some x) (hv : Vis X.env.scope x) (hd : (x == ("__debug__" : Str)) = false) (hcd : (x == ("__classdict__" : Str)) = false)
    (hk : PE X k (tE X.K W P.G F ck)) (he : PE X e (tE X.K W P.G F ce)) (hok : ordE k = true)
    (ha : ∀ v, assign (.Subscript (.Name x p) k spos) X.env v = (do
      let ov ← holding [v] (eval (.Name x p) X.env)
      let iv ← holding [v, ov] (eval k X.env)
      standAt spos
      holding [v, ov, iv] (setItem ov iv v)
      release [v, ov, iv] []))
    (hs : swapsWithSole [.Subscript (.Name x p) k spos] e pos.line X.env = pure false) (hw : swappedStores [.Subscript (.Name x p) k spos] e X.env = pure none) :
    PS X (.Assign [.Subscript (.Name x p) k spos] e pos) (tS X.K W P.G F (.setItem i ck ce)) := by
  refine PS.imp (ps_asg he (pg_sub (pe_var hN hv hd hcd) hk set_list ha) hs hw rfl) fun D σ H ⟨g, sl, s, hr, sr, h⟩ => ?_
  simp only [exS] at h
  cases e1 : sl[i]? with
  | none => rw [e1] at h; exact h.elim
  | some o =>
    cases o with
    | none => rw [e1] at h; exact h.elim
    | some y =>
      rw [e1] at h
      cases y with
      | v d => exact h.elim
      | vw ds => exact h.elim
      | own ds =>
        obtain ⟨a, vs, es, ga, ha, rv⟩ := own_at sr e1
        refine opdS hr sr h fun g1 s1 z w H1 ex hr1 sr1 rx p => ?_
        cases esto : z.sto with
        | none =>
          refine ⟨.ref a, es, opdSa hr1 sr1 p fun g2 s2 z2 w2 H2 ex2 hr2 sr2 rx2 p2 => ?_⟩
          rw [esto] at p2
          exact p2.elim
        | some d =>
          obtain ⟨g1', e1', hr1', rd⟩ := RX.stod hr1 rx esto
          refine ⟨.ref a, es, opdSa hr1' (sr1.step e1') (p.from e1'.s) fun g2 s2 z2 w2 H2 ex2 hr2 sr2 rx2 p2 => ?_⟩
          rw [esto] at p2
          obtain ⟨r, er, p2⟩ := p2.of
          simp only [Option.bind_some] at er
          obtain ⟨j, ej, er⟩ := Option.bind_eq_some_iff.mp er
          obtain ⟨m, em, rfl⟩ := Option.map_eq_some_iff.mp er
          have e12 := (ex.trans e1').trans ex2
          have ga2 := e12.le _ _ ga
          have ha2 : H2 a = some (.lst vs) := (e12.st _ _ ga (fun _ z => by cases z)).trans ha
          have rv2 := Rvs.kp e12.kp _ _ rv
          refine ⟨a, vs, j, m, rfl, asInt_val rx2 ej, ha2, by rw [← rv.len]; exact em, ?_⟩
          exact p2 g2 σ _ (ExtS.updOwn ga2) (hr2.updv (.inr ⟨i, ga2⟩)) (sr2.updOwn es ga2 (Rvs.set (Rv.kp ex2.kp _ _ rd) m rv2))
/-- an item of a shared list is stored -/
theorem HRel.setRef {K : PySem.W.Frag} {g : Gh} {s : S} {H : Hp} {a : Addr} {n : Nat} {ds : List D} {vs : List V} (h : HRel K g s H) (ga : g a = some (.io n)) (r : Rvs K g ds vs) : HRel K g (s.set n (.lst ds)) (upd H a (.lst vs)) := by
  refine ⟨fun b o e => by rw [upd_ne (fun z => by subst z; rw [ga] at e; cases e)]; exact h.fz b o e, fun b q e => ?_, fun m o e => ?_, h.uq, fun b m e => by rw [List.length_set]; exact h.bd b m e⟩
  · by_cases z : b = a
    · subst z; exact ⟨_, upd_same⟩
    · rw [upd_ne z]; exact h.dom b q e
  · by_cases em : n = m
    · subst em
      have hl := h.bd a n ga
      rw [List.getElem?_set_self hl] at e
      cases e
      exact ⟨a, ga, vs, upd_same, r⟩
    · rw [List.getElem?_set_ne em] at e
      obtain ⟨b, gb, ob⟩ := h.io m o e
      exact ⟨b, gb, by rw [upd_ne (fun z => by subst z; rw [ga] at gb; cases gb; exact em rfl)]; exact ob⟩
theorem Ext.setRef {g : Gh} {H : Hp} {a : Addr} {n : Nat} {o : HO} (ga : g a = some (.io n)) : Ext g H g (upd H a o) :=
  ⟨fun _ _ e => e, fun b r e m => upd_ne fun z => by subst z; rw [ga] at e; cases e; exact m n rfl⟩
theorem s_refSet {co ck ce : E} {o k e : Expr} {spos pos : Pos} (hoo : PE X o (tE X.K W P.G F co)) (hk : PE X k (tE X.K W P.G F ck)) (he : PE X e (tE X.K W P.G F ce)) (hok : ordE k = true)
    (ha : ∀ v, assign (.Subscript o k spos) X.env v = (do
      let ov ← holding [v] (eval o X.env)
      let iv ← holding [v, ov] (eval k X.env)
      standAt spos
      holding [v, ov, iv] (setItem ov iv v)
      release [v, ov, iv] []))
    (hs : swapsWithSole [.Subscript o k spos] e pos.line X.env = pure false) (hw : swappedStores [.Subscript o k spos] e X.env = pure none) :
    PS X (.Assign [.Subscript o k spos] e pos) (tS X.K W P.G F (.refSet co ck ce)) := by
  refine PS.imp (ps_asg he (pg_sub hoo hk set_list ha) hs hw rfl) fun D σ H ⟨g, sl, s, hr, sr, h⟩ => ?_
  simp only [exS] at h
  refine opdS hr sr h fun g1 s1 z w H1 ex hr1 sr1 rx p => ?_
  cases esto : z.sto with
  | none =>
    refine opdS hr1 sr1 p fun g2 s2 z2 w2 H2 ex2 hr2 sr2 rx2 p2 => opdSa hr2 sr2 p2 fun g3 s3 z3 w3 H3 ex3 hr3 sr3 rx3 p3 => ?_
    rw [esto] at p3
    exact p3.elim
  | some d =>
    obtain ⟨g1', e1', hr1', rd⟩ := RX.stod hr1 rx esto
    refine opdS hr1' (sr1.step e1') (p.from e1'.s) fun g2 s2 z2 w2 H2 ex2 hr2 sr2 rx2 p2 => opdSa hr2 sr2 p2 fun g3 s3 z3 w3 H3 ex3 hr3 sr3 rx3 p3 => ?_
    rw [esto] at p3
    obtain ⟨r, er, p3⟩ := p3.of
    simp only [Option.bind_some] at er
    obtain ⟨j, ej, er⟩ := Option.bind_eq_some_iff.mp er
    cases z2 with
    | vw ds => cases er
    | own ds => cases er
    | v d2 =>
      cases d2 with
      | ref n =>
        dsimp only at er
        cases en : s3[n]? with
        | none => rw [en] at er; cases er
        | some o3 =>
          cases o3 with
          | lst ds =>
            rw [en] at er
            obtain ⟨m, em, rfl⟩ := Option.map_eq_some_iff.mp er
            have rr : Rv X.K g3 (.ref n) w2 := Rv.kp ex3.kp _ _ rx2
            obtain ⟨a, rfl, ga, vs, hv, rv⟩ := RX.ref hr3 rr en
            refine ⟨a, vs, j, m, rfl, asInt_val rx3 ej, hv, by rw [← rv.len]; exact em, ?_⟩
            exact p3 g3 σ _ (Ext.setRef ga).s (hr3.setRef ga (Rvs.set (Rv.kp (ex2.trans ex3).kp _ _ rd) m rv)) (sr3.step (Ext.setRef ga))
      | _ => cases er

/-! ### if, for, while -/
theorem sr_bind {α β : Type} (r : R α) (f : α → S → R β) (sl : Sl) (k : β → S → SR) : (r.bind f).sr sl k = r.sr sl fun x s => (f x s).sr sl k := by cases r <;> rfl
theorem exS_ifs {G : Nat → Option D} {sl : Sl} {c : E} {a b : List Sm} {s : S} : exS G F sl (.ifs c a b) s = (tst G F sl c s).sr sl fun k s => if k = true then exSs G F sl a s else exSs G F sl b s := by
  simp only [exS, tst, sr_bind]
  congr 1
  funext x s1
  cases truE s1 x.arg with
  | none => rfl
  | some k => cases k <;> rfl
theorem s_if {cc : E} {ca cb : List Sm} {c : Expr} {a b : List Stmt} {pos : Pos} (hc : PT X c (tT X.K W P.G F cc)) (ha : PSs X a (tSs X.K W P.G F ca)) (hb : PSs X b (tSs X.K W P.G F cb)) : PS X (.If c a b pos) (tS X.K W P.G F (.ifs cc ca cb)) := by
  refine PS.imp (ps_if hc ha hb) fun D σ H ⟨g, sl, s, hr, sr, h⟩ => ?_
  rw [exS_ifs] at h
  refine tstS hr sr h fun g1 s1 k H1 e1 hr1 sr1 p => ?_
  cases k with
  | true => exact iteT ⟨g1, sl, s1, hr1, sr1, p⟩
  | false => exact iteF ⟨g1, sl, s1, hr1, sr1, p⟩
theorem forLoop_cons {b : D → Sl → S → SR} {d : D} {ds : List D} {sl : Sl} {s : S} : forLoop b (d :: ds) sl s = (match b d sl s with
    | .nx sl s => forLoop b ds sl s
    | .ct sl s => forLoop b ds sl s
    | .bk sl s => .nx sl s
    | r => r) := rfl
theorem s_for (hN : X.N.Nodup) (hc : X.calm = true) (hp : PassesOwn (model X.prog X.w) X.A X.env X.xe) {t : T} {ci : E} {cb : List Sm} {tg iter : Expr} {body : List Stmt} {pos : Pos} (hi : PI X tg iter (tI X.K W ExtS (fun sl s => itE P.G F sl ci s)))
    (hg : PG X tg (gT X.K t)) (hb : PSs X body (tSs X.K W P.G F cb)) (hs : ∀ x, foldedSetIterable iter X.env x = pure x) : PS X (.For tg iter body [] pos) (tS X.K W P.G F (.for_ t ci cb)) := by
  refine PS.imp (ps_for hp hc hi hg hb hs) fun D σ H ⟨g, sl, s, hr, sr, h⟩ => ?_
  simp only [exS] at h
  generalize hf : (fun (d : Co.D) (sl : Sl) (s : S) => match bindT t d s sl with
    | some sl => exSs P.G F sl cb s
    | none => SR.bad) = f at h
  refine ⟨g, sl, s, hr, sr, ?_⟩
  have b := PostS.sr (rel := fun g' H' ds (J : It) => Walk X.K ExtS J ds g' H') sr h
  show Post X.K W σ g H (fun g' H' ds (J : It) => Walk X.K ExtS J ds g' H') _ (itE P.G F sl ci s)
  revert b
  generalize itE P.G F sl ci s = r
  intro b
  cases r with
  | ex e s1 => exact b
  | bad => exact b
  | ok ds0 s0 =>
    intro g2 H2 J e2 hr2 wk
    obtain ⟨g1, s1, ds, e1, hr1, w, p⟩ := b g2 H2 J e2 hr2 wk
    clear b h
    refine ⟨fun i m σ H => m = ds.length - i ∧ i ≤ ds.length ∧ ∃ gi si sli, ExtS g1 H2 gi H ∧ HRel X.K gi si H ∧ SRel X.K gi sli σ H ∧ PostS X.K W gi H D (forLoop f (ds.drop i) sli si), ⟨ds.length, ?_⟩, ?_⟩
    · exact ⟨by simp, Nat.zero_le _, g1, s1, sl, ExtS.refl _ _, hr1, sr.step e1, p⟩
    · rintro i m σ3 H3 ⟨rfl, hi, gi, si, sli, exi, hri, sri, pi⟩
      by_cases hlt : i < ds.length
      · right
        obtain ⟨d, ed⟩ : ∃ d, ds[i]? = some d := ⟨ds[i], List.getElem?_eq_getElem hlt⟩
        have edrop : ds.drop i = d :: ds.drop (i + 1) := by
          rw [List.drop_eq_getElem_cons hlt]
          congr 1
          exact Option.some.inj ((List.getElem?_eq_getElem hlt).symm.trans ed)
        rw [edrop, forLoop_cons] at pi
        obtain ⟨hgo, hyld⟩ := w.go i d gi si H3 ed exi hri
        refine ⟨hgo, fun σ' H' => i + 1 ≤ ds.length ∧ ∃ gi si sli, ExtS g1 H2 gi H' ∧ HRel X.K gi si H' ∧ SRel X.K gi sli σ' H' ∧ PostS X.K W gi H' D (forLoop f (ds.drop (i + 1)) sli si),
          fun σ' H' q => ⟨ds.length - (i + 1), by omega, rfl, q⟩, fun x H' y => ?_⟩
        obtain ⟨g5, e5, hr5, rv5⟩ := hyld x H' y
        have sr5 := sri.step e5
        rw [← hf] at pi
        dsimp only at pi
        cases ebt : bindT t d si sli with
        | none => rw [ebt] at pi; exact pi.elim
        | some sl' =>
          rw [ebt] at pi
          dsimp only at pi
          refine ⟨g5, si, sli, d, sl', hr5, sr5, rv5, ebt, fun σ2 _ sr6 => ?_⟩
          rw [hf] at pi
          refine ⟨g5, sl', si, hr5, sr6, ?_⟩
          have e05 : ExtS g1 H2 g5 H' := exi.trans e5.s
          cases er : exSs P.G F sl' cb si with
          | nx sl7 s7 =>
            rw [er] at pi
            dsimp only at pi
            exact fun g' σ' H'' e' hr' sr' => ⟨by omega, g', s7, sl7, e05.trans e', hr', sr', (pi.from e5.s).from e'⟩
          | ct sl7 s7 =>
            rw [er] at pi
            dsimp only at pi
            exact fun g' σ' H'' e' hr' sr' => ⟨by omega, g', s7, sl7, e05.trans e', hr', sr', (pi.from e5.s).from e'⟩
          | bk sl7 s7 =>
            rw [er] at pi
            dsimp only at pi
            exact fun g' σ' H'' e' hr' sr' => pi g' σ' H'' (e5.s.trans e') hr' sr'
          | rt x7 s7 =>
            rw [er] at pi
            dsimp only at pi
            exact fun g' H'' v e' hr' rx' => pi g' H'' v (e5.s.trans e') hr' rx'
          | ex x7 sl7 s7 =>
            rw [er] at pi
            dsimp only at pi
            exact fun g' σ' H'' c d e' hr' sr' re => pi g' σ' H'' c d (e5.s.trans e') hr' sr' re
          | bad => rw [er] at pi; exact pi.elim
      · left
        have ei : i = ds.length := by omega
        subst ei
        rw [List.drop_length] at pi
        exact ⟨w.stop _ gi si H3 (Nat.le_refl _) exi hri, pi gi σ3 H3 (ExtS.refl _ _) hri sri⟩
theorem s_while (hp : PassesOwn (model X.prog X.w) X.A X.env X.xe) {cc : E} {cb : List Sm} {c : Expr} {body : List Stmt} {pos : Pos} (hc : PT X c (tT X.K W P.G F cc)) (hb : PSs X body (tSs X.K W P.G F cb)) :
    PS X (.While c body [] pos) (tS X.K W P.G F (.while_ cc cb)) := by
  refine PS.imp (ps_while hp hc hb) fun D σ H ⟨g, sl, s, hr, sr, h⟩ => ?_
  simp only [exS] at h
  refine ⟨fun n σ H => ∃ g sl s, HRel X.K g s H ∧ SRel X.K g sl σ H ∧ PostS X.K W g H D (whileLoop (fun sl s => (ev P.G F sl cc s).bind fun x s => R.lift s (truE s x.arg)) (fun sl s => exSs P.G F sl cb s) n sl s), ⟨wfuel, g, sl, s, hr, sr, h⟩, ?_⟩
  rintro n σ1 H1 ⟨g1, sl1, s1, hr1, sr1, p⟩
  cases n with
  | zero => exact p.elim
  | succ n =>
    have e : whileLoop (fun sl s => (ev P.G F sl cc s).bind fun x s => R.lift s (truE s x.arg)) (fun sl s => exSs P.G F sl cb s) (n + 1) sl1 s1 =
        (tst P.G F sl1 cc s1).sr sl1 fun k s => if k = true then (match exSs P.G F sl1 cb s with
          | .nx sl s => whileLoop (fun sl s => (ev P.G F sl cc s).bind fun x s => R.lift s (truE s x.arg)) (fun sl s => exSs P.G F sl cb s) n sl s
          | .ct sl s => whileLoop (fun sl s => (ev P.G F sl cc s).bind fun x s => R.lift s (truE s x.arg)) (fun sl s => exSs P.G F sl cb s) n sl s
          | .bk sl s => .nx sl s
          | r => r) else .nx sl1 s := by
      show (match tst P.G F sl1 cc s1 with | .ok true s => _ | .ok false s => _ | .ex e s => _ | .bad => _) = _
      cases tst P.G F sl1 cc s1 with
      | ok k s2 => cases k <;> rfl
      | ex e s2 => rfl
      | bad => rfl
    rw [e] at p
    refine tstS hr1 sr1 p fun g2 s2 k H2 e2 hr2 sr2 p2 => ?_
    cases k with
    | true =>
      refine iteT ⟨fun σ' H' => ∃ g sl s, HRel X.K g s H' ∧ SRel X.K g sl σ' H' ∧ PostS X.K W g H' D (whileLoop (fun sl s => (ev P.G F sl cc s).bind fun x s => R.lift s (truE s x.arg)) (fun sl s => exSs P.G F sl cb s) n sl s), fun σ' H' q => ⟨n, Nat.lt_succ_self n, q⟩, ?_⟩
      refine ⟨g2, sl1, s2, hr2, sr2, ?_⟩
      simp only [if_true] at p2
      cases er : exSs P.G F sl1 cb s2 with
      | nx sl7 s7 => rw [er] at p2; exact fun g' σ' H'' e' hr' sr' => ⟨g', sl7, s7, hr', sr', PostS.from p2 e'⟩
      | ct sl7 s7 => rw [er] at p2; exact fun g' σ' H'' e' hr' sr' => ⟨g', sl7, s7, hr', sr', PostS.from p2 e'⟩
      | bk sl7 s7 => rw [er] at p2; exact fun g' σ' H'' e' hr' sr' => p2 g' σ' H'' e' hr' sr'
      | rt x7 s7 => rw [er] at p2; exact p2
      | ex x7 sl7 s7 => rw [er] at p2; exact p2
      | bad => rw [er] at p2; exact p2.elim
    | false => exact iteF (p2 g2 σ1 H2 (ExtS.refl _ _) hr2 sr2)
/-- what a for walks -/
theorem itE_itC {G : Nat → Option D} {sl : Sl} {c : E} {s : S} : ∀ {ds : List D} {s' : S}, itE G F sl c s = .ok ds s' → itC G F sl c s = .ok ds s' := by
  intro ds s' h
  unfold itE at h
  unfold itC
  cases e : ev G F sl c s with
  | ex x s1 => rw [e] at h; cases h
  | bad => rw [e] at h; cases h
  | ok x s1 =>
    rw [e, R.bind_ok] at h
    rw [R.bind_ok]
    cases x with
    | v d => exact h
    | own es => exact h
    | vw es =>
      dsimp only at h
      split at h
      · split at h
        · exact h
        · cases h
      · cases h
theorem itE_bad {G : Nat → Option D} {sl : Sl} {c : E} {s : S} {e : D} {s' : S} (h : itE G F sl c s = .ex e s') : itC G F sl c s = .ex e s' := by
  unfold itE at h
  unfold itC
  cases e1 : ev G F sl c s with
  | ex x s1 => rw [e1] at h; exact h
  | bad => rw [e1] at h; cases h
  | ok x s1 =>
    rw [e1, R.bind_ok] at h
    cases x with
    | v d =>
      dsimp only at h
      revert h
      cases (Co.X.v d).arg.fzItems <;> intro h <;> cases h
    | own es => cases h
    | vw es =>
      dsimp only at h
      revert h
      split
      · split <;> intro h <;> cases h
      · intro h; cases h
theorem sI_rng {Rl : Gh → Hp → Gh → Hp → Prop} {c : E} {tg e : Expr} (h : PI X tg e (tI X.K W Rl (fun sl s => itC P.G F sl c s))) : PI X tg e (tI X.K W Rl (fun sl s => itE P.G F sl c s)) := by
  refine PI.imp h fun σ H R ⟨g, sl, s, hr, sr, h⟩ => ⟨g, sl, s, hr, sr, ?_⟩
  dsimp only at h ⊢
  cases e : itE P.G F sl c s with
  | ok ds s' => rw [e] at h; rw [itE_itC e]; exact h
  | ex x s' => rw [e] at h; rw [itE_bad e]; exact h
  | bad => rw [e] at h; exact h.elim
theorem sI_of {c : E} {tg e : Expr} (hc : ∀ i, c ≠ .var i) (he : PE X e (tE X.K W P.G F c)) : PI X tg e (tI X.K W ExtS (fun sl s => itE P.G F sl c s)) := by
  refine PI.imp (pi_any he) fun σ H R ⟨g, sl, s, hr, sr, h⟩ => ?_
  unfold itE at h
  refine opd hr sr h fun g1 s1 x v H1 e1 hr1 sr1 rx h1 => ?_
  obtain ⟨ds, ed, q⟩ := Post.lift h1
  have nv : x.arg.fzItems = some ds ∧ ∀ es, x ≠ .vw es := by
    cases x with
    | v d => exact ⟨ed, fun es z => by cases z⟩
    | own es => exact ⟨ed, fun es z => by cases z⟩
    | vw es =>
      exfalso
      dsimp only at ed
      split at ed
      · exact hc _ rfl
      · cases ed
  exact walk_of (Rl := ExtS) hr1 rx nv.1 (fun g' H' e => e.kp) (fun g' H' a o e ga => (e.st a _ ga (fun _ z => by cases z) (fun _ z => by cases z)).trans (hr1.fz _ _ ga)) (fun g' H' a vs e ex ev ha => absurd ex (nv.2 _)) fun J w => q g1 H1 J (Ext.refl _ _) hr1 w
theorem sI_var {i : Nat} {x : Str} {tg : Expr} {pos : Pos} (hN : X.N[i]? = some x) (hv : Vis X.env.scope x) (hd : (x == ("__debug__" : Str)) = false) (hcd : (x == ("__classdict__" : Str)) = false) :
    PI X tg (.Name x pos) (tI X.K W ExtS (fun sl s => itE P.G F sl (.var i) s)) := by
  refine PI.imp (pi_any (pe_var hN hv hd hcd)) fun σ H R ⟨g, sl, s, hr, sr, h⟩ => ?_
  simp only [itE, ev] at h
  cases e : sl[i]? with
  | none => rw [e] at h; exact h.elim
  | some o =>
    cases o with
    | none => rw [e] at h; exact h.elim
    | some y =>
      rw [e] at h
      simp only [Co.R.bind_ok] at h
      obtain ⟨v, ev1, ry⟩ := sr.at_ i y e
      refine ⟨v, ev1, ?_⟩
      cases y with
      | v d =>
        obtain ⟨ds, ed, q⟩ := Post.lift h
        exact walk_of (Rl := ExtS) (x := .v d) hr ry ed (fun g' H' e => e.kp) (fun g' H' a o e ga => (e.st a _ ga (fun _ z => by cases z) (fun _ z => by cases z)).trans (hr.fz _ _ ga)) (fun g' H' a vs e ex ev ha => by cases ex) fun J w => q g H J (Ext.refl _ _) hr w
      | own es => exact h.elim
      | vw es =>
        obtain ⟨ds, ed, q⟩ := Post.lift h
        have e3 : es = ds := Option.some.inj ed
        subst e3
        obtain ⟨a, vs, rfl, ga, ha, rv⟩ := ry
        exact walk_of (Rl := ExtS) (x := .vw es) hr (⟨a, vs, rfl, .inl ga, ha, rv⟩ : RX X.K g H (.vw es) _) rfl (fun g' H' e => e.kp) (fun g' H' a o e ga => (e.st a _ ga (fun _ z => by cases z) (fun _ z => by cases z)).trans (hr.fz _ _ ga)) (fun g' H' b vs e ex ev ha => by
          cases ev
          exact e.st a _ ga (fun _ z => by cases z) (fun _ z => by cases z)) fun J w => q g H J (Ext.refl _ _) hr w
end
end Co
/-! CoE: the table of the defs; calls by it. -/
namespace Co
open PySem PySem.Spec PyProof.Rows L2

/-- the def at address a does what Fr says -/
def FnG (Pr : Program) (w : World) (K : PySem.W.Frag) (mg : Str → Option Value) (base : Heap) (k : Nat) (a : Addr) (Fr : List Co.X → S → R Co.X) : Prop :=
  ∀ (A : Around) (outer : List Env) (s : Shared) (H : Hp) (us : List Value) (vs : List V) (g : Gh) (xs : List Co.X) (st : S) (Q : VK) (E : XK), Room k A → A.guards = some [] → Env0 Pr w K mg base A outer s H → Vals vs us →
    HRel K g st H → RXs K g H xs vs → (∀ x ∈ xs, x.arg = x) → Post K (fun c d _ H => E c d H) [] g H (RX K) Q (Fr xs st) → codeAny (model Pr w) A (.call (.ref a) ⟨us, []⟩) (CR (L2.CX Pr w) outer Pr w H s Q E) s
def bltNames : List Str := ["len", "abs", "int", "min", "max", "repr", "isinstance", "bool", "str", "tuple", "list", "all", "range"]
structure Tb (P : Prog) (gn fn : Nat → Str) (F : Fns) (k : Nat) (Pr : Program) (w : World) (K : PySem.W.Frag) (mg : Str → Option Value) (base : Heap) : Prop where
  glb : ∀ i d, P.G i = some d → ∃ u v, mg (gn i) = some u ∧ RelV v u ∧ ∀ g, Rv K g d v
  blt : ∀ x ∈ bltNames, mg x = none
  call : ∀ f, (P.tab f).isSome = true → ∃ a, mg (fn f) = some (.ref a) ∧ PySem.W.keepIn K (.ref a) = true ∧ FnG Pr w K mg base k a (F f)
structure Xt (k : Nat) (W : WX) (X : Cx) : Prop where
  calm : X.calm = true
  nd : X.N.Nodup
  room : Room k X.A
  gd : X.A.guards = some []
  tk : Takes X W
theorem XE.of_call1 {X : Cx} {pins : List (Addr × Obj)} {σ : L2.St} {H : Hp} {s s' : Shared} {W : WX} {u : Value} (I : Inv X pins σ H s) (c : L2.CX X.prog X.w X.stack H s (fun c d H' => W c d σ H') u s') : XE X W u s' := XE.of_call I (fun _ _ _ h => h) c
section
variable {P : Prog} {gn fn : Nat → Str} {F : Fns} {W : WX} {X : Cx} {k : Nat}
theorem Ct.by (T : Tb P gn fn F k X.prog X.w X.K X.mg X.base) (xt : Xt k W X) : Ct P gn fn F W X where
  calm := xt.calm
  nd := xt.nd
  units := by have := xt.room.un; omega
  gd := xt.gd
  glb := T.glb
  blt := T.blt
  call := fun f hf => by
    obtain ⟨a, hm, hk, hF⟩ := T.call f hf
    refine ⟨a, hm, hk, fun pins σ H sh us vs g xs s Q I r hr rx ha h => ?_⟩
    refine wpAny_call (codeAny_mono (hF X.A X.stack sh H us vs g xs s Q (fun c d H' => W c d σ H') xt.room xt.gd I.env0 r hr rx ha ?_) fun res s' hq => ?_)
    · revert h
      generalize F f xs s = q
      intro h
      cases q with
      | ok x s1 => exact h
      | ex e s1 => exact h
      | bad => exact h
    · cases res with
      | error e => exact xt.tk e s' (XE.of_call1 I hq)
      | ok fl =>
        cases fl with
        | ret u => exact I.after hq
        | next => exact False.elim hq
        | brk => exact False.elim hq
        | cont => exact False.elim hq
theorem Xt.blk (xt : Xt k W X) (s : Shared) (H : Hp) (scope : Scope) (cenv : Env) (fp : List Addr) : Xt k W0 (X.blk s H scope cenv fp) :=
  ⟨xt.calm, xt.nd, xt.room, xt.gd, takes0⟩
end

/-! ### a list of one's own is shared from now on -/
theorem HRel.newio {K : PySem.W.Frag} {g : Gh} {s : S} {H : Hp} {a : Addr} {ds : List D} {vs : List V} (hr1 : HRel K g s H) (hn : g a = none) (ha : H a = some (.lst vs)) (rv : Rvs K g ds vs) : HRel K (gset g a (some (.io s.length))) (s ++ [.lst ds]) H := by
  have kp : Kp g (gset g a (some (.io s.length))) := (Ext.role (H := H) hn).kp
  have ne : ∀ b r, g b = some r → b ≠ a := fun b r e z => by rw [z, hn] at e; cases e
  refine ⟨fun b o e => ?_, fun b r e => ?_, fun n o e => ?_, fun b c n eb ec => ?_, fun b n e => ?_⟩
  · by_cases z : b = a
    · subst z; rw [gset_same] at e; cases e
    · rw [gset_ne z] at e; exact hr1.fz b o e
  · by_cases z : b = a
    · subst z; exact ⟨_, ha⟩
    · rw [gset_ne z] at e; exact hr1.dom b r e
  · by_cases hl : n < s.length
    · rw [List.getElem?_append_left hl] at e
      obtain ⟨b, gb, ob⟩ := hr1.io n o e
      refine ⟨b, by rw [gset_ne (ne b _ gb)]; exact gb, ?_⟩
      cases o with
      | lst es =>
        obtain ⟨ws, e2, r2⟩ := ob
        exact ⟨ws, e2, Rvs.kp kp _ _ r2⟩
    · have hn2 : n = s.length := by
        have := (List.getElem?_eq_some_iff.mp e).1
        simp only [List.length_append, List.length_cons, List.length_nil] at this
        omega
      subst hn2
      rw [List.getElem?_append_right (Nat.le_refl _), Nat.sub_self] at e
      cases e
      exact ⟨a, gset_same, vs, ha, Rvs.kp kp _ _ rv⟩
  · by_cases zb : b = a
    · by_cases zc : c = a
      · rw [zb, zc]
      · rw [zb, gset_same] at eb
        rw [gset_ne zc] at ec
        cases eb
        exact absurd (hr1.bd c _ ec) (Nat.lt_irrefl _)
    · by_cases zc : c = a
      · rw [zc, gset_same] at ec
        rw [gset_ne zb] at eb
        cases ec
        exact absurd (hr1.bd b _ eb) (Nat.lt_irrefl _)
      · rw [gset_ne zb] at eb
        rw [gset_ne zc] at ec
        exact hr1.uq b c n eb ec
  · simp only [List.length_append, List.length_cons, List.length_nil]
    by_cases z : b = a
    · subst z; rw [gset_same] at e; cases e; omega
    · rw [gset_ne z] at e
      have := hr1.bd b n e
      omega
section
variable {P : Prog} {gn fn : Nat → Str} {F : Fns} {W : WX} {X : Cx} {k : Nat}
theorem ss_toRef {i : Nat} {cs : List Sm} {rest : List Stmt} (h2 : PSs X rest (tSs X.K W P.G F cs)) : PSs X rest (tSs X.K W P.G F (.toRef i :: cs)) := by
  refine ss_ghost h2 fun g sl s σ H hr sr => ?_
  simp only [exS]
  cases e : sl[i]? with
  | none => exact .inl rfl
  | some o =>
    cases o with
    | none => exact .inl rfl
    | some y =>
      cases y with
      | v d => exact .inl rfl
      | vw ds => exact .inl rfl
      | own ds =>
        right
        obtain ⟨a, vs, es, ga, ha, rv⟩ := own_at sr e
        have h1 := hr.unown ga
        have rv1 := Rvs.kp (Kp.unown (r := none) ga) _ _ rv
        have hio := h1.newio gset_same ha rv1
        have e1 : ExtS g H (gset (gset g a none) a (some (.io s.length))) H := (ExtS.unown (r := none) ga).trans (Ext.role gset_same).s
        refine ⟨_, _, _, rfl, e1, hio, ?_⟩
        have kp := e1.kp
        refine ⟨by rw [List.length_set]; exact sr.len, fun j x hx => ?_⟩
        by_cases ej : i = j
        · subst ej
          have hl : i < sl.length := by
            have := (List.getElem?_eq_some_iff.mp hx).1
            rwa [List.length_set] at this
          rw [List.getElem?_set_self hl] at hx
          cases hx
          refine ⟨_, es, ?_⟩
          show Rv X.K _ (.ref _) _
          simp only [Rv]
          exact ⟨a, rfl, gset_same⟩
        · rw [List.getElem?_set_ne ej] at hx
          obtain ⟨w, ew, rw'⟩ := sr.at_ j x hx
          refine ⟨w, ew, ?_⟩
          cases x with
          | v d => exact Rv.kp kp d w rw'
          | vw ds2 =>
            obtain ⟨b, ws, rfl, gb, hb, rb⟩ := rw'
            have nb : b ≠ a := fun z => by subst z; rw [ga] at gb; cases gb
            exact ⟨b, ws, rfl, by rw [gset_ne nb, gset_ne nb]; exact gb, hb, Rvs.kp kp _ _ rb⟩
          | own ds2 =>
            obtain ⟨b, ws, rfl, gb, hb, rb⟩ := rw'
            have nb : b ≠ a := fun z => by subst z; rw [ga] at gb; cases gb; exact ej rfl
            exact ⟨b, ws, rfl, by rw [gset_ne nb, gset_ne nb]; exact gb, hb, Rvs.kp kp _ _ rb⟩

/-! ### the truth of a conditional expression; assignments side by side -/
theorem pt_ife {c a b : Expr} {tc ta tb : TT} {pos : Pos} (hc : PT X c tc) (ha : PT X a ta) (hb : PT X b tb) : PT X (.IfExp c a b pos) (fun σ H Q => tc σ H fun k H1 => if k = true then ta σ H1 Q else tb σ H1 Q) := by
  refine ⟨fun pins s σ H Q I h => ?_⟩
  show wpAny _ _ (do if ← isTrue c X.env (eval c X.env) then isTrue a X.env (eval a X.env) else isTrue b X.env (eval b X.env)) _ _ _
  refine wpAny_bind (thn (hc.run pins s σ H _ I h) fun k s1 ⟨H1, I1, q⟩ => ?_)
  cases k with
  | true => exact ha.run pins s1 σ H1 Q I1 q
  | false => exact hb.run pins s1 σ H1 Q I1 q
theorem st_ife {cc ca cb : E} {c a b : Expr} {pos : Pos} (hc : PT X c (tT X.K W P.G F cc)) (ha : PT X a (tT X.K W P.G F ca)) (hb : PT X b (tT X.K W P.G F cb)) : PT X (.IfExp c a b pos) (tT X.K W P.G F (.ife cc ca cb)) := by
  refine PT.imp (pt_ife hc ha hb) fun σ H Q ⟨g, sl, s, hr, sr, h⟩ => ?_
  have e : tst P.G F sl (.ife cc ca cb) s = (tst P.G F sl cc s).bind fun k s => if k = true then tst P.G F sl ca s else tst P.G F sl cb s := by
    simp only [tst, ev, Co.R.bind_assoc]
    congr 1
    funext x s1
    cases truE s1 x.arg with
    | none => rfl
    | some k => cases k <;> rfl
  rw [e] at h
  refine tstd hr sr h fun g1 s1 k H1 e1 hr1 sr1 h1 => ?_
  cases k with
  | true => exact iteT ⟨g1, sl, s1, hr1, sr1, h1⟩
  | false => exact iteF ⟨g1, sl, s1, hr1, sr1, h1⟩
end
end Co
/-! CoE2: the look at a text: does the code stand for it? Expressions. -/
namespace Co
open PySem PySem.Spec PyProof.Rows L2

def visC (sc : Scope) (x : Str) : Bool := match sc.names.lookup x with
  | some .local => true
  | some .cell => true
  | some .free => true
  | _ => false
def locC (sc : Scope) (x : Str) : Bool := match sc.names.lookup x with
  | some .local => true
  | some .cell => true
  | _ => false
def lclC (sc : Scope) (x : Str) : Bool := match sc.names.lookup x with
  | some .local => true
  | _ => false
def glC (sc : Scope) (x : Str) : Bool := match sc.names.lookup x with
  | some .globalImplicit => true
  | _ => false
def dbC (x : Str) : Bool := !(x == ("__debug__" : Str)) && !(x == ("__classdict__" : Str))
theorem vis_by {sc : Scope} {x : Str} (h : visC sc x = true) : Vis sc x := by
  unfold visC at h
  split at h
  · rename_i e; exact .inl e
  · rename_i e; exact .inr (.inl e)
  · rename_i e; exact .inr (.inr e)
  · cases h
theorem loc_by {sc : Scope} {x : Str} (h : locC sc x = true) : Loc sc x := by
  unfold locC at h
  split at h
  · rename_i e; exact .inl e
  · rename_i e; exact .inr e
  · cases h
theorem lcl_by {sc : Scope} {x : Str} (h : lclC sc x = true) : sc.names.lookup x = some .local := by
  unfold lclC at h
  split at h
  · rename_i e; exact e
  · cases h
theorem gl_by {sc : Scope} {x : Str} (h : glC sc x = true) : sc.names.lookup x = some .globalImplicit := by
  unfold glC at h
  split at h
  · rename_i e; exact e
  · cases h
theorem db_by {x : Str} (h : dbC x = true) : (x == ("__debug__" : Str)) = false ∧ (x == ("__classdict__" : Str)) = false := by
  unfold dbC at h
  simp only [Bool.and_eq_true, Bool.not_eq_true'] at h
  exact h
def bopC : BOp → Operator → Bool
  | .add, .Add => true | .sub, .Sub => true | .mul, .Mult => true | .fdiv, .FloorDiv => true | .mod, .Mod => true | .pow, .Pow => true
  | _, _ => false
theorem bop_by {o : BOp} {p : Operator} (h : bopC o p = true) : p = bopA o := by cases o <;> cases p <;> first | rfl | cases h
def copC : COp → CmpOp → Bool
  | .eq, .Eq => true | .ne, .NotEq => true | .lt, .Lt => true | .le, .LtE => true | .gt, .Gt => true | .ge, .GtE => true | .is, .Is => true | .isNot, .IsNot => true | .in, .In => true | .notIn, .NotIn => true
  | _, _ => false
theorem cop_by {o : COp} {p : CmpOp} (h : copC o p = true) : p = copA o := by cases o <;> cases p <;> first | rfl | cases h
def cstC : D → Const → Bool
  | .non, .none => true
  | .bl b, .bool c => b == c
  | .int i, .int j => decide (i = j)
  | .str s, .str t => decide (s = t)
  | _, _ => false
def notR : E → Bool
  | .rng1 _ => false
  | .rng2 _ _ => false
  | _ => true
section
variable (N : List Str)
def nameC (sc : Scope) (i : Nat) (x : Str) : Bool := decide (N[i]? = some x) && visC sc x && dbC x
def tgsC (top : Bool) (sc : Scope) : List Nat → List Expr → Bool
  | [], [] => true
  | i :: is, .Name x _ :: es => decide (N[i]? = some x) && (if top then locC sc x else lclC sc x) && tgsC top sc is es
  | _, _ => false
def tgC (top : Bool) (sc : Scope) (t : T) (e : Expr) : Bool := match t, e with
  | .name i, .Name x _ => decide (N[i]? = some x) && (if top then locC sc x else lclC sc x)
  | .tup is, .Tuple es _ _ => tgsC N top sc is es
  | _, _ => false
def ownL (t : T) : List (Str × Nat) := t.ixs.map fun i => (N.getD i "", i)
theorem ownL_ixs (t : T) : (ownL N t).map (·.2) = t.ixs := by
  unfold ownL
  rw [List.map_map]
  exact List.map_id _
variable (P : Prog) (gn fn : Nat → Str)
mutual
def okE : E → Scope → Expr → Bool
  | .var i, sc, e => (match e with
    | .Name x _ => nameC N sc i x
    | _ => false)
  | .cst d, _, e => (match e with
    | .Constant c _ _ => cstC d c
    | _ => false)
  | .glob i, sc, e => (match e with
    | .Name x _ => decide (x = gn i) && glC sc x && dbC x
    | _ => false)
  | .tup es, sc, e => (match e with
    | .Tuple xs _ _ => okEs es sc xs && decide (es.length ≤ 1000)
    | _ => false)
  | .lst es, sc, e => (match e with
    | .List xs _ => okEs es sc xs && decide (es.length ≤ 1000)
    | _ => false)
  | .bin op a b, sc, e => (match e with
    | .BinOp x o y _ => bopC op o && notR a && notR b && okE a sc x && okE b sc y
    | _ => false)
  | .neg a, sc, e => (match e with
    | .UnaryOp .USub x _ => notR a && okE a sc x
    | _ => false)
  | .cmp op a b, sc, e => (match e with
    | .Compare x [o] [y] _ => copC op o && ordE y && notR a && notR b && okE a sc x && okE b sc y
    | _ => false)
  | .chain o1 o2 a b c, sc, e => (match e with
    | .Compare x [p1, p2] [y, z] _ => copC o1 p1 && copC o2 p2 && ordE y && ordE z && notR a && notR b && notR c && okE a sc x && okE b sc y && okE c sc z
    | _ => false)
  | .ands es, sc, e => (match e with
    | .BoolOp .And xs _ => okEs es sc xs && !es.isEmpty
    | _ => false)
  | .ors es, sc, e => (match e with
    | .BoolOp .Or xs _ => okEs es sc xs && !es.isEmpty
    | _ => false)
  | .not a, sc, e => (match e with
    | .UnaryOp .Not x _ => notR a && okE a sc x
    | _ => false)
  | .ife c a b, sc, e => (match e with
    | .IfExp x y z _ => notR c && notR a && notR b && okE c sc x && okE a sc y && okE b sc z
    | _ => false)
  | .call f es, sc, e => (match e with
    | .Call (.Name x _) xs [] _ => (P.tab f).isSome && decide (x = fn f) && glC sc x && dbC x && okEs es sc xs
    | _ => false)
  | .bi b es, sc, e => (match e with
    | .Call (.Name x _) xs [] _ => decide (x = biName b) && glC sc x && okEs es sc xs && !es.isEmpty
    | _ => false)
  | .isi c a, sc, e => (match e with
    | .Call (.Name x _) [y, .Name z _] [] _ => decide (x = "isinstance") && decide (z = Str.ofString (tyS c)) && glC sc x && glC sc z && ordE y && notR a && okE a sc y
    | _ => false)
  | .rng1 a, sc, e => (match e with
    | .Call (.Name x _) [y] [] _ => decide (x = "range") && glC sc x && ordE y && notR a && okE a sc y
    | _ => false)
  | .rng2 a b, sc, e => (match e with
    | .Call (.Name x _) [y, z] [] _ => decide (x = "range") && glC sc x && ordE y && ordE z && notR a && notR b && okE a sc y && okE b sc z
    | _ => false)
  | .sub o i, sc, e => (match e with
    | .Subscript x y _ => ordE y && notR o && notR i && okE o sc x && okE i sc y
    | _ => false)
  | .sli o lo hi, sc, e => (match e with
    | .Subscript x (.Slice l h none _) _ => notR o && okE o sc x && okO lo sc l && okO hi sc h
    | _ => false)
  | .lc elt t it ifs, sc, e => (match e with
    | .ListComp y [⟨tg, iter, fs, 0⟩] scope _ => okE it sc iter && ordE iter && blkC N sc scope (ownL N t) && tgC N false (relS scope sc) t tg && okFs ifs (relS scope sc) fs && notR elt && okE elt (relS scope sc) y
    | _ => false)
  | .allc a, sc, e => (match e with
    | .Call (.Name x _) [y] [] _ => decide (x = "all") && glC sc x && ordE y && notR a && okE a sc y
    | _ => false)
  | .newref a, sc, e => (match e with
    | .List _ _ => notR a && okE a sc e
    | _ => false)
termination_by structural c => c
def okEs : List E → Scope → List Expr → Bool
  | [], _, xs => xs.isEmpty
  | c :: cs, sc, xs => (match xs with
    | x :: xs => notR c && ordE x && okE c sc x && okEs cs sc xs
    | [] => false)
termination_by structural cs => cs
def okFs : List E → Scope → List Expr → Bool
  | [], _, xs => xs.isEmpty
  | c :: cs, sc, xs => (match cs, xs with
    | [], [x] => notR c && okE c sc x
    | _, _ => false)
termination_by structural cs => cs
def okO : Option E → Scope → Option Expr → Bool
  | none, _, x => x.isNone
  | some c, sc, x => (match x with
    | some e => notR c && okE c sc e
    | none => false)
termination_by structural o => o
end
end

/-! ### the look is right -/
section
variable {P : Prog} {gn fn : Nat → Str} {F : Fns} {W : WX} {X : Cx} {k : Nat} {N : List Str} {sc : Scope}
theorem gl_at {x : Str} (hs : X.env.scope = sc) (h : glC sc x = true) : Gl X x := by
  show X.env.scope.names.lookup x = some .globalImplicit
  rw [hs]
  exact gl_by h
theorem cst_ok {d : D} {c : Const} {j : Nat} {pos : Pos} (h : cstC d c = true) : PE X (.Constant c j pos) (tE X.K W P.G F (.cst d)) := by
  cases d with
  | non =>
    cases c <;> first | (cases h; done) | skip
    exact se_cst pe_non fun g => by simp only [Rv]
  | bl b =>
    cases c <;> first | (cases h; done) | skip
    have e := beq_iff_eq.mp h
    subst e
    exact se_cst pe_bl fun g => by simp only [Rv]
  | int i =>
    cases c <;> first | (cases h; done) | skip
    have e := of_decide_eq_true h
    subst e
    exact se_cst pe_int fun g => by simp only [Rv]
  | str s =>
    cases c <;> first | (cases h; done) | skip
    have e := of_decide_eq_true h
    subst e
    exact se_cst pe_str fun g => by simp only [Rv]
  | tup ds => cases c <;> cases h
  | lst ds => cases c <;> cases h
  | scr ds => cases c <;> cases h
  | ins a b => cases c <;> cases h
  | exc a b => cases c <;> cases h
  | ref a => cases c <;> cases h
/-- what stands at a statement's or an expression's target -/
theorem tgs_ok (hN : X.N.Nodup) (hNe : X.N = N) (hs : X.env.scope = sc) {top : Bool} (ht : top = true → ∀ x, X.fn x = true) : ∀ {is : List Nat} {es : List Expr}, tgsC N top sc is es = true →
    PGs X es (gNms is) ∧ (assignEach es X.env).length = is.length ∧ (assignEach es X.env).findIdx? (·.1) = none
  | [], [], _ => ⟨pgs_nil, rfl, rfl⟩
  | i :: is, e :: es, h => by
    cases e with
    | Name x p =>
      simp only [tgsC, Bool.and_eq_true, decide_eq_true_eq] at h
      obtain ⟨⟨h1, h2⟩, h3⟩ := h
      obtain ⟨q1, q2, q3⟩ := tgs_ok hN hNe hs ht h3
      have hx : Loc X.env.scope x ∧ (X.fn x = true ∨ X.env.scope.names.lookup x = some .local) := by
        rw [hs]
        cases top with
        | true => exact ⟨loc_by h2, .inl (ht rfl x)⟩
        | false => exact ⟨.inl (lcl_by h2), .inr (lcl_by h2)⟩
      refine ⟨pgs_cons (pg_name hN (by rw [hNe]; exact h1) hx.1 hx.2) q1 rfl, ?_, ?_⟩
      · show (assignEach es X.env).length + 1 = _
        rw [q2]; rfl
      · show List.findIdx? (·.1) ((false, assign (.Name x p) X.env) :: assignEach es X.env) = none
        rw [List.findIdx?_cons]
        simp only [Bool.false_eq_true, if_false, q3]
        rfl
    | _ => simp only [tgsC] at h; cases h
  | [], _ :: _, h => by simp only [tgsC] at h; cases h
  | _ :: _, [], h => by simp only [tgsC] at h; cases h
theorem tg_ok (hc : X.calm = true) (hN : X.N.Nodup) (hNe : X.N = N) (hs : X.env.scope = sc) {top : Bool} (ht : top = true → ∀ x, X.fn x = true) {t : T} {e : Expr} (h : tgC N top sc t e = true) : PG X e (gT X.K t) := by
  cases t with
  | name i =>
    cases e with
    | Name x p =>
      simp only [tgC, Bool.and_eq_true, decide_eq_true_eq] at h
      have hx : Loc X.env.scope x ∧ (X.fn x = true ∨ X.env.scope.names.lookup x = some .local) := by
        rw [hs]
        cases top with
        | true => exact ⟨loc_by h.2, .inl (ht rfl x)⟩
        | false => exact ⟨.inl (lcl_by h.2), .inr (lcl_by h.2)⟩
      exact sg_name hN (by rw [hNe]; exact h.1) hx.1 hx.2
    | _ => simp only [tgC] at h; cases h
  | tup is =>
    cases e with
    | Tuple es k p =>
      simp only [tgC] at h
      obtain ⟨q1, q2, q3⟩ := tgs_ok hN hNe hs ht h
      exact sg_tup hc q1 q2 q3
    | _ => simp only [tgC] at h; cases h
end
/-- what the code c says of the text e -/
structure Snd (P : Prog) (F : Fns) (W : WX) (X : Cx) (c : E) (e : Expr) : Prop where
  v : notR c = true → PE X e (tE X.K W P.G F c)
  t : notR c = true → PT X e (tT X.K W P.G F c)
  i : ∀ tg, PI X tg e (tI X.K W Ext (fun sl s => itC P.G F sl c s))
  s : ∀ tg, PI X tg e (tI X.K W ExtS (fun sl s => itE P.G F sl c s))
def Snds (P : Prog) (F : Fns) (W : WX) (X : Cx) : List E → List Expr → Prop
  | [], es => es = []
  | c :: cs, es => ∃ x xs, es = x :: xs ∧ ordE x = true ∧ PE X x (tE X.K W P.G F c) ∧ PT X x (tT X.K W P.G F c) ∧ Snds P F W X cs xs
section
variable {P : Prog} {gn fn : Nat → Str} {F : Fns} {W : WX} {X : Cx} {k : Nat} {N : List Str} {sc : Scope}
theorem snd_of {c : E} {e : Expr} (hc : ∀ i, c ≠ .var i) (hv : PE X e (tE X.K W P.G F c)) (ht : PT X e (tT X.K W P.G F c)) : Snd P F W X c e :=
  ⟨fun _ => hv, fun _ => ht, fun tg => si_of hv, fun tg => sI_of hc hv⟩
theorem snd_pl {c : E} {e : Expr} (hc : ∀ i, c ≠ .var i) (hv : PE X e (tE X.K W P.G F c)) (hp : ∀ whole, isTrue e X.env whole = (do let v ← whole; standAt e.pos; holding [v] (truthy v))) : Snd P F W X c e :=
  snd_of hc hv (st_of hv hp)
theorem Snds.ord : ∀ {cs : List E} {es : List Expr}, Snds P F W X cs es → es.all ordE = true
  | [], _, h => by rw [show _ = [] from h]; rfl
  | c :: cs, _, ⟨x, xs, e, h1, _, _, h4⟩ => by
    subst e
    simp only [List.all_cons, Bool.and_eq_true]
    exact ⟨h1, Snds.ord h4⟩
theorem Snds.pa : ∀ {cs : List E} {es : List Expr}, Snds P F W X cs es → PA X es (tA X.K W P.G F cs)
  | [], _, h => by rw [show _ = [] from h]; exact sa_nil
  | c :: cs, _, ⟨x, xs, e, h1, h2, _, h4⟩ => by
    subst e
    exact sa_cons h2 (Snds.pa h4) (star_cons h1 _ _)
theorem Snds.and {pos : Pos} : ∀ {cs : List E} {c : E} {es : List Expr}, Snds P F W X (c :: cs) es → PE X (.BoolOp .And es pos) (tBv X.K W P.G F false (c :: cs)) ∧ PW X (.BoolOp .And es pos) (tBt X.K W P.G F false (c :: cs))
  | [], c, _, ⟨x, xs, e, _, h2, h3, h4⟩ => by
    subst e
    rw [show xs = [] from h4]
    exact ⟨se_b1 h2, sw_and1 h3⟩
  | d :: cs, c, _, ⟨x, xs, e, _, h2, h3, h4⟩ => by
    subst e
    obtain ⟨q1, q2⟩ := Snds.and (pos := pos) h4
    obtain ⟨y, ys, e, _⟩ := h4
    subst e
    exact ⟨se_and h2 q1, sw_and h3 q2⟩
theorem Snds.or {pos : Pos} : ∀ {cs : List E} {c : E} {es : List Expr}, Snds P F W X (c :: cs) es → PE X (.BoolOp .Or es pos) (tBv X.K W P.G F true (c :: cs)) ∧ PW X (.BoolOp .Or es pos) (tBt X.K W P.G F true (c :: cs))
  | [], c, _, ⟨x, xs, e, _, h2, h3, h4⟩ => by
    subst e
    rw [show xs = [] from h4]
    exact ⟨se_b1 h2, sw_or1 h3⟩
  | d :: cs, c, _, ⟨x, xs, e, _, h2, h3, h4⟩ => by
    subst e
    obtain ⟨q1, q2⟩ := Snds.or (pos := pos) h4
    obtain ⟨y, ys, e, _⟩ := h4
    subst e
    exact ⟨se_or h2 q1, sw_or h3 q2⟩
end
end Co
/-! CoE3: expressions: what is looked at holds. -/
namespace Co
open PySem PySem.Spec PyProof.Rows L2
section
variable {P : Prog} {gn fn : Nat → Str} {F : Fns} {k : Nat} {N : List Str}
theorem last_no {o1 o2 : COp} {y z : Expr} (h : ordE z = true) : lastMarks [copA o1, copA o2] [y, z] = false := by
  cases z <;> first | rfl | cases h
mutual
theorem okE_ok : ∀ (c : E) {X : Cx} {W : WX} {sc : Scope} {e : Expr}, Tb P gn fn F k X.prog X.w X.K X.mg X.base → Xt k W X → X.N = N → X.env.scope = sc → okE N P gn fn c sc e = true → Snd P F W X c e
  | .var i, X, W, sc, e, T, xt, hN, hs, h => by
    cases e with
    | Name x p =>
      simp only [okE, nameC, Bool.and_eq_true, decide_eq_true_eq] at h
      obtain ⟨⟨h1, h2⟩, h3⟩ := h
      obtain ⟨d1, d2⟩ := db_by h3
      have hv : Vis X.env.scope x := by rw [hs]; exact vis_by h2
      have hi : X.N[i]? = some x := by rw [hN]; exact h1
      exact ⟨fun _ => se_var hi hv d1 d2, fun _ => st_of (se_var hi hv d1 d2) (fun _ => rfl), fun tg => si_of (se_var hi hv d1 d2), fun tg => sI_var hi hv d1 d2⟩
    | _ => simp only [okE] at h; cases h
  | .cst d, X, W, sc, e, T, xt, hN, hs, h => by
    cases e with
    | Constant c j p =>
      simp only [okE] at h
      exact snd_pl (fun _ z => by cases z) (cst_ok h) (fun _ => rfl)
    | _ => simp only [okE] at h; cases h
  | .glob i, X, W, sc, e, T, xt, hN, hs, h => by
    cases e with
    | Name x p =>
      simp only [okE, Bool.and_eq_true, decide_eq_true_eq] at h
      obtain ⟨⟨h1, h2⟩, h3⟩ := h
      exact snd_pl (fun _ z => by cases z) (se_glob (Ct.by T xt) h1 (gl_at hs h2) (db_by h3).1) (fun _ => rfl)
    | _ => simp only [okE] at h; cases h
  | .tup es, X, W, sc, e, T, xt, hN, hs, h => by
    cases e with
    | Tuple xs n p =>
      simp only [okE, Bool.and_eq_true, decide_eq_true_eq] at h
      exact snd_pl (fun _ z => by cases z) (se_tup (okEs_ok es T xt hN hs h.1).pa h.2) (fun _ => rfl)
    | _ => simp only [okE] at h; cases h
  | .lst es, X, W, sc, e, T, xt, hN, hs, h => by
    cases e with
    | List xs p =>
      simp only [okE, Bool.and_eq_true, decide_eq_true_eq] at h
      exact snd_pl (fun _ z => by cases z) (se_lst (okEs_ok es T xt hN hs h.1).pa h.2) (fun _ => rfl)
    | _ => simp only [okE] at h; cases h
  | .bin op a b, X, W, sc, e, T, xt, hN, hs, h => by
    cases e with
    | BinOp x o y p =>
      simp only [okE, Bool.and_eq_true] at h
      obtain ⟨⟨⟨⟨h1, h2⟩, h3⟩, h4⟩, h5⟩ := h
      have e1 := bop_by h1
      subst e1
      exact snd_pl (fun _ z => by cases z) (se_bin ((okE_ok a T xt hN hs h4).v h2) ((okE_ok b T xt hN hs h5).v h3)) (fun _ => rfl)
    | _ => simp only [okE] at h; cases h
  | .neg a, X, W, sc, e, T, xt, hN, hs, h => by
    cases e with
    | UnaryOp o x p =>
      cases o with
      | USub =>
        simp only [okE, Bool.and_eq_true] at h
        exact snd_pl (fun _ z => by cases z) (se_neg ((okE_ok a T xt hN hs h.2).v h.1)) (fun _ => rfl)
      | _ => simp only [okE] at h; cases h
    | _ => simp only [okE] at h; cases h
  | .cmp op a b, X, W, sc, e, T, xt, hN, hs, h => by
    cases e with
    | Compare x os ys p =>
      match os, ys, h with
      | [o], [y], h =>
        simp only [okE, Bool.and_eq_true] at h
        obtain ⟨⟨⟨⟨⟨h1, h2⟩, h3⟩, h4⟩, h5⟩, h6⟩ := h
        have e1 := cop_by h1
        subst e1
        have ha := (okE_ok a T xt hN hs h5).v h3
        have hb := (okE_ok b T xt hN hs h6).v h4
        exact snd_of (fun _ z => by cases z) (se_cmp (Ct.by T xt) ha hb (noset h2 _)) (st_cmp (Ct.by T xt) ha hb (noset h2 _))
      | [], _, h => simp only [okE] at h; cases h
      | [_], [], h => simp only [okE] at h; cases h
      | [_], _ :: _ :: _, h => simp only [okE] at h; cases h
      | _ :: _ :: _, _, h => simp only [okE] at h; cases h
    | _ => simp only [okE] at h; cases h
  | .chain o1 o2 a b c, X, W, sc, e, T, xt, hN, hs, h => by
    cases e with
    | Compare x os ys p =>
      match os, ys, h with
      | [p1, p2], [y, z], h =>
        simp only [okE, Bool.and_eq_true] at h
        obtain ⟨⟨⟨⟨⟨⟨⟨⟨⟨h1, h2⟩, h3⟩, h4⟩, h5⟩, h6⟩, h7⟩, h8⟩, h9⟩, h10⟩ := h
        have e1 := cop_by h1
        have e2 := cop_by h2
        subst e1 e2
        have ha := (okE_ok a T xt hN hs h8).v h5
        have hb := (okE_ok b T xt hN hs h9).v h6
        have hc := (okE_ok c T xt hN hs h10).v h7
        exact snd_of (fun _ z => by cases z) (se_chain (Ct.by T xt) ha hb hc (last_no h4)) (st_chain (Ct.by T xt) ha hb hc (last_no h4))
      | [], _, h => simp only [okE] at h; cases h
      | [_], _, h => simp only [okE] at h; cases h
      | [_, _], [], h => simp only [okE] at h; cases h
      | [_, _], [_], h => simp only [okE] at h; cases h
      | [_, _], _ :: _ :: _ :: _, h => simp only [okE] at h; cases h
      | _ :: _ :: _ :: _, _, h => simp only [okE] at h; cases h
    | _ => simp only [okE] at h; cases h
  | .ands es, X, W, sc, e, T, xt, hN, hs, h => by
    cases e with
    | BoolOp o xs p =>
      cases o with
      | And =>
        simp only [okE, Bool.and_eq_true] at h
        have q := okEs_ok es T xt hN hs h.1
        cases es with
        | nil => cases h.2
        | cons c cs => exact snd_of (fun _ z => by cases z) (se_ands (q.and).1) (st_ands (q.and).2)
      | Or => simp only [okE] at h; cases h
    | _ => simp only [okE] at h; cases h
  | .ors es, X, W, sc, e, T, xt, hN, hs, h => by
    cases e with
    | BoolOp o xs p =>
      cases o with
      | Or =>
        simp only [okE, Bool.and_eq_true] at h
        have q := okEs_ok es T xt hN hs h.1
        cases es with
        | nil => cases h.2
        | cons c cs => exact snd_of (fun _ z => by cases z) (se_ors (q.or).1) (st_ors (q.or).2)
      | And => simp only [okE] at h; cases h
    | _ => simp only [okE] at h; cases h
  | .not a, X, W, sc, e, T, xt, hN, hs, h => by
    cases e with
    | UnaryOp o x p =>
      cases o with
      | Not =>
        simp only [okE, Bool.and_eq_true] at h
        have q := okE_ok a T xt hN hs h.2
        exact snd_of (fun _ z => by cases z) (se_not (q.v h.1)) (st_not (q.t h.1))
      | _ => simp only [okE] at h; cases h
    | _ => simp only [okE] at h; cases h
  | .ife c a b, X, W, sc, e, T, xt, hN, hs, h => by
    cases e with
    | IfExp x y z p =>
      simp only [okE, Bool.and_eq_true] at h
      obtain ⟨⟨⟨⟨⟨h1, h2⟩, h3⟩, h4⟩, h5⟩, h6⟩ := h
      have qc := okE_ok c T xt hN hs h4
      have qa := okE_ok a T xt hN hs h5
      have qb := okE_ok b T xt hN hs h6
      exact snd_of (fun _ z => by cases z) (se_ife (qc.t h1) (qa.v h2) (qb.v h3)) (st_ife (qc.t h1) (qa.t h2) (qb.t h3))
    | _ => simp only [okE] at h; cases h
  | .call f es, X, W, sc, e, T, xt, hN, hs, h => by
    cases e with
    | Call fe xs kws p =>
      cases fe with
      | Name x q =>
        cases kws with
        | nil =>
          simp only [okE, Bool.and_eq_true, decide_eq_true_eq] at h
          obtain ⟨⟨⟨⟨h1, h2⟩, h3⟩, h4⟩, h5⟩ := h
          have q := okEs_ok es T xt hN hs h5
          cases es with
          | nil =>
            rw [show xs = [] from q]
            exact snd_pl (fun _ z => by cases z) (se_call0 (Ct.by T xt) h1 h2 (gl_at hs h3) (db_by h4).1) (fun _ => rfl)
          | cons c cs =>
            have qo := q.ord
            have qp := q.pa
            obtain ⟨y, ys, e, _⟩ := q
            subst e
            exact snd_pl (fun _ z => by cases z) (se_call (Ct.by T xt) h1 h2 (gl_at hs h3) (db_by h4).1 qp qo) (fun _ => rfl)
        | cons => simp only [okE] at h; cases h
      | _ => simp only [okE] at h; cases h
    | _ => simp only [okE] at h; cases h
  | .bi b es, X, W, sc, e, T, xt, hN, hs, h => by
    cases e with
    | Call fe xs kws p =>
      cases fe with
      | Name x q =>
        cases kws with
        | nil =>
          simp only [okE, Bool.and_eq_true, decide_eq_true_eq] at h
          obtain ⟨⟨⟨h1, h2⟩, h3⟩, h4⟩ := h
          subst h1
          have q := okEs_ok es T xt hN hs h3
          cases es with
          | nil => cases h4
          | cons c cs =>
            have qo := q.ord
            have qp := q.pa
            obtain ⟨y, ys, e, _⟩ := q
            subst e
            exact snd_pl (fun _ z => by cases z) (se_bi (Ct.by T xt) b (gl_at hs h2) qp qo) (fun _ => rfl)
        | cons => simp only [okE] at h; cases h
      | _ => simp only [okE] at h; cases h
    | _ => simp only [okE] at h; cases h
  | .isi c a, X, W, sc, e, T, xt, hN, hs, h => by
    cases e with
    | Call fe xs kws p =>
      cases fe with
      | Name x q =>
        match xs, kws, h with
        | [y, .Name z r], [], h =>
          simp only [okE, Bool.and_eq_true, decide_eq_true_eq] at h
          obtain ⟨⟨⟨⟨⟨⟨h1, h2⟩, h3⟩, h4⟩, h5⟩, h6⟩, h7⟩ := h
          subst h1 h2
          exact snd_pl (fun _ z => by cases z) (se_isi (Ct.by T xt) (gl_at hs h3) (gl_at hs h4) ((okE_ok a T xt hN hs h7).v h6) h5) (fun _ => rfl)
        | xs, kws, h =>
          simp only [okE] at h
          split at h
          · rename_i h1
            cases h1
            simp only [Bool.and_eq_true, decide_eq_true_eq] at h
            obtain ⟨⟨⟨⟨⟨⟨h1, h2⟩, h3⟩, h4⟩, h5⟩, h6⟩, h7⟩ := h
            subst h1 h2
            exact snd_pl (fun _ z => by cases z) (se_isi (Ct.by T xt) (gl_at hs h3) (gl_at hs h4) ((okE_ok a T xt hN hs h7).v h6) h5) (fun _ => rfl)
          · cases h
      | _ => simp only [okE] at h; cases h
    | _ => simp only [okE] at h; cases h
  | .rng1 a, X, W, sc, e, T, xt, hN, hs, h => by
    simp only [okE] at h
    split at h
    · simp only [Bool.and_eq_true, decide_eq_true_eq] at h
      obtain ⟨⟨⟨⟨h1, h2⟩, h3⟩, h4⟩, h5⟩ := h
      subst h1
      have q := (okE_ok a T xt hN hs h5).v h4
      exact ⟨fun z => (by cases z), fun z => (by cases z), fun tg => si_rng1 (Ct.by T xt) (gl_at hs h2) q h3, fun tg => sI_rng (si_rng1 (Ct.by T xt) (gl_at hs h2) q h3)⟩
    · cases h
  | .rng2 a b, X, W, sc, e, T, xt, hN, hs, h => by
    simp only [okE] at h
    split at h
    · simp only [Bool.and_eq_true, decide_eq_true_eq] at h
      obtain ⟨⟨⟨⟨⟨⟨⟨h1, h2⟩, h3⟩, h4⟩, h5⟩, h6⟩, h7⟩, h8⟩ := h
      subst h1
      have q := (okE_ok a T xt hN hs h7).v h5
      have q' := (okE_ok b T xt hN hs h8).v h6
      exact ⟨fun z => (by cases z), fun z => (by cases z), fun tg => si_rng2 (Ct.by T xt) (gl_at hs h2) q q' h3 h4, fun tg => sI_rng (si_rng2 (Ct.by T xt) (gl_at hs h2) q q' h3 h4)⟩
    · cases h
  | .sub o i, X, W, sc, e, T, xt, hN, hs, h => by
    cases e with
    | Subscript x y p =>
      simp only [okE, Bool.and_eq_true] at h
      obtain ⟨⟨⟨⟨h1, h2⟩, h3⟩, h4⟩, h5⟩ := h
      exact snd_pl (fun _ z => by cases z) (se_sub ((okE_ok o T xt hN hs h4).v h2) ((okE_ok i T xt hN hs h5).v h3) (plainIx h1)) (fun _ => rfl)
    | _ => simp only [okE] at h; cases h
  | .sli o lo hi, X, W, sc, e, T, xt, hN, hs, h => by
    simp only [okE] at h
    split at h
    · simp only [Bool.and_eq_true] at h
      obtain ⟨⟨⟨h1, h2⟩, h3⟩, h4⟩ := h
      exact snd_pl (fun _ z => by cases z) (se_sli ((okE_ok o T xt hN hs h2).v h1) (okO_ok lo T xt hN hs h3) (okO_ok hi T xt hN hs h4)) (fun _ => rfl)
    · cases h
  | .lc elt t it ifs, X, W, sc, e, T, xt, hN, hs, h => by
    simp only [okE] at h
    split at h
    · rename_i y tg iter fs scope p
      simp only [Bool.and_eq_true] at h
      obtain ⟨⟨⟨⟨⟨⟨h1, h2⟩, h3⟩, h4⟩, h5⟩, h6⟩, h7⟩ := h
      have hs' : ∀ (s : Shared) (H : Hp) (C : Addr) (cl : List (Str × Addr)) (fp : List Addr), (X.blk s H scope (compEnvC scope cl C X.env) fp).env.scope = relS scope sc := fun s H C cl fp => by
        rw [← hs]
        rfl
      refine snd_pl (fun _ z => by cases z) (se_lc (t := t) (cifs := ifs) xt.nd xt.calm ((okE_ok it T xt hN hs h1).i tg) (blkOk_by (own := ownL N t) (by rw [hN, hs]; exact h3)) (ownL_ixs N t) (fun s H C cl fp => ?_) (fun s H C cl fp => ?_) (fun s H C cl fp => ?_) (nofold h2 _) (lc_read (t := t))) (fun _ => rfl)
      · exact tg_ok (X := X.blk s H scope (compEnvC scope cl C X.env) fp) xt.calm xt.nd hN (hs' s H C cl fp) (fun z => by cases z) h4
      · exact okFs_ok ifs (X := X.blk s H scope (compEnvC scope cl C X.env) fp) T (xt.blk ..) hN (hs' s H C cl fp) h5
      · exact (okE_ok elt (X := X.blk s H scope (compEnvC scope cl C X.env) fp) (W := W0) T (xt.blk ..) hN (hs' s H C cl fp) h7).v h6
    · cases h
  | .allc a, X, W, sc, e, T, xt, hN, hs, h => by
    simp only [okE] at h
    split at h
    · simp only [Bool.and_eq_true, decide_eq_true_eq] at h
      obtain ⟨⟨⟨⟨h1, h2⟩, h3⟩, h4⟩, h5⟩ := h
      subst h1
      exact snd_pl (fun _ z => by cases z) (se_allc (Ct.by T xt) (gl_at hs h2) ((okE_ok a T xt hN hs h5).v h4) h3) (fun _ => rfl)
    · cases h
  | .newref a, X, W, sc, e, T, xt, hN, hs, h => by
    cases e with
    | List xs p =>
      simp only [okE, Bool.and_eq_true] at h
      exact snd_pl (fun _ z => by cases z) (se_newref ((okE_ok a T xt hN hs h.2).v h.1)) (fun _ => rfl)
    | _ => simp only [okE] at h; cases h
theorem okEs_ok : ∀ (cs : List E) {X : Cx} {W : WX} {sc : Scope} {es : List Expr}, Tb P gn fn F k X.prog X.w X.K X.mg X.base → Xt k W X → X.N = N → X.env.scope = sc → okEs N P gn fn cs sc es = true → Snds P F W X cs es
  | [], X, W, sc, es, T, xt, hN, hs, h => by
    simp only [okEs] at h
    exact List.isEmpty_iff.mp h
  | c :: cs, X, W, sc, es, T, xt, hN, hs, h => by
    cases es with
    | nil => simp only [okEs] at h; cases h
    | cons x xs =>
      simp only [okEs, Bool.and_eq_true] at h
      obtain ⟨⟨⟨h1, h2⟩, h3⟩, h4⟩ := h
      have q := okE_ok c T xt hN hs h3
      exact ⟨x, xs, rfl, h2, q.v h1, q.t h1, okEs_ok cs T xt hN hs h4⟩
theorem okFs_ok : ∀ (cs : List E) {X : Cx} {sc : Scope} {es : List Expr}, Tb P gn fn F k X.prog X.w X.K X.mg X.base → Xt k W0 X → X.N = N → X.env.scope = sc → okFs N P gn fn cs sc es = true → PTs X es (tIf X.K P.G F cs)
  | [], X, sc, es, T, xt, hN, hs, h => by
    simp only [okFs] at h
    rw [List.isEmpty_iff.mp h]
    exact sif_nil
  | c :: cs, X, sc, es, T, xt, hN, hs, h => by
    simp only [okFs] at h
    split at h
    · simp only [Bool.and_eq_true] at h
      exact sif_one ((okE_ok c (W := W0) T xt hN hs h.2).t h.1)
    · cases h
theorem okO_ok : ∀ (o : Option E) {X : Cx} {W : WX} {sc : Scope} {e : Option Expr}, Tb P gn fn F k X.prog X.w X.K X.mg X.base → Xt k W X → X.N = N → X.env.scope = sc → okO N P gn fn o sc e = true → PO X e (tO X.K W P.G F o)
  | none, X, W, sc, e, T, xt, hN, hs, h => by
    simp only [okO] at h
    rw [Option.isNone_iff_eq_none.mp h]
    exact so_none
  | some c, X, W, sc, e, T, xt, hN, hs, h => by
    cases e with
    | none => simp only [okO] at h; cases h
    | some e =>
      simp only [okO, Bool.and_eq_true] at h
      exact so_some ((okE_ok c T xt hN hs h.2).v h.1)
end
end
end Co
/-! CoE4: statements: the look, and that it is right. -/
namespace Co
open PySem PySem.Spec PyProof.Rows L2

/-! ### stores -/
def isComp : Expr → Bool
  | .ListComp _ _ _ _ => true
  | .SetComp _ _ _ _ => true
  | .DictComp _ _ _ _ _ => true
  | _ => false
theorem swap_no {e : Expr} {t : Option Expr} {l : Nat} {env : Env} (h : isComp e = false) : swapsWith e t l env = pure false := by
  cases e <;> first | rfl | cases h
def swB (sc scope : Scope) (x : Str) (p q : Pos) : Bool :=
  (if sc.kind.isAnnotationScope then ScopeKind.function else sc.kind) == .function && sc.names.lookup x == some .local && p.line == q.line && !(scope.names.any fun (n, k) => n == x && (k == .local || k == .cell))
theorem swap_lc {elt : Expr} {gens : List Comprehension} {scope : Scope} {q p : Pos} {x : Str} {l : Nat} {env : Env} : swapsWith (.ListComp elt gens scope q) (some (.Name x p)) l env = pure (swB env.scope scope x p q) := rfl
theorem swB_loc {sc scope : Scope} {x : Str} {p q : Pos} (h : swB sc scope x p q = true) : sc.names.lookup x = some .local := by
  unfold swB at h
  simp only [Bool.and_eq_true] at h
  exact beq_iff_eq.mp h.1.1.2
def notTup : Expr → Bool
  | .Tuple _ _ _ => false
  | _ => true
theorem stores_no {ts : List Expr} {e : Expr} {env : Env} (h : notTup e = true) : swappedStores ts e env = pure none := by
  unfold swappedStores
  cases e <;> first | (cases h; done) | (cases ts with
    | nil => rfl
    | cons t r => cases t <;> cases r <;> rfl)
theorem stores_sub {o i : Expr} {p : Pos} {e : Expr} {env : Env} : swappedStores [.Subscript o i p] e env = pure none := by
  unfold swappedStores
  cases e <;> rfl
theorem swap_sub {o i : Expr} {p : Pos} {e : Expr} {l : Nat} {env : Env} : swapsWithSole [.Subscript o i p] e l env = pure false := by
  cases e <;> rfl
theorem swap_tup {ts : List Expr} {n : Nat} {p : Pos} {e : Expr} {l : Nat} {env : Env} : swapsWithSole [.Tuple ts n p] e l env = pure false := by
  cases e <;> rfl
theorem asg_sub {o k : Expr} {spos : Pos} {env : Env} (h : ordE k = true) : ∀ v, assign (.Subscript o k spos) env v = (do
      let ov ← holding [v] (eval o env)
      let iv ← holding [v, ov] (eval k env)
      standAt spos
      holding [v, ov, iv] (setItem ov iv v)
      release [v, ov, iv] []) := by
  intro v
  cases k <;> first | rfl | cases h
def nameOn (sc : Scope) (line : Nat) : Expr → Option Str
  | .Name id pos => if sc.names.lookup id == some .local && pos.line == line then some id else none
  | _ => none
def isStar : Expr → Bool
  | .Starred .. => true
  | _ => false
def bkS (sc : Scope) : ScopeKind := if sc.kind.isAnnotationScope then ScopeKind.function else sc.kind
def swS (ts vs : List Expr) (sc : Scope) : Option (Option (List Str)) :=
  if !(ts.length == 2 || ts.length == 3) || vs.length != ts.length || bkS sc != .function then some none else
  if vs.any isStar then some none else
  if (ts.filterMap (nameOn sc ((ts.head?.map (·.pos.line)).getD 0))).length != ts.length || (ts.filterMap (nameOn sc ((ts.head?.map (·.pos.line)).getD 0))).eraseDups.length != (ts.filterMap (nameOn sc ((ts.head?.map (·.pos.line)).getD 0))).length then some none else
  if vs.all (foldedForSure 8) then some none else
  if vs.all (constantsAlone 8) then none else some (some (ts.filterMap (nameOn sc ((ts.head?.map (·.pos.line)).getD 0))))
theorem swS_ok {ts vs : List Expr} {n m : Nat} {p q : Pos} {env : Env} {r : Option (List Str)} (h : swS ts vs env.scope = some r) : swappedStores [.Tuple ts n p] (.Tuple vs m q) env = pure r := by
  have e2 : (fun (e : Expr) => match e with
    | .Name id pos => if env.kindOf id == some .local && pos.line == ((ts.head?.map (·.pos.line)).getD 0) then some id else none
    | _ => none) = nameOn env.scope ((ts.head?.map (·.pos.line)).getD 0) := by funext e; cases e <;> rfl
  unfold swS at h
  unfold swappedStores
  dsimp only
  split at h
  · rename_i c
    cases h
    exact if_pos c
  · rename_i c
    refine (if_neg c).trans ?_
    split at h
    · rename_i c
      cases h
      exact if_pos c
    · rename_i c
      refine (if_neg c).trans ?_
      split at h
      · rename_i c
        cases h
        exact if_pos c
      · rename_i c
        refine (if_neg c).trans ?_
        split at h
        · rename_i c
          cases h
          exact if_pos c
        · rename_i c
          refine (if_neg c).trans ?_
          split at h
          · cases h
          · rename_i c
            cases h
            exact if_neg c

/-! ### a, b = x, y -/
section
variable {P : Prog} {gn fn : Nat → Str} {F : Fns} {W : WX} {X : Cx} {k : Nat} {N : List Str} {sc : Scope}
theorem argsS {σ : L2.St} {H : Hp} {Q : List V → Hp → Prop} {D : Ends} {cs : List E} {g : Gh} {sl : Sl} {s : S} {f : List Co.X → S → SR} (hr : HRel X.K g s H) (sr : SRel X.K g sl σ H) (h : PostS X.K W g H D ((evs P.G F sl cs s).sr sl f))
    (kk : ∀ g1 s1 xs vs H1, Ext g H g1 H1 → HRel X.K g1 s1 H1 → SRel X.K g1 sl σ H1 → RXs X.K g1 H1 xs vs → (∀ x ∈ xs, x.arg = x) → PostS X.K W g1 H1 D (f xs s1) → Q vs H1) : tA X.K W P.G F cs σ H Q := by
  refine ⟨g, sl, s, hr, sr, ?_⟩
  have ha := @evs_arg P.G F sl cs s
  cases er : evs P.G F sl cs s with
  | ok x s1 =>
    rw [er] at h
    intro g2 H2 v e2 hr2 rx
    exact kk g2 s1 x v H2 e2 hr2 (sr.step e2) rx (ha er) (PostS.from h e2.s)
  | ex e s1 =>
    rw [er] at h
    intro g2 H2 c d e2 hr2 re
    exact h g2 σ H2 c d e2.s hr2 (sr.step e2) re
  | bad => rw [er] at h; exact h
theorem par_read {is : List Nat} {cs : List E} {D : Ends} {σ : L2.St} {H : Hp} (h : tS X.K W P.G F (.asg (.tup is) (.tup cs)) D σ H) : tA X.K W P.G F cs σ H fun vs H1 => vs.length = is.length ∧ D.nx (setsV is vs σ) H1 := by
  obtain ⟨g, sl, s, hr, sr, h⟩ := h
  simp only [exS, ev, sr_bind] at h
  refine argsS hr sr h fun g1 s1 xs vs H1 e1 hr1 sr1 rx ha p => ?_
  cases es : stoAll xs with
  | none => rw [es] at p; exact p.elim
  | some ds =>
    rw [es] at p
    simp only [Option.map_some, Co.R.lift_some, Co.R.sr_ok] at p
    obtain ⟨r, er, p⟩ := p.of
    simp only [Co.X.sto, Option.bind_some] at er
    obtain ⟨sl', e2, rfl⟩ := Option.map_eq_some_iff.mp er
    simp only [bindT, Co.X.items, Co.X.d] at e2
    split at e2
    · rename_i hl
      have rv := RXs.stod ha rx es
      exact ⟨by rw [← rv.len]; exact hl, p g1 _ H1 (ExtS.refl _ _) hr1 (bindNames_rel e2 rv sr1)⟩
    · cases e2
theorem s_par2 {i j : Nat} {x y : Str} {a b : Expr} {cs : List E} {px py pt pos : Pos} {kt k2 : Nat} {pt2 : Pos} (hc : X.calm = true) (hN : X.N.Nodup) (hi : X.N[i]? = some x) (hj : X.N[j]? = some y) (hij : i ≠ j)
    (hx : X.env.scope.names.lookup x = some .local) (hy : X.env.scope.names.lookup y = some .local) (ha : PA X [a, b] (tA X.K W P.G F cs))
    (hw : swappedStores [.Tuple [.Name x px, .Name y py] kt pt] (.Tuple [a, b] k2 pt2) X.env = pure (some [x, y])) :
    PS X (.Assign [.Tuple [.Name x px, .Name y py] kt pt] (.Tuple [a, b] k2 pt2) pos) (tS X.K W P.G F (.asg (.tup [i, j]) (.tup cs))) := by
  refine PS.imp (ps_par hc hN hi hj hij hx hy ha hw) fun D σ H h => ?_
  obtain ⟨g, sl, s, hr, sr, p⟩ := par_read h
  refine ⟨g, sl, s, hr, sr, Post.weaken p fun vs H1 ⟨hl, q⟩ => ?_⟩
  match vs, hl, q with
  | [v, w], _, q => exact ⟨v, w, rfl, q⟩
theorem s_par3 {i j l : Nat} {x y z : Str} {a b c : Expr} {cs : List E} {px py pz pt pos : Pos} {kt k2 : Nat} {pt2 : Pos} (hc : X.calm = true) (hN : X.N.Nodup) (hi : X.N[i]? = some x) (hj : X.N[j]? = some y) (hl : X.N[l]? = some z) (hij : i ≠ j) (hil : i ≠ l) (hjl : j ≠ l)
    (hx : X.env.scope.names.lookup x = some .local) (hy : X.env.scope.names.lookup y = some .local) (hz : X.env.scope.names.lookup z = some .local) (ha : PA X [a, b, c] (tA X.K W P.G F cs))
    (hw : swappedStores [.Tuple [.Name x px, .Name y py, .Name z pz] kt pt] (.Tuple [a, b, c] k2 pt2) X.env = pure (some [x, y, z])) :
    PS X (.Assign [.Tuple [.Name x px, .Name y py, .Name z pz] kt pt] (.Tuple [a, b, c] k2 pt2) pos) (tS X.K W P.G F (.asg (.tup [i, j, l]) (.tup cs))) := by
  refine PS.imp (ps_par3 hc hN hi hj hl hij hil hjl hx hy hz ha hw) fun D σ H h => ?_
  obtain ⟨g, sl, s, hr, sr, p⟩ := par_read h
  refine ⟨g, sl, s, hr, sr, Post.weaken p fun vs H1 ⟨hl, q⟩ => ?_⟩
  match vs, hl, q with
  | [u, v, w], _, q => exact ⟨u, v, w, rfl, q⟩
end

/-! ### the look -/
section
variable (N : List Str) (P : Prog) (gn fn : Nat → Str) (sc : Scope)
/-- x = e -/
def okNm (i : Nat) (c : E) (x : Str) (e : Expr) : Bool := decide (N[i]? = some x) && locC sc x && notR c && okE N P gn fn c sc e
/-- a, b = x, y, stored from the right -/
def okPar (is : List Nat) (c : E) (ts : List Expr) (e : Expr) : Bool := match e, c with
  | .Tuple vs _ _, .tup cs => okEs N P gn fn cs sc vs && (match is, ts, vs with
    | [i, j], [.Name x _, .Name y _], [_, _] => decide (i ≠ j) && decide (N[i]? = some x) && decide (N[j]? = some y) && lclC sc x && lclC sc y && (swS ts vs sc == some (some [x, y]))
    | [i, j, l], [.Name x _, .Name y _, .Name z _], [_, _, _] => decide (i ≠ j) && decide (i ≠ l) && decide (j ≠ l) && decide (N[i]? = some x) && decide (N[j]? = some y) && decide (N[l]? = some z) && lclC sc x && lclC sc y && lclC sc z && (swS ts vs sc == some (some [x, y, z]))
    | _, _, _ => false)
  | _, _ => false
def noPar (ts : List Expr) (e : Expr) : Bool := match e with
  | .Tuple vs _ _ => swS ts vs sc == some none
  | _ => true
mutual
def okS : Sm → Stmt → Bool
  | .expr c, st => (match st with
    | .Expr e _ => notR c && okE N P gn fn c sc e && !(isComp e)
    | _ => false)
  | .asg t c, st => (match t, st with
    | .name i, .Assign [.Name x _] e _ => okNm N P gn fn sc i c x e
    | .tup is, .Assign [.Tuple ts n p] e _ => okPar N P gn fn sc is c ts e || (tgC N true sc (.tup is) (.Tuple ts n p) && notR c && okE N P gn fn c sc e && noPar sc ts e)
    | _, _ => false)
  | .asgOwn i c, st => (match st with
    | .Assign [.Name x _] e _ => okNm N P gn fn sc i c x e
    | _ => false)
  | .app i c, st => (match st with
    | .Expr (.Call (.Attribute (.Name x _) m apos) [e] [] cpos) _ => decide (m = "append") && nameC N sc i x && ordE e && notR c && okE N P gn fn c sc e && (apos.endLine == cpos.line)
    | _ => false)
  | .insrt i k c, st => (match st with
    | .Expr (.Call (.Attribute (.Name x _) m apos) [d, e] [] cpos) _ => decide (m = "insert") && nameC N sc i x && ordE d && ordE e && notR k && notR c && okE N P gn fn k sc d && okE N P gn fn c sc e && (apos.endLine == cpos.line)
    | _ => false)
  | .setItem i k c, st => (match st with
    | .Assign [.Subscript (.Name x _) d _] e _ => nameC N sc i x && ordE d && notR k && notR c && okE N P gn fn k sc d && okE N P gn fn c sc e
    | _ => false)
  | .refSet o k c, st => (match st with
    | .Assign [.Subscript x d _] e _ => ordE d && notR o && notR k && notR c && okE N P gn fn o sc x && okE N P gn fn k sc d && okE N P gn fn c sc e
    | _ => false)
  | .ret c, st => (match st with
    | .Return (some e) _ => notR c && okE N P gn fn c sc e
    | _ => false)
  | .retMv i, st => (match st with
    | .Return (some (.Name x _)) _ => nameC N sc i x
    | _ => false)
  | .retN, st => (match st with
    | .Return none _ => true
    | _ => false)
  | .ifs c a b, st => (match st with
    | .If e x y _ => notR c && okE N P gn fn c sc e && okSs a x && okSs b y
    | _ => false)
  | .for_ t it body, st => (match st with
    | .For tg iter bd [] _ => tgC N true sc t tg && okE N P gn fn it sc iter && ordE iter && okSs body bd
    | _ => false)
  | .while_ c body, st => (match st with
    | .While e bd [] _ => notR c && okE N P gn fn c sc e && okSs body bd
    | _ => false)
  | .brk, st => (match st with
    | .Break _ => true
    | _ => false)
  | .cont, st => (match st with
    | .Continue _ => true
    | _ => false)
  | .pass, st => (match st with
    | .Pass _ => true
    | _ => false)
  | .raise _ _, _ => true
  | .toRef _, _ => false
termination_by structural c => c
def okSs : List Sm → List Stmt → Bool
  | [], sts => sts.isEmpty
  | c :: cs, sts => (match c with
    | .toRef _ => okSs cs sts
    | c => (match sts with
      | st :: sts => okS c st && okSs cs sts
      | [] => false))
termination_by structural cs => cs
end
end
end Co
/-! CoE5: statements: what is looked at holds. -/
namespace Co
open PySem PySem.Spec PyProof.Rows L2
structure Xs (k : Nat) (W : WX) (X : Cx) : Prop where
  xt : Xt k W X
  pw : PassesOwn (model X.prog X.w) X.A X.env X.xe
  fn : ∀ x, X.fn x = true
section
variable {P : Prog} {gn fn : Nat → Str} {F : Fns} {k : Nat} {N : List Str} {sc : Scope} {W : WX} {X : Cx}
theorem name_ok {i : Nat} {c : E} {x : Str} {e : Expr} {p pos : Pos} (T : Tb P gn fn F k X.prog X.w X.K X.mg X.base) (xs : Xs k W X) (hN : X.N = N) (hs : X.env.scope = sc) (h : okNm N P gn fn sc i c x e = true) :
    PS X (.Assign [.Name x p] e pos) (tAsg (tE X.K W P.G F c) (gName i)) := by
  simp only [okNm, Bool.and_eq_true, decide_eq_true_eq] at h
  obtain ⟨⟨⟨h1, h2⟩, h3⟩, h4⟩ := h
  have xt := xs.xt
  have hi : X.N[i]? = some x := by rw [hN]; exact h1
  have hl : Loc X.env.scope x := by rw [hs]; exact loc_by h2
  have q := (okE_ok c T xt hN hs h4).v h3
  cases hc : isComp e with
  | false => exact s_asgN xt.nd hi hl q (swap_no hc) (.inl (xs.fn x))
  | true =>
    cases e with
    | ListComp y gens scope q2 =>
      cases c with
      | lc elt t it ifs =>
        cases hb : swB X.env.scope scope x p q2 with
        | false => exact s_asgN xt.nd hi hl q (swap_lc.trans (by rw [hb])) (.inl (xs.fn x))
        | true =>
          simp only [okE] at h4
          split at h4
          · rename_i y2 tg iter fs scope2 p2 he
            cases he
            simp only [Bool.and_eq_true] at h4
            obtain ⟨⟨⟨⟨⟨⟨h1, h2⟩, h3'⟩, h4⟩, h5⟩, h6⟩, h7⟩ := h4
            have hs' : ∀ (s : Shared) (H : Hp) (C : Addr) (cl : List (Str × Addr)) (fp : List Addr), (X.blk s H scope (compEnvC scope cl C X.env) fp).env.scope = relS scope sc := fun s H C cl fp => by
              rw [← hs]
              rfl
            refine s_asgLc (t := t) (cifs := ifs) xt.nd xt.calm hi (swB_loc hb) (swap_lc.trans (by rw [hb])) ((okE_ok it T xt hN hs h1).i tg) (blkOk_by (own := ownL N t) (by rw [hN, hs]; exact h3')) (ownL_ixs N t) (fun s H C cl fp => ?_) (fun s H C cl fp => ?_) (fun s H C cl fp => ?_) (nofold h2 _)
            · exact tg_ok (X := X.blk s H scope (compEnvC scope cl C X.env) fp) xt.calm xt.nd hN (hs' s H C cl fp) (fun z => by cases z) h4
            · exact okFs_ok ifs (X := X.blk s H scope (compEnvC scope cl C X.env) fp) T (xt.blk ..) hN (hs' s H C cl fp) h5
            · exact (okE_ok elt (X := X.blk s H scope (compEnvC scope cl C X.env) fp) (W := W0) T (xt.blk ..) hN (hs' s H C cl fp) h7).v h6
          · cases h4
      | _ => simp only [okE] at h4; cases h4
    | SetComp => cases c <;> (simp only [okE] at h4; cases h4)
    | DictComp => cases c <;> (simp only [okE] at h4; cases h4)
    | _ => cases hc
theorem par_ok {is : List Nat} {c : E} {ts : List Expr} {e : Expr} {n : Nat} {p pos : Pos} (T : Tb P gn fn F k X.prog X.w X.K X.mg X.base) (xs : Xs k W X) (hN : X.N = N) (hs : X.env.scope = sc) (h : okPar N P gn fn sc is c ts e = true) :
    PS X (.Assign [.Tuple ts n p] e pos) (tS X.K W P.G F (.asg (.tup is) c)) := by
  unfold okPar at h
  split at h
  · rename_i vs m q cs
    simp only [Bool.and_eq_true] at h
    obtain ⟨h1, h⟩ := h
    have qa := (okEs_ok cs T xs.xt hN hs h1).pa
    split at h
    · simp only [Bool.and_eq_true, decide_eq_true_eq] at h
      obtain ⟨⟨⟨⟨⟨h1, h2⟩, h3⟩, h4⟩, h5⟩, h6⟩ := h
      rw [← hN] at h2 h3
      rw [← hs] at h4 h5 h6
      exact s_par2 xs.xt.calm xs.xt.nd h2 h3 h1 (lcl_by h4) (lcl_by h5) qa (swS_ok (beq_iff_eq.mp h6))
    · simp only [Bool.and_eq_true, decide_eq_true_eq] at h
      obtain ⟨⟨⟨⟨⟨⟨⟨⟨⟨h1, h2⟩, h3⟩, h4⟩, h5⟩, h6⟩, h7⟩, h8⟩, h9⟩, h10⟩ := h
      rw [← hN] at h4 h5 h6
      rw [← hs] at h7 h8 h9 h10
      exact s_par3 xs.xt.calm xs.xt.nd h4 h5 h6 h1 h2 h3 (lcl_by h7) (lcl_by h8) (lcl_by h9) qa (swS_ok (beq_iff_eq.mp h10))
    · cases h
  · cases h
theorem noPar_ok {ts : List Expr} {e : Expr} {n : Nat} {p : Pos} {env : Env} (hs : env.scope = sc) (h : noPar sc ts e = true) : swappedStores [.Tuple ts n p] e env = pure none := by
  unfold noPar at h
  split at h
  · rw [← hs] at h
    exact swS_ok (beq_iff_eq.mp h)
  · rename_i hn
    refine stores_no ?_
    cases e <;> first | rfl | exact absurd rfl (hn _ _ _)
theorem okSs_inv {c : Sm} {cs : List Sm} {sts : List Stmt} (h : okSs N P gn fn sc (c :: cs) sts = true) :
    (∃ i, c = .toRef i ∧ okSs N P gn fn sc cs sts = true) ∨ ∃ st r, sts = st :: r ∧ okS N P gn fn sc c st = true ∧ okSs N P gn fn sc cs r = true := by
  have h' := h
  unfold okSs at h'
  revert h'
  cases sts with
  | nil =>
    cases c with
    | toRef i => exact fun h' => .inl ⟨i, rfl, h'⟩
    | _ => exact fun h' => by cases h'
  | cons st r =>
    cases c with
    | toRef i => exact fun h' => .inl ⟨i, rfl, h'⟩
    | _ => exact fun h' => .inr ⟨st, r, rfl, by simpa only [Bool.and_eq_true] using h'⟩
mutual
theorem okS_ok : ∀ (c : Sm) {st : Stmt}, Tb P gn fn F k X.prog X.w X.K X.mg X.base → Xs k W X → X.N = N → X.env.scope = sc → okS N P gn fn sc c st = true → PS X st (tS X.K W P.G F c)
  | .expr c, st, T, xs, hN, hs, h => by
    simp only [okS] at h
    split at h
    · simp only [Bool.and_eq_true, Bool.not_eq_true'] at h
      exact s_expr ((okE_ok c T xs.xt hN hs h.1.2).v h.1.1) (swap_no h.2)
    · cases h
  | .asg t c, st, T, xs, hN, hs, h => by
    simp only [okS] at h
    split at h
    · exact s_name (name_ok T xs hN hs h)
    · rename_i is ts n p e q
      rcases Bool.or_eq_true_iff.mp h with h | h
      · exact par_ok T xs hN hs h
      · simp only [Bool.and_eq_true] at h
        obtain ⟨⟨⟨h1, h2⟩, h3⟩, h4⟩ := h
        exact s_asg ((okE_ok c T xs.xt hN hs h3).v h2) (tg_ok (top := true) xs.xt.calm xs.xt.nd hN hs (fun _ => xs.fn) h1) swap_tup (noPar_ok hs h4) rfl
    · cases h
  | .asgOwn i c, st, T, xs, hN, hs, h => by
    simp only [okS] at h
    split at h
    · exact s_own (name_ok T xs hN hs h)
    · cases h
  | .app i c, st, T, xs, hN, hs, h => by
    simp only [okS] at h
    split at h
    · simp only [nameC, Bool.and_eq_true, decide_eq_true_eq] at h
      obtain ⟨⟨⟨⟨⟨h1, ⟨h2, h3⟩, h4⟩, h5⟩, h6⟩, h7⟩, h8⟩ := h
      subst h1
      exact s_app (by rw [hN]; exact h2) (by rw [hs]; exact vis_by h3) (db_by h4).1 (db_by h4).2 ((okE_ok c T xs.xt hN hs h7).v h6) h5 h8
    · cases h
  | .insrt i d c, st, T, xs, hN, hs, h => by
    simp only [okS] at h
    split at h
    · simp only [nameC, Bool.and_eq_true, decide_eq_true_eq] at h
      obtain ⟨⟨⟨⟨⟨⟨⟨⟨h1, ⟨h2, h3⟩, h4⟩, h5⟩, h6⟩, h7⟩, h8⟩, h9⟩, h10⟩, h11⟩ := h
      subst h1
      exact s_insrt (by rw [hN]; exact h2) (by rw [hs]; exact vis_by h3) (db_by h4).1 (db_by h4).2 ((okE_ok d T xs.xt hN hs h9).v h7) ((okE_ok c T xs.xt hN hs h10).v h8) h5 h6 h11
    · cases h
  | .setItem i d c, st, T, xs, hN, hs, h => by
    simp only [okS] at h
    split at h
    · simp only [nameC, Bool.and_eq_true, decide_eq_true_eq] at h
      obtain ⟨⟨⟨⟨⟨⟨⟨h2, h3⟩, h4⟩, h5⟩, h6⟩, h7⟩, h8⟩, h9⟩ := h
      exact s_setItem (by rw [hN]; exact h2) (by rw [hs]; exact vis_by h3) (db_by h4).1 (db_by h4).2 ((okE_ok d T xs.xt hN hs h8).v h6) ((okE_ok c T xs.xt hN hs h9).v h7) h5 (asg_sub h5) swap_sub stores_sub
    · cases h
  | .refSet o d c, st, T, xs, hN, hs, h => by
    simp only [okS] at h
    split at h
    · simp only [Bool.and_eq_true] at h
      obtain ⟨⟨⟨⟨⟨⟨h1, h2⟩, h3⟩, h4⟩, h5⟩, h6⟩, h7⟩ := h
      exact s_refSet ((okE_ok o T xs.xt hN hs h5).v h2) ((okE_ok d T xs.xt hN hs h6).v h3) ((okE_ok c T xs.xt hN hs h7).v h4) h1 (asg_sub h1) swap_sub stores_sub
    · cases h
  | .ret c, st, T, xs, hN, hs, h => by
    simp only [okS] at h
    split at h
    · simp only [Bool.and_eq_true] at h
      exact s_ret ((okE_ok c T xs.xt hN hs h.2).v h.1)
    · cases h
  | .retMv i, st, T, xs, hN, hs, h => by
    simp only [okS] at h
    split at h
    · simp only [nameC, Bool.and_eq_true, decide_eq_true_eq] at h
      exact s_retMv (by rw [hN]; exact h.1.1) (by rw [hs]; exact vis_by h.1.2) (db_by h.2).1 (db_by h.2).2
    · cases h
  | .retN, st, T, xs, hN, hs, h => by
    simp only [okS] at h
    split at h
    · exact s_retN
    · cases h
  | .ifs c a b, st, T, xs, hN, hs, h => by
    simp only [okS] at h
    split at h
    · simp only [Bool.and_eq_true] at h
      obtain ⟨⟨⟨h1, h2⟩, h3⟩, h4⟩ := h
      exact s_if ((okE_ok c T xs.xt hN hs h2).t h1) (okSs_ok a T xs hN hs h3) (okSs_ok b T xs hN hs h4)
    · cases h
  | .for_ t it body, st, T, xs, hN, hs, h => by
    simp only [okS] at h
    split at h
    · simp only [Bool.and_eq_true] at h
      obtain ⟨⟨⟨h1, h2⟩, h3⟩, h4⟩ := h
      exact s_for xs.xt.nd xs.xt.calm xs.pw ((okE_ok it T xs.xt hN hs h2).s _) (tg_ok (top := true) xs.xt.calm xs.xt.nd hN hs (fun _ => xs.fn) h1) (okSs_ok body T xs hN hs h4) (nofold h3 _)
    · cases h
  | .while_ c body, st, T, xs, hN, hs, h => by
    simp only [okS] at h
    split at h
    · simp only [Bool.and_eq_true] at h
      obtain ⟨⟨h1, h2⟩, h3⟩ := h
      exact s_while xs.pw ((okE_ok c T xs.xt hN hs h2).t h1) (okSs_ok body T xs hN hs h3)
    · cases h
  | .brk, st, T, xs, hN, hs, h => by
    simp only [okS] at h
    split at h
    · exact s_brk
    · cases h
  | .cont, st, T, xs, hN, hs, h => by
    simp only [okS] at h
    split at h
    · exact s_cont
    · cases h
  | .pass, st, T, xs, hN, hs, h => by
    simp only [okS] at h
    split at h
    · exact s_pass
    · cases h
  | .raise _ _, st, T, xs, hN, hs, h => ⟨fun pins s σ H D I ⟨g, sl, s0, _, _, z⟩ => by simp only [exS] at z; exact z.elim⟩
  | .toRef _, st, T, xs, hN, hs, h => by simp only [okS] at h; cases h
theorem okSs_ok : ∀ (cs : List Sm) {sts : List Stmt}, Tb P gn fn F k X.prog X.w X.K X.mg X.base → Xs k W X → X.N = N → X.env.scope = sc → okSs N P gn fn sc cs sts = true → PSs X sts (tSs X.K W P.G F cs)
  | [], sts, T, xs, hN, hs, h => by
    simp only [okSs] at h
    rw [List.isEmpty_iff.mp h]
    exact ss_nil
  | c :: cs, sts, T, xs, hN, hs, h => by
    rcases okSs_inv h with ⟨i, e, h2⟩ | ⟨st, r, e, h1, h2⟩
    · rw [e]
      exact ss_toRef (okSs_ok cs T xs hN hs h2)
    · rw [e]
      exact ss_cons (okS_ok c T xs hN hs h1) (okSs_ok cs T xs hN hs h2)
end
end
end Co
/-! CoF: defs: a def whose text is looked at does what its code says. -/
namespace Co
open PySem PySem.Spec PyProof.Rows L2

/-! ### lending one's own lists to a callee -/
def lend (g : Gh) : Gh := fun a => match g a with
  | some (.own _) => some .vw
  | r => r
/-- back again; what the callee called its own is nobody's -/
def rest (g g' : Gh) : Gh := fun a => match g a with
  | some (.own i) => some (.own i)
  | _ => (match g' a with
    | some (.own _) => none
    | r => r)
theorem lend_own {g : Gh} {a : Addr} {i : Nat} (h : g a = some (.own i)) : lend g a = some .vw := by unfold lend; rw [h]
theorem lend_other {g : Gh} {a : Addr} {r : Role} (h : g a = some r) (n : ∀ i, r ≠ .own i) : lend g a = some r := by
  unfold lend
  rw [h]
  cases r with
  | own i => exact absurd rfl (n i)
  | fz o => rfl
  | vw => rfl
  | io m => rfl
theorem lend_none {g : Gh} {a : Addr} (h : g a = none) : lend g a = none := by unfold lend; rw [h]
theorem lend_inv {g : Gh} {a : Addr} {r : Role} (h : lend g a = some r) : (∃ i, g a = some (.own i) ∧ r = .vw) ∨ g a = some r := by
  unfold lend at h
  split at h
  · rename_i i e
    cases h
    exact .inl ⟨i, e, rfl⟩
  · exact .inr h
theorem lend_kp (g : Gh) : Kp g (lend g) := fun a r e n _ => lend_other e n
theorem rest_own {g g' : Gh} {a : Addr} {i : Nat} (h : g a = some (.own i)) : rest g g' a = some (.own i) := by unfold rest; rw [h]
theorem rest_other {g g' : Gh} {a : Addr} {r : Role} (hg : ∀ i, g a ≠ some (.own i)) (h : g' a = some r) (n : ∀ i, r ≠ .own i) : rest g g' a = some r := by
  unfold rest
  split
  · rename_i i e
    exact absurd e (hg i)
  · split
    · rename_i i e
      rw [h] at e
      cases e
      exact absurd rfl (n i)
    · exact h
theorem rest_inv {g g' : Gh} {a : Addr} {r : Role} (h : rest g g' a = some r) : (∃ i, g a = some (.own i) ∧ r = .own i) ∨ (g' a = some r ∧ ∀ i, r ≠ .own i) := by
  unfold rest at h
  split at h
  · rename_i i e
    cases h
    exact .inl ⟨i, e, rfl⟩
  · split at h
    · cases h
    · rename_i hn
      refine .inr ⟨h, fun i z => ?_⟩
      subst z
      exact hn i h
section
variable {K : PySem.W.Frag} {g g' : Gh} {s s' : S} {H H' : Hp}
theorem HRel.lend (h : HRel K g s H) : HRel K (Co.lend g) s H := by
  refine ⟨fun a o e => ?_, fun a r e => ?_, fun n o e => ?_, fun a b n ea eb => ?_, fun a n e => ?_⟩
  · rcases lend_inv e with ⟨i, _, z⟩ | e
    · cases z
    · exact h.fz a o e
  · rcases lend_inv e with ⟨i, e, _⟩ | e
    · exact h.dom a _ e
    · exact h.dom a _ e
  · obtain ⟨a, ga, oa⟩ := h.io n o e
    refine ⟨a, lend_other ga (fun _ z => by cases z), ?_⟩
    cases o with
    | lst ds =>
      obtain ⟨vs, e1, r1⟩ := oa
      exact ⟨vs, e1, Rvs.kp (lend_kp g) _ _ r1⟩
  · rcases lend_inv ea with ⟨i, _, z⟩ | ea
    · cases z
    rcases lend_inv eb with ⟨i, _, z⟩ | eb
    · cases z
    exact h.uq a b n ea eb
  · rcases lend_inv e with ⟨i, _, z⟩ | e
    · cases z
    · exact h.bd a n e
theorem rest_kp (e : ExtS (Co.lend g) H g' H') : Kp g' (rest g g') := fun a r ha n1 n2 => by
  refine rest_other (fun i z => ?_) ha n1
  have q := e.le a .vw (lend_own z) (fun _ z => by cases z)
  rw [ha] at q
  cases q
  exact n2 rfl
theorem rest_ext (e : ExtS (Co.lend g) H g' H') : Ext g H (rest g g') H' := by
  refine ⟨fun a r ha => ?_, fun a r ha n => ?_⟩
  · by_cases z : ∃ i, r = .own i
    · obtain ⟨i, rfl⟩ := z
      exact rest_own ha
    · have nz : ∀ i, r ≠ .own i := fun i z' => z ⟨i, z'⟩
      refine rest_other (fun i z' => ?_) (e.le a r (lend_other ha nz) nz) nz
      rw [ha] at z'
      cases z'
      exact nz i rfl
  · by_cases z : ∃ i, r = .own i
    · obtain ⟨i, rfl⟩ := z
      exact e.st a .vw (lend_own ha) (fun _ z => by cases z) (fun _ z => by cases z)
    · have nz : ∀ i, r ≠ .own i := fun i z' => z ⟨i, z'⟩
      exact e.st a r (lend_other ha nz) nz n
theorem HRel.rest (e : ExtS (Co.lend g) H g' H') (h : HRel K g' s' H') : HRel K (Co.rest g g') s' H' := by
  refine ⟨fun a o ea => ?_, fun a r ea => ?_, fun n o en => ?_, fun a b n ea eb => ?_, fun a n ea => ?_⟩
  · rcases rest_inv ea with ⟨i, _, z⟩ | ⟨ea, _⟩
    · cases z
    · exact h.fz a o ea
  · rcases rest_inv ea with ⟨i, ea, _⟩ | ⟨ea, _⟩
    · exact h.dom a .vw (e.le a .vw (lend_own ea) (fun _ z => by cases z))
    · exact h.dom a r ea
  · obtain ⟨a, ga, oa⟩ := h.io n o en
    refine ⟨a, rest_kp e a _ ga (fun _ z => by cases z) (fun z => by cases z), ?_⟩
    cases o with
    | lst ds =>
      obtain ⟨vs, e1, r1⟩ := oa
      exact ⟨vs, e1, Rvs.kp (rest_kp e) _ _ r1⟩
  · rcases rest_inv ea with ⟨i, _, z⟩ | ⟨ea, _⟩
    · cases z
    rcases rest_inv eb with ⟨i, _, z⟩ | ⟨eb, _⟩
    · cases z
    exact h.uq a b n ea eb
  · rcases rest_inv ea with ⟨i, _, z⟩ | ⟨ea, _⟩
    · cases z
    · exact h.bd a n ea
/-- what comes back -/
theorem RX.rest {x : Co.X} {v : V} (e : ExtS (Co.lend g) H g' H') (hx : ∀ ds, x ≠ .vw ds) (r : RX K g' H' x v) : RX K (Co.rest g g') H' x v := by
  cases x with
  | v d => exact Rv.kp (rest_kp e) d v r
  | vw ds => exact absurd rfl (hx ds)
  | own ds =>
    obtain ⟨a, vs, rfl, hn, ha, q⟩ := r
    refine ⟨a, vs, rfl, ?_, ha, Rvs.kp (rest_kp e) _ _ q⟩
    cases er : Co.rest g g' a with
    | none => rfl
    | some r =>
      rcases rest_inv er with ⟨i, eg, _⟩ | ⟨ea, _⟩
      · have q2 := e.le a .vw (lend_own eg) (fun _ z => by cases z)
        rw [hn] at q2
        cases q2
      · rw [hn] at ea
        cases ea
theorem RE.kp {e : D} {cls : Value} {d : Option Addr} (k : Kp g g') (h : RE K g e cls d) : RE K g' e cls d := by
  cases e with
  | exc c fs =>
    obtain ⟨h1, h2⟩ := h
    refine ⟨h1, ?_⟩
    rcases h2 with h2 | ⟨dd, vfs, e1, e2, e3, e4⟩
    · exact .inl h2
    · exact .inr ⟨dd, vfs, e1, k _ _ e2 (fun _ z => by cases z) (fun z => by cases z), e3, Rvs.kp k _ _ e4⟩
  | _ => exact h
/-- the parameters -/
theorem RXs.get {xs : List Co.X} : ∀ {vs : List V} {i : Nat} {x : Co.X}, RXs K g H xs vs → xs[i]? = some x → ∃ v, vs[i]? = some v ∧ RX K g H x v := by
  induction xs with
  | nil => intro vs i x _ e; simp at e
  | cons y ys ih =>
    intro vs i x ⟨v, r, e, h1, h2⟩ ex
    subst e
    cases i with
    | zero =>
      simp only [List.getElem?_cons_zero, Option.some.injEq] at ex
      subst ex
      exact ⟨v, rfl, h1⟩
    | succ i =>
      obtain ⟨w, ew, rw'⟩ := ih (vs := r) (i := i) h2 (by simpa using ex)
      exact ⟨w, by simpa using ew, rw'⟩
theorem SRel.start {xs : List Co.X} {vs : List V} {N : List Str} (h : RXs K g H xs vs) (ha : ∀ x ∈ xs, x.arg = x) : SRel K (Co.lend g) (startSl N.length xs) (L2.start N vs) H := by
  have hl := h.len
  refine ⟨?_, fun i x hx => ?_⟩
  · unfold startSl L2.start
    simp only [List.length_append, List.length_map, List.length_replicate]
    omega
  · unfold startSl at hx
    by_cases hi : i < xs.length
    · rw [List.getElem?_append_left (by simpa using hi), List.getElem?_map] at hx
      cases ex : xs[i]? with
      | none => rw [ex] at hx; cases hx
      | some y =>
        rw [ex] at hx
        cases hx
        obtain ⟨v, ev, r⟩ := h.get ex
        refine ⟨v, ?_, ?_⟩
        · unfold L2.start
          rw [List.getElem?_append_left (by rw [List.length_map]; omega), List.getElem?_map, ev]
          rfl
        · have hm := ha x (List.mem_of_getElem? ex)
          cases x with
          | v d => exact Rv.kp (lend_kp g) d v r
          | vw ds =>
            obtain ⟨a, ws, rfl, ro, hw, q⟩ := r
            refine ⟨a, ws, rfl, ?_, hw, Rvs.kp (lend_kp g) _ _ q⟩
            rcases ro with ro | ⟨j, ro⟩
            · exact lend_other ro (fun _ z => by cases z)
            · exact lend_own ro
          | own ds => cases hm
    · rw [List.getElem?_append_right (by simpa using hi), List.getElem?_replicate] at hx
      split at hx <;> cases hx
end

/-! ### binding -/
theorem lookup_out {α : Type} {p : Str} : ∀ {ps : List Str} {us : List α}, p ∉ ps → (ps.zip us).lookup p = none
  | [], _, _ => rfl
  | _ :: _, [], _ => rfl
  | q :: ps, u :: us, h => by
    rw [List.zip_cons_cons, List.lookup_cons]
    have hq : (p == q) = false := by
      simp only [beq_eq_false_iff_ne, ne_eq]
      exact fun e => h (by rw [e]; exact List.mem_cons_self ..)
    rw [hq]
    exact lookup_out fun hm => h (List.mem_cons_of_mem _ hm)
theorem fm_congr {α β : Type} {f g : α → Option β} : ∀ {l : List α}, (∀ x ∈ l, f x = g x) → l.filterMap f = l.filterMap g
  | [], _ => rfl
  | x :: l, h => by
    rw [List.filterMap_cons, List.filterMap_cons, h x (List.mem_cons_self ..), fm_congr fun y hy => h y (List.mem_cons_of_mem _ hy)]
theorem bind_zip {α : Type} : ∀ {ps : List Str} {us : List α}, ps.Nodup → us.length = ps.length → ps.filterMap (fun n => ((ps.zip us).lookup n).map (n, ·)) = ps.zip us ∧ (ps.filter fun n => ((ps.zip us).lookup n).isNone) = []
  | [], [], _, _ => ⟨rfl, rfl⟩
  | p :: ps, u :: us, nd, hl => by
    obtain ⟨h1, h2⟩ := List.nodup_cons.mp nd
    obtain ⟨q1, q2⟩ := bind_zip (ps := ps) (us := us) h2 (by simpa using hl)
    have look : ∀ n ∈ ps, ((p :: ps).zip (u :: us)).lookup n = (ps.zip us).lookup n := fun n hn => by
      rw [List.zip_cons_cons, List.lookup_cons]
      have hq : (n == p) = false := by
        simp only [beq_eq_false_iff_ne, ne_eq]
        exact fun e => h1 (by rw [← e]; exact hn)
      rw [hq]
    have here : ((p :: ps).zip (u :: us)).lookup p = some u := by
      rw [List.zip_cons_cons, List.lookup_cons, beq_self_eq_true]
    refine ⟨?_, ?_⟩
    · rw [List.filterMap_cons, here]
      show (p, u) :: _ = _
      rw [List.zip_cons_cons]
      congr 1
      refine (fm_congr fun n hn => ?_).trans q1
      rw [← List.zip_cons_cons, look n hn]
    · rw [List.filter_cons, here]
      simp only [Option.isNone_some, Bool.false_eq_true, if_false]
      rw [← q2]
      exact List.filter_congr fun n hn => by rw [look n hn]
  | [], _ :: _, _, h => by cases h
  | _ :: _, [], _, h => by cases h
/-- plain parameters -/
def plC (ps : List Str) (a : Arguments) : Bool := a.posonlyargs.isEmpty && a.kwonlyargs.isEmpty && a.vararg.isNone && a.kwarg.isNone && decide (a.args.map (·.arg) = ps) && decide ps.Nodup
theorem bind_plain {ps : List Str} {x qual : Str} {params : Arguments} {body : List Stmt} {scope : Scope} {kV doc pm cdv ct : Value} {an : Option Addr} {us : List Value} (h : plC ps params = true) (hl : us.length = ps.length) :
    bindArgs (PySem.W.fnOf x qual params body scope .none kV doc pm an cdv ct) ⟨us, []⟩ = pure (ps.zip us) := by
  unfold plC at h
  simp only [Bool.and_eq_true, decide_eq_true_eq, List.isEmpty_iff, Option.isNone_iff_eq_none] at h
  obtain ⟨⟨⟨⟨⟨h1, h2⟩, h3⟩, h4⟩, h5⟩, h6⟩ := h
  obtain ⟨q1, q2⟩ := bind_zip (us := us) h6 hl
  have hd : seqItems? Value.none = pure none := rfl
  unfold bindArgs
  simp only [h1, h2, h3, h4, h5, List.map_nil, List.nil_append, List.append_nil, hd, List.forIn_nil, pure_bind, bind_pure, Option.getD_none, List.toList_toArray, List.drop_nil, List.length_nil, hl, Nat.sub_zero, q1, q2, List.isEmpty_nil, Nat.lt_irrefl, List.take_length, decide_false, Bool.false_and, Bool.false_eq_true, if_false, Bool.not_true, List.zip_nil_right, if_true]
end Co
/-! CoF2: a def by its body; the whole table. -/
namespace Co
open PySem PySem.Spec PyProof.Rows L2
/-- the names of a def's scope -/
def fsC (N P : List Str) (sc : Scope) : Bool :=
  (match sc.kind with | .function => true | _ => false) && !sc.isCoroutine && !sc.isGenerator && decide N.Nodup && decide (N.take P.length = P) && P.all (fun x => locC sc x) && sc.names.all (fun y => match y.2 with | .free => false | _ => true)
theorem fs_by {N P : List Str} {sc : Scope} (h : fsC N P sc = true) : FnScope N P sc := by
  unfold fsC at h
  simp only [Bool.and_eq_true, Bool.not_eq_true', decide_eq_true_eq, List.all_eq_true] at h
  obtain ⟨⟨⟨⟨⟨⟨h1, h2⟩, h3⟩, h4⟩, h5⟩, h6⟩, h7⟩ := h
  refine ⟨?_, h2, h3, h4, h5, fun x hx => loc_by (h6 x hx), fun y hy e => ?_⟩
  · split at h1
    · assumption
    · cases h1
  · have q := h7 y hy
    rw [e] at q
    cases q
/-- the text st is what the code fd says -/
def okFn (P : Prog) (gn fn : Nat → Str) (fd : Fn) (st : Stmt) : Bool :=
  fsC fd.N fd.ps (defScope st) && plC fd.ps (defArgs st) && okSs fd.N P gn fn (defScope st) fd.body (defBody st)
section
variable {P : Prog} {gn fn : Nat → Str} {Pr : Program} {w : World} {K : PySem.W.Frag} {mg : Str → Option Value} {base : Heap}
theorem fnG_step {n f : Nat} {x : Str} {st : Stmt} {a : Addr} {fo : FuncData} {fd : Fn} (T : Tb P gn fn (callN P n) n Pr w K mg base) (Fd : FunD K x x (defArgs st) (defBody st) (defScope st) [] [] a fo) (hf : P.tab f = some fd) (hok : okFn P gn fn fd st = true) :
    FnG Pr w K mg base (n + 1) a (callN P (n + 1) f) := by
  intro A outer s H us vs g xs s0 Q E hr hgd e0 hR hH hX ha h
  simp only [okFn, Bool.and_eq_true] at hok
  obtain ⟨⟨hS, hP⟩, hB⟩ := hok
  have S := fs_by hS
  have hl : xs.length = fd.ps.length ∧ Post K (fun c d _ H => E c d H) [] g H (RX K) Q (exSs P.G (callN P n) (startSl fd.N.length xs) fd.body s0).fin := by
    simp only [callN, hf] at h
    by_cases hl : xs.length = fd.ps.length
    · rw [if_pos hl] at h
      exact ⟨hl, h⟩
    · rw [if_neg hl] at h
      exact h.elim
  obtain ⟨hl, h⟩ := hl
  have hvl : vs.length = fd.ps.length := hX.len.symm.trans hl
  have hul : us.length = fd.ps.length := hR.length.symm.trans hvl
  have bnd := FunD.bindsA (ps := fd.ps) Fd (fun kV doc pm an cdv ct us hl => bind_plain hP hl) s us hul
  obtain ⟨oc, od, dV, kV, doc, pm, an, cdv, ct, osl, rfl, lk, hcd, _, _⟩ := Fd.ex
  have KX : K.In s.heap := e0.mod.kin.keeps fun b o e => (e0.bs b o e).1
  have lim : s.heap.NoLimit := e0.mod.nolimit.keeps fun b o e => (e0.bs b o e).1
  have hkind : ∀ y ∈ fd.ps.zip us, (defScope st).names.lookup y.1 = some .local ∨ ((defScope st).names.lookup y.1 = some .cell ∧ ((cellsFrom (s.heap.objs.size + 1) (defScope st).names []).lookup y.1).isSome = true) := fun ⟨m, v⟩ hy => by
    rcases S.par m (List.of_mem_zip hy).1 with q | q
    · exact .inl q
    · exact .inr ⟨q, PySem.W.cellsFrom_some _ _ _ (.inl q)⟩
  refine codeAny_call_function hr.depth (KX _ _ lk) rfl S.co S.gen rfl (PySem.W.codeRec_of KX hcd) (bnd _ _ _ _ ?_)
  refine wpAny_newFunctionEnv_cells S.kind hkind fun env he s1 x1 => ?_
  subst he
  refine ⟨lim.keeps x1.toInCall.keep, codeAny_func ?_⟩
  generalize hX' : cxOf (L2.CX Pr w) Pr w K mg base fd.N x (defScope st) a cdv A outer s H E = X
  have I : Inv X [] (L2.start fd.N vs) H s1 := by rw [← hX']; exact inv_start S hr.hd e0 hvl hR x1
  have xs' : Xs n (fun c d _ H => E c d H) X := by
    rw [← hX']
    exact ⟨⟨rfl, S.nd, hr.deeper _, hgd, takes_of rfl rfl rfl rfl⟩, passes_of rfl, fun _ => rfl⟩
  have T' : Tb P gn fn (callN P n) n X.prog X.w X.K X.mg X.base := by rw [← hX']; exact T
  have body := okSs_ok fd.body (X := X) (W := fun c d _ H => E c d H) T' xs' (by rw [← hX']; rfl) (by rw [← hX']; rfl) hB
  have hD : tSs X.K (fun c d _ H => E c d H) P.G (callN P n) fd.body { nx := fun _ H' => Q .non H', rt := Q } (L2.start fd.N vs) H := by
    have hK : X.K = K := by rw [← hX']; rfl
    rw [hK]
    refine ⟨lend g, startSl fd.N.length xs, s0, hH.lend, SRel.start hX ha, ?_⟩
    revert h
    generalize exSs P.G (callN P n) (startSl fd.N.length xs) fd.body s0 = r
    intro h
    cases r with
    | nx sl s' => exact fun g' σ' H' e hr' _ => h (Co.rest g g') H' .non (rest_ext e) (hr'.rest e) (show Rv K (Co.rest g g') .non .non by simp only [Rv])
    | rt y s' =>
      cases y with
      | vw es => exact h.elim
      | v d => exact fun g' H' v e hr' rx => h (Co.rest g g') H' v (rest_ext e) (hr'.rest e) (rx.rest e (fun _ z => by cases z))
      | own es => exact fun g' H' v e hr' rx => h (Co.rest g g') H' v (rest_ext e) (hr'.rest e) (rx.rest e (fun _ z => by cases z))
    | bk sl s' => exact h.elim
    | ct sl s' => exact h.elim
    | ex y sl s' => exact fun g' σ' H' c d e hr' _ re => h (Co.rest g g') H' c d (rest_ext e) (hr'.rest e) (RE.kp (rest_kp e) re)
    | bad => exact h.elim
  have run := body.run [] s1 (L2.start fd.N vs) H _ I hD
  rw [← hX'] at run I
  refine wpAny_mono run (fun fl s' hs => ?_) fun e s' hs => hs
  have fin : ∀ {σ' : L2.St} {H' : Hp} {v : V} {u : Value}, Inv (cxOf (L2.CX Pr w) Pr w K mg base fd.N x (defScope st) a cdv A outer s H E) [] σ' H' s' → RelV v u → Q v H' → CE outer Pr w H s Q u s' :=
    fun {σ' H' v u} J rv q => ⟨v, H', J.os, J.bare, J.base, J.hok, rv, q⟩
  cases fl with
  | ret u =>
    obtain ⟨v, σ', H', J, rv, q⟩ := hs
    exact fin J rv q
  | next =>
    obtain ⟨σ', H', J, q⟩ := hs
    exact fin (v := V.non) (u := Value.none) J rfl q
  | brk =>
    obtain ⟨_, _, _, q⟩ := hs
    exact False.elim q
  | cont =>
    obtain ⟨_, _, _, q⟩ := hs
    exact False.elim q
end
end Co
/-! CoG: the whole table from what the head says; a law's end. -/
namespace Co
open PySem PySem.Spec PyProof.Rows L2
/-- a def of the table: its number, its name, where its text stands, its code -/
structure Row where
  id : Nat
  nm : Str
  ix : Nat
  fd : Fn
/-- a constant of the module -/
structure GRow where
  id : Nat
  nm : Str
  d : D
def rowOf (rs : List Row) (f : Nat) : Option Row := rs.find? fun r => r.id == f
def gOf (gs : List GRow) (i : Nat) : Option GRow := gs.find? fun g => g.id == i
def prgOf (rs : List Row) (gs : List GRow) : Prog := { G := fun i => (gOf gs i).map (·.d), tab := fun f => (rowOf rs f).map (·.fd) }
def fnN (rs : List Row) (f : Nat) : Str := match rowOf rs f with
  | some r => r.nm
  | none => ""
def gnN (gs : List GRow) (i : Nat) : Str := match gOf gs i with
  | some g => g.nm
  | none => ""
def textAt (m : List Stmt) (i : Nat) : Stmt := m.getD i (.Pass ⟨0, 0, 0, 0⟩)
def Row.dd (m : List Stmt) (r : Row) : He.DefD := ⟨(r.nm, none), r.nm, r.nm, defArgs (textAt m r.ix), defBody (textAt m r.ix), defScope (textAt m r.ix), [], []⟩
def GRow.fa (g : GRow) : He.Fa := match g.d with
  | .int i => .int g.nm i
  | .str s => .str g.nm s
  | _ => .keep g.nm
def GRow.ok (g : GRow) : Bool := match g.d with
  | .int _ => true
  | .str _ => true
  | _ => false
/-- the facts that the head is asked for -/
def facts (rs : List Row) (gs : List GRow) : List He.Fa := rs.map (fun r => .glo r.nm) ++ (bltNames.map .free ++ gs.map GRow.fa)
def okRows (m : List Stmt) (rs : List Row) (gs : List GRow) : Bool :=
  (rs.all fun r => okFn (prgOf rs gs) (gnN gs) (fnN rs) r.fd (textAt m r.ix)) && gs.all GRow.ok
section
variable {rs : List Row} {gs : List GRow} {m : List Stmt} {Pr : Program} {w : World} {K : PySem.W.Frag} {mg : Str → Option Value} {h base : Heap}
theorem says_mem {fa : List He.Fa} {fn : List He.DefD} (c : He.SaysD fa fn K) {f : He.Fa} (hm : f ∈ fa) : f.ok K = true := by
  obtain ⟨i, hi⟩ := List.mem_iff_getElem?.mp hm
  exact c.fact i hi
theorem row_mem {f : Nat} {r : Row} (e : rowOf rs f = some r) : r ∈ rs := List.mem_of_find?_eq_some e
theorem g_mem {i : Nat} {g : GRow} (e : gOf gs i = some g) : g ∈ gs := List.mem_of_find?_eq_some e
/-- the table, at every depth -/
theorem tb_all (X : K.In h) (G : h.Ns mainGlobals mg) (c : He.SaysD (facts rs gs) (rs.map (Row.dd m)) K) (ok : okRows m rs gs = true) : ∀ n, Tb (prgOf rs gs) (gnN gs) (fnN rs) (callN (prgOf rs gs) n) n Pr w K mg base := by
  have ok' : (∀ r ∈ rs, okFn (prgOf rs gs) (gnN gs) (fnN rs) r.fd (textAt m r.ix) = true) ∧ ∀ g ∈ gs, g.ok = true := by
    simpa only [okRows, Bool.and_eq_true, List.all_eq_true] using ok
  have glb : ∀ i d, (prgOf rs gs).G i = some d → ∃ u v, mg (gnN gs i) = some u ∧ RelV v u ∧ ∀ g, Rv K g d v := fun i d e => by
    obtain ⟨g, eg, rfl⟩ := Option.map_eq_some_iff.mp e
    have hm := g_mem eg
    have hf : g.fa ∈ facts rs gs := List.mem_append_right _ (List.mem_append_right _ (List.mem_map_of_mem hm))
    have f := says_mem c hf
    have en : gnN gs i = g.nm := by unfold gnN; rw [eg]
    rw [en]
    have og := ok'.2 g hm
    unfold GRow.fa at f
    unfold GRow.ok at og
    revert f og
    cases g.d with
    | int j =>
      intro f _
      obtain ⟨t, e⟩ := He.int_ok X G f
      exact ⟨_, .int j, e, ⟨t, rfl⟩, fun _ => by simp only [Rv]⟩
    | str s =>
      intro f _
      obtain ⟨t, e⟩ := He.str_ok X G f
      exact ⟨_, .str s, e, ⟨t, rfl⟩, fun _ => by simp only [Rv]⟩
    | _ => intro _ og; cases og
  have blt : ∀ x ∈ bltNames, mg x = none := fun x hx => He.free_ok X G (says_mem c (List.mem_append_right _ (List.mem_append_left _ (List.mem_map_of_mem hx))))
  have row : ∀ f, ((prgOf rs gs).tab f).isSome = true → ∃ r, rowOf rs f = some r ∧ (prgOf rs gs).tab f = some r.fd ∧ mg (fnN rs f) = some (.ref (He.ga K r.nm)) ∧ ∃ fo, FunD K r.nm r.nm (defArgs (textAt m r.ix)) (defBody (textAt m r.ix)) (defScope (textAt m r.ix)) [] [] (He.ga K r.nm) fo := fun f hf => by
    cases er : rowOf rs f with
    | none =>
      have e : (prgOf rs gs).tab f = none := by show (rowOf rs f).map _ = none; rw [er]; rfl
      rw [e] at hf
      cases hf
    | some r =>
      have hm := row_mem er
      refine ⟨r, rfl, by show (rowOf rs f).map _ = _; rw [er]; rfl, ?_, ?_⟩
      · have en : fnN rs f = r.nm := by unfold fnN; rw [er]
        rw [en]
        exact He.glo_ok X G (says_mem c (List.mem_append_left _ (List.mem_map_of_mem hm)))
      · obtain ⟨i, hi⟩ := List.mem_iff_getElem?.mp hm
        obtain ⟨fo, F⟩ := c.def_ i (d := Row.dd m r) (by rw [List.getElem?_map, hi]; rfl)
        exact ⟨fo, F⟩
  intro n
  induction n with
  | zero =>
    refine ⟨glb, blt, fun f hf => ?_⟩
    obtain ⟨r, er, et, em, fo, F⟩ := row f hf
    exact ⟨_, em, F.kp, fun A outer s H us vs g xs st Q E _ _ _ _ _ _ _ z => z.elim⟩
  | succ n ih =>
    refine ⟨glb, blt, fun f hf => ?_⟩
    obtain ⟨r, er, et, em, fo, F⟩ := row f hf
    exact ⟨_, em, F.kp, fnG_step ih F et (ok'.1 r (row_mem er))⟩
end

/-! ### the law's call -/
theorem law_callG {P : Program} {w : World} {K : PySem.W.Frag} {mg mb : Str → Option Value} {k : Nat} {fa a : Addr} {Fr : List Co.X → S → R Co.X} {s₁ : Shared} {vs : List Value} {ns : List Int} {sE : S}
    (KX : K.In s₁.heap) (hns : s₁.heap.Ns mainGlobals mg) (hb : s₁.heap.Ns builtinsNs mb) (hbb : ∀ x : Str, x ≠ "__name__" → mb x = bootBuiltins x) (hlim : s₁.heap.NoLimit) (hg : s₁.gens = #[])
    (ha : s₁.heap.get? a = some { cls := .type "list", data := .seq vs.toArray }) (hi : IntsAre vs ns) (hl : ns.length ≤ sizeLine) (hr : Room k callerA)
    (F : ∀ base : Heap, K.In base → base.Ns mainGlobals mg → FnG P w K mg base k fa Fr) (hF : Fr [.v (.scr ns)] [] = .ok (.v (.bl true)) sE) :
    codeAny (model P w) callerA (.call (.ref fa) ⟨[.ref a], []⟩) (fun r s' => r = .ok (.ret (.bool true)) ∧ OldK s₁.heap s'.heap ∧ s'.os = s₁.os ∧ AllBare s'.gens) s₁ := by
  have rv := vals_ints hi
  have lenV := hi.length
  have core : ∀ (H : Hp) (g : Gh), Only H → HRel K g [] H → Rv K g (.scr ns) (.ref a) → HOk P w H s₁.heap → (∀ b, H b ≠ none → b = a ∧ K.lookup a = none) →
      codeAny (model P w) callerA (.call (.ref fa) ⟨[.ref a], []⟩) (fun r s' => r = .ok (.ret (.bool true)) ∧ OldK s₁.heap s'.heap ∧ s'.os = s₁.os ∧ AllBare s'.gens) s₁ := by
    intro H g hO hH hR hok hA
    -- what is not the script stands in the ground
    have off : ∀ {b : Addr}, (b ≠ a ∨ K.lookup a ≠ none) → H b = none := fun {b} n => by
      cases q : H b with
      | none => rfl
      | some u =>
        obtain ⟨e1, e2⟩ := hA b (by rw [q]; exact fun z => by cases z)
        rcases n with n | n
        · exact absurd e1 n
        · exact absurd e2 n
    have nsK : ∀ {b : Addr} {m : Str → Option Value}, s₁.heap.Ns b m → (hidT s₁.heap H).Ns b m := fun {b m} ⟨o, es, ep, e, d, r⟩ =>
      ⟨o, es, ep, hidT_get e (off (.inl fun z => by
        rw [z, ha] at e
        cases e
        have d' : Data.seq vs.toArray _ = Data.dict es ep := d
        cases d')), d, r⟩
    have hKb : K.In (hidT s₁.heap H) := fun b o e => hidT_get (KX b o e) (off (by
      by_cases z : b = a
      · exact .inr (by rw [← z, e]; exact fun z => by cases z)
      · exact .inl z))
    have hM : Mod K mg (hidT s₁.heap H) := ⟨hKb, nsK hns, ⟨mb, nsK hb, hbb⟩, let ⟨mc, h1, h2⟩ := hlim; ⟨mc, nsK h1, h2⟩⟩
    have e0 : Env0 P w K mg (hidT s₁.heap H) callerA [] s₁ H := ⟨rfl, hM, fun b o e => of_hidT e, Nat.le_of_eq (hidT_size _ _), trivial, fun b hb => absurd (show b ∈ ([] : List Addr) from hb) (by simp), hok, .of_eq hg⟩
    refine codeAny_mono (F _ hKb (nsK hns) callerA [] s₁ H [.ref a] [.ref a] g [.v (.scr ns)] [] (fun v _ => v = .bl true) (fun _ _ _ => False) hr rfl e0 (.cons rfl .nil) hH ⟨.ref a, [], rfl, hR, rfl⟩ (fun x hx => by
      rw [List.mem_singleton.mp hx]
      rfl) (by
      rw [hF]
      intro g' H' v _ _ r
      have r' : Rv K g' (.bl true) v := r
      simpa only [Rv] using r')) fun r s' h => ?_
    cases r with
    | error e =>
      obtain ⟨_, _, _, _, _, _, _, _, _, _, _, _, z⟩ := h
      exact z.elim
    | ok fl =>
      cases fl with
      | next => exact False.elim h
      | brk => exact False.elim h
      | cont => exact False.elim h
      | ret u =>
        obtain ⟨v, H', os, bare, un, hok', r', q⟩ := h
        have q' : v = .bl true := q
        subst q'
        obtain rfl : u = Value.bool true := r'
        refine ⟨rfl, OldK.of_keep fun b o e => ?_, os, bare⟩
        rcases hO b with z | ⟨ob, xs, z⟩
        · exact un.keep b o e z (by intro z; exact absurd (show b ∈ ([] : List Addr) from z) (by simp)) (by simp)
        · obtain ⟨e1, _⟩ := hok b _ z
          obtain ⟨e2, _⟩ := hok' b _ (un.frzs b ob _ z)
          rw [e] at e1
          cases e1
          exact e2
  cases hk : K.lookup a with
  | some o =>
    have e := KX a o hk
    rw [ha] at e
    cases e
    refine core (fun _ => none) (fun _ => none) (fun _ => .inl rfl) ⟨fun _ _ z => (by cases z), fun _ _ z => (by cases z), fun n o z => (by simp at z), fun _ _ _ z => (by cases z), fun _ _ z => (by cases z)⟩ ?_ (fun b u z => (by cases z)) fun b z => absurd rfl z
    simp only [Rv]
    exact ⟨a, rfl, .inr fun H => .inr ⟨_, vs.toArray, _, hk, rfl, rfl, rfl, by rw [List.size_toArray, lenV]; exact hl, by simpa using rv⟩⟩
  | none =>
    have hs : ∀ b u, (if b = a then some (HO.frz { cls := .type "list", data := .seq vs.toArray } (.lst (ns.map V.int))) else none) = some u → b = a ∧ u = HO.frz { cls := .type "list", data := .seq vs.toArray } (.lst (ns.map V.int)) := fun b u z => by
      by_cases hb : b = a
      · rw [if_pos hb] at z
        cases z
        exact ⟨hb, rfl⟩
      · rw [if_neg hb] at z
        cases z
    refine core (fun b => if b = a then some (.frz { cls := .type "list", data := .seq vs.toArray } (.lst (ns.map V.int))) else none) (fun b => if b = a then some (.fz (.frz { cls := .type "list", data := .seq vs.toArray } (.lst (ns.map V.int)))) else none) (fun b => ?_) ⟨fun b o z => ?_, fun b r z => ?_, fun n o z => (by simp at z), fun b c n z => ?_, fun b n z => ?_⟩ ?_ (fun b u z => ?_) (fun b z => ?_)
    · by_cases hb : b = a
      · exact .inr ⟨_, _, if_pos hb⟩
      · exact .inl (if_neg hb)
    · by_cases hb : b = a
      · rw [if_pos hb] at z
        cases z
        exact if_pos hb
      · rw [if_neg hb] at z
        cases z
    · by_cases hb : b = a
      · exact ⟨_, if_pos hb⟩
      · rw [if_neg hb] at z
        cases z
    · by_cases hb : b = a
      · rw [if_pos hb] at z
        cases z
      · rw [if_neg hb] at z
        cases z
    · by_cases hb : b = a
      · rw [if_pos hb] at z
        cases z
      · rw [if_neg hb] at z
        cases z
    · simp only [Rv]
      exact ⟨a, rfl, .inl ⟨_, if_pos rfl, .inr ⟨_, rfl⟩⟩⟩
    · obtain ⟨rfl, rfl⟩ := hs b u z
      exact ⟨ha, by rw [List.length_map]; exact hl, vs, _, rv, ha⟩
    · by_cases hb : b = a
      · exact ⟨hb, hk⟩
      · exact absurd (if_neg hb) z
theorem walk_G {l : PySem.W.OpenLaw} {n k : Nat} {q : Program} {loose : List Str} {XP : (Str → Option Value) → Heap → Prop} {d : DefRec} {rs : List Row} {gs : List GRow} {m : List Stmt} {f : Nat}
    (hn : l.most = some n) (hn2 : n ≤ sizeLine) (hdf : d.params.defaults = []) (hr : Room k callerA) (hname : (rowOf rs f).map (·.nm) = some d.name) (ok : okRows m rs gs = true)
    (pure_ : ∀ ns : List Int, ns.length ≤ n → ∃ sE, callN (prgOf rs gs) k f [.v (.scr ns)] [] = .ok (.v (.bl true)) sE) :
    PySem.W.WalkO q loose XP (He.hookD 4 (facts rs gs) (rs.map (Row.dd m))).says l.row.toRowW d [] (fun f vs => PySem.call f vs) := by
  refine Att.attach_call hn hdf fun w s₀ s₁ mg mb fa o pm cd doc a vs ns G Y ho hd hcd hmg hobj hints hlen hg => ?_
  obtain ⟨K, KX, c⟩ := Y
  obtain ⟨sE, hE⟩ := pure_ ns hlen
  refine law_callG KX G.T.g G.T.b G.T.builtins G.T.nolimit hg hobj hints (Nat.le_trans hlen hn2) hr (fun base hb hm => ?_) hE
  obtain ⟨r, er, en⟩ := Option.map_eq_some_iff.mp hname
  have T := tb_all (Pr := l.prog) (w := w) (base := base) KX G.T.g c ok k
  obtain ⟨a2, hm2, _, hF⟩ := T.call f (by show ((rowOf rs f).map _).isSome = true; rw [er]; rfl)
  have e1 : fnN rs f = d.name := by unfold fnN; rw [er]; exact en
  rw [e1, hmg] at hm2
  cases hm2
  exact hF
end Co
/-! PuA: runs of the interpreter, in plain Lean: what must hold ahead of a run. -/
namespace Co
open PySem
def WR {α : Type} (E : D → S → Prop) (P : α → S → Prop) : R α → Prop
  | .ok a s => P a s
  | .ex e s => E e s
  | .bad => False
structure Po where
  nx : Sl → S → Prop
  rt : X → S → Prop
  bk : Sl → S → Prop
  ct : Sl → S → Prop
  ex : D → Sl → S → Prop
def WS (O : Po) : SR → Prop
  | .nx sl s => O.nx sl s
  | .rt x s => O.rt x s
  | .bk sl s => O.bk sl s
  | .ct sl s => O.ct sl s
  | .ex e sl s => O.ex e sl s
  | .bad => False
def noE : D → S → Prop := fun _ _ => False
section
variable {α β : Type} {E E' : D → S → Prop} {P P' : α → S → Prop} {Q : β → S → Prop} {O : Po} {s : S} {sl : Sl}
theorem WR.imp {r : R α} (h : WR E P r) (i : ∀ a s, P a s → P' a s) : WR E P' r := by
  cases r with
  | ok a s => exact i a s h
  | ex e s => exact h
  | bad => exact h
theorem WR.impE {r : R α} (h : WR E P r) (i : ∀ a s, P a s → P' a s) (j : ∀ a s, E a s → E' a s) : WR E' P' r := by
  cases r with
  | ok a s => exact i a s h
  | ex e s => exact j e s h
  | bad => exact h
theorem WR.of {r : R α} {a : α} (e : r = .ok a s) (h : P a s) : WR E P r := by rw [e]; exact h
theorem WR.bind {r : R α} {f : α → S → R β} (h : WR E (fun a s => WR E Q (f a s)) r) : WR E Q (r.bind f) := by
  cases r with
  | ok a s => exact h
  | ex e s => exact h
  | bad => exact h
theorem WR.lift {o : Option α} {a : α} (e : o = some a) (h : P a s) : WR E P (R.lift s o) := by rw [e]; exact h
theorem WR.out {r : R α} (h : WR noE P r) : ∃ a s, r = .ok a s ∧ P a s := by
  cases r with
  | ok a s => exact ⟨a, s, rfl, h⟩
  | ex e s => exact h.elim
  | bad => exact h.elim
theorem WS.imp {O' : Po} {r : SR} (h : WS O r) (i1 : ∀ a s, O.nx a s → O'.nx a s) (i2 : ∀ a s, O.rt a s → O'.rt a s) (i3 : ∀ a s, O.bk a s → O'.bk a s) (i4 : ∀ a s, O.ct a s → O'.ct a s) (i5 : ∀ e a s, O.ex e a s → O'.ex e a s) : WS O' r := by
  cases r with
  | nx sl s => exact i1 _ _ h
  | rt x s => exact i2 _ _ h
  | bk sl s => exact i3 _ _ h
  | ct sl s => exact i4 _ _ h
  | ex e sl s => exact i5 _ _ _ h
  | bad => exact h
theorem WS.sr {r : R α} {f : α → S → SR} (h : WR (fun e s => O.ex e sl s) (fun a s => WS O (f a s)) r) : WS O (r.sr sl f) := by
  cases r with
  | ok a s => exact h
  | ex e s => exact h
  | bad => exact h
theorem WS.seq {r : SR} {f : Sl → S → SR} (h : WS { O with nx := fun sl s => WS O (f sl s) } r) : WS O (r.seq f) := by
  cases r with
  | nx sl s => exact h
  | rt x s => exact h
  | bk sl s => exact h
  | ct sl s => exact h
  | ex e sl s => exact h
  | bad => exact h
theorem WS.of {o : Option SR} {r : SR} (e : o = some r) (h : WS O r) : WS O (.of o) := by rw [e]; exact h
def rtP (P : X → S → Prop) : X → S → Prop := fun x s => match x with
  | .vw _ => False
  | x => P x s
theorem WS.fin {P : X → S → Prop} {r : SR} (h : WS ⟨fun _ s => P (.v .non) s, rtP P, fun _ _ => False, fun _ _ => False, fun e _ s => E e s⟩ r) : WR E P r.fin := by
  cases r with
  | nx sl s => exact h
  | rt x s =>
    cases x with
    | v d => exact h
    | vw ds => exact h
    | own ds => exact h
  | bk sl s => exact h
  | ct sl s => exact h
  | ex e sl s => exact h
  | bad => exact h
end
theorem call_eq {P : Prog} {n f : Nat} {fd : Fn} {xs : List X} {s : S} (h : P.tab f = some fd) (hl : xs.length = fd.ps.length) : callN P (n + 1) f xs s = (exSs P.G (callN P n) (startSl fd.N.length xs) fd.body s).fin := by
  simp only [callN, h, if_pos hl]
/-- a call, by its body -/
theorem w_fn {P : Prog} {n f : Nat} {fd : Fn} {xs : List X} {s : S} {E : D → S → Prop} {Q : X → S → Prop} (h : P.tab f = some fd) (hl : xs.length = fd.ps.length)
    (w : WS ⟨fun _ s => Q (.v .non) s, rtP Q, fun _ _ => False, fun _ _ => False, fun e _ s => E e s⟩ (exSs P.G (callN P n) (startSl fd.N.length xs) fd.body s)) : WR E Q (callN P (n + 1) f xs s) := by
  rw [call_eq h hl]
  exact w.fin
section
variable {G : Nat → Option D} {F : Fns} {sl : Sl} {s : S} {E : D → S → Prop} {P : X → S → Prop} {O : Po}
/-! ### expressions -/
theorem w_var {i : Nat} {x : X} (h : sl[i]? = some (some x)) (p : P x.rd s) : WR E P (ev G F sl (.var i) s) := by simp only [ev, h]; exact p
theorem w_cst {d : D} (p : P (.v d) s) : WR E P (ev G F sl (.cst d) s) := by simp only [ev]; exact p
theorem w_glob {i : Nat} {d : D} (h : G i = some d) (p : P (.v d) s) : WR E P (ev G F sl (.glob i) s) := by simp only [ev, h]; exact p
theorem w_nil {P : List X → S → Prop} (p : P [] s) : WR E P (evs G F sl [] s) := by simp only [evs]; exact p
theorem w_cons {P : List X → S → Prop} {c : Co.E} {cs : List Co.E} (p : WR E (fun x s => WR E (fun xs s => P (x.arg :: xs) s) (evs G F sl cs s)) (ev G F sl c s)) : WR E P (evs G F sl (c :: cs) s) := by
  simp only [evs]
  exact .bind (p.imp fun x s q => .bind q)
theorem w_tup {es : List Co.E} (p : WR E (fun xs s => ∃ ds, stoAll xs = some ds ∧ P (.v (.tup ds)) s) (evs G F sl es s)) : WR E P (ev G F sl (.tup es) s) := by
  simp only [ev]
  refine .bind (p.imp fun xs s ⟨ds, e, q⟩ => .lift ?_ q)
  rw [e]
  rfl
theorem w_lst {es : List Co.E} (p : WR E (fun xs s => ∃ ds, stoAll xs = some ds ∧ P (.own ds) s) (evs G F sl es s)) : WR E P (ev G F sl (.lst es) s) := by
  simp only [ev]
  refine .bind (p.imp fun xs s ⟨ds, e, q⟩ => .lift ?_ q)
  rw [e]
  rfl
theorem w_bin {op : BOp} {a b : Co.E} (p : WR E (fun x s => WR E (fun y s => ∃ z, binE op s x.arg y.arg = some z ∧ P z s) (ev G F sl b s)) (ev G F sl a s)) : WR E P (ev G F sl (.bin op a b) s) := by
  simp only [ev]
  exact .bind (p.imp fun x s q => .bind (q.imp fun y s ⟨z, e, q⟩ => .lift e q))
theorem w_neg {a : Co.E} (p : WR E (fun x s => ∃ i, asInt x.arg = some i ∧ P (.v (.int (-i))) s) (ev G F sl a s)) : WR E P (ev G F sl (.neg a) s) := by
  simp only [ev]
  refine .bind (p.imp fun x s ⟨i, e, q⟩ => .lift ?_ q)
  rw [e]
  rfl
theorem w_cmp {op : COp} {a b : Co.E} (p : WR E (fun x s => WR E (fun y s => ∃ k, cmpE op s x.arg y.arg = some k ∧ P (.v (.bl k)) s) (ev G F sl b s)) (ev G F sl a s)) : WR E P (ev G F sl (.cmp op a b) s) := by
  simp only [ev]
  refine .bind (p.imp fun x s q => .bind (q.imp fun y s ⟨z, e, q⟩ => .lift ?_ q))
  rw [e]
  rfl
theorem w_chain {o1 o2 : COp} {a b c : Co.E} (p : WR E (fun x s => WR E (fun y s => ∃ k, cmpE o1 s x.arg y.arg = some k ∧ ((k = false → P (.v (.bl false)) s) ∧ (k = true → WR E (fun z s => ∃ k, cmpE o2 s y.arg z.arg = some k ∧ P (.v (.bl k)) s) (ev G F sl c s)))) (ev G F sl b s)) (ev G F sl a s)) : WR E P (ev G F sl (.chain o1 o2 a b c) s) := by
  simp only [ev]
  refine .bind (p.imp fun x s q => .bind (q.imp fun y s ⟨k, e, q⟩ => .bind (.lift e ?_)))
  cases k with
  | false => exact q.1 rfl
  | true =>
    refine .bind ((q.2 rfl).imp fun z s ⟨k, e, q⟩ => .lift ?_ q)
    rw [e]
    rfl
theorem w_ands {es : List Co.E} (p : WR E P (evb G F sl false es s)) : WR E P (ev G F sl (.ands es) s) := by simp only [ev]; exact p
theorem w_ors {es : List Co.E} (p : WR E P (evb G F sl true es s)) : WR E P (ev G F sl (.ors es) s) := by simp only [ev]; exact p
theorem w_b1 {stop : Bool} {e : Co.E} (p : WR E (fun x s => P x.arg s) (ev G F sl e s)) : WR E P (evb G F sl stop [e] s) := by
  simp only [evb]
  exact .bind p
theorem w_b2 {stop : Bool} {e e' : Co.E} {es : List Co.E} (p : WR E (fun x s => ∃ k, truE s x.arg = some k ∧ ((k = stop → P x.arg s) ∧ (k ≠ stop → WR E P (evb G F sl stop (e' :: es) s)))) (ev G F sl e s)) : WR E P (evb G F sl stop (e :: e' :: es) s) := by
  rw [evb]
  refine .bind (p.imp fun x s ⟨k, e, q⟩ => .bind (.lift e ?_))
  by_cases h : k = stop
  · rw [if_pos h]; exact q.1 h
  · rw [if_neg h]; exact q.2 h
theorem w_not {a : Co.E} (p : WR E (fun x s => ∃ k, truE s x.arg = some k ∧ P (.v (.bl (!k))) s) (ev G F sl a s)) : WR E P (ev G F sl (.not a) s) := by
  simp only [ev]
  refine .bind (p.imp fun x s ⟨k, e, q⟩ => .lift ?_ q)
  rw [e]
  rfl
theorem w_ife {c a b : Co.E} (p : WR E (fun x s => ∃ k, truE s x.arg = some k ∧ ((k = true → WR E P (ev G F sl a s)) ∧ (k = false → WR E P (ev G F sl b s)))) (ev G F sl c s)) : WR E P (ev G F sl (.ife c a b) s) := by
  simp only [ev]
  refine .bind (p.imp fun x s ⟨k, e, q⟩ => .bind (.lift e ?_))
  cases k with
  | true => exact q.1 rfl
  | false => exact q.2 rfl
theorem w_call {f : Nat} {es : List Co.E} (p : WR E (fun xs s => WR E P (F f xs s)) (evs G F sl es s)) : WR E P (ev G F sl (.call f es) s) := by
  simp only [ev]
  exact .bind p
theorem w_bi {b : Bi} {es : List Co.E} (p : WR E (fun xs s => ∃ z, biE b s xs = some z ∧ P z s) (evs G F sl es s)) : WR E P (ev G F sl (.bi b es) s) := by
  simp only [ev]
  exact .bind (p.imp fun xs s ⟨z, e, q⟩ => .lift e q)
theorem w_isi {c : Ty} {a : Co.E} (p : WR E (fun x s => ∃ k, isiE c x.arg.d = some k ∧ P (.v (.bl k)) s) (ev G F sl a s)) : WR E P (ev G F sl (.isi c a) s) := by
  simp only [ev]
  refine .bind (p.imp fun x s ⟨k, e, q⟩ => .lift ?_ q)
  rw [e]
  rfl
theorem w_rng1 {a : Co.E} (p : WR E (fun x s => ∃ j, asInt x.arg = some j ∧ rOk j = true ∧ P (.own (rngD 0 j.toNat)) s) (ev G F sl a s)) : WR E P (ev G F sl (.rng1 a) s) := by
  simp only [ev]
  refine .bind (p.imp fun x s ⟨j, e, h, q⟩ => .lift ?_ q)
  rw [e]
  exact if_pos h
theorem w_rng2 {a b : Co.E} (p : WR E (fun x s => WR E (fun y s => ∃ i j, asInt x.arg = some i ∧ asInt y.arg = some j ∧ rOk i = true ∧ rOk j = true ∧ P (.own (rngD i (j - i).toNat)) s) (ev G F sl b s)) (ev G F sl a s)) : WR E P (ev G F sl (.rng2 a b) s) := by
  simp only [ev]
  refine .bind (p.imp fun x s q => .bind (q.imp fun y s ⟨i, j, e, e2, h, h2, q⟩ => .lift ?_ q))
  rw [e, e2]
  exact if_pos ⟨h, h2⟩
theorem w_sub {o i : Co.E} (p : WR E (fun x s => WR E (fun y s => ∃ z, subE s x.arg y.arg = some z ∧ P z s) (ev G F sl i s)) (ev G F sl o s)) : WR E P (ev G F sl (.sub o i) s) := by
  simp only [ev]
  exact .bind (p.imp fun x s q => .bind (q.imp fun y s ⟨z, e, q⟩ => .lift e q))
theorem w_onone {P : Option Int → S → Prop} (p : P none s) : WR E P (evo G F sl none s) := by simp only [evo]; exact p
theorem w_osome {P : Option Int → S → Prop} {c : Co.E} (p : WR E (fun x s => ∃ j, asInt x.arg = some j ∧ P (some j) s) (ev G F sl c s)) : WR E P (evo G F sl (some c) s) := by
  simp only [evo]
  refine .bind (p.imp fun x s ⟨j, e, q⟩ => .lift ?_ q)
  rw [e]
  rfl
theorem w_sli {o : Co.E} {lo hi : Option Co.E} (p : WR E (fun x s => WR E (fun l s => WR E (fun h s => ∃ z, sliE s x.arg l h = some z ∧ P z s) (evo G F sl hi s)) (evo G F sl lo s)) (ev G F sl o s)) : WR E P (ev G F sl (.sli o lo hi) s) := by
  simp only [ev]
  exact .bind (p.imp fun x s q => .bind (q.imp fun l s q => .bind (q.imp fun h s ⟨z, e, q⟩ => .lift e q)))
theorem w_allc {a : Co.E} (p : WR E (fun x s => ∃ ds bs, x.arg.d = .lst ds ∧ bools ds = some bs ∧ P (.v (.bl (bs.all id))) s) (ev G F sl a s)) : WR E P (ev G F sl (.allc a) s) := by
  simp only [ev]
  refine .bind (p.imp fun x s ⟨ds, bs, e, e2, q⟩ => ?_)
  rw [e]
  exact .lift (by rw [e2]; rfl) q
theorem w_newref {a : Co.E} (p : WR E (fun x s => ∃ ds, x = .own ds ∧ P (.v (.ref s.length)) (s ++ [.lst ds])) (ev G F sl a s)) : WR E P (ev G F sl (.newref a) s) := by
  simp only [ev]
  refine .bind (p.imp fun x s ⟨ds, e, q⟩ => ?_)
  subst e
  exact q
/-- a comprehension: the state's description J goes along, the items made stand in the description, too -/
def accO (acc : List D) : Option D → List D
  | some e => acc ++ [e]
  | none => acc
theorem lcLoop_w {f : D → S → R (Option D)} {P : List D → S → Prop} (J : Nat → List D → S → Prop) : ∀ (ds : List D) (i : Nat) (acc : List D) (s : S), J i acc s → (∀ j d acc s, ds[j]? = some d → J (i + j) acc s → WR noE (fun o s => J (i + j + 1) (accO acc o) s) (f d s)) →
    (∀ acc s, J (i + ds.length) acc s → P acc s) → WR noE (fun es s => P (acc ++ es) s) (lcLoop f ds s)
  | [], i, acc, s, h, _, e => by
    show P (acc ++ []) s
    rw [List.append_nil]
    exact e acc s h
  | d :: ds, i, acc, s, h, st, e => by
    simp only [lcLoop]
    refine .bind ((st 0 d acc s rfl h).imp fun o s1 h1 => .bind ?_)
    have ih := lcLoop_w (P := P) J ds (i + 1) (accO acc o) s1 h1 (fun j d acc s hd hj => by
      have q := st (j + 1) d acc s (by simpa using hd) (by rw [show i + (j + 1) = i + 1 + j by omega]; exact hj)
      rw [show i + (j + 1) + 1 = i + 1 + j + 1 by omega] at q
      exact q) (fun acc s hj => e acc s (by rw [List.length_cons, show i + (ds.length + 1) = i + 1 + ds.length by omega]; exact hj))
    refine ih.imp fun es s2 h2 => ?_
    cases o with
    | none => exact h2
    | some x =>
      have h3 : P (acc ++ [x] ++ es) s2 := h2
      rw [List.append_assoc] at h3
      exact h3
theorem noex_w {α : Type} {r : R α} {P : α → S → Prop} (h : WR noE P r) : WR E P r.noex := by
  obtain ⟨a, s, e, q⟩ := h.out
  rw [e]
  exact q
theorem w_lc {elt it : Co.E} {t : T} {ifs : List Co.E} (p : WR E (fun x s => ∃ ds, x.arg.fzItems = some ds ∧ WR noE (fun es s => P (.own es) s) (lcLoop (fun d s => match bindT t d s (wipeSl sl t.ixs) with
        | some sl' => (evi G F sl' ifs s).bind fun k s => if k = true then (ev G F sl' elt s).bind fun y s => R.lift s (y.sto.map some) else .ok none s
        | none => .bad) ds s)) (ev G F sl it s)) : WR E P (ev G F sl (.lc elt t it ifs) s) := by
  simp only [ev]
  refine .bind (p.imp fun x s ⟨ds, e, q⟩ => ?_)
  rw [e]
  exact .bind (noex_w q)
theorem w_i0 {P : Bool → S → Prop} (p : P true s) : WR E P (evi G F sl [] s) := by simp only [evi]; exact p
theorem w_i1 {P : Bool → S → Prop} {c : Co.E} (p : WR E (fun x s => ∃ k, truE s x.arg = some k ∧ P k s) (ev G F sl c s)) : WR E P (evi G F sl [c] s) := by
  simp only [evi]
  exact .bind (p.imp fun x s ⟨k, e, q⟩ => .lift e q)
/-! ### statements -/
theorem w_done (p : O.nx sl s) : WS O (exSs G F sl [] s) := by simp only [exSs]; exact p
theorem w_then {st : Sm} {r : List Sm} (p : WS { O with nx := fun sl s => WS O (exSs G F sl r s) } (exS G F sl st s)) : WS O (exSs G F sl (st :: r) s) := by
  simp only [exSs]
  exact .seq p
theorem w_expr {e : Co.E} (p : WR (fun e s => O.ex e sl s) (fun _ s => O.nx sl s) (ev G F sl e s)) : WS O (exS G F sl (.expr e) s) := by
  simp only [exS]
  exact .sr p
theorem w_asg {t : T} {e : Co.E} (p : WR (fun e s => O.ex e sl s) (fun x s => ∃ d sl', x.sto = some d ∧ bindT t d s sl = some sl' ∧ O.nx sl' s) (ev G F sl e s)) : WS O (exS G F sl (.asg t e) s) := by
  simp only [exS]
  refine .sr (p.imp fun x s ⟨d, sl', e, e2, q⟩ => ?_)
  rw [e]
  simp only [Option.bind_some, e2, Option.map_some]
  exact q
theorem w_asgN {i : Nat} {e : Co.E} (p : WR (fun e s => O.ex e sl s) (fun x s => ∃ d, x.sto = some d ∧ O.nx (sl.set i (some (.v d))) s) (ev G F sl e s)) : WS O (exS G F sl (.asg (.name i) e) s) :=
  w_asg (p.imp fun x s ⟨d, e, q⟩ => ⟨d, _, e, rfl, q⟩)
theorem w_own {i : Nat} {e : Co.E} (p : WR (fun e s => O.ex e sl s) (fun x s => ∃ ds, x = .own ds ∧ O.nx (sl.set i (some (.own ds))) s) (ev G F sl e s)) : WS O (exS G F sl (.asgOwn i e) s) := by
  simp only [exS]
  refine .sr (p.imp fun x s ⟨d, e, q⟩ => ?_)
  subst e
  exact q
theorem w_app {i : Nat} {e : Co.E} {ds : List D} (h : sl[i]? = some (some (.own ds))) (p : WR (fun e s => O.ex e sl s) (fun x s => ∃ d, x.sto = some d ∧ ds.length < sizeLine ∧ O.nx (sl.set i (some (.own (ds ++ [d])))) s) (ev G F sl e s)) : WS O (exS G F sl (.app i e) s) := by
  simp only [exS, h]
  refine .sr (p.imp fun x s ⟨d, e, z, q⟩ => ?_)
  rw [e]
  simp only [Option.bind_some, if_pos z]
  exact q
theorem w_insrt {i : Nat} {k e : Co.E} {ds : List D} (h : sl[i]? = some (some (.own ds))) (p : WR (fun e s => O.ex e sl s) (fun y s => WR (fun e s => O.ex e sl s) (fun x s => ∃ d j, asInt y.arg = some j ∧ x.sto = some d ∧ (ds.length < sizeLine ∧ 0 ≤ j ∧ small j = true) ∧ O.nx (sl.set i (some (.own (ds.take j.toNat ++ [d] ++ ds.drop j.toNat)))) s) (ev G F sl e s)) (ev G F sl k s)) : WS O (exS G F sl (.insrt i k e) s) := by
  simp only [exS, h]
  refine .sr (p.imp fun y s q => .sr (q.imp fun x s ⟨d, j, e1, e2, z, q⟩ => ?_))
  rw [e1, e2]
  simp only [Option.bind_some, if_pos z]
  exact q
theorem w_setItem {i : Nat} {k e : Co.E} {ds : List D} (h : sl[i]? = some (some (.own ds))) (p : WR (fun e s => O.ex e sl s) (fun x s => WR (fun e s => O.ex e sl s) (fun y s => ∃ d j m, x.sto = some d ∧ asInt y.arg = some j ∧ L2.ixN ds.length j = some m ∧ O.nx (sl.set i (some (.own (ds.set m d)))) s) (ev G F sl k s)) (ev G F sl e s)) : WS O (exS G F sl (.setItem i k e) s) := by
  simp only [exS, h]
  refine .sr (p.imp fun y s q => .sr (q.imp fun x s ⟨d, j, m, e1, e2, e3, q⟩ => ?_))
  rw [e1, e2]
  simp only [Option.bind_some, e3, Option.map_some]
  exact q
theorem w_refSet {o k e : Co.E} (p : WR (fun e s => O.ex e sl s) (fun x s => WR (fun e s => O.ex e sl s) (fun z s => WR (fun e s => O.ex e sl s) (fun y s => ∃ d j n ds m, x.sto = some d ∧ asInt y.arg = some j ∧ z = .v (.ref n) ∧ s[n]? = some (.lst ds) ∧ L2.ixN ds.length j = some m ∧ O.nx sl (s.set n (.lst (ds.set m d)))) (ev G F sl k s)) (ev G F sl o s)) (ev G F sl e s)) : WS O (exS G F sl (.refSet o k e) s) := by
  simp only [exS]
  refine .sr (p.imp fun x s q => .sr (q.imp fun z s q => .sr (q.imp fun y s q2 => ?_)))
  obtain ⟨d, j, n, ds, m, e1, e2, e3, e4, e5, q3⟩ := q2
  subst e3
  rw [e1, e2]
  simp only [Option.bind_some, e4, e5, Option.map_some]
  exact q3
theorem w_ret {e : Co.E} (p : WR (fun e s => O.ex e sl s) (fun x s => (∀ ds, x ≠ .vw ds) ∧ O.rt x s) (ev G F sl e s)) : WS O (exS G F sl (.ret e) s) := by
  simp only [exS]
  refine .sr (p.imp fun x s ⟨h, q⟩ => ?_)
  cases x with
  | v d => exact q
  | vw ds => exact absurd rfl (h ds)
  | own ds => exact q
theorem w_retP {e : Co.E} {Q : X → S → Prop} {N B C : Sl → S → Prop} {EE : D → Sl → S → Prop} (p : WR (fun e s => EE e sl s) (fun x s => (∀ ds, x ≠ .vw ds) ∧ Q x s) (ev G F sl e s)) : WS ⟨N, rtP Q, B, C, EE⟩ (exS G F sl (.ret e) s) := by
  refine w_ret (p.imp fun x s ⟨h, q⟩ => ⟨h, ?_⟩)
  cases x with
  | v d => exact q
  | vw ds => exact absurd rfl (h ds)
  | own ds => exact q
theorem w_retMv {i : Nat} {ds : List D} (h : sl[i]? = some (some (.own ds))) (p : O.rt (.own ds) s) : WS O (exS G F sl (.retMv i) s) := by simp only [exS, h]; exact p
theorem w_retN (p : O.rt (.v .non) s) : WS O (exS G F sl .retN s) := by simp only [exS]; exact p
theorem w_ifs {c : Co.E} {a b : List Sm} (p : WR (fun e s => O.ex e sl s) (fun x s => ∃ k, truE s x.arg = some k ∧ ((k = true → WS O (exSs G F sl a s)) ∧ (k = false → WS O (exSs G F sl b s)))) (ev G F sl c s)) : WS O (exS G F sl (.ifs c a b) s) := by
  simp only [exS]
  refine .sr (p.imp fun x s ⟨k, e, q⟩ => ?_)
  rw [e]
  cases k with
  | true => exact q.1 rfl
  | false => exact q.2 rfl
theorem w_brk (p : O.bk sl s) : WS O (exS G F sl .brk s) := by simp only [exS]; exact p
theorem w_cont (p : O.ct sl s) : WS O (exS G F sl .cont s) := by simp only [exS]; exact p
theorem w_pass (p : O.nx sl s) : WS O (exS G F sl .pass s) := by simp only [exS]; exact p
theorem w_toRef {i : Nat} {ds : List D} (h : sl[i]? = some (some (.own ds))) (p : O.nx (sl.set i (some (.v (.ref s.length)))) (s ++ [.lst ds])) : WS O (exS G F sl (.toRef i) s) := by simp only [exS, h]; exact p
/-- a for, by what holds ahead of each turn -/
theorem forLoop_w {O : Po} {b : D → Sl → S → SR} (J : Nat → Sl → S → Prop) : ∀ (ds : List D) (i : Nat) (sl : Sl) (s : S), J i sl s →
    (∀ j d sl s, ds[j]? = some d → J (i + j) sl s → WS { O with nx := J (i + j + 1), ct := J (i + j + 1), bk := O.nx } (b d sl s)) → (∀ sl s, J (i + ds.length) sl s → O.nx sl s) → WS O (forLoop b ds sl s)
  | [], i, sl, s, h, _, e => e sl s h
  | d :: ds, i, sl, s, h, st, e => by
    have q := st 0 d sl s rfl h
    have ih : ∀ sl s, J (i + 1) sl s → WS O (forLoop b ds sl s) := fun sl s h => forLoop_w (O := O) J ds (i + 1) sl s h (fun j d sl s hd hj => by
      have q := st (j + 1) d sl s (by simpa using hd) (by rw [show i + (j + 1) = i + 1 + j by omega]; exact hj)
      rw [show i + (j + 1) + 1 = i + 1 + j + 1 by omega] at q
      exact q) (fun sl s hj => e sl s (by rw [List.length_cons, show i + (ds.length + 1) = i + 1 + ds.length by omega]; exact hj))
    simp only [forLoop]
    revert q
    cases b d sl s with
    | nx sl s => exact fun q => ih sl s q
    | ct sl s => exact fun q => ih sl s q
    | bk sl s => exact fun q => q
    | rt x s => exact fun q => q
    | ex e sl s => exact fun q => q
    | bad => exact fun q => q
theorem w_for {t : T} {it : Co.E} {body : List Sm} (p : WR (fun e s => O.ex e sl s) (fun ds s => WS O (forLoop (fun d sl s => match bindT t d s sl with
    | some sl => exSs G F sl body s
    | none => .bad) ds sl s)) (itE G F sl it s)) : WS O (exS G F sl (.for_ t it body) s) := by
  simp only [exS]
  exact .sr p
/-- a for over a name -/
theorem w_forN {i : Nat} {it : Co.E} {body : List Sm} (p : WR (fun e s => O.ex e sl s) (fun ds s => ∃ J : Nat → Sl → S → Prop, J 0 sl s ∧ (∀ j d sl s, ds[j]? = some d → J j sl s → WS { O with nx := J (j + 1), ct := J (j + 1), bk := O.nx } (exSs G F (sl.set i (some (.v d))) body s)) ∧ ∀ sl s, J ds.length sl s → O.nx sl s) (itE G F sl it s)) : WS O (exS G F sl (.for_ (.name i) it body) s) := by
  refine w_for (p.imp fun ds s ⟨J, h0, h1, h2⟩ => ?_)
  refine forLoop_w J ds 0 sl s h0 (fun j d sl s hd hj => ?_) (fun sl s h => h2 sl s (by rw [Nat.zero_add] at h; exact h))
  rw [Nat.zero_add] at hj ⊢
  exact h1 j d sl s hd hj
theorem w_it {P : List D → S → Prop} {e : Co.E} (p : WR E (fun x s => (∀ ds, x ≠ .vw ds) ∧ ∃ ds, x.arg.fzItems = some ds ∧ P ds s) (ev G F sl e s)) : WR E P (itE G F sl e s) := by
  unfold itE
  refine .bind (p.imp fun x s ⟨h, ds, e, q⟩ => ?_)
  cases x with
  | v d => exact .lift e q
  | vw ds => exact absurd rfl (h ds)
  | own ds => exact .lift e q
theorem w_itV {P : List D → S → Prop} {i : Nat} {ds : List D} (h : sl[i]? = some (some (.vw ds))) (p : P ds s) : WR E P (itE G F sl (.var i) s) := by
  unfold itE
  simp only [ev, h]
  exact p
end
end Co
/-! PuU: the rules of PuA, sealed. -/
namespace Co
open PySem

/-! ### the same, behind closed doors (nothing is unfolded where a rule does not fit) -/
@[irreducible] def We (E : D → S → Prop) (P : X → S → Prop) (G : Nat → Option D) (F : Fns) (sl : Sl) (c : Co.E) (s : S) : Prop := WR E P (ev G F sl c s)
@[irreducible] def Wes (E : D → S → Prop) (P : List X → S → Prop) (G : Nat → Option D) (F : Fns) (sl : Sl) (c : List Co.E) (s : S) : Prop := WR E P (evs G F sl c s)
@[irreducible] def Wb (E : D → S → Prop) (P : X → S → Prop) (G : Nat → Option D) (F : Fns) (sl : Sl) (stop : Bool) (c : List Co.E) (s : S) : Prop := WR E P (evb G F sl stop c s)
@[irreducible] def Wi (E : D → S → Prop) (P : Bool → S → Prop) (G : Nat → Option D) (F : Fns) (sl : Sl) (c : List Co.E) (s : S) : Prop := WR E P (evi G F sl c s)
@[irreducible] def Wo (E : D → S → Prop) (P : Option Int → S → Prop) (G : Nat → Option D) (F : Fns) (sl : Sl) (c : Option Co.E) (s : S) : Prop := WR E P (evo G F sl c s)
@[irreducible] def Wit (E : D → S → Prop) (P : List D → S → Prop) (G : Nat → Option D) (F : Fns) (sl : Sl) (c : Co.E) (s : S) : Prop := WR E P (itE G F sl c s)
@[irreducible] def Wst (O : Po) (G : Nat → Option D) (F : Fns) (sl : Sl) (c : Sm) (s : S) : Prop := WS O (exS G F sl c s)
@[irreducible] def Wss (O : Po) (G : Nat → Option D) (F : Fns) (sl : Sl) (c : List Sm) (s : S) : Prop := WS O (exSs G F sl c s)
@[irreducible] def Bo (op : BOp) (s : S) (x y : X) (P : X → Prop) : Prop := ∃ z, binE op s x y = some z ∧ P z
@[irreducible] def Cm (op : COp) (s : S) (x y : X) (P : Bool → Prop) : Prop := ∃ z, cmpE op s x y = some z ∧ P z
@[irreducible] def Tr (s : S) (x : X) (P : Bool → Prop) : Prop := ∃ z, truE s x = some z ∧ P z
@[irreducible] def Bb (b : Bi) (s : S) (x : List X) (P : X → Prop) : Prop := ∃ z, biE b s x = some z ∧ P z
@[irreducible] def Su (s : S) (x y : X) (P : X → Prop) : Prop := ∃ z, subE s x y = some z ∧ P z
@[irreducible] def Sl2 (s : S) (x : X) (l h : Option Int) (P : X → Prop) : Prop := ∃ z, sliE s x l h = some z ∧ P z
@[irreducible] def Is (c : Ty) (d : D) (P : Bool → Prop) : Prop := ∃ z, isiE c d = some z ∧ P z
@[irreducible] def Ai (x : X) (P : Int → Prop) : Prop := ∃ z, asInt x = some z ∧ P z
@[irreducible] def Sa (x : List X) (P : List D → Prop) : Prop := ∃ z, stoAll x = some z ∧ P z
@[irreducible] def So (x : X) (P : D → Prop) : Prop := ∃ z, x.sto = some z ∧ P z
@[irreducible] def Ow (x : X) (P : List D → Prop) : Prop := ∃ z, x = .own z ∧ P z
@[irreducible] def Stt (sl : Sl) (i : Nat) (x : Option X) (P : Sl → Prop) : Prop := P (sl.set i x)
@[irreducible] def Bn (is : List Nat) (ds : List D) (sl : Sl) (P : Sl → Prop) : Prop := ∃ sl', bindNames is ds sl = some sl' ∧ P sl'
@[irreducible] def Nv (x : X) (P : Prop) : Prop := (∀ ds, x ≠ .vw ds) ∧ P

theorem bindNames_len : ∀ {is : List Nat} {ds : List D} {sl sl' : Sl}, bindNames is ds sl = some sl' → ds.length = is.length
  | [], [], _, _, _ => rfl
  | _ :: is, _ :: ds, _, _, h => by rw [List.length_cons, List.length_cons, bindNames_len (is := is) (ds := ds) h]
  | [], _ :: _, _, _, h => by cases h
  | _ :: _, [], _, _, h => by cases h
section
variable {G : Nat → Option D} {F : Fns} {sl : Sl} {s : S} {E : D → S → Prop} {P : X → S → Prop} {O : Po}
theorem u_var {i : Nat} {x : X} (h : sl[i]? = some (some x)) (p : P x.rd s) : We E P G F sl (.var i) s := by
  simp only [We, Wes, Wb, Wi, Wo, Wit, Wst, Wss, Bo, Cm, Tr, Bb, Su, Sl2, Is, Ai, Sa, So, Ow, Nv, Stt, Bn] at *
  exact w_var h p
theorem u_cst {d : D} (p : P (.v d) s) : We E P G F sl (.cst d) s := by
  simp only [We, Wes, Wb, Wi, Wo, Wit, Wst, Wss, Bo, Cm, Tr, Bb, Su, Sl2, Is, Ai, Sa, So, Ow, Nv, Stt, Bn] at *
  exact w_cst p
theorem u_glob {i : Nat} {d : D} (h : G i = some d) (p : P (.v d) s) : We E P G F sl (.glob i) s := by
  simp only [We, Wes, Wb, Wi, Wo, Wit, Wst, Wss, Bo, Cm, Tr, Bb, Su, Sl2, Is, Ai, Sa, So, Ow, Nv, Stt, Bn] at *
  exact w_glob h p
theorem u_nil {P : List X → S → Prop} (p : P [] s) : Wes E P G F sl [] s := by
  simp only [We, Wes, Wb, Wi, Wo, Wit, Wst, Wss, Bo, Cm, Tr, Bb, Su, Sl2, Is, Ai, Sa, So, Ow, Nv, Stt, Bn] at *
  exact w_nil p
theorem u_cons {P : List X → S → Prop} {c : Co.E} {cs : List Co.E} (p : We E (fun x s => Wes E (fun xs s => P (x.arg :: xs) s) G F sl cs s) G F sl c s) : Wes E P G F sl (c :: cs) s := by
  simp only [We, Wes, Wb, Wi, Wo, Wit, Wst, Wss, Bo, Cm, Tr, Bb, Su, Sl2, Is, Ai, Sa, So, Ow, Nv, Stt, Bn] at *
  exact w_cons p
theorem u_tup {es : List Co.E} (p : Wes E (fun xs s => Sa xs fun ds => P (.v (.tup ds)) s) G F sl es s) : We E P G F sl (.tup es) s := by
  simp only [We, Wes, Wb, Wi, Wo, Wit, Wst, Wss, Bo, Cm, Tr, Bb, Su, Sl2, Is, Ai, Sa, So, Ow, Nv, Stt, Bn] at *
  exact w_tup p
theorem u_lst {es : List Co.E} (p : Wes E (fun xs s => Sa xs fun ds => P (.own ds) s) G F sl es s) : We E P G F sl (.lst es) s := by
  simp only [We, Wes, Wb, Wi, Wo, Wit, Wst, Wss, Bo, Cm, Tr, Bb, Su, Sl2, Is, Ai, Sa, So, Ow, Nv, Stt, Bn] at *
  exact w_lst p
theorem u_bin {op : BOp} {a b : Co.E} (p : We E (fun x s => We E (fun y s => Bo op s x.arg y.arg fun z => P z s) G F sl b s) G F sl a s) : We E P G F sl (.bin op a b) s := by
  simp only [We, Wes, Wb, Wi, Wo, Wit, Wst, Wss, Bo, Cm, Tr, Bb, Su, Sl2, Is, Ai, Sa, So, Ow, Nv, Stt, Bn] at *
  exact w_bin p
theorem u_neg {a : Co.E} (p : We E (fun x s => Ai x.arg fun i => P (.v (.int (-i))) s) G F sl a s) : We E P G F sl (.neg a) s := by
  simp only [We, Wes, Wb, Wi, Wo, Wit, Wst, Wss, Bo, Cm, Tr, Bb, Su, Sl2, Is, Ai, Sa, So, Ow, Nv, Stt, Bn] at *
  exact w_neg p
theorem u_cmp {op : COp} {a b : Co.E} (p : We E (fun x s => We E (fun y s => Cm op s x.arg y.arg fun k => P (.v (.bl k)) s) G F sl b s) G F sl a s) : We E P G F sl (.cmp op a b) s := by
  simp only [We, Wes, Wb, Wi, Wo, Wit, Wst, Wss, Bo, Cm, Tr, Bb, Su, Sl2, Is, Ai, Sa, So, Ow, Nv, Stt, Bn] at *
  exact w_cmp p
theorem u_chain {o1 o2 : COp} {a b c : Co.E} (p : We E (fun x s => We E (fun y s => Cm o1 s x.arg y.arg fun k => (k = false → P (.v (.bl false)) s) ∧ (k = true → We E (fun z s => Cm o2 s y.arg z.arg fun k => P (.v (.bl k)) s) G F sl c s)) G F sl b s) G F sl a s) : We E P G F sl (.chain o1 o2 a b c) s := by
  simp only [We, Wes, Wb, Wi, Wo, Wit, Wst, Wss, Bo, Cm, Tr, Bb, Su, Sl2, Is, Ai, Sa, So, Ow, Nv, Stt, Bn] at *
  exact w_chain p
theorem u_ands {es : List Co.E} (p : Wb E P G F sl false es s) : We E P G F sl (.ands es) s := by
  simp only [We, Wes, Wb, Wi, Wo, Wit, Wst, Wss, Bo, Cm, Tr, Bb, Su, Sl2, Is, Ai, Sa, So, Ow, Nv, Stt, Bn] at *
  exact w_ands p
theorem u_ors {es : List Co.E} (p : Wb E P G F sl true es s) : We E P G F sl (.ors es) s := by
  simp only [We, Wes, Wb, Wi, Wo, Wit, Wst, Wss, Bo, Cm, Tr, Bb, Su, Sl2, Is, Ai, Sa, So, Ow, Nv, Stt, Bn] at *
  exact w_ors p
theorem u_b1 {stop : Bool} {e : Co.E} (p : We E (fun x s => P x.arg s) G F sl e s) : Wb E P G F sl stop [e] s := by
  simp only [We, Wes, Wb, Wi, Wo, Wit, Wst, Wss, Bo, Cm, Tr, Bb, Su, Sl2, Is, Ai, Sa, So, Ow, Nv, Stt, Bn] at *
  exact w_b1 p
theorem u_b2 {stop : Bool} {e e' : Co.E} {es : List Co.E} (p : We E (fun x s => Tr s x.arg fun k => (k = stop → P x.arg s) ∧ (k ≠ stop → Wb E P G F sl stop (e' :: es) s)) G F sl e s) : Wb E P G F sl stop (e :: e' :: es) s := by
  simp only [We, Wes, Wb, Wi, Wo, Wit, Wst, Wss, Bo, Cm, Tr, Bb, Su, Sl2, Is, Ai, Sa, So, Ow, Nv, Stt, Bn] at *
  exact w_b2 p
theorem u_not {a : Co.E} (p : We E (fun x s => Tr s x.arg fun k => P (.v (.bl (!k))) s) G F sl a s) : We E P G F sl (.not a) s := by
  simp only [We, Wes, Wb, Wi, Wo, Wit, Wst, Wss, Bo, Cm, Tr, Bb, Su, Sl2, Is, Ai, Sa, So, Ow, Nv, Stt, Bn] at *
  exact w_not p
theorem u_ife {c a b : Co.E} (p : We E (fun x s => Tr s x.arg fun k => (k = true → We E P G F sl a s) ∧ (k = false → We E P G F sl b s)) G F sl c s) : We E P G F sl (.ife c a b) s := by
  simp only [We, Wes, Wb, Wi, Wo, Wit, Wst, Wss, Bo, Cm, Tr, Bb, Su, Sl2, Is, Ai, Sa, So, Ow, Nv, Stt, Bn] at *
  exact w_ife p
theorem u_call {f : Nat} {es : List Co.E} (p : Wes E (fun xs s => WR E P (F f xs s)) G F sl es s) : We E P G F sl (.call f es) s := by
  simp only [We, Wes, Wb, Wi, Wo, Wit, Wst, Wss, Bo, Cm, Tr, Bb, Su, Sl2, Is, Ai, Sa, So, Ow, Nv, Stt, Bn] at *
  exact w_call p
theorem u_bi {b : Bi} {es : List Co.E} (p : Wes E (fun xs s => Bb b s xs fun z => P z s) G F sl es s) : We E P G F sl (.bi b es) s := by
  simp only [We, Wes, Wb, Wi, Wo, Wit, Wst, Wss, Bo, Cm, Tr, Bb, Su, Sl2, Is, Ai, Sa, So, Ow, Nv, Stt, Bn] at *
  exact w_bi p
theorem u_isi {c : Ty} {a : Co.E} (p : We E (fun x s => Is c x.arg.d fun k => P (.v (.bl k)) s) G F sl a s) : We E P G F sl (.isi c a) s := by
  simp only [We, Wes, Wb, Wi, Wo, Wit, Wst, Wss, Bo, Cm, Tr, Bb, Su, Sl2, Is, Ai, Sa, So, Ow, Nv, Stt, Bn] at *
  exact w_isi p
theorem u_rng1 {a : Co.E} (p : We E (fun x s => Ai x.arg fun j => rOk j = true ∧ P (.own (rngD 0 j.toNat)) s) G F sl a s) : We E P G F sl (.rng1 a) s := by
  simp only [We, Wes, Wb, Wi, Wo, Wit, Wst, Wss, Bo, Cm, Tr, Bb, Su, Sl2, Is, Ai, Sa, So, Ow, Nv, Stt, Bn] at *
  exact w_rng1 p
theorem u_rng2 {a b : Co.E} (p : We E (fun x s => We E (fun y s => Ai x.arg fun i => Ai y.arg fun j => rOk i = true ∧ rOk j = true ∧ P (.own (rngD i (j - i).toNat)) s) G F sl b s) G F sl a s) : We E P G F sl (.rng2 a b) s := by
  simp only [We, Wes, Wb, Wi, Wo, Wit, Wst, Wss, Bo, Cm, Tr, Bb, Su, Sl2, Is, Ai, Sa, So, Ow, Nv, Stt, Bn] at *
  exact w_rng2 (p.imp fun x s q => q.imp fun y s ⟨i, e, j, e2, h⟩ => ⟨i, j, e, e2, h⟩)
theorem u_sub {o i : Co.E} (p : We E (fun x s => We E (fun y s => Su s x.arg y.arg fun z => P z s) G F sl i s) G F sl o s) : We E P G F sl (.sub o i) s := by
  simp only [We, Wes, Wb, Wi, Wo, Wit, Wst, Wss, Bo, Cm, Tr, Bb, Su, Sl2, Is, Ai, Sa, So, Ow, Nv, Stt, Bn] at *
  exact w_sub p
theorem u_onone {P : Option Int → S → Prop} (p : P none s) : Wo E P G F sl none s := by
  simp only [We, Wes, Wb, Wi, Wo, Wit, Wst, Wss, Bo, Cm, Tr, Bb, Su, Sl2, Is, Ai, Sa, So, Ow, Nv, Stt, Bn] at *
  exact w_onone p
theorem u_osome {P : Option Int → S → Prop} {c : Co.E} (p : We E (fun x s => Ai x.arg fun j => P (some j) s) G F sl c s) : Wo E P G F sl (some c) s := by
  simp only [We, Wes, Wb, Wi, Wo, Wit, Wst, Wss, Bo, Cm, Tr, Bb, Su, Sl2, Is, Ai, Sa, So, Ow, Nv, Stt, Bn] at *
  exact w_osome p
theorem u_sli {o : Co.E} {lo hi : Option Co.E} (p : We E (fun x s => Wo E (fun l s => Wo E (fun h s => Sl2 s x.arg l h fun z => P z s) G F sl hi s) G F sl lo s) G F sl o s) : We E P G F sl (.sli o lo hi) s := by
  simp only [We, Wes, Wb, Wi, Wo, Wit, Wst, Wss, Bo, Cm, Tr, Bb, Su, Sl2, Is, Ai, Sa, So, Ow, Nv, Stt, Bn] at *
  exact w_sli p
theorem u_allc {a : Co.E} (p : We E (fun x s => ∃ ds bs, x.arg.d = .lst ds ∧ bools ds = some bs ∧ P (.v (.bl (bs.all id))) s) G F sl a s) : We E P G F sl (.allc a) s := by
  simp only [We, Wes, Wb, Wi, Wo, Wit, Wst, Wss, Bo, Cm, Tr, Bb, Su, Sl2, Is, Ai, Sa, So, Ow, Nv, Stt, Bn] at *
  exact w_allc p
theorem u_newref {a : Co.E} (p : We E (fun x s => Ow x fun ds => P (.v (.ref s.length)) (s ++ [.lst ds])) G F sl a s) : We E P G F sl (.newref a) s := by
  simp only [We, Wes, Wb, Wi, Wo, Wit, Wst, Wss, Bo, Cm, Tr, Bb, Su, Sl2, Is, Ai, Sa, So, Ow, Nv, Stt, Bn] at *
  exact w_newref p
/-- a comprehension over one name, its test and its item: J i acc s ahead of the i-th turn -/
theorem u_lcN {elt it : Co.E} {v : Nat} {ifs : List Co.E} (p : We E (fun x s => ∃ ds, x.arg.fzItems = some ds ∧ ∃ J : Nat → List D → S → Prop, J 0 [] s ∧ (∀ j d acc s, ds[j]? = some d → J j acc s → Stt sl v (some (.v d)) fun sl => Wi noE (fun k s => (k = true → We noE (fun y s => So y fun e => J (j + 1) (acc ++ [e]) s) G F sl elt s) ∧ (k = false → J (j + 1) acc s)) G F sl ifs s) ∧
    ∀ acc s, J ds.length acc s → P (.own acc) s) G F sl it s) : We E P G F sl (.lc elt (.name v) it ifs) s := by
  simp only [We, Wi, So, Stt] at *
  refine w_lc (p.imp fun x s ⟨ds, e, J, h0, h1, h2⟩ => ⟨ds, e, ?_⟩)
  have q := lcLoop_w (f := fun d s => match bindT (.name v) d s (wipeSl sl [v]) with
        | some sl' => (evi G F sl' ifs s).bind fun k s => if k = true then (ev G F sl' elt s).bind fun y s => R.lift s (y.sto.map some) else .ok none s
        | none => .bad) (P := fun es s => P (.own es) s) J ds 0 [] s h0 (fun j d acc s hd hj => by
    rw [Nat.zero_add] at hj ⊢
    have h1' := h1 j d acc s hd hj
    have e0 : (wipeSl sl [v]).set v (some (.v d)) = sl.set v (some (.v d)) := by show (sl.set v none).set v _ = _; rw [List.set_set]
    rw [← e0] at h1'
    refine .bind (h1'.imp fun k s ⟨q1, q2⟩ => ?_)
    cases k with
    | true =>
      refine .bind ((q1 rfl).imp fun y s ⟨e, e2, q⟩ => .lift (a := some e) ?_ q)
      rw [e2]
      rfl
    | false => exact q2 rfl) (fun acc s hj => h2 acc s (by rw [Nat.zero_add] at hj; exact hj))
  exact q
theorem u_i0 {P : Bool → S → Prop} (p : P true s) : Wi E P G F sl [] s := by
  simp only [We, Wes, Wb, Wi, Wo, Wit, Wst, Wss, Bo, Cm, Tr, Bb, Su, Sl2, Is, Ai, Sa, So, Ow, Nv, Stt, Bn] at *
  exact w_i0 p
theorem u_i1 {P : Bool → S → Prop} {c : Co.E} (p : We E (fun x s => Tr s x.arg fun k => P k s) G F sl c s) : Wi E P G F sl [c] s := by
  simp only [We, Wes, Wb, Wi, Wo, Wit, Wst, Wss, Bo, Cm, Tr, Bb, Su, Sl2, Is, Ai, Sa, So, Ow, Nv, Stt, Bn] at *
  exact w_i1 p
theorem u_done (p : O.nx sl s) : Wss O G F sl [] s := by
  simp only [We, Wes, Wb, Wi, Wo, Wit, Wst, Wss, Bo, Cm, Tr, Bb, Su, Sl2, Is, Ai, Sa, So, Ow, Nv, Stt, Bn] at *
  exact w_done p
theorem u_then {st : Sm} {r : List Sm} (p : Wst { O with nx := fun sl s => Wss O G F sl r s } G F sl st s) : Wss O G F sl (st :: r) s := by
  simp only [We, Wes, Wb, Wi, Wo, Wit, Wst, Wss, Bo, Cm, Tr, Bb, Su, Sl2, Is, Ai, Sa, So, Ow, Nv, Stt, Bn] at *
  exact w_then p
theorem u_expr {e : Co.E} (p : We (fun e s => O.ex e sl s) (fun _ s => O.nx sl s) G F sl e s) : Wst O G F sl (.expr e) s := by
  simp only [We, Wes, Wb, Wi, Wo, Wit, Wst, Wss, Bo, Cm, Tr, Bb, Su, Sl2, Is, Ai, Sa, So, Ow, Nv, Stt, Bn] at *
  exact w_expr p
theorem u_asgN {i : Nat} {e : Co.E} (p : We (fun e s => O.ex e sl s) (fun x s => So x fun d => Stt sl i (some (.v d)) fun sl => O.nx sl s) G F sl e s) : Wst O G F sl (.asg (.name i) e) s := by
  simp only [We, Wes, Wb, Wi, Wo, Wit, Wst, Wss, Bo, Cm, Tr, Bb, Su, Sl2, Is, Ai, Sa, So, Ow, Nv, Stt, Bn] at *
  exact w_asgN p
theorem u_asgT {is : List Nat} {e : Co.E} (p : We (fun e s => O.ex e sl s) (fun x s => So x fun d => ∃ ds, (X.v d).items s = some ds ∧ Bn is ds sl fun sl => O.nx sl s) G F sl e s) : Wst O G F sl (.asg (.tup is) e) s := by
  simp only [We, Wes, Wb, Wi, Wo, Wit, Wst, Wss, Bo, Cm, Tr, Bb, Su, Sl2, Is, Ai, Sa, So, Ow, Nv, Stt, Bn] at *
  exact w_asg (p.imp fun x s ⟨d, e, ds, e2, sl', e3, q⟩ => ⟨d, sl', e, by have hl := bindNames_len e3; simp only [bindT, e2, if_pos hl]; exact e3, q⟩)
theorem u_own {i : Nat} {e : Co.E} (p : We (fun e s => O.ex e sl s) (fun x s => Ow x fun ds => Stt sl i (some (.own ds)) fun sl => O.nx sl s) G F sl e s) : Wst O G F sl (.asgOwn i e) s := by
  simp only [We, Wes, Wb, Wi, Wo, Wit, Wst, Wss, Bo, Cm, Tr, Bb, Su, Sl2, Is, Ai, Sa, So, Ow, Nv, Stt, Bn] at *
  exact w_own p
theorem u_app {i : Nat} {e : Co.E} {ds : List D} (h : sl[i]? = some (some (.own ds))) (p : We (fun e s => O.ex e sl s) (fun x s => So x fun d => ds.length < sizeLine ∧ Stt sl i (some (.own (ds ++ [d]))) fun sl => O.nx sl s) G F sl e s) : Wst O G F sl (.app i e) s := by
  simp only [We, Wes, Wb, Wi, Wo, Wit, Wst, Wss, Bo, Cm, Tr, Bb, Su, Sl2, Is, Ai, Sa, So, Ow, Nv, Stt, Bn] at *
  exact w_app h p
theorem u_insrt {i : Nat} {k e : Co.E} {ds : List D} (h : sl[i]? = some (some (.own ds))) (p : We (fun e s => O.ex e sl s) (fun y s => We (fun e s => O.ex e sl s) (fun x s => Ai y.arg fun j => So x fun d => (ds.length < sizeLine ∧ 0 ≤ j ∧ small j = true) ∧ Stt sl i (some (.own (ds.take j.toNat ++ [d] ++ ds.drop j.toNat))) fun sl => O.nx sl s) G F sl e s) G F sl k s) : Wst O G F sl (.insrt i k e) s := by
  simp only [We, Wes, Wb, Wi, Wo, Wit, Wst, Wss, Bo, Cm, Tr, Bb, Su, Sl2, Is, Ai, Sa, So, Ow, Nv, Stt, Bn] at *
  exact w_insrt h (p.imp fun x s q => q.imp fun y s ⟨j, e, d, e2, h⟩ => ⟨d, j, e, e2, h⟩)
theorem u_setItem {i : Nat} {k e : Co.E} {ds : List D} (h : sl[i]? = some (some (.own ds))) (p : We (fun e s => O.ex e sl s) (fun x s => We (fun e s => O.ex e sl s) (fun y s => So x fun d => Ai y.arg fun j => ∃ m, L2.ixN ds.length j = some m ∧ Stt sl i (some (.own (ds.set m d))) fun sl => O.nx sl s) G F sl k s) G F sl e s) : Wst O G F sl (.setItem i k e) s := by
  simp only [We, Wes, Wb, Wi, Wo, Wit, Wst, Wss, Bo, Cm, Tr, Bb, Su, Sl2, Is, Ai, Sa, So, Ow, Nv, Stt, Bn] at *
  exact w_setItem h (p.imp fun x s q => q.imp fun y s ⟨d, e, j, e2, m, h⟩ => ⟨d, j, m, e, e2, h⟩)
theorem u_refSet {o k e : Co.E} (p : We (fun e s => O.ex e sl s) (fun x s => We (fun e s => O.ex e sl s) (fun z s => We (fun e s => O.ex e sl s) (fun y s => So x fun d => Ai y.arg fun j => ∃ n ds m, z = .v (.ref n) ∧ s[n]? = some (.lst ds) ∧ L2.ixN ds.length j = some m ∧ O.nx sl (s.set n (.lst (ds.set m d)))) G F sl k s) G F sl o s) G F sl e s) : Wst O G F sl (.refSet o k e) s := by
  simp only [We, Wes, Wb, Wi, Wo, Wit, Wst, Wss, Bo, Cm, Tr, Bb, Su, Sl2, Is, Ai, Sa, So, Ow, Nv, Stt, Bn] at *
  exact w_refSet (p.imp fun x s q => q.imp fun z s q => q.imp fun y s ⟨d, e1, j, e2, n, ds, m, e3, e4, e5, q⟩ => ⟨d, j, n, ds, m, e1, e2, e3, e4, e5, q⟩)
theorem u_ret {e : Co.E} {Q : X → S → Prop} {N B C : Sl → S → Prop} {EE : D → Sl → S → Prop} (p : We (fun e s => EE e sl s) (fun x s => Nv x (Q x s)) G F sl e s) : Wst ⟨N, rtP Q, B, C, EE⟩ G F sl (.ret e) s := by
  simp only [We, Wes, Wb, Wi, Wo, Wit, Wst, Wss, Bo, Cm, Tr, Bb, Su, Sl2, Is, Ai, Sa, So, Ow, Nv, Stt, Bn] at *
  exact w_retP p
theorem u_retMv {i : Nat} {ds : List D} (h : sl[i]? = some (some (.own ds))) (p : O.rt (.own ds) s) : Wst O G F sl (.retMv i) s := by
  simp only [We, Wes, Wb, Wi, Wo, Wit, Wst, Wss, Bo, Cm, Tr, Bb, Su, Sl2, Is, Ai, Sa, So, Ow, Nv, Stt, Bn] at *
  exact w_retMv h p
theorem u_retN (p : O.rt (.v .non) s) : Wst O G F sl .retN s := by
  simp only [We, Wes, Wb, Wi, Wo, Wit, Wst, Wss, Bo, Cm, Tr, Bb, Su, Sl2, Is, Ai, Sa, So, Ow, Nv, Stt, Bn] at *
  exact w_retN p
theorem u_ifs {c : Co.E} {a b : List Sm} (p : We (fun e s => O.ex e sl s) (fun x s => Tr s x.arg fun k => (k = true → Wss O G F sl a s) ∧ (k = false → Wss O G F sl b s)) G F sl c s) : Wst O G F sl (.ifs c a b) s := by
  simp only [We, Wes, Wb, Wi, Wo, Wit, Wst, Wss, Bo, Cm, Tr, Bb, Su, Sl2, Is, Ai, Sa, So, Ow, Nv, Stt, Bn] at *
  exact w_ifs p
theorem u_brk (p : O.bk sl s) : Wst O G F sl .brk s := by
  simp only [We, Wes, Wb, Wi, Wo, Wit, Wst, Wss, Bo, Cm, Tr, Bb, Su, Sl2, Is, Ai, Sa, So, Ow, Nv, Stt, Bn] at *
  exact w_brk p
theorem u_cont (p : O.ct sl s) : Wst O G F sl .cont s := by
  simp only [We, Wes, Wb, Wi, Wo, Wit, Wst, Wss, Bo, Cm, Tr, Bb, Su, Sl2, Is, Ai, Sa, So, Ow, Nv, Stt, Bn] at *
  exact w_cont p
theorem u_pass (p : O.nx sl s) : Wst O G F sl .pass s := by
  simp only [We, Wes, Wb, Wi, Wo, Wit, Wst, Wss, Bo, Cm, Tr, Bb, Su, Sl2, Is, Ai, Sa, So, Ow, Nv, Stt, Bn] at *
  exact w_pass p
theorem u_toRef {i : Nat} {ds : List D} (h : sl[i]? = some (some (.own ds))) (p : Stt sl i (some (.v (.ref s.length))) fun sl => O.nx sl (s ++ [.lst ds])) : Wst O G F sl (.toRef i) s := by
  simp only [We, Wes, Wb, Wi, Wo, Wit, Wst, Wss, Bo, Cm, Tr, Bb, Su, Sl2, Is, Ai, Sa, So, Ow, Nv, Stt, Bn] at *
  exact w_toRef h p
theorem u_forN {i : Nat} {it : Co.E} {body : List Sm} (p : Wit (fun e s => O.ex e sl s) (fun ds s => ∃ J : Nat → Sl → S → Prop, J 0 sl s ∧ (∀ j d sl s, ds[j]? = some d → J j sl s → Stt sl i (some (.v d)) fun sl => Wss { O with nx := J (j + 1), ct := J (j + 1), bk := O.nx } G F sl body s) ∧ ∀ sl s, J ds.length sl s → O.nx sl s) G F sl it s) : Wst O G F sl (.for_ (.name i) it body) s := by
  simp only [We, Wes, Wb, Wi, Wo, Wit, Wst, Wss, Bo, Cm, Tr, Bb, Su, Sl2, Is, Ai, Sa, So, Ow, Nv, Stt, Bn] at *
  exact w_forN p
theorem u_it {P : List D → S → Prop} {e : Co.E} (p : We E (fun x s => Nv x (∃ ds, x.arg.fzItems = some ds ∧ P ds s)) G F sl e s) : Wit E P G F sl e s := by
  simp only [We, Wes, Wb, Wi, Wo, Wit, Wst, Wss, Bo, Cm, Tr, Bb, Su, Sl2, Is, Ai, Sa, So, Ow, Nv, Stt, Bn] at *
  exact w_it p
theorem u_itV {P : List D → S → Prop} {i : Nat} {ds : List D} (h : sl[i]? = some (some (.vw ds))) (p : P ds s) : Wit E P G F sl (.var i) s := by
  simp only [We, Wes, Wb, Wi, Wo, Wit, Wst, Wss, Bo, Cm, Tr, Bb, Su, Sl2, Is, Ai, Sa, So, Ow, Nv, Stt, Bn] at *
  exact w_itV h p
theorem u_fn {P : Prog} {n f : Nat} {fd : Fn} {xs : List X} {s : S} {E : D → S → Prop} {Q : X → S → Prop} (h : P.tab f = some fd) (hl : xs.length = fd.ps.length)
    (w : Wss ⟨fun _ s => Q (.v .non) s, rtP Q, fun _ _ => False, fun _ _ => False, fun e _ s => E e s⟩ P.G (callN P n) (startSl fd.N.length xs) fd.body s) : WR E Q (callN P (n + 1) f xs s) := by
  unfold Wss at w
  exact w_fn h hl w
/-! ### operations: by what they answer -/
theorem a_bin {op : BOp} {x y z : X} {P : X → Prop} (e : binE op s x y = some z) (p : P z) : Bo op s x y P := by unfold Bo; exact ⟨z, e, p⟩
theorem a_cmp {op : COp} {x y : X} {z : Bool} {P : Bool → Prop} (e : cmpE op s x y = some z) (p : P z) : Cm op s x y P := by unfold Cm; exact ⟨z, e, p⟩
theorem a_tru {x : X} {z : Bool} {P : Bool → Prop} (e : truE s x = some z) (p : P z) : Tr s x P := by unfold Tr; exact ⟨z, e, p⟩
theorem a_bi {b : Bi} {x : List X} {z : X} {P : X → Prop} (e : biE b s x = some z) (p : P z) : Bb b s x P := by unfold Bb; exact ⟨z, e, p⟩
theorem a_sub {x y z : X} {P : X → Prop} (e : subE s x y = some z) (p : P z) : Su s x y P := by unfold Su; exact ⟨z, e, p⟩
theorem a_sli {x z : X} {l h : Option Int} {P : X → Prop} (e : sliE s x l h = some z) (p : P z) : Sl2 s x l h P := by unfold Sl2; exact ⟨z, e, p⟩
theorem a_isi {c : Ty} {d : D} {z : Bool} {P : Bool → Prop} (e : isiE c d = some z) (p : P z) : Is c d P := by unfold Is; exact ⟨z, e, p⟩
theorem a_int {x : X} {z : Int} {P : Int → Prop} (e : asInt x = some z) (p : P z) : Ai x P := by unfold Ai; exact ⟨z, e, p⟩
theorem a_stos {x : List X} {z : List D} {P : List D → Prop} (e : stoAll x = some z) (p : P z) : Sa x P := by unfold Sa; exact ⟨z, e, p⟩
theorem a_sto {x : X} {z : D} {P : D → Prop} (e : x.sto = some z) (p : P z) : So x P := by unfold So; exact ⟨z, e, p⟩
theorem a_own {x : X} {z : List D} {P : List D → Prop} (e : x = .own z) (p : P z) : Ow x P := by unfold Ow; exact ⟨z, e, p⟩
theorem a_nv {x : X} {P : Prop} (e : ∀ ds, x ≠ .vw ds) (p : P) : Nv x P := by unfold Nv; exact ⟨e, p⟩
end
theorem bn_nil {sl : Sl} {P : Sl → Prop} (p : P sl) : Bn [] [] sl P := by unfold Bn; exact ⟨sl, rfl, p⟩
theorem bn_cons {i : Nat} {is : List Nat} {d : D} {ds : List D} {sl : Sl} {P : Sl → Prop} (p : Stt sl i (some (.v d)) fun sl => Bn is ds sl P) : Bn (i :: is) (d :: ds) sl P := by
  simp only [Bn, Stt] at *
  exact p
theorem bn_tup {is : List Nat} {ds : List D} {s : S} {sl : Sl} {P : Sl → Prop} (p : Bn is ds sl P) : ∃ es, (X.v (.tup ds)).items s = some es ∧ Bn is es sl P := ⟨ds, rfl, p⟩
theorem bn_ref {is : List Nat} {n : Nat} {ds : List D} {s : S} {sl : Sl} {P : Sl → Prop} (e : s[n]? = some (.lst ds)) (p : Bn is ds sl P) : ∃ es, (X.v (.ref n)).items s = some es ∧ Bn is es sl P := ⟨ds, by simp only [X.items, X.d, e], p⟩
theorem st0 {x0 x : Option X} {r : Sl} {P : Sl → Prop} (p : P (x :: r)) : Stt (x0 :: r) 0 x P := by unfold Stt; exact p
theorem st1 {x0 x1 x : Option X} {r : Sl} {P : Sl → Prop} (p : P (x0 :: x :: r)) : Stt (x0 :: x1 :: r) 1 x P := by unfold Stt; exact p
theorem st2 {x0 x1 x2 x : Option X} {r : Sl} {P : Sl → Prop} (p : P (x0 :: x1 :: x :: r)) : Stt (x0 :: x1 :: x2 :: r) 2 x P := by unfold Stt; exact p
theorem st3 {x0 x1 x2 x3 x : Option X} {r : Sl} {P : Sl → Prop} (p : P (x0 :: x1 :: x2 :: x :: r)) : Stt (x0 :: x1 :: x2 :: x3 :: r) 3 x P := by unfold Stt; exact p
theorem st4 {x0 x1 x2 x3 x4 x : Option X} {r : Sl} {P : Sl → Prop} (p : P (x0 :: x1 :: x2 :: x3 :: x :: r)) : Stt (x0 :: x1 :: x2 :: x3 :: x4 :: r) 4 x P := by unfold Stt; exact p
theorem st5 {x0 x1 x2 x3 x4 x5 x : Option X} {r : Sl} {P : Sl → Prop} (p : P (x0 :: x1 :: x2 :: x3 :: x4 :: x :: r)) : Stt (x0 :: x1 :: x2 :: x3 :: x4 :: x5 :: r) 5 x P := by unfold Stt; exact p
theorem st6 {x0 x1 x2 x3 x4 x5 x6 x : Option X} {r : Sl} {P : Sl → Prop} (p : P (x0 :: x1 :: x2 :: x3 :: x4 :: x5 :: x :: r)) : Stt (x0 :: x1 :: x2 :: x3 :: x4 :: x5 :: x6 :: r) 6 x P := by unfold Stt; exact p
theorem st7 {x0 x1 x2 x3 x4 x5 x6 x7 x : Option X} {r : Sl} {P : Sl → Prop} (p : P (x0 :: x1 :: x2 :: x3 :: x4 :: x5 :: x6 :: x :: r)) : Stt (x0 :: x1 :: x2 :: x3 :: x4 :: x5 :: x6 :: x7 :: r) 7 x P := by unfold Stt; exact p
theorem st8 {x0 x1 x2 x3 x4 x5 x6 x7 x8 x : Option X} {r : Sl} {P : Sl → Prop} (p : P (x0 :: x1 :: x2 :: x3 :: x4 :: x5 :: x6 :: x7 :: x :: r)) : Stt (x0 :: x1 :: x2 :: x3 :: x4 :: x5 :: x6 :: x7 :: x8 :: r) 8 x P := by unfold Stt; exact p
theorem st9 {x0 x1 x2 x3 x4 x5 x6 x7 x8 x9 x : Option X} {r : Sl} {P : Sl → Prop} (p : P (x0 :: x1 :: x2 :: x3 :: x4 :: x5 :: x6 :: x7 :: x8 :: x :: r)) : Stt (x0 :: x1 :: x2 :: x3 :: x4 :: x5 :: x6 :: x7 :: x8 :: x9 :: r) 9 x P := by unfold Stt; exact p
theorem st10 {x0 x1 x2 x3 x4 x5 x6 x7 x8 x9 x10 x : Option X} {r : Sl} {P : Sl → Prop} (p : P (x0 :: x1 :: x2 :: x3 :: x4 :: x5 :: x6 :: x7 :: x8 :: x9 :: x :: r)) : Stt (x0 :: x1 :: x2 :: x3 :: x4 :: x5 :: x6 :: x7 :: x8 :: x9 :: x10 :: r) 10 x P := by unfold Stt; exact p
theorem st11 {x0 x1 x2 x3 x4 x5 x6 x7 x8 x9 x10 x11 x : Option X} {r : Sl} {P : Sl → Prop} (p : P (x0 :: x1 :: x2 :: x3 :: x4 :: x5 :: x6 :: x7 :: x8 :: x9 :: x10 :: x :: r)) : Stt (x0 :: x1 :: x2 :: x3 :: x4 :: x5 :: x6 :: x7 :: x8 :: x9 :: x10 :: x11 :: r) 11 x P := by unfold Stt; exact p
theorem st12 {x0 x1 x2 x3 x4 x5 x6 x7 x8 x9 x10 x11 x12 x : Option X} {r : Sl} {P : Sl → Prop} (p : P (x0 :: x1 :: x2 :: x3 :: x4 :: x5 :: x6 :: x7 :: x8 :: x9 :: x10 :: x11 :: x :: r)) : Stt (x0 :: x1 :: x2 :: x3 :: x4 :: x5 :: x6 :: x7 :: x8 :: x9 :: x10 :: x11 :: x12 :: r) 12 x P := by unfold Stt; exact p
theorem st13 {x0 x1 x2 x3 x4 x5 x6 x7 x8 x9 x10 x11 x12 x13 x : Option X} {r : Sl} {P : Sl → Prop} (p : P (x0 :: x1 :: x2 :: x3 :: x4 :: x5 :: x6 :: x7 :: x8 :: x9 :: x10 :: x11 :: x12 :: x :: r)) : Stt (x0 :: x1 :: x2 :: x3 :: x4 :: x5 :: x6 :: x7 :: x8 :: x9 :: x10 :: x11 :: x12 :: x13 :: r) 13 x P := by unfold Stt; exact p
theorem st14 {x0 x1 x2 x3 x4 x5 x6 x7 x8 x9 x10 x11 x12 x13 x14 x : Option X} {r : Sl} {P : Sl → Prop} (p : P (x0 :: x1 :: x2 :: x3 :: x4 :: x5 :: x6 :: x7 :: x8 :: x9 :: x10 :: x11 :: x12 :: x13 :: x :: r)) : Stt (x0 :: x1 :: x2 :: x3 :: x4 :: x5 :: x6 :: x7 :: x8 :: x9 :: x10 :: x11 :: x12 :: x13 :: x14 :: r) 14 x P := by unfold Stt; exact p
theorem st15 {x0 x1 x2 x3 x4 x5 x6 x7 x8 x9 x10 x11 x12 x13 x14 x15 x : Option X} {r : Sl} {P : Sl → Prop} (p : P (x0 :: x1 :: x2 :: x3 :: x4 :: x5 :: x6 :: x7 :: x8 :: x9 :: x10 :: x11 :: x12 :: x13 :: x14 :: x :: r)) : Stt (x0 :: x1 :: x2 :: x3 :: x4 :: x5 :: x6 :: x7 :: x8 :: x9 :: x10 :: x11 :: x12 :: x13 :: x14 :: x15 :: r) 15 x P := by unfold Stt; exact p
theorem st16 {x0 x1 x2 x3 x4 x5 x6 x7 x8 x9 x10 x11 x12 x13 x14 x15 x16 x : Option X} {r : Sl} {P : Sl → Prop} (p : P (x0 :: x1 :: x2 :: x3 :: x4 :: x5 :: x6 :: x7 :: x8 :: x9 :: x10 :: x11 :: x12 :: x13 :: x14 :: x15 :: x :: r)) : Stt (x0 :: x1 :: x2 :: x3 :: x4 :: x5 :: x6 :: x7 :: x8 :: x9 :: x10 :: x11 :: x12 :: x13 :: x14 :: x15 :: x16 :: r) 16 x P := by unfold Stt; exact p
theorem st17 {x0 x1 x2 x3 x4 x5 x6 x7 x8 x9 x10 x11 x12 x13 x14 x15 x16 x17 x : Option X} {r : Sl} {P : Sl → Prop} (p : P (x0 :: x1 :: x2 :: x3 :: x4 :: x5 :: x6 :: x7 :: x8 :: x9 :: x10 :: x11 :: x12 :: x13 :: x14 :: x15 :: x16 :: x :: r)) : Stt (x0 :: x1 :: x2 :: x3 :: x4 :: x5 :: x6 :: x7 :: x8 :: x9 :: x10 :: x11 :: x12 :: x13 :: x14 :: x15 :: x16 :: x17 :: r) 17 x P := by unfold Stt; exact p
theorem st18 {x0 x1 x2 x3 x4 x5 x6 x7 x8 x9 x10 x11 x12 x13 x14 x15 x16 x17 x18 x : Option X} {r : Sl} {P : Sl → Prop} (p : P (x0 :: x1 :: x2 :: x3 :: x4 :: x5 :: x6 :: x7 :: x8 :: x9 :: x10 :: x11 :: x12 :: x13 :: x14 :: x15 :: x16 :: x17 :: x :: r)) : Stt (x0 :: x1 :: x2 :: x3 :: x4 :: x5 :: x6 :: x7 :: x8 :: x9 :: x10 :: x11 :: x12 :: x13 :: x14 :: x15 :: x16 :: x17 :: x18 :: r) 18 x P := by unfold Stt; exact p
theorem st19 {x0 x1 x2 x3 x4 x5 x6 x7 x8 x9 x10 x11 x12 x13 x14 x15 x16 x17 x18 x19 x : Option X} {r : Sl} {P : Sl → Prop} (p : P (x0 :: x1 :: x2 :: x3 :: x4 :: x5 :: x6 :: x7 :: x8 :: x9 :: x10 :: x11 :: x12 :: x13 :: x14 :: x15 :: x16 :: x17 :: x18 :: x :: r)) : Stt (x0 :: x1 :: x2 :: x3 :: x4 :: x5 :: x6 :: x7 :: x8 :: x9 :: x10 :: x11 :: x12 :: x13 :: x14 :: x15 :: x16 :: x17 :: x18 :: x19 :: r) 19 x P := by unfold Stt; exact p
theorem st20 {x0 x1 x2 x3 x4 x5 x6 x7 x8 x9 x10 x11 x12 x13 x14 x15 x16 x17 x18 x19 x20 x : Option X} {r : Sl} {P : Sl → Prop} (p : P (x0 :: x1 :: x2 :: x3 :: x4 :: x5 :: x6 :: x7 :: x8 :: x9 :: x10 :: x11 :: x12 :: x13 :: x14 :: x15 :: x16 :: x17 :: x18 :: x19 :: x :: r)) : Stt (x0 :: x1 :: x2 :: x3 :: x4 :: x5 :: x6 :: x7 :: x8 :: x9 :: x10 :: x11 :: x12 :: x13 :: x14 :: x15 :: x16 :: x17 :: x18 :: x19 :: x20 :: r) 20 x P := by unfold Stt; exact p
theorem st21 {x0 x1 x2 x3 x4 x5 x6 x7 x8 x9 x10 x11 x12 x13 x14 x15 x16 x17 x18 x19 x20 x21 x : Option X} {r : Sl} {P : Sl → Prop} (p : P (x0 :: x1 :: x2 :: x3 :: x4 :: x5 :: x6 :: x7 :: x8 :: x9 :: x10 :: x11 :: x12 :: x13 :: x14 :: x15 :: x16 :: x17 :: x18 :: x19 :: x20 :: x :: r)) : Stt (x0 :: x1 :: x2 :: x3 :: x4 :: x5 :: x6 :: x7 :: x8 :: x9 :: x10 :: x11 :: x12 :: x13 :: x14 :: x15 :: x16 :: x17 :: x18 :: x19 :: x20 :: x21 :: r) 21 x P := by unfold Stt; exact p
theorem st22 {x0 x1 x2 x3 x4 x5 x6 x7 x8 x9 x10 x11 x12 x13 x14 x15 x16 x17 x18 x19 x20 x21 x22 x : Option X} {r : Sl} {P : Sl → Prop} (p : P (x0 :: x1 :: x2 :: x3 :: x4 :: x5 :: x6 :: x7 :: x8 :: x9 :: x10 :: x11 :: x12 :: x13 :: x14 :: x15 :: x16 :: x17 :: x18 :: x19 :: x20 :: x21 :: x :: r)) : Stt (x0 :: x1 :: x2 :: x3 :: x4 :: x5 :: x6 :: x7 :: x8 :: x9 :: x10 :: x11 :: x12 :: x13 :: x14 :: x15 :: x16 :: x17 :: x18 :: x19 :: x20 :: x21 :: x22 :: r) 22 x P := by unfold Stt; exact p
theorem st23 {x0 x1 x2 x3 x4 x5 x6 x7 x8 x9 x10 x11 x12 x13 x14 x15 x16 x17 x18 x19 x20 x21 x22 x23 x : Option X} {r : Sl} {P : Sl → Prop} (p : P (x0 :: x1 :: x2 :: x3 :: x4 :: x5 :: x6 :: x7 :: x8 :: x9 :: x10 :: x11 :: x12 :: x13 :: x14 :: x15 :: x16 :: x17 :: x18 :: x19 :: x20 :: x21 :: x22 :: x :: r)) : Stt (x0 :: x1 :: x2 :: x3 :: x4 :: x5 :: x6 :: x7 :: x8 :: x9 :: x10 :: x11 :: x12 :: x13 :: x14 :: x15 :: x16 :: x17 :: x18 :: x19 :: x20 :: x21 :: x22 :: x23 :: r) 23 x P := by unfold Stt; exact p
theorem st24 {x0 x1 x2 x3 x4 x5 x6 x7 x8 x9 x10 x11 x12 x13 x14 x15 x16 x17 x18 x19 x20 x21 x22 x23 x24 x : Option X} {r : Sl} {P : Sl → Prop} (p : P (x0 :: x1 :: x2 :: x3 :: x4 :: x5 :: x6 :: x7 :: x8 :: x9 :: x10 :: x11 :: x12 :: x13 :: x14 :: x15 :: x16 :: x17 :: x18 :: x19 :: x20 :: x21 :: x22 :: x23 :: x :: r)) : Stt (x0 :: x1 :: x2 :: x3 :: x4 :: x5 :: x6 :: x7 :: x8 :: x9 :: x10 :: x11 :: x12 :: x13 :: x14 :: x15 :: x16 :: x17 :: x18 :: x19 :: x20 :: x21 :: x22 :: x23 :: x24 :: r) 24 x P := by unfold Stt; exact p
theorem st25 {x0 x1 x2 x3 x4 x5 x6 x7 x8 x9 x10 x11 x12 x13 x14 x15 x16 x17 x18 x19 x20 x21 x22 x23 x24 x25 x : Option X} {r : Sl} {P : Sl → Prop} (p : P (x0 :: x1 :: x2 :: x3 :: x4 :: x5 :: x6 :: x7 :: x8 :: x9 :: x10 :: x11 :: x12 :: x13 :: x14 :: x15 :: x16 :: x17 :: x18 :: x19 :: x20 :: x21 :: x22 :: x23 :: x24 :: x :: r)) : Stt (x0 :: x1 :: x2 :: x3 :: x4 :: x5 :: x6 :: x7 :: x8 :: x9 :: x10 :: x11 :: x12 :: x13 :: x14 :: x15 :: x16 :: x17 :: x18 :: x19 :: x20 :: x21 :: x22 :: x23 :: x24 :: x25 :: r) 25 x P := by unfold Stt; exact p
theorem st26 {x0 x1 x2 x3 x4 x5 x6 x7 x8 x9 x10 x11 x12 x13 x14 x15 x16 x17 x18 x19 x20 x21 x22 x23 x24 x25 x26 x : Option X} {r : Sl} {P : Sl → Prop} (p : P (x0 :: x1 :: x2 :: x3 :: x4 :: x5 :: x6 :: x7 :: x8 :: x9 :: x10 :: x11 :: x12 :: x13 :: x14 :: x15 :: x16 :: x17 :: x18 :: x19 :: x20 :: x21 :: x22 :: x23 :: x24 :: x25 :: x :: r)) : Stt (x0 :: x1 :: x2 :: x3 :: x4 :: x5 :: x6 :: x7 :: x8 :: x9 :: x10 :: x11 :: x12 :: x13 :: x14 :: x15 :: x16 :: x17 :: x18 :: x19 :: x20 :: x21 :: x22 :: x23 :: x24 :: x25 :: x26 :: r) 26 x P := by unfold Stt; exact p
theorem st27 {x0 x1 x2 x3 x4 x5 x6 x7 x8 x9 x10 x11 x12 x13 x14 x15 x16 x17 x18 x19 x20 x21 x22 x23 x24 x25 x26 x27 x : Option X} {r : Sl} {P : Sl → Prop} (p : P (x0 :: x1 :: x2 :: x3 :: x4 :: x5 :: x6 :: x7 :: x8 :: x9 :: x10 :: x11 :: x12 :: x13 :: x14 :: x15 :: x16 :: x17 :: x18 :: x19 :: x20 :: x21 :: x22 :: x23 :: x24 :: x25 :: x26 :: x :: r)) : Stt (x0 :: x1 :: x2 :: x3 :: x4 :: x5 :: x6 :: x7 :: x8 :: x9 :: x10 :: x11 :: x12 :: x13 :: x14 :: x15 :: x16 :: x17 :: x18 :: x19 :: x20 :: x21 :: x22 :: x23 :: x24 :: x25 :: x26 :: x27 :: r) 27 x P := by unfold Stt; exact p
theorem st28 {x0 x1 x2 x3 x4 x5 x6 x7 x8 x9 x10 x11 x12 x13 x14 x15 x16 x17 x18 x19 x20 x21 x22 x23 x24 x25 x26 x27 x28 x : Option X} {r : Sl} {P : Sl → Prop} (p : P (x0 :: x1 :: x2 :: x3 :: x4 :: x5 :: x6 :: x7 :: x8 :: x9 :: x10 :: x11 :: x12 :: x13 :: x14 :: x15 :: x16 :: x17 :: x18 :: x19 :: x20 :: x21 :: x22 :: x23 :: x24 :: x25 :: x26 :: x27 :: x :: r)) : Stt (x0 :: x1 :: x2 :: x3 :: x4 :: x5 :: x6 :: x7 :: x8 :: x9 :: x10 :: x11 :: x12 :: x13 :: x14 :: x15 :: x16 :: x17 :: x18 :: x19 :: x20 :: x21 :: x22 :: x23 :: x24 :: x25 :: x26 :: x27 :: x28 :: r) 28 x P := by unfold Stt; exact p
theorem st29 {x0 x1 x2 x3 x4 x5 x6 x7 x8 x9 x10 x11 x12 x13 x14 x15 x16 x17 x18 x19 x20 x21 x22 x23 x24 x25 x26 x27 x28 x29 x : Option X} {r : Sl} {P : Sl → Prop} (p : P (x0 :: x1 :: x2 :: x3 :: x4 :: x5 :: x6 :: x7 :: x8 :: x9 :: x10 :: x11 :: x12 :: x13 :: x14 :: x15 :: x16 :: x17 :: x18 :: x19 :: x20 :: x21 :: x22 :: x23 :: x24 :: x25 :: x26 :: x27 :: x28 :: x :: r)) : Stt (x0 :: x1 :: x2 :: x3 :: x4 :: x5 :: x6 :: x7 :: x8 :: x9 :: x10 :: x11 :: x12 :: x13 :: x14 :: x15 :: x16 :: x17 :: x18 :: x19 :: x20 :: x21 :: x22 :: x23 :: x24 :: x25 :: x26 :: x27 :: x28 :: x29 :: r) 29 x P := by unfold Stt; exact p
end Co
set_option exponentiation.threshold 20000
/-! PuB: operations whose answer is known; the draws. -/
namespace Co
open PySem
section
variable {s : S} {P : X → Prop} {Q : Bool → Prop} {i j : Int}
theorem log_le {i : Int} {k : Nat} (h1 : -(2 ^ k) < i) (h2 : i < 2 ^ k) : i.natAbs.log2 ≤ k := by
  by_cases h : i.natAbs = 0
  · rw [h]
    exact Nat.zero_le _
  · have q : i.natAbs.log2 < k + 1 := by
      rw [Nat.log2_lt h]
      have h3 : ((2 ^ k : Nat) : Int) = (2 : Int) ^ k := by norm_cast
      have h4 : i.natAbs < 2 ^ k := by omega
      have : 2 ^ k ≤ 2 ^ (k + 1) := Nat.pow_le_pow_right (by decide) (Nat.le_succ _)
      omega
    omega
/-- below 2^k in size -/
def Sm2 (k : Nat) (i : Int) : Prop := -(2 ^ k) < i ∧ i < 2 ^ k
theorem Sm2.mul {a b : Nat} (hi : Sm2 a i) (hj : Sm2 b j) : Sm2 (a + b) (i * j) := by
  have h1 : i.natAbs < 2 ^ a := by
    have h3 : ((2 ^ a : Nat) : Int) = (2 : Int) ^ a := by norm_cast
    have := hi.1
    have := hi.2
    omega
  have h2 : j.natAbs < 2 ^ b := by
    have h3 : ((2 ^ b : Nat) : Int) = (2 : Int) ^ b := by norm_cast
    have := hj.1
    have := hj.2
    omega
  have h4 : (i * j).natAbs < 2 ^ (a + b) := by
    rw [Int.natAbs_mul, Nat.pow_add]
    exact Nat.mul_lt_mul'' h1 h2
  have h3 : ((2 ^ (a + b) : Nat) : Int) = (2 : Int) ^ (a + b) := by norm_cast
  unfold Sm2
  omega
theorem Sm2.le {a b : Nat} (h : Sm2 a i) (hab : a ≤ b) : Sm2 b i := by
  have h3 : (2 : Int) ^ a ≤ 2 ^ b := by
    have : 2 ^ a ≤ 2 ^ b := Nat.pow_le_pow_right (by decide) hab
    exact_mod_cast this
  have := h.1
  have := h.2
  unfold Sm2
  omega
theorem Sm2.add {a b : Nat} (hi : Sm2 a i) (hj : Sm2 b j) : Sm2 (max a b + 1) (i + j) := by
  have h1 := hi.le (Nat.le_max_left a b)
  have h2 := hj.le (Nat.le_max_right a b)
  have h3 : (2 : Int) ^ (max a b + 1) = 2 ^ (max a b) * 2 := Int.pow_succ 2 (max a b)
  have := h1.1
  have := h1.2
  have := h2.1
  have := h2.2
  unfold Sm2
  omega
end
section
variable {s : S} {P : X → Prop} {Q : Bool → Prop} {i j : Int}
theorem c_add (q : P (.v (.int (i + j)))) : Bo .add s (X.v (.int i)).arg (X.v (.int j)).arg P := a_bin rfl q
theorem c_sub (q : P (.v (.int (i - j)))) : Bo .sub s (X.v (.int i)).arg (X.v (.int j)).arg P := a_bin rfl q
theorem c_mul {a b : Nat} (hi : Sm2 a i) (hj : Sm2 b j) (hab : a + b < 1000000) (q : P (.v (.int (i * j)))) : Bo .mul s (X.v (.int i)).arg (X.v (.int j)).arg P := by
  refine a_bin ?_ q
  have h1 := log_le hi.1 hi.2
  have h2 := log_le hj.1 hj.2
  exact if_pos (by omega)
theorem c_fdiv (hj : 0 < j) (hk : Sm2 8000 j) (q : P (.v (.int (i / j)))) : Bo .fdiv s (X.v (.int i)).arg (X.v (.int j)).arg P := by
  refine a_bin ?_ q
  have h1 := log_le hk.1 hk.2
  exact if_pos ⟨hj, by omega⟩
theorem c_mod (hj : 0 < j) (q : P (.v (.int (i % j)))) : Bo .mod s (X.v (.int i)).arg (X.v (.int j)).arg P := a_bin (if_pos hj) q
/-- .. forgotten but for its bounds -/
theorem c_mod' (hj : 0 < j) (q : ∀ v, 0 ≤ v → v < j → P (.v (.int v))) : Bo .mod s (X.v (.int i)).arg (X.v (.int j)).arg P := c_mod hj (q _ (Int.emod_nonneg _ (by omega)) (Int.emod_lt_of_pos _ hj))
theorem c_pow {v : Int} (h : 0 ≤ j ∧ (i.natAbs.log2 + 1) * j.toNat ≤ 2 ^ 27) (e : i ^ j.toNat = v) (q : P (.v (.int v))) : Bo .pow s (X.v (.int i)).arg (X.v (.int j)).arg P := a_bin (by rw [← e]; exact if_pos h) q
theorem c_lt (q : Q (decide (i < j))) : Cm .lt s (X.v (.int i)).arg (X.v (.int j)).arg Q := a_cmp rfl q
theorem c_gt (q : Q (decide (j < i))) : Cm .gt s (X.v (.int i)).arg (X.v (.int j)).arg Q := a_cmp rfl q
theorem notlt (i j : Int) : (!decide (i < j)) = decide (j ≤ i) := by
  by_cases h : i < j
  · rw [decide_eq_true h, decide_eq_false (by omega)]; rfl
  · rw [decide_eq_false h, decide_eq_true (by omega)]; rfl
theorem c_le (q : Q (decide (i ≤ j))) : Cm .le s (X.v (.int i)).arg (X.v (.int j)).arg Q := a_cmp rfl (by show Q (!decide (j < i)); rw [notlt]; exact q)
theorem c_ge (q : Q (decide (j ≤ i))) : Cm .ge s (X.v (.int i)).arg (X.v (.int j)).arg Q := a_cmp rfl (by show Q (!decide (i < j)); rw [notlt]; exact q)
theorem c_eq (q : Q (decide (i = j))) : Cm .eq s (X.v (.int i)).arg (X.v (.int j)).arg Q := a_cmp rfl q
theorem c_ne (q : Q (!decide (i = j))) : Cm .ne s (X.v (.int i)).arg (X.v (.int j)).arg Q := a_cmp rfl q
theorem c_eqS {x y : Str} (q : Q (decide (x = y))) : Cm .eq s (X.v (.str x)).arg (X.v (.str y)).arg Q := a_cmp rfl q
theorem c_neS {x y : Str} (q : Q (!decide (x = y))) : Cm .ne s (X.v (.str x)).arg (X.v (.str y)).arg Q := a_cmp rfl q
theorem c_eqB {x y : Bool} (q : Q (x == y)) : Cm .eq s (X.v (.bl x)).arg (X.v (.bl y)).arg Q := a_cmp rfl q
theorem c_neB {x y : Bool} (q : Q (!(x == y))) : Cm .ne s (X.v (.bl x)).arg (X.v (.bl y)).arg Q := a_cmp rfl q
theorem c_subR {n : Nat} {ds : List D} {k : Int} {d : D} (e : s[n]? = some (.lst ds)) (e2 : L2.atI ds k = some d) (p : P (.v d)) : Su s (X.v (.ref n)).arg (X.v (.int k)).arg P :=
  a_sub (by simp only [subE, X.arg, X.d, X.items, e, e2, Option.map_some]) p
theorem c_subT {ds : List D} {k : Int} {d : D} (e2 : L2.atI ds k = some d) (p : P (.v d)) : Su s (X.v (.tup ds)).arg (X.v (.int k)).arg P := a_sub (by simp only [subE, X.arg, X.d, X.items, e2, Option.map_some]) p
theorem c_subL {ds : List D} {k : Int} {d : D} (e2 : L2.atI ds k = some d) (p : P (.v d)) : Su s (X.v (.lst ds)).arg (X.v (.int k)).arg P := a_sub (by simp only [subE, X.arg, X.d, X.items, e2, Option.map_some]) p
theorem c_subV {ds : List D} {k : Int} {d : D} (e2 : L2.atI ds k = some d) (p : P (.v d)) : Su s (X.vw ds).arg (X.v (.int k)).arg P := a_sub (by simp only [subE, X.arg, X.d, X.items, e2, Option.map_some]) p
end
section
variable {s : S} {P : X → Prop} {Q : Bool → Prop}
theorem c_lenL {ds : List D} (q : P (.v (.int ds.length))) : Bb .len s [X.v (.lst ds)] P := a_bi rfl q
theorem c_lenT {ds : List D} (q : P (.v (.int ds.length))) : Bb .len s [X.v (.tup ds)] P := a_bi rfl q
theorem c_lenV {ds : List D} (q : P (.v (.int ds.length))) : Bb .len s [X.vw ds] P := a_bi rfl q
theorem c_lenS {x : Str} (h : x.length ≤ sizeLine) (q : P (.v (.int x.length))) : Bb .len s [X.v (.str x)] P := a_bi (if_pos h) q
theorem c_isN {x y : X} {k : Bool} (e : cmpE .is s x y = some k) (q : Q k) : Cm .is s x y Q := a_cmp e q
theorem c_notN {x y : X} {k : Bool} (e : cmpE .isNot s x y = some k) (q : Q k) : Cm .isNot s x y Q := a_cmp e q
end
theorem c_p30 {s : S} {P : X → Prop} (q : P (.v (.int 1000000000000000000000000000000))) : Bo .pow s (X.v (.int 10)).arg (X.v (.int 30)).arg P := c_pow (by decide) (by decide) q
theorem c_min {s : S} {P : X → Prop} {i j : Int} (q : P (.v (.int (min i j)))) : Bb .min2 s [X.v (.int i), X.v (.int j)] P := by
  refine a_bi (z := .v (.int (min i j))) ?_ q
  show some (X.v (.int (if j < i then j else i))) = _
  congr 3
  split <;> omega
theorem c_max {s : S} {P : X → Prop} {i j : Int} (q : P (.v (.int (max i j)))) : Bb .max2 s [X.v (.int i), X.v (.int j)] P := by
  refine a_bi (z := .v (.int (max i j))) ?_ q
  show some (X.v (.int (if j > i then j else i))) = _
  congr 3
  split <;> omega
theorem c_p18 {s : S} {P : X → Prop} (q : P (.v (.int 1000000000000000000))) : Bo .pow s (X.v (.int 10)).arg (X.v (.int 18)).arg P := c_pow (by decide) (by decide) q
theorem c_p9 {s : S} {P : X → Prop} (q : P (.v (.int 1000000000))) : Bo .pow s (X.v (.int 10)).arg (X.v (.int 9)).arg P := c_pow (by decide) (by decide) q
theorem c_set {z : X} {s : S} {n : Nat} {j : Int} {d : D} {ds : List D} {m : Nat} {Q : S → Prop} (e3 : z = .v (.ref n)) (e4 : s[n]? = some (.lst ds)) (e5 : L2.ixN ds.length j = some m) (q : Q (s.set n (.lst (ds.set m d)))) :
    ∃ n ds m, z = .v (.ref n) ∧ s[n]? = some (.lst ds) ∧ L2.ixN ds.length j = some m ∧ Q (s.set n (.lst (ds.set m d))) := ⟨n, ds, m, e3, e4, e5, q⟩
theorem c_bind {is : List Nat} {d : D} {s : S} {sl sl' : Sl} {Q : Sl → Prop} (e : bindT (.tup is) d s sl = some sl') (q : Q sl') : ∃ sl', bindT (.tup is) d s sl = some sl' ∧ Q sl' := ⟨sl', e, q⟩
theorem nv_v {d : D} {P : Prop} (p : P) : Nv (.v d) P := a_nv (fun _ z => by cases z) p
theorem nv_own {ds : List D} {P : Prop} (p : P) : Nv (.own ds) P := a_nv (fun _ z => by cases z) p
/-- one step -/
local macro_rules | `(tactic| left) => `(tactic| first
  | refine u_then ?_ | refine u_var rfl ?_ | refine u_cst ?_ | refine u_nil ?_ | refine u_cons ?_ | refine u_bin ?_ | refine u_cmp ?_ | refine u_asgN ?_ | refine u_bi ?_ | refine u_sub ?_ | refine u_ifs ?_ | refine u_tup ?_ | refine u_lst ?_ | refine u_call ?_
  | refine a_sto rfl ?_ | refine a_tru rfl ?_ | refine c_add ?_ | refine c_sub ?_ | refine c_lenL ?_ | refine c_lenT ?_ | refine c_lenV ?_ | refine c_min ?_ | refine c_max ?_ | refine a_bi rfl ?_ | refine a_int rfl ?_ | refine a_stos rfl ?_ | refine a_own rfl ?_ | refine nv_v ?_ | refine nv_own ?_
  | refine c_ge ?_ | refine c_gt ?_ | refine c_le ?_ | refine c_lt ?_ | refine c_eq ?_ | refine c_ne ?_ | refine c_eqS ?_ | refine c_neS ?_ | refine c_eqB ?_ | refine c_neB ?_ | refine c_isN rfl ?_ | refine c_notN rfl ?_
  | refine c_p18 ?_ | refine c_p30 ?_ | refine c_p9 ?_ | refine c_pow (by decide) (by rfl) ?_
  | refine ⟨fun z => Bool.noConfusion z, fun _ => ?_⟩ | refine ⟨fun _ => ?_, fun z => Bool.noConfusion z⟩ | refine ⟨fun _ => ?_, fun z => absurd rfl z⟩
  | refine st0 ?_ | refine st1 ?_ | refine st2 ?_ | refine st3 ?_ | refine st4 ?_ | refine st5 ?_ | refine st6 ?_ | refine st7 ?_ | refine st8 ?_ | refine st9 ?_ | refine st10 ?_ | refine st11 ?_ | refine st12 ?_ | refine st13 ?_ | refine st14 ?_ | refine st15 ?_ | refine st16 ?_ | refine st17 ?_ | refine st18 ?_ | refine st19 ?_ | refine st20 ?_ | refine st21 ?_ | refine st22 ?_ | refine st23 ?_ | refine st24 ?_ | refine st25 ?_ | refine st26 ?_ | refine st27 ?_ | refine st28 ?_ | refine st29 ?_
  | refine u_done ?_ | refine u_own ?_ | refine u_ret ?_ | refine u_refSet ?_ | refine u_asgT ?_ | refine u_neg ?_ | refine u_ands ?_ | refine u_ors ?_ | refine u_not ?_ | refine u_chain ?_
  | refine u_glob (by first | rfl | assumption) ?_ | refine u_isi ?_ | refine a_isi rfl ?_ | refine u_b1 ?_ | refine u_b2 ?_ | refine u_ife ?_ | refine u_expr ?_ | refine u_sli ?_ | refine u_onone ?_ | refine u_osome ?_ | refine u_rng1 ?_ | refine u_rng2 ?_ | refine u_newref ?_ | refine u_retMv rfl ?_ | refine u_forN ?_ | refine u_itV rfl ?_ | refine u_it ?_ | refine u_allc ?_ | refine u_i0 ?_ | refine u_i1 ?_ | refine u_setItem rfl ?_ | refine u_app rfl ?_ | refine u_insrt rfl ?_ | refine u_toRef rfl ?_ | refine u_pass ?_ | refine u_retN ?_
  | refine c_set rfl rfl rfl ?_ | refine bn_tup ?_ | refine bn_ref rfl ?_ | refine bn_cons ?_ | refine bn_nil ?_ | refine c_subT rfl ?_ | refine c_subL rfl ?_ | refine c_subV rfl ?_ | refine c_subR rfl rfl ?_)
/-- _law_draw -/
def f11_law_draw : Fn := { ps := ["source", "limit"], N := ["source", "limit", "cells", "turn", "place", "cell", "number", "other"], body := [.asg (.tup [2, 3]) (.var 0), .asg (.name 4) (.bin .mod (.bi .int [.var 3]) (.bi .len [.var 2])), .asg (.name 5) (.sub (.var 2) (.var 4)), .refSet (.var 0) (.cst (.int 1)) (.bin .add (.var 3) (.cst (.int 1))), .ifs (.cmp .ge (.var 5) (.bin .pow (.cst (.int 10)) (.cst (.int 18)))) [.refSet (.var 2) (.var 4) (.bin .fdiv (.var 5) (.var 1)), .ret (.bin .mod (.bi .int [.var 5]) (.var 1))] [], .asg (.name 6) (.bin .mod (.bi .int [.bin .add (.bin .add (.bin .mul (.bin .mod (.bi .int [.var 5]) (.cst (.int 2147483629))) (.cst (.int 48271))) (.bin .mul (.bin .mul (.var 3) (.var 3)) (.cst (.int 69621)))) (.cst (.int 11))]) (.cst (.int 2147483647))), .asg (.name 6) (.bin .mod (.bi .int [.bin .mul (.var 6) (.var 6)]) (.cst (.int 2147483629))), .asg (.name 6) (.bin .mod (.bi .int [.bin .mul (.var 6) (.var 6)]) (.cst (.int 2147483587))), .ifs (.cmp .gt (.var 1) (.bin .pow (.cst (.int 10)) (.cst (.int 9)))) [.asg (.name 7) (.bin .mod (.bi .int [.bin .add (.bin .add (.bin .mul (.var 6) (.cst (.int 39373))) (.bin .mul (.var 3) (.cst (.int 7919)))) (.cst (.int 500))]) (.cst (.int 2147483629))), .asg (.name 6) (.bin .mul (.var 6) (.bin .add (.bin .mul (.bin .mul (.var 7) (.var 7)) (.var 7)) (.cst (.int 1))))] [], .ret (.bin .mod (.bi .int [.var 6]) (.var 1))] }
/-- the state of the draws: the cells, the turn -/
def stS (cells : List Int) (turn : Int) : S := [.lst (cells.map .int), .lst [.ref 0, .int turn]]
/-- .. at most t turns behind us -/
def Src (t : Nat) (s : S) : Prop := ∃ cells turn, s = stS cells turn ∧ cells ≠ [] ∧ 0 ≤ turn ∧ turn ≤ (t : Int)
theorem sm2_lit (i : Int) (h : (decide (-(2 ^ 64) < i) && decide (i < 2 ^ 64)) = true) : Sm2 64 i := by
  simp only [Bool.and_eq_true, decide_eq_true_eq] at h
  exact h
theorem at_int {cells : List Int} {p : Int} (h0 : 0 ≤ p) (h1 : p < cells.length) : ∃ v, L2.atI (cells.map D.int) p = some (D.int v) ∧ L2.ixN (cells.map D.int).length p = some p.toNat := by
  have hl : p.toNat < cells.length := by omega
  have e1 : L2.ixN (cells.map D.int).length p = some p.toNat := by
    unfold L2.ixN
    rw [List.length_map, if_pos h0, if_pos h1]
  refine ⟨cells[p.toNat], ?_, e1⟩
  unfold L2.atI
  rw [e1]
  simp [List.getElem?_map, List.getElem?_eq_getElem hl]
theorem draw_ok {P : Prog} {n : Nat} {t : Nat} {s : S} {limit : Int} {E : D → S → Prop} {Q : X → S → Prop} (h : P.tab 11 = some f11_law_draw) (hs : Src t s) (h1 : t < 2 ^ 1000) (hl : 0 < limit) (hl2 : limit < 2 ^ 1000)
    (q : ∀ v s', 0 ≤ v → v < limit → Src (t + 1) s' → Q (.v (.int v)) s') : WR E Q (callN P (n + 1) 11 [.v (.ref 1), .v (.int limit)] s) := by
  obtain ⟨cells, turn, rfl, hc, h0, ht⟩ := hs
  have hp : (0 : Int) < (cells.map D.int).length := by
    cases cells with
    | nil => exact absurd rfl hc
    | cons => simp only [List.map_cons, List.length_cons]; omega
  have hS : Sm2 1000 limit := ⟨by omega, hl2⟩
  have hT : Sm2 1000 turn := ⟨by omega, by omega⟩
  have fin : ∀ v c', 0 ≤ v → v < limit → c' ≠ [] → Q (.v (.int v)) (stS c' (turn + 1)) := fun v c' v0 v1 e => q v _ v0 v1 ⟨c', turn + 1, rfl, e, by omega, by omega⟩
  have sm : ∀ (v : Int), 0 ≤ v → v < 2147483647 → Sm2 64 v := fun v v0 v1 => ⟨by omega, by omega⟩
  have lit : ∀ (v : Int), (decide (-(2 ^ 64) < v) && decide (v < 2 ^ 64)) = true → Sm2 64 v := sm2_lit
  refine u_fn h rfl ?_
  repeat left
  refine c_mod' hp fun p p0 p1 => ?_
  repeat left
  obtain ⟨cell, ec, ei⟩ := at_int (cells := cells) p0 (by rw [List.length_map] at p1; exact p1)
  refine c_subR rfl ec ?_
  repeat left
  refine ⟨fun hk => ?_, fun hk => ?_⟩
  · repeat left
    refine c_fdiv hl (hS.le (by decide)) ?_
    repeat left
    refine c_set rfl rfl ei ?_
    repeat left
    refine c_mod' hl fun v v0 v1 => ?_
    repeat left
    have e := fin v (cells.set p.toNat (cell / limit)) v0 v1 (by
      intro e
      have := congrArg List.length e
      rw [List.length_set] at this
      exact hc (List.length_eq_zero_iff.mp this))
    unfold stS at e
    rw [List.map_set] at e
    exact e
  · repeat left
    refine c_mod' (by decide) fun a a0 a1 => ?_
    repeat left
    refine c_mul (sm a a0 (by omega)) (lit _ (by decide)) (by decide) ?_
    repeat left
    refine c_mul hT hT (by decide) ?_
    repeat left
    refine c_mul (hT.mul hT) (lit _ (by decide)) (by decide) ?_
    repeat left
    refine c_mod' (by decide) fun b b0 b1 => ?_
    repeat left
    refine c_mul (sm b b0 (by omega)) (sm b b0 (by omega)) (by decide) ?_
    repeat left
    refine c_mod' (by decide) fun c c0 c1 => ?_
    repeat left
    refine c_mul (sm c c0 (by omega)) (sm c c0 (by omega)) (by decide) ?_
    repeat left
    refine c_mod' (by decide) fun d d0 d1 => ?_
    repeat left
    refine ⟨fun hk => ?_, fun hk => ?_⟩
    · repeat left
      refine c_mul (sm d d0 (by omega)) (lit _ (by decide)) (by decide) ?_
      repeat left
      refine c_mul hT (lit _ (by decide)) (by decide) ?_
      repeat left
      refine c_mod' (by decide) fun e e0 e1 => ?_
      have se := sm e e0 (by omega)
      repeat left
      refine c_mul se se (by decide) ?_
      repeat left
      refine c_mul (se.mul se) se (by decide) ?_
      repeat left
      refine c_mul (sm d d0 (by omega)) (((se.mul se).mul se).add (lit _ (by decide))) (by decide) ?_
      repeat left
      refine c_mod' hl fun v v0 v1 => ?_
      repeat left
      exact fin v cells v0 v1 hc
    · repeat left
      refine c_mod' hl fun v v0 v1 => ?_
      repeat left
      exact fin v cells v0 v1 hc
end Co
/-! PuC: grants. -/
namespace Co
open PySem
/-- one step -/
local macro_rules | `(tactic| left) => `(tactic| first
  | refine u_then ?_ | refine u_var rfl ?_ | refine u_cst ?_ | refine u_nil ?_ | refine u_cons ?_ | refine u_bin ?_ | refine u_cmp ?_ | refine u_asgN ?_ | refine u_bi ?_ | refine u_sub ?_ | refine u_ifs ?_ | refine u_tup ?_ | refine u_lst ?_ | refine u_call ?_
  | refine a_sto rfl ?_ | refine a_tru rfl ?_ | refine c_add ?_ | refine c_sub ?_ | refine c_lenL ?_ | refine c_lenT ?_ | refine c_lenV ?_ | refine c_min ?_ | refine c_max ?_ | refine a_bi rfl ?_ | refine a_int rfl ?_ | refine a_stos rfl ?_ | refine a_own rfl ?_ | refine nv_v ?_ | refine nv_own ?_
  | refine c_ge ?_ | refine c_gt ?_ | refine c_le ?_ | refine c_lt ?_ | refine c_eq ?_ | refine c_ne ?_ | refine c_eqS ?_ | refine c_neS ?_ | refine c_eqB ?_ | refine c_neB ?_ | refine c_isN rfl ?_ | refine c_notN rfl ?_
  | refine c_p18 ?_ | refine c_p30 ?_ | refine c_p9 ?_ | refine c_pow (by decide) (by rfl) ?_
  | refine ⟨fun z => Bool.noConfusion z, fun _ => ?_⟩ | refine ⟨fun _ => ?_, fun z => Bool.noConfusion z⟩ | refine ⟨fun _ => ?_, fun z => absurd rfl z⟩
  | refine st0 ?_ | refine st1 ?_ | refine st2 ?_ | refine st3 ?_ | refine st4 ?_ | refine st5 ?_ | refine st6 ?_ | refine st7 ?_ | refine st8 ?_ | refine st9 ?_ | refine st10 ?_ | refine st11 ?_ | refine st12 ?_ | refine st13 ?_ | refine st14 ?_ | refine st15 ?_ | refine st16 ?_ | refine st17 ?_ | refine st18 ?_ | refine st19 ?_ | refine st20 ?_ | refine st21 ?_ | refine st22 ?_ | refine st23 ?_ | refine st24 ?_ | refine st25 ?_ | refine st26 ?_ | refine st27 ?_ | refine st28 ?_ | refine st29 ?_
  | refine u_done ?_ | refine u_own ?_ | refine u_ret ?_ | refine u_refSet ?_ | refine u_asgT ?_ | refine u_neg ?_ | refine u_ands ?_ | refine u_ors ?_ | refine u_not ?_ | refine u_chain ?_
  | refine u_glob (by first | rfl | assumption) ?_ | refine u_isi ?_ | refine a_isi rfl ?_ | refine u_b1 ?_ | refine u_b2 ?_ | refine u_ife ?_ | refine u_expr ?_ | refine u_sli ?_ | refine u_onone ?_ | refine u_osome ?_ | refine u_rng1 ?_ | refine u_rng2 ?_ | refine u_newref ?_ | refine u_retMv rfl ?_ | refine u_forN ?_ | refine u_itV rfl ?_ | refine u_it ?_ | refine u_allc ?_ | refine u_i0 ?_ | refine u_i1 ?_ | refine u_setItem rfl ?_ | refine u_app rfl ?_ | refine u_insrt rfl ?_ | refine u_toRef rfl ?_ | refine u_pass ?_ | refine u_retN ?_
  | refine c_set rfl rfl rfl ?_ | refine bn_tup ?_ | refine bn_ref rfl ?_ | refine bn_cons ?_ | refine bn_nil ?_ | refine c_subT rfl ?_ | refine c_subL rfl ?_ | refine c_subV rfl ?_ | refine c_subR rfl rfl ?_)
/-- is_integer -/
def f1_is_integer : Fn := { ps := ["value"], N := ["value"], body := [.ret (.ands [.isi .int (.var 0), .not (.isi .bool (.var 0))])] }
/-- is_name -/
def f2_is_name : Fn := { ps := ["value"], N := ["value", "letter"], body := [.ret (.ands [.isi .str (.var 0), .chain .le .le (.cst (.int 1)) (.bi .len [.var 0]) (.glob 1), .allc (.lc (.cmp .in (.var 1) (.glob 0)) (.name 1) (.var 0) [])])] }
/-- is_time -/
def f3_is_time : Fn := { ps := ["value"], N := ["value"], body := [.ret (.ands [.call 1 [.var 0], .chain .le .le (.neg (.glob 2)) (.var 0) (.glob 2)])] }
/-- is_level -/
def f4_is_level : Fn := { ps := ["value"], N := ["value"], body := [.ret (.ands [.call 1 [.var 0], .chain .le .le (.cst (.int 1)) (.var 0) (.glob 3)])] }
/-- is_passes -/
def f5_is_passes : Fn := { ps := ["value"], N := ["value"], body := [.ret (.ands [.call 1 [.var 0], .chain .le .le (.cst (.int 0)) (.var 0) (.glob 4)])] }
/-- grant_error -/
def f6_grant_error : Fn := { ps := ["value"], N := ["value", "time", "giver", "taker", "level", "passes"], body := [.ifs (.ors [.not (.isi .tuple (.var 0)), .cmp .ne (.bi .len [.var 0]) (.cst (.int 5))]) [.ret (.tup [.cst (.str "grant")])] [], .asg (.tup [1, 2, 3, 4, 5]) (.var 0), .ifs (.not (.call 3 [.var 1])) [.ret (.tup [.cst (.str "time")])] [], .ifs (.not (.call 2 [.var 2])) [.ret (.tup [.cst (.str "giver")])] [], .ifs (.not (.call 2 [.var 3])) [.ret (.tup [.cst (.str "taker")])] [], .ifs (.cmp .eq (.var 2) (.var 3)) [.ret (.tup [.cst (.str "same")])] [], .ifs (.not (.call 4 [.var 4])) [.ret (.tup [.cst (.str "level")])] [], .ret (.ife (.call 5 [.var 5]) (.cst .non) (.tup [.cst (.str "passes")]))] }
structure TG (P : Prog) : Prop where
  t1 : P.tab 1 = some f1_is_integer
  t2 : P.tab 2 = some f2_is_name
  t3 : P.tab 3 = some f3_is_time
  t4 : P.tab 4 = some f4_is_level
  t5 : P.tab 5 = some f5_is_passes
  t6 : P.tab 6 = some f6_grant_error
  g0 : P.G 0 = some (.str "abcdefghijklmnopqrstuvwxyz")
  g1 : P.G 1 = some (.int 8)
  g2 : P.G 2 = some (.int 1000000000000000000000000000000)
  g3 : P.G 3 = some (.int 9)
  g4 : P.G 4 = some (.int 20)
/-- no instance, no exception, no script -/
def plD : D → Bool
  | .ins _ _ => false
  | .exc _ _ => false
  | .scr _ => false
  | _ => true
def isIntD : D → Bool
  | .int _ => true
  | _ => false
/-- a letter of LETTERS -/
def letC (c : Nat) : Bool := !(Builtin.Str.occurrences "abcdefghijklmnopqrstuvwxyz" ⟨#[c]⟩ 0 (Str.length "abcdefghijklmnopqrstuvwxyz") 1).isEmpty
def nameB (x : Str) : Bool := decide (1 ≤ (x.length : Int)) && decide ((x.length : Int) ≤ 8) && x.cps.toList.all letC
def isNameD : D → Bool
  | .str x => nameB x
  | _ => false
def inB (lo hi : Int) : D → Bool
  | .int i => decide (lo ≤ i) && decide (i ≤ hi)
  | _ => false
section
variable {P : Prog} {n : Nat} {E : D → S → Prop} {Q : X → S → Prop} {s : S} {d : D}
theorem is_integer_ok (T : TG P) (hd : plD d = true) (q : Q (.v (.bl (isIntD d))) s) : WR E Q (callN P (n + 1) 1 [.v d] s) := by
  cases d <;> first | (cases hd; done) | skip
  all_goals (refine u_fn T.t1 rfl ?_; repeat left)
  all_goals exact q
theorem all_map (l : List Nat) : ((l.map fun c => D.bl (letC c)).length = l.length) ∧ bools (l.map fun c => D.bl (letC c)) = some (l.map letC) ∧ (l.map letC).all id = l.all letC := by
  induction l with
  | nil => exact ⟨rfl, rfl, rfl⟩
  | cons c l ih =>
    refine ⟨by simp, ?_, ?_⟩
    · simp only [List.map_cons, bools, ih.2.1, Option.map_some]
    · simp only [List.map_cons, List.all_cons, ih.2.2, id]
theorem is_name_ok (T : TG P) (hd : plD d = true) (hz : ∀ x, d = .str x → x.length ≤ sizeLine) (q : Q (.v (.bl (isNameD d))) s) : WR E Q (callN P (n + 1) 2 [.v d] s) := by
  have g0 := T.g0
  have g1 := T.g1
  cases d with
  | str x =>
    refine u_fn T.t2 rfl ?_
    repeat left
    refine c_lenS (hz x rfl) ?_
    repeat left
    refine ⟨fun h1 => ?_, fun h1 => ?_⟩
    · repeat left
      have e : isNameD (.str x) = false := by simp only [isNameD, nameB, h1, Bool.false_and]
      rw [e] at q
      exact q
    · repeat left
      refine ⟨fun h2 => ?_, fun h2 => ?_⟩
      · repeat left
        have e : isNameD (.str x) = false := by simp only [isNameD, nameB, h2, Bool.and_false, Bool.false_and]
        rw [e] at q
        rw [h2]
        exact q
      · repeat left
        refine u_lcN ?_
        repeat left
        refine ⟨_, if_pos (hz x rfl), fun j acc s' => s' = s ∧ acc = ((x.cps.toList.take j).map fun c => D.bl (letC c)), ⟨rfl, rfl⟩, fun j d acc s' hd ⟨hs, ha⟩ => ?_, fun acc s' ⟨hs, ha⟩ => ?_⟩
        · subst hs
          rw [List.getElem?_map] at hd
          obtain ⟨c, hc, rfl⟩ := Option.map_eq_some_iff.mp hd
          repeat left
          refine a_cmp (z := letC c) rfl ?_
          repeat left
          refine ⟨rfl, ?_⟩
          rw [ha, List.take_succ, hc, List.map_append]
          rfl
        · subst hs ha
          rw [List.length_map, List.take_length]
          obtain ⟨_, m2, m3⟩ := all_map x.cps.toList
          refine ⟨_, _, rfl, m2, ?_⟩
          repeat left
          have e : isNameD (.str x) = (x.cps.toList.map letC).all id := by simp only [isNameD, nameB, h1, h2, m3, Bool.true_and]
          rw [e] at q
          exact q
  | ins => cases hd
  | exc => cases hd
  | scr => cases hd
  | _ =>
    refine u_fn T.t2 rfl ?_
    repeat left
    exact q
theorem and_l {a b : Bool} (h : a = false) : (a && b) = false := by rw [h]; rfl
theorem is_in_ok {lo hi : Int} {f : Nat} {fd : Fn} {elo ehi : Co.E} (T : TG P) (h : P.tab f = some fd) (e1 : fd.ps = (["value"] : List Str)) (e2 : fd.N = (["value"] : List Str)) (e3 : fd.body = [.ret (.ands [.call 1 [.var 0], .chain .le .le elo (.var 0) ehi])])
    (ho : ∀ (E : D → S → Prop) (Q : X → S → Prop) (F : Fns) (sl : Sl) (s : S), Q (.v (.int lo)) s → We E Q P.G F sl elo s) (hi' : ∀ (E : D → S → Prop) (Q : X → S → Prop) (F : Fns) (sl : Sl) (s : S), Q (.v (.int hi)) s → We E Q P.G F sl ehi s)
    (hd : plD d = true) (q : Q (.v (.bl (inB lo hi d))) s) : WR E Q (callN P (n + 2) f [.v d] s) := by
  refine u_fn h (by rw [e1]; rfl) ?_
  rw [e2, e3]
  repeat left
  refine is_integer_ok T hd ?_
  repeat left
  cases d with
  | int i =>
    repeat left
    refine ho _ _ _ _ _ ?_
    repeat left
    refine ⟨fun h1 => ?_, fun h1 => ?_⟩
    · repeat left
      have e : inB lo hi (.int i) = false := by simp only [inB, h1, Bool.false_and]
      rw [e] at q
      exact q
    · repeat left
      refine hi' _ _ _ _ _ ?_
      repeat left
      have e : inB lo hi (.int i) = decide (i ≤ hi) := by simp only [inB, h1, Bool.true_and]
      rw [e] at q
      exact q
  | ins => cases hd
  | exc => cases hd
  | scr => cases hd
  | _ =>
    repeat left
    exact q
theorem is_time_ok (T : TG P) (hd : plD d = true) (q : Q (.v (.bl (inB (-1000000000000000000000000000000) 1000000000000000000000000000000 d))) s) : WR E Q (callN P (n + 2) 3 [.v d] s) := by
  have g2 := T.g2
  refine is_in_ok T T.t3 rfl rfl rfl (fun E Q F sl s q => ?_) (fun E Q F sl s q => ?_) hd q
  · repeat left
    exact q
  · repeat left
    exact q
theorem is_level_ok (T : TG P) (hd : plD d = true) (q : Q (.v (.bl (inB 1 9 d))) s) : WR E Q (callN P (n + 2) 4 [.v d] s) := by
  have g3 := T.g3
  refine is_in_ok T T.t4 rfl rfl rfl (fun E Q F sl s q => ?_) (fun E Q F sl s q => ?_) hd q
  · repeat left
    exact q
  · repeat left
    exact q
theorem is_passes_ok (T : TG P) (hd : plD d = true) (q : Q (.v (.bl (inB 0 20 d))) s) : WR E Q (callN P (n + 2) 5 [.v d] s) := by
  have g4 := T.g4
  refine is_in_ok T T.t5 rfl rfl rfl (fun E Q F sl s q => ?_) (fun E Q F sl s q => ?_) hd q
  · repeat left
    exact q
  · repeat left
    exact q
/-- a grant -/
def gD (t : Int) (a b : Str) (l p : Int) : D := .tup [.int t, .str a, .str b, .int l, .int p]
structure Grt (t : Int) (a b : Str) (l p : Int) : Prop where
  t0 : -1000000000000000000000000000000 ≤ t
  t1 : t ≤ 1000000000000000000000000000000
  na : nameB a = true
  nb : nameB b = true
  ne : a ≠ b
  l0 : 1 ≤ l
  l1 : l ≤ 9
  p0 : 0 ≤ p
  p1 : p ≤ 20
theorem nameB_len {x : Str} (h : nameB x = true) : x.length ≤ sizeLine := by
  unfold nameB at h
  simp only [Bool.and_eq_true, decide_eq_true_eq] at h
  have := h.1.2
  rw [sizeLine_eq]
  omega
theorem str_len {y : Str} (h : nameB y = true) : ∀ x, D.str y = .str x → x.length ≤ sizeLine := fun x e => by
  cases e
  exact nameB_len h
theorem grant_error_ok (T : TG P) {t : Int} {a b : Str} {l p : Int} (g : Grt t a b l p) (q : Q (.v .non) s) : WR E Q (callN P (n + 3) 6 [.v (gD t a b l p)] s) := by
  refine u_fn T.t6 rfl ?_
  repeat left
  refine is_time_ok T rfl ?_
  rw [show inB _ _ (D.int t) = true by simp only [inB, decide_eq_true g.t0, decide_eq_true g.t1, Bool.and_self]]
  repeat left
  refine is_name_ok T rfl (str_len g.na) ?_
  rw [show isNameD (D.str a) = true from g.na]
  repeat left
  refine is_name_ok T rfl (str_len g.nb) ?_
  rw [show isNameD (D.str b) = true from g.nb]
  repeat left
  rw [decide_eq_false g.ne]
  repeat left
  refine is_level_ok T rfl ?_
  rw [show inB _ _ (D.int l) = true by simp only [inB, decide_eq_true g.l0, decide_eq_true g.l1, Bool.and_self]]
  repeat left
  refine is_passes_ok T rfl ?_
  rw [show inB _ _ (D.int p) = true by simp only [inB, decide_eq_true g.p0, decide_eq_true g.p1, Bool.and_self]]
  repeat left
  exact q
end
end Co
/-! PuD: support; the source; picks and shuffles. -/
namespace Co
open PySem
/-- one step -/
local macro_rules | `(tactic| left) => `(tactic| first
  | refine u_then ?_ | refine u_var rfl ?_ | refine u_cst ?_ | refine u_nil ?_ | refine u_cons ?_ | refine u_bin ?_ | refine u_cmp ?_ | refine u_asgN ?_ | refine u_bi ?_ | refine u_sub ?_ | refine u_ifs ?_ | refine u_tup ?_ | refine u_lst ?_ | refine u_call ?_
  | refine a_sto rfl ?_ | refine a_tru rfl ?_ | refine c_add ?_ | refine c_sub ?_ | refine c_lenL ?_ | refine c_lenT ?_ | refine c_lenV ?_ | refine c_min ?_ | refine c_max ?_ | refine a_bi rfl ?_ | refine a_int rfl ?_ | refine a_stos rfl ?_ | refine a_own rfl ?_ | refine nv_v ?_ | refine nv_own ?_
  | refine c_ge ?_ | refine c_gt ?_ | refine c_le ?_ | refine c_lt ?_ | refine c_eq ?_ | refine c_ne ?_ | refine c_eqS ?_ | refine c_neS ?_ | refine c_eqB ?_ | refine c_neB ?_ | refine c_isN rfl ?_ | refine c_notN rfl ?_
  | refine c_p18 ?_ | refine c_p30 ?_ | refine c_p9 ?_ | refine c_pow (by decide) (by rfl) ?_
  | refine ⟨fun z => Bool.noConfusion z, fun _ => ?_⟩ | refine ⟨fun _ => ?_, fun z => Bool.noConfusion z⟩ | refine ⟨fun _ => ?_, fun z => absurd rfl z⟩
  | refine st0 ?_ | refine st1 ?_ | refine st2 ?_ | refine st3 ?_ | refine st4 ?_ | refine st5 ?_ | refine st6 ?_ | refine st7 ?_ | refine st8 ?_ | refine st9 ?_ | refine st10 ?_ | refine st11 ?_ | refine st12 ?_ | refine st13 ?_ | refine st14 ?_ | refine st15 ?_ | refine st16 ?_ | refine st17 ?_ | refine st18 ?_ | refine st19 ?_ | refine st20 ?_ | refine st21 ?_ | refine st22 ?_ | refine st23 ?_ | refine st24 ?_ | refine st25 ?_ | refine st26 ?_ | refine st27 ?_ | refine st28 ?_ | refine st29 ?_
  | refine u_done ?_ | refine u_own ?_ | refine u_ret ?_ | refine u_refSet ?_ | refine u_asgT ?_ | refine u_neg ?_ | refine u_ands ?_ | refine u_ors ?_ | refine u_not ?_ | refine u_chain ?_
  | refine u_glob (by first | rfl | assumption) ?_ | refine u_isi ?_ | refine a_isi rfl ?_ | refine u_b1 ?_ | refine u_b2 ?_ | refine u_ife ?_ | refine u_expr ?_ | refine u_sli ?_ | refine u_onone ?_ | refine u_osome ?_ | refine u_rng1 ?_ | refine u_rng2 ?_ | refine u_newref ?_ | refine u_retMv rfl ?_ | refine u_forN ?_ | refine u_itV rfl ?_ | refine u_it ?_ | refine u_allc ?_ | refine u_i0 ?_ | refine u_i1 ?_ | refine u_setItem rfl ?_ | refine u_app rfl ?_ | refine u_insrt rfl ?_ | refine u_toRef rfl ?_ | refine u_pass ?_ | refine u_retN ?_
  | refine c_set rfl rfl rfl ?_ | refine bn_tup ?_ | refine bn_ref rfl ?_ | refine bn_cons ?_ | refine bn_nil ?_ | refine c_subT rfl ?_ | refine c_subL rfl ?_ | refine c_subV rfl ?_ | refine c_subR rfl rfl ?_)
/-- check_grant -/
def f7_check_grant : Fn := { ps := ["value"], N := ["value", "reason"], body := [.asg (.name 1) (.call 6 [.var 0]), .ifs (.cmp .isNot (.var 1) (.cst .non)) [.raise "" []] []] }
/-- is_support -/
def f8_is_support : Fn := { ps := ["first", "second"], N := ["first", "second", "time", "giver", "taker", "level", "passes"], body := [.asg (.tup [2, 3, 4, 5, 6]) (.var 0), .ifs (.ors [.cmp .ne (.var 4) (.sub (.var 1) (.cst (.int 1))), .cmp .ge (.var 2) (.sub (.var 1) (.cst (.int 0)))]) [.ret (.cst (.bl false))] [], .ret (.ands [.cmp .ge (.var 5) (.sub (.var 1) (.cst (.int 3))), .cmp .gt (.var 6) (.sub (.var 1) (.cst (.int 4)))])] }
/-- supports -/
def f9_supports : Fn := { ps := ["first", "second"], N := ["first", "second"], body := [.expr (.call 7 [.var 0]), .expr (.call 7 [.var 1]), .ret (.call 8 [.var 0, .var 1])] }
/-- _law_source -/
def f10_law_source : Fn := { ps := ["script"], N := ["script", "cells", "k"], body := [.asgOwn 1 (.sli (.var 0) none (some (.cst (.int 63)))), .for_ (.name 2) (.rng1 (.bi .len [.var 1])) [.ifs (.cmp .ge (.bi .abs [.sub (.var 1) (.var 2)]) (.bin .pow (.cst (.int 10)) (.cst (.int 18)))) [.setItem 1 (.var 2) (.bin .mod (.bi .int [.sub (.var 1) (.var 2)]) (.bin .pow (.bin .pow (.cst (.int 10)) (.cst (.int 60))) (.cst (.int 20))))] []], .ifs (.cmp .eq (.var 1) (.lst [])) [.asgOwn 1 (.lst [.cst (.int 0)])] [], .toRef 1, .ret (.newref (.lst [.var 1, .cst (.int 0)]))] }
/-- _law_pick -/
def f12_law_pick : Fn := { ps := ["source", "values"], N := ["source", "values"], body := [.ret (.sub (.var 1) (.call 11 [.var 0, .bi .len [.var 1]]))] }
/-- _law_shuffle -/
def f13_law_shuffle : Fn := { ps := ["source", "values"], N := ["source", "values", "result", "value"], body := [.asgOwn 2 (.lst []), .for_ (.name 3) (.var 1) [.insrt 2 (.call 11 [.var 0, .bin .add (.bi .len [.var 2]) (.cst (.int 1))]) (.var 3)], .retMv 2] }
def supB (t1 : Int) (b1 : Str) (l1 p1 t2 : Int) (a2 : Str) (l2 p2 : Int) : Bool := decide (b1 = a2) && decide (t1 < t2) && decide (l2 ≤ l1) && decide (p2 < p1)
section
variable {P : Prog} {n : Nat} {E : D → S → Prop} {Q : X → S → Prop} {s : S} {d : D} {t : Int} {a b : Str} {l p : Int} {t' : Int} {a' b' : Str} {l' p' : Int}
theorem check_grant_ok (T : TG P) (h : P.tab 7 = some f7_check_grant) (g : Grt t a b l p) (q : Q (.v .non) s) : WR E Q (callN P (n + 4) 7 [.v (gD t a b l p)] s) := by
  refine u_fn h rfl ?_
  repeat left
  refine grant_error_ok T g ?_
  repeat left
  exact q
theorem is_support_ok (h : P.tab 8 = some f8_is_support) (q : Q (.v (.bl (supB t b l p t' a' l' p'))) s) : WR E Q (callN P (n + 1) 8 [.v (gD t a b l p), .v (gD t' a' b' l' p')] s) := by
  refine u_fn h rfl ?_
  unfold supB at q
  repeat left
  by_cases h1 : b = a'
  · rw [decide_eq_true h1] at q ⊢
    repeat left
    by_cases h2 : t < t'
    · rw [decide_eq_true h2] at q
      rw [decide_eq_false (show ¬ t' ≤ t by omega)]
      repeat left
      by_cases h3 : l' ≤ l
      · rw [decide_eq_true h3] at q ⊢
        repeat left
        exact q
      · rw [decide_eq_false h3] at q ⊢
        repeat left
        exact q
    · rw [decide_eq_false h2] at q
      rw [decide_eq_true (show t' ≤ t by omega)]
      repeat left
      exact q
  · rw [decide_eq_false h1] at q ⊢
    repeat left
    exact q
theorem supports_ok (T : TG P) (h7 : P.tab 7 = some f7_check_grant) (h8 : P.tab 8 = some f8_is_support) (h9 : P.tab 9 = some f9_supports) (g : Grt t a b l p) (g' : Grt t' a' b' l' p') (q : Q (.v (.bl (supB t b l p t' a' l' p'))) s) :
    WR E Q (callN P (n + 5) 9 [.v (gD t a b l p), .v (gD t' a' b' l' p')] s) := by
  refine u_fn h9 rfl ?_
  repeat left
  refine check_grant_ok T h7 g ?_
  repeat left
  refine check_grant_ok T h7 g' ?_
  repeat left
  refine is_support_ok h8 ?_
  repeat left
  exact q
/-! ### the source -/
theorem pys_ints : ∀ (cs : List Int), D.pys (cs.map D.int) = some (cs.map PyData.int)
  | [] => by simp only [List.map_nil, D.pys]
  | c :: cs => by simp only [List.map_cons, D.pys, D.py, pys_ints cs]
theorem eq_empty {Q : Bool → Prop} {s : S} {cs : List Int} (q : Q cs.isEmpty) : Cm .eq s (X.vw (cs.map D.int)) (X.v (.lst [])) Q := by
  refine a_cmp (z := cs.isEmpty) ?_ q
  have e1 : (X.vw (cs.map D.int)).py s = some (.list (cs.map .int)) := by
    simp only [X.py, X.d, D.py, pys_ints, Option.map_some]
  have e2 : (X.v (.lst [])).py s = some (.list []) := by
    simp only [X.py, X.d, D.py, D.pys, Option.map_some]
  simp only [cmpE, eqE, e1, e2]
  have e3 : PyData.depth (.list []) ≤ 64 := by decide
  rw [if_pos (Or.inr e3)]
  cases cs <;> simp [PyData.eqv, PyData.eqvAll]
theorem rng_get {lo : Int} {n j : Nat} {d : D} (h : (rngD lo n)[j]? = some d) : j < n ∧ d = .int (lo + j) := by
  unfold rngD at h
  rw [List.getElem?_map] at h
  obtain ⟨c, ec, rfl⟩ := Option.map_eq_some_iff.mp h
  obtain ⟨hl, e1⟩ := List.getElem?_eq_some_iff.mp ec
  rw [List.length_range] at hl
  rw [List.getElem_range] at e1
  subst e1
  exact ⟨hl, rfl⟩
theorem rng_len {lo : Int} {n : Nat} : (rngD lo n).length = n := by unfold rngD; rw [List.length_map, List.length_range]
theorem rOk_of {i : Int} (h0 : -1000000 ≤ i) (h1 : i ≤ 1000000) : rOk i = true := by
  unfold rOk
  rw [decide_eq_true h0, decide_eq_true h1]
  rfl
theorem cut_len {α : Type} (xs : List α) (lo hi : Option Int) : (cut xs lo hi).length ≤ xs.length := by
  unfold cut
  rw [List.length_take, List.length_drop]
  omega
theorem src_ok (h : P.tab 10 = some f10_law_source) {ns : List Int} (hn : ns.length ≤ 63) (q : ∀ s, Src 0 s → Q (.v (.ref 1)) s) : WR E Q (callN P (n + 1) 10 [.v (.scr ns)] []) := by
  refine u_fn h rfl ?_
  repeat left
  refine a_sli rfl ?_
  repeat left
  have hl := cut_len ns none (some 63)
  generalize cut ns none (some 63) = cs at hl ⊢
  have hl2 : ((cs.map D.int).length : Int) ≤ 63 := by rw [List.length_map]; omega
  refine ⟨rOk_of (by omega) (by omega), nv_own ⟨_, rfl, fun j sl s => s = [] ∧ ∃ (c : List Int) (x : Option X), c.length = cs.length ∧ sl = [some (.v (.scr ns)), some (.own (c.map .int)), x], ⟨rfl, cs, none, rfl, rfl⟩, fun j d sl s hd ⟨hs, c, x, hc, hsl⟩ => ?_, fun sl s ⟨hs, c, x, hc, hsl⟩ => ?_⟩⟩
  · subst hs hsl
    obtain ⟨hj, rfl⟩ := rng_get hd
    have hj2 : j < c.length := by rw [hc]; simpa using hj
    obtain ⟨v, e1, e2⟩ := at_int (cells := c) (p := 0 + (j : Int)) (by omega) (by omega)
    repeat left
    refine c_subV e1 ?_
    repeat left
    refine ⟨fun hk => ?_, fun hk => ?_⟩
    · repeat left
      refine c_subV e1 ?_
      repeat left
      refine c_mod (by decide) ?_
      repeat left
      refine ⟨_, e2, ?_⟩
      repeat left
      refine ⟨rfl, c.set (0 + (j : Int)).toNat (v % (10 ^ 60) ^ 20), some (.v (.int (0 + (j : Int)))), by rw [List.length_set]; exact hc, ?_⟩
      rw [List.map_set]
      rfl
    · repeat left
      exact ⟨rfl, c, some (.v (.int (0 + (j : Int)))), hc, rfl⟩
  · subst hs hsl
    repeat left
    refine eq_empty ?_
    repeat left
    refine ⟨fun hk => ?_, fun hk => ?_⟩
    · repeat left
      exact q _ ⟨[0], 0, rfl, by simp, by omega, by omega⟩
    · repeat left
      exact q _ ⟨c, 0, rfl, (by intro e; rw [e] at hk; cases hk), by omega, by omega⟩
/-! ### picks, shuffles -/
theorem at_mem {ds : List D} {v : Int} (h0 : 0 ≤ v) (h1 : v < ds.length) : ∃ d, L2.atI ds v = some d ∧ d ∈ ds := by
  have hl : v.toNat < ds.length := by omega
  refine ⟨ds[v.toNat], ?_, List.getElem_mem hl⟩
  unfold L2.atI L2.ixN
  rw [if_pos h0, if_pos h1]
  exact List.getElem?_eq_getElem hl
theorem p1000 {m : Nat} (h : m ≤ 1000000) : (m : Int) < 2 ^ 1000 := by omega
/-- a list as an argument -/
def lsX (ds : List D) (x : X) : Prop := x = .v (.lst ds) ∨ x = .vw ds
theorem pick_ok (h11 : P.tab 11 = some f11_law_draw) (h : P.tab 12 = some f12_law_pick) {tt : Nat} {ds : List D} {x : X} (hx : lsX ds x) (hs : Src tt s) (ht : tt < 2 ^ 1000) (hd : ds ≠ []) (hl : ds.length ≤ 1000000) (q : ∀ d s', d ∈ ds → Src (tt + 1) s' → Q (.v d) s') :
    WR E Q (callN P (n + 2) 12 [.v (.ref 1), x] s) := by
  have hp : (0 : Int) < ds.length := by
    cases ds with
    | nil => exact absurd rfl hd
    | cons => simp only [List.length_cons]; omega
  refine u_fn h (by rfl) ?_
  rcases hx with rfl | rfl
  · repeat left
    refine draw_ok h11 hs ht hp (p1000 hl) fun v s' v0 v1 hs' => ?_
    obtain ⟨d, e, m⟩ := at_mem v0 v1
    refine c_subL e ?_
    repeat left
    exact q d s' m hs'
  · repeat left
    refine draw_ok h11 hs ht hp (p1000 hl) fun v s' v0 v1 hs' => ?_
    obtain ⟨d, e, m⟩ := at_mem v0 v1
    refine c_subV e ?_
    repeat left
    exact q d s' m hs'
theorem ins_perm {r ds : List D} {j k : Nat} {d : D} (h : r.Perm (ds.take j)) (hd : ds[j]? = some d) : (r.take k ++ [d] ++ r.drop k).Perm (ds.take (j + 1)) := by
  rw [List.take_succ, hd]
  have e1 : (r.take k ++ [d] ++ r.drop k).Perm (d :: (r.take k ++ r.drop k)) := by
    rw [List.append_assoc]
    exact List.perm_middle
  rw [List.take_append_drop] at e1
  refine e1.trans ((List.Perm.cons d h).trans ?_)
  exact (List.perm_append_singleton d (ds.take j)).symm
theorem shuffle_ok (h11 : P.tab 11 = some f11_law_draw) (h : P.tab 13 = some f13_law_shuffle) {tt : Nat} {ds : List D} {x : X} (hx : lsX ds x) (hs : Src tt s) (ht : tt < 2 ^ 999) (hl : ds.length ≤ 1000000) (q : ∀ r s', r.Perm ds → Src (tt + ds.length) s' → Q (.own r) s') :
    WR E Q (callN P (n + 2) 13 [.v (.ref 1), x] s) := by
  refine u_fn h (by rfl) ?_
  have core : ∀ (s : S) (O : Po), Src tt s → (∀ sl s, (Src (tt + ds.length) s ∧ ∃ r y, r.Perm ds ∧ sl = [some (.v (.ref 1)), some x, some (.own r), y]) → O.nx sl s) →
      ∃ J : Nat → Sl → S → Prop, J 0 [some (.v (.ref 1)), some x, some (.own []), none] s ∧ (∀ j d sl s, ds[j]? = some d → J j sl s → Stt sl 3 (some (.v d)) fun sl => Wss { O with nx := J (j + 1), ct := J (j + 1), bk := O.nx } P.G (callN P (n + 1)) sl [.insrt 2 (.call 11 [.var 0, .bin .add (.bi .len [.var 2]) (.cst (.int 1))]) (.var 3)] s) ∧ ∀ sl s, J ds.length sl s → O.nx sl s := by
    intro s O hs ho
    refine ⟨fun j sl s => Src (tt + j) s ∧ ∃ r y, r.Perm (ds.take j) ∧ r.length = j ∧ sl = [some (.v (.ref 1)), some x, some (.own r), y], ⟨hs, [], none, by simp, rfl, rfl⟩, fun j d sl s hd ⟨hs, r, y, hp, hr, hsl⟩ => ?_, fun sl s ⟨hs, r, y, hp, hr, hsl⟩ => ho sl s ⟨hs, r, y, by rw [List.take_length] at hp; exact hp, hsl⟩⟩
    subst hsl
    have hj : j < ds.length := (List.getElem?_eq_some_iff.mp hd).1
    repeat left
    refine draw_ok h11 hs (by omega) (by omega) (by omega) fun v s' v0 v1 hs' => ?_
    repeat left
    refine ⟨⟨by rw [sizeLine_eq]; omega, v0, ?_⟩, ?_⟩
    · unfold small
      rw [decide_eq_true (show -(2 ^ 62) ≤ v by omega), decide_eq_true (show v < 2 ^ 62 by omega)]
      rfl
    repeat left
    refine ⟨hs', r.take v.toNat ++ [d] ++ r.drop v.toNat, some (.v d), ins_perm hp hd, ?_, rfl⟩
    rw [(ins_perm hp hd).length_eq, List.length_take]
    omega
  rcases hx with rfl | rfl
  · repeat left
    refine ⟨ds, rfl, core s _ hs ?_⟩
    rintro sl s' ⟨hs', r, y, hp, rfl⟩
    repeat left
    exact q r s' hp hs'
  · repeat left
    refine core s _ hs ?_
    rintro sl s' ⟨hs', r, y, hp, rfl⟩
    repeat left
    exact q r s' hp hs'
end
end Co
/-! PuE: shown grants. -/
namespace Co
open PySem
theorem letC_lt {c : Nat} (h : letC c = true) : c < 123 := by
  unfold letC at h
  have h0 := (StrLaws.found_one "abcdefghijklmnopqrstuvwxyz" c).symm.trans h
  have h2 := of_decide_eq_true h0
  have h3 : (Str.cps "abcdefghijklmnopqrstuvwxyz").toList.all (fun c => decide (c < 123)) = true := by decide +kernel
  exact of_decide_eq_true (List.all_eq_true.mp h3 c h2)
theorem nameB_all {x : Str} (h : nameB x = true) : (x.cps.toList.all fun c => decide (c < 16 ^ 8)) = true ∧ x.cps.size ≤ 8 := by
  unfold nameB at h
  simp only [Bool.and_eq_true, decide_eq_true_eq] at h
  obtain ⟨⟨h1, h2⟩, h3⟩ := h
  refine ⟨List.all_eq_true.mpr fun c hc => decide_eq_true ?_, ?_⟩
  · have := letC_lt (List.all_eq_true.mp h3 c hc)
    have : (123 : Nat) ≤ 16 ^ 8 := by decide
    omega
  · have e : x.length = x.cps.size := rfl
    omega
/-- an int's text is not long -/
theorem int_short {i : Int} (h0 : -10000000000000000000000000000000 < i) (h1 : i < 10000000000000000000000000000000) : decide ((PyData.shown (.int i)).length ≤ 40) = true ∧ i.natAbs.log2 < 1920 ∧ PyData.weight (.int i) ≤ 200 := by
  have h2 : i.natAbs < 10 ^ 31 := by omega
  have h3 : i.natAbs.log2 ≤ 104 := log_le (k := 104) (i := i) (by omega) (by omega)
  refine ⟨decide_eq_true ?_, by omega, ?_⟩
  · have e := int_text_length_le10 (a := i) (k := 31) (by decide) h2
    have e2 : (PyData.shown (.int i)).length = (Str.ofString (toString i)).length := rfl
    have e3 : (Str.ofString (toString i)).length ≤ 32 := by
      rw [ofString_length]
      exact e
    omega
  · simp only [PyData.weight]
    split <;> omega
section
variable {t : Int} {a b : Str} {l p : Int} {t' : Int} {a' b' : Str} {l' p' : Int} {s : S} {P : X → Prop}
def gP (t : Int) (a b : Str) (l p : Int) : PyData := .tuple [.int t, .str a, .str b, .int l, .int p]
theorem gD_py : (gD t a b l p).py = some (gP t a b l p) := by
  simp only [gD, gP, D.py, D.pys, Option.map_some]
theorem gP_ok (g : Grt t a b l p) : (gP t a b l p).showable = true ∧ (gP t a b l p).leavesShort 40 = true ∧ (gP t a b l p).weight ≤ 700 ∧ (gP t a b l p).depth = 1 := by
  obtain ⟨x1, x2, x3⟩ := int_short (i := t) (by have := g.t0; omega) (by have := g.t1; omega)
  obtain ⟨y1, y2, y3⟩ := int_short (i := l) (by have := g.l0; omega) (by have := g.l1; omega)
  obtain ⟨z1, z2, z3⟩ := int_short (i := p) (by have := g.p0; omega) (by have := g.p1; omega)
  obtain ⟨u1, u2⟩ := nameB_all g.na
  obtain ⟨v1, v2⟩ := nameB_all g.nb
  refine ⟨?_, ?_, ?_, ?_⟩
  · simp only [gP, PyData.showable, PyData.showableAll, decide_eq_true x2, decide_eq_true y2, decide_eq_true z2, Bool.and_self]
  · simp only [gP, PyData.leavesShort, PyData.leavesShortAll, x1, y1, z1, u1, v1, Bool.and_self]
  · have e1 : PyData.weight (.str a) = a.cps.size := by simp only [PyData.weight]
    have e2 : PyData.weight (.str b) = b.cps.size := by simp only [PyData.weight]
    have e3 : (gP t a b l p).weight = PyData.weight (.int t) + 1 + (PyData.weight (.str a) + 1 + (PyData.weight (.str b) + 1 + (PyData.weight (.int l) + 1 + (PyData.weight (.int p) + 1 + 0)))) := by
      simp only [gP, PyData.weight, PyData.weightAll]
    omega
  · simp only [gP, PyData.depth, PyData.depthAll]
    rfl
/-- the text of two shown grants -/
@[irreducible] def sh2 (t : Int) (a b : Str) (l p : Int) (t' : Int) (a' b' : Str) (l' p' : Int) : Str := PyData.shown (.list [gP t a b l p, gP t' a' b' l' p'])
theorem repr2_ok (g : Grt t a b l p) (g' : Grt t' a' b' l' p') (q : P (.v (.str (sh2 t a b l p t' a' b' l' p')))) : Bb .repr s [X.v (.lst [gD t a b l p, gD t' a' b' l' p'])] P := by
  obtain ⟨x1, x2, x3, x4⟩ := gP_ok g
  obtain ⟨y1, y2, y3, y4⟩ := gP_ok g'
  unfold sh2 at q
  refine a_bi ?_ q
  have e1 : (X.v (.lst [gD t a b l p, gD t' a' b' l' p'])).py s = some (.list [gP t a b l p, gP t' a' b' l' p']) := by
    simp only [X.py, X.d, D.py, D.pys, gD_py, Option.map_some]
  have w : PyData.weight (.list [gP t a b l p, gP t' a' b' l' p']) ≤ 1500 := by
    simp only [PyData.weight, PyData.weightAll]
    omega
  have ln := PyData.shown_le 40 (by decide) (.list [gP t a b l p, gP t' a' b' l' p']) (by simp only [PyData.leavesShort, PyData.leavesShortAll, x2, y2, Bool.and_self])
  have c : PyData.showable (.list [gP t a b l p, gP t' a' b' l' p']) = true ∧ PyData.depth (.list [gP t a b l p, gP t' a' b' l' p']) ≤ 64 ∧ (PyData.shown (.list [gP t a b l p, gP t' a' b' l' p'])).length ≤ sizeLine ∧ isSeq (.list [gP t a b l p, gP t' a' b' l' p']) = true := by
    refine ⟨by simp only [PyData.showable, PyData.showableAll, x1, y1, Bool.and_self], ?_, ?_, rfl⟩
    · simp only [PyData.depth, PyData.depthAll, x4, y4]
      decide
    · rw [sizeLine_eq]
      omega
  simp only [biE, e1]
  exact if_pos c
end
end Co
set_option exponentiation.threshold 20000
/-! PuF: law k02. -/
namespace Co
open PySem
/-- one step -/
local macro_rules | `(tactic| left) => `(tactic| first
  | refine u_then ?_ | refine u_var rfl ?_ | refine u_cst ?_ | refine u_nil ?_ | refine u_cons ?_ | refine u_bin ?_ | refine u_cmp ?_ | refine u_asgN ?_ | refine u_bi ?_ | refine u_sub ?_ | refine u_ifs ?_ | refine u_tup ?_ | refine u_lst ?_ | refine u_call ?_
  | refine a_sto rfl ?_ | refine a_tru rfl ?_ | refine c_add ?_ | refine c_sub ?_ | refine c_lenL ?_ | refine c_lenT ?_ | refine c_lenV ?_ | refine c_min ?_ | refine c_max ?_ | refine a_bi rfl ?_ | refine a_int rfl ?_ | refine a_stos rfl ?_ | refine a_own rfl ?_ | refine nv_v ?_ | refine nv_own ?_
  | refine c_ge ?_ | refine c_gt ?_ | refine c_le ?_ | refine c_lt ?_ | refine c_eq ?_ | refine c_ne ?_ | refine c_eqS ?_ | refine c_neS ?_ | refine c_eqB ?_ | refine c_neB ?_ | refine c_isN rfl ?_ | refine c_notN rfl ?_
  | refine c_p18 ?_ | refine c_p30 ?_ | refine c_p9 ?_ | refine c_pow (by decide) (by rfl) ?_
  | refine ⟨fun z => Bool.noConfusion z, fun _ => ?_⟩ | refine ⟨fun _ => ?_, fun z => Bool.noConfusion z⟩ | refine ⟨fun _ => ?_, fun z => absurd rfl z⟩
  | refine st0 ?_ | refine st1 ?_ | refine st2 ?_ | refine st3 ?_ | refine st4 ?_ | refine st5 ?_ | refine st6 ?_ | refine st7 ?_ | refine st8 ?_ | refine st9 ?_ | refine st10 ?_ | refine st11 ?_ | refine st12 ?_ | refine st13 ?_ | refine st14 ?_ | refine st15 ?_ | refine st16 ?_ | refine st17 ?_ | refine st18 ?_ | refine st19 ?_ | refine st20 ?_ | refine st21 ?_ | refine st22 ?_ | refine st23 ?_ | refine st24 ?_ | refine st25 ?_ | refine st26 ?_ | refine st27 ?_ | refine st28 ?_ | refine st29 ?_
  | refine u_done ?_ | refine u_own ?_ | refine u_ret ?_ | refine u_refSet ?_ | refine u_asgT ?_ | refine u_neg ?_ | refine u_ands ?_ | refine u_ors ?_ | refine u_not ?_ | refine u_chain ?_
  | refine u_glob (by first | rfl | assumption) ?_ | refine u_isi ?_ | refine a_isi rfl ?_ | refine u_b1 ?_ | refine u_b2 ?_ | refine u_ife ?_ | refine u_expr ?_ | refine u_sli ?_ | refine u_onone ?_ | refine u_osome ?_ | refine u_rng1 ?_ | refine u_rng2 ?_ | refine u_newref ?_ | refine u_retMv rfl ?_ | refine u_forN ?_ | refine u_itV rfl ?_ | refine u_it ?_ | refine u_allc ?_ | refine u_i0 ?_ | refine u_i1 ?_ | refine u_setItem rfl ?_ | refine u_app rfl ?_ | refine u_insrt rfl ?_ | refine u_toRef rfl ?_ | refine u_pass ?_ | refine u_retN ?_
  | refine c_set rfl rfl rfl ?_ | refine bn_tup ?_ | refine bn_ref rfl ?_ | refine bn_cons ?_ | refine bn_nil ?_ | refine c_subT rfl ?_ | refine c_subL rfl ?_ | refine c_subV rfl ?_ | refine c_subR rfl rfl ?_)
/-- _law_is_support -/
def f23_law_is_support : Fn := { ps := ["first", "second"], N := ["first", "second"], body := [.ifs (.ors [.cmp .ne (.sub (.var 0) (.cst (.int 2))) (.sub (.var 1) (.cst (.int 1))), .cmp .ge (.sub (.var 0) (.cst (.int 0))) (.sub (.var 1) (.cst (.int 0)))]) [.ret (.cst (.bl false))] [], .ret (.ands [.cmp .ge (.sub (.var 0) (.cst (.int 3))) (.sub (.var 1) (.cst (.int 3))), .cmp .gt (.sub (.var 0) (.cst (.int 4))) (.sub (.var 1) (.cst (.int 4)))])] }
/-- _law_near -/
def f24_law_near : Fn := { ps := ["source", "grant"], N := ["source", "grant", "time", "giver", "taker", "level", "passes", "others", "name", "other"], body := [.asg (.tup [2, 3, 4, 5, 6]) (.var 1), .asg (.name 7) (.lst [.cst (.str "d"), .cst (.str "dd"), .cst (.str "da"), .cst (.str "ad")]), .asg (.name 2) (.bi .max2 [.bin .sub (.cst (.int 0)) (.bin .pow (.cst (.int 10)) (.cst (.int 30))), .bi .min2 [.bin .pow (.cst (.int 10)) (.cst (.int 30)), .bin .sub (.bin .add (.var 2) (.call 11 [.var 0, .cst (.int 3)])) (.cst (.int 1))]]), .asg (.name 5) (.bi .max2 [.cst (.int 1), .bi .min2 [.cst (.int 9), .bin .sub (.bin .add (.var 5) (.call 11 [.var 0, .cst (.int 3)])) (.cst (.int 1))]]), .asg (.name 6) (.bi .max2 [.cst (.int 0), .bi .min2 [.cst (.int 20), .bin .sub (.bin .add (.var 6) (.call 11 [.var 0, .cst (.int 3)])) (.cst (.int 1))]]), .asg (.name 8) (.call 12 [.var 0, .lc (.var 9) (.name 9) (.var 7) [.cmp .ne (.var 9) (.var 4)]]), .ifs (.cmp .eq (.call 11 [.var 0, .cst (.int 5)]) (.cst (.int 0))) [.ret (.tup [.var 2, .var 8, .var 4, .var 5, .var 6])] [], .ret (.tup [.var 2, .var 4, .var 8, .var 5, .var 6])] }
/-- law -/
def f25_law : Fn := { ps := ["script"], N := ["script", "source", "k", "names", "far", "time", "first", "second", "before", "expected", "told"], body := [.asg (.name 1) (.call 10 [.var 0]), .for_ (.name 2) (.rng1 (.cst (.int 60))) [.asg (.name 3) (.call 13 [.var 1, .lst [.cst (.str "d"), .cst (.str "dd"), .cst (.str "da"), .cst (.str "ad")]]), .asg (.name 4) (.sub (.lst [.cst (.int 3), .bin .pow (.cst (.int 10)) (.cst (.int 30))]) (.call 11 [.var 1, .cst (.int 2)])), .asg (.name 5) (.bin .sub (.call 11 [.var 1, .bin .add (.bin .mul (.cst (.int 2)) (.var 4)) (.cst (.int 1))]) (.var 4)), .asg (.name 6) (.tup [.var 5, .sub (.var 3) (.cst (.int 0)), .sub (.var 3) (.cst (.int 1)), .bin .add (.cst (.int 1)) (.call 11 [.var 1, .cst (.int 9)]), .call 11 [.var 1, .cst (.int 21)]]), .asg (.name 7) (.call 24 [.var 1, .var 6]), .ifs (.cmp .eq (.bin .mod (.bi .int [.var 2]) (.cst (.int 2))) (.cst (.int 0))) [.asg (.name 5) (.bin .sub (.call 11 [.var 1, .bin .add (.bin .mul (.cst (.int 2)) (.var 4)) (.cst (.int 1))]) (.var 4)), .asg (.name 7) (.tup [.var 5, .sub (.var 7) (.cst (.int 1)), .sub (.var 7) (.cst (.int 2)), .bin .add (.cst (.int 1)) (.call 11 [.var 1, .cst (.int 9)]), .call 11 [.var 1, .cst (.int 21)]])] [], .asg (.name 8) (.bi .repr [.lst [.var 6, .var 7]]), .asg (.name 9) (.call 23 [.var 6, .var 7]), .asg (.name 10) (.call 9 [.var 6, .var 7]), .ifs (.ors [.cmp .ne (.var 10) (.var 9), .not (.isi .bool (.var 10)), .cmp .ne (.bi .repr [.lst [.var 6, .var 7]]) (.var 8)]) [.ret (.cst (.bl false))] [], .ifs (.ors [.call 9 [.var 6, .var 6], .ands [.var 9, .call 9 [.var 7, .var 6]]]) [.ret (.cst (.bl false))] []], .ret (.cst (.bl true))] }
def four : List Str := ["d", "dd", "da", "ad"]
theorem four_name : ∀ x ∈ four, nameB x = true := by
  have h : (four.all nameB) = true := by decide +kernel
  exact List.all_eq_true.mp h
theorem perm_strs {r : List D} {xs : List Str} (h : r.Perm (xs.map D.str)) : ∃ ys : List Str, r = ys.map D.str ∧ ys.Perm xs := by
  have e1 : ∀ l : List D, (∀ d ∈ l, ∃ x, d = D.str x) → ∃ ys : List Str, l = ys.map D.str := by
    intro l
    induction l with
    | nil => exact fun _ => ⟨[], rfl⟩
    | cons d l ih =>
      intro h
      obtain ⟨x, rfl⟩ := h d (List.mem_cons_self ..)
      obtain ⟨ys, rfl⟩ := ih fun e he => h e (List.mem_cons_of_mem _ he)
      exact ⟨x :: ys, rfl⟩
  obtain ⟨ys, rfl⟩ := e1 r fun d hd => by
    obtain ⟨x, _, rfl⟩ := List.mem_map.mp (h.mem_iff.mp hd)
    exact ⟨x, rfl⟩
  refine ⟨ys, rfl, ?_⟩
  have g := h.map fun d => match d with | D.str x => x | _ => ("" : Str)
  rw [List.map_map, List.map_map] at g
  have e : ((fun d => match d with | D.str x => x | _ => ("" : Str)) ∘ D.str) = id := rfl
  rw [e, List.map_id, List.map_id] at g
  exact g
theorem four_perm {r : List D} (h : r.Perm (four.map D.str)) : ∃ a b c d : Str, r = [.str a, .str b, .str c, .str d] ∧ a ∈ four ∧ b ∈ four ∧ a ≠ b := by
  obtain ⟨ys, rfl, hp⟩ := perm_strs h
  have hl : ys.length = 4 := hp.length_eq
  match ys, hl with
  | [a, b, c, d], _ =>
    have nd : ([a, b, c, d] : List Str).Nodup := hp.nodup_iff.mpr (by decide +kernel)
    refine ⟨a, b, c, d, rfl, hp.mem_iff.mp (by simp), hp.mem_iff.mp (by simp), ?_⟩
    intro e
    subst e
    simp at nd
theorem Src.mono {t t' : Nat} {s : S} (h : Src t s) (hl : t ≤ t') : Src t' s := by
  obtain ⟨c, u, e, h1, h2, h3⟩ := h
  exact ⟨c, u, e, h1, h2, by omega⟩
structure TK2 (P : Prog) : Prop extends TG P where
  t7 : P.tab 7 = some f7_check_grant
  t8 : P.tab 8 = some f8_is_support
  t9 : P.tab 9 = some f9_supports
  t10 : P.tab 10 = some f10_law_source
  t11 : P.tab 11 = some f11_law_draw
  t12 : P.tab 12 = some f12_law_pick
  t13 : P.tab 13 = some f13_law_shuffle
  t23 : P.tab 23 = some f23_law_is_support
  t24 : P.tab 24 = some f24_law_near
  t25 : P.tab 25 = some f25_law
section
variable {P : Prog} {n : Nat} {E : D → S → Prop} {Q : X → S → Prop} {s : S} {d : D} {t : Int} {a b : Str} {l p : Int} {t' : Int} {a' b' : Str} {l' p' : Int}
theorem law_is_support_ok (h : P.tab 23 = some f23_law_is_support) (q : Q (.v (.bl (supB t b l p t' a' l' p'))) s) : WR E Q (callN P (n + 1) 23 [.v (gD t a b l p), .v (gD t' a' b' l' p')] s) := by
  refine u_fn h rfl ?_
  unfold supB at q
  repeat left
  by_cases h1 : b = a'
  · rw [decide_eq_true h1] at q ⊢
    repeat left
    by_cases h2 : t < t'
    · rw [decide_eq_true h2] at q
      rw [decide_eq_false (show ¬ t' ≤ t by omega)]
      repeat left
      by_cases h3 : l' ≤ l
      · rw [decide_eq_true h3] at q ⊢
        repeat left
        exact q
      · rw [decide_eq_false h3] at q ⊢
        repeat left
        exact q
    · rw [decide_eq_false h2] at q
      rw [decide_eq_true (show t' ≤ t by omega)]
      repeat left
      exact q
  · rw [decide_eq_false h1] at q ⊢
    repeat left
    exact q
theorem near_ok (T : TK2 P) {tt : Nat} (g : Grt t a b l p) (hs : Src tt s) (ht : tt ≤ 1000000)
    (q : ∀ t' a' b' l' p' s', Grt t' a' b' l' p' → Src (tt + 5) s' → Q (.v (gD t' a' b' l' p')) s') : WR E Q (callN P (n + 3) 24 [.v (.ref 1), .v (gD t a b l p)] s) := by
  have g1 := g.t0
  have g2 := g.t1
  have g3 := g.l0
  have g4 := g.l1
  have g5 := g.p0
  have g6 := g.p1
  refine u_fn T.t24 rfl ?_
  repeat left
  refine draw_ok T.t11 hs (by omega) (by decide) (by decide) fun v s1 v0 v1 hs1 => ?_
  repeat left
  refine draw_ok T.t11 hs1 (by omega) (by decide) (by decide) fun v2 s2 v20 v21 hs2 => ?_
  repeat left
  refine draw_ok T.t11 hs2 (by omega) (by decide) (by decide) fun v3 s3 v30 v31 hs3 => ?_
  repeat left
  refine u_lcN ?_
  repeat left
  refine ⟨_, rfl, fun j acc s' => s' = s3 ∧ acc = ((four.take j).filter fun x => !decide (x = b)).map D.str, ⟨rfl, rfl⟩, fun j d acc s' hd ⟨hs', ha⟩ => ?_, fun acc s' ⟨hs', ha⟩ => ?_⟩
  · have hd' : (four.map D.str)[j]? = some d := hd
    rw [List.getElem?_map] at hd'
    obtain ⟨x, hx, rfl⟩ := Option.map_eq_some_iff.mp hd'
    subst hs' ha
    repeat left
    have e : four.take (j + 1) = four.take j ++ [x] := by rw [List.take_succ, hx]; rfl
    by_cases hb : x = b
    · rw [decide_eq_true hb]
      repeat left
      refine ⟨rfl, ?_⟩
      rw [e, List.filter_append]
      simp [hb]
    · rw [decide_eq_false hb]
      repeat left
      refine ⟨rfl, ?_⟩
      rw [e, List.filter_append]
      simp [hb]
  · subst hs'
    have ha' : acc = ((four.filter fun x => !decide (x = b)).map D.str) := ha
    have hne : acc ≠ [] := by
      intro e
      rw [ha'] at e
      have e2 := List.map_eq_nil_iff.mp e
      have e3 := List.filter_eq_nil_iff.mp e2
      have h1 := e3 "d" (by decide)
      have h2 := e3 "dd" (by decide)
      simp only [Bool.not_eq_true', decide_eq_false_iff_not, Classical.not_not] at h1 h2
      rw [← h1] at h2
      exact absurd h2 (by decide)
    have hlen : acc.length ≤ 1000000 := by
      rw [ha', List.length_map]
      have := List.length_filter_le (fun x => !decide (x = b)) four
      have h4 : four.length = 4 := rfl
      omega
    repeat left
    refine pick_ok T.t11 T.t12 (.inl rfl) hs3 (by omega) hne hlen fun d s4 hd hs4 => ?_
    rw [ha'] at hd
    obtain ⟨y, hy, rfl⟩ := List.mem_map.mp hd
    obtain ⟨y1, y2⟩ := List.mem_filter.mp hy
    have hyb : y ≠ b := by simpa using y2
    have ny := four_name y y1
    repeat left
    refine draw_ok T.t11 hs4 (by omega) (by decide) (by decide) fun v5 s5 v50 v51 hs5 => ?_
    repeat left
    refine ⟨fun _ => ?_, fun _ => ?_⟩
    · repeat left
      exact q _ _ _ _ _ s5 ⟨by omega, by omega, ny, g.nb, hyb, by omega, by omega, by omega, by omega⟩ hs5
    · repeat left
      exact q _ _ _ _ _ s5 ⟨by omega, by omega, g.nb, ny, fun e => hyb e.symm, by omega, by omega, by omega, by omega⟩ hs5
end
end Co
set_option exponentiation.threshold 20000
/-! PuG: law k02. -/
namespace Co
open PySem
/-- one step -/
local macro_rules | `(tactic| left) => `(tactic| first
  | refine repr2_ok (by assumption) (by assumption) ?_
  | refine u_then ?_ | refine u_var rfl ?_ | refine u_cst ?_ | refine u_nil ?_ | refine u_cons ?_ | refine u_bin ?_ | refine u_cmp ?_ | refine u_asgN ?_ | refine u_bi ?_ | refine u_sub ?_ | refine u_ifs ?_ | refine u_tup ?_ | refine u_lst ?_ | refine u_call ?_
  | refine a_sto rfl ?_ | refine a_tru rfl ?_ | refine c_add ?_ | refine c_sub ?_ | refine c_lenL ?_ | refine c_lenT ?_ | refine c_lenV ?_ | refine c_min ?_ | refine c_max ?_ | refine a_bi rfl ?_ | refine a_int rfl ?_ | refine a_stos rfl ?_ | refine a_own rfl ?_ | refine nv_v ?_ | refine nv_own ?_
  | refine c_ge ?_ | refine c_gt ?_ | refine c_le ?_ | refine c_lt ?_ | refine c_eq ?_ | refine c_ne ?_ | refine c_eqS ?_ | refine c_neS ?_ | refine c_eqB ?_ | refine c_neB ?_ | refine c_isN rfl ?_ | refine c_notN rfl ?_
  | refine c_p18 ?_ | refine c_p30 ?_ | refine c_p9 ?_ | refine c_pow (by decide) (by rfl) ?_
  | refine ⟨fun z => Bool.noConfusion z, fun _ => ?_⟩ | refine ⟨fun _ => ?_, fun z => Bool.noConfusion z⟩ | refine ⟨fun _ => ?_, fun z => absurd rfl z⟩
  | refine st0 ?_ | refine st1 ?_ | refine st2 ?_ | refine st3 ?_ | refine st4 ?_ | refine st5 ?_ | refine st6 ?_ | refine st7 ?_ | refine st8 ?_ | refine st9 ?_ | refine st10 ?_ | refine st11 ?_ | refine st12 ?_ | refine st13 ?_ | refine st14 ?_ | refine st15 ?_ | refine st16 ?_ | refine st17 ?_ | refine st18 ?_ | refine st19 ?_ | refine st20 ?_ | refine st21 ?_ | refine st22 ?_ | refine st23 ?_ | refine st24 ?_ | refine st25 ?_ | refine st26 ?_ | refine st27 ?_ | refine st28 ?_ | refine st29 ?_
  | refine u_done ?_ | refine u_own ?_ | refine u_ret ?_ | refine u_refSet ?_ | refine u_asgT ?_ | refine u_neg ?_ | refine u_ands ?_ | refine u_ors ?_ | refine u_not ?_ | refine u_chain ?_
  | refine u_glob (by first | rfl | assumption) ?_ | refine u_isi ?_ | refine a_isi rfl ?_ | refine u_b1 ?_ | refine u_b2 ?_ | refine u_ife ?_ | refine u_expr ?_ | refine u_sli ?_ | refine u_onone ?_ | refine u_osome ?_ | refine u_rng1 ?_ | refine u_rng2 ?_ | refine u_newref ?_ | refine u_retMv rfl ?_ | refine u_forN ?_ | refine u_itV rfl ?_ | refine u_it ?_ | refine u_allc ?_ | refine u_i0 ?_ | refine u_i1 ?_ | refine u_setItem rfl ?_ | refine u_app rfl ?_ | refine u_insrt rfl ?_ | refine u_toRef rfl ?_ | refine u_pass ?_ | refine u_retN ?_
  | refine c_set rfl rfl rfl ?_ | refine bn_tup ?_ | refine bn_ref rfl ?_ | refine bn_cons ?_ | refine bn_nil ?_ | refine c_subT rfl ?_ | refine c_subL rfl ?_ | refine c_subV rfl ?_ | refine c_subR rfl rfl ?_)
section
variable {G : Nat → Option D} {F : Fns}
theorem cut_and {A B : Prop} {O : Po} {sl : Sl} {a b : List Sm} {s : S} (R : Sl → S → Prop) (h : ∀ sl s, R sl s → O.nx sl s) (h1 : A → Wss { O with nx := R } G F sl a s) (h2 : B → Wss { O with nx := R } G F sl b s) : (A → Wss O G F sl a s) ∧ (B → Wss O G F sl b s) := by
  simp only [Wss] at *
  exact ⟨fun x => (h1 x).imp h (fun _ _ q => q) (fun _ _ q => q) (fun _ _ q => q) (fun _ _ _ q => q), fun x => (h2 x).imp h (fun _ _ q => q) (fun _ _ q => q) (fun _ _ q => q) (fun _ _ _ q => q)⟩
end
section
variable {P : Prog} {n : Nat} {E : D → S → Prop} {Q : X → S → Prop} {s : S}
theorem law_ok (T : TK2 P) {ns : List Int} (hn : ns.length ≤ 63) (q : ∀ s', Q (.v (.bl true)) s') : WR E Q (callN P (n + 6) 25 [.v (.scr ns)] []) := by
  refine u_fn T.t25 rfl ?_
  repeat left
  refine src_ok T.t10 hn fun s hs => ?_
  repeat left
  refine ⟨rfl, nv_own ⟨_, rfl, fun j sl s => Src (16 * j) s ∧ ∃ x2 x3 x4 x5 x6 x7 x8 x9 x10, sl = [some (.v (.scr ns)), some (.v (.ref 1)), x2, x3, x4, x5, x6, x7, x8, x9, x10], ⟨hs, none, none, none, none, none, none, none, none, none, rfl⟩, fun j d sl s hd ⟨hs, x2, x3, x4, x5, x6, x7, x8, x9, x10, hsl⟩ => ?_, fun sl s ⟨hs, x2, x3, x4, x5, x6, x7, x8, x9, x10, hsl⟩ => ?_⟩⟩
  · obtain ⟨hj, rfl⟩ := rng_get hd
    have hj60 : j < 60 := hj
    subst hsl
    repeat left
    refine shuffle_ok T.t11 T.t13 (ds := four.map D.str) (.inl rfl) hs (by omega) (by decide) fun r s1 hp hs1 => ?_
    obtain ⟨a, b, c, d, rfl, ha, hb, hab⟩ := four_perm hp
    have hs1 : Src (16 * j + 4) s1 := hs1
    repeat left
    refine draw_ok T.t11 hs1 (by omega) (by decide) (by decide) fun v s2 v0 v1 hs2 => ?_
    repeat left
    obtain ⟨far, ef, f0, f1⟩ : ∃ far : Int, L2.atI [D.int 3, D.int 1000000000000000000000000000000] v = some (.int far) ∧ 3 ≤ far ∧ far ≤ 1000000000000000000000000000000 := by
      have hv : v = 0 ∨ v = 1 := by omega
      rcases hv with rfl | rfl
      · exact ⟨3, rfl, by decide, by decide⟩
      · exact ⟨1000000000000000000000000000000, rfl, by decide, by decide⟩
    refine c_subL ef ?_
    have sf : Sm2 200 far := ⟨by omega, by omega⟩
    have s2' : Sm2 2 2 := ⟨by decide, by decide⟩
    repeat left
    refine c_mul s2' sf (by decide) ?_
    repeat left
    refine draw_ok T.t11 hs2 (by omega) (by omega) (by omega) fun u s3 u0 u1 hs3 => ?_
    repeat left
    refine draw_ok T.t11 hs3 (by omega) (by decide) (by decide) fun l0 s4 l00 l01 hs4 => ?_
    repeat left
    refine draw_ok T.t11 hs4 (by omega) (by decide) (by decide) fun p0 s5 p00 p01 hs5 => ?_
    repeat left
    have g : Grt (u - far) a b (1 + l0) p0 := ⟨by omega, by omega, four_name a ha, four_name b hb, hab, by omega, by omega, by omega, by omega⟩
    refine near_ok T g hs5 (by omega) fun t2 a2 b2 l2 p2 s6 g2 hs6 => ?_
    repeat left
    refine c_mod (by decide) ?_
    repeat left
    refine cut_and (R := fun sl s => Src (16 * j + 16) s ∧ ∃ t2 a2 b2 l2 p2 y, Grt t2 a2 b2 l2 p2 ∧ sl = [some (.v (.scr ns)), some (.v (.ref 1)), some (.v (.int (0 + (j : Int)))), some (.v (.lst [.str a, .str b, .str c, .str d])), some (.v (.int far)), y, some (.v (gD (u - far) a b (1 + l0) p0)), some (.v (gD t2 a2 b2 l2 p2)), x8, x9, x10]) (fun sl s hR => ?_) (fun hk => ?_) (fun hk => ?_)
    · obtain ⟨hs7, t2, a2, b2, l2, p2, y, g2, hsl⟩ := hR
      subst hsl
      have e1 : supB (u - far) b (1 + l0) p0 (u - far) a (1 + l0) p0 = false := by
        unfold supB
        rw [decide_eq_false (fun e : b = a => hab e.symm)]
        rfl
      have e2 : supB (u - far) b (1 + l0) p0 t2 a2 l2 p2 = true → supB t2 b2 l2 p2 (u - far) a (1 + l0) p0 = false := by
        intro h
        unfold supB at h ⊢
        simp only [Bool.and_eq_true, decide_eq_true_eq] at h
        rw [decide_eq_false (show ¬ t2 < u - far by omega), Bool.and_false, Bool.false_and, Bool.false_and]
      repeat left
      refine law_is_support_ok T.t23 ?_
      repeat left
      refine supports_ok T.toTG T.t7 T.t8 T.t9 g g2 ?_
      generalize supB (u - far) b (1 + l0) p0 t2 a2 l2 p2 = k at e2 ⊢
      have fin : ∀ x2 x3 x4 x5 x6 x7 x8 x9 x10 s, Src (16 * j + 16) s → Src (16 * (j + 1)) s ∧ ∃ y2 y3 y4 y5 y6 y7 y8 y9 y10, [some (X.v (.scr ns)), some (.v (.ref 1)), x2, x3, x4, x5, x6, x7, x8, x9, x10] = [some (.v (.scr ns)), some (.v (.ref 1)), y2, y3, y4, y5, y6, y7, y8, y9, y10] := fun x2 x3 x4 x5 x6 x7 x8 x9 x10 s h => ⟨h, x2, x3, x4, x5, x6, x7, x8, x9, x10, rfl⟩
      cases k with
      | true =>
        repeat left
        rw [decide_eq_true rfl]
        repeat left
        refine supports_ok T.toTG T.t7 T.t8 T.t9 g g ?_
        rw [e1]
        repeat left
        refine supports_ok T.toTG T.t7 T.t8 T.t9 g2 g ?_
        rw [e2 rfl]
        repeat left
        exact fin _ _ _ _ _ _ _ _ _ _ hs7
      | false =>
        repeat left
        rw [decide_eq_true rfl]
        repeat left
        refine supports_ok T.toTG T.t7 T.t8 T.t9 g g ?_
        rw [e1]
        repeat left
        exact fin _ _ _ _ _ _ _ _ _ _ hs7
    · repeat left
      refine c_mul s2' sf (by decide) ?_
      repeat left
      refine draw_ok T.t11 hs6 (by omega) (by omega) (by omega) fun u2 s7 u20 u21 hs7 => ?_
      repeat left
      refine draw_ok T.t11 hs7 (by omega) (by decide) (by decide) fun l3 s8 l30 l31 hs8 => ?_
      repeat left
      refine draw_ok T.t11 hs8 (by omega) (by decide) (by decide) fun p3 s9 p30 p31 hs9 => ?_
      repeat left
      exact ⟨hs9.mono (by omega), u2 - far, a2, b2, 1 + l3, p3, _, ⟨by omega, by omega, g2.na, g2.nb, g2.ne, by omega, by omega, by omega, by omega⟩, rfl⟩
    · repeat left
      exact ⟨hs6.mono (by omega), t2, a2, b2, l2, p2, _, g2, rfl⟩
  · subst hsl
    repeat left
    exact q s
end
end Co
namespace Co
open PySem

def rows : List Row := [⟨1, "is_integer", 9, f1_is_integer⟩, ⟨2, "is_name", 10, f2_is_name⟩, ⟨3, "is_time", 11, f3_is_time⟩, ⟨4, "is_level", 12, f4_is_level⟩, ⟨5, "is_passes", 13, f5_is_passes⟩, ⟨6, "grant_error", 14, f6_grant_error⟩, ⟨7, "check_grant", 15, f7_check_grant⟩, ⟨8, "is_support", 16, f8_is_support⟩, ⟨9, "supports", 17, f9_supports⟩, ⟨10, "_law_source", 19, f10_law_source⟩, ⟨11, "_law_draw", 20, f11_law_draw⟩, ⟨12, "_law_pick", 21, f12_law_pick⟩, ⟨13, "_law_shuffle", 22, f13_law_shuffle⟩, ⟨23, "_law_is_support", 23, f23_law_is_support⟩, ⟨24, "_law_near", 24, f24_law_near⟩, ⟨25, "law", 25, f25_law⟩]
def gls : List GRow := [⟨0, "LETTERS", .str "abcdefghijklmnopqrstuvwxyz"⟩, ⟨1, "MAX_NAME", .int 8⟩, ⟨2, "MAX_TIME", .int 1000000000000000000000000000000⟩, ⟨3, "MAX_LEVEL", .int 9⟩, ⟨4, "MAX_PASSES", .int 20⟩]
abbrev prg : Prog := prgOf rows gls
theorem tk2 : TK2 prg where
  t1 := rfl
  t2 := rfl
  t3 := rfl
  t4 := rfl
  t5 := rfl
  t6 := rfl
  g0 := rfl
  g1 := rfl
  g2 := rfl
  g3 := rfl
  g4 := rfl
  t7 := rfl
  t8 := rfl
  t9 := rfl
  t10 := rfl
  t11 := rfl
  t12 := rfl
  t13 := rfl
  t23 := rfl
  t24 := rfl
  t25 := rfl
theorem law_pure (ns : List Int) (hn : ns.length ≤ 63) : ∃ sE, callN prg 40 25 [.v (.scr ns)] [] = .ok (.v (.bl true)) sE := by
  obtain ⟨a, s, e, h⟩ := (law_ok (n := 34) (E := noE) (Q := fun x _ => x = .v (.bl true)) tk2 hn (fun _ => rfl)).out
  rw [h] at e
  exact ⟨s, e⟩

end Co
set_option maxHeartbeats 0

namespace Hd
open PySem PySem.Spec PyProof.Rows L2 Co
abbrev R : PySem.W.OpenRow := PySem.W.OpenLaw.row PySem.Challenge.rw_grantroll_k02_supports
abbrev body : List Stmt := PySem.Challenge.pw_grantroll_k02_supports.main.body
abbrev fa : List He.Fa := facts rows gls
abbrev fn : List He.DefD := rows.map (Row.dd body)
abbrev hk : PySem.W.Hook := He.hookD 4 fa fn
def ob (s : PySem.W.SharedT) : He.AlD := He.obsDG 4 fa fn (HandSHeadRun.getT s)
theorem ob_eq (s : PySem.W.SharedT) : ob s = hk.obs s.abs := He.obsDG_eq (HandSHeadRun.getT_eq s)
def loose : List PySem.Str := ["GrantrollError", "InvalidGrant", "LETTERS", "MAX_NAME", "MAX_TIME", "MAX_LEVEL", "MAX_PASSES", "is_integer", "is_name", "is_time", "is_level", "is_passes", "grant_error", "check_grant", "is_support", "supports", "_law_source", "_law_draw", "_law_pick", "_law_shuffle", "_law_is_support", "_law_near"]
theorem run (w : World) : HandSHeadRun.RunEq R (PySem.W.view R.prog [25]) hk ob 4000 loose w := by
  intro os
  kernel_rfl
theorem okr : okRows body rows gls = true := by kernel_rfl
end Hd
open PySem PySem.W PySem.Calls PyProof.Rows
theorem PySem.Challenge.cw_grantroll_k02_supports_holds : PySem.Challenge.rw_grantroll_k02_supports.Holds := by
  w_on; o_law
  refine HandSHeadRun.head_any (r := OpenLaw.row PySem.Challenge.rw_grantroll_k02_supports) (q := view (OpenLaw.row PySem.Challenge.rw_grantroll_k02_supports).prog [25]) (H := Hd.hk) (ob := Hd.ob) (M := 4000) (loose := Hd.loose) (d := HandSHeadRun.topDef (OpenLaw.row PySem.Challenge.rw_grantroll_k02_supports).prog 25) (kwd := []) Hd.ob_eq
    (by kernel_rfl) (fun s => by kernel_rfl) Hd.run (by kernel_rfl) (by kernel_rfl) (by kernel_rfl) (by rfl) (by first | assumption | decide +kernel) (by decide +kernel) ⟨rfl, rfl, rfl, rfl, rfl, by decide +kernel⟩ ?hw ?hc
  case hw => w_witness2
  case hc =>
    exact Co.walk_G (l := PySem.Challenge.rw_grantroll_k02_supports) (n := 63) (k := 40) (f := 25) rfl (by decide) (by kernel_rfl) ⟨rfl, by decide, by decide⟩ (by kernel_rfl) Hd.okr Co.law_pure
