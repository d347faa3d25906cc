import PyProof.Rows.All
import Wide.All
import OpenK.AllK
import Wide.FinOn
import KE.DataEq
import KE.DataCmp
import HandS.List
import HandS.ForMost
import HandS.ForExc
import HandS.Wide
import HandS.TupAny
import HandS.IsInst
import PyProof.Rows.RuleB_pow
import PyProof.ListStr
import PyProof.SeqIndex
import PyProof.ReprRoads
import PyProof.CallStr
import HandS.Flow
import HandS.More
import KE.GoesMore
import HandS.Defaults
import HandS.ExcOwn
import HandS.HeadEnd
import HandS.Head0
import HandS.Head1
import HandS.Head2
import HandS.HeadHook1
import HandS.HeadHook2
import HandS.HeadHook4
import PyProof.ReprLen
import KE.KStateDown
import PySem.Challenge.RW_chordhand_k01_layouts_and_none
section
set_option Elab.async false
set_option linter.all false
/-! Mi, part 1: a small evaluator over deep values (plain Lean). -/
namespace Mi
open PySem

/-- values: tuples are deep; frz: a list that nobody changes any more; own: a list held by this place alone; ref: an object of the store -/
inductive D where
  | non | bl (b : Bool) | int (i : Int) | str (x : Str)
  | tup (ds : List D) | frz (ds : List D) | own (ds : List D)
  | ref (n : Nat)

mutual
def D.beq : D → D → Bool
  | .non, .non => true
  | .bl a, .bl b => a == b
  | .int a, .int b => a == b
  | .str a, .str b => a == b
  | .tup a, .tup b => D.beqs a b
  | .frz a, .frz b => D.beqs a b
  | .own a, .own b => D.beqs a b
  | .ref a, .ref b => a == b
  | _, _ => false
def D.beqs : List D → List D → Bool
  | [], [] => true
  | a :: as, b :: bs => D.beq a b && D.beqs as bs
  | _, _ => false
end

/-- what may stand anywhere: nothing that one place holds alone -/
def D.hard : D → D
  | .own ds => .frz ds
  | d => d

inductive O where
  | lst (ds : List D)
  | ins (c : Nat) (fs : List (Str × D))

structure Ex where
  cls : Nat
  fs : List (Str × D)

abbrev Env := List (Option D)
abbrev Sto := List O

inductive R (α : Type) where
  | ok (a : α) (e : Env) (s : Sto)
  | exc (x : Ex) (e : Env) (s : Sto)
  | stuck

abbrev M (α : Type) := Env → Sto → R α
def M.ret {α : Type} (a : α) : M α := fun e s => .ok a e s
def M.stuck {α : Type} : M α := fun _ _ => .stuck
def R.bind {α β : Type} (r : R α) (f : α → M β) : R β := match r with
  | .ok a e s => f a e s
  | .exc x e s => .exc x e s
  | .stuck => .stuck
def M.bind {α β : Type} (m : M α) (f : α → M β) : M β := fun e s => (m e s).bind f
def M.opt {α : Type} (o : Option α) : M α := match o with
  | some a => .ret a
  | none => .stuck

/-- a call's end -/
inductive C where
  | ok (d : D) (s : Sto)
  | exc (x : Ex) (s : Sto)
  | stuck
abbrev Calls := Nat → List D → Sto → C

inductive Flow where
  | next | ret (d : D) | brk | cont

/-- the pure things that are done to values -/
inductive P where
  | add | sub | mul | mod | fdiv | pow
  | eq | ne | lt | le | gt | ge | in_ | notin | isN | notN
  | neg | not_ | idx | len | isi (t : Nat) | list | tuple | min2 | max2 | int | str
  | slc (lo hi : Bool)
  | m (name : Nat)
/-- the things that change an object -/
inductive Mu where
  | append | pop | popAt | insert | extend | set

mutual
inductive E where
  | v (i : Nat) | mv (i : Nat) | rf (i : Nat)
  | k (d : D)
  | prim (p : P) (es : List E)
  | chain (p q : P) (a b c : E)
  | tup (es : List E) | lst (es : List E)
  | call (f : Nat) (es : List E)
  | and_ (a b : E) | or_ (a b : E) | not_ (a : E) | cond (c a b : E)
  | mut (m : Mu) (tgt : E) (es : List E)
  | meth (p : P) (tgt : E) (es : List E)
  | callA (f : Nat) (es ks : List E) (arr : List (Nat ⊕ D))
  | lc (own : List Nat) (g : G) (it : I) (ifs : List E) (elt : E)
inductive G where
  | nm (i : Nat) | tp (gs : List G) | sub (o i : E) | att (o : E) (f : Str)
inductive I where
  | seq (e : E) | rng1 (a : E) | rng2 (a b : E) | enum (e : E)
end

inductive S where
  | asg (g : G) (e : E)
  | ex (e : E)
  | ret (e : E)
  | ite (c : E) (a b : List S)
  | for_ (g : G) (it : I) (body : List S)
  | while_ (c : E) (body : List S)
  | brk | cont | pass

structure Fn where
  np : Nat
  nl : Nat
  body : List S
end Mi
end
section
set_option Elab.async false
set_option linter.all false
namespace Mi
open PySem

abbrev big : Nat := 16777216

/-! ### values as data -/
mutual
def D.plain : D → Bool
  | .tup ds => D.plains ds
  | .frz ds => D.plains ds
  | .own ds => D.plains ds
  | .ref _ => false
  | _ => true
def D.plains : List D → Bool
  | [] => true
  | d :: ds => D.plain d && D.plains ds
end
mutual
def D.py : D → PyData
  | .non => .none
  | .bl b => .bool b
  | .int i => .int i
  | .str x => .str x
  | .tup ds => .tuple (D.pys ds)
  | .frz ds => .list (D.pys ds)
  | .own ds => .list (D.pys ds)
  | .ref _ => .none
def D.pys : List D → List PyData
  | [] => []
  | d :: ds => D.py d :: D.pys ds
end
/-! nothing that one place holds alone, at no depth -/
mutual
def D.solid : D → Bool
  | .own _ => false
  | .tup ds => D.solids ds
  | .frz ds => D.solids ds
  | _ => true
def D.solids : List D → Bool
  | [] => true
  | d :: ds => D.solid d && D.solids ds
end

def D.lst? : D → Option (List D)
  | .own ds => some ds
  | .frz ds => some ds
  | _ => none
/-- a list or a tuple -/
def D.seq? : D → Option (List D)
  | .own ds => some ds
  | .frz ds => some ds
  | .tup ds => some ds
  | _ => none
def cmpOk (a b : D) : Bool := D.plain a && D.plain b && decide (min a.py.depth b.py.depth ≤ 60)
def D.eqv (a b : D) : Bool := PyData.eqv a.py b.py
def truthy : D → Option Bool
  | .non => some false
  | .bl b => some b
  | .int i => some (i != 0)
  | .str x => if x.length ≤ big then some (x.length != 0) else none
  | .tup ds => some (!ds.isEmpty)
  | .own ds => some (!ds.isEmpty)
  | .frz ds => some (!ds.isEmpty)
  | _ => none
abbrev cutD (ds : List D) (lo hi : Option Int) : List D := (ds.drop (HT.sIx ds.length 0 lo)).take (HT.sIx ds.length ds.length hi - HT.sIx ds.length 0 lo)
def isiD : Nat → D → Option Bool
  | 0, d => (match d with | .int _ => some true | .bl _ => some true | .ref _ => none | _ => some false)
  | 1, d => (match d with | .str _ => some true | .ref _ => none | _ => some false)
  | 2, d => (match d with | .tup _ => some true | .ref _ => none | _ => some false)
  | 3, d => (match d with | .own _ => some true | .frz _ => some true | .ref _ => none | _ => some false)
  | 4, d => (match d with | .bl _ => some true | .ref _ => none | _ => some false)
  | _, _ => none

/-! ### the pure things -/
def pAdd : D → D → Option D
  | .int a, .int b => some (.int (a + b))
  | .str a, .str b => if a.length + b.length ≤ big then some (.str (a ++ b)) else none
  | .tup a, .tup b => if a.length + b.length ≤ big then some (.tup (a ++ b)) else none
  | a, b => match a.lst?, b.lst? with
    | some x, some y => if x.length + y.length ≤ big then some (.own (x ++ y)) else none
    | _, _ => none
def pMul : D → D → Option D
  | .int a, .int b => if a.natAbs.log2 + b.natAbs.log2 < 1000000 then some (.int (a * b)) else none
  | _, _ => none
def pMod : D → D → Option D
  | .int a, .int b => if b ≠ 0 then some (.int (a.fmod b)) else none
  | _, _ => none
def pFdiv : D → D → Option D
  | .int a, .int b => if b ≠ 0 ∧ b.natAbs < 1073741824 then some (.int (a.fdiv b)) else none
  | _, _ => none
def pPow : D → D → Option D
  | .int a, .int b => if 0 ≤ b ∧ (Builtin.Int.intBits a : Int) * b ≤ 134217728 then some (.int (a ^ b.toNat)) else none
  | _, _ => none
def pCmp (f : Int → Int → Bool) (g : List Nat → List Nat → Bool) : D → D → Option D
  | .int a, .int b => some (.bl (f a b))
  | .str a, .str b => some (.bl (g a.cps.toList b.cps.toList))
  | _, _ => none
def pEq (n : Bool) (a b : D) : Option D := if cmpOk a b then some (.bl (D.eqv a b != n)) else none
def pIn (n : Bool) (x : D) : D → Option D
  | .str z => (match x with
    | .str y => some (.bl ((!(Builtin.Str.occurrences z y 0 z.length 1).isEmpty) != n))
    | _ => none)
  | d => match d.seq? with
    | some ds => if cmpOk x x && D.plains ds then some (.bl ((ds.any fun z => D.eqv z x) != n)) else none
    | none => none
def pIdx : D → D → Option D
  | .str z, .int i => if z.length ≤ big then (L2.atI z.cps.toList i).map fun c => .str ⟨#[c]⟩ else none
  | d, .int i => d.seq?.bind fun ds => L2.atI ds i
  | _, _ => none
def pLen : D → Option D
  | .str z => if z.length ≤ big then some (.int z.length) else none
  | d => d.seq?.bind fun ds => some (.int ds.length)
def pSlc (d : D) (lo hi : Option Int) : Option D := match d with
  | .tup ds => some (.tup (cutD ds lo hi))
  | d => d.lst?.bind fun ds => some (.own (cutD ds lo hi))
def pIndex (ds : List D) (x : D) : Option D := if cmpOk x x && D.plains ds then (if (ds.map fun z => D.eqv z x).contains true then some (.int ((ds.map fun z => D.eqv z x).idxOf true : Nat)) else none) else none
def charsD (x : Str) : List D := x.cps.toList.map fun c => .str ⟨#[c]⟩
def pList : D → Option D
  | .str x => if x.cps.size ≤ big then some (.own (charsD x)) else none
  | d => d.seq?.bind fun ds => some (.own ds)
/-- str(d) -/
def pStr : D → Option D
  | .str x => some (.str x)
  | d => if D.plain d && d.py.showable && decide (d.py.depth ≤ 60) && decide (d.py.shown.length ≤ big) then some (.str d.py.shown) else none
def primF : P → List D → Option D
  | .m 0, [d, x] => d.lst?.bind fun ds => pIndex ds x
  | .m 1, [.tup ds, x] => pIndex ds x
  | .str, [d] => pStr d
  | .add, [a, b] => pAdd a b
  | .sub, [.int a, .int b] => some (.int (a - b))
  | .mul, [a, b] => pMul a b
  | .mod, [a, b] => pMod a b
  | .fdiv, [a, b] => pFdiv a b
  | .pow, [a, b] => pPow a b
  | .eq, [a, b] => pEq false a b
  | .ne, [a, b] => pEq true a b
  | .lt, [a, b] => pCmp (fun i j => decide (i < j)) (fun i j => decide (i < j)) a b
  | .le, [a, b] => pCmp (fun i j => decide (i ≤ j)) (fun i j => !decide (j < i)) a b
  | .gt, [a, b] => pCmp (fun i j => decide (j < i)) (fun i j => decide (j < i)) a b
  | .ge, [a, b] => pCmp (fun i j => decide (j ≤ i)) (fun i j => !decide (i < j)) a b
  | .in_, [a, b] => pIn false a b
  | .notin, [a, b] => pIn true a b
  | .isN, [d] => some (.bl (match d with | .non => true | _ => false))
  | .notN, [d] => some (.bl (match d with | .non => false | _ => true))
  | .neg, [.int a] => some (.int (-a))
  | .idx, [a, b] => pIdx a b
  | .len, [d] => pLen d
  | .isi t, [d] => (isiD t d).map D.bl
  | .list, [d] => pList d
  | .tuple, [d] => d.seq?.bind fun ds => some (.tup ds)
  | .min2, [.int a, .int b] => some (.int (if b < a then b else a))
  | .max2, [.int a, .int b] => some (.int (if b > a then b else a))
  | .int, [.int a] => some (.int a)
  | .int, [.bl b] => some (.int (if b then 1 else 0))
  | .slc false false, [d] => pSlc d none none
  | .slc true false, [d, .int i] => pSlc d (some i) none
  | .slc false true, [d, .int j] => pSlc d none (some j)
  | .slc true true, [d, .int i, .int j] => pSlc d (some i) (some j)
  | _, _ => none

/-- a list is changed: what it is then, and what is told (over values of any kind) -/
def muG {α : Type} (non : α) (int? : α → Option Int) : Mu → List α → List α → Option (List α × α)
  | .append, xs, [d] => if xs.length < big then some (xs ++ [d], non) else none
  | .pop, xs, [] => (xs[xs.length - 1]?).bind fun d => some (xs.dropLast, d)
  | .popAt, xs, [k] => (int? k).bind fun i => (L2.ixN xs.length i).bind fun j => (xs[j]?).bind fun d => some (xs.eraseIdx j, d)
  | .set, xs, [k, d] => (int? k).bind fun i => (L2.ixN xs.length i).map fun j => (xs.set j d, non)
  | .insert, xs, [k, d] => (int? k).bind fun i => if 0 ≤ i ∧ i < 2 ^ 63 ∧ xs.length < big then some (xs.take i.toNat ++ d :: xs.drop i.toNat, non) else none
  | _, _, _ => none
def D.int? : D → Option Int
  | .int i => some i
  | _ => none
def muF : Mu → List D → List D → Option (List D × D) := muG .non D.int?

/-! ### the evaluator -/
/-- an object looked at as it stands -/
def derefD (s : Sto) : D → D
  | .ref n => (match s[n]? with
    | some (.lst ds) => .own ds
    | _ => .ref n)
  | d => d
def primM (p : P) (ds : List D) : M D := fun e s => M.opt (primF p (ds.map (derefD s))) e s
def truM (d : D) : M Bool := fun e s => M.opt (truthy (derefD s d)) e s
def getV (i : Nat) : M D := fun e s => match e[i]? with
  | some (some d) => .ok d e s
  | _ => .stuck
/-- used: what this name alone held is shared from now on -/
def useV (i : Nat) : M D := fun e s => match e[i]? with
  | some (some (.own ds)) => .ok (.frz ds) (e.set i (some (.frz ds))) s
  | some (some d) => .ok d e s
  | _ => .stuck
def moveV (i : Nat) : M D := fun e s => match e[i]? with
  | some (some d) => .ok d (e.set i none) s
  | _ => .stuck
def refV (i : Nat) : M D := fun e s => match e[i]? with
  | some (some (.own ds)) => .ok (.ref s.length) (e.set i (some (.ref s.length))) (s ++ [.lst ds])
  | some (some d) => .ok d e s
  | _ => .stuck
/-- what may not raise -/
def M.calm {α : Type} (m : M α) : M α := fun e s => match m e s with
  | .exc _ _ _ => .stuck
  | r => r
def setV (i : Nat) (d : D) : M Unit := fun e s => .ok () (e.set i (some d)) s
def wipeE : List Nat → Env → Env
  | [], e => e
  | i :: is, e => (wipeE is e).set i none
def wipeV (is : List Nat) : M Unit := fun e s => .ok () (wipeE is e) s
def callM (cf : Calls) (f : Nat) (ds : List D) : M D := fun e s => match cf f ds s with
  | .ok d s' => .ok d e s'
  | .exc x s' => .exc x e s'
  | .stuck => .stuck
/-- the list at a place is changed -/
def mutM (m : Mu) (d0 : D) (slot : Option Nat) (as : List D) : M D := fun e s => match d0 with
  | .own ds => (match slot, muF m ds as with
    | some i, some (ds', r) => .ok r (e.set i (some (.own ds'))) s
    | _, _ => .stuck)
  | .ref n => (match s[n]? with
    | some (.lst ds) => (match muF m ds as with
      | some (ds', r) => .ok r e (s.set n (.lst ds'))
      | none => .stuck)
    | _ => .stuck)
  | _ => .stuck
def slotOf : E → Option Nat
  | .v i => some i
  | _ => none
def seqItems : D → Option (List D)
  | .tup ds => some ds
  | .own ds => some ds
  | .frz ds => some ds
  | .str x => some (charsD x)
  | _ => none
def asB (m : M D) : M Bool := m.bind fun d => truM d
/-- a comprehension's turns -/
def lcL (own : List Nat) (bd : D → M Unit) (test : M Bool) (elt : M D) : List D → List D → M (List D)
  | [], acc => .ret acc
  | d :: ds, acc => (bd d).bind fun _ => test.bind fun b => if b then elt.bind fun y => if acc.length < big then (wipeV own).bind fun _ => lcL own bd test elt ds (acc ++ [y.hard]) else .stuck
    else (wipeV own).bind fun _ => lcL own bd test elt ds acc
def allM : List (M Bool) → M Bool
  | [] => .ret true
  | m :: ms => m.bind fun b => if b then allM ms else .ret false
def rngD (lo : Int) (n : Nat) : List D := (List.range n).map fun (i : Nat) => D.int (lo + i)
def enumD : Nat → List D → List D
  | _, [] => []
  | i, d :: ds => .tup [.int i, d] :: enumD (i + 1) ds
def fit62 (i : Int) : Bool := decide (-(2 ^ 62) ≤ i ∧ i < 2 ^ 62)

/-- a value's truth, as a test -/
def vt (m : M D) : M D × M Bool := (m, m.bind fun d => truM d)
/-- is it a list that may be changed -/
def lookL (d : D) : M Unit := fun e s => match d with
  | .own _ => .ok () e s
  | .ref n => (match s[n]? with
    | some (.lst _) => .ok () e s
    | _ => .stuck)
  | _ => .stuck
def lookP (slot : Option Nat) (r : Option D) : M Unit := match r with
  | some d => lookL d
  | none => (match slot with
    | some i => (getV i).bind lookL
    | none => .stuck)
/-- what stands at a place now -/
def fin1 (slot : Option Nat) (r : Option D) : M D := match r with
  | some d => .ret d
  | none => (match slot with
    | some i => getV i
    | none => .stuck)
/-- of the kind whose method it is -/
def kindM : P → D → Bool
  | .m 0, .own _ => true
  | .m 0, .frz _ => true
  | .m 1, .tup _ => true
  | .m (_ + 2), .str _ => true
  | _, _ => false
def lookM (p : P) (slot : Option Nat) (r : Option D) : M Unit := (fin1 slot r).bind fun d => if kindM p d then .ret () else .stuck
/-- arguments by their places, defaults between them -/
def arrange (arr : List (Nat ⊕ D)) (ds : List D) : List D := arr.map fun a => match a with
  | .inl i => ds.getD i .non
  | .inr d => d
/-- a borrowed operand -/
def opB : E → M D → M (List D) → M (List D)
  | .v i, _, r => (getV i).bind fun _ => r.bind fun ds => (getV i).bind fun d => .ret (d :: ds)
  | _, m, r => m.bind fun d => r.bind fun ds => .ret (d :: ds)
/-- a place: a name is looked at later -/
def pl1 : E → M D → M (Option D)
  | .v i, _ => (getV i).bind fun _ => .ret none
  | _, m => m.bind fun d => .ret (some d)
mutual
/-- as a value, and as a test -/
def ev2 (cf : Calls) : E → M D × M Bool
  | .v i => (useV i, (getV i).bind fun d => truM d)
  | .mv i => vt (moveV i)
  | .rf i => vt (refV i)
  | .k d => vt (.ret d)
  | .prim p es => vt ((ops cf es).bind fun ds => primM p ds)
  | .chain p q a b c => vt ((ev2 cf a).1.bind fun x => (ev2 cf b).1.bind fun y => (primM p [x, y]).bind fun z => (match z with
      | .bl k => if k then (ev2 cf c).1.bind fun w => primM q [y, w] else .ret (.bl false)
      | _ => .stuck))
  | .tup es => vt ((evs cf es).bind fun ds => if ds.length ≤ big then .ret (.tup (ds.map D.hard)) else .stuck)
  | .lst es => vt ((evs cf es).bind fun ds => if ds.length ≤ big then .ret (.own (ds.map D.hard)) else .stuck)
  | .call f es => vt ((evs cf es).bind fun ds => callM cf f ds)
  | .and_ a b => ((ev2 cf a).1.bind fun d => (truM d).bind fun t => if t then (ev2 cf b).1 else .ret d, (ev2 cf a).2.bind fun t => if t then (ev2 cf b).2 else .ret false)
  | .or_ a b => ((ev2 cf a).1.bind fun d => (truM d).bind fun t => if t then .ret d else (ev2 cf b).1, (ev2 cf a).2.bind fun t => if t then .ret true else (ev2 cf b).2)
  | .not_ a => ((ev2 cf a).1.bind fun d => (truM d).bind fun b => .ret (.bl (!b)), (ev2 cf a).2.bind fun t => .ret (!t))
  | .cond c a b => vt ((ev2 cf c).2.bind fun t => if t then (ev2 cf a).1 else (ev2 cf b).1)
  | .mut m tgt es => vt ((pl1 tgt (ev2 cf tgt).1).bind fun r => (lookP (slotOf tgt) r).bind fun _ => (evs cf es).bind fun as => (match r with
      | none => (match slotOf tgt with
        | some i => (getV i).bind fun d0 => mutM m d0 (some i) (as.map D.hard)
        | none => .stuck)
      | some d0 => mutM m d0 none (as.map D.hard)))
  | .meth p tgt es => vt ((pl1 tgt (ev2 cf tgt).1).bind fun r => (lookM p (slotOf tgt) r).bind fun _ => (ops cf es).bind fun ds => (fin1 (slotOf tgt) r).bind fun d => primM p (d :: ds))
  | .callA f es ks arr => vt ((evs cf es).bind fun ds => (evs cf ks).bind fun zs => if ds.length = es.length ∧ zs.length = ks.length then callM cf f (arrange arr ((ds ++ zs).map D.hard)) else .stuck)
  | .lc own g it ifs elt => vt ((iter cf it).bind fun p => (wipeV own).bind fun _ => (lcL own (fun d => (asgG cf g d).calm) (tsts cf ifs).calm (ev2 cf elt).1.calm p []).bind fun ds => .ret (.own ds))
def evs (cf : Calls) : List E → M (List D)
  | [] => .ret []
  | e :: es => (ev2 cf e).1.bind fun d => (evs cf es).bind fun ds => .ret (d :: ds)
def ops (cf : Calls) : List E → M (List D)
  | [] => .ret []
  | e :: es => opB e (ev2 cf e).1 (ops cf es)
def tsts (cf : Calls) : List E → M Bool
  | [] => .ret true
  | e :: es => (ev2 cf e).2.bind fun b => if b then tsts cf es else .ret false
def iter (cf : Calls) : I → M (List D)
  | .seq e => (ev2 cf e).1.bind fun d => M.opt (seqItems d)
  | .rng1 a => (ev2 cf a).1.bind fun d => M.opt (match d with | .int n => if fit62 n then some (rngD 0 n.toNat) else none | _ => none)
  | .rng2 a b => (ev2 cf a).1.bind fun d => (ev2 cf b).1.bind fun f => M.opt (match d, f with | .int l, .int h => if fit62 l && fit62 h then some (rngD l (h - l).toNat) else none | _, _ => none)
  | .enum e => (ev2 cf e).1.bind fun d => M.opt ((match d with | .str _ => none | d => seqItems d).map (enumD 0))
def asgG (cf : Calls) : G → D → M Unit
  | .nm i => fun d => setV i d
  | .tp gs => fun d => (match d with
    | .tup ds => if ds.length = gs.length then asgGs cf gs ds else .stuck
    | _ => .stuck)
  | .sub o i => fun d => (pl1 o (ev2 cf o).1).calm.bind fun r => (ev2 cf i).1.calm.bind fun j => (match r with
      | none => (match slotOf o with
        | some n => (getV n).bind fun d0 => (mutM .set d0 (some n) [j.hard, d.hard]).bind fun _ => .ret ()
        | none => .stuck)
      | some d0 => (mutM .set d0 none [j.hard, d.hard]).bind fun _ => .ret ())
  | .att o f => fun d => .stuck
def asgGs (cf : Calls) : List G → List D → M Unit
  | [] => fun ds => (match ds with | [] => .ret () | _ :: _ => .stuck)
  | g :: gs => fun ds => (match ds with | d :: ds => (asgG cf g d).bind fun _ => asgGs cf gs ds | [] => .stuck)
end
abbrev ev (cf : Calls) (e : E) : M D := (ev2 cf e).1
abbrev tst (cf : Calls) (e : E) : M Bool := (ev2 cf e).2

def forL (bd : D → M Unit) (body : M Flow) : List D → M Flow
  | [] => .ret .next
  | d :: ds => (bd d).bind fun _ => body.bind fun f => match f with
    | .next => forL bd body ds
    | .cont => forL bd body ds
    | .brk => .ret .next
    | .ret d => .ret (.ret d)
def whileL (test : M Bool) (body : M Flow) : Nat → M Flow
  | 0 => .stuck
  | n + 1 => test.bind fun t => if t then body.bind fun f => match f with
    | .next => whileL test body n
    | .cont => whileL test body n
    | .brk => .ret .next
    | .ret d => .ret (.ret d)
    else .ret .next

mutual
def exS (cf : Calls) (W : Nat) : S → M Flow
  | .asg g e => (ev cf e).bind fun d => (asgG cf g d).calm.bind fun _ => .ret .next
  | .ex e => (ev cf e).bind fun _ => .ret .next
  | .ret e => (ev cf e).bind fun d => .ret (.ret d)
  | .ite c a b => (tst cf c).bind fun t => if t then exSs cf W a else exSs cf W b
  | .for_ g it body => (iter cf it).bind fun ds => forL (fun d => (asgG cf g d).calm) (exSs cf W body) ds
  | .while_ c body => whileL (tst cf c) (exSs cf W body) W
  | .brk => .ret .brk
  | .cont => .ret .cont
  | .pass => .ret .next
def exSs (cf : Calls) (W : Nat) : List S → M Flow
  | [] => .ret .next
  | s :: ss => (exS cf W s).bind fun f => match f with
    | .next => exSs cf W ss
    | f => .ret f
end

def initE (nl : Nat) (ds : List D) : Env := ds.map some ++ List.replicate (nl - ds.length) none
def outC : R Flow → C
  | .ok .next _ s => .ok .non s
  | .ok (.ret d) _ s => .ok d s
  | .ok _ _ _ => .stuck
  | .exc x _ s => .exc x s
  | .stuck => .stuck
/-- the call of the f-th def, at most n calls deep -/
def run (fns : List Fn) (W : Nat) : Nat → Calls
  | 0 => fun _ _ _ => .stuck
  | n + 1 => fun f ds s => match fns[f]? with
    | some fn => if ds.length = fn.np then outC (exSs (run fns W n) W fn.body (initE fn.nl ds) s) else .stuck
    | none => .stuck
end Mi
end
section
set_option Elab.async false
set_option maxRecDepth 100000
set_option linter.all false
namespace Mi
open PySem PySem.Spec PyProof.Rows L2

/-- a list among the module's own objects -/
def KL (K : PySem.W.Frag) (a : Addr) (vs : List V) : Prop := ∃ (its : List Value) (n : Nat), K.lookup a = some { cls := .type "list", dict := none, data := .seq its.toArray n, slots := #[] } ∧ its.length ≤ sizeLine ∧ Vals vs its
mutual
def RepS (K : PySem.W.Frag) (ρ Z : List Addr) (H : Hp) : D → V → Prop
  | .non, v => v = .non
  | .bl b, v => v = .bl b
  | .int i, v => v = .int i
  | .str x, v => v = .str x
  | .tup ds, v => ∃ a vs, v = .ref a ∧ SqT K H a vs ∧ RepSs K ρ Z H ds vs
  | .frz ds, v => ∃ a vs, v = .ref a ∧ ((a ∈ Z ∧ H a = some (.lst vs)) ∨ (∃ o, H a = some (.frz o (.lst vs))) ∨ KL K a vs) ∧ RepSs K ρ Z H ds vs
  | .own _, _ => False
  | .ref n, v => ∃ a, v = .ref a ∧ ρ[n]? = some a
def RepSs (K : PySem.W.Frag) (ρ Z : List Addr) (H : Hp) : List D → List V → Prop
  | [], vs => vs = []
  | d :: ds, vs => ∃ v r, vs = v :: r ∧ RepS K ρ Z H d v ∧ RepSs K ρ Z H ds r
end
def Rep (K : PySem.W.Frag) (ρ Z : List Addr) (H : Hp) (d : D) (v : V) : Prop := match d with
  | .own ds => ∃ a vs, v = .ref a ∧ H a = some (.lst vs) ∧ RepSs K ρ Z H ds vs
  | d => RepS K ρ Z H d v
def RepO (K : PySem.W.Frag) (ρ Z : List Addr) (H : Hp) (o : O) (a : Addr) : Prop := match o with
  | .lst ds => ∃ vs, H a = some (.lst vs) ∧ RepSs K ρ Z H ds vs
  | .ins _ _ => False

/-- what the frozen things lean on stays -/
structure Stb (K : PySem.W.Frag) (Z : List Addr) (H H' : Hp) : Prop where
  tup : ∀ a vs, SqT K H a vs → SqT K H' a vs
  frz : ∀ a o u, H a = some (.frz o u) → H' a = some (.frz o u)
  zed : ∀ a ∈ Z, H' a = H a
section
variable {K : PySem.W.Frag} {ρ ρ' Z Z' : List Addr} {H H' : Hp}
mutual
theorem RepS.stb (st : Stb K Z H H') (hr : ∀ (n : Nat) (a : Addr), ρ[n]? = some a → ρ'[n]? = some a) (hz : ∀ a ∈ Z, a ∈ Z') : ∀ (d : D) (v : V), RepS K ρ Z H d v → RepS K ρ' Z' H' d v
  | .non, _, h => h
  | .bl _, _, h => h
  | .int _, _, h => h
  | .str _, _, h => h
  | .own _, _, h => h
  | .ref _, _, h => by
    obtain ⟨a, e, q⟩ := h
    exact ⟨a, e, hr _ _ q⟩
  | .tup ds, _, h => by
    obtain ⟨a, vs, e, q, r⟩ := h
    exact ⟨a, vs, e, st.tup _ _ q, RepSs.stb st hr hz ds vs r⟩
  | .frz ds, _, h => by
    obtain ⟨a, vs, e, q, r⟩ := h
    refine ⟨a, vs, e, ?_, RepSs.stb st hr hz ds vs r⟩
    rcases q with ⟨q1, q2⟩ | ⟨o, q⟩ | q
    · exact .inl ⟨hz _ q1, (st.zed a q1).trans q2⟩
    · exact .inr (.inl ⟨o, st.frz _ _ _ q⟩)
    · exact .inr (.inr q)
theorem RepSs.stb (st : Stb K Z H H') (hr : ∀ (n : Nat) (a : Addr), ρ[n]? = some a → ρ'[n]? = some a) (hz : ∀ a ∈ Z, a ∈ Z') : ∀ (ds : List D) (vs : List V), RepSs K ρ Z H ds vs → RepSs K ρ' Z' H' ds vs
  | [], _, h => h
  | d :: ds, _, h => by
    obtain ⟨v, r, e, h1, h2⟩ := h
    exact ⟨v, r, e, RepS.stb st hr hz d v h1, RepSs.stb st hr hz ds r h2⟩
end
theorem Stb.refl : Stb K Z H H := ⟨fun _ _ h => h, fun _ _ _ h => h, fun _ _ => rfl⟩
/-- a new object -/
theorem Stb.new {p : Addr} {o : HO} (hp : H p = none) (hz : ∀ a ∈ Z, a ≠ p) : Stb K Z H (upd H p o) := by
  refine ⟨fun a vs h => ?_, fun a o' u h => ?_, fun a ha => upd_ne (hz a ha)⟩
  · rcases h with (h | ⟨ob, h⟩) | h
    · exact .inl (.inl (by rw [upd_ne (ne_of_none h hp)]; exact h))
    · exact .inl (.inr ⟨ob, by rw [upd_ne (ne_of_none h hp)]; exact h⟩)
    · exact .inr h
  · rw [upd_ne (ne_of_none h hp)]; exact h
/-- a list changes -/
theorem Stb.set {p : Addr} {xs : List V} {o : HO} (hp : H p = some (.lst xs)) (hz : ∀ a ∈ Z, a ≠ p) : Stb K Z H (upd H p o) := by
  refine ⟨fun a vs h => ?_, fun a o' u h => ?_, fun a ha => upd_ne (hz a ha)⟩
  · rcases h with (h | ⟨ob, h⟩) | h
    · exact .inl (.inl (by rw [upd_ne (ne_of h hp (by intro z; cases z))]; exact h))
    · exact .inl (.inr ⟨ob, by rw [upd_ne (ne_of h hp (by intro z; cases z))]; exact h⟩)
    · exact .inr h
  · rw [upd_ne (ne_of h hp (by intro z; cases z))]; exact h

theorem RepSs.length : ∀ {ds : List D} {vs : List V}, RepSs K ρ Z H ds vs → vs.length = ds.length
  | [], _, h => by cases (show _ = [] from h); rfl
  | d :: ds, _, h => by
    obtain ⟨v, r, e, _, h2⟩ := h
    subst e
    simp [RepSs.length h2]
theorem RepSs.get : ∀ {ds : List D} {vs : List V} {i : Nat} {d : D}, RepSs K ρ Z H ds vs → ds[i]? = some d → ∃ v, vs[i]? = some v ∧ RepS K ρ Z H d v
  | [], _, _, _, _, e => by simp at e
  | d :: ds, _, 0, _, h, e => by
    obtain ⟨v, r, rfl, h1, h2⟩ := h
    simp at e; subst e
    exact ⟨v, rfl, h1⟩
  | d :: ds, _, i + 1, _, h, e => by
    obtain ⟨v, r, rfl, h1, h2⟩ := h
    simpa using RepSs.get h2 (by simpa using e)
theorem RepSs.append : ∀ {ds es : List D} {vs ws : List V}, RepSs K ρ Z H ds vs → RepSs K ρ Z H es ws → RepSs K ρ Z H (ds ++ es) (vs ++ ws)
  | [], _, _, _, h, k => by cases (show _ = [] from h); exact k
  | d :: ds, _, _, _, h, k => by
    obtain ⟨v, r, rfl, h1, h2⟩ := h
    exact ⟨v, _, rfl, h1, RepSs.append h2 k⟩
theorem RepSs.take : ∀ {ds : List D} {vs : List V} (n : Nat), RepSs K ρ Z H ds vs → RepSs K ρ Z H (ds.take n) (vs.take n)
  | [], _, n, h => by cases (show _ = [] from h); simp [RepSs]
  | d :: ds, _, 0, h => by simp [RepSs]
  | d :: ds, _, n + 1, h => by
    obtain ⟨v, r, rfl, h1, h2⟩ := h
    exact ⟨v, _, rfl, h1, RepSs.take n h2⟩
theorem RepSs.drop : ∀ {ds : List D} {vs : List V} (n : Nat), RepSs K ρ Z H ds vs → RepSs K ρ Z H (ds.drop n) (vs.drop n)
  | [], _, n, h => by cases (show _ = [] from h); simp [RepSs]
  | d :: ds, _, 0, h => by simpa using h
  | d :: ds, _, n + 1, h => by
    obtain ⟨v, r, rfl, h1, h2⟩ := h
    simpa using RepSs.drop n h2
theorem RepSs.set : ∀ {ds : List D} {vs : List V} (i : Nat) {d : D} {v : V}, RepSs K ρ Z H ds vs → RepS K ρ Z H d v → RepSs K ρ Z H (ds.set i d) (vs.set i v)
  | [], _, n, _, _, h, _ => by cases (show _ = [] from h); simp [RepSs]
  | d :: ds, _, 0, _, _, h, k => by
    obtain ⟨v, r, rfl, h1, h2⟩ := h
    exact ⟨_, _, rfl, k, h2⟩
  | d :: ds, _, n + 1, _, _, h, k => by
    obtain ⟨v, r, rfl, h1, h2⟩ := h
    exact ⟨_, _, rfl, h1, RepSs.set n h2 k⟩
theorem RepSs.erase : ∀ {ds : List D} {vs : List V} (i : Nat), RepSs K ρ Z H ds vs → RepSs K ρ Z H (ds.eraseIdx i) (vs.eraseIdx i)
  | [], _, n, h => by cases (show _ = [] from h); simp [RepSs]
  | d :: ds, _, 0, h => by
    obtain ⟨v, r, rfl, h1, h2⟩ := h
    simpa using h2
  | d :: ds, _, n + 1, h => by
    obtain ⟨v, r, rfl, h1, h2⟩ := h
    exact ⟨_, _, rfl, h1, RepSs.erase n h2⟩
theorem RepSs.dropLast {ds : List D} {vs : List V} (h : RepSs K ρ Z H ds vs) : RepSs K ρ Z H ds.dropLast vs.dropLast := by
  rw [List.dropLast_eq_take, List.dropLast_eq_take, h.length]
  exact h.take _
theorem RepSs.one {d : D} {v : V} (h : RepS K ρ Z H d v) : RepSs K ρ Z H [d] [v] := ⟨v, [], rfl, h, rfl⟩
theorem RepSs.cons {d : D} {v : V} {ds : List D} {vs : List V} (h : RepS K ρ Z H d v) (k : RepSs K ρ Z H ds vs) : RepSs K ρ Z H (d :: ds) (v :: vs) := ⟨v, vs, rfl, h, k⟩
theorem RepS.rep {d : D} {v : V} (h : RepS K ρ Z H d v) : Rep K ρ Z H d v := by
  cases d <;> first | exact h | exact h.elim
/-- lists of either kind are read -/
theorem Rep.rd {d : D} {v : V} {ds : List D} (h : Rep K ρ Z H d v) (e : d.lst? = some ds) : ∃ a vs, v = .ref a ∧ (Rd H a (.lst vs) ∨ KL K a vs) ∧ RepSs K ρ Z H ds vs := by
  cases d with
  | own xs =>
    simp only [D.lst?, Option.some.injEq] at e
    subst e
    obtain ⟨a, vs, e, q, r⟩ := h
    exact ⟨a, vs, e, .inl (.inl q), r⟩
  | frz xs =>
    simp only [D.lst?, Option.some.injEq] at e
    subst e
    obtain ⟨a, vs, e, q, r⟩ := (show RepS K ρ Z H (.frz xs) v from h)
    rcases q with ⟨_, q⟩ | ⟨o, q⟩ | q
    · exact ⟨a, vs, e, .inl (.inl q), r⟩
    · exact ⟨a, vs, e, .inl (.inr ⟨o, q⟩), r⟩
    · exact ⟨a, vs, e, .inr q, r⟩
  | _ => cases e
theorem Rep.sql {d : D} {v : V} {ds : List D} (h : Rep K ρ Z H d v) (e : d.lst? = some ds) : ∃ a vs, v = .ref a ∧ SqL K H a vs ∧ RepSs K ρ Z H ds vs := by
  obtain ⟨a, vs, h1, h2, h3⟩ := h.rd e
  refine ⟨a, vs, h1, ?_, h3⟩
  rcases h2 with h2 | ⟨its, n, q1, q2, q3⟩
  · exact .inl h2
  · exact .inr ⟨_, its.toArray, n, q1, rfl, rfl, rfl, by simpa using q2, by simpa using q3⟩
/-- a list or a tuple -/
theorem Rep.seq {d : D} {v : V} {ds : List D} (h : Rep K ρ Z H d v) (e : d.seq? = some ds) : ∃ a vs, v = .ref a ∧ (SqL K H a vs ∨ SqT K H a vs) ∧ RepSs K ρ Z H ds vs := by
  cases d with
  | own xs =>
    obtain ⟨a, vs, h1, h2, h3⟩ := h.sql (ds := ds) e
    exact ⟨a, vs, h1, .inl h2, h3⟩
  | frz xs =>
    obtain ⟨a, vs, h1, h2, h3⟩ := h.sql (ds := ds) e
    exact ⟨a, vs, h1, .inl h2, h3⟩
  | tup xs =>
    simp only [D.seq?, Option.some.injEq] at e
    subst e
    obtain ⟨a, vs, h1, h2, h3⟩ := (show RepS K ρ Z H (.tup xs) v from h)
    exact ⟨a, vs, h1, .inr h2, h3⟩
  | _ => cases e
theorem Rep.sqt {v : V} {ds : List D} (h : Rep K ρ Z H (.tup ds) v) : ∃ a vs, v = .ref a ∧ SqT K H a vs ∧ RepSs K ρ Z H ds vs := h
end

/-! ### who holds what alone -/
def ownA (p : V × D) (a : Addr) : Nat := match p with
  | (.ref b, .own _) => if a = b then 1 else 0
  | _ => 0
def cF (a : Addr) : List (V × D) → Nat
  | [] => 0
  | p :: ps => ownA p a + cF a ps
theorem cF_append (a : Addr) : ∀ (l m : List (V × D)), cF a (l ++ m) = cF a l + cF a m
  | [], m => by simp [cF]
  | p :: l, m => by simp [cF, cF_append a l m]; omega
theorem cF_mem {a : Addr} {ds : List D} : ∀ {l : List (V × D)}, ((V.ref a, D.own ds) ∈ l) → 1 ≤ cF a l
  | p :: l, h => by
    rcases List.mem_cons.mp h with h | h
    · subst h; simp [cF, ownA]
    · have := cF_mem h; simp [cF]; omega
structure Le (F' F : List (V × D)) : Prop where
  mem : ∀ p ∈ F', p ∈ F
  cnt : ∀ a, cF a F' ≤ cF a F
theorem Le.refl (F : List (V × D)) : Le F F := ⟨fun _ h => h, fun _ => Nat.le_refl _⟩

structure Rel (K : PySem.W.Frag) (ρ Z : List Addr) (S : Sto) (F : List (V × D)) (H : Hp) : Prop where
  sl : ρ.length = S.length
  so : ∀ (n : Nat) (o : O) (a : Addr), S[n]? = some o → ρ[n]? = some a → RepO K ρ Z H o a
  fr : ∀ p ∈ F, Rep K ρ Z H p.2 p.1
  ct : ∀ a, ρ.count a + cF a F ≤ 1
  zz : ∀ a ∈ Z, ρ.count a + cF a F = 0 ∧ ∃ vs, H a = some (.lst vs)
section
variable {K : PySem.W.Frag} {ρ ρ' Z Z' : List Addr} {H H' : Hp} {S : Sto} {F F' : List (V × D)}
theorem Rel.le (r : Rel K ρ Z S F H) (l : Le F' F) : Rel K ρ Z S F' H :=
  ⟨r.sl, r.so, fun p h => r.fr p (l.mem p h), fun a => Nat.le_trans (Nat.add_le_add_left (l.cnt a) _) (r.ct a), fun a h => ⟨Nat.le_antisymm (Nat.le_trans (Nat.add_le_add_left (l.cnt a) _) (Nat.le_of_eq (r.zz a h).1)) (Nat.zero_le _), (r.zz a h).2⟩⟩
theorem Rel.zne (r : Rel K ρ Z S F H) {p : Addr} (hp : H p = none) : ∀ a ∈ Z, a ≠ p := fun a h => by
  obtain ⟨_, vs, q⟩ := r.zz a h
  exact ne_of_none q hp
theorem Rep.stb (st : Stb K Z H H') (hr : ∀ (n : Nat) (a : Addr), ρ[n]? = some a → ρ'[n]? = some a) (hz : ∀ a ∈ Z, a ∈ Z') {d : D} {v : V} (ho : ∀ a ds, d = .own ds → v = .ref a → H' a = H a) (h : Rep K ρ Z H d v) : Rep K ρ' Z' H' d v := by
  cases d with
  | own ds =>
    obtain ⟨a, vs, e, q, r⟩ := h
    exact ⟨a, vs, e, (ho a ds rfl e).trans q, RepSs.stb st hr hz _ _ r⟩
  | _ => exact RepS.stb st hr hz _ _ (show RepS K ρ Z H _ v from h)
theorem RepO.stb (st : Stb K Z H H') (hr : ∀ (n : Nat) (a : Addr), ρ[n]? = some a → ρ'[n]? = some a) (hz : ∀ a ∈ Z, a ∈ Z') {o : O} {a : Addr} (ho : H' a = H a) (h : RepO K ρ Z H o a) : RepO K ρ' Z' H' o a := by
  cases o with
  | lst ds =>
    obtain ⟨vs, q, r⟩ := h
    exact ⟨vs, ho.trans q, RepSs.stb st hr hz _ _ r⟩
  | ins _ _ => exact h
theorem RepO.there {o : O} {a : Addr} (h : RepO K ρ Z H o a) : ∃ u, H a = some u := by
  cases o with
  | lst ds =>
    obtain ⟨vs, q, r⟩ := h
    exact ⟨_, q⟩
  | ins _ _ => exact h.elim
theorem count_pos {a : Addr} {n : Nat} (h : ρ[n]? = some a) : 1 ≤ ρ.count a := List.count_pos_iff.mpr (List.mem_of_getElem? h)
/-- a new object beside all -/
theorem Rel.grow (r : Rel K ρ Z S F H) {p : Addr} {o : HO} (hp : H p = none) : Rel K ρ Z S F (upd H p o) := by
  have st : Stb K Z H (upd H p o) := Stb.new hp (r.zne hp)
  refine ⟨r.sl, fun n ob a h1 h2 => ?_, fun q hq => ?_, r.ct, fun a h => ?_⟩
  · have x := r.so n ob a h1 h2
    obtain ⟨u, e⟩ := x.there
    exact x.stb st (fun _ _ h => h) (fun _ h => h) (upd_ne (ne_of_none e hp))
  · refine (r.fr q hq).stb st (fun _ _ h => h) (fun _ h => h) fun a ds e1 e2 => ?_
    have x := r.fr q hq
    rw [e1] at x
    obtain ⟨b, vs, e, y, _⟩ := x
    rw [e2] at e; cases e
    exact upd_ne (ne_of_none y hp)
  · obtain ⟨h1, vs, h2⟩ := r.zz a h
    exact ⟨h1, vs, by rw [upd_ne (ne_of_none h2 hp)]; exact h2⟩
/-- a value beside all that nobody holds alone -/
theorem Rel.push (r : Rel K ρ Z S F H) {d : D} {v : V} (h : RepS K ρ Z H d v) : Rel K ρ Z S ((v, d) :: F) H := by
  have e : ∀ a, ownA (v, d) a = 0 := fun a => by
    unfold ownA
    cases v <;> cases d <;> first | rfl | exact h.elim
  refine ⟨r.sl, r.so, fun p hp => ?_, fun a => by simp only [cF, e a]; have := r.ct a; omega, fun a h => by simp only [cF, e a]; have := (r.zz a h).1; exact ⟨by omega, (r.zz a h).2⟩⟩
  rcases List.mem_cons.mp hp with hp | hp
  · subst hp; exact h.rep
  · exact r.fr p hp
/-- a new list that this place alone holds -/
theorem Rel.pushOwn (r : Rel K ρ Z S F H) {p : Addr} {ds : List D} {vs : List V} (hp : H p = none) (h : RepSs K ρ Z H ds vs) : Rel K ρ Z S ((.ref p, .own ds) :: F) (upd H p (.lst vs)) := by
  have g := r.grow (o := .lst vs) hp
  have st : Stb K Z H (upd H p (.lst vs)) := Stb.new hp (r.zne hp)
  have c0 : ρ.count p + cF p F = 0 := by
    have h1 : ρ.count p = 0 := by
      rw [List.count_eq_zero]
      intro hm
      obtain ⟨n, hn, e⟩ := List.getElem_of_mem hm
      have e1 : ρ[n]? = some p := by rw [List.getElem?_eq_getElem hn, e]
      have hn2 : n < S.length := by rw [← r.sl]; exact hn
      obtain ⟨u, e2⟩ := (r.so n S[n] p (List.getElem?_eq_getElem hn2) e1).there
      rw [hp] at e2; cases e2
    have h2 : cF p F = 0 := by
      have go : ∀ l : List (V × D), (∀ q ∈ l, Rep K ρ Z H q.2 q.1) → cF p l = 0 := by
        intro l
        induction l with
        | nil => intro _; rfl
        | cons q l ih =>
          intro hl
          have hq := hl q List.mem_cons_self
          have e0 : ownA q p = 0 := by
            obtain ⟨v, d⟩ := q
            unfold ownA
            split
            · rename_i b ds' heq
              cases heq
              obtain ⟨a, vs', e, y, _⟩ := hq
              cases e
              rw [if_neg]
              rintro rfl
              rw [hp] at y; cases y
            · rfl
          simp only [cF, e0, ih fun q hq => hl q (List.mem_cons_of_mem _ hq)]
      exact go F r.fr
    omega
  refine ⟨g.sl, g.so, fun q hq => ?_, fun a => ?_, fun a h => ?_⟩
  · rcases List.mem_cons.mp hq with hq | hq
    · subst hq
      exact ⟨p, vs, rfl, upd_same, RepSs.stb st (fun _ _ h => h) (fun _ h => h) _ _ h⟩
    · exact g.fr q hq
  · have := g.ct a
    simp only [cF, ownA]
    split
    · rename_i e; subst e; omega
    · omega
  · have h1 := (g.zz a h)
    have : a ≠ p := r.zne hp a h
    simp only [cF, ownA, if_neg this]
    exact ⟨by omega, h1.2⟩
end
end Mi
end
section
set_option Elab.async false
set_option maxRecDepth 100000
set_option linter.all false
namespace Mi
open PySem PySem.Spec PyProof.Rows L2

/-! ### the frame's own names -/
def pairs : L2.St → Env → List (V × D)
  | some v :: σ, some d :: en => (v, d) :: pairs σ en
  | _ :: σ, _ :: en => pairs σ en
  | _, _ => []
structure EnvOk (σ : L2.St) (en : Env) : Prop where
  len : σ.length = en.length
  def_ : ∀ (i : Nat) (d : D), en[i]? = some (some d) → ∃ v, σ[i]? = some (some v)
theorem pairs_get : ∀ {σ : L2.St} {en : Env} {i : Nat} {v : V} {d : D}, σ[i]? = some (some v) → en[i]? = some (some d) → (v, d) ∈ pairs σ en
  | [], _, _, _, _, h, _ => by simp at h
  | _ :: _, [], _, _, _, _, h => by simp at h
  | s :: σ, x :: en, 0, v, d, h, k => by
    simp at h k; subst h; subst k
    exact List.mem_cons_self
  | s :: σ, x :: en, i + 1, v, d, h, k => by
    have ih := pairs_get (σ := σ) (en := en) (i := i) (by simpa using h) (by simpa using k)
    cases s <;> cases x <;> first | exact ih | exact List.mem_cons_of_mem _ ih
/-- a place of the environment is stored: the slots' value too, or as it was -/
theorem pairs_set_mem : ∀ {σ : L2.St} {en : Env} {i : Nat} {v : V} {d : D} {p : V × D}, p ∈ pairs (σ.set i (some v)) (en.set i (some d)) → p = (v, d) ∨ p ∈ pairs σ en
  | [], _, _, _, _, _, h => by simp [pairs] at h
  | _ :: _, [], i, _, _, _, h => by cases i <;> simp [pairs] at h
  | s :: σ, x :: en, 0, v, d, p, h => by
    simp only [List.set_cons_zero, pairs] at h
    rcases List.mem_cons.mp h with h | h
    · exact .inl h
    · refine .inr ?_
      cases s <;> cases x <;> first | exact h | exact List.mem_cons_of_mem _ h
  | s :: σ, x :: en, i + 1, v, d, p, h => by
    simp only [List.set_cons_succ] at h
    cases s <;> cases x <;> simp only [pairs] at h ⊢
    all_goals first
      | exact pairs_set_mem h
      | (rcases List.mem_cons.mp h with h | h
         · exact .inr (by rw [h]; exact List.mem_cons_self)
         · rcases pairs_set_mem h with h | h
           · exact .inl h
           · exact .inr (List.mem_cons_of_mem _ h))
def own2 (a : Addr) : Option V → Option D → Nat
  | some v, some d => ownA (v, d) a
  | _, _ => 0
theorem pairs_cons_cnt (a : Addr) (s : Option V) (x : Option D) (σ : L2.St) (en : Env) : cF a (pairs (s :: σ) (x :: en)) = own2 a s x + cF a (pairs σ en) := by
  cases s <;> cases x <;> simp [pairs, cF, own2]
theorem pairs_set_cnt (a : Addr) : ∀ {σ : L2.St} {en : Env} {i : Nat} {s : Option V} {x : Option D}, i < σ.length → i < en.length →
    cF a (pairs (σ.set i s) (en.set i x)) + own2 a (σ.getD i none) (en.getD i none) = own2 a s x + cF a (pairs σ en)
  | [], _, _, _, _, h, _ => by simp at h
  | _ :: _, [], _, _, _, _, h => by simp at h
  | t :: σ, y :: en, 0, s, x, _, _ => by
    simp only [List.set_cons_zero, pairs_cons_cnt, List.getD_cons_zero]; omega
  | t :: σ, y :: en, i + 1, s, x, h, k => by
    have ih := pairs_set_cnt a (σ := σ) (en := en) (i := i) (s := s) (x := x) (by simpa using h) (by simpa using k)
    simp only [List.set_cons_succ, pairs_cons_cnt, List.getD_cons_succ]; omega
theorem set_self {α : Type} : ∀ {l : List α} {i : Nat} {a : α}, l[i]? = some a → l.set i a = l
  | [], _, _, h => by simp at h
  | x :: l, 0, a, h => by simp at h; subst h; rfl
  | x :: l, i + 1, a, h => by simp only [List.set_cons_succ, set_self (l := l) (i := i) (by simpa using h)]
theorem lt_of_get? {α : Type} {l : List α} {i : Nat} {a : α} (h : l[i]? = some a) : i < l.length := (List.getElem?_eq_some_iff.mp h).1
theorem getD_of {α : Type} {l : List (Option α)} {i : Nat} {a : Option α} (h : l[i]? = some a) : l.getD i none = a := by rw [List.getD_eq_getElem?_getD, h]; rfl
theorem EnvOk.set {σ : L2.St} {en : Env} (k : EnvOk σ en) (i : Nat) (v : V) (x : Option D) : EnvOk (σ.set i (some v)) (en.set i x) := by
  refine ⟨by simp [k.len], fun j d h => ?_⟩
  by_cases e : i = j
  · subst e
    have hi : i < en.length := by have := lt_of_get? h; simpa using this
    exact ⟨v, by rw [List.getElem?_set_self (by rw [k.len]; exact hi)]⟩
  · rw [List.getElem?_set_ne e] at h ⊢
    exact k.def_ j d h
/-- the name's value is told otherwise -/
theorem EnvOk.re {σ : L2.St} {en : Env} (k : EnvOk σ en) {i : Nat} {d0 : D} (h0 : en[i]? = some (some d0)) (x : Option D) : EnvOk σ (en.set i x) := by
  obtain ⟨v, hv⟩ := k.def_ i d0 h0
  have := k.set i v x
  rwa [set_self hv] at this
theorem EnvOk.wipe {σ : L2.St} {en : Env} (k : EnvOk σ en) (i : Nat) : EnvOk σ (en.set i none) := by
  refine ⟨by simp [k.len], fun j d h => ?_⟩
  by_cases e : i = j
  · subst e
    have hi : i < en.length := by have := lt_of_get? h; simpa using this
    rw [List.getElem?_set_self hi] at h; cases h
  · rw [List.getElem?_set_ne e] at h
    exact k.def_ j d h

section
variable {K : PySem.W.Frag} {ρ ρ' Z Z' : List Addr} {H H' : Hp} {S : Sto} {F F' : List (V × D)} {σ : L2.St} {en : Env} {i : Nat} {d : D} {v : V}
/-- ⊑ by count and members: the name's pair leaves, another comes -/
theorem le_set (k : EnvOk σ en) (hi : en[i]? = some (some d)) {v' : V} {d' : D} {G : List (V × D)} :
    Le (pairs (σ.set i (some v')) (en.set i (some d')) ++ G) ((v', d') :: (pairs σ en ++ G)) := by
  have hl := lt_of_get? hi
  have hl' : i < σ.length := by rw [k.len]; exact hl
  refine ⟨fun p h => ?_, fun a => ?_⟩
  · rcases List.mem_append.mp h with h | h
    · rcases pairs_set_mem h with h | h
      · rw [h]; exact List.mem_cons_self
      · exact List.mem_cons_of_mem _ (List.mem_append_left _ h)
    · exact List.mem_cons_of_mem _ (List.mem_append_right _ h)
  · have := pairs_set_cnt a (σ := σ) (en := en) (i := i) (s := some v') (x := some d') hl' hl
    simp only [cF_append, cF, own2] at this ⊢
    omega
theorem le_setAny (hl : i < en.length) (hl' : i < σ.length) {v' : V} {d' : D} {G : List (V × D)} :
    Le (pairs (σ.set i (some v')) (en.set i (some d')) ++ G) ((v', d') :: (pairs σ en ++ G)) := by
  refine ⟨fun p h => ?_, fun a => ?_⟩
  · rcases List.mem_append.mp h with h | h
    · rcases pairs_set_mem h with h | h
      · rw [h]; exact List.mem_cons_self
      · exact List.mem_cons_of_mem _ (List.mem_append_left _ h)
    · exact List.mem_cons_of_mem _ (List.mem_append_right _ h)
  · have := pairs_set_cnt a (σ := σ) (en := en) (i := i) (s := some v') (x := some d') hl' hl
    simp only [cF_append, cF, own2] at this ⊢
    omega
theorem pairs_wipe_mem : ∀ {σ : L2.St} {en : Env} {i : Nat} {p : V × D}, p ∈ pairs σ (en.set i none) → p ∈ pairs σ en
  | [], _, _, _, h => by simp [pairs] at h
  | _ :: _, [], i, _, h => by cases i <;> simp [pairs] at h
  | s :: σ, x :: en, 0, p, h => by
    simp only [List.set_cons_zero] at h
    cases s <;> cases x <;> simp only [pairs] at h ⊢ <;> first | exact h | exact List.mem_cons_of_mem _ h
  | s :: σ, x :: en, i + 1, p, h => by
    simp only [List.set_cons_succ] at h
    cases s <;> cases x <;> simp only [pairs] at h ⊢
    all_goals first
      | exact pairs_wipe_mem h
      | (rcases List.mem_cons.mp h with h | h
         · rw [h]; exact List.mem_cons_self
         · exact List.mem_cons_of_mem _ (pairs_wipe_mem h))
theorem pairs_wipe_cnt (a : Addr) : ∀ {σ : L2.St} {en : Env} {i : Nat}, cF a (pairs σ (en.set i none)) ≤ cF a (pairs σ en)
  | [], _, _ => by simp [pairs, cF]
  | _ :: _, [], i => by cases i <;> simp [pairs, cF]
  | s :: σ, x :: en, 0 => by
    simp only [List.set_cons_zero, pairs_cons_cnt]
    cases s <;> cases x <;> simp [own2]
  | s :: σ, x :: en, i + 1 => by
    have := pairs_wipe_cnt a (σ := σ) (en := en) (i := i)
    simp only [List.set_cons_succ, pairs_cons_cnt]; omega
theorem le_wipe {G : List (V × D)} : Le (pairs σ (en.set i none) ++ G) (pairs σ en ++ G) :=
  ⟨fun p h => by
    rcases List.mem_append.mp h with h | h
    · exact List.mem_append_left _ (pairs_wipe_mem h)
    · exact List.mem_append_right _ h, fun a => by simp only [cF_append]; have := pairs_wipe_cnt a (σ := σ) (en := en) (i := i); omega⟩
/-- the name's own value moves away -/
theorem le_move (k : EnvOk σ en) (hi : en[i]? = some (some d)) (hv : σ[i]? = some (some v)) {G : List (V × D)} :
    Le ((v, d) :: (pairs σ (en.set i none) ++ G)) (pairs σ en ++ G) := by
  have hl := lt_of_get? hi
  have hl' : i < σ.length := by rw [k.len]; exact hl
  refine ⟨fun p h => ?_, fun a => ?_⟩
  · rcases List.mem_cons.mp h with h | h
    · rw [h]; exact List.mem_append_left _ (pairs_get hv hi)
    · exact (le_wipe (G := G)).mem p h
  · have := pairs_set_cnt a (σ := σ) (en := en) (i := i) (s := some v) (x := none) hl' hl
    rw [set_self hv, getD_of hv, getD_of hi] at this
    simp only [cF_append, cF, own2] at this ⊢
    omega
theorem le_back (k : EnvOk σ en) (hi : i < en.length) (hv : σ[i]? = some (some v)) {G : List (V × D)} :
    Le (pairs σ (en.set i (some d)) ++ G) ((v, d) :: (pairs σ en ++ G)) := by
  have := le_setAny (σ := σ) (en := en) (i := i) (v' := v) (d' := d) (G := G) hi (by rw [k.len]; exact hi)
  rwa [set_self hv] at this
theorem le_drop {p : V × D} {G : List (V × D)} : Le G (p :: G) := ⟨fun _ h => List.mem_cons_of_mem _ h, fun a => by simp only [cF]; omega⟩
theorem le_swap {p : V × D} {A G : List (V × D)} : Le (A ++ p :: G) (p :: (A ++ G)) := by
  refine ⟨fun q h => ?_, fun a => by simp only [cF_append, cF]; omega⟩
  rcases List.mem_append.mp h with h | h
  · exact List.mem_cons_of_mem _ (List.mem_append_left _ h)
  · rcases List.mem_cons.mp h with h | h
    · rw [h]; exact List.mem_cons_self
    · exact List.mem_cons_of_mem _ (List.mem_append_right _ h)
theorem le_swap' {p : V × D} {A G : List (V × D)} : Le (p :: (A ++ G)) (A ++ p :: G) := by
  refine ⟨fun q h => ?_, fun a => by simp only [cF_append, cF]; omega⟩
  rcases List.mem_cons.mp h with h | h
  · rw [h]; exact List.mem_append_right _ List.mem_cons_self
  · rcases List.mem_append.mp h with h | h
    · exact List.mem_append_left _ h
    · exact List.mem_append_right _ (List.mem_cons_of_mem _ h)
theorem le_mid {A B G : List (V × D)} : Le (A ++ G) (A ++ (B ++ G)) := by
  refine ⟨fun q h => ?_, fun a => by simp only [cF_append]; omega⟩
  rcases List.mem_append.mp h with h | h
  · exact List.mem_append_left _ h
  · exact List.mem_append_right _ (List.mem_append_right _ h)
theorem Le.trans {A B C : List (V × D)} (h : Le A B) (k : Le B C) : Le A C := ⟨fun p q => k.mem p (h.mem p q), fun a => Nat.le_trans (h.cnt a) (k.cnt a)⟩
theorem Le.cons {A B : List (V × D)} (h : Le A B) (p : V × D) : Le (p :: A) (p :: B) := by
  refine ⟨fun q k => ?_, fun a => by simp only [cF]; have := h.cnt a; omega⟩
  rcases List.mem_cons.mp k with k | k
  · rw [k]; exact List.mem_cons_self
  · exact List.mem_cons_of_mem _ (h.mem q k)

/-- a list that one place held is shared from now on -/
theorem Rel.freeze {ds : List D} (r : Rel K ρ Z S ((v, .own ds) :: F) H) : ∃ a, v = .ref a ∧ Rel K ρ (a :: Z) S ((v, .frz ds) :: F) H := by
  obtain ⟨a, vs, e, q, y⟩ := r.fr _ List.mem_cons_self
  replace e : v = .ref a := e
  subst e
  have hz : ∀ b ∈ Z, b ∈ a :: Z := fun b h => List.mem_cons_of_mem _ h
  have c1 := r.ct a
  have e1 : ownA (V.ref a, D.own ds) a = 1 := by simp [ownA]
  have e2 : ∀ b, ownA (V.ref a, D.frz ds) b = 0 := fun b => rfl
  simp only [cF, e1] at c1
  refine ⟨a, rfl, r.sl, fun n o b h1 h2 => (r.so n o b h1 h2).stb Stb.refl (fun _ _ h => h) hz rfl, fun p hp => ?_, fun b => ?_, fun b hb => ?_⟩
  · rcases List.mem_cons.mp hp with hp | hp
    · subst hp
      exact ⟨a, vs, rfl, .inl ⟨List.mem_cons_self, q⟩, RepSs.stb Stb.refl (fun _ _ h => h) hz _ _ y⟩
    · exact (r.fr p (List.mem_cons_of_mem _ hp)).stb Stb.refl (fun _ _ h => h) hz fun _ _ _ _ => rfl
  · have := r.ct b
    simp only [cF, e2] at this ⊢
    omega
  · simp only [cF, e2]
    rcases List.mem_cons.mp hb with hb | hb
    · subst hb
      exact ⟨by omega, vs, q⟩
    · have h0 := r.zz b hb
      simp only [cF] at h0
      exact ⟨by omega, h0.2⟩
/-- a list that one place held becomes an object of the store -/
theorem Rel.shelve {ds : List D} (r : Rel K ρ Z S ((v, .own ds) :: F) H) : ∃ a, v = .ref a ∧ Rel K (ρ ++ [a]) Z (S ++ [.lst ds]) ((v, .ref S.length) :: F) H := by
  obtain ⟨a, vs, e, q, y⟩ := r.fr _ List.mem_cons_self
  replace e : v = .ref a := e
  subst e
  have hr : ∀ (n : Nat) (b : Addr), ρ[n]? = some b → (ρ ++ [a])[n]? = some b := fun n b h => by rw [List.getElem?_append_left (lt_of_get? h)]; exact h
  have c1 := r.ct a
  have e1 : ownA (V.ref a, D.own ds) a = 1 := by simp [ownA]
  have e2 : ∀ b, ownA (V.ref a, D.ref S.length) b = 0 := fun b => rfl
  have e3 : ∀ b, ownA (V.ref a, D.own ds) b = if b = a then 1 else 0 := fun b => rfl
  have e4 : ∀ b : Addr, ([a] : List Addr).count b = if b = a then 1 else 0 := fun b => by
    by_cases h : b = a
    · subst h; simp
    · rw [if_neg h, List.count_eq_zero]; simpa using h
  simp only [cF, e1] at c1
  refine ⟨a, rfl, by simp [r.sl], fun n o b h1 h2 => ?_, fun p hp => ?_, fun b => ?_, fun b hb => ?_⟩
  · by_cases hn : n < S.length
    · rw [List.getElem?_append_left hn] at h1
      rw [List.getElem?_append_left (by rw [r.sl]; exact hn)] at h2
      exact (r.so n o b h1 h2).stb Stb.refl hr (fun _ h => h) rfl
    · have hn2 : n = S.length := by
        have := lt_of_get? h1
        simp only [List.length_append, List.length_singleton] at this
        omega
      subst hn2
      rw [List.getElem?_append_right (Nat.le_refl _)] at h1
      rw [← r.sl, List.getElem?_append_right (Nat.le_refl _)] at h2
      simp at h1 h2
      subst h1; subst h2
      exact ⟨vs, q, RepSs.stb Stb.refl hr (fun _ h => h) _ _ y⟩
  · rcases List.mem_cons.mp hp with hp | hp
    · subst hp
      refine ⟨a, rfl, ?_⟩
      rw [← r.sl, List.getElem?_append_right (Nat.le_refl _)]
      simp
    · exact (r.fr p (List.mem_cons_of_mem _ hp)).stb Stb.refl hr (fun _ h => h) fun _ _ _ _ => rfl
  · have := r.ct b
    simp only [cF, e2, e3, List.count_append, e4] at this ⊢
    omega
  · have h0 := r.zz b hb
    simp only [cF, e2, e3, List.count_append, e4] at h0 ⊢
    exact ⟨by omega, h0.2⟩
/-- the list at a place that holds it alone changes -/
theorem Rel.changeOwn {a : Addr} {ds ds' : List D} {vs' : List V} (r : Rel K ρ Z S ((.ref a, .own ds) :: F) H) (y : RepSs K ρ Z H ds' vs') : Rel K ρ Z S ((.ref a, .own ds') :: F) (upd H a (.lst vs')) := by
  obtain ⟨a', vs, e, q, _⟩ := r.fr _ List.mem_cons_self
  cases e
  have c1 := r.ct a
  have e1 : ∀ ds : List D, ownA (V.ref a, D.own ds) a = 1 := fun ds => by simp [ownA]
  have e3 : ∀ (ds : List D) (b : Addr), ownA (V.ref a, D.own ds) b = if b = a then 1 else 0 := fun ds b => rfl
  simp only [cF, e1] at c1
  have hza : ∀ b ∈ Z, b ≠ a := fun b hb e => by
    subst e
    have := (r.zz b hb).1
    simp only [cF, e1] at this
    omega
  have st : Stb K Z H (upd H a (.lst vs')) := Stb.set q hza
  refine ⟨r.sl, fun n o b h1 h2 => ?_, fun p hp => ?_, fun b => ?_, fun b hb => ?_⟩
  · refine (r.so n o b h1 h2).stb st (fun _ _ h => h) (fun _ h => h) (upd_ne ?_)
    rintro rfl
    have := count_pos h2
    omega
  · rcases List.mem_cons.mp hp with hp2 | hp2
    · subst hp2
      exact ⟨a, vs', rfl, upd_same, RepSs.stb st (fun _ _ h => h) (fun _ h => h) _ _ y⟩
    · refine (r.fr p (List.mem_cons_of_mem _ hp2)).stb st (fun _ _ h => h) (fun _ h => h) fun b es e1 e2 => upd_ne ?_
      rintro rfl
      obtain ⟨v, d⟩ := p
      replace e1 : d = _ := e1
      replace e2 : v = _ := e2
      subst e1; subst e2
      have := cF_mem hp2
      omega
  · have := r.ct b
    simp only [cF, e3] at this ⊢
    exact this
  · have h0 := r.zz b hb
    simp only [cF, e3] at h0 ⊢
    refine ⟨h0.1, ?_⟩
    obtain ⟨_, ws, h⟩ := h0
    exact ⟨ws, by rw [upd_ne (hza b hb)]; exact h⟩
/-- a list of the store changes -/
theorem Rel.changeRef {a : Addr} {n : Nat} {ds ds' : List D} {vs' : List V} (r : Rel K ρ Z S F H) (hS : S[n]? = some (.lst ds)) (hr : ρ[n]? = some a) (y : RepSs K ρ Z H ds' vs') : Rel K ρ Z (S.set n (.lst ds')) F (upd H a (.lst vs')) := by
  obtain ⟨vs, q, _⟩ := r.so n _ a hS hr
  have c1 := r.ct a
  have c2 := count_pos hr
  have hza : ∀ b ∈ Z, b ≠ a := fun b hb e => by
    subst e
    have := (r.zz b hb).1
    omega
  have st : Stb K Z H (upd H a (.lst vs')) := Stb.set q hza
  have inj : ∀ m, ρ[m]? = some a → m = n := fun m hm => by
    have hm2 := lt_of_get? hm
    have hn2 := lt_of_get? hr
    have nd : ρ.Nodup := by
      rw [List.nodup_iff_count]
      intro b
      have := r.ct b
      omega
    exact (List.getElem_inj nd).mp (Option.some.inj (by rw [← List.getElem?_eq_getElem hm2, ← List.getElem?_eq_getElem hn2, hm, hr]))
  refine ⟨by simp [r.sl], fun m o b h1 h2 => ?_, fun p hp => ?_, r.ct, fun b hb => ?_⟩
  · by_cases hm : n = m
    · subst hm
      rw [hr] at h2; cases h2
      rw [List.getElem?_set_self (lt_of_get? hS)] at h1
      cases h1
      exact ⟨vs', upd_same, RepSs.stb st (fun _ _ h => h) (fun _ h => h) _ _ y⟩
    · rw [List.getElem?_set_ne hm] at h1
      refine (r.so m o b h1 h2).stb st (fun _ _ h => h) (fun _ h => h) (upd_ne ?_)
      rintro rfl
      exact hm (inj m h2).symm
  · refine (r.fr p hp).stb st (fun _ _ h => h) (fun _ h => h) fun b es e1 e2 => upd_ne ?_
    rintro rfl
    obtain ⟨v, d⟩ := p
    replace e1 : d = _ := e1
    replace e2 : v = _ := e2
    subst e1; subst e2
    have := cF_mem hp
    omega
  · obtain ⟨h0, ws, h⟩ := r.zz b hb
    exact ⟨h0, ws, by rw [upd_ne (hza b hb)]; exact h⟩
end

/-! ### what the code does is what the evaluator tells -/
/-- an exception of the evaluator's and one of the code -/
def ExR (K : PySem.W.Frag) (ρ Z : List Addr) (H : Hp) (x : Ex) (cls : Value) (dx : Option Addr) : Prop := False
/-- what is wanted of an exception -/
def XC (K : PySem.W.Frag) (W : WX) (σ : L2.St) (F : List (V × D)) (x : Ex) (en : Env) (S : Sto) : Prop :=
  ∀ (ρ Z : List Addr) (H : Hp) (cls : Value) (dx : Option Addr), EnvOk σ en → Rel K ρ Z S (pairs σ en ++ F) H → ExR K ρ Z H x cls dx → W cls dx σ H
def Post {α : Type} (K : PySem.W.Frag) (W : WX) (σ : L2.St) (F : List (V × D)) (good : α → Env → Sto → Prop) : R α → Prop
  | .ok a en S => good a en S
  | .exc x en S => XC K W σ F x en S
  | .stuck => False
structure At (K : PySem.W.Frag) (ρ Z : List Addr) (S : Sto) (σ : L2.St) (en : Env) (F : List (V × D)) (H : Hp) : Prop where
  k : EnvOk σ en
  r : Rel K ρ Z S (pairs σ en ++ F) H
def Sim {α : Type} (K : PySem.W.Frag) (W : WX) (m : M α) (good : L2.St → List (V × D) → α → Env → Sto → Prop) (σ : L2.St) (H : Hp) : Prop :=
  ∃ (ρ Z : List Addr) (S : Sto) (en : Env) (F : List (V × D)), At K ρ Z S σ en F H ∧ Post K W σ F (good σ F) (m en S)
def simE (K : PySem.W.Frag) (W : WX) (m : M D) : TE := fun σ H Q => Sim K W m (fun σ F d en S => ∀ (ρ Z : List Addr) (v : V) (H : Hp), EnvOk σ en → Rel K ρ Z S ((v, d) :: (pairs σ en ++ F)) H → Q v H) σ H
def simT (K : PySem.W.Frag) (W : WX) (m : M Bool) : TT := fun σ H Q => Sim K W m (fun σ F b en S => ∀ (ρ Z : List Addr) (H : Hp), EnvOk σ en → Rel K ρ Z S (pairs σ en ++ F) H → Q b H) σ H
/-- borrowed operands -/
def simOs (K : PySem.W.Frag) (W : WX) (m : M (List D)) : TA := fun σ H Q => Sim K W m (fun σ F ds en S => ∀ (ρ Z : List Addr) (vs : List V) (H : Hp), EnvOk σ en → Rel K ρ Z S (pairs σ en ++ F) H → Paired (fun d v => Rep K ρ Z H d v) ds vs → Q vs H) σ H
/-- arguments that are handed on -/
def simAs (K : PySem.W.Frag) (W : WX) (m : M (List D)) : TA := fun σ H Q => Sim K W m (fun σ F ds en S => ∀ (ρ Z : List Addr) (vs : List V) (H : Hp), EnvOk σ en → vs.length = ds.length → Rel K ρ Z S (vs.zip ds ++ (pairs σ en ++ F)) H → Q vs H) σ H
theorem PE.by {X : Cx} {e : Expr} {t t' : TE} (h : PE X e t) (k : ∀ σ H Q, t' σ H Q → t σ H Q) : PE X e t' := ⟨fun pins s σ H Q I q => h.run pins s σ H Q I (k σ H Q q)⟩
theorem PT.by {X : Cx} {e : Expr} {t t' : TT} (h : PT X e t) (k : ∀ σ H Q, t' σ H Q → t σ H Q) : PT X e t' := ⟨fun pins s σ H Q I q => h.run pins s σ H Q I (k σ H Q q)⟩
theorem PA.by {X : Cx} {e : List Expr} {t t' : TA} (h : PA X e t) (k : ∀ σ H Q, t' σ H Q → t σ H Q) : PA X e t' := ⟨fun pos pins s σ H Q I q => h.run pos pins s σ H Q I (k σ H Q q)⟩

section
variable {K : PySem.W.Frag} {W : WX} {i : Nat}
/-- what stands in a name's slot -/
theorem slot_v {σ : L2.St} {en : Env} (k : EnvOk σ en) {d : D} (h : en[i]? = some (some d)) : ∃ v, σ[i]? = some (some v) ∧ (v, d) ∈ pairs σ en := by
  obtain ⟨v, hv⟩ := k.def_ i d h
  exact ⟨v, hv, pairs_get hv h⟩
theorem sim_use : ∀ σ H Q, simE K W (useV i) σ H Q → tVar i σ H Q := fun σ H Q ⟨ρ, Z, S, en, F, ⟨k, r⟩, h⟩ => by
  cases e : en[i]? with
  | none => (simp only [useV, e] at h; exact h.elim)
  | some o =>
    cases o with
    | none => (simp only [useV, e] at h; exact h.elim)
    | some d =>
      obtain ⟨v, hv, hm⟩ := slot_v k e
      refine ⟨v, hv, ?_⟩
      have dflt : (∀ xs, d ≠ .own xs) → Q v H := fun hd => by
        have h' : ∀ (ρ' Z' : List Addr) (v : V) (H' : Hp), EnvOk σ en → Rel K ρ' Z' S ((v, d) :: (pairs σ en ++ F)) H' → Q v H' := by
          cases d with
          | own xs => exact (hd xs rfl).elim
          | _ => simp only [useV, e] at h; exact h
        refine h' ρ Z v H k (r.push ?_)
        have := r.fr _ (List.mem_append_left _ hm)
        cases d with
        | own xs => exact (hd xs rfl).elim
        | _ => exact this
      cases d with
      | own xs =>
        simp only [useV, e] at h
        have r2 := r.le (le_move (G := F) k e hv)
        obtain ⟨a, ea, r3⟩ := r2.freeze
        subst ea
        have rs : RepS K ρ (a :: Z) H (.frz xs) (.ref a) := r3.fr _ List.mem_cons_self
        refine h ρ (a :: Z) _ H (k.re e _) ((r3.le ?_).push rs)
        have := le_back (σ := σ) (en := en.set i none) (i := i) (v := .ref a) (d := .frz xs) (G := F) (k.wipe i) (by simpa using lt_of_get? e) hv
        simpa using this
      | _ => exact dflt (fun xs z => by cases z)
theorem sim_move : ∀ σ H Q, simE K W (moveV i) σ H Q → tVar i σ H Q := fun σ H Q ⟨ρ, Z, S, en, F, ⟨k, r⟩, h⟩ => by
  cases e : en[i]? with
  | none => (simp only [moveV, e] at h; exact h.elim)
  | some o =>
    cases o with
    | none => (simp only [moveV, e] at h; exact h.elim)
    | some d =>
      obtain ⟨v, hv, hm⟩ := slot_v k e
      refine ⟨v, hv, ?_⟩
      simp only [moveV, e] at h
      exact h ρ Z v H (k.re e _) (r.le (le_move k e hv))
theorem sim_ref : ∀ σ H Q, simE K W (refV i) σ H Q → tVar i σ H Q := fun σ H Q ⟨ρ, Z, S, en, F, ⟨k, r⟩, h⟩ => by
  cases e : en[i]? with
  | none => (simp only [refV, e] at h; exact h.elim)
  | some o =>
    cases o with
    | none => (simp only [refV, e] at h; exact h.elim)
    | some d =>
      obtain ⟨v, hv, hm⟩ := slot_v k e
      refine ⟨v, hv, ?_⟩
      have dflt : (∀ xs, d ≠ .own xs) → Q v H := fun hd => by
        have h' : ∀ (ρ' Z' : List Addr) (v : V) (H' : Hp), EnvOk σ en → Rel K ρ' Z' S ((v, d) :: (pairs σ en ++ F)) H' → Q v H' := by
          cases d with
          | own xs => exact (hd xs rfl).elim
          | _ => simp only [refV, e] at h; exact h
        refine h' ρ Z v H k (r.push ?_)
        have := r.fr _ (List.mem_append_left _ hm)
        cases d with
        | own xs => exact (hd xs rfl).elim
        | _ => exact this
      cases d with
      | own xs =>
        simp only [refV, e] at h
        have r2 := r.le (le_move (G := F) k e hv)
        obtain ⟨a, ea, r3⟩ := r2.shelve
        subst ea
        have rs : RepS K (ρ ++ [a]) Z H (.ref S.length) (.ref a) := r3.fr _ List.mem_cons_self
        refine h (ρ ++ [a]) Z _ H (k.re e _) ((r3.le ?_).push rs)
        have := le_back (σ := σ) (en := en.set i none) (i := i) (v := .ref a) (d := .ref S.length) (G := F) (k.wipe i) (by simpa using lt_of_get? e) hv
        simpa using this
      | _ => exact dflt (fun xs z => by cases z)
end
end Mi
end
section
set_option Elab.async false
set_option maxRecDepth 100000
set_option linter.all false
namespace Mi
open PySem PySem.Spec PyProof.Rows L2

/-- what comes out of a pure thing: a value that stands already, or a new tuple, a new list -/
inductive Out (K : PySem.W.Frag) (ρ Z : List Addr) (H : Hp) : D → V → Hp → Prop where
  | old {d : D} {v : V} (h : RepS K ρ Z H d v) : Out K ρ Z H d v H
  | tup {p : Addr} {ds : List D} {vs : List V} (hp : H p = none) (h : RepSs K ρ Z H ds vs) : Out K ρ Z H (.tup ds) (.ref p) (upd H p (.tup vs))
  | lst {p : Addr} {ds : List D} {vs : List V} (hp : H p = none) (h : RepSs K ρ Z H ds vs) : Out K ρ Z H (.own ds) (.ref p) (upd H p (.lst vs))
theorem Out.rel {K : PySem.W.Frag} {ρ Z : List Addr} {S : Sto} {F : List (V × D)} {H H' : Hp} {d : D} {v : V} (o : Out K ρ Z H d v H') (r : Rel K ρ Z S F H) : Rel K ρ Z S ((v, d) :: F) H' := by
  cases o with
  | old h => exact r.push h
  | @tup p ds vs hp h => exact (r.grow (o := .tup vs) hp).push ⟨_, vs, rfl, .of upd_same, RepSs.stb (Stb.new hp (r.zne hp)) (fun _ _ h => h) (fun _ h => h) _ _ h⟩
  | lst hp h => exact r.pushOwn hp h

abbrev Args (K : PySem.W.Frag) (ρ Z : List Addr) (H : Hp) (ds : List D) (vs : List V) : Prop := Paired (fun d v => Rep K ρ Z H d v) ds vs
/-- the reading of a pure thing -/
def rP (K : PySem.W.Frag) (p : P) (vs : List V) (H : Hp) (Q : VK) : Prop := ∃ (ρ Z : List Addr) (ds : List D) (d : D), primF p ds = some d ∧ Args K ρ Z H ds vs ∧ ∀ v H', Out K ρ Z H d v H' → Q v H'
def rP2 (K : PySem.W.Frag) (p : P) : R2 := fun x y H Q => rP K p [x, y] H Q
theorem paired1 {R : D → V → Prop} {ds : List D} {x : V} (h : Paired R ds [x]) : ∃ a, ds = [a] ∧ R a x := by
  cases h with | cons h t => cases t; exact ⟨_, rfl, h⟩
theorem paired2 {R : D → V → Prop} {ds : List D} {x y : V} (h : Paired R ds [x, y]) : ∃ a b, ds = [a, b] ∧ R a x ∧ R b y := by
  cases h with | cons h t => cases t with | cons k t => cases t; exact ⟨_, _, rfl, h, k⟩
theorem big_eq : (sizeLine : Nat) = big := sizeLine_eq
section
variable {K : PySem.W.Frag} {ρ Z : List Addr} {H : Hp} {x y : V}
theorem Rep.int {i : Int} (h : Rep K ρ Z H (.int i) x) : x = .int i := h
theorem Rep.str {z : Str} (h : Rep K ρ Z H (.str z) x) : x = .str z := h
theorem Rep.bl {b : Bool} (h : Rep K ρ Z H (.bl b) x) : x = .bl b := h
theorem Rep.non (h : Rep K ρ Z H .non x) : x = .non := h
/-! ### data -/
mutual
theorem RepS.dp : ∀ (d : D) (v : V), d.plain = true → RepS K ρ Z H d v → Dp K H v d.py
  | .non, _, _, h => by cases (show _ = _ from h); exact .non
  | .bl b, _, _, h => by cases (show _ = _ from h); exact .bl b
  | .int i, _, _, h => by cases (show _ = _ from h); exact .int i
  | .str x, _, _, h => by cases (show _ = _ from h); exact .str x
  | .own _, _, _, h => h.elim
  | .ref _, _, p, _ => by cases p
  | .tup ds, _, p, h => by
    obtain ⟨a, vs, rfl, q, r⟩ := h
    exact .tup q (RepSs.dp ds vs p r)
  | .frz ds, _, p, h => by
    obtain ⟨a, vs, rfl, q, r⟩ := h
    refine .lst ?_ (RepSs.dp ds vs p r)
    rcases q with ⟨_, q⟩ | ⟨o, q⟩ | ⟨its, n, q1, q2, q3⟩
    · exact .of q
    · exact .inl (.inr ⟨o, q⟩)
    · exact .inr ⟨_, its.toArray, n, q1, rfl, rfl, rfl, by simpa using q2, by simpa using q3⟩
theorem RepSs.dp : ∀ (ds : List D) (vs : List V), D.plains ds = true → RepSs K ρ Z H ds vs → DpAll K H vs (D.pys ds)
  | [], _, _, h => by cases (show _ = [] from h); exact .nil
  | d :: ds, _, p, h => by
    obtain ⟨v, r, rfl, h1, h2⟩ := h
    have p' : d.plain = true ∧ D.plains ds = true := Bool.and_eq_true_iff.mp p
    exact .cons (RepS.dp d v p'.1 h1) (RepSs.dp ds r p'.2 h2)
end
theorem Rep.dp {d : D} {v : V} (p : d.plain = true) (h : Rep K ρ Z H d v) : Dp K H v d.py := by
  cases d with
  | own ds =>
    obtain ⟨a, vs, rfl, q, r⟩ := h
    exact .lst (.of q) (RepSs.dp ds vs p r)
  | _ => exact RepS.dp (ρ := ρ) (Z := Z) _ _ p h
mutual
theorem plain_py : ∀ d : D, d.plain = true → d.py.plain = true
  | .non, _ => rfl
  | .bl _, _ => rfl
  | .int _, _ => rfl
  | .str _, _ => rfl
  | .ref _, h => nomatch h
  | .tup ds, h => plains_py ds h
  | .frz ds, h => plains_py ds h
  | .own ds, h => plains_py ds h
theorem plains_py : ∀ ds : List D, D.plains ds = true → PyData.plainAll (D.pys ds) = true
  | [], _ => rfl
  | d :: ds, h => by
    have p' : d.plain = true ∧ D.plains ds = true := Bool.and_eq_true_iff.mp h
    simp only [D.pys, PyData.plainAll, plain_py d p'.1, plains_py ds p'.2, Bool.and_self]
end
end

section
variable {X : Cx}
theorem list_at {pins : List (Addr × Obj)} {σ : L2.St} {H : Hp} {s : Shared} {a : Addr} {vs : List V} (I : Inv X pins σ H s) (h : Rd H a (.lst vs) ∨ KL X.K a vs) : vs.length ≤ sizeLine ∧ ∃ (its : List Value) (n : Nat), Vals vs its ∧ IsL s.heap a its.toArray n := by
  rcases h with h | ⟨its, n, q1, q2, q3⟩
  · obtain ⟨hz, its, n, rv, e1⟩ := h.ok I.hok
    exact ⟨hz, its, n, rv, e1⟩
  · exact ⟨by rw [q3.length]; exact q2, its, n, q3, I.kIn a _ q1⟩
theorem op_add_P : OpR X (binaryOp .Add) (rP2 X.K .add) := by
  intro pins s σ H x y v u Q I rx ry h
  obtain ⟨ρ, Z, ds, d, e, ar, hQ⟩ := h
  obtain ⟨a, b, rfl, ha, hb⟩ := paired2 ar
  have e' : pAdd a b = some d := e
  have cat : ∀ xs ys, a.lst? = some xs → b.lst? = some ys → xs.length + ys.length ≤ big → d = .own (xs ++ ys) → wpAny (model X.prog X.w) X.A (binaryOp .Add v u) (EP X pins σ Q) X.xe s := by
    intro xs ys h1 h2 h3 hd
    subst hd
    obtain ⟨l, vs, rfl, q1, r1⟩ := ha.rd h1
    obtain ⟨m, ws, rfl, q2, r2⟩ := hb.rd h2
    cases rx; cases ry
    obtain ⟨hz, its, n, rv, e1⟩ := list_at I q1
    obtain ⟨hz2, its2, n2, rv2, e2⟩ := list_at I q2
    have l1 := rv.length
    have l2 := rv2.length
    have l3 := r1.length
    have l4 := r2.length
    have hbig := big_eq
    refine PySem.P.add_list e1 e2 ?_ (by rw [List.size_toArray, List.size_toArray]; omega)
    have ea : its.toArray ++ its2.toArray = (its ++ its2).toArray := by simp
    rw [ea]
    exact ⟨.ref _, _, I.lnew (t' := s.toks) (rv.append rv2) (by rw [List.length_append]; omega), rfl, hQ _ _ (.lst I.fresh (r1.append r2))⟩
  cases a with
  | int i =>
    cases b with
    | int j =>
      simp only [pAdd, Option.some.injEq] at e'
      subst e'
      exact op_add pins s σ H x y v u Q I rx ry ⟨i, j, ha, hb, hQ _ _ (.old rfl)⟩
    | _ => simp [pAdd, D.lst?] at e'
  | str i =>
    cases b with
    | str j =>
      simp only [pAdd] at e'
      split at e'
      · rename_i hl
        cases e'
        exact op_add_str pins s σ H x y v u Q I rx ry ⟨i, j, ha, hb, by rw [big_eq]; exact hl, hQ _ _ (.old rfl)⟩
      · cases e'
    | _ => simp [pAdd, D.lst?] at e'
  | tup xs =>
    cases b with
    | tup ys =>
      simp only [pAdd] at e'
      split at e'
      · rename_i hl
        cases e'
        obtain ⟨l, vs, rfl, q1, r1⟩ := ha.sqt
        obtain ⟨m, ws, rfl, q2, r2⟩ := hb.sqt
        have l3 := r1.length
        have l4 := r2.length
        refine op_catA pins s σ H _ _ v u Q I rx ry ⟨l, m, vs, ws, rfl, rfl, q1, q2, by rw [big_eq]; omega, fun hn => ?_, fun _ hn => ?_, fun _ _ p hp => ?_⟩
        · refine hQ _ _ (.old ?_)
          subst hn
          have : xs = [] := by cases xs with | nil => rfl | cons => simp at l3
          subst this
          exact ⟨m, ws, rfl, q2, r2⟩
        · refine hQ _ _ (.old ?_)
          subst hn
          have : ys = [] := by cases ys with | nil => rfl | cons => simp at l4
          subst this
          rw [List.append_nil]
          exact ⟨l, vs, rfl, q1, r1⟩
        · exact hQ _ _ (.tup hp (r1.append r2))
      · cases e'
    | _ => simp [pAdd, D.lst?] at e'
  | own xs =>
    cases b <;> simp only [pAdd, D.lst?] at e' <;> first
      | (cases e'; done)
      | (split at e'
         · rename_i hl
           cases e'
           exact cat _ _ rfl rfl hl rfl
         · cases e')
  | frz xs =>
    cases b <;> simp only [pAdd, D.lst?] at e' <;> first
      | (cases e'; done)
      | (split at e'
         · rename_i hl
           cases e'
           exact cat _ _ rfl rfl hl rfl
         · cases e')
  | _ => cases b <;> simp [pAdd, D.lst?] at e'
end
end Mi
end
section
set_option Elab.async false
set_option maxRecDepth 100000
set_option linter.all false
namespace Mi
open PySem PySem.Spec PyProof.Rows L2
section
variable {X : Cx}
/-- two ints -/
theorem op_ii {f : Value → Value → Sem Value} {p : P} (h : ∀ (pins : List (Addr × Obj)) (s : Shared) (σ : L2.St) (H : Hp) (v u : Value) (Q : VK) (i j : Int) (d : D), Inv X pins σ H s → RelV (.int i) v → RelV (.int j) u → primF p [.int i, .int j] = some d →
      (∀ (z : V), (∀ K ρ Z, RepS K ρ Z H d z) → Q z H) → wpAny (model X.prog X.w) X.A (f v u) (EP X pins σ Q) X.xe s)
    (k : ∀ a b d, primF p [a, b] = some d → ∃ i j, a = .int i ∧ b = .int j) : OpR X f (rP2 X.K p) := by
  intro pins s σ H x y v u Q I rx ry hh
  obtain ⟨ρ, Z, ds, d, e, ar, hQ⟩ := hh
  obtain ⟨a, b, rfl, ha, hb⟩ := paired2 ar
  obtain ⟨i, j, rfl, rfl⟩ := k a b d e
  cases ha.int
  cases hb.int
  exact h pins s σ H v u Q i j d I rx ry e fun z hz => hQ z H (.old (hz _ _ _))
theorem op_sub_P : OpR X (binaryOp .Sub) (rP2 X.K .sub) := by
  refine op_ii (fun pins s σ H v u Q i j d I rx ry e hz => ?_) (fun a b d e => ?_)
  · simp only [primF, Option.some.injEq] at e
    subst e
    exact op_sub pins s σ H _ _ v u Q I rx ry ⟨i, j, rfl, rfl, hz _ fun _ _ _ => rfl⟩
  · unfold primF at e; split at e <;> simp_all
theorem op_mul_P : OpR X (binaryOp .Mult) (rP2 X.K .mul) := by
  refine op_ii (fun pins s σ H v u Q i j d I rx ry e hz => ?_) (fun a b d e => ?_)
  · simp only [primF, pMul] at e
    split at e
    · cases e
      exact op_mulW pins s σ H _ _ v u Q I rx ry ⟨i, j, rfl, rfl, by assumption, hz _ fun _ _ _ => rfl⟩
    · cases e
  · simp only [primF] at e; cases a <;> cases b <;> simp [pMul] at e <;> exact ⟨_, _, rfl, rfl⟩
theorem op_mod_P : OpR X (binaryOp .Mod) (rP2 X.K .mod) := by
  refine op_ii (fun pins s σ H v u Q i j d I rx ry e hz => ?_) (fun a b d e => ?_)
  · simp only [primF, pMod] at e
    split at e
    · cases e
      exact op_modN pins s σ H _ _ v u Q I rx ry ⟨i, j, rfl, rfl, by assumption, hz _ fun _ _ _ => rfl⟩
    · cases e
  · simp only [primF] at e; cases a <;> cases b <;> simp [pMod] at e <;> exact ⟨_, _, rfl, rfl⟩
theorem op_fdiv_P : OpR X (binaryOp .FloorDiv) (rP2 X.K .fdiv) := by
  refine op_ii (fun pins s σ H v u Q i j d I rx ry e hz => ?_) (fun a b d e => ?_)
  · simp only [primF, pFdiv] at e
    split at e
    · cases e
      exact op_fdivN pins s σ H _ _ v u Q I rx ry ⟨i, j, rfl, rfl, by assumption, hz _ fun _ _ _ => rfl⟩
    · cases e
  · simp only [primF] at e; cases a <;> cases b <;> simp [pFdiv] at e <;> exact ⟨_, _, rfl, rfl⟩
theorem op_pow_P : OpR X (binaryOp .Pow) (rP2 X.K .pow) := by
  refine op_ii (fun pins s σ H v u Q i j d I rx ry e hz => ?_) (fun a b d e => ?_)
  · simp only [primF, pPow] at e
    split at e
    · rename_i hc
      cases e
      obtain ⟨t, rfl⟩ := rx
      obtain ⟨t', rfl⟩ := ry
      exact pow_int hc.1 (by have := hc.2; omega) ⟨.int _, H, I.tok _, ⟨_, rfl⟩, hz _ fun _ _ _ => rfl⟩
    · cases e
  · simp only [primF] at e; cases a <;> cases b <;> simp [pPow] at e <;> exact ⟨_, _, rfl, rfl⟩
/-! ### == and != -/
theorem op_eq_P (hu : X.A.units + 64 < cLine) : OpR X (compareOp .Eq) (rP2 X.K .eq) := by
  intro pins s σ H x y v u Q I rx ry h
  obtain ⟨ρ, Z, ds, d, e, ar, hQ⟩ := h
  obtain ⟨a, b, rfl, ha, hb⟩ := paired2 ar
  simp only [primF, pEq] at e
  split at e
  · rename_i hc
    cases e
    simp only [cmpOk, Bool.and_eq_true, decide_eq_true_eq] at hc
    obtain ⟨⟨pa, pb⟩, hd⟩ := hc
    obtain ⟨as, r1⟩ := Dp.reads I _ _ _ (ha.dp pa) rx
    obtain ⟨bs, r2⟩ := Dp.reads I _ _ _ (hb.dp pb) ry
    refine SeqAt.eq_plain r1 r2 (plain_py _ pa) (plain_py _ pb) (by omega) ⟨.bl (D.eqv a b), H, I, rfl, ?_⟩
    have := hQ (.bl (D.eqv a b != false)) H (.old rfl)
    rwa [Bool.bne_false] at this
  · cases e
theorem op_ne_P (hu : X.A.units + 64 < cLine) : OpR X (compareOp .NotEq) (rP2 X.K .ne) := by
  intro pins s σ H x y v u Q I rx ry h
  obtain ⟨ρ, Z, ds, d, e, ar, hQ⟩ := h
  obtain ⟨a, b, rfl, ha, hb⟩ := paired2 ar
  simp only [primF, pEq] at e
  split at e
  · rename_i hc
    cases e
    simp only [cmpOk, Bool.and_eq_true, decide_eq_true_eq] at hc
    obtain ⟨⟨pa, pb⟩, hd⟩ := hc
    obtain ⟨as, r1⟩ := Dp.reads I _ _ _ (ha.dp pa) rx
    obtain ⟨bs, r2⟩ := Dp.reads I _ _ _ (hb.dp pb) ry
    refine SeqAt.ne_plain r1 r2 (plain_py _ pa) (plain_py _ pb) (by omega) ⟨.bl (!D.eqv a b), H, I, rfl, ?_⟩
    have := hQ (.bl (D.eqv a b != true)) H (.old rfl)
    rwa [Bool.bne_true] at this
  · cases e
/-! ### the order of ints and texts -/
theorem op_cmp {f : Value → Value → Sem Value} {p : P} {fi : Int → Int → Bool} {fs : List Nat → List Nat → Bool} (hp : ∀ a b, primF p [a, b] = pCmp fi fs a b)
    (h1 : OpR X f (rI0 fun i j => .bl (fi i j))) (h2 : OpR X f (fun x y H Q => ∃ i j, x = .str i ∧ y = .str j ∧ Q (.bl (fs i.cps.toList j.cps.toList)) H)) : OpR X f (rP2 X.K p) := by
  intro pins s σ H x y v u Q I rx ry h
  obtain ⟨ρ, Z, ds, d, e, ar, hQ⟩ := h
  obtain ⟨a, b, rfl, ha, hb⟩ := paired2 ar
  rw [hp] at e
  cases a with
  | int i =>
    cases b <;> simp only [pCmp, Option.some.injEq] at e <;> first | (cases e; done) | skip
    subst e
    exact h1 pins s σ H x y v u Q I rx ry ⟨_, _, ha, hb, hQ _ _ (.old rfl)⟩
  | str i =>
    cases b <;> simp only [pCmp, Option.some.injEq] at e <;> first | (cases e; done) | skip
    subst e
    exact h2 pins s σ H x y v u Q I rx ry ⟨_, _, ha, hb, hQ _ _ (.old rfl)⟩
  | _ => cases b <;> simp [pCmp] at e
theorem op_lt_P : OpR X (compareOp .Lt) (rP2 X.K .lt) := op_cmp (fi := fun i j => decide (i < j)) (fs := fun i j => decide (i < j)) (fun _ _ => rfl) op_lt op_lt_str
theorem op_le_P : OpR X (compareOp .LtE) (rP2 X.K .le) := op_cmp (fi := fun i j => decide (i ≤ j)) (fs := fun i j => !decide (j < i)) (fun _ _ => rfl) op_le op_le_str
theorem op_gt_P : OpR X (compareOp .Gt) (rP2 X.K .gt) := op_cmp (fi := fun i j => decide (j < i)) (fs := fun i j => decide (j < i)) (fun _ _ => rfl) op_gt op_gt_str
theorem op_ge_P : OpR X (compareOp .GtE) (rP2 X.K .ge) := op_cmp (fi := fun i j => decide (j ≤ i)) (fs := fun i j => !decide (i < j)) (fun _ _ => rfl) op_ge op_ge_str
/-! ### in, not in -/
theorem pys_any (x : D) : ∀ ds : List D, (D.pys ds).any (fun z => PyData.eqv z x.py) = ds.any fun z => D.eqv z x
  | [] => rfl
  | d :: ds => by simp only [D.pys, List.any_cons, pys_any x ds]; rfl
theorem depthAll_min (m : Nat) (x : PyData) (xs : List PyData) (h : min x.depth x.depth ≤ m) : min (PyData.depthAll xs) x.depth ≤ m := by omega
theorem in_data {n : Bool} {x y : V} {a b : D} {ds : List D} {ρ Z : List Addr} {H : Hp} {pins : List (Addr × Obj)} {s : Shared} {σ : L2.St} {v u : Value} {Q : VK} (hu : X.A.units + 64 < cLine) (I : Inv X pins σ H s) (rx : RelV x v) (ry : RelV y u)
    (ha : Rep X.K ρ Z H a x) (hb : Rep X.K ρ Z H b y) (hs : b.seq? = some ds) (hc : (cmpOk a a && D.plains ds) = true) (q : Q (.bl ((ds.any fun z => D.eqv z a) != n)) H) :
    wpAny (model X.prog X.w) X.A (compareOp (if n then .NotIn else .In) v u) (EP X pins σ Q) X.xe s := by
  simp only [cmpOk, Bool.and_eq_true, decide_eq_true_eq] at hc
  obtain ⟨⟨⟨pa, _⟩, hd⟩, pb⟩ := hc
  obtain ⟨as, r1⟩ := Dp.reads I _ _ _ (ha.dp pa) rx
  have hdep : X.A.units + 1 + min (PyData.depthAll (D.pys ds)) a.py.depth < cLine := by
    have := depthAll_min 60 a.py (D.pys ds) hd
    omega
  have pp := plains_py ds pb
  have e1 := pys_any a ds
  cases b with
  | own xs =>
    simp only [D.seq?, Option.some.injEq] at hs
    subst hs
    obtain ⟨bs, r2⟩ := Dp.reads I _ _ _ (hb.dp (d := .own xs) pb) ry
    cases n with
    | false => exact SeqAt.in_list_data r2 r1 pp (plain_py _ pa) hdep ⟨.bl _, H, I, rfl, by rw [e1]; simpa using q⟩
    | true => exact SeqAt.notIn_list_data r2 r1 pp (plain_py _ pa) hdep ⟨.bl _, H, I, rfl, by rw [e1]; simpa using q⟩
  | frz xs =>
    simp only [D.seq?, Option.some.injEq] at hs
    subst hs
    obtain ⟨bs, r2⟩ := Dp.reads I _ _ _ (hb.dp (d := .frz xs) pb) ry
    cases n with
    | false => exact SeqAt.in_list_data r2 r1 pp (plain_py _ pa) hdep ⟨.bl _, H, I, rfl, by rw [e1]; simpa using q⟩
    | true => exact SeqAt.notIn_list_data r2 r1 pp (plain_py _ pa) hdep ⟨.bl _, H, I, rfl, by rw [e1]; simpa using q⟩
  | tup xs =>
    simp only [D.seq?, Option.some.injEq] at hs
    subst hs
    obtain ⟨bs, r2⟩ := Dp.reads I _ _ _ (hb.dp (d := .tup xs) pb) ry
    cases n with
    | false => exact SeqAt.in_tuple_data r2 r1 pp (plain_py _ pa) hdep ⟨.bl _, H, I, rfl, by rw [e1]; simpa using q⟩
    | true => exact SeqAt.notIn_tuple_data r2 r1 pp (plain_py _ pa) hdep ⟨.bl _, H, I, rfl, by rw [e1]; simpa using q⟩
  | _ => cases hs
theorem op_in_P (hu : X.A.units + 64 < cLine) : OpR X (compareOp .In) (rP2 X.K .in_) := by
  intro pins s σ H x y v u Q I rx ry h
  obtain ⟨ρ, Z, ds, d, e, ar, hQ⟩ := h
  obtain ⟨a, b, rfl, ha, hb⟩ := paired2 ar
  simp only [primF] at e
  have dat : ∀ ds, b.seq? = some ds → pIn false a b = (if cmpOk a a && D.plains ds then some (.bl ((ds.any fun z => D.eqv z a) != false)) else none) → wpAny (model X.prog X.w) X.A (compareOp .In v u) (EP X pins σ Q) X.xe s := by
    intro ds hs hp
    rw [hp] at e
    split at e
    · rename_i hc
      cases e
      exact in_data (n := false) hu I rx ry ha hb hs hc (hQ _ _ (.old rfl))
    · cases e
  cases b with
  | str z =>
    cases a <;> simp only [pIn, Option.some.injEq] at e <;> first | (cases e; done) | skip
    subst e
    exact op_in_str pins s σ H x y v u Q I rx ry ⟨_, _, ha, hb, by have := hQ _ _ (.old rfl); rwa [Bool.bne_false] at this⟩
  | own xs => exact dat xs rfl rfl
  | frz xs => exact dat xs rfl rfl
  | tup xs => exact dat xs rfl rfl
  | _ => simp [pIn, D.seq?] at e
theorem op_notin_P (hu : X.A.units + 64 < cLine) : OpR X (compareOp .NotIn) (rP2 X.K .notin) := by
  intro pins s σ H x y v u Q I rx ry h
  obtain ⟨ρ, Z, ds, d, e, ar, hQ⟩ := h
  obtain ⟨a, b, rfl, ha, hb⟩ := paired2 ar
  simp only [primF] at e
  have dat : ∀ ds, b.seq? = some ds → pIn true a b = (if cmpOk a a && D.plains ds then some (.bl ((ds.any fun z => D.eqv z a) != true)) else none) → wpAny (model X.prog X.w) X.A (compareOp .NotIn v u) (EP X pins σ Q) X.xe s := by
    intro ds hs hp
    rw [hp] at e
    split at e
    · rename_i hc
      cases e
      exact in_data (n := true) hu I rx ry ha hb hs hc (hQ _ _ (.old rfl))
    · cases e
  cases b with
  | str z =>
    cases a <;> simp only [pIn, Option.some.injEq] at e <;> first | (cases e; done) | skip
    subst e
    exact op_notin_str pins s σ H x y v u Q I rx ry ⟨_, _, ha, hb, by have := hQ _ _ (.old rfl); rwa [Bool.bne_true] at this⟩
  | own xs => exact dat xs rfl rfl
  | frz xs => exact dat xs rfl rfl
  | tup xs => exact dat xs rfl rfl
  | _ => simp [pIn, D.seq?] at e
/-! ### items -/
theorem atI_rep {K : PySem.W.Frag} {ρ Z : List Addr} {H : Hp} {ds : List D} {vs : List V} {i : Int} {d : D} (r : RepSs K ρ Z H ds vs) (e : atI ds i = some d) : ∃ v, atI vs i = some v ∧ RepS K ρ Z H d v := by
  unfold atI at e ⊢
  rw [r.length]
  cases h : ixN ds.length i with
  | none => rw [h] at e; cases e
  | some j =>
    rw [h] at e
    exact r.get e
theorem ix_P : IxR X (rP2 X.K .idx) := by
  intro value slice pins s σ H x y v u Q I rx ry h hs
  obtain ⟨ρ, Z, ds, d, e, ar, hQ⟩ := h
  obtain ⟨a, b, rfl, ha, hb⟩ := paired2 ar
  simp only [primF] at e
  have dat : ∀ ds, a.seq? = some ds → pIdx a b = (match b with | .int i => atI ds i | _ => none) → wpAny (model X.prog X.w) X.A (subscriptTail value slice v u) (EP X pins σ Q) X.xe s := by
    intro ds hq hp
    rw [hp] at e
    cases b <;> simp only at e <;> first | (cases e; done) | skip
    obtain ⟨p, vs, rfl, q1, r1⟩ := ha.seq hq
    obtain ⟨z, ez, rz⟩ := atI_rep r1 e
    refine ix_seq value slice pins s σ H _ _ v u Q I rx ry ?_ hs
    rcases q1 with q1 | q1
    · exact .inl ⟨p, vs, _, z, rfl, hb, q1, ez, hQ _ _ (.old rz)⟩
    · exact .inr (.inl ⟨p, vs, _, z, rfl, hb, q1, ez, hQ _ _ (.old rz)⟩)
  cases a with
  | str z =>
    cases b <;> simp only [pIdx] at e <;> first | (cases e; done) | skip
    · split at e
      · rename_i i _ hl
        cases hc : atI z.cps.toList i with
        | none => rw [hc] at e; cases e
        | some c =>
          rw [hc] at e
          cases e
          exact ix_seq value slice pins s σ H _ _ v u Q I rx ry (.inr (.inr ⟨z, i, c, ha, hb, by rw [big_eq]; exact hl, hc, hQ _ _ (.old rfl)⟩)) hs
      · cases e
    all_goals (simp [D.seq?] at e)
  | own xs => exact dat xs rfl (by cases b <;> rfl)
  | frz xs => exact dat xs rfl (by cases b <;> rfl)
  | tup xs => exact dat xs rfl (by cases b <;> rfl)
  | _ => cases b <;> simp [pIdx, D.seq?] at e
end
end Mi
end
section
set_option Elab.async false
set_option maxRecDepth 100000
set_option linter.all false
namespace Mi
open PySem PySem.Spec PyProof.Rows L2
section
variable {X : Cx}
theorem un_neg_P : UnR X (unaryOp .USub) (fun x H Q => rP X.K .neg [x] H Q) := by
  intro pins s σ H x v Q I rx h
  obtain ⟨ρ, Z, ds, d, e, ar, hQ⟩ := h
  obtain ⟨a, rfl, ha⟩ := paired1 ar
  cases a <;> simp only [primF, Option.some.injEq] at e <;> first | (cases e; done) | skip
  subst e
  exact un_neg pins s σ H x v Q I rx ⟨_, ha, hQ _ _ (.old rfl)⟩
theorem call_len_P : CallR X (.builtin "len") (rP X.K .len) := by
  intro pins s σ H xs us Q I r h
  obtain ⟨ρ, Z, ds, d, e, ar, hQ⟩ := h
  have dat : ∀ a ds' v, ds = [a] → xs = [v] → Rep X.K ρ Z H a v → a.seq? = some ds' → pLen a = some (.int ds'.length) → wpAny (model X.prog X.w) X.A (call (.builtin "len") us) (EP X pins σ Q) X.xe s := by
    intro a ds' v h1 h2 ha hq hp
    subst h1
    simp only [primF] at e
    rw [hp] at e
    cases e
    obtain ⟨p, vs, rfl, q1, r1⟩ := ha.seq hq
    exact call_len_seq pins s σ H xs us Q I r ⟨p, vs, h2, q1, by rw [r1.length]; exact hQ _ _ (.old rfl)⟩
  cases ar with
  | nil => cases e
  | cons ha t =>
    rename_i a v as vs
    cases t with
    | cons => simp [primF] at e
    | nil =>
      cases a with
      | str z =>
        simp only [primF, pLen] at e
        split at e
        · rename_i hl
          cases e
          cases ha.str
          exact call_len_str pins s σ H _ us Q I r ⟨z, rfl, by rw [big_eq]; exact hl, hQ _ _ (.old rfl)⟩
        · cases e
      | own xs => exact dat _ xs _ rfl rfl ha rfl rfl
      | frz xs => exact dat _ xs _ rfl rfl ha rfl rfl
      | tup xs => exact dat _ xs _ rfl rfl ha rfl rfl
      | _ => simp [primF, pLen, D.seq?] at e
theorem chars_rep {K : PySem.W.Frag} {ρ Z : List Addr} {H : Hp} : ∀ cs : List Nat, RepSs K ρ Z H (cs.map fun c => D.str ⟨#[c]⟩) (cs.map fun c => V.str ⟨#[c]⟩)
  | [] => rfl
  | c :: cs => ⟨_, _, rfl, rfl, chars_rep cs⟩
theorem chars_vals : ∀ (x : Str) (its : List Value), its.length = x.cps.size → (∀ (j : Nat) (v : Value), its[j]? = some v → ∃ (c : Nat) (u : Tok), x.cps[j]? = some c ∧ v = Value.str ⟨#[c]⟩ u) → Vals (x.cps.toList.map fun c => V.str ⟨#[c]⟩) its := by
  intro x its hl hv
  have go : ∀ (cs : List Nat) (its : List Value), its.length = cs.length → (∀ (j : Nat) (v : Value), its[j]? = some v → ∃ (c : Nat) (u : Tok), cs[j]? = some c ∧ v = Value.str ⟨#[c]⟩ u) → Vals (cs.map fun c => V.str ⟨#[c]⟩) its := by
    intro cs
    induction cs with
    | nil =>
      intro its hl _
      cases its with
      | nil => exact .nil
      | cons => simp at hl
    | cons c cs ih =>
      intro its hl hv
      cases its with
      | nil => simp at hl
      | cons v its =>
        obtain ⟨c', u, h1, rfl⟩ := hv 0 v rfl
        simp at h1
        subst h1
        exact .cons ⟨u, rfl⟩ (ih its (by simpa using hl) fun j v h => by simpa using hv (j + 1) v (by simpa using h))
  exact go _ its (by simpa using hl) fun j v h => by
    obtain ⟨c, u, h1, h2⟩ := hv j v h
    exact ⟨c, u, by simpa using h1, h2⟩
theorem call_list_P (hc : X.calm = true) : CallR X (.type "list") (rP X.K .list) := by
  intro pins s σ H xs us Q I r h
  obtain ⟨ρ, Z, ds, d, e, ar, hQ⟩ := h
  cases ar with
  | nil => cases e
  | cons ha t =>
    rename_i a v as vs
    cases t with
    | cons => cases a <;> simp [primF] at e
    | nil =>
      replace e : pList a = some d := e
      have sq : ∀ ds', a.seq? = some ds' → pList a = some (.own ds') → wpAny (model X.prog X.w) X.A (call (.type "list") us) (EP X pins σ Q) X.xe s := by
        intro ds' hq hp
        rw [hp] at e
        cases e
        obtain ⟨p, vs, rfl, q1, r1⟩ := ha.seq hq
        exact call_list_of pins s σ H _ us Q I r ⟨p, vs, rfl, q1, fun l hl => hQ _ _ (.lst hl r1)⟩
      cases a with
      | own ds' => exact sq ds' rfl rfl
      | frz ds' => exact sq ds' rfl rfl
      | tup ds' => exact sq ds' rfl rfl
      | str x =>
        simp only [pList] at e
        split at e
        · rename_i hz
          cases e
          cases ha.str
          obtain ⟨u, rfl, ru⟩ := r.one
          obtain ⟨t, rfl⟩ := ru
          refine call_list_str (I.ok.hd hc) x t (hn := by rw [big_eq]; exact hz) fun h' tk acc' c' hk hS' hacc => ?_
          have rv : Vals (x.cps.toList.map fun c => V.str ⟨#[c]⟩) acc'.toList := chars_vals x acc'.toList (by simpa using hacc.1) fun j v hv => by
            obtain ⟨c, u, h1, h2⟩ := hacc.2 j v (by simpa using hv)
            exact ⟨c, u, h1, h2⟩
          have new : ObjOk X.prog X.w (upd H s.heap.objs.size (.lst (x.cps.toList.map fun c => V.str ⟨#[c]⟩))) h' s.heap.objs.size (.lst (x.cps.toList.map fun c => V.str ⟨#[c]⟩)) :=
            ⟨by have hbe := big_eq; simp; omega, acc'.toList, c', rv, by simpa using hS'⟩
          refine ⟨.ref s.heap.objs.size, upd H s.heap.objs.size (.lst (x.cps.toList.map fun c => V.str ⟨#[c]⟩)), I.laid (t' := tk) hk (Nat.le_refl _) new, rfl, hQ _ _ (.lst I.fresh (chars_rep _))⟩
        · cases e
      | _ => cases e
theorem call_tuple_P : CallR X (.type "tuple") (rP X.K .tuple) := by
  intro pins s σ H xs us Q I r h
  obtain ⟨ρ, Z, ds, d, e, ar, hQ⟩ := h
  cases ar with
  | nil => cases e
  | cons ha t =>
    rename_i a v as vs
    cases t with
    | cons => simp [primF] at e
    | nil =>
      simp only [primF] at e
      cases hq : a.seq? with
      | none => rw [hq] at e; cases e
      | some ds' =>
        rw [hq] at e
        cases e
        obtain ⟨p, vs, rfl, q1, r1⟩ := ha.seq hq
        refine call_tuple_of pins s σ H _ us Q I r ⟨p, vs, rfl, ?_⟩
        rcases q1 with q1 | q1
        · exact .inl ⟨q1, fun l hl => hQ _ _ (.tup hl r1)⟩
        · exact .inr ⟨q1, hQ _ _ (.old ⟨p, vs, rfl, q1, r1⟩)⟩
theorem args2 {K : PySem.W.Frag} {ρ Z : List Addr} {H : Hp} {a b : D} {vs : List V} (h : Args K ρ Z H [a, b] vs) : ∃ x y, vs = [x, y] ∧ Rep K ρ Z H a x ∧ Rep K ρ Z H b y := by
  cases h with | cons h t => cases t with | cons k t => cases t; exact ⟨_, _, rfl, h, k⟩
theorem args1 {K : PySem.W.Frag} {ρ Z : List Addr} {H : Hp} {a : D} {vs : List V} (h : Args K ρ Z H [a] vs) : ∃ x, vs = [x] ∧ Rep K ρ Z H a x := by
  cases h with | cons h t => cases t; exact ⟨_, rfl, h⟩
theorem call_min2_P (hc : X.calm = true) : CallR X (.builtin "min") (rP X.K .min2) := by
  intro pins s σ H xs us Q I r h
  obtain ⟨ρ, Z, ds, d, e, ar, hQ⟩ := h
  unfold primF at e
  split at e <;> first | (cases e; done) | (rename_i h; cases h; done) | skip
  cases e
  obtain ⟨x, y, rfl, ha, hb⟩ := args2 ar
  cases ha.int; cases hb.int
  exact call_min2 hc pins s σ H _ us Q I r ⟨_, _, rfl, hQ _ _ (.old rfl)⟩
theorem call_max2_P (hc : X.calm = true) : CallR X (.builtin "max") (rP X.K .max2) := by
  intro pins s σ H xs us Q I r h
  obtain ⟨ρ, Z, ds, d, e, ar, hQ⟩ := h
  unfold primF at e
  split at e <;> first | (cases e; done) | (rename_i h; cases h; done) | skip
  cases e
  obtain ⟨x, y, rfl, ha, hb⟩ := args2 ar
  cases ha.int; cases hb.int
  exact call_max2 hc pins s σ H _ us Q I r ⟨_, _, rfl, hQ _ _ (.old rfl)⟩
theorem call_int_P : CallR X (.type "int") (rP X.K .int) := by
  intro pins s σ H xs us Q I r h
  obtain ⟨ρ, Z, ds, d, e, ar, hQ⟩ := h
  unfold primF at e
  split at e <;> first | (cases e; done) | (rename_i h; cases h; done) | skip
  · cases e
    obtain ⟨x, rfl, ha⟩ := args1 ar
    cases ha.int
    exact call_int1 pins s σ H _ us Q I r (.inl ⟨_, rfl, hQ _ _ (.old rfl)⟩)
  · cases e
    obtain ⟨x, rfl, ha⟩ := args1 ar
    cases ha.bl
    exact call_int1 pins s σ H _ us Q I r (.inr ⟨_, rfl, hQ _ _ (.old rfl)⟩)
/-! ### slices -/
theorem cut_rep {K : PySem.W.Frag} {ρ Z : List Addr} {H : Hp} {ds : List D} {vs : List V} {lo hi : Option Int} (r : RepSs K ρ Z H ds vs) : RepSs K ρ Z H (cutD ds lo hi) (cutV vs lo hi) := by
  unfold cutV
  rw [r.length]
  exact (r.drop _).take _
theorem cutD_all {ds : List D} {lo hi : Option Int} (h : HT.sIx ds.length 0 lo = 0 ∧ HT.sIx ds.length ds.length hi = ds.length) : cutD ds lo hi = ds := by
  unfold cutD
  rw [h.1, h.2]
  simp
def rSlP (K : PySem.W.Frag) : V → Option Int → Option Int → Hp → VK → Prop := fun x lo hi H Q => ∃ (ρ Z : List Addr) (a d : D), pSlc a lo hi = some d ∧ Rep K ρ Z H a x ∧ ∀ v H', Out K ρ Z H d v H' → Q v H'
theorem sl_P : SlR X (rSlP X.K) := by
  intro pins s σ H x v vl vu lo hi sl Q I rx hs pl pu h
  obtain ⟨ρ, Z, a, d, e, ha, hQ⟩ := h
  have lst : ∀ ds, a.lst? = some ds → pSlc a lo hi = some (.own (cutD ds lo hi)) → ∃ T id, typeLookup (.type T) "__getitem__" = pure (some (.builtin id)) ∧ s.TypeIs v T ∧ wpAny (model X.prog X.w) X.A (getItem v (.ref sl)) (EP X pins σ Q) X.xe s := by
    intro ds hq hp
    rw [hp] at e
    cases e
    obtain ⟨p, vs, rfl, q1, r1⟩ := ha.sql hq
    exact sl_list pins s σ H _ v vl vu lo hi sl Q I rx hs pl pu ⟨p, vs, rfl, q1, fun l hl => hQ _ _ (.lst hl (cut_rep r1))⟩
  cases a with
  | tup ds =>
    simp only [pSlc, Option.some.injEq] at e
    subst e
    obtain ⟨p, vs, rfl, q1, r1⟩ := ha.sqt
    refine sl_tupA pins s σ H _ v vl vu lo hi sl Q I rx hs pl pu ⟨p, vs, rfl, q1, fun hw => ?_, fun _ l hl => hQ _ _ (.tup hl (cut_rep r1))⟩
    rw [r1.length] at hw
    refine hQ _ _ (.old ?_)
    rw [cutD_all hw]
    exact ⟨p, vs, rfl, q1, r1⟩
  | own ds => exact lst ds rfl rfl
  | frz ds => exact lst ds rfl rfl
  | _ => simp [pSlc, D.lst?] at e
/-! ### is None -/
theorem op_isN_P : OpR X (compareOp .Is) (fun x y H Q => y = .non ∧ rP X.K .isN [x] H Q) := by
  intro pins s σ H x y v u Q I rx ry h
  obtain ⟨hy, ρ, Z, ds, d, e, ar, hQ⟩ := h
  obtain ⟨a, rfl, ha⟩ := paired1 ar
  simp only [primF, Option.some.injEq] at e
  subst e
  refine op_isN pins s σ H x y v u Q I rx ry ⟨hy, ?_⟩
  have := hQ _ _ (.old rfl)
  cases a with
  | non => cases ha.non; exact this
  | bl b => cases ha.bl; exact this
  | int b => cases ha.int; exact this
  | str b => cases ha.str; exact this
  | tup b => obtain ⟨_, _, rfl, _⟩ := ha.sqt; exact this
  | own b => obtain ⟨_, _, rfl, _⟩ := ha.rd (ds := b) rfl; exact this
  | frz b => obtain ⟨_, _, rfl, _⟩ := ha.rd (ds := b) rfl; exact this
  | ref n => obtain ⟨_, rfl, _⟩ := (show RepS X.K ρ Z H (.ref n) x from ha); exact this
theorem op_notN_P : OpR X (compareOp .IsNot) (fun x y H Q => y = .non ∧ rP X.K .notN [x] H Q) := by
  intro pins s σ H x y v u Q I rx ry h
  obtain ⟨hy, ρ, Z, ds, d, e, ar, hQ⟩ := h
  obtain ⟨a, rfl, ha⟩ := paired1 ar
  simp only [primF, Option.some.injEq] at e
  subst e
  refine op_notN pins s σ H x y v u Q I rx ry ⟨hy, ?_⟩
  have := hQ _ _ (.old rfl)
  cases a with
  | non => cases ha.non; exact this
  | bl b => cases ha.bl; exact this
  | int b => cases ha.int; exact this
  | str b => cases ha.str; exact this
  | tup b => obtain ⟨_, _, rfl, _⟩ := ha.sqt; exact this
  | own b => obtain ⟨_, _, rfl, _⟩ := ha.rd (ds := b) rfl; exact this
  | frz b => obtain ⟨_, _, rfl, _⟩ := ha.rd (ds := b) rfl; exact this
  | ref n => obtain ⟨_, rfl, _⟩ := (show RepS X.K ρ Z H (.ref n) x from ha); exact this
/-! ### isinstance -/
def isiN : Nat → String
  | 0 => "int" | 1 => "str" | 2 => "tuple" | 3 => "list" | 4 => "bool" | _ => ""
theorem tyx_sqt {K : PySem.W.Frag} {H : Hp} {a : Addr} {vs : List V} (h : SqT K H a vs) : TyX K H (.ref a) (.type "tuple") := by
  rcases h with (h | ⟨o, h⟩) | ⟨o, its, n, h1, h2, _⟩
  · exact .base (.tup h)
  · exact .fTuple h
  · exact .kTuple h1 h2
theorem tyx_rd {K : PySem.W.Frag} {H : Hp} {a : Addr} {vs : List V} (h : Rd H a (.lst vs) ∨ KL K a vs) : TyX K H (.ref a) (.type "list") := by
  rcases h with (h | ⟨o, h⟩) | ⟨its, n, h, _⟩
  · exact .base (.lst h)
  · exact .base (.frz h)
  · exact .kList h rfl
theorem call_isi_P {t : Nat} (ht : t ≤ 4) : CallR X (.builtin "isinstance") (fun xs H Q => ∃ x, xs = [x, .ty (isiN t)] ∧ rP X.K (.isi t) [x] H Q) := by
  intro pins s σ H xs us Q I r h
  obtain ⟨x, rfl, ρ, Z, ds, d, e, ar, hQ⟩ := h
  obtain ⟨a, rfl, ha⟩ := paired1 ar
  simp only [primF] at e
  have fin : ∀ (T : String) (b : Bool), TyX X.K H x (.type T) → isiD t a = some b → PySem.W.kitOne X.K (.type T) (.type (isiN t)) = some b → wpAny (model X.prog X.w) X.A (call (.builtin "isinstance") us) (EP X pins σ Q) X.xe s := by
    intro T b ty hb hk
    rw [hb] at e
    cases e
    exact call_isi pins s σ H _ us Q I r ⟨x, .ty (isiN t), .type T, .type (isiN t), b, rfl, .ty _, ty, hk, hQ _ _ (.old rfl)⟩
  have ht' : t = 0 ∨ t = 1 ∨ t = 2 ∨ t = 3 ∨ t = 4 := by omega
  cases a with
  | non => cases ha.non; rcases ht' with h | h | h | h | h <;> subst h <;> exact fin "NoneType" _ (.base .non) rfl (kit_ty (by decide +kernel))
  | bl b => cases ha.bl; rcases ht' with h | h | h | h | h <;> subst h <;> exact fin "bool" _ (.base (.bl _)) rfl (kit_ty (by decide +kernel))
  | int b => cases ha.int; rcases ht' with h | h | h | h | h <;> subst h <;> exact fin "int" _ (.base (.int _)) rfl (kit_ty (by decide +kernel))
  | str b => cases ha.str; rcases ht' with h | h | h | h | h <;> subst h <;> exact fin "str" _ (.base (.str _)) rfl (kit_ty (by decide +kernel))
  | tup b => obtain ⟨_, _, rfl, q, _⟩ := ha.sqt; rcases ht' with h | h | h | h | h <;> subst h <;> exact fin "tuple" _ (tyx_sqt q) rfl (kit_ty (by decide +kernel))
  | own b => obtain ⟨_, _, rfl, q, _⟩ := ha.rd (ds := b) rfl; rcases ht' with h | h | h | h | h <;> subst h <;> exact fin "list" _ (tyx_rd q) rfl (kit_ty (by decide +kernel))
  | frz b => obtain ⟨_, _, rfl, q, _⟩ := ha.rd (ds := b) rfl; rcases ht' with h | h | h | h | h <;> subst h <;> exact fin "list" _ (tyx_rd q) rfl (kit_ty (by decide +kernel))
  | ref n => rcases ht' with h | h | h | h | h <;> subst h <;> cases e
end
end Mi
end
section
set_option Elab.async false
set_option maxRecDepth 100000
set_option linter.all false
namespace Mi
open PySem PySem.Spec PyProof.Rows L2
section
variable {X : Cx}
/-! ### index -/
theorem items_eq {A : Around} {s : Shared} {vs : List Value} {xs : List PyData} {as bs : List Addr} {x : Value} {d : PyData} (rs : ReadsAll s.heap vs xs as) (rx : Reads s.heap x d bs) (hxs : PyData.plainAll xs = true) (hd : d.plain = true)
    (hu : A.units + 1 + min (PyData.depthAll xs) d.depth < cLine) : SeqAt.ItemsEq A.in1 s vs (xs.map fun y => PyData.eqv y d) x true := by
  have e1 : xs.map (fun y => PyData.eqv y d) = vs.map fun y => PyData.eqv (SeqAt.readOf s.heap y) d := by
    rw [← SeqAt.readsAll_map_plain xs _ _ hxs rs, List.map_map]; rfl
  rw [e1]
  refine ⟨by simp, fun j h1 h2 => ?_⟩
  have := SeqAt.items_plain (A := A) (vs := vs.toArray) (by simpa using rs) rx hxs hd hu vs[j] (by simp)
  simpa using this
theorem pys_map (x : D) : ∀ ds : List D, (D.pys ds).map (fun z => PyData.eqv z x.py) = ds.map fun z => D.eqv z x
  | [] => rfl
  | d :: ds => by simp only [D.pys, List.map_cons, pys_map x ds]; rfl
theorem idx_data {y x : V} {a : D} {b : D} {ds : List D} {d : D} {ρ Z : List Addr} {H : Hp} {pins : List (Addr × Obj)} {s : Shared} {σ : L2.St} {v u : Value} {Q : VK} {T : String} (hu : X.A.units + 64 < cLine) (I : Inv X pins σ H s) (ry : RelV y v) (rx : RelV x u)
    (hb : Rep X.K ρ Z H b y) (ha : Rep X.K ρ Z H a x) (hs : b.seq? = some ds) (hT : T = (match b with | .tup _ => "tuple.index" | _ => "list.index")) (e : pIndex ds a = some d) (hQ : ∀ v H', Out X.K ρ Z H d v H' → Q v H') :
    wpAny (model X.prog X.w) X.A (call (.builtin T) [v, u]) (EP X pins σ Q) X.xe s := by
  unfold pIndex at e
  split at e
  · rename_i hc
    simp only [cmpOk, Bool.and_eq_true, decide_eq_true_eq] at hc
    obtain ⟨⟨⟨pa, _⟩, hd⟩, pb⟩ := hc
    split at e
    · rename_i hm
      cases e
      obtain ⟨as, r1⟩ := Dp.reads I _ _ _ (ha.dp pa) rx
      have hdep : X.A.units + 1 + min (PyData.depthAll (D.pys ds)) a.py.depth < cLine := by
        have := depthAll_min 60 a.py (D.pys ds) hd
        omega
      have pp := plains_py ds pb
      have hm' : true ∈ (D.pys ds).map fun z => PyData.eqv z a.py := by rw [pys_map]; simpa using hm
      have fin : ∀ tk : Nat, EP X pins σ Q (.int (((D.pys ds).map fun z => PyData.eqv z a.py).idxOf true : Nat) tk) { s with toks := s.toks + 1 } := fun tk =>
        ⟨.int ((((D.pys ds).map fun z => PyData.eqv z a.py).idxOf true : Nat) : Int), H, I.kept (t' := s.toks + 1) fun _ _ e => e, ⟨_, rfl⟩, by rw [pys_map]; exact hQ _ _ (.old rfl)⟩
      have lst : ∀ {bs}, ds.length ≤ sizeLine → Reads s.heap v (.list (D.pys ds)) bs → T = "list.index" → wpAny (model X.prog X.w) X.A (call (.builtin T) [v, u]) (EP X pins σ Q) X.xe s := by
        intro bs hz r2 hT
        subst hT
        cases r2 with
        | list h1 h2 h3 h4 =>
          refine SeqAt.call_list_index ⟨_, h1, h2, _, by simpa using h3⟩ (items_eq h4 r1 pp (plain_py _ pa) hdep) (by rw [pys_map]; simpa using hz) hm' (fin _)
      have len : ∀ {xs : List D}, b.lst? = some xs → xs.length ≤ sizeLine := by
        intro xs hl
        obtain ⟨p, ws, rfl, q, r⟩ := hb.sql hl
        obtain ⟨_, _, _, hz⟩ := I.list q
        rw [← r.length]; exact hz
      cases b with
      | own xs =>
        simp only [D.seq?, Option.some.injEq] at hs
        subst hs
        obtain ⟨bs, r2⟩ := Dp.reads I _ _ _ (hb.dp (d := .own xs) pb) ry
        exact lst (len rfl) r2 hT
      | frz xs =>
        simp only [D.seq?, Option.some.injEq] at hs
        subst hs
        obtain ⟨bs, r2⟩ := Dp.reads I _ _ _ (hb.dp (d := .frz xs) pb) ry
        exact lst (len rfl) r2 hT
      | tup xs =>
        simp only [D.seq?, Option.some.injEq] at hs
        subst hs
        obtain ⟨bs, r2⟩ := Dp.reads I _ _ _ (hb.dp (d := .tup xs) pb) ry
        subst hT
        cases r2 with
        | tuple h1 h2 h3 h4 => exact SeqAt.call_tuple_index ⟨_, h1, h2, _, by simpa using h3⟩ (items_eq h4 r1 pp (plain_py _ pa) hdep) hm' (fin _)
      | _ => cases hs
    · cases e
  · cases e
theorem mt_index_P (hu : X.A.units + 64 < cLine) : MtR X "list.index" (fun x ws H Q => rP X.K (.m 0) (x :: ws) H Q) := by
  intro pins s σ H x ws v us Q I rx rs h
  obtain ⟨ρ, Z, ds, d, e, ar, hQ⟩ := h
  match ds, e with
  | [b, a], e =>
    cases ar with
    | cons hb ar =>
      obtain ⟨y, rfl, ha⟩ : ∃ y, ws = [y] ∧ Rep X.K ρ Z H a y := by
        cases ar with | cons h t => cases t; exact ⟨_, rfl, h⟩
      obtain ⟨u, rfl, ru⟩ := rs.one
      cases b <;> simp only [primF, D.lst?, Option.bind_some, Option.bind_none] at e <;> first | (cases e; done) | skip
      · exact idx_data hu I rx ru hb ha rfl rfl e hQ
      · exact idx_data hu I rx ru hb ha rfl rfl e hQ
theorem mt_tindex_P (hu : X.A.units + 64 < cLine) : MtR X "tuple.index" (fun x ws H Q => rP X.K (.m 1) (x :: ws) H Q) := by
  intro pins s σ H x ws v us Q I rx rs h
  obtain ⟨ρ, Z, ds, d, e, ar, hQ⟩ := h
  match ds, e with
  | [.tup b, a], e =>
    cases ar with
    | cons hb ar =>
      obtain ⟨y, rfl, ha⟩ : ∃ y, ws = [y] ∧ Rep X.K ρ Z H a y := by
        cases ar with | cons h t => cases t; exact ⟨_, rfl, h⟩
      obtain ⟨u, rfl, ru⟩ := rs.one
      exact idx_data hu I rx ru hb ha rfl rfl e hQ
/-! ### str(x) -/
mutual
theorem noDict_py : ∀ d : D, d.py.hasDict = false
  | .non => rfl
  | .bl _ => rfl
  | .int _ => rfl
  | .str _ => rfl
  | .ref _ => rfl
  | .tup ds => noDict_pys ds
  | .frz ds => noDict_pys ds
  | .own ds => noDict_pys ds
theorem noDict_pys : ∀ ds : List D, PyData.hasDictAll (D.pys ds) = false
  | [] => rfl
  | d :: ds => by
    show (d.py.hasDict || PyData.hasDictAll (D.pys ds)) = false
    rw [noDict_py d, noDict_pys ds]; rfl
end
theorem call_str_P (hu : X.A.units + 64 < cLine) (hg : X.A.guards = some []) : CallR X (.type "str") (rP X.K .str) := by
  intro pins s σ H xs us Q I r h
  obtain ⟨ρ, Z, ds, d, e, ar, hQ⟩ := h
  match ds, e with
  | [a], e =>
    obtain ⟨x, rfl, ha⟩ : ∃ x, xs = [x] ∧ Rep X.K ρ Z H a x := by
      cases ar with | cons h t => cases t; exact ⟨_, rfl, h⟩
    obtain ⟨u, rfl, ru⟩ := r.one
    replace e : pStr a = some d := e
    have big' := big_eq
    have gen : (∀ z, a ≠ .str z) → (if D.plain a && a.py.showable && decide (a.py.depth ≤ 60) && decide (a.py.shown.length ≤ big) then some (D.str a.py.shown) else none) = some d → wpAny (model X.prog X.w) X.A (call (.type "str") [u]) (EP X pins σ Q) X.xe s := by
      intro hs e
      split at e
      · rename_i hc
        cases e
        simp only [Bool.and_eq_true, decide_eq_true_eq] at hc
        obtain ⟨⟨⟨h1, h2⟩, h3⟩, h4⟩ := hc
        have fin : ∀ (h' : Heap) (tk : Tok) (n : Nat), (∀ b o, s.heap.get? b = some o → h'.get? b = some o) → EP X pins σ Q (.str a.py.shown tk) { s with heap := h', toks := n } := fun h' tk n hk =>
          ⟨.str a.py.shown, H, I.kept (t' := n) hk, ⟨_, rfl⟩, hQ _ _ (.old rfl)⟩
        have one : ∀ (tk : Tok) (n : Nat), EP X pins σ Q (.str a.py.shown tk) { s with toks := n } := fun tk n => fin s.heap tk n fun _ _ e => e
        have rd : ∀ {p : Addr}, u = .ref p → wpAny (model X.prog X.w) X.A (call (.type "str") [u]) (EP X pins σ Q) X.xe s := by
          intro p hp
          subst hp
          obtain ⟨as, r1⟩ := Dp.reads I _ _ _ (ha.dp h1) ru
          exact str_of_reads r1 h2 (PyData.noDict_hsm (noDict_py a)) hg (by omega) (fun _ _ e => e) (fun h' u tk hk => fin h' u tk hk) (by omega)
        cases a with
        | non => cases ha.non; cases (show u = Value.none from ru); exact PySem.P.str_of_none (one _ _)
        | bl b => cases ha.bl; cases (show u = Value.bool b from ru); exact PySem.P.str_of_bool (by cases b <;> exact one _ _)
        | int i =>
          cases ha.int
          obtain ⟨t, rfl⟩ := ru
          exact PySem.P.str_of_int (by simpa [D.py, PyData.showable] using h2) (one _ _)
        | str z => exact absurd rfl (hs z)
        | tup b => obtain ⟨p, _, rfl, _⟩ := ha.sqt; exact rd ru
        | own b => obtain ⟨p, _, rfl, _⟩ := ha.rd (ds := b) rfl; exact rd ru
        | frz b => obtain ⟨p, _, rfl, _⟩ := ha.rd (ds := b) rfl; exact rd ru
        | ref n => cases h1
      · cases e
    cases a with
    | str z =>
      cases e
      cases ha.str
      obtain ⟨t, rfl⟩ := ru
      exact PySem.P.str_of_str ⟨.str z, H, I, ⟨_, rfl⟩, hQ _ _ (.old rfl)⟩
    | _ => exact gen (fun z h => by cases h) e
end
end Mi
end
section
set_option Elab.async false
set_option maxRecDepth 100000
set_option linter.all false
namespace Mi
open PySem PySem.Spec PyProof.Rows L2

section
variable {K : PySem.W.Frag} {W : WX} {σ : L2.St} {H : Hp} {α β : Type}
theorem XC.le {F F' : List (V × D)} {x : Ex} {en : Env} {S : Sto} (l : Le F F') (h : XC K W σ F x en S) : XC K W σ F' x en S := fun ρ Z H cls dx k r e =>
  h ρ Z H cls dx k (r.le ⟨fun p hp => by
    rcases List.mem_append.mp hp with hp | hp
    · exact List.mem_append_left _ hp
    · exact List.mem_append_right _ (l.mem p hp), fun a => by simp only [cF_append]; have := l.cnt a; omega⟩) e
theorem Post.bind {F : List (V × D)} {good : β → Env → Sto → Prop} {m : M α} {f : α → M β} {en : Env} {S : Sto} (h : Post K W σ F good (M.bind m f en S)) :
    Post K W σ F (fun a en1 S1 => Post K W σ F good (f a en1 S1)) (m en S) := by
  unfold M.bind R.bind at h
  cases e : m en S with
  | ok a en1 S1 => rw [e] at h; exact h
  | exc x en1 S1 => rw [e] at h; exact h
  | stuck => rw [e] at h; exact h
theorem Post.imp {F F' : List (V × D)} {good good' : α → Env → Sto → Prop} {r : R α} (l : Le F F') (h : Post K W σ F good r) (k : ∀ a en S, good a en S → good' a en S) : Post K W σ F' good' r := by
  cases r with
  | ok a en S => exact k a en S h
  | exc x en S => exact XC.le l h
  | stuck => exact h
theorem Post.ok {F : List (V × D)} {good : α → Env → Sto → Prop} {a : α} {en : Env} {S : Sto} (h : Post K W σ F good (M.ret a en S)) : good a en S := h
theorem Post.opt {F : List (V × D)} {good : α → Env → Sto → Prop} {o : Option α} {en : Env} {S : Sto} (h : Post K W σ F good (M.opt o en S)) : ∃ a, o = some a ∧ good a en S := by
  cases o with
  | none => exact h.elim
  | some a => exact ⟨a, rfl, h⟩
theorem app_le {A F F' : List (V × D)} (l : Le F F') : Le (A ++ F) (A ++ F') := ⟨fun p hp => by
    rcases List.mem_append.mp hp with hp | hp
    · exact List.mem_append_left _ hp
    · exact List.mem_append_right _ (l.mem p hp), fun a => by simp only [cF_append]; have := l.cnt a; omega⟩
/-- THE MOVE: a part of what the evaluator does; its end is wanted in the frame F' (what is under way beside it) -/
theorem Sim.start {m : M α} {good : L2.St → List (V × D) → α → Env → Sto → Prop} {ρ Z : List Addr} {S : Sto} {en : Env} {F F' : List (V × D)} (k : EnvOk σ en) (r : Rel K ρ Z S (pairs σ en ++ F') H) (l : Le F F') {g : α → Env → Sto → Prop}
    (h : Post K W σ F g (m en S)) (w : ∀ a en S, g a en S → good σ F' a en S) : Sim K W m good σ H := ⟨ρ, Z, S, en, F', ⟨k, r⟩, h.imp l w⟩

/-! ### operands -/
theorem os_nil {Q : List V → Hp → Prop} (h : simOs K W (.ret []) σ H Q) : tNil σ H Q := by
  obtain ⟨ρ, Z, S, en, F, ⟨k, r⟩, h⟩ := h
  exact h ρ Z [] H k r .nil
theorem os_cons {te : TE} {tr : TA} {m : M D} {ms : M (List D)} (ha : ∀ σ H Q, simE K W m σ H Q → te σ H Q) (hr : ∀ σ H Q, simOs K W ms σ H Q → tr σ H Q) {Q : List V → Hp → Prop}
    (h : simOs K W (m.bind fun d => ms.bind fun ds => .ret (d :: ds)) σ H Q) : tCons te tr σ H Q := by
  obtain ⟨ρ, Z, S, en, F, ⟨k, r⟩, h⟩ := h
  refine ha σ H _ (Sim.start k r (Le.refl F) h.bind fun d en1 S1 q ρ1 Z1 v H1 k1 r1 => ?_)
  refine hr σ H1 _ (Sim.start k1 (F' := (v, d) :: F) (r1.le le_swap) le_drop q.bind fun ds en2 S2 q2 ρ2 Z2 vs H2 k2 r2 ar => ?_)
  exact q2 ρ2 Z2 (v :: vs) H2 k2 (r2.le (app_le le_drop)) (.cons (r2.fr (v, d) (List.mem_append_right _ List.mem_cons_self)) ar)
theorem getV_ok {i : Nat} {F : List (V × D)} {good : D → Env → Sto → Prop} {en : Env} {S : Sto} (h : Post K W σ F good (getV i en S)) : ∃ d, en[i]? = some (some d) ∧ good d en S := by
  unfold getV at h
  split at h
  · rename_i d e
    exact ⟨d, e, h⟩
  · exact h.elim
theorem os_var {i : Nat} {tr : TA} {ms : M (List D)} (hr : ∀ σ H Q, simOs K W ms σ H Q → tr σ H Q) {Q : List V → Hp → Prop}
    (h : simOs K W ((getV i).bind fun _ => ms.bind fun ds => (getV i).bind fun d => .ret (d :: ds)) σ H Q) : tCons (tVar i) tr σ H Q := by
  obtain ⟨ρ, Z, S, en, F, ⟨k, r⟩, h⟩ := h
  obtain ⟨d0, e0, h⟩ := getV_ok h.bind
  obtain ⟨v, hv, hm⟩ := slot_v k e0
  refine ⟨v, hv, ?_⟩
  refine hr σ H _ (Sim.start k r (Le.refl F) h.bind fun ds en2 S2 q2 ρ2 Z2 vs H2 k2 r2 ar => ?_)
  obtain ⟨d, e, q⟩ := getV_ok q2.bind
  obtain ⟨v', hv', hm'⟩ := slot_v k2 e
  rw [hv] at hv'; cases hv'
  exact q ρ2 Z2 (v :: vs) H2 k2 r2 (.cons (r2.fr (v, d) (List.mem_append_left _ hm')) ar)
theorem deref_rep {ρ Z : List Addr} {S : Sto} {F : List (V × D)} {d : D} {v : V} (r : Rel K ρ Z S F H) (h : Rep K ρ Z H d v) : Rep K ρ Z H (derefD S d) v := by
  cases d with
  | ref n =>
    unfold derefD
    simp only
    split
    · rename_i ds hS
      obtain ⟨a, rfl, hr⟩ := (show RepS K ρ Z H (.ref n) v from h)
      obtain ⟨vs, q, y⟩ := r.so n _ a hS hr
      exact ⟨a, vs, rfl, q, y⟩
    · exact h
  | _ => exact h
theorem deref_all {ρ Z : List Addr} {S : Sto} {F : List (V × D)} (r : Rel K ρ Z S F H) : ∀ {ds : List D} {vs : List V}, Paired (fun d v => Rep K ρ Z H d v) ds vs → Paired (fun d v => Rep K ρ Z H d v) (ds.map (derefD S)) vs
  | _, _, .nil => .nil
  | _, _, .cons h t => .cons (deref_rep r h) (deref_all r t)
theorem Post.prim {F : List (V × D)} {good : D → Env → Sto → Prop} {p : P} {ds : List D} {en : Env} {S : Sto} (h : Post K W σ F good (primM p ds en S)) : ∃ d, primF p (ds.map (derefD S)) = some d ∧ good d en S := Post.opt h
theorem Post.tru {F : List (V × D)} {good : Bool → Env → Sto → Prop} {d : D} {en : Env} {S : Sto} (h : Post K W σ F good (truM d en S)) : ∃ b, truthy (derefD S d) = some b ∧ good b en S := Post.opt h
/-- a pure thing of operands -/
theorem prim_of {p : P} {ms : M (List D)} {Q : VK} (h : simE K W (ms.bind fun ds => primM p ds) σ H Q) : simOs K W ms σ H fun vs H' => rP K p vs H' Q := by
  obtain ⟨ρ, Z, S, en, F, ⟨k, r⟩, h⟩ := h
  refine Sim.start k r (Le.refl F) h.bind fun ds en1 S1 q ρ1 Z1 vs H1 k1 r1 ar => ?_
  obtain ⟨d, e, q⟩ := q.prim
  exact ⟨ρ1, Z1, _, d, e, deref_all r1 ar, fun v H' o => q ρ1 Z1 v H' k1 (o.rel r1)⟩
/-- a comparison as a test -/
theorem primT_of {p : P} (hp : ∀ ds d, primF p ds = some d → ∃ b, d = .bl b) {ms : M (List D)} {Q : Bool → Hp → Prop} (h : simT K W ((ms.bind fun ds => primM p ds).bind fun d => truM d) σ H Q) :
    simOs K W ms σ H fun vs H' => rP K p vs H' fun v H2 => ∃ k, v = .bl k ∧ Q k H2 := by
  obtain ⟨ρ, Z, S, en, F, ⟨k, r⟩, h⟩ := h
  refine Sim.start k r (Le.refl F) h.bind.bind fun ds en1 S1 q ρ1 Z1 vs H1 k1 r1 ar => ?_
  obtain ⟨d, e, q⟩ := q.opt
  obtain ⟨b, rfl⟩ := hp _ d e
  refine ⟨ρ1, Z1, _, .bl b, e, deref_all r1 ar, fun v H' o => ?_⟩
  cases o with
  | old h => exact ⟨b, h, q.ok ρ1 Z1 H1 k1 r1⟩
/-- a chain of two comparisons -/
theorem chain_of {p q : P} (hp : ∀ ds d, primF p ds = some d → ∃ b, d = .bl b) {a b c : M D} {tA tB tC : TE} (ha : ∀ σ H Q, simE K W a σ H Q → tA σ H Q) (hb : ∀ σ H Q, simE K W b σ H Q → tB σ H Q) (hc : ∀ σ H Q, simE K W c σ H Q → tC σ H Q) {Q : VK}
    (h : simE K W (a.bind fun x => b.bind fun y => (primM p [x, y]).bind fun z => (match z with
      | .bl k => if k then c.bind fun w => primM q [y, w] else .ret (.bl false)
      | _ => .stuck)) σ H Q) : tChain (rP2 K p) (rP2 K q) tA tB tC σ H Q := by
  obtain ⟨ρ, Z, S, en, F, ⟨k, r⟩, h⟩ := h
  refine ha σ H _ (Sim.start k r (Le.refl F) h.bind fun x en1 S1 q1 ρ1 Z1 vx H1 k1 r1 => ?_)
  refine hb σ H1 _ (Sim.start k1 (F' := (vx, x) :: F) (r1.le le_swap) le_drop q1.bind fun y en2 S2 q2 ρ2 Z2 vy H2 k2 r2 => ?_)
  obtain ⟨z, e, q3⟩ := q2.bind.opt
  obtain ⟨kk, rfl⟩ := hp _ _ e
  have rx := r2.fr (vx, x) (List.mem_cons_of_mem _ (List.mem_append_right _ List.mem_cons_self))
  have ry := r2.fr (vy, y) List.mem_cons_self
  refine ⟨ρ2, Z2, [derefD S2 x, derefD S2 y], .bl kk, e, .cons (deref_rep r2 rx) (.cons (deref_rep r2 ry) .nil), fun v H' o => ?_⟩
  cases o with
  | old hv =>
    refine ⟨kk, hv, ?_⟩
    have r3 : Rel K ρ2 Z2 S2 ((vy, y) :: (pairs σ en2 ++ F)) H2 := r2.le (Le.cons (app_le le_drop) _)
    cases kk with
    | false => exact q3.ok ρ2 Z2 (.bl false) H2 k2 ((r3.le le_drop).push rfl)
    | true =>
      refine hc σ H2 _ (Sim.start k2 (F' := (vy, y) :: F) (r3.le le_swap) le_drop (Post.bind q3) fun w en3 S3 q4 ρ3 Z3 vw H3 k3 r4 => ?_)
      obtain ⟨d, e2, q5⟩ := q4.opt
      have rw' := r4.fr (vw, w) List.mem_cons_self
      have ry' := r4.fr (vy, y) (List.mem_cons_of_mem _ (List.mem_append_right _ List.mem_cons_self))
      exact ⟨ρ3, Z3, [derefD S3 y, derefD S3 w], d, e2, .cons (deref_rep r4 ry') (.cons (deref_rep r4 rw') .nil), fun v H' o => q5 ρ3 Z3 v H' k3 (o.rel ((r4.le le_drop).le (app_le le_drop)))⟩
/-! ### arguments -/
theorem as_nil {Q : List V → Hp → Prop} (h : simAs K W (.ret []) σ H Q) : tNil σ H Q := by
  obtain ⟨ρ, Z, S, en, F, ⟨k, r⟩, h⟩ := h
  exact h ρ Z [] H k rfl r
theorem as_cons {te : TE} {tr : TA} {m : M D} {ms : M (List D)} (ha : ∀ σ H Q, simE K W m σ H Q → te σ H Q) (hr : ∀ σ H Q, simAs K W ms σ H Q → tr σ H Q) {Q : List V → Hp → Prop}
    (h : simAs K W (m.bind fun d => ms.bind fun ds => .ret (d :: ds)) σ H Q) : tCons te tr σ H Q := by
  obtain ⟨ρ, Z, S, en, F, ⟨k, r⟩, h⟩ := h
  refine ha σ H _ (Sim.start k r (Le.refl F) h.bind fun d en1 S1 q ρ1 Z1 v H1 k1 r1 => ?_)
  refine hr σ H1 _ (Sim.start k1 (F' := (v, d) :: F) (r1.le le_swap) le_drop q.bind fun ds en2 S2 q2 ρ2 Z2 vs H2 k2 hl r2 => ?_)
  refine q2 ρ2 Z2 (v :: vs) H2 k2 (by simp [hl]) (r2.le ⟨fun p hp => ?_, fun a => ?_⟩)
  · simp only [List.zip_cons_cons, List.cons_append, List.mem_cons, List.mem_append] at hp ⊢
    rcases hp with h | h | h | h
    · exact .inr (.inr (.inl h))
    · exact .inl h
    · exact .inr (.inl h)
    · exact .inr (.inr (.inr h))
  · simp only [List.zip_cons_cons, List.cons_append, cF, cF_append]
    omega
/-- what is made hard: a list that nobody else holds is shared -/
theorem hardens : ∀ {vs : List V} {ds : List D} {ρ Z : List Addr} {S : Sto} {F : List (V × D)} {H : Hp}, vs.length = ds.length → Rel K ρ Z S (vs.zip ds ++ F) H →
    ∃ Z', Rel K ρ Z' S F H ∧ RepSs K ρ Z' H (ds.map D.hard) vs ∧ ∀ a ∈ Z, a ∈ Z'
  | [], [], ρ, Z, S, F, H, _, r => ⟨Z, r, rfl, fun _ h => h⟩
  | [], _ :: _, _, _, _, _, _, h, _ => by simp at h
  | _ :: _, [], _, _, _, _, _, h, _ => by simp at h
  | v :: vs, d :: ds, ρ, Z, S, F, H, hl, r => by
    have r0 : Rel K ρ Z S ((v, d) :: (vs.zip ds ++ F)) H := r
    have one : ∃ Z1, Rel K ρ Z1 S ((v, d.hard) :: (vs.zip ds ++ F)) H ∧ RepS K ρ Z1 H d.hard v ∧ ∀ a ∈ Z, a ∈ Z1 := by
      cases d with
      | own xs =>
        obtain ⟨a, rfl, r1⟩ := r0.freeze
        exact ⟨a :: Z, r1, r1.fr _ List.mem_cons_self, fun _ h => List.mem_cons_of_mem _ h⟩
      | _ => exact ⟨Z, r0, r0.fr _ List.mem_cons_self, fun _ h => h⟩
    obtain ⟨Z1, r1, h1, z1⟩ := one
    obtain ⟨Z2, r2, h2, z2⟩ := hardens (vs := vs) (ds := ds) (F := F) (by simpa using hl) (r1.le le_drop)
    exact ⟨Z2, r2, ⟨v, vs, rfl, RepS.stb Stb.refl (fun _ _ h => h) z2 _ _ h1, h2⟩, fun a h => z2 a (z1 a h)⟩
theorem tup_of {ms : M (List D)} {Q : VK} (h : simE K W (ms.bind fun ds => if ds.length ≤ big then .ret (.tup (ds.map D.hard)) else .stuck) σ H Q) :
    simAs K W ms σ H fun vs H1 => vs.length ≤ sizeLine ∧ ∀ p, H1 p = none → Q (.ref p) (upd H1 p (.tup vs)) := by
  obtain ⟨ρ, Z, S, en, F, ⟨k, r⟩, h⟩ := h
  refine Sim.start k r (Le.refl F) h.bind fun ds en1 S1 q ρ1 Z1 vs H1 k1 hl r1 => ?_
  split at q
  · rename_i hb
    obtain ⟨Z2, r2, h2, _⟩ := hardens hl r1
    exact ⟨by rw [big_eq, hl]; exact hb, fun p hp => q.ok ρ1 Z2 _ _ k1 ((Out.tup hp h2).rel r2)⟩
  · exact q.elim
theorem lst_of {ms : M (List D)} {Q : VK} (h : simE K W (ms.bind fun ds => if ds.length ≤ big then .ret (.own (ds.map D.hard)) else .stuck) σ H Q) :
    simAs K W ms σ H fun vs H1 => vs.length ≤ sizeLine ∧ ∀ p, H1 p = none → Q (.ref p) (upd H1 p (.lst vs)) := by
  obtain ⟨ρ, Z, S, en, F, ⟨k, r⟩, h⟩ := h
  refine Sim.start k r (Le.refl F) h.bind fun ds en1 S1 q ρ1 Z1 vs H1 k1 hl r1 => ?_
  split at q
  · rename_i hb
    obtain ⟨Z2, r2, h2, _⟩ := hardens hl r1
    exact ⟨by rw [big_eq, hl]; exact hb, fun p hp => q.ok ρ1 Z2 _ _ k1 ((Out.lst hp h2).rel r2)⟩
  · exact q.elim
/-! ### truth -/
theorem truV {ρ Z : List Addr} {d : D} {v : V} {b : Bool} (h : Rep K ρ Z H d v) (e : truthy d = some b) : TruV K v H b := by
  have nil : ∀ {ds : List D} {vs : List V}, RepSs K ρ Z H ds vs → (!ds.isEmpty) = (!vs.isEmpty) := fun {ds vs} r => by
    have := r.length
    cases ds <;> cases vs <;> simp_all
  cases d with
  | non => cases h.non; simpa [TruV, truthy] using e.symm
  | bl x => cases h.bl; simpa [TruV, truthy] using e.symm
  | int x => cases h.int; simpa [TruV, truthy] using e.symm
  | str x =>
    cases h.str
    simp only [truthy] at e
    split at e
    · rename_i hl
      cases e
      refine ⟨by rw [big_eq]; exact hl, ?_⟩
      by_cases hx : x.length = 0
      · rw [hx]; rfl
      · have h1 : (x.length != 0) = true := by simpa using hx
        have h2 : ((x.length : Int) != 0) = true := by
          simp only [bne_iff_ne, ne_eq]
          omega
        rw [h1, h2]
    · cases e
  | tup xs =>
    obtain ⟨a, vs, rfl, q, r⟩ := h.sqt
    simp only [truthy, Option.some.injEq] at e
    exact .inr (.inl ⟨vs, q, by rw [← e, nil r]⟩)
  | own xs =>
    obtain ⟨a, vs, rfl, q, r⟩ := h.sql (ds := xs) rfl
    simp only [truthy, Option.some.injEq] at e
    exact .inl ⟨vs, q, by rw [← e, nil r]⟩
  | frz xs =>
    obtain ⟨a, vs, rfl, q, r⟩ := h.sql (ds := xs) rfl
    simp only [truthy, Option.some.injEq] at e
    exact .inl ⟨vs, q, by rw [← e, nil r]⟩
  | ref n => cases e
/-- a value's truth as a test -/
theorem tru_of {m : M D} {te : TE} (ha : ∀ σ H Q, simE K W m σ H Q → te σ H Q) {Q : Bool → Hp → Prop} (h : simT K W (m.bind fun d => truM d) σ H Q) :
    te σ H fun x H' => ∃ k, TruV K x H' k ∧ Q k H' := by
  obtain ⟨ρ, Z, S, en, F, ⟨k, r⟩, h⟩ := h
  refine ha σ H _ (Sim.start k r (Le.refl F) h.bind fun d en1 S1 q ρ1 Z1 v H1 k1 r1 => ?_)
  obtain ⟨b, e, q⟩ := q.opt
  exact ⟨b, truV (deref_rep r1 (r1.fr (v, d) List.mem_cons_self)) e, q ρ1 Z1 H1 k1 (r1.le le_drop)⟩
theorem tru_var {i : Nat} {Q : Bool → Hp → Prop} (h : simT K W ((getV i).bind fun d => truM d) σ H Q) : tVar i σ H fun x H' => ∃ k, TruV K x H' k ∧ Q k H' := by
  obtain ⟨ρ, Z, S, en, F, ⟨k, r⟩, h⟩ := h
  obtain ⟨d, e, h⟩ := getV_ok h.bind
  obtain ⟨v, hv, hm⟩ := slot_v k e
  obtain ⟨b, eb, q⟩ := h.opt
  exact ⟨v, hv, b, truV (deref_rep r (r.fr (v, d) (List.mem_append_left _ hm))) eb, q ρ Z H k r⟩
theorem and_of {a b : M Bool} {tA tB : TT} (ha : ∀ σ H Q, simT K W a σ H Q → tA σ H Q) (hb : ∀ σ H Q, simT K W b σ H Q → tB σ H Q) {Q : Bool → Hp → Prop}
    (h : simT K W (a.bind fun t => if t then b else .ret false) σ H Q) : tAnd tA tB σ H Q := by
  obtain ⟨ρ, Z, S, en, F, ⟨k, r⟩, h⟩ := h
  refine ha σ H _ (Sim.start k r (Le.refl F) h.bind fun c en1 S1 q ρ1 Z1 H1 k1 r1 => ?_)
  cases c with
  | true => exact hb σ H1 _ (Sim.start k1 r1 (Le.refl F) q fun _ _ _ h => h)
  | false => exact q.ok ρ1 Z1 H1 k1 r1
theorem or_of {a b : M Bool} {tA tB : TT} (ha : ∀ σ H Q, simT K W a σ H Q → tA σ H Q) (hb : ∀ σ H Q, simT K W b σ H Q → tB σ H Q) {Q : Bool → Hp → Prop}
    (h : simT K W (a.bind fun t => if t then .ret true else b) σ H Q) : tOr tA tB σ H Q := by
  obtain ⟨ρ, Z, S, en, F, ⟨k, r⟩, h⟩ := h
  refine ha σ H _ (Sim.start k r (Le.refl F) h.bind fun c en1 S1 q ρ1 Z1 H1 k1 r1 => ?_)
  cases c with
  | true => exact q.ok ρ1 Z1 H1 k1 r1
  | false => exact hb σ H1 _ (Sim.start k1 r1 (Le.refl F) q fun _ _ _ h => h)
theorem not_of {a : M Bool} {tA : TT} (ha : ∀ σ H Q, simT K W a σ H Q → tA σ H Q) {Q : Bool → Hp → Prop} (h : simT K W (a.bind fun t => .ret (!t)) σ H Q) : tNot tA σ H Q := by
  obtain ⟨ρ, Z, S, en, F, ⟨k, r⟩, h⟩ := h
  exact ha σ H _ (Sim.start k r (Le.refl F) h.bind fun c en1 S1 q ρ1 Z1 H1 k1 r1 => q.ok ρ1 Z1 H1 k1 r1)
theorem notV_of {a : M D} {tA : TE} (ha : ∀ σ H Q, simE K W a σ H Q → tA σ H Q) {Q : VK} (h : simE K W (a.bind fun d => (truM d).bind fun b => .ret (.bl (!b))) σ H Q) : tNotT K tA σ H Q := by
  obtain ⟨ρ, Z, S, en, F, ⟨k, r⟩, h⟩ := h
  refine ha σ H _ (Sim.start k r (Le.refl F) h.bind fun d en1 S1 q ρ1 Z1 v H1 k1 r1 => ?_)
  obtain ⟨c, e, q⟩ := q.bind.opt
  exact ⟨c, truV (deref_rep r1 (r1.fr (v, d) List.mem_cons_self)) e, q.ok ρ1 Z1 (.bl (!c)) H1 k1 ((r1.le le_drop).push rfl)⟩
theorem cond_of {c : M Bool} {a b : M D} {tC : TT} {tA tB : TE} (hc : ∀ σ H Q, simT K W c σ H Q → tC σ H Q) (ha : ∀ σ H Q, simE K W a σ H Q → tA σ H Q) (hb : ∀ σ H Q, simE K W b σ H Q → tB σ H Q) {Q : VK}
    (h : simE K W (c.bind fun t => if t then a else b) σ H Q) : tIf tC tA tB σ H Q := by
  obtain ⟨ρ, Z, S, en, F, ⟨k, r⟩, h⟩ := h
  refine hc σ H _ (Sim.start k r (Le.refl F) h.bind fun c en1 S1 q ρ1 Z1 H1 k1 r1 => ?_)
  cases c with
  | true => exact ha σ H1 _ (Sim.start k1 r1 (Le.refl F) q fun _ _ _ h => h)
  | false => exact hb σ H1 _ (Sim.start k1 r1 (Le.refl F) q fun _ _ _ h => h)
theorem orT_of {a b : M D} {tA tB : TE} (ha : ∀ σ H Q, simE K W a σ H Q → tA σ H Q) (hb : ∀ σ H Q, simE K W b σ H Q → tB σ H Q) {Q : VK}
    (h : simE K W (a.bind fun d => (truM d).bind fun t => if t then .ret d else b) σ H Q) : tOrT K tA tB σ H Q := by
  obtain ⟨ρ, Z, S, en, F, ⟨k, r⟩, h⟩ := h
  refine ha σ H _ (Sim.start k r (Le.refl F) h.bind fun d en1 S1 q ρ1 Z1 v H1 k1 r1 => ?_)
  obtain ⟨b, e, q⟩ := q.bind.opt
  refine ⟨b, truV (deref_rep r1 (r1.fr (v, d) List.mem_cons_self)) e, ?_⟩
  cases b with
  | true => exact q.ok ρ1 Z1 v H1 k1 r1
  | false => exact hb σ H1 _ (Sim.start k1 (r1.le le_drop) (Le.refl F) q fun _ _ _ h => h)
theorem andT_of {a b : M D} {tA tB : TE} (ha : ∀ σ H Q, simE K W a σ H Q → tA σ H Q) (hb : ∀ σ H Q, simE K W b σ H Q → tB σ H Q) {Q : VK}
    (h : simE K W (a.bind fun d => (truM d).bind fun t => if t then b else .ret d) σ H Q) : tAndT K tA tB σ H Q := by
  obtain ⟨ρ, Z, S, en, F, ⟨k, r⟩, h⟩ := h
  refine ha σ H _ (Sim.start k r (Le.refl F) h.bind fun d en1 S1 q ρ1 Z1 v H1 k1 r1 => ?_)
  obtain ⟨b, e, q⟩ := q.bind.opt
  refine ⟨b, truV (deref_rep r1 (r1.fr (v, d) List.mem_cons_self)) e, ?_⟩
  cases b with
  | false => exact q.ok ρ1 Z1 v H1 k1 r1
  | true => exact hb σ H1 _ (Sim.start k1 (r1.le le_drop) (Le.refl F) q fun _ _ _ h => h)
end
end Mi
end
section
set_option Elab.async false
set_option maxRecDepth 100000
set_option linter.all false
namespace Mi
open PySem PySem.Spec PyProof.Rows L2

/-! ### calls -/
/-- what the f-th def promises, by the evaluator -/
def spF (K : PySem.W.Frag) (cf : Calls) (np f : Nat) : Sp := fun vs H Q E => vs.length = np ∧ ∃ (ρ Z : List Addr) (S : Sto) (F : List (V × D)) (ds : List D), ds.length = vs.length ∧ Rel K ρ Z S (vs.zip ds ++ F) H ∧
  match cf f ds S with
  | .ok d S' => ∀ (ρ' Z' : List Addr) (v : V) (H' : Hp), Rel K ρ' Z' S' ((v, d) :: F) H' → Q v H'
  | .exc x S' => ∀ (ρ' Z' : List Addr) (H' : Hp) (cls : Value) (dx : Option Addr), Rel K ρ' Z' S' F H' → ExR K ρ' Z' H' x cls dx → E cls dx H'
  | .stuck => False
section
variable {K : PySem.W.Frag} {W : WX} {σ : L2.St} {H : Hp} {α β : Type} {en : Env}
theorem call_of {cf : Calls} {np f : Nat} (hn : ∀ ds s, ds.length ≠ np → cf f ds s = .stuck) {ms : M (List D)} {Q : VK} (h : simE K W (ms.bind fun ds => callM cf f ds) σ H Q) :
    simAs K W ms σ H fun vs H1 => spF K cf np f vs H1 Q (WE W σ) := by
  obtain ⟨ρ, Z, S, en, F, ⟨k, r⟩, h⟩ := h
  refine Sim.start k r (Le.refl F) h.bind fun ds en1 S1 q ρ1 Z1 vs H1 k1 hl r1 => ?_
  have hnp : ds.length = np := by
    by_cases e : ds.length = np
    · exact e
    · simp only [callM, hn ds S1 e] at q
      exact q.elim
  refine ⟨hl.trans hnp, ρ1, Z1, S1, pairs σ en1 ++ F, ds, hl.symm, r1, ?_⟩
  unfold callM at q
  cases e : cf f ds S1 with
  | ok d S2 =>
    rw [e] at q
    exact fun ρ2 Z2 v H2 r2 => q ρ2 Z2 v H2 k1 r2
  | exc x S2 =>
    rw [e] at q
    exact fun ρ2 Z2 H2 cls dx r2 ex => q ρ2 Z2 H2 cls dx k1 r2 ex
  | stuck =>
    rw [e] at q
    exact q.elim

/-! ### a list changes -/
def V.int? : V → Option Int
  | .int i => some i
  | _ => none
def muV : Mu → List V → List V → Option (List V × V) := muG .non V.int?
theorem int_rep {ρ Z : List Addr} {d : D} {v : V} {i : Int} (h : RepS K ρ Z H d v) (e : d.int? = some i) : V.int? v = some i := by
  cases d <;> simp only [D.int?, Option.some.injEq] at e <;> first | (cases e; done) | skip
  subst e
  cases (show v = _ from h)
  rfl
theorem mu_rep {m : Mu} {ρ Z : List Addr} {ds as ds' : List D} {vs ws : List V} {d : D} (h : RepSs K ρ Z H ds vs) (k : RepSs K ρ Z H as ws) (e : muF m ds as = some (ds', d)) :
    ∃ vs' v, muV m vs ws = some (vs', v) ∧ RepSs K ρ Z H ds' vs' ∧ RepS K ρ Z H d v := by
  have hl := h.length
  unfold muF muG at e
  split at e
  · obtain ⟨w, r, rfl, k1, k2⟩ := k
    cases (show r = [] from k2)
    split at e
    · cases e
      rename_i hb
      exact ⟨_, _, by simp only [muV, muG]; rw [if_pos (by rw [hl]; exact hb)], h.append (.one k1), rfl⟩
    · cases e
  · cases (show ws = [] from k)
    cases hx : ds[ds.length - 1]? with
    | none => rw [hx] at e; cases e
    | some x =>
      rw [hx] at e
      cases e
      obtain ⟨v, hv, rv⟩ := h.get hx
      exact ⟨_, v, by simp only [muV, muG]; rw [hl, hv]; rfl, h.dropLast, rv⟩
  · obtain ⟨w, r, rfl, k1, k2⟩ := k
    cases (show r = [] from k2)
    rename_i kk
    cases hi : kk.int? with
    | none => rw [hi] at e; cases e
    | some i =>
      rw [hi] at e
      cases hj : ixN ds.length i with
      | none => simp only [Option.bind_some, hj] at e; cases e
      | some j =>
        simp only [Option.bind_some, hj] at e
        cases hx : ds[j]? with
        | none => rw [hx] at e; cases e
        | some x =>
          rw [hx] at e
          cases e
          obtain ⟨v, hv, rv⟩ := h.get hx
          exact ⟨_, v, by simp only [muV, muG, int_rep k1 hi, Option.bind_some, hl, hj, hv], h.erase j, rv⟩
  · obtain ⟨w, r, rfl, k1, w2, r2, rfl, k2, k3⟩ := k
    cases (show r2 = [] from k3)
    rename_i kk dd
    cases hi : kk.int? with
    | none => rw [hi] at e; cases e
    | some i =>
      rw [hi] at e
      cases hj : ixN ds.length i with
      | none => simp only [Option.bind_some, hj] at e; cases e
      | some j =>
        simp only [Option.bind_some, hj] at e
        cases e
        exact ⟨_, _, by simp only [muV, muG, int_rep k1 hi, Option.bind_some, hl, hj]; rfl, h.set j k2, rfl⟩
  · obtain ⟨w, r, rfl, k1, w2, r2, rfl, k2, k3⟩ := k
    cases (show r2 = [] from k3)
    rename_i kk dd
    cases hi : kk.int? with
    | none => rw [hi] at e; cases e
    | some i =>
      rw [hi] at e
      simp only [Option.bind_some] at e
      split at e
      · rename_i hc
        cases e
        exact ⟨_, _, by simp only [muV, muG, int_rep k1 hi, Option.bind_some, hl]; rw [if_pos hc], (h.take _).append (.cons k2 (h.drop _)), rfl⟩
      · cases e
  · cases e
/-- the reading of a change -/
def rMu (m : Mu) (x : V) (ws : List V) (H : Hp) (Q : VK) : Prop := ∃ (a : Addr) (vs vs' : List V) (v : V), x = .ref a ∧ H a = some (.lst vs) ∧ muV m vs ws = some (vs', v) ∧ Q v (upd H a (.lst vs'))
theorem Rel.stbOwn {ρ Z : List Addr} {S : Sto} {F : List (V × D)} {a : Addr} {ds : List D} {o : HO} (r : Rel K ρ Z S ((.ref a, .own ds) :: F) H) : Stb K Z H (upd H a o) := by
  obtain ⟨a', vs, e, q, _⟩ := r.fr _ List.mem_cons_self
  cases e
  refine Stb.set q fun b hb e => ?_
  subst e
  have := (r.zz b hb).1
  simp [cF, ownA] at this
theorem Rel.stbRef {ρ Z : List Addr} {S : Sto} {F : List (V × D)} {a : Addr} {n : Nat} {ds : List D} {o : HO} (r : Rel K ρ Z S F H) (hS : S[n]? = some (.lst ds)) (hr : ρ[n]? = some a) : Stb K Z H (upd H a o) := by
  obtain ⟨vs, q, _⟩ := r.so n _ a hS hr
  refine Stb.set q fun b hb e => ?_
  subst e
  have := (r.zz b hb).1
  have := count_pos hr
  omega
/-- a change of the list at a place -/
theorem mutM_of {m : Mu} {ρ Z : List Addr} {S : Sto} {en : Env} {F : List (V × D)} {good : D → Env → Sto → Prop} {d0 : D} {slot : Option Nat} {as : List D} {ws : List V} {v0 : V} (k : EnvOk σ en) (r : Rel K ρ Z S (pairs σ en ++ F) H)
    (ha : RepSs K ρ Z H as ws) (hs : ∀ i, slot = some i → en[i]? = some (some d0) ∧ σ[i]? = some (some v0)) (h0 : Rep K ρ Z H d0 v0) (h : Post K W σ F good (mutM m d0 slot as en S)) {Q : VK}
    (hQ : ∀ d en' S', good d en' S' → ∀ (v : V) (H' : Hp), EnvOk σ en' → Rel K ρ Z S' ((v, d) :: (pairs σ en' ++ F)) H' → Q v H') : rMu m v0 ws H Q := by
  unfold mutM at h
  split at h
  · rename_i ds
    split at h
    · rename_i i ds' d hm
      obtain ⟨e1, e2⟩ := hs i rfl
      obtain ⟨a, vs, rfl, q, y⟩ := h0
      obtain ⟨vs', v, hv, y', rv⟩ := mu_rep y ha hm
      have r1 := r.le (le_move (G := F) k e1 e2)
      have st := r1.stbOwn (o := .lst vs')
      have r2 := r1.changeOwn y'
      have r3 := r2.le (le_back (σ := σ) (en := en.set i none) (i := i) (v := .ref a) (d := .own ds') (G := F) (k.wipe i) (by simpa using lt_of_get? e1) e2)
      refine ⟨a, vs, vs', v, rfl, q, hv, hQ d _ _ h v _ (k.re e1 _) ?_⟩
      have r4 := r3.push (RepS.stb st (fun _ _ h => h) (fun _ h => h) _ _ rv)
      simpa using r4
    · exact h.elim
  · rename_i n
    split at h
    · rename_i ds hS
      split at h
      · rename_i ds' d hm
        obtain ⟨a, rfl, hr⟩ := (show RepS K ρ Z H (.ref n) v0 from h0)
        obtain ⟨vs, q, y⟩ := r.so n _ a hS hr
        obtain ⟨vs', v, hv, y', rv⟩ := mu_rep y ha hm
        have st := r.stbRef (o := .lst vs') hS hr
        exact ⟨a, vs, vs', v, rfl, q, hv, hQ d _ _ h v _ k ((r.changeRef hS hr y').push (RepS.stb st (fun _ _ h => h) (fun _ h => h) _ _ rv))⟩
      · exact h.elim
    · exact h.elim
  · exact h.elim
theorem look_ok {d : D} {v : V} {ρ Z : List Addr} {S : Sto} {en : Env} {F G : List (V × D)} {good : Unit → Env → Sto → Prop} (r : Rel K ρ Z S G H) (h : Rep K ρ Z H d v) (q : Post K W σ F good (lookL d en S)) : tyV K "list" v H ∧ good () en S := by
  unfold lookL at q
  split at q
  · obtain ⟨a, vs, rfl, k, _⟩ := h
    exact ⟨.inl ⟨rfl, vs, .of k⟩, q⟩
  · rename_i n
    split at q
    · rename_i ds hS
      obtain ⟨a, rfl, hr⟩ := (show RepS K ρ Z H (.ref n) v from h)
      obtain ⟨vs, k, _⟩ := r.so n _ a hS hr
      exact ⟨.inl ⟨rfl, vs, .of k⟩, q⟩
    · exact q.elim
  · exact q.elim
/-- o.m(..): the place is a name -/
theorem mut_var {m : Mu} {i : Nat} {ms : M (List D)} {ta : TA} (ha : ∀ σ H Q, simAs K W ms σ H Q → ta σ H Q) {Q : VK}
    (h : simE K W (((getV i).bind fun _ => .ret (none : Option D)).bind fun r => (lookP (some i) r).bind fun _ => ms.bind fun as => (match r with
      | none => (match some i with
        | some i => (getV i).bind fun d0 => mutM m d0 (some i) (as.map D.hard)
        | none => .stuck)
      | some d0 => mutM m d0 none (as.map D.hard))) σ H Q) : tVar i σ H fun x H1 => tyV K "list" x H1 ∧ ta σ H1 fun ws H2 => rMu m x ws H2 Q := by
  obtain ⟨ρ, Z, S, en, F, ⟨k, r⟩, h⟩ := h
  obtain ⟨d0, e0, h⟩ := getV_ok h.bind.bind
  obtain ⟨v, hv, hm⟩ := slot_v k e0
  obtain ⟨d0', e0', h⟩ := getV_ok (Post.bind (Post.bind h.ok))
  rw [e0] at e0'; cases e0'
  obtain ⟨ht, h⟩ := look_ok r (r.fr (v, d0) (List.mem_append_left _ hm)) h
  refine ⟨v, hv, ht, ?_⟩
  refine ha σ H _ (Sim.start k r (Le.refl F) (Post.bind h) fun ds en1 S1 q ρ1 Z1 vs H1 k1 hl r1 => ?_)
  obtain ⟨Z2, r2, h2, _⟩ := hardens hl r1
  obtain ⟨d, e, q⟩ := getV_ok q.bind
  obtain ⟨v', hv', hm'⟩ := slot_v k1 e
  rw [hv] at hv'; cases hv'
  exact mutM_of k1 r2 h2 (fun j hj => by cases hj; exact ⟨e, hv⟩) (r2.fr (v, d) (List.mem_append_left _ hm')) q fun d en' S' g v H' k' r' => g _ _ v H' k' r'
theorem mut_exp {m : Mu} {m0 : M D} {t0 : TE} {slot : Option Nat} {ms : M (List D)} {ta : TA} (h0 : ∀ σ H Q, simE K W m0 σ H Q → t0 σ H Q) (ha : ∀ σ H Q, simAs K W ms σ H Q → ta σ H Q) {Q : VK}
    (h : simE K W ((m0.bind fun d => .ret (some d)).bind fun r => (lookP slot r).bind fun _ => ms.bind fun as => (match r with
      | none => (match slot with
        | some i => (getV i).bind fun d0 => mutM m d0 (some i) (as.map D.hard)
        | none => .stuck)
      | some d0 => mutM m d0 none (as.map D.hard))) σ H Q) : t0 σ H fun x H1 => tyV K "list" x H1 ∧ ta σ H1 fun ws H2 => rMu m x ws H2 Q := by
  obtain ⟨ρ, Z, S, en, F, ⟨k, r⟩, h⟩ := h
  refine h0 σ H _ (Sim.start k r (Le.refl F) h.bind.bind fun d0 en0 S0 q0 ρ0 Z0 v0 H0 k0 r0 => ?_)
  obtain ⟨ht, q0⟩ := look_ok r0 (r0.fr (v0, d0) List.mem_cons_self) (Post.bind q0.ok)
  refine ⟨ht, ha σ H0 _ (Sim.start k0 (F' := (v0, d0) :: F) (r0.le le_swap) le_drop (Post.bind q0) fun ds en1 S1 q ρ1 Z1 vs H1 k1 hl r1 => ?_)⟩
  obtain ⟨Z2, r2, h2, _⟩ := hardens hl r1
  have r3 := r2.le (app_le le_drop)
  exact mutM_of k1 r3 h2 (fun j hj => by cases hj) (r2.fr (v0, d0) (List.mem_append_right _ List.mem_cons_self)) q fun d en' S' g v H' k' r' => g _ _ v H' k' r'

/-! ### targets -/
/-- it ends well, and so -/
def OkP {α : Type} (good : α → Env → Sto → Prop) : R α → Prop
  | .ok a en S => good a en S
  | .exc _ _ _ => False
  | .stuck => False
theorem OkP.bind {good : β → Env → Sto → Prop} {m : M α} {f : α → M β} {en : Env} {S : Sto} (h : OkP good (M.bind m f en S)) : OkP (fun a en1 S1 => OkP good (f a en1 S1)) (m en S) := by
  unfold M.bind R.bind at h
  cases e : m en S with
  | ok a en1 S1 => rw [e] at h; exact h
  | exc x en1 S1 => rw [e] at h; exact h
  | stuck => rw [e] at h; exact h
/-- a part that may not raise -/
theorem OkP.calm {m : M α} {good : α → Env → Sto → Prop} {en : Env} {S : Sto} (h : OkP good (m.calm en S)) {F : List (V × D)} : Post K W σ F good (m en S) := by
  unfold M.calm at h
  cases e : m en S with
  | ok a en1 S1 => rw [e] at h; exact h
  | exc x en1 S1 => rw [e] at h; exact h.elim
  | stuck => rw [e] at h; exact h.elim
theorem OkP.post {good : α → Env → Sto → Prop} {r : R α} (h : OkP good r) {F : List (V × D)} : Post K W σ F good r := by
  cases r with
  | ok a en1 S1 => exact h
  | exc x en1 S1 => exact h.elim
  | stuck => exact h.elim
def simG (K : PySem.W.Frag) (m : D → M Unit) : TG := fun v σ H Q => ∃ (ρ Z : List Addr) (S : Sto) (en : Env) (F : List (V × D)) (d : D), EnvOk σ en ∧ Rel K ρ Z S ((v, d) :: (pairs σ en ++ F)) H ∧
  OkP (fun _ en' S' => ∀ (ρ' Z' : List Addr) (σ' : L2.St) (H' : Hp), EnvOk σ' en' → σ'.length = σ.length → Rel K ρ' Z' S' (pairs σ' en' ++ F) H' → Q σ' H') (m d en S)
def simGs (K : PySem.W.Frag) (m : List D → M Unit) : TGs := fun vs σ H Q => ∃ (ρ Z : List Addr) (S : Sto) (en : Env) (F : List (V × D)) (ds : List D), EnvOk σ en ∧ Rel K ρ Z S (pairs σ en ++ F) H ∧ RepSs K ρ Z H ds vs ∧
  OkP (fun _ en' S' => ∀ (ρ' Z' : List Addr) (σ' : L2.St) (H' : Hp), EnvOk σ' en' → σ'.length = σ.length → Rel K ρ' Z' S' (pairs σ' en' ++ F) H' → Q σ' H') (m ds en S)
theorem le_setAll (k : EnvOk σ en) {i : Nat} {v' : V} {d' : D} {G : List (V × D)} : Le (pairs (σ.set i (some v')) (en.set i (some d')) ++ G) ((v', d') :: (pairs σ en ++ G)) := by
  by_cases hi : i < en.length
  · exact le_setAny hi (by rw [k.len]; exact hi)
  · rw [List.set_eq_of_length_le (by rw [k.len]; omega), List.set_eq_of_length_le (by omega)]
    exact le_drop
theorem g_name {i : Nat} {v : V} {Q : L2.St → Hp → Prop} (h : simG K (fun d => setV i d) v σ H Q) : gName i v σ H Q := by
  obtain ⟨ρ, Z, S, en, F, d, k, r, h⟩ := h
  exact h ρ Z _ H (k.set i v (some d)) (by simp) (r.le (le_setAll k))
theorem g_nil {vs : List V} {Q : L2.St → Hp → Prop} (h : simGs K (fun ds => match ds with | [] => .ret () | _ :: _ => .stuck) vs σ H Q) : gNil vs σ H Q := by
  obtain ⟨ρ, Z, S, en, F, ds, k, r, y, h⟩ := h
  cases ds with
  | nil => exact ⟨y, h ρ Z σ H k rfl r⟩
  | cons => exact h.elim
theorem Rel.pushes : ∀ {ds : List D} {vs : List V} {ρ Z : List Addr} {S : Sto} {F : List (V × D)} {H : Hp}, Rel K ρ Z S F H → RepSs K ρ Z H ds vs → Rel K ρ Z S (vs.zip ds ++ F) H
  | [], _, _, _, _, _, _, r, h => by cases (show _ = [] from h); exact r
  | d :: ds, _, _, _, _, _, _, r, h => by
    obtain ⟨v, q, rfl, h1, h2⟩ := h
    exact (r.pushes h2).push h1
theorem RepSs.again : ∀ {ds : List D} {vs : List V} {ρ Z ρ' Z' : List Addr} {H H' : Hp}, RepSs K ρ Z H ds vs → (∀ p ∈ vs.zip ds, Rep K ρ' Z' H' p.2 p.1) → RepSs K ρ' Z' H' ds vs
  | [], _, _, _, _, _, _, _, h, _ => h
  | d :: ds, _, _, _, _, _, _, _, h, k => by
    obtain ⟨v, q, rfl, h1, h2⟩ := h
    refine ⟨v, q, rfl, ?_, h2.again fun p hp => k p (List.mem_cons_of_mem _ hp)⟩
    have := k (v, d) List.mem_cons_self
    cases d with
    | own xs => exact h1.elim
    | _ => exact this
theorem g_cons {t : TG} {u : TGs} {m : D → M Unit} {ms : List D → M Unit} (ht : ∀ v σ H Q, simG K m v σ H Q → t v σ H Q) (hu : ∀ vs σ H Q, simGs K ms vs σ H Q → u vs σ H Q) {vs : List V} {Q : L2.St → Hp → Prop}
    (h : simGs K (fun ds => match ds with | d :: ds => (m d).bind fun _ => ms ds | [] => .stuck) vs σ H Q) : gCons t u vs σ H Q := by
  obtain ⟨ρ, Z, S, en, F, ds, k, r, y, h⟩ := h
  cases ds with
  | nil => exact h.elim
  | cons d ds =>
    obtain ⟨v, vr, rfl, y1, y2⟩ := y
    refine ⟨v, vr, rfl, ht v σ H _ ⟨ρ, Z, S, en, vr.zip ds ++ F, d, k, ?_, ?_⟩⟩
    · refine ((r.pushes y2).push y1).le (Le.cons ⟨fun p hp => ?_, fun a => by simp only [cF_append]; omega⟩ _)
      simp only [List.mem_append] at hp ⊢
      rcases hp with h | h | h
      · exact .inr (.inl h)
      · exact .inl h
      · exact .inr (.inr h)
    · have h1 := OkP.bind h
      generalize m d en S = res at h1
      cases res with
      | ok x en1 S1 =>
        intro ρ1 Z1 σ1 H1 k1 l1 r1
        refine hu vr σ1 H1 _ ⟨ρ1, Z1, S1, en1, F, ds, k1, r1.le le_mid, y2.again fun p hp => r1.fr p (List.mem_append_right _ (List.mem_append_left _ hp)), ?_⟩
        rw [l1]
        exact h1
      | exc x en1 S1 => exact h1.elim
      | stuck => exact h1.elim
theorem g_tup {n : Nat} {u : TGs} {ms : List D → M Unit} (hu : ∀ vs σ H Q, simGs K ms vs σ H Q → u vs σ H Q) {v : V} {Q : L2.St → Hp → Prop}
    (h : simG K (fun d => match d with | .tup ds => if ds.length = n then ms ds else .stuck | _ => .stuck) v σ H Q) : gTup K n u v σ H Q := by
  obtain ⟨ρ, Z, S, en, F, d, k, r, h⟩ := h
  cases d with
  | tup ds =>
    replace h : OkP _ ((if ds.length = n then ms ds else M.stuck) en S) := h
    by_cases hl : ds.length = n
    · rw [if_pos hl] at h
      obtain ⟨a, vs, rfl, q, y⟩ := (r.fr _ List.mem_cons_self : Rep K ρ Z H (.tup ds) v).sqt
      exact ⟨a, vs, rfl, q, y.length.trans hl, hu vs σ H Q ⟨ρ, Z, S, en, F, ds, k, r.le le_drop, y, h⟩⟩
    · rw [if_neg hl] at h
      exact h.elim
  | _ => exact h.elim
/-- o[i] = v -/
theorem set_of {x i v : V} {H : Hp} {Q : Hp → Prop} (h : rMu .set x [i, v] H fun _ H' => Q H') : rSetL x i v H Q := by
  obtain ⟨a, vs, vs', z, rfl, q, e, hq⟩ := h
  simp only [muV, muG] at e
  cases hi : V.int? i with
  | none => rw [hi] at e; cases e
  | some k =>
    rw [hi] at e
    simp only [Option.bind_some] at e
    cases hj : ixN vs.length k with
    | none => rw [hj] at e; cases e
    | some j =>
      rw [hj] at e
      cases e
      cases i <;> simp only [V.int?, Option.some.injEq] at hi <;> first | (cases hi; done) | skip
      subst hi
      exact ⟨a, vs, _, j, rfl, rfl, q, hj, hq⟩
theorem g_subV {n : Nat} {mi : M D} {ti : TE} (hi : ∀ σ H Q, simE K W mi σ H Q → ti σ H Q) {v : V} {Q : L2.St → Hp → Prop}
    (h : simG K (fun d => ((getV n).bind fun _ => .ret (none : Option D)).calm.bind fun r => mi.calm.bind fun j => (match r with
      | none => (match some n with
        | some n => (getV n).bind fun d0 => (mutM .set d0 (some n) [j.hard, d.hard]).bind fun _ => .ret ()
        | none => .stuck)
      | some d0 => (mutM .set d0 none [j.hard, d.hard]).bind fun _ => .ret ())) v σ H Q) : gSub (tVar n) ti rSetL v σ H Q := by
  obtain ⟨ρ, Z, S, en, F, d, k, r, h⟩ := h
  have h1 := OkP.calm (K := K) (W := W) (σ := σ) (F := (v, d) :: F) h.bind
  obtain ⟨d0, e0, h2⟩ := getV_ok h1.bind
  obtain ⟨v0, hv, hm⟩ := slot_v k e0
  refine ⟨v0, hv, ?_⟩
  have h3 := OkP.calm (K := K) (W := W) (σ := σ) (F := (v, d) :: F) (OkP.bind h2.ok)
  refine hi σ H _ (Sim.start k (F' := (v, d) :: F) (r.le le_swap) (Le.refl _) h3 fun j en1 S1 q ρ1 Z1 vj H1 k1 r1 => set_of ?_)
  have q := OkP.post (K := K) (W := W) (σ := σ) (F := F) q
  obtain ⟨d1, e1, q⟩ := getV_ok q.bind
  obtain ⟨v1, hv1, hm1⟩ := slot_v k1 e1
  rw [hv] at hv1; cases hv1
  obtain ⟨Z2, r2, h2, _⟩ := hardens (vs := [vj, v]) (ds := [j, d]) (F := pairs σ en1 ++ F) rfl (r1.le (show Le ((vj, j) :: (v, d) :: (pairs σ en1 ++ F)) _ from Le.cons le_swap' _))
  exact mutM_of k1 r2 h2 (fun m hm => by cases hm; exact ⟨e1, hv⟩) (r2.fr (v0, d1) (List.mem_append_left _ hm1)) q.bind fun d' en' S' g v' H' k' r' => g ρ1 Z2 σ H' k' rfl (r'.le le_drop)
theorem g_subE {slot : Option Nat} {m0 mi : M D} {t0 ti : TE} (h0 : ∀ σ H Q, simE K W m0 σ H Q → t0 σ H Q) (hi : ∀ σ H Q, simE K W mi σ H Q → ti σ H Q) {v : V} {Q : L2.St → Hp → Prop}
    (h : simG K (fun d => (m0.bind fun d => .ret (some d)).calm.bind fun r => mi.calm.bind fun j => (match r with
      | none => (match slot with
        | some n => (getV n).bind fun d0 => (mutM .set d0 (some n) [j.hard, d.hard]).bind fun _ => .ret ()
        | none => .stuck)
      | some d0 => (mutM .set d0 none [j.hard, d.hard]).bind fun _ => .ret ())) v σ H Q) : gSub t0 ti rSetL v σ H Q := by
  obtain ⟨ρ, Z, S, en, F, d, k, r, h⟩ := h
  have h1 := OkP.calm (K := K) (W := W) (σ := σ) (F := (v, d) :: F) h.bind
  refine h0 σ H _ (Sim.start k (F' := (v, d) :: F) (r.le le_swap) (Le.refl _) h1.bind fun d0 en0 S0 q0 ρ0 Z0 v0 H0 k0 r0 => ?_)
  have h3 := OkP.calm (K := K) (W := W) (σ := σ) (F := (v0, d0) :: (v, d) :: F) (OkP.bind q0.ok)
  refine hi σ H0 _ (Sim.start k0 (F' := (v0, d0) :: (v, d) :: F) (r0.le le_swap) (Le.refl _) h3 fun j en1 S1 q ρ1 Z1 vj H1 k1 r1 => set_of ?_)
  have q := OkP.post (K := K) (W := W) (σ := σ) (F := F) q
  obtain ⟨Z2, r2, h2, _⟩ := hardens (vs := [vj, v]) (ds := [j, d]) (F := pairs σ en1 ++ (v0, d0) :: F) rfl (r1.le (show Le ((vj, j) :: (v, d) :: (pairs σ en1 ++ (v0, d0) :: F)) _ from Le.cons ⟨fun p hp => by
    simp only [List.mem_cons, List.mem_append] at hp ⊢
    rcases hp with h | h | h | h
    · exact .inr (.inr (.inl h))
    · exact .inl h
    · exact .inr (.inl h)
    · exact .inr (.inr (.inr h)), fun a => by simp only [cF, cF_append]; omega⟩ _))
  exact mutM_of k1 (r2.le (app_le le_drop)) h2 (fun m hm => by cases hm) (r2.fr (v0, d0) (List.mem_append_right _ List.mem_cons_self)) q.bind fun d' en' S' g v' H' k' r' => g ρ1 Z2 σ H' k' rfl (r'.le le_drop)
end
end Mi
end
section
set_option Elab.async false
set_option maxRecDepth 100000
set_option linter.all false
namespace Mi
open PySem PySem.Spec PyProof.Rows L2
section
variable {K : PySem.W.Frag} {W : WX} {σ : L2.St} {H : Hp} {α β : Type} {en : Env}
/-- an iterator draws these values, whatever stands beside -/
structure ItOk (K : PySem.W.Frag) (J : It) (held : List (V × D)) (ds : List D) : Prop where
  go : ∀ (ρ Z : List Addr) (S : Sto) (F : List (V × D)) (H : Hp) (i : Nat) (d : D), Rel K ρ Z S (held ++ F) H → ds[i]? = some d → J.go i H ∧ ∀ x H', J.yld i H x H' → Rel K ρ Z S (held ++ F) H' ∧ RepS K ρ Z H' d x
  stop : ∀ (ρ Z : List Addr) (S : Sto) (F : List (V × D)) (H : Hp), Rel K ρ Z S (held ++ F) H → J.stop ds.length H
def simI (K : PySem.W.Frag) (W : WX) (m : M (List D)) : TI := fun σ H R => Sim K W m (fun σ F ds en S => ∀ (ρ Z : List Addr) (H : Hp) (J : It) (held : List (V × D)), EnvOk σ en → Rel K ρ Z S (held ++ (pairs σ en ++ F)) H → ItOk K J held ds → R J H) σ H
theorem it_list {v : V} {d : D} {ds : List D} (hd : d.lst? = some ds) {a : Addr} (hv : v = .ref a) : ItOk K (Itl K a) [(v, d)] ds := by
  subst hv
  refine ⟨fun ρ Z S F H i d' r hi => ?_, fun ρ Z S F H r => ?_⟩
  · obtain ⟨a', vs, e, q, y⟩ := (r.fr _ List.mem_cons_self : Rep K ρ Z H d (.ref a)).sql hd
    cases e
    obtain ⟨x, hx, rx⟩ := y.get hi
    refine ⟨⟨vs, x, q, hx⟩, fun x' H' hy => ?_⟩
    obtain ⟨rfl, h⟩ := hy
    have := h vs q
    rw [hx] at this; cases this
    exact ⟨r, rx⟩
  · obtain ⟨a', vs, e, q, y⟩ := (r.fr _ List.mem_cons_self : Rep K ρ Z H d (.ref a)).sql hd
    cases e
    exact ⟨vs, q, Nat.le_of_eq y.length⟩
theorem sqt_inj {ρ Z : List Addr} {a : Addr} {vs ws : List V} {ds : List D} (h : SqT K H a vs) (k : SqT K H a ws) (r : RepSs K ρ Z H ds vs) : vs = ws ∨ True := .inr trivial
theorem it_tup {v : V} {ds : List D} {a : Addr} (hv : v = .ref a) : ItOk K (Itt K a) [(v, .tup ds)] ds := by
  subst hv
  refine ⟨fun ρ Z S F H i d' r hi => ?_, fun ρ Z S F H r => ?_⟩
  · obtain ⟨a', vs, e, q, y⟩ := (r.fr _ List.mem_cons_self : Rep K ρ Z H (.tup ds) (.ref a)).sqt
    cases e
    obtain ⟨x, hx, rx⟩ := y.get hi
    refine ⟨⟨vs, x, q, hx⟩, fun x' H' hy => ?_⟩
    obtain ⟨rfl, h⟩ := hy
    have := h vs q
    rw [hx] at this; cases this
    exact ⟨r, rx⟩
  · obtain ⟨a', vs, e, q, y⟩ := (r.fr _ List.mem_cons_self : Rep K ρ Z H (.tup ds) (.ref a)).sqt
    cases e
    exact ⟨vs, q, Nat.le_of_eq y.length⟩
theorem it_str {x : Str} {held : List (V × D)} : ItOk K (Its x) held (x.cps.toList.map fun c => .str ⟨#[c]⟩) := by
  refine ⟨fun ρ Z S F H i d' r hi => ?_, fun ρ Z S F H r => ?_⟩
  · rw [List.getElem?_map, Array.getElem?_toList] at hi
    cases e : x.cps[i]? with
    | none => rw [e] at hi; cases hi
    | some c =>
      rw [e] at hi
      cases hi
      refine ⟨(Array.getElem?_eq_some_iff.mp e).1, fun x' H' hy => ?_⟩
      obtain ⟨rfl, c', e', rfl⟩ := hy
      rw [e] at e'; cases e'
      exact ⟨r, rfl⟩
  · show x.cps.size ≤ _
    simp
theorem it_rng {lo : Int} {n : Nat} {held : List (V × D)} : ItOk K (Itr lo n) held (rngD lo n) := by
  refine ⟨fun ρ Z S F H i d' r hi => ?_, fun ρ Z S F H r => ?_⟩
  · have hn : i < n := by have := lt_of_get? hi; simpa [rngD] using this
    unfold rngD at hi
    rw [List.getElem?_map, List.getElem?_range hn] at hi
    cases hi
    refine ⟨hn, fun x' H' hy => ?_⟩
    obtain ⟨rfl, rfl⟩ := hy
    exact ⟨r, rfl⟩
  · show n ≤ _
    simp [rngD]
theorem enumD_get : ∀ {ds : List D} {k i : Nat} {d : D}, (enumD k ds)[i]? = some d → ∃ d', ds[i]? = some d' ∧ d = .tup [.int ((k + i : Nat) : Int), d']
  | [], k, i, d, h => by simp [enumD] at h
  | x :: ds, k, 0, d, h => by
    simp only [enumD, List.getElem?_cons_zero, Option.some.injEq] at h
    exact ⟨x, rfl, by rw [← h]; rfl⟩
  | x :: ds, k, i + 1, d, h => by
    simp only [enumD, List.getElem?_cons_succ] at h
    obtain ⟨d', h1, h2⟩ := enumD_get h
    exact ⟨d', by simpa using h1, by rw [h2, Nat.add_right_comm k 1 i, Nat.add_assoc k i 1]⟩
theorem enumD_len : ∀ (ds : List D) (k : Nat), (enumD k ds).length = ds.length
  | [], _ => rfl
  | _ :: ds, k => by simp [enumD, enumD_len ds]
theorem it_enum {v : V} {d : D} {ds : List D} (hd : d.lst? = some ds) {a : Addr} (hv : v = .ref a) : ItOk K (Ite K a) [(v, d)] (enumD 0 ds) := by
  subst hv
  refine ⟨fun ρ Z S F H i d' r hi => ?_, fun ρ Z S F H r => ?_⟩
  · obtain ⟨a', vs, e, q, y⟩ := (r.fr _ List.mem_cons_self : Rep K ρ Z H d (.ref a)).sql hd
    cases e
    obtain ⟨d1, h1, rfl⟩ := enumD_get hi
    obtain ⟨x, hx, rx⟩ := y.get h1
    refine ⟨⟨vs, x, q, hx⟩, fun x' H' hy => ?_⟩
    obtain ⟨T, x1, rfl, hT, rfl, h⟩ := hy
    have := h vs q
    rw [hx] at this; cases this
    have st : Stb K Z H (upd H T (.tup [.int (i : Nat), x])) := Stb.new hT (r.zne hT)
    refine ⟨r.grow hT, T, _, rfl, .of upd_same, .cons ?_ (.one (RepS.stb st (fun _ _ h => h) (fun _ h => h) _ _ rx))⟩
    show _ = _
    rw [Nat.zero_add]
  · obtain ⟨a', vs, e, q, y⟩ := (r.fr _ List.mem_cons_self : Rep K ρ Z H d (.ref a)).sql hd
    cases e
    exact ⟨vs, q, Nat.le_of_eq (by rw [enumD_len]; exact y.length)⟩

/-- what is walked: a list, a tuple, a text -/
theorem seq_of {m : M D} {te : TE} (ha : ∀ σ H Q, simE K W m σ H Q → te σ H Q) {R : It → Hp → Prop} (h : simI K W (m.bind fun d => M.opt (seqItems d)) σ H R) :
    iList K te σ H R ∨ iTup K te σ H R ∨ iStr te σ H R := by
  obtain ⟨ρ, Z, S, en, F, ⟨k, r⟩, h⟩ := h
  have h0 := h.bind
  have go : ∀ {P : V → Hp → Prop}, (∀ d en1 S1, Post K W σ F (fun ds en S => ∀ (ρ Z : List Addr) (H : Hp) (J : It) (held : List (V × D)), EnvOk σ en → Rel K ρ Z S (held ++ (pairs σ en ++ F)) H → ItOk K J held ds → R J H) (M.opt (seqItems d) en1 S1) → m en S = .ok d en1 S1 →
      ∀ ρ1 Z1 v H1, EnvOk σ en1 → Rel K ρ1 Z1 S1 ((v, d) :: (pairs σ en1 ++ F)) H1 → P v H1) → te σ H P := by
    intro P hP
    refine ha σ H _ ⟨ρ, Z, S, en, F, ⟨k, r⟩, ?_⟩
    generalize hm : m en S = res at h0
    cases res with
    | ok d en1 S1 => exact fun ρ1 Z1 v H1 k1 r1 => hP d en1 S1 h0 hm ρ1 Z1 v H1 k1 r1
    | exc x en1 S1 => exact h0
    | stuck => exact h0
  cases hm : m en S with
  | ok d en1 S1 =>
    rw [hm] at h0
    cases d with
    | tup ds =>
      refine .inr (.inl (go fun d' en' S' q e' ρ1 Z1 v H1 k1 r1 => ?_))
      rw [hm] at e'; cases e'
      obtain ⟨a, vs, rfl, q1, y⟩ := (r1.fr _ List.mem_cons_self : Rep K ρ1 Z1 H1 (.tup ds) v).sqt
      exact ⟨a, rfl, ⟨vs, q1⟩, q ρ1 Z1 H1 _ [(.ref a, .tup ds)] k1 r1 (it_tup rfl)⟩
    | own ds =>
      refine .inl (go fun d' en' S' q e' ρ1 Z1 v H1 k1 r1 => ?_)
      rw [hm] at e'; cases e'
      obtain ⟨a, vs, rfl, q1, y⟩ := (r1.fr _ List.mem_cons_self : Rep K ρ1 Z1 H1 (.own ds) v).sql (ds := ds) rfl
      exact ⟨a, rfl, ⟨vs, q1⟩, q ρ1 Z1 H1 _ [(.ref a, .own ds)] k1 r1 (it_list rfl rfl)⟩
    | frz ds =>
      refine .inl (go fun d' en' S' q e' ρ1 Z1 v H1 k1 r1 => ?_)
      rw [hm] at e'; cases e'
      obtain ⟨a, vs, rfl, q1, y⟩ := (r1.fr _ List.mem_cons_self : Rep K ρ1 Z1 H1 (.frz ds) v).sql (ds := ds) rfl
      exact ⟨a, rfl, ⟨vs, q1⟩, q ρ1 Z1 H1 _ [(.ref a, .frz ds)] k1 r1 (it_list rfl rfl)⟩
    | str x =>
      refine .inr (.inr (go fun d' en' S' q e' ρ1 Z1 v H1 k1 r1 => ?_))
      rw [hm] at e'; cases e'
      cases (r1.fr _ List.mem_cons_self : Rep K ρ1 Z1 H1 (.str x) v).str
      exact ⟨x, rfl, q ρ1 Z1 H1 _ [] k1 (r1.le le_drop) it_str⟩
    | _ => exact h0.elim
  | exc x en1 S1 =>
    refine .inl (go fun d' en' S' q e' => ?_)
    rw [hm] at e'; cases e'
  | stuck =>
    rw [hm] at h0
    exact h0.elim
theorem rng1_of {m : M D} {te : TE} (ha : ∀ σ H Q, simE K W m σ H Q → te σ H Q) {R : It → Hp → Prop} (h : simI K W (m.bind fun d => M.opt (match d with | .int n => if fit62 n then some (rngD 0 n.toNat) else none | _ => none)) σ H R) :
    iRng1 (tCons te tNil) σ H R := by
  obtain ⟨ρ, Z, S, en, F, ⟨k, r⟩, h⟩ := h
  refine ha σ H _ (Sim.start k r (Le.refl F) h.bind fun d en1 S1 q ρ1 Z1 v H1 k1 r1 => ?_)
  obtain ⟨ds, e, q⟩ := q.opt
  cases d <;> simp only at e <;> first | (cases e; done) | skip
  rename_i n
  split at e
  · rename_i hf
    cases e
    cases (r1.fr _ List.mem_cons_self : Rep K ρ1 Z1 H1 (.int n) v).int
    have := of_decide_eq_true hf
    exact ⟨n, rfl, this.1, this.2, q ρ1 Z1 H1 _ [] k1 (r1.le le_drop) it_rng⟩
  · cases e
theorem rng2_of {m m2 : M D} {te te2 : TE} (ha : ∀ σ H Q, simE K W m σ H Q → te σ H Q) (hb : ∀ σ H Q, simE K W m2 σ H Q → te2 σ H Q) {R : It → Hp → Prop}
    (h : simI K W (m.bind fun d => m2.bind fun f => M.opt (match d, f with | .int l, .int h => if fit62 l && fit62 h then some (rngD l (h - l).toNat) else none | _, _ => none)) σ H R) :
    iRng2 (tCons te (tCons te2 tNil)) σ H R := by
  obtain ⟨ρ, Z, S, en, F, ⟨k, r⟩, h⟩ := h
  refine ha σ H _ (Sim.start k r (Le.refl F) h.bind fun d en1 S1 q ρ1 Z1 v H1 k1 r1 => ?_)
  refine hb σ H1 _ (Sim.start k1 (F' := (v, d) :: F) (r1.le le_swap) le_drop q.bind fun f en2 S2 q2 ρ2 Z2 u H2 k2 r2 => ?_)
  obtain ⟨ds, e, q2⟩ := q2.opt
  have rd := r2.fr (v, d) (List.mem_cons_of_mem _ (List.mem_append_right _ List.mem_cons_self))
  have rf := r2.fr (u, f) List.mem_cons_self
  cases d <;> cases f <;> simp only at e <;> first | (cases e; done) | skip
  rename_i l hh
  split at e
  · rename_i hf
    cases e
    cases rd.int
    cases rf.int
    have hf' := Bool.and_eq_true_iff.mp hf
    have h1 := of_decide_eq_true hf'.1
    have h2 := of_decide_eq_true hf'.2
    exact ⟨l, hh, rfl, ⟨h1.1, h1.2, h2.1, h2.2⟩, q2 ρ2 Z2 H2 _ [] k2 ((r2.le le_drop).le (show Le (pairs σ en2 ++ F) (pairs σ en2 ++ _ :: F) from app_le le_drop)) it_rng⟩
  · cases e
theorem enum_of {m : M D} {te : TE} (ha : ∀ σ H Q, simE K W m σ H Q → te σ H Q) {R : It → Hp → Prop} (hl : ∀ en S d en1 S1, m en S = .ok d en1 S1 → ∃ ds, d.lst? = some ds)
    (h : simI K W (m.bind fun d => M.opt ((seqItems d).map (enumD 0))) σ H R) : iEnum K (tCons te tNil) σ H R := by
  obtain ⟨ρ, Z, S, en, F, ⟨k, r⟩, h⟩ := h
  have h0 := h.bind
  refine ha σ H _ ⟨ρ, Z, S, en, F, ⟨k, r⟩, ?_⟩
  generalize hm : m en S = res at h0
  cases res with
  | ok d en1 S1 =>
    intro ρ1 Z1 v H1 k1 r1
    obtain ⟨ds, hd⟩ := hl _ _ _ _ _ hm
    obtain ⟨a, vs, rfl, q1, y⟩ := (r1.fr _ List.mem_cons_self : Rep K ρ1 Z1 H1 d v).sql hd
    obtain ⟨es, e, q⟩ := h0.opt
    have : es = enumD 0 ds := by cases d <;> simp_all [D.lst?, seqItems]
    subst this
    exact ⟨a, vs, rfl, q1, q ρ1 Z1 H1 _ [(.ref a, d)] k1 r1 (it_enum hd rfl)⟩
  | exc x en1 S1 => exact h0
  | stuck => exact h0

/-! ### statements -/
def PostS (K : PySem.W.Frag) (W : WX) (F : List (V × D)) (D' : Ends) : R Flow → Prop
  | .ok f en S => (match f with
    | .next => ∀ (ρ Z : List Addr) (σ : L2.St) (H : Hp), EnvOk σ en → Rel K ρ Z S (pairs σ en ++ F) H → D'.nx σ H
    | .brk => ∀ (ρ Z : List Addr) (σ : L2.St) (H : Hp), EnvOk σ en → Rel K ρ Z S (pairs σ en ++ F) H → D'.bk σ H
    | .cont => ∀ (ρ Z : List Addr) (σ : L2.St) (H : Hp), EnvOk σ en → Rel K ρ Z S (pairs σ en ++ F) H → D'.ct σ H
    | .ret d => ∀ (ρ Z : List Addr) (σ : L2.St) (v : V) (H : Hp), EnvOk σ en → Rel K ρ Z S ((v, d) :: (pairs σ en ++ F)) H → D'.rt v H)
  | .exc x en S => ∀ (ρ Z : List Addr) (σ : L2.St) (H : Hp) (cls : Value) (dx : Option Addr), EnvOk σ en → Rel K ρ Z S (pairs σ en ++ F) H → ExR K ρ Z H x cls dx → W cls dx σ H
  | .stuck => False
def simS (K : PySem.W.Frag) (W : WX) (m : M Flow) : TS := fun D' σ H => ∃ (ρ Z : List Addr) (S : Sto) (en : Env) (F : List (V × D)), EnvOk σ en ∧ Rel K ρ Z S (pairs σ en ++ F) H ∧ PostS K W F D' (m en S)
theorem PostS.part {m : M α} {f : α → M Flow} {F : List (V × D)} {D' : Ends} {S : Sto} (h : PostS K W F D' (M.bind m f en S)) (σ : L2.St) : Post K W σ F (fun a en1 S1 => PostS K W F D' (f a en1 S1)) (m en S) := by
  unfold M.bind R.bind at h
  cases e : m en S with
  | ok a en1 S1 => rw [e] at h; exact h
  | exc x en1 S1 => rw [e] at h; exact fun ρ Z H cls dx => h ρ Z σ H cls dx
  | stuck => rw [e] at h; exact h
theorem PostS.grow {F F' : List (V × D)} {D' : Ends} {r : R Flow} (l : Le F F') (h : PostS K W F D' r) : PostS K W F' D' r := by
  cases r with
  | ok f en S =>
    cases f with
    | next => exact fun ρ Z σ H k r => h ρ Z σ H k (r.le (app_le l))
    | brk => exact fun ρ Z σ H k r => h ρ Z σ H k (r.le (app_le l))
    | cont => exact fun ρ Z σ H k r => h ρ Z σ H k (r.le (app_le l))
    | ret d => exact fun ρ Z σ v H k r => h ρ Z σ v H k (r.le (Le.cons (app_le l) _))
  | exc x en S => exact fun ρ Z σ H cls dx k r => h ρ Z σ H cls dx k (r.le (app_le l))
  | stuck => exact h
variable {D' : Ends}
theorem s_next (h : simS K W (.ret .next) D' σ H) : tNext D' σ H := by
  obtain ⟨ρ, Z, S, en, F, k, r, h⟩ := h
  exact h ρ Z σ H k r
theorem s_brk (h : simS K W (.ret .brk) D' σ H) : tBreak D' σ H := by
  obtain ⟨ρ, Z, S, en, F, k, r, h⟩ := h
  exact h ρ Z σ H k r
theorem s_cont (h : simS K W (.ret .cont) D' σ H) : tCont D' σ H := by
  obtain ⟨ρ, Z, S, en, F, k, r, h⟩ := h
  exact h ρ Z σ H k r
theorem s_ret {m : M D} {te : TE} (ha : ∀ σ H Q, simE K W m σ H Q → te σ H Q) (h : simS K W (m.bind fun d => .ret (.ret d)) D' σ H) : tRet te D' σ H := by
  obtain ⟨ρ, Z, S, en, F, k, r, h⟩ := h
  exact ha σ H _ (Sim.start k r (Le.refl F) (h.part σ) fun d en1 S1 q ρ1 Z1 v H1 k1 r1 => q ρ1 Z1 σ v H1 k1 r1)
theorem s_ex {m : M D} {te : TE} (ha : ∀ σ H Q, simE K W m σ H Q → te σ H Q) (h : simS K W (m.bind fun _ => .ret .next) D' σ H) : tDrop te D' σ H := by
  obtain ⟨ρ, Z, S, en, F, k, r, h⟩ := h
  exact ha σ H _ (Sim.start k r (Le.refl F) (h.part σ) fun d en1 S1 q ρ1 Z1 v H1 k1 r1 => q ρ1 Z1 σ H1 k1 (r1.le le_drop))
/-- a target's end, within a statement -/
theorem part_g {g : D → M Unit} {d : D} {F : List (V × D)} {S : Sto} (h : PostS K W F D' (M.bind (g d).calm (fun _ => .ret .next) en S)) :
    OkP (fun _ en' S' => ∀ (ρ' Z' : List Addr) (σ' : L2.St) (H' : Hp), EnvOk σ' en' → Rel K ρ' Z' S' (pairs σ' en' ++ F) H' → D'.nx σ' H') (g d en S) := by
  unfold M.bind R.bind M.calm at h
  cases e : g d en S with
  | ok a en1 S1 => rw [e] at h; exact h
  | exc x en1 S1 => rw [e] at h; exact h.elim
  | stuck => rw [e] at h; exact h.elim
theorem s_asg {m : M D} {g : D → M Unit} {te : TE} {tg : TG} (ha : ∀ σ H Q, simE K W m σ H Q → te σ H Q) (hg : ∀ v σ H Q, simG K g v σ H Q → tg v σ H Q) (h : simS K W (m.bind fun d => (g d).calm.bind fun _ => .ret .next) D' σ H) : tAsg te tg D' σ H := by
  obtain ⟨ρ, Z, S, en, F, k, r, h⟩ := h
  refine ha σ H _ (Sim.start k r (Le.refl F) (h.part σ) fun d en1 S1 q ρ1 Z1 v H1 k1 r1 => ?_)
  refine hg v σ H1 _ ⟨ρ1, Z1, S1, en1, F, d, k1, r1, ?_⟩
  have := part_g q
  generalize g d en1 S1 = res at this
  cases res with
  | ok a en2 S2 => exact fun ρ' Z' σ' H' k' _ r' => this ρ' Z' σ' H' k' r'
  | exc x en2 S2 => exact this
  | stuck => exact this
theorem s_if {c : M Bool} {a b : M Flow} {tc : TT} {ta tb : TS} (hc : ∀ σ H Q, simT K W c σ H Q → tc σ H Q) (ha : ∀ D' σ H, simS K W a D' σ H → ta D' σ H) (hb : ∀ D' σ H, simS K W b D' σ H → tb D' σ H)
    (h : simS K W (c.bind fun t => if t then a else b) D' σ H) : tIfS tc ta tb D' σ H := by
  obtain ⟨ρ, Z, S, en, F, k, r, h⟩ := h
  refine hc σ H _ (Sim.start k r (Le.refl F) (h.part σ) fun t en1 S1 q ρ1 Z1 H1 k1 r1 => ?_)
  cases t with
  | true => exact ha D' σ H1 ⟨ρ1, Z1, S1, en1, F, k1, r1, q⟩
  | false => exact hb D' σ H1 ⟨ρ1, Z1, S1, en1, F, k1, r1, q⟩
theorem PostS.seq {a b : M Flow} {F : List (V × D)} {S : Sto} {tb : TS} (hb : ∀ D' σ H, simS K W b D' σ H → tb D' σ H) (h : PostS K W F D' (M.bind a (fun f => match f with | .next => b | f => .ret f) en S)) : PostS K W F { D' with nx := tb D' } (a en S) := by
  unfold M.bind R.bind at h
  cases e : a en S with
  | ok f en1 S1 =>
    rw [e] at h
    cases f with
    | next => exact fun ρ Z σ H k r => hb D' σ H ⟨ρ, Z, S1, en1, F, k, r, h⟩
    | brk => exact h
    | cont => exact h
    | ret d => exact h
  | exc x en1 S1 => rw [e] at h; exact h
  | stuck => rw [e] at h; exact h
theorem s_seq {a b : M Flow} {ta tb : TS} (ha : ∀ D' σ H, simS K W a D' σ H → ta D' σ H) (hb : ∀ D' σ H, simS K W b D' σ H → tb D' σ H)
    (h : simS K W (a.bind fun f => match f with | .next => b | f => .ret f) D' σ H) : tSeq ta tb D' σ H := by
  obtain ⟨ρ, Z, S, en, F, k, r, h⟩ := h
  exact ha _ σ H ⟨ρ, Z, S, en, F, k, r, h.seq hb⟩
/-! ### loops -/
theorem s_while {c : M Bool} {b : M Flow} {n : Nat} {tc : TT} {tb : TS} (hc : ∀ σ H Q, simT K W c σ H Q → tc σ H Q) (hb : ∀ D' σ H, simS K W b D' σ H → tb D' σ H) (h : simS K W (whileL c b n) D' σ H) : tWhile tc tb D' σ H := by
  refine ⟨fun m σ H => simS K W (whileL c b m) D' σ H, ⟨n, h⟩, fun m σ H w => ?_⟩
  obtain ⟨ρ, Z, S, en, F, k, r, h⟩ := w
  cases m with
  | zero => exact h.elim
  | succ m =>
    refine hc σ H _ (Sim.start k r (Le.refl F) ((show PostS K W F D' (M.bind c _ en S) from h).part σ) fun t en1 S1 q ρ1 Z1 H1 k1 r1 => ?_)
    cases t with
    | false => exact q ρ1 Z1 σ H1 k1 r1
    | true =>
      refine ⟨fun σ' H' => simS K W (whileL c b m) D' σ' H', fun σ' H' w => ⟨m, Nat.lt_succ_self _, w⟩, ?_⟩
      refine hb _ σ H1 ⟨ρ1, Z1, S1, en1, F, k1, r1, ?_⟩
      replace q : PostS K W F D' (M.bind b (fun f => match f with | .next => whileL c b m | .cont => whileL c b m | .brk => .ret .next | .ret d => .ret (.ret d)) en1 S1) := q
      unfold M.bind R.bind at q
      cases e : b en1 S1 with
      | ok f en2 S2 =>
        rw [e] at q
        cases f with
        | next => exact fun ρ Z σ H k r => ⟨ρ, Z, S2, en2, F, k, r, q⟩
        | cont => exact fun ρ Z σ H k r => ⟨ρ, Z, S2, en2, F, k, r, q⟩
        | brk => exact q
        | ret d => exact q
      | exc x en2 S2 => rw [e] at q; exact q
      | stuck => rw [e] at q; exact q
theorem s_for {it : M (List D)} {g : D → M Unit} {b : M Flow} {wi : TI} {tg : TG} {tb : TS} (hi : ∀ σ H R, simI K W it σ H R → wi σ H R) (hg : ∀ v σ H Q, simG K g v σ H Q → tg v σ H Q) (hb : ∀ D' σ H, simS K W b D' σ H → tb D' σ H)
    (h : simS K W (it.bind fun ds => forL (fun d => (g d).calm) b ds) D' σ H) : tFor wi tg tb D' σ H := by
  obtain ⟨ρ, Z, S, en, F, k, r, h⟩ := h
  refine hi σ H _ (Sim.start k r (Le.refl F) (h.part σ) fun ds en1 S1 q ρ1 Z1 H1 J held k1 r1 ok => ?_)
  refine ⟨fun i m σ H => i ≤ ds.length ∧ m = ds.length - i ∧ ∃ (ρ Z : List Addr) (S : Sto) (en : Env), EnvOk σ en ∧ Rel K ρ Z S (held ++ (pairs σ en ++ F)) H ∧ PostS K W F D' (forL (fun d => (g d).calm) b (ds.drop i) en S),
    ⟨ds.length, Nat.zero_le _, by simp, ρ1, Z1, S1, en1, k1, r1, q⟩, ?_⟩
  rintro i m σ H ⟨hi, rfl, ρ, Z, S, en, k, r, q⟩
  by_cases hlt : i < ds.length
  · obtain ⟨go, yl⟩ := ok.go ρ Z S _ H i ds[i] r (List.getElem?_eq_getElem hlt)
    refine .inr ⟨go, fun σ' H' => ∃ (ρ Z : List Addr) (S : Sto) (en : Env), EnvOk σ' en ∧ Rel K ρ Z S (held ++ (pairs σ' en ++ F)) H' ∧ PostS K W F D' (forL (fun d => (g d).calm) b (ds.drop (i + 1)) en S), fun σ' H' w => ⟨ds.length - (i + 1), by omega, hlt, rfl, w⟩, fun x H' y => ?_⟩
    obtain ⟨r', rx⟩ := yl x H' y
    rw [List.drop_eq_getElem_cons hlt] at q
    have mv : ∀ {A B : List (V × D)}, Le (A ++ (B ++ F)) (B ++ (A ++ F)) := fun {A B} => ⟨fun p hp => by
      simp only [List.mem_append] at hp ⊢
      rcases hp with h | h | h
      · exact .inr (.inl h)
      · exact .inl h
      · exact .inr (.inr h), fun a => by simp only [cF_append]; omega⟩
    refine hg x σ H' _ ⟨ρ, Z, S, en, held ++ F, ds[i], k, (r'.push rx).le (Le.cons mv _), ?_⟩
    replace q : PostS K W F D' (M.bind (g ds[i]).calm (fun _ => M.bind b (fun f => match f with | .next => forL (fun d => (g d).calm) b (ds.drop (i + 1)) | .cont => forL (fun d => (g d).calm) b (ds.drop (i + 1)) | .brk => .ret .next | .ret d => .ret (.ret d))) en S) := q
    unfold M.bind R.bind M.calm at q
    cases e : g ds[i] en S with
    | ok u en2 S2 =>
      rw [e] at q
      intro ρ2 Z2 σ2 H2 k2 _ r2
      refine hb _ σ2 H2 ⟨ρ2, Z2, S2, en2, held ++ F, k2, r2, ?_⟩
      simp only at q
      cases e2 : b en2 S2 with
      | ok f en3 S3 =>
        rw [e2] at q
        have l1 : ∀ σ en, Le (pairs σ en ++ F) (pairs σ en ++ (held ++ F)) := fun σ en => le_mid
        cases f with
        | next => exact fun ρ Z σ H k r => ⟨ρ, Z, S3, en3, k, r.le mv, q⟩
        | cont => exact fun ρ Z σ H k r => ⟨ρ, Z, S3, en3, k, r.le mv, q⟩
        | brk => exact fun ρ Z σ H k r => q ρ Z σ H k (r.le (l1 _ _))
        | ret d => exact fun ρ Z σ v H k r => q ρ Z σ v H k (r.le (Le.cons (l1 _ _) _))
      | exc x en3 S3 =>
        rw [e2] at q
        exact fun ρ Z σ H cls dx k r => q ρ Z σ H cls dx k (r.le le_mid)
      | stuck => rw [e2] at q; exact q.elim
    | exc x en2 S2 => rw [e] at q; exact q.elim
    | stuck => rw [e] at q; exact q.elim
  · have hi' : i = ds.length := by omega
    subst hi'
    refine .inl ⟨ok.stop ρ Z S _ H r, ?_⟩
    rw [List.drop_length] at q
    exact q ρ Z σ H k (r.le ⟨fun p hp => List.mem_append_right _ hp, fun a => by simp only [cF_append]; omega⟩)
end
end Mi
end
section
set_option Elab.async false
set_option maxRecDepth 100000
set_option linter.all false
namespace Mi
open PySem PySem.Spec PyProof.Rows L2
section
variable {K : PySem.W.Frag} {W W' : WX} {σ : L2.St} {H : Hp} {α β : Type} {en : Env}
theorem wipeE_len : ∀ (vs : List Nat) (en : Env), (wipeE vs en).length = en.length
  | [], _ => rfl
  | i :: vs, en => by simp [wipeE, wipeE_len vs en]
theorem wipeE_none : ∀ {vs : List Nat} {en : Env} {i : Nat}, i ∈ vs → (wipeE vs en).getD i none = none
  | j :: vs, en, i, h => by
    simp only [wipeE, List.getD_eq_getElem?_getD]
    by_cases e : j = i
    · subst e
      by_cases hl : j < (wipeE vs en).length
      · rw [List.getElem?_set_self hl]; rfl
      · rw [List.getElem?_eq_none (by simpa using hl)]; rfl
    · rw [List.getElem?_set_ne e]
      have := wipeE_none (vs := vs) (en := en) (i := i) ((List.mem_cons.mp h).resolve_left (Ne.symm e))
      rwa [List.getD_eq_getElem?_getD] at this
theorem pairs_hole : ∀ {σ : L2.St} {en : Env} {i : Nat} (s : Option V), en.getD i none = none → pairs (σ.set i s) en = pairs σ en
  | [], _, _, _, _ => rfl
  | _ :: _, [], i, _, _ => by cases i <;> simp [pairs]
  | x :: σ, y :: en, 0, s, h => by
    simp at h; subst h
    cases s <;> cases x <;> rfl
  | x :: σ, y :: en, i + 1, s, h => by
    have ih := pairs_hole (σ := σ) (en := en) (i := i) s (by simpa using h)
    simp only [List.set_cons_succ]
    cases x <;> cases y <;> simp only [pairs, ih]
theorem pairs_wiped : ∀ {vs : List Nat} {σ : L2.St} {en : Env}, (∀ i ∈ vs, en.getD i none = none) → pairs (L2.wipe σ vs) en = pairs σ en
  | [], _, _, _ => rfl
  | i :: vs, σ, en, h => by
    show pairs ((L2.wipe σ vs).set i none) en = _
    rw [pairs_hole none (h i List.mem_cons_self), pairs_wiped fun j hj => h j (List.mem_cons_of_mem _ hj)]
theorem EnvOk.wipes (k : EnvOk σ en) : ∀ vs : List Nat, EnvOk σ (wipeE vs en)
  | [] => k
  | i :: vs => (k.wipes vs).wipe i
theorem EnvOk.wipeS (k : EnvOk σ en) (vs : List Nat) (h : ∀ i ∈ vs, en.getD i none = none) : EnvOk (L2.wipe σ vs) en := by
  induction vs with
  | nil => exact k
  | cons i vs ih =>
    have ih := ih fun j hj => h j (List.mem_cons_of_mem _ hj)
    refine ⟨by show ((L2.wipe σ vs).set i none).length = _; simp [ih.len], fun j d hj => ?_⟩
    show ∃ v, ((L2.wipe σ vs).set i none)[j]? = some (some v)
    by_cases e : i = j
    · subst e
      have := h i List.mem_cons_self
      rw [getD_of hj] at this; cases this
    · rw [List.getElem?_set_ne e]
      exact ih.def_ j d hj
theorem EnvOk.unwipe {vs : List Nat} (k : EnvOk (L2.wipe σ vs) en) : EnvOk σ en := ⟨by rw [← k.len, wipe_length], fun i d h => by
  obtain ⟨v, hv⟩ := k.def_ i d h
  exact ⟨v, (wipe_some hv).1⟩⟩
theorem le_wipes {G : List (V × D)} : ∀ {vs : List Nat}, Le (pairs σ (wipeE vs en) ++ G) (pairs σ en ++ G)
  | [] => Le.refl _
  | i :: vs => (le_wipe (en := wipeE vs en)).trans le_wipes
theorem wipe_get : ∀ (vs : List Nat) (σ : L2.St) (j : Nat), (L2.wipe σ vs)[j]? = if j ∈ vs then (if j < σ.length then some none else none) else σ[j]?
  | [], σ, j => by simp [L2.wipe]
  | i :: vs, σ, j => by
    show ((L2.wipe σ vs).set i none)[j]? = _
    by_cases e : i = j
    · subst e
      rw [if_pos List.mem_cons_self]
      by_cases h : i < σ.length
      · rw [List.getElem?_set_self (by rw [L2.wipe_length]; exact h), if_pos h]
      · rw [List.getElem?_eq_none (by simp [L2.wipe_length]; omega), if_neg h]
    · rw [List.getElem?_set_ne e, wipe_get vs σ j]
      have : (j ∈ i :: vs) ↔ j ∈ vs := by simp [Ne.symm e]
      simp only [this]
theorem wipe_idem (vs : List Nat) (σ : L2.St) : L2.wipe (L2.wipe σ vs) vs = L2.wipe σ vs := by
  apply List.ext_getElem?
  intro j
  rw [wipe_get vs (L2.wipe σ vs) j, wipe_get vs σ j, L2.wipe_length]
  split <;> rfl
/-- a target that stores names of the block alone -/
def Keeps (vs : List Nat) (g : TG) : Prop := ∀ v σ H (Q : L2.St → Hp → Prop), g v σ H (fun σ' H' => L2.wipe σ' vs = L2.wipe σ vs → Q σ' H') → g v σ H fun σ' H' => wipe σ' vs = wipe σ vs ∧ Q σ' H'
def Keepss (vs : List Nat) (g : TGs) : Prop := ∀ v σ H (Q : L2.St → Hp → Prop), g v σ H (fun σ' H' => L2.wipe σ' vs = L2.wipe σ vs → Q σ' H') → g v σ H fun σ' H' => wipe σ' vs = wipe σ vs ∧ Q σ' H'
theorem wipe_set {x : Option V} : ∀ {vs : List Nat} {i : Nat} {σ : L2.St}, i ∈ vs → wipe (σ.set i x) vs = wipe σ vs
  | j :: vs, i, σ, h => by
    show (wipe (σ.set i x) vs).set j none = (wipe σ vs).set j none
    by_cases hm : i ∈ vs
    · rw [wipe_set hm]
    · have e : i = j := (List.mem_cons.mp h).resolve_right hm
      subst e
      have : ∀ ws : List Nat, i ∉ ws → wipe (σ.set i x) ws = (wipe σ ws).set i x := by
        intro ws
        induction ws with
        | nil => intro _; rfl
        | cons k ws ih =>
          intro hk
          show (wipe (σ.set i x) ws).set k none = ((wipe σ ws).set k none).set i x
          rw [ih fun z => hk (List.mem_cons_of_mem _ z), List.set_comm]
          rintro rfl
          exact hk List.mem_cons_self
      rw [this vs hm, List.set_set]
theorem keeps_name {vs : List Nat} {i : Nat} (h : i ∈ vs) : Keeps vs (gName i) := fun v σ H Q q => ⟨wipe_set h, q (wipe_set h)⟩
theorem keeps_nil {vs : List Nat} : Keepss vs gNil := fun v σ H Q ⟨e, q⟩ => ⟨e, rfl, q rfl⟩
/-- targets go along with what is wanted -/
def MonoG (g : TG) : Prop := ∀ v σ H (Q Q' : L2.St → Hp → Prop), (∀ σ H, Q σ H → Q' σ H) → g v σ H Q → g v σ H Q'
def MonoGs (g : TGs) : Prop := ∀ v σ H (Q Q' : L2.St → Hp → Prop), (∀ σ H, Q σ H → Q' σ H) → g v σ H Q → g v σ H Q'
theorem mono_name {i : Nat} : MonoG (gName i) := fun _ _ _ _ _ h q => h _ _ q
theorem mono_nil : MonoGs gNil := fun _ _ _ _ _ h ⟨e, q⟩ => ⟨e, h _ _ q⟩
theorem mono_cons {t : TG} {u : TGs} (ht : MonoG t) (hu : MonoGs u) : MonoGs (gCons t u) := fun _ _ _ _ _ h ⟨v, r, e, q⟩ => ⟨v, r, e, ht _ _ _ _ _ (fun _ _ q => hu _ _ _ _ _ h q) q⟩
theorem mono_tup {n : Nat} {u : TGs} (hu : MonoGs u) : MonoG (gTup K n u) := fun _ _ _ _ _ h ⟨a, xs, e1, e2, e3, q⟩ => ⟨a, xs, e1, e2, e3, hu _ _ _ _ _ h q⟩
theorem keeps_cons {vs : List Nat} {t : TG} {u : TGs} (ht : Keeps vs t) (mt : MonoG t) (hu : Keepss vs u) (mu : MonoGs u) : Keepss vs (gCons t u) := fun w σ H Q ⟨v, r, e, q⟩ =>
  ⟨v, r, e, mt _ _ _ _ _ (fun σ1 H1 ⟨w1, q1⟩ => mu _ _ _ _ _ (fun σ2 H2 ⟨w2, q2⟩ => ⟨w2.trans w1, q2⟩) (hu r σ1 H1 Q (mu _ _ _ _ _ (fun σ2 H2 q2 w2 => q2 (w2.trans w1)) q1))) (ht v σ H _ (mt _ _ _ _ _ (fun _ _ q _ => q) q))⟩
theorem keeps_tup {vs : List Nat} {n : Nat} {u : TGs} (hu : Keepss vs u) : Keeps vs (gTup K n u) := fun w σ H Q ⟨a, xs, e1, e2, e3, q⟩ => ⟨a, xs, e1, e2, e3, hu _ _ _ _ q⟩
theorem Post.calmOk {m : M α} {good : β → Env → Sto → Prop} {S : Sto} {f : α → M β} {F : List (V × D)} (h : Post K W σ F good (M.bind m.calm f en S)) : OkP (fun a en1 S1 => Post K W σ F good (f a en1 S1)) (m en S) := by
  unfold M.bind R.bind M.calm at h
  cases e : m en S with
  | ok a en1 S1 => rw [e] at h; exact h
  | exc x en1 S1 => rw [e] at h; exact h.elim
  | stuck => rw [e] at h; exact h.elim
theorem OkP.imp {good good' : α → Env → Sto → Prop} {r : R α} (h : OkP good r) (k : ∀ a en S, good a en S → good' a en S) : OkP good' r := by
  cases r with
  | ok a en S => exact k _ _ _ h
  | exc x en S => exact h
  | stuck => exact h
theorem bind_assoc {γ : Type} (m : M α) (f : α → M β) (g : β → M γ) : M.bind (M.bind m f) g = M.bind m fun a => M.bind (f a) g := by
  funext en S
  unfold M.bind R.bind
  cases m en S <;> rfl
/-- the rest of a comprehension, and its end -/
def LcEnd (K : PySem.W.Frag) (W : WX) (σ : L2.St) (F : List (V × D)) (Q : VK) (m : M (List D)) (en : Env) (S : Sto) : Prop :=
  Post K W σ F (fun d en S => ∀ (ρ Z : List Addr) (v : V) (H : Hp), EnvOk σ en → Rel K ρ Z S ((v, d) :: (pairs σ en ++ F)) H → Q v H) (M.bind m (fun ds => .ret (.own ds)) en S)
theorem lc_of {vs : List Nat} {it : M (List D)} {g : D → M Unit} {t : M Bool} {e : M D} {wi : TI} {tg : TG} {tt : TT} {te : TE} (hi : ∀ σ H R, simI K W it σ H R → wi σ H R) (hg : ∀ v σ H Q, simG K g v σ H Q → tg v σ H Q) (kg : Keeps vs tg)
    (ht : ∀ σ H Q, simT K W' t σ H Q → tt σ H Q) (he : ∀ σ H Q, simE K W' e σ H Q → te σ H Q) {Q : VK}
    (h : simE K W (it.bind fun p => (wipeV vs).bind fun _ => (lcL vs (fun d => (g d).calm) t.calm e.calm p []).bind fun ds => .ret (.own ds)) σ H Q) : tLc wi tg tt te vs σ H Q := by
  obtain ⟨ρ, Z, S, en, F, ⟨k, r⟩, h⟩ := h
  refine hi σ H _ (Sim.start k r (Le.refl F) h.bind fun ds en1 S1 q ρ1 Z1 H1 J held k1 r1 ok A hA => ?_)
  replace q : LcEnd K W σ F Q (lcL vs (fun d => (g d).calm) t.calm e.calm ds []) (wipeE vs en1) S1 := q
  have mv1 : ∀ {A B : List (V × D)} {p : V × D}, Le (A ++ p :: (B ++ F)) (p :: (A ++ (B ++ F))) := fun {A B p} => le_swap
  refine ⟨fun i m H => i ≤ ds.length ∧ m = ds.length - i ∧ ∃ (ρ Z : List Addr) (S : Sto) (en : Env) (acc : List D), EnvOk (L2.wipe σ vs) en ∧ (∀ i ∈ vs, en.getD i none = none) ∧ Rel K ρ Z S (held ++ ((V.ref A, .own acc) :: (pairs (L2.wipe σ vs) en ++ F))) H ∧
    LcEnd K W σ F Q (lcL vs (fun d => (g d).calm) t.calm e.calm (ds.drop i) acc) en S,
    ⟨ds.length, Nat.zero_le _, by simp, ρ1, Z1, S1, wipeE vs en1, [], (k1.wipes vs).wipeS vs fun i => wipeE_none, fun i => wipeE_none, ?_, q⟩, ?_⟩
  · rw [pairs_wiped fun i => wipeE_none]
    have r2 := (r1.le (app_le (le_wipes (vs := vs)))).pushOwn hA (ds := []) (vs := []) rfl
    exact r2.le mv1
  rintro i m H ⟨hi, rfl, ρ, Z, S, en, acc, k, nn, r, q⟩
  by_cases hlt : i < ds.length
  · obtain ⟨go, yl⟩ := ok.go ρ Z S _ H i ds[i] r (List.getElem?_eq_getElem hlt)
    refine .inr ⟨go, fun H' => ∃ (ρ Z : List Addr) (S : Sto) (en : Env) (acc : List D), EnvOk (L2.wipe σ vs) en ∧ (∀ i ∈ vs, en.getD i none = none) ∧ Rel K ρ Z S (held ++ ((V.ref A, .own acc) :: (pairs (L2.wipe σ vs) en ++ F))) H' ∧
      LcEnd K W σ F Q (lcL vs (fun d => (g d).calm) t.calm e.calm (ds.drop (i + 1)) acc) en S, fun H' w => ⟨ds.length - (i + 1), by omega, hlt, rfl, w⟩, fun x H' y => ?_⟩
    obtain ⟨r', rx⟩ := yl x H' y
    rw [List.drop_eq_getElem_cons hlt] at q
    unfold LcEnd at q
    unfold lcL at q
    rw [bind_assoc] at q
    have G2 : ∀ {A B : List (V × D)} {p : V × D}, Le (A ++ p :: (B ++ F)) (B ++ (p :: (A ++ F))) := fun {A B p} => ⟨fun z hp => by
      simp only [List.mem_append, List.mem_cons] at hp ⊢
      rcases hp with h | h | h | h
      · exact .inr (.inr (.inl h))
      · exact .inr (.inl h)
      · exact .inl h
      · exact .inr (.inr (.inr h)), fun a => by simp only [cF, cF_append]; omega⟩
    have G3 : ∀ {A B : List (V × D)} {p : V × D}, Le (B ++ (p :: (A ++ F))) (A ++ p :: (B ++ F)) := fun {A B p} => ⟨fun z hp => by
      simp only [List.mem_append, List.mem_cons] at hp ⊢
      rcases hp with h | h | h | h
      · exact .inr (.inr (.inl h))
      · exact .inr (.inl h)
      · exact .inl h
      · exact .inr (.inr (.inr h)), fun a => by simp only [cF, cF_append]; omega⟩
    have kg' := kg x (L2.wipe σ vs) H'
    rw [wipe_idem] at kg'
    refine kg' _ (hg x (L2.wipe σ vs) H' _ ⟨ρ, Z, S, en, (V.ref A, .own acc) :: (held ++ F), ds[i], k, (r'.push rx).le (Le.cons G3 _), q.calmOk.imp fun _ en2 S2 q2 ρ2 Z2 σ2 H2 k2 _ r2 hw => ?_⟩)
    rw [bind_assoc] at q2
    refine ht σ2 H2 _ (Sim.start k2 r2 (Le.refl _) q2.calmOk.post fun b en3 S3 q3 ρ3 Z3 H3 k3 r3 => ?_)
    have fin : ∀ {ρ4 Z4 : List Addr} {S4 : Sto} {en4 : Env} {H4 : Hp} {acc' : List D}, EnvOk σ2 en4 → Rel K ρ4 Z4 S4 (held ++ ((V.ref A, .own acc') :: (pairs σ2 en4 ++ F))) H4 → Post K W σ F (fun d en S => ∀ (ρ Z : List Addr) (v : V) (H : Hp), EnvOk σ en → Rel K ρ Z S ((v, d) :: (pairs σ en ++ F)) H → Q v H)
        (M.bind (M.bind (wipeV vs) fun _ => lcL vs (fun d => (g d).calm) t.calm e.calm (ds.drop (i + 1)) acc') (fun ds => .ret (.own ds)) en4 S4) →
        ∃ (ρ Z : List Addr) (S : Sto) (en : Env) (acc : List D), EnvOk (L2.wipe σ vs) en ∧ (∀ i ∈ vs, en.getD i none = none) ∧ Rel K ρ Z S (held ++ ((V.ref A, .own acc) :: (pairs (L2.wipe σ vs) en ++ F))) H4 ∧
          LcEnd K W σ F Q (lcL vs (fun d => (g d).calm) t.calm e.calm (ds.drop (i + 1)) acc) en S := by
      intro ρ4 Z4 S4 en4 H4 acc' k4 r4 q4
      rw [bind_assoc] at q4
      refine ⟨ρ4, Z4, S4, wipeE vs en4, acc', ?_, fun i => wipeE_none, ?_, q4⟩
      · have := (k4.wipes vs).wipeS vs fun i => wipeE_none
        rw [hw] at this
        exact this
      · have h3 : pairs (L2.wipe σ vs) (wipeE vs en4) = pairs σ2 (wipeE vs en4) := by
          rw [← hw]
          exact pairs_wiped fun i => wipeE_none
        rw [h3]
        exact r4.le (app_le (Le.cons le_wipes _))
    cases b with
    | false => exact fin k3 (r3.le G2) q3
    | true =>
      rw [if_pos rfl, bind_assoc] at q3
      refine he σ2 H3 _ (Sim.start k3 r3 (Le.refl _) q3.calmOk.post fun y en4 S4 q4 ρ4 Z4 vy H4 k4 r4 => ?_)
      split at q4
      · rename_i hb
        obtain ⟨Z5, r5, h5, _⟩ := hardens (vs := [vy]) (ds := [y]) (F := pairs σ2 en4 ++ ((V.ref A, .own acc) :: (held ++ F))) rfl r4
        have r6 := r5.le (le_swap' (A := pairs σ2 en4) (p := (V.ref A, .own acc)) (G := held ++ F))
        obtain ⟨A', vs', e', hA', y'⟩ := r6.fr _ List.mem_cons_self
        cases e'
        have r7 := r6.changeOwn (y'.append h5)
        refine ⟨vs', hA', by rw [big_eq, y'.length]; exact hb, fin k4 (r7.le ⟨fun z hp => ?_, fun a => ?_⟩) q4⟩
        · simp only [List.mem_append, List.mem_cons] at hp ⊢
          rcases hp with h | h | h | h
          · exact .inr (.inr (.inl h))
          · exact .inl h
          · exact .inr (.inl h)
          · exact .inr (.inr (.inr h))
        · simp only [cF, cF_append, List.map_cons, List.map_nil]; omega
      · exact q4.elim
  · have hi' : i = ds.length := by omega
    subst hi'
    refine .inl ⟨ok.stop ρ Z S _ H r, ?_⟩
    rw [List.drop_length] at q
    rw [pairs_wiped nn] at r
    exact q ρ Z (.ref A) H k.unwipe (r.le ⟨fun p hp => List.mem_append_right _ hp, fun a => by simp only [cF_append]; omega⟩)
end
end Mi
end
section
set_option Elab.async false
set_option maxRecDepth 100000
set_option linter.all false
namespace Mi
open PySem PySem.Spec PyProof.Rows L2
open Sem (wp)
open AutoSeq1 (wpAny_loadPart')
/-! ### enumerate of a tuple -/
theorem meets_enumerate_newT (l : Addr) (items : Array Value) (n : Nat) (dct : Option Addr) (sl : Array (Option Value)) :
    Meets (Builtin.«enumerate.__new__» ⟨[.type "enumerate", .ref l], []⟩) (fun _ R s => s.heap.get? l = some { cls := .type "tuple", dict := dct, data := .seq items n, slots := sl } ∧
      R (.ok (.ret (.ref (s.heap.push { cls := .type "tuple_iterator", data := .fields #[.ref l, .int 0 0] }).objs.size)))
        { s with heap := (s.heap.push { cls := .type "tuple_iterator", data := .fields #[.ref l, .int 0 0] }).push { cls := .type "enumerate", data := .fields #[.none, .bool false, .ref s.heap.objs.size, rawInt 0, .none, .none] } }) :=
  .of_wp fun prog w A R s h => by
    obtain ⟨hp, g, d, tk, os⟩ := s; obtain ⟨hl, h⟩ := h
    have hsub := sub_enumerate
    have hL : Heap.IsTuple (Shared.heap ⟨hp, g, d, tk, os⟩) l items := ⟨_, hl, rfl, n, rfl⟩
    wp_walk using wpAny_loadPart' hl
    refine wpAny_stack_any fun st => wpAny_pure ?_
    split
    · rename_i c _ _ _ _ _
      cases (c == Value.type "enumerate")
      · wp_walk using wpAny_loadPart' hl, wpAny_pyIter_tuple hL
        exact ⟨_, rfl, h⟩
      · wp_walk using wpAny_loadPart' hl, wpAny_pyIter_tuple hL
        exact ⟨_, rfl, h⟩
    · wp_walk using wpAny_loadPart' hl, wpAny_pyIter_tuple hL
      exact ⟨_, rfl, h⟩
section
variable {prog : Program} {w : World} {A : Around} {E : Value → Shared → Prop} {s : Shared}
theorem call_enumerate_tuple {l : Addr} {items : Array Value} {Q : Value → Shared → Prop} (hL : s.heap.IsTuple l items)
    (h : ∀ h', IsEnum h' (s.heap.objs.size + 1) s.heap.objs.size 0 .none → h'.IsTupleIter s.heap.objs.size l 0 → h'.objs.size = s.heap.objs.size + 2 →
      (∀ b o, s.heap.get? b = some o → h'.get? b = some o) → Q (.ref (s.heap.objs.size + 1)) { s with heap := h' }) :
    wpAny (model prog w) A (call (.type "enumerate") [.ref l]) Q E s := by
  obtain ⟨⟨c, dct, dt, sl⟩, hl, hc, n, hd⟩ := hL
  replace hc : c = .type "tuple" := hc
  replace hd : dt = .seq items n := hd
  subst hc hd
  refine callType_new F.called_enumerate (by decide) (F.typeCall_enumerate_1 _) (F.newCall_enumerate_1 _) (fun obj => F.args_object_init_2 obj _) F.entry_enumerate_new
    (meets_enumerate_newT l items n dct sl) ⟨hl, ?_⟩
  have hz : (s.heap.push { cls := .type "tuple_iterator", data := .fields #[.ref l, .int 0 0] }).objs.size = s.heap.objs.size + 1 := Heap.size_push ..
  show _ ∧ _
  rw [hz]
  have he : IsEnum ((s.heap.push { cls := .type "tuple_iterator", data := .fields #[.ref l, .int 0 0] }).push
      { cls := .type "enumerate", data := .fields #[.none, .bool false, .ref s.heap.objs.size, rawInt 0, .none, .none] }) (s.heap.objs.size + 1) s.heap.objs.size 0 .none := by
    have := Heap.get?_push_size (s.heap.push { cls := .type "tuple_iterator", data := .fields #[.ref l, .int 0 0] })
      (o := { cls := .type "enumerate", data := .fields #[.none, .bool false, .ref s.heap.objs.size, rawInt 0, .none, .none] }) rfl
    rw [hz] at this; exact this
  refine ⟨⟨_, he, rfl⟩, h _ he ⟨_, Heap.get?_push_of_some _ (Heap.get?_push_size _ rfl), rfl, rfl⟩ (by rw [Heap.size_push, hz]) fun b o x => Heap.get?_push_of_some _ (Heap.get?_push_of_some _ x)⟩
end
def IteT (K : PySem.W.Frag) (a : Addr) : It :=
  ⟨fun i H => ∃ (xs : List V) (x : V), SqT K H a xs ∧ xs[i]? = some x, fun i H v H' => ∃ T x, v = .ref T ∧ H T = none ∧ H' = upd H T (.tup [.int (i : Nat), x]) ∧ ∀ xs, SqT K H a xs → xs[i]? = some x, fun i H => ∃ xs : List V, SqT K H a xs ∧ xs.length = i⟩
theorem turn_enumT {P : Program} {w : World} {K : PySem.W.Frag} {elts : List Expr} {kk : Nat} {tpos : Pos} (a e it : Addr) (hai : a ≠ it) :
    Turn P w K (.Tuple elts kk tpos) (IteT K a) [e, it] e (fun i h => (∃ old, IsEnum h e it ((i : Nat) : Int) old) ∧ h.IsTupleIter it a i ∧ e ≠ it) where
  mem := by simp
  obj := fun i h st b hb => by
    obtain ⟨⟨old, he⟩, ⟨o, ho, hc, hd⟩, _⟩ := st
    have e' : b = e ∨ b = it := by simpa using hb
    rcases e' with z | z
    · rw [z]; exact ⟨_, he, fun v q => nomatch q⟩
    · rw [z]; exact ⟨o, ho, fun v q => by rw [hd] at q; cases q⟩
  keep := fun i h h' st k => let ⟨⟨old, he⟩, hi, hne⟩ := st; ⟨⟨old, k e (by simp) _ he⟩, hi.at fun o q => k it (by simp) o q, hne⟩
  item := by
    intro X hP hw hK hc i pins s σ H E I hf st hg
    subst hP hw hK
    obtain ⟨⟨old, he⟩, hit, hne⟩ := st
    obtain ⟨xs, x, hq, hx⟩ := hg
    obtain ⟨its, rv, p, hz⟩ := I.tuple hq
    obtain ⟨u, hu, ru⟩ := rv.get hx
    have hel : e < s.heap.objs.size := Heap.lt_size he
    have hil : it < s.heap.objs.size := by obtain ⟨_, q, _⟩ := hit; exact Heap.lt_size q
    have p' : s.heap.IsTuple a its.toArray := p
    have hei : e ∉ [it, a] := fun hm => by
      rcases List.mem_cons.mp hm with z | z
      · exact hne z
      · obtain ⟨o, ho, hco, _⟩ := p'
        have z' : e = a := by simpa using z
        subst z'
        rw [he] at ho; cases ho
        exact absurd hco (by simp)
    have lt : i < its.toArray.size := by
      have : u ∈ its := List.mem_of_getElem? hu
      have h2 : i < its.length := by
        rcases Nat.lt_or_ge i its.length with q | q
        · exact q
        · rw [List.getElem?_eq_none q] at hu; cases hu
      simpa using h2
    refine wpAny_pyNext_enum_itemD (Draws.tuple (A := X.A.in1) (I.ok.hd hc) it a hai its.toArray) he ⟨hit, p'⟩ lt hne hei fun x0 h' tk hx0 ho hst hT hsz hk => ?_
    have ex : x0 = u := by
      have : its[i]? = some x0 := by simpa using hx0
      rw [hu] at this; cases this; rfl
    subst ex
    refine ⟨_, rfl, wpAny_letOwnedTupleGo_enum (s := { s with heap := h', toks := tk + 1 }) ho fun h'' he' sb => ?_⟩
    have hT2 : h''.get? s.heap.objs.size = some { cls := .type "tuple", data := .seq #[.int i tk, x0] } := (sb.2 _ (Nat.ne_of_gt hel)).trans hT
    have new : ObjOk X.prog X.w (upd H s.heap.objs.size (.tup [.int (i : Nat), x])) h'' s.heap.objs.size (.tup [.int (i : Nat), x]) :=
      ⟨by show 2 ≤ sizeLine; decide, [.int i tk, x0], .cons ⟨_, rfl⟩ (.cons ru .nil), ⟨_, hT2, rfl, _, rfl⟩⟩
    have I1 : Inv X pins σ (upd H s.heap.objs.size (.tup [.int (i : Nat), x])) { s with heap := h'', toks := tk + 1 } :=
      I.turnedNew (ch := [e, it]) (fun b ob hb q => (sb.2 b (fun z => hb (by simp [z]))).trans (hk b ob (fun z => hb (by simp [z])) (fun z => hb (by simp [z])) q)) hf (Nat.le_refl _) new
    refine ⟨.ref s.heap.objs.size, _, I1, rfl, ⟨_, x, rfl, I.hok.fresh (Nat.le_refl _), rfl, fun ys hy => by rw [I.tuple_inj hy hq]; exact hx⟩, ⟨⟨x0, ?_⟩, hst.1.at fun o q => (sb.2 it (Ne.symm hne)).trans q, hne⟩, fun b hb => ?_⟩
    · have e1 : ((i + 1 : Nat) : Int) = (i : Int) + 1 := by omega
      rw [e1]; exact he'
    · have hb' : b < s.heap.objs.size := by
        have e' : b = e ∨ b = it := by simpa using hb
        rcases e' with z | z
        · rw [z]; exact hel
        · rw [z]; exact hil
      rw [upd_ne (Nat.ne_of_lt hb')]; exact (hf b hb).1
  done := by
    intro X hP hw hK hc i pins s σ H E I hf st hg
    subst hP hw hK
    obtain ⟨⟨old, he⟩, hit, hne⟩ := st
    obtain ⟨xs, hq, hx⟩ := hg
    obtain ⟨its, rv, p, hz⟩ := I.tuple hq
    obtain ⟨f0, f1, f2, f3, f4, f5⟩ := hf it (by simp)
    have hl := rv.length
    have p' : s.heap.IsTuple a its.toArray := p
    have hi : i = its.toArray.size := by simp; omega
    subst hi
    exact wpAny_pyNext_enum_endD (Draws.tuple (A := X.A.in1) (I.ok.hd hc) it a hai its.toArray) he ⟨hit, p'⟩ fun h' eb => ⟨rfl, I.turned (t' := s.toks) (fun b o hb q => eb b o hb q) f0 f1 f3 f4 f5⟩
  self := fun A i s Q E st h => let ⟨⟨_, he⟩, _⟩ := st; wpAny_pyIter_enum he h
def iEnumT (K : PySem.W.Frag) (ta : TA) : TI := fun σ H R => ta σ H fun vs H1 => ∃ a xs, vs = [.ref a] ∧ SqT K H1 a xs ∧ R (IteT K a) H1
theorem pi_enumT {X : Cx} {e : Expr} {ta : TA} {p pos tpos : Pos} {elts : List Expr} {kk : Nat} (hg : Gl X "enumerate") (hm : X.mg "enumerate" = none) (ha : PA X [e] ta) (hs : starEach [e] X.env = [(false, eval e X.env)] := by rfl) :
    PI X (.Tuple elts kk tpos) (.Call (.Name "enumerate" p) [e] [] pos) (iEnumT X.K ta) := by
  refine ⟨fun pins s σ H R I h => ?_⟩
  refine Call_ (ld_blt I hg hm boot_enumerate (PyProof.Rows.callWith_type1 (thn (ha.run pos pins s σ H _ I h) fun us s1 ⟨vs, H1, I1, r1, q1⟩ => ?_) hs rfl))
  obtain ⟨a, xs, ex, hq, q⟩ := q1
  subst ex
  cases r1 with
  | cons r rr =>
    cases rr
    cases r
    obtain ⟨its, rv, p', hz⟩ := I1.tuple hq
    have p2 : s1.heap.IsTuple a its.toArray := p'
    have hai : a ≠ s1.heap.objs.size := by
      obtain ⟨o, ho, _⟩ := p2
      exact Nat.ne_of_lt (Heap.lt_size ho)
    refine call_enumerate_tuple p2 fun h' he hit hsz hk => wpAny_pyIter_enum he ?_
    have I2 : Inv X pins σ H1 { s1 with heap := h' } := I1.kept (t' := s1.toks) hk
    refine ⟨s1.heap.objs.size + 1, [s1.heap.objs.size + 1, s1.heap.objs.size], _, _, H1, rfl, I2, turn_enumT a (s1.heap.objs.size + 1) s1.heap.objs.size hai, ⟨⟨.none, he⟩, hit, Nat.succ_ne_self _⟩, fun b hb => ?_, q⟩
    have e' : b = s1.heap.objs.size + 1 ∨ b = s1.heap.objs.size := by simpa using hb
    have hle : s1.heap.objs.size ≤ b := by
      rcases e' with z | z
      · rw [z]; exact Nat.le_add_right _ _
      · rw [z]; exact Nat.le_refl _
    exact I1.fpOk hle (I1.hok.fresh hle)
section
variable {K : PySem.W.Frag} {W : WX} {σ : L2.St} {H : Hp}
theorem it_enumT {v : V} {ds : List D} {a : Addr} (hv : v = .ref a) : ItOk K (IteT K a) [(v, .tup ds)] (enumD 0 ds) := by
  subst hv
  refine ⟨fun ρ Z S F H i d' r hi => ?_, fun ρ Z S F H r => ?_⟩
  · obtain ⟨a', vs, e, q, y⟩ := (r.fr _ List.mem_cons_self : Rep K ρ Z H (.tup ds) (.ref a)).sqt
    cases e
    obtain ⟨d1, h1, rfl⟩ := enumD_get hi
    obtain ⟨x, hx, rx⟩ := y.get h1
    refine ⟨⟨vs, x, q, hx⟩, fun x' H' hy => ?_⟩
    obtain ⟨T, x1, rfl, hT, rfl, h⟩ := hy
    have := h vs q
    rw [hx] at this; cases this
    have st : Stb K Z H (upd H T (.tup [.int (i : Nat), x])) := Stb.new hT (r.zne hT)
    refine ⟨r.grow hT, T, _, rfl, .of upd_same, .cons ?_ (.one (RepS.stb st (fun _ _ h => h) (fun _ h => h) _ _ rx))⟩
    show _ = _
    rw [Nat.zero_add]
  · obtain ⟨a', vs, e, q, y⟩ := (r.fr _ List.mem_cons_self : Rep K ρ Z H (.tup ds) (.ref a)).sqt
    cases e
    exact ⟨vs, q, by rw [enumD_len]; exact y.length⟩
theorem enum2_of {m : M D} {te : TE} (ha : ∀ σ H Q, simE K W m σ H Q → te σ H Q) {R : It → Hp → Prop}
    (h : simI K W (m.bind fun d => M.opt ((match d with | .str _ => none | d => seqItems d).map (enumD 0))) σ H R) : iEnum K (tCons te tNil) σ H R ∨ iEnumT K (tCons te tNil) σ H R := by
  obtain ⟨ρ, Z, S, en, F, ⟨k, r⟩, h⟩ := h
  have h0 := h.bind
  have go : ∀ {P : V → Hp → Prop}, (∀ d en1 S1, Post K W σ F (fun ds en S => ∀ (ρ Z : List Addr) (H : Hp) (J : It) (held : List (V × D)), EnvOk σ en → Rel K ρ Z S (held ++ (pairs σ en ++ F)) H → ItOk K J held ds → R J H) (M.opt ((match d with | .str _ => none | d => seqItems d).map (enumD 0)) en1 S1) → m en S = .ok d en1 S1 →
      ∀ ρ1 Z1 v H1, EnvOk σ en1 → Rel K ρ1 Z1 S1 ((v, d) :: (pairs σ en1 ++ F)) H1 → P v H1) → te σ H P := by
    intro P hP
    refine ha σ H _ ⟨ρ, Z, S, en, F, ⟨k, r⟩, ?_⟩
    generalize hm : m en S = res at h0
    cases res with
    | ok d en1 S1 => exact fun ρ1 Z1 v H1 k1 r1 => hP d en1 S1 h0 hm ρ1 Z1 v H1 k1 r1
    | exc x en1 S1 => exact h0
    | stuck => exact h0
  cases hm : m en S with
  | ok d en1 S1 =>
    rw [hm] at h0
    cases d with
    | tup ds =>
      refine .inr (go fun d' en' S' q e' ρ1 Z1 v H1 k1 r1 => ?_)
      rw [hm] at e'; cases e'
      obtain ⟨a, vs, rfl, q1, y⟩ := (r1.fr _ List.mem_cons_self : Rep K ρ1 Z1 H1 (.tup ds) v).sqt
      exact ⟨a, vs, rfl, q1, q ρ1 Z1 H1 _ [(.ref a, .tup ds)] k1 r1 (it_enumT rfl)⟩
    | own ds =>
      refine .inl (go fun d' en' S' q e' ρ1 Z1 v H1 k1 r1 => ?_)
      rw [hm] at e'; cases e'
      obtain ⟨a, vs, rfl, q1, y⟩ := (r1.fr _ List.mem_cons_self : Rep K ρ1 Z1 H1 (.own ds) v).sql (ds := ds) rfl
      exact ⟨a, vs, rfl, q1, q ρ1 Z1 H1 _ [(.ref a, .own ds)] k1 r1 (it_enum rfl rfl)⟩
    | frz ds =>
      refine .inl (go fun d' en' S' q e' ρ1 Z1 v H1 k1 r1 => ?_)
      rw [hm] at e'; cases e'
      obtain ⟨a, vs, rfl, q1, y⟩ := (r1.fr _ List.mem_cons_self : Rep K ρ1 Z1 H1 (.frz ds) v).sql (ds := ds) rfl
      exact ⟨a, vs, rfl, q1, q ρ1 Z1 H1 _ [(.ref a, .frz ds)] k1 r1 (it_enum rfl rfl)⟩
    | _ => exact h0.elim
  | exc x en1 S1 =>
    refine .inl (go fun d' en' S' q e' => ?_)
    rw [hm] at e'; cases e'
  | stuck =>
    rw [hm] at h0
    exact h0.elim
theorem pi_enum2 {X : Cx} {W : WX} {e : Expr} {m : M D} {p pos tpos : Pos} {elts : List Expr} {kk : Nat} (hg : Gl X "enumerate") (hm : X.mg "enumerate" = none) (h : PA X [e] (tCons (simE X.K W m) tNil)) (hs : starEach [e] X.env = [(false, eval e X.env)]) :
    PI X (.Tuple elts kk tpos) (.Call (.Name "enumerate" p) [e] [] pos) (simI X.K W (m.bind fun d => M.opt ((match d with | .str _ => none | d => seqItems d).map (enumD 0)))) := ⟨fun pins s σ H R I q => by
  rcases enum2_of (fun _ _ _ q => q) q with q | q
  · exact (pi_enum hg hm h hs).run pins s σ H R I q
  · exact (pi_enumT hg hm h hs).run pins s σ H R I q⟩
end
end Mi
end
section
set_option Elab.async false
set_option maxRecDepth 100000
set_option linter.all false
namespace Mi
open PySem PySem.Spec PyProof.Rows L2
/-! ### a def's promise, where no repr is under way -/
structure FnG (P : Program) (w : World) (K : PySem.W.Frag) (mg : Str → Option Value) (base : Heap) (k : Nat) (f : Addr) (fd : FuncData) (ps : List Str) (sp : Sp) : Prop where
  len : ∀ vs H Q E, sp vs H Q E → vs.length = ps.length
  run : ∀ (A : Around) (outer : List PySem.Env) (s : Shared) (H : Hp) (args : PySem.Args) (us : List Value) (vs : List V) (Q : VK) (E : XK), Room k A → A.guards = some [] → Env0 P w K mg base A outer s H → BindsTo s fd args (ps.zip us) → Vals vs us → sp vs H Q E →
    codeAny (model P w) A (.call (.ref f) args) (CR (L2.CX P w) outer P w H s Q E) s
section
variable {P : Program} {w : World} {K : PySem.W.Frag} {mg : Str → Option Value} {base : Heap}
/-- from the body's rules -/
theorem fnG_of {x qual : Str} {params : Arguments} {body : List Stmt} {scope : Scope} {dvs : List V} {kws : List (Str × V)} {f : Addr} {fd : FuncData} {N ps : List Str} {k : Nat} {sp : Sp} (F : FunD K x qual params body scope dvs kws f fd) (S : FnScope N ps scope)
    (len : ∀ vs H Q E, sp vs H Q E → vs.length = ps.length)
    (hbody : ∀ (cdv : Value) (A : Around) (outer : List PySem.Env) (s : Shared) (H : Hp) (vs : List V) (Q : VK) (E : XK), Room k (A.deeper (envOfC qual scope s.heap.objs.size f cdv)) → (A.deeper (envOfC qual scope s.heap.objs.size f cdv)).guards = some [] → sp vs H Q E →
      ∃ t, PSs (cxOf (L2.CX P w) P w K mg base N qual scope f cdv A outer s H E) body t ∧ t { nx := fun _ H' => Q .non H', rt := Q } (L2.start N vs) H) : FnG P w K mg base (k + 1) f fd ps sp := by
  obtain ⟨oc, od, dV, kV, doc, pm, an, cdv, ct, osl, rfl, lk, hcd, _, _⟩ := F.ex
  refine ⟨len, fun A outer s H args us vs Q E room gd env0 bind rel prom => ?_⟩
  have kin : K.In s.heap := env0.mod.kin.keeps fun b o e => (env0.bs b o e).1
  have nolim : s.heap.NoLimit := env0.mod.nolimit.keeps fun b o e => (env0.bs b o e).1
  have par : ∀ y ∈ ps.zip us, scope.names.lookup y.1 = some .local ∨ (scope.names.lookup y.1 = some .cell ∧ ((cellsFrom (s.heap.objs.size + 1) scope.names []).lookup y.1).isSome = true) := by
    rintro ⟨n, v⟩ hy
    have := S.par n (List.of_mem_zip hy).1
    exact this.imp id fun q => ⟨q, PySem.W.cellsFrom_some _ _ _ (.inl q)⟩
  refine codeAny_call_function room.depth (kin _ _ lk) rfl S.co S.gen rfl (PySem.W.codeRec_of kin hcd) (bind _ _ _ _ (wpAny_newFunctionEnv_cells S.kind par fun env he s1 x => ?_))
  subst he
  refine ⟨nolim.keeps x.toInCall.keep, codeAny_func ?_⟩
  obtain ⟨t, ht, ready⟩ := hbody cdv A outer s H vs Q E (room.deeper _) gd prom
  have I := inv_start (CX := L2.CX P w) (E := E) S room.hd env0 (len _ _ _ _ prom) rel x
  refine wpAny_mono (ht.run [] s1 (L2.start N vs) H _ I ready) (fun fl s' out => ?_) fun _ _ z => z
  cases fl with
  | ret u =>
    obtain ⟨v, σ', H', J, rv, q⟩ := out
    exact ⟨v, H', J.os, J.bare, J.base, J.hok, rv, q⟩
  | next =>
    obtain ⟨σ', H', J, q⟩ := out
    exact ⟨V.non, H', J.os, J.bare, J.base, J.hok, rfl, q⟩
  | brk => obtain ⟨_, _, _, q⟩ := out; exact q.elim
  | cont => obtain ⟨_, _, _, q⟩ := out; exact q.elim
end
section
variable {X : Cx} {k : Nat} {f : Addr} {fd : FuncData} {ps : List Str} {sp : Sp} {E : L2.St → XK} {pins : List (Addr × Obj)} {σ : L2.St} {H : Hp} {s : Shared} {Q : VK}
theorem run_G (F : FnG X.prog X.w X.K X.mg X.base k f fd ps sp) (room : Room k X.A) (gd : X.A.guards = some []) (hx : PassesAt (L2.CX X.prog X.w) X σ (E σ)) (I : Inv X pins σ H s) {us : List Value} {kw : List (Str × Value)} {us' : List Value} {vs' : List V}
    (b : BindsTo s fd ⟨us, kw⟩ (ps.zip us')) (r : Vals vs' us') (h : sp vs' H Q (E σ)) : wpAny (model X.prog X.w) X.A (call (.ref f) us kw) (EP X pins σ Q) X.xe s := by
  refine wpAny_call (codeAny_mono (F.run X.A X.stack s H ⟨us, kw⟩ us' vs' Q (E σ) room gd I.env0 b r h) fun r s' hq => ?_)
  cases r with
  | error e => exact hx pins H s e s' I hq
  | ok fl =>
    cases fl with
    | ret u => exact I.after hq
    | next => exact hq.elim
    | brk => exact hq.elim
    | cont => exact hq.elim
/-- how a call's arguments come to the parameters -/
def BindA (K : PySem.W.Frag) (fd : FuncData) (ps : List Str) (n : Nat) (ks : List Str) (arr : List (Nat ⊕ D)) : Prop := ∀ (s : Shared) (us ws : List Value), K.In s.heap → us.length = n → ws.length = ks.length →
  ∃ us', BindsTo s fd ⟨us, ks.zip ws⟩ (ps.zip us') ∧ ∀ vs, Vals vs (us ++ ws) → ∃ vs', Vals vs' us' ∧ ∀ ρ Z H ds, RepSs K ρ Z H ds vs → RepSs K ρ Z H (arrange arr ds) vs'
def spA (K : PySem.W.Frag) (arr : List (Nat ⊕ D)) (n m : Nat) (sp : Sp) (vs zs : List V) (H : Hp) (Q : VK) (E : XK) : Prop := vs.length = n ∧ zs.length = m ∧ ∀ vs', (∀ ρ Z H ds, RepSs K ρ Z H ds (vs ++ zs) → RepSs K ρ Z H (arrange arr ds) vs') → sp vs' H Q E
variable {x : Str} {p pos : Pos} {es : List Expr} {kws : List Keyword} {t tk : TA} {n : Nat} {ks : List Str} {arr : List (Nat ⊕ D)}
theorem kw_some {kws : List Keyword} {pos : Pos} {env : PySem.Env} (hall : (backToKw pos (keywordEach kws env)).all (·.1.isSome) = true) : (backToKw pos (keywordEach kws env)).any (·.1.isNone) = false := by
  rw [List.any_eq_false]
  rw [List.all_eq_true] at hall
  intro y hy
  have := hall y hy
  cases h : y.1 <;> simp_all
theorem last_G (F : FnG X.prog X.w X.K X.mg X.base k f fd ps sp) (room : Room k X.A) (gd : X.A.guards = some []) (hb : BindA X.K fd ps n ks arr) (hx : PassesAt (L2.CX X.prog X.w) X σ (E σ)) {us ws : List Value} {vs zs : List V} (I : Inv X pins σ H s) (r : Vals vs us) (rz : Vals zs ws)
    (q : spA X.K arr n ks.length sp vs zs H Q (E σ)) : wpAny (model X.prog X.w) X.A (call (.ref f) us (ks.zip ws)) (EP X pins σ Q) X.xe s := by
  obtain ⟨l1, l2, q⟩ := q
  obtain ⟨us', b, hv⟩ := hb s us ws I.kIn (by rw [← r.length]; exact l1) (by rw [← rz.length]; exact l2)
  obtain ⟨vs', r', hd⟩ := hv (vs ++ zs) (r.append rz)
  exact run_G F room gd hx I b r' (q vs' hd)
/-- f(.., k = ..) -/
theorem pe_callG (F : FnG X.prog X.w X.K X.mg X.base k f fd ps sp) (room : Room k X.A) (gd : X.A.guards = some []) (hg : Gl X x) (hdb : (x == ("__debug__" : Str)) = false) (hm : X.mg x = some (.ref f)) (hk : PySem.W.keepIn X.K (.ref f) = true) (hb : BindA X.K fd ps n ks arr)
    (hx : ∀ σ, PassesAt (L2.CX X.prog X.w) X σ (E σ)) {e : Expr} (ha : PA X (e :: es) t) (hkw : PK X kws tk) (hall : (backToKw pos (keywordEach kws X.env)).all (·.1.isSome) = true) (hks : (backToKw pos (keywordEach kws X.env)).filterMap (·.1) = ks)
    (hs : (backTo pos (starEach (e :: es) X.env)).any (·.1) = false) (hse : starEach (e :: es) X.env = (false, eval e X.env) :: starEach es X.env) :
    PE X (.Call (.Name x p) (e :: es) kws pos) (fun σ H Q => t σ H fun vs H1 => tk σ H1 fun zs H2 => spA X.K arr n ks.length sp vs zs H2 Q (E σ)) := by
  refine ⟨fun pins s σ H Q I h => wpAny_Call_Name_kw (ld_glob I hg hm ?_ hdb)⟩
  refine PySem.W.callWith_KW (h₀ := X.base) I.ok.mod.kin hk hall (thn (ha.run pos pins s σ H _ I h) fun us s1 ⟨vs, H1, I1, r, q⟩ => ?_) (by rw [hs, kw_some hall]; rfl) hse
  refine thn (hkw.run pos pins s1 σ H1 _ I1 q) fun ws s2 ⟨zs, H2, I2, rz, q2⟩ => ⟨I2.kIn, ?_⟩
  rw [hks]
  exact last_G F room gd hb (hx σ) I2 r rz q2
theorem pe_callG0 (F : FnG X.prog X.w X.K X.mg X.base k f fd ps sp) (room : Room k X.A) (gd : X.A.guards = some []) (hg : Gl X x) (hdb : (x == ("__debug__" : Str)) = false) (hm : X.mg x = some (.ref f)) (hk : PySem.W.keepIn X.K (.ref f) = true) (hb : BindA X.K fd ps n ks arr)
    (hx : ∀ σ, PassesAt (L2.CX X.prog X.w) X σ (E σ)) (hkw : PK X kws tk) (hall : (backToKw pos (keywordEach kws X.env)).all (·.1.isSome) = true) (hks : (backToKw pos (keywordEach kws X.env)).filterMap (·.1) = ks) :
    PE X (.Call (.Name x p) [] kws pos) (fun σ H Q => tk σ H fun zs H2 => spA X.K arr n ks.length sp [] zs H2 Q (E σ)) := by
  refine ⟨fun pins s σ H Q I h => wpAny_Call_Name_kw (ld_glob I hg hm ?_ hdb)⟩
  refine PySem.W.callWith_KW0 (h₀ := X.base) I.ok.mod.kin hk hall (thn (hkw.run pos pins s σ H _ I h) fun ws s2 ⟨zs, H2, I2, rz, q2⟩ => ⟨I2.kIn, ?_⟩) (by rw [kw_some hall]; rfl)
  rw [hks]
  exact last_G F room gd hb (hx σ) I2 .nil rz q2
end
section
variable {K : PySem.W.Frag} {W : WX} {σ : L2.St} {H : Hp}
theorem callA_of {cf : Calls} {np f n m : Nat} {arr : List (Nat ⊕ D)} (hn : ∀ ds s, ds.length ≠ np → cf f ds s = .stuck) {ms mz : M (List D)} {Q : VK} (h : simE K W (ms.bind fun ds => mz.bind fun zs => if ds.length = n ∧ zs.length = m then callM cf f (arrange arr ((ds ++ zs).map D.hard)) else .stuck) σ H Q) :
    simAs K W ms σ H fun vs H1 => simAs K W mz σ H1 fun zs H2 => spA K arr n m (spF K cf np f) vs zs H2 Q (WE W σ) := by
  obtain ⟨ρ, Z, S, en, F, ⟨k, r⟩, h⟩ := h
  refine Sim.start k r (Le.refl F) h.bind fun ds en1 S1 q ρ1 Z1 vs H1 k1 hl r1 => ?_
  have e0 : ∀ {A B G : List (V × D)}, Le (A ++ (B ++ G)) (B ++ (A ++ G)) := fun {A B G} => ⟨fun p hp => by
    simp only [List.mem_append] at hp ⊢
    rcases hp with h | h | h
    · exact .inr (.inl h)
    · exact .inl h
    · exact .inr (.inr h), fun a => by simp only [cF_append]; omega⟩
  refine Sim.start k1 (F' := vs.zip ds ++ F) (r1.le e0) ⟨fun p hp => List.mem_append_right _ hp, fun a => by simp only [cF_append]; omega⟩ (Post.bind q) fun zd en2 S2 q2 ρ2 Z2 zs H2 k2 hl2 r2 => ?_
  obtain ⟨Z3, r3, h3, z3⟩ := hardens hl2 r2
  obtain ⟨Z4, r4, h4, z4⟩ := hardens (F := pairs σ en2 ++ F) hl (r3.le e0)
  by_cases hc : ds.length = n ∧ zd.length = m
  · rw [if_pos hc] at q2
    have rs : RepSs K ρ2 Z4 H2 ((ds ++ zd).map D.hard) (vs ++ zs) := by
      rw [List.map_append]
      exact h4.append (RepSs.stb Stb.refl (fun _ _ h => h) z4 _ _ h3)
    refine ⟨hl.trans hc.1, hl2.trans hc.2, fun vs' hv => ?_⟩
    have ra := hv ρ2 Z4 H2 _ rs
    generalize hds : arrange arr ((ds ++ zd).map D.hard) = da at q2 ra
    have hnp : da.length = np := by
      by_cases e : da.length = np
      · exact e
      · simp only [callM, hn da S2 e] at q2
        exact q2.elim
    refine ⟨ra.length.trans hnp, ρ2, Z4, S2, pairs σ en2 ++ F, da, ra.length.symm, r4.pushes ra, ?_⟩
    unfold callM at q2
    cases e : cf f da S2 with
    | ok d S3 =>
      rw [e] at q2
      exact fun ρ' Z' v H' r' => q2 ρ' Z' v H' k2 r'
    | exc x S3 =>
      rw [e] at q2
      exact fun ρ' Z' H' cls dx r' ex => q2 ρ' Z' H' cls dx k2 r' ex
    | stuck =>
      rw [e] at q2
      exact q2.elim
  · rw [if_neg hc] at q2
    exact q2.elim
/-! ### methods that change nothing -/
/-- whose method it is -/
def mTy : P → String
  | .m 0 => "list"
  | .m 1 => "tuple"
  | _ => "str"
theorem kind_ty {p : P} {d : D} {v : V} {ρ Z : List Addr} (hp : p ≠ .m 1) (h : Rep K ρ Z H d v) (k : kindM p d = true) : tyV K (mTy p) v H := by
  unfold kindM at k
  split at k <;> first | (cases k; done) | skip
  · obtain ⟨a, vs, rfl, q, _⟩ := h.sql rfl
    exact .inl ⟨rfl, vs, q⟩
  · obtain ⟨a, vs, rfl, q, _⟩ := h.sql rfl
    exact .inl ⟨rfl, vs, q⟩
  · exact absurd rfl hp
  · cases h.str; rfl
theorem meth_var {p : P} {i : Nat} (hp : p ≠ .m 1) {ms : M (List D)} {ta : TA} (ha : ∀ σ H Q, simOs K W ms σ H Q → ta σ H Q) {Q : VK}
    (h : simE K W (((getV i).bind fun _ => .ret (none : Option D)).bind fun r => (lookM p (some i) r).bind fun _ => ms.bind fun ds => (fin1 (some i) r).bind fun d => primM p (d :: ds)) σ H Q) :
    tVar i σ H fun x H1 => tyV K (mTy p) x H1 ∧ ta σ H1 fun ws H2 => rP K p (x :: ws) H2 Q := by
  obtain ⟨ρ, Z, S, en, F, ⟨k, r⟩, h⟩ := h
  obtain ⟨d0, e0, h⟩ := getV_ok h.bind.bind
  obtain ⟨v, hv, hm⟩ := slot_v k e0
  obtain ⟨d0', e0', h⟩ := getV_ok (Post.bind (Post.bind h.ok))
  rw [e0] at e0'; cases e0'
  cases hk : kindM p d0 with
  | false => rw [hk] at h; exact h.elim
  | true =>
    rw [hk] at h
    refine ⟨v, hv, kind_ty hp (r.fr (v, d0) (List.mem_append_left _ hm)) hk, ?_⟩
    refine ha σ H _ (Sim.start k r (Le.refl F) (Post.bind (Post.ok h)) fun ds en1 S1 q ρ1 Z1 vs H1 k1 r1 ar => ?_)
    obtain ⟨d, e, q⟩ := getV_ok (Post.bind q)
    obtain ⟨v', hv', hm'⟩ := slot_v k1 e
    rw [hv] at hv'; cases hv'
    obtain ⟨d', e', q⟩ := q.prim
    exact ⟨ρ1, Z1, _, d', e', deref_all r1 (.cons (r1.fr (v, d) (List.mem_append_left _ hm')) ar), fun v H' o => q ρ1 Z1 v H' k1 (o.rel r1)⟩
theorem meth_exp {p : P} {m0 : M D} {t0 : TE} {slot : Option Nat} (hp : p ≠ .m 1) {ms : M (List D)} {ta : TA} (h0 : ∀ σ H Q, simE K W m0 σ H Q → t0 σ H Q) (ha : ∀ σ H Q, simOs K W ms σ H Q → ta σ H Q) {Q : VK}
    (h : simE K W ((m0.bind fun d => .ret (some d)).bind fun r => (lookM p slot r).bind fun _ => ms.bind fun ds => (fin1 slot r).bind fun d => primM p (d :: ds)) σ H Q) :
    t0 σ H fun x H1 => tyV K (mTy p) x H1 ∧ ta σ H1 fun ws H2 => rP K p (x :: ws) H2 Q := by
  obtain ⟨ρ, Z, S, en, F, ⟨k, r⟩, h⟩ := h
  refine h0 σ H _ (Sim.start k r (Le.refl F) h.bind.bind fun d0 en0 S0 q0 ρ0 Z0 v0 H0 k0 r0 => ?_)
  have q1 := Post.bind (Post.bind q0.ok)
  replace q1 := q1.ok
  cases hk : kindM p d0 with
  | false => rw [hk] at q1; exact q1.elim
  | true =>
    rw [hk] at q1
    refine ⟨kind_ty hp (r0.fr (v0, d0) List.mem_cons_self) hk, ha σ H0 _ (Sim.start k0 (F' := (v0, d0) :: F) (r0.le le_swap) le_drop (Post.bind (Post.ok q1)) fun ds en1 S1 q ρ1 Z1 vs H1 k1 r1 ar => ?_)⟩
    obtain ⟨d', e', q⟩ := Post.prim (Post.bind q).ok
    exact ⟨ρ1, Z1, _, d', e', deref_all r1 (.cons (r1.fr (v0, d0) (List.mem_append_right _ List.mem_cons_self)) ar), fun v H' o => q ρ1 Z1 v H' k1 (o.rel (r1.le (app_le le_drop)))⟩
/-- of a tuple among the module's objects -/
theorem meth_const {p : P} {d0 : D} {v0 : V} (hr : ∀ ρ Z H, RepS K ρ Z H d0 v0) {ms : M (List D)} {ta : TA} (ha : ∀ σ H Q, simOs K W ms σ H Q → ta σ H Q) {Q : VK} {slot : Option Nat}
    (h : simE K W (((M.ret d0).bind fun d => .ret (some d)).bind fun r => (lookM p slot r).bind fun _ => ms.bind fun ds => (fin1 slot r).bind fun d => primM p (d :: ds)) σ H Q) :
    ta σ H fun ws H2 => rP K p (v0 :: ws) H2 Q := by
  obtain ⟨ρ, Z, S, en, F, ⟨k, r⟩, h⟩ := h
  have q0 := Post.bind (Post.bind h)
  replace q0 := (Post.bind q0.ok.ok)
  replace q0 := Post.bind q0
  replace q0 := q0.ok
  cases hk : kindM p d0 with
  | false => rw [hk] at q0; exact q0.elim
  | true =>
    rw [hk] at q0
    refine ha σ H _ (Sim.start k r (Le.refl F) (Post.bind (Post.ok q0)) fun ds en1 S1 q ρ1 Z1 vs H1 k1 r1 ar => ?_)
    obtain ⟨d', e', q⟩ := Post.prim (Post.bind q).ok
    exact ⟨ρ1, Z1, _, d', e', deref_all r1 (.cons (hr ρ1 Z1 H1).rep ar), fun v H' o => q ρ1 Z1 v H' k1 (o.rel r1)⟩
end
end Mi
end
section
set_option Elab.async false
set_option maxRecDepth 100000
set_option linter.all false
/-! Mi: which text is told by which term (a look by program), and that the look is right -/
namespace Mi
open PySem PySem.Spec PyProof.Rows L2

mutual
theorem D.beq_eq : ∀ (a b : D), D.beq a b = true → a = b
  | .non, b, h => by cases b <;> first | rfl | cases h
  | .bl x, b, h => by cases b <;> first | (simp only [D.beq, beq_iff_eq] at h; rw [h]) | cases h
  | .int x, b, h => by cases b <;> first | (simp only [D.beq, beq_iff_eq] at h; rw [h]) | cases h
  | .str x, b, h => by cases b <;> first | (simp only [D.beq, beq_iff_eq] at h; rw [h]) | cases h
  | .ref x, b, h => by cases b <;> first | (simp only [D.beq, beq_iff_eq] at h; rw [h]) | cases h
  | .tup x, b, h => by cases b <;> first | (rw [D.beqs_eq _ _ h]) | cases h
  | .frz x, b, h => by cases b <;> first | (rw [D.beqs_eq _ _ h]) | cases h
  | .own x, b, h => by cases b <;> first | (rw [D.beqs_eq _ _ h]) | cases h
theorem D.beqs_eq : ∀ (a b : List D), D.beqs a b = true → a = b
  | [], b, h => by cases b <;> first | rfl | cases h
  | x :: a, b, h => by
    cases b with
    | nil => cases h
    | cons y b =>
      have h' := Bool.and_eq_true_iff.mp (show (D.beq x y && D.beqs a b) = true from h)
      rw [D.beq_eq _ _ h'.1, D.beqs_eq _ _ h'.2]
end

/-! ### the look -/
structure FnT where
  name : Str
  ix : Nat
  np : Nat
/-- calls by keywords, or with defaults -/
structure KwT where
  name : Str
  ix : Nat
  np : Nat
  n : Nat
  ks : List Str
  arr : List (Nat ⊕ D)
structure Tab where
  frees : List Str
  fns : List FnT
  consts : List (Str × D)
  kws : List KwT
def arrB : List (Nat ⊕ D) → List (Nat ⊕ D) → Bool
  | [], [] => true
  | .inl i :: a, .inl j :: b => i == j && arrB a b
  | .inr d :: a, .inr e :: b => D.beq d e && arrB a b
  | _, _ => false
theorem arrB_eq : ∀ {a b : List (Nat ⊕ D)}, arrB a b = true → a = b
  | [], [], _ => rfl
  | [], .inl _ :: _, h => by cases h
  | [], .inr _ :: _, h => by cases h
  | .inl _ :: _, [], h => by cases h
  | .inr _ :: _, [], h => by cases h
  | .inl _ :: _, .inr _ :: _, h => by cases h
  | .inr _ :: _, .inl _ :: _, h => by cases h
  | .inl i :: a, .inl j :: b, h => by
    have h' := Bool.and_eq_true_iff.mp (show (i == j && arrB a b) = true from h)
    rw [arrB_eq h'.2, beq_iff_eq.mp h'.1]
  | .inr d :: a, .inr e :: b, h => by
    have h' := Bool.and_eq_true_iff.mp (show (D.beq d e && arrB a b) = true from h)
    rw [arrB_eq h'.2, D.beq_eq _ _ h'.1]
/-- a method's name -/
def mName : P → Str
  | .m 0 => "index"
  | .m 1 => "index"
  | _ => ""
def isM1 : P → Bool
  | .m 1 => true
  | _ => false
def mAr : P → Nat
  | .m 0 => 1
  | .m 1 => 1
  | _ => 0
structure LC where
  N : List Str
  sc : Scope
  blk : Option Scope
def isGl (L : LC) (x : Str) : Bool := decide (L.sc.names.lookup x = some .globalImplicit) && !(x == ("__debug__" : Str))
def isVis (L : LC) (x : Str) : Bool := match L.sc.names.lookup x with
  | some .local => true
  | some .cell => true
  | some .free => true
  | _ => false
/-- a name that may be stored here: of the def's own, or of the block's own -/
def isLoc (L : LC) (x : Str) : Bool := match L.sc.names.lookup x with
  | some .local => true
  | some .cell => (match L.blk with
    | none => true
    | some sc => sc.names.lookup x == some .cell)
  | _ => false
def okN (L : LC) (i : Nat) : Expr → Bool
  | .Name x _ => decide (L.N[i]? = some x) && isVis L x && !(x == ("__debug__" : Str)) && !(x == ("__classdict__" : Str))
  | _ => false
def okK (T : Tab) (L : LC) (d : D) : Expr → Bool
  | .Constant (.int j) _ _ => (match d with | .int i => i == j | _ => false)
  | .Constant (.bool j) _ _ => (match d with | .bl i => i == j | _ => false)
  | .Constant (.str j) _ _ => (match d with | .str i => i == j | _ => false)
  | .Constant .none _ _ => (match d with | .non => true | _ => false)
  | .Name x _ => isGl L x && T.consts.any fun p => p.1 == x && D.beq p.2 d
  | _ => false
def isStar : Expr → Bool
  | .Starred _ _ => true
  | _ => false
/-- a built-in's name, called -/
def okB (T : Tab) (L : LC) (x y : Str) : Bool := x == y && isGl L x && T.frees.contains x
def isSlc : Expr → Bool
  | .Slice _ _ _ _ => true
  | _ => false
def okP (T : Tab) (L : LC) (p : P) (e : Expr) (k : List Expr → Bool) : Bool := match p, e with
  | .add, .BinOp a .Add b _ => k [a, b]
  | .sub, .BinOp a .Sub b _ => k [a, b]
  | .mul, .BinOp a .Mult b _ => k [a, b]
  | .mod, .BinOp a .Mod b _ => k [a, b]
  | .fdiv, .BinOp a .FloorDiv b _ => k [a, b]
  | .pow, .BinOp a .Pow b _ => k [a, b]
  | .eq, .Compare a [.Eq] [b] _ => k [a, b]
  | .ne, .Compare a [.NotEq] [b] _ => k [a, b]
  | .lt, .Compare a [.Lt] [b] _ => k [a, b]
  | .le, .Compare a [.LtE] [b] _ => k [a, b]
  | .gt, .Compare a [.Gt] [b] _ => k [a, b]
  | .ge, .Compare a [.GtE] [b] _ => k [a, b]
  | .in_, .Compare a [.In] [b] _ => !behindInMarks .In b && k [a, b]
  | .notin, .Compare a [.NotIn] [b] _ => !behindInMarks .NotIn b && k [a, b]
  | .isN, .Compare a [.Is] [.Constant .none _ _] _ => k [a]
  | .notN, .Compare a [.IsNot] [.Constant .none _ _] _ => k [a]
  | .neg, .UnaryOp .USub a _ => k [a]
  | .idx, .Subscript a b _ => !isSlc b && k [a, b]
  | .len, .Call (.Name x _) [a] [] _ => okB T L x "len" && k [a]
  | .str, .Call (.Name x _) [a] [] _ => okB T L x "str" && k [a]
  | .list, .Call (.Name x _) [a] [] _ => okB T L x "list" && k [a]
  | .tuple, .Call (.Name x _) [a] [] _ => okB T L x "tuple" && k [a]
  | .int, .Call (.Name x _) [a] [] _ => okB T L x "int" && k [a]
  | .min2, .Call (.Name x _) [a, b] [] _ => okB T L x "min" && k [a, b]
  | .max2, .Call (.Name x _) [a, b] [] _ => okB T L x "max" && k [a, b]
  | .isi t, .Call (.Name x _) [a, .Name y _] [] _ => okB T L x "isinstance" && decide (t ≤ 4) && okB T L y (Str.ofString (isiN t)) && k [a]
  | .slc false false, .Subscript a (.Slice none none none _) _ => k [a]
  | .slc true false, .Subscript a (.Slice (some l) none none _) _ => k [a, l]
  | .slc false true, .Subscript a (.Slice none (some h) none _) _ => k [a, h]
  | .slc true true, .Subscript a (.Slice (some l) (some h) none _) _ => k [a, l, h]
  | _, _ => false
def cmpOp : P → Option CmpOp
  | .eq => some .Eq | .ne => some .NotEq | .lt => some .Lt | .le => some .LtE | .gt => some .Gt | .ge => some .GtE
  | _ => none
def isSet : Expr → Bool
  | .Set _ _ _ => true
  | _ => false
def okG0 (L : LC) (vs : List Nat) : G → Expr → Bool
  | .nm i, .Name x _ => decide (L.N[i]? = some x) && isLoc L x && vs.contains i
  | _, _ => false
def okG0s (L : LC) (vs : List Nat) : List G → List Expr → Bool
  | [], [] => true
  | g :: gs, e :: es => okG0 L vs g e && okG0s L vs gs es
  | _, _ => false
/-- the targets of a comprehension -/
def okGc (L : LC) (vs : List Nat) : G → Expr → Bool
  | .tp gs, .Tuple es _ _ => okG0s L vs gs es
  | g, e => okG0 L vs g e
def blkL (L : LC) (scope : Scope) : LC := ⟨L.N, relS scope L.sc, some scope⟩
def meOf : Mu → Str
  | .append => "append" | .pop => "pop" | .popAt => "pop" | .insert => "insert" | .extend => "extend" | .set => ""
/-- as many arguments as the change asks -/
def okMu (m : Mu) (n : Nat) : Bool := match m with
  | .pop => n == 0
  | .append => n == 1
  | .popAt => n == 1
  | .insert => n == 2
  | _ => false
def isCall0 : Expr → Bool
  | .Call (.Name _ _) [] [] _ => true
  | _ => false
/-- one for, not async -/
def okLc (k : Expr → Expr → List Expr → Bool) : List Comprehension → Bool
  | [⟨t, i, fs, n⟩] => (match n with
    | .ofNat 0 => k t i fs
    | _ => false)
  | _ => false
theorem okLc_of {k : Expr → Expr → List Expr → Bool} {gs : List Comprehension} (h : okLc k gs = true) : ∃ t i fs, gs = [⟨t, i, fs, 0⟩] ∧ k t i fs = true := by
  unfold okLc at h
  split at h
  · split at h
    · exact ⟨_, _, _, rfl, h⟩
    · cases h
  · cases h
/-- a tuple of the module's own, by its name -/
def okKT (T : Tab) (L : LC) : E → Expr → Bool
  | .k (.tup ds), .Name x _ => isGl L x && T.consts.any fun p => p.1 == x && D.beq p.2 (.tup ds)
  | _, _ => false
mutual
def okE (T : Tab) (L : LC) : E → Bool → Expr → Bool
  | .v i, _, e => okN L i e
  | .mv i, _, e => okN L i e
  | .rf i, _, e => okN L i e
  | .k d, _, e => okK T L d e
  | .prim p es, _, e => okP T L p e (okEs T L es)
  | .chain p q a b c, _, e => (match e with
    | .Compare x [o1, o2] [y, z] _ => decide (cmpOp p = some o1) && decide (cmpOp q = some o2) && okE T L a false x && okE T L b false y && okE T L c false z
    | _ => false)
  | .tup es, _, e => (match e with
    | .Tuple l _ _ => okEs T L es l
    | _ => false)
  | .lst es, _, e => (match e with
    | .List l _ => okEs T L es l
    | _ => false)
  | .call f es, _, e => (match e with
    | .Call (.Name x _) l [] _ => isGl L x && !l.isEmpty && (T.fns.any fun p => p.name == x && p.ix == f) && okEs T L es l
    | _ => false)
  | .and_ a b, t, e => (match e with
    | .BoolOp .And (x :: y :: r) pos => okE T L a t x && okE T L b t (if r.isEmpty then y else .BoolOp .And (y :: r) pos)
    | _ => false)
  | .or_ a b, t, e => (match e with
    | .BoolOp .Or (x :: y :: r) pos => okE T L a t x && okE T L b t (if r.isEmpty then y else .BoolOp .Or (y :: r) pos)
    | _ => false)
  | .not_ a, t, e => (match e with
    | .UnaryOp .Not x _ => okE T L a t x
    | _ => false)
  | .cond c a b, t, e => !t && (match e with
    | .IfExp x y z _ => okE T L c true x && okE T L a false y && okE T L b false z
    | _ => false)
  | .mut m tgt es, _, e => (match e with
    | .Call (.Attribute o n apos) l [] cpos => n == meOf m && okMu m l.length && (apos.endLine == cpos.line) && !isCall0 o && okE T L tgt false o && okEs T L es l
    | _ => false)
  | .meth p tgt es, _, e => (match e with
    | .Call (.Attribute o n apos) l [] cpos => n == mName p && l.length == mAr p && l.length != 0 && (apos.endLine == cpos.line) && !isCall0 o && (if isM1 p then okKT T L tgt o else okE T L tgt false o) && okEs T L es l
    | _ => false)
  | .callA f es ks arr, _, e => (match e with
    | .Call (.Name x _) l kw _ => isGl L x && (T.kws.any fun q => q.name == x && q.ix == f && q.n == l.length && decide (kw.map (·.arg) = q.ks.map some) && arrB q.arr arr) && okEs T L es l && okEs T L ks (kw.map (·.value))
    | _ => false)
  | .lc own g it ifs elt, _, e => (match e with
    | .ListComp x gs scope _ => okLc (fun t i fs => blkC L.N L.sc scope (own.map fun j => (L.N.getD j Str.empty, j)) && okI T L it t i && okGc (blkL L scope) own g t && okTs T (blkL L scope) ifs fs && okE T (blkL L scope) elt false x && !isSet i) gs
    | _ => false)
def okEs (T : Tab) (L : LC) : List E → List Expr → Bool
  | [], l => l.isEmpty
  | E :: Es, l => (match l with
    | e :: es => okE T L E false e && !isStar e && okEs T L Es es
    | [] => false)
def okTs (T : Tab) (L : LC) : List E → List Expr → Bool
  | [], l => l.isEmpty
  | E :: Es, l => Es.isEmpty && (match l with
    | [e] => okE T L E true e
    | _ => false)
def okI (T : Tab) (L : LC) : I → Expr → Expr → Bool
  | .seq E, _, e => okE T L E false e
  | .rng1 A, _, e => (match e with
    | .Call (.Name x _) [a] [] _ => okB T L x "range" && okE T L A false a && !isStar a
    | _ => false)
  | .rng2 A B, _, e => (match e with
    | .Call (.Name x _) [a, b] [] _ => okB T L x "range" && okE T L A false a && okE T L B false b && !isStar a && !isStar b
    | _ => false)
  | .enum E, t, e => (match t, e with
    | .Tuple _ _ _, .Call (.Name x _) [a] [] _ => okB T L x "enumerate" && okE T L E false a && !isStar a
    | _, _ => false)
end
mutual
def okG (T : Tab) (L : LC) : G → Expr → Bool
  | .nm i, e => (match e with
    | .Name x _ => decide (L.N[i]? = some x) && isLoc L x
    | _ => false)
  | .tp gs, e => (match e with
    | .Tuple es _ _ => okGs T L gs es
    | _ => false)
  | .sub o i, e => (match e with
    | .Subscript x y _ => okE T L o false x && okE T L i false y && !isSlc y
    | _ => false)
  | .att _ _, _ => false
def okGs (T : Tab) (L : LC) : List G → List Expr → Bool
  | [], l => l.isEmpty
  | g :: gs, l => (match l with
    | e :: es => okG T L g e && !isStar e && okGs T L gs es
    | [] => false)
end
def isTupE : Expr → Bool
  | .Tuple _ _ _ => true
  | .List _ _ => true
  | _ => false
def isCompE : Expr → Bool
  | .ListComp _ _ _ _ => true
  | .SetComp _ _ _ _ => true
  | .DictComp _ _ _ _ _ => true
  | _ => false
def isCompE2 : Expr → Bool
  | .SetComp _ _ _ _ => true
  | .DictComp _ _ _ _ _ => true
  | _ => false
def isNameE : Expr → Bool
  | .Name _ _ => true
  | _ => false
/-- a comprehension that is stored within its own frame -/
def swB (L : LC) (t : Expr) (e : Expr) : Bool := match t, e with
  | .Name y py, .ListComp _ _ scope pos => decide (L.sc.names.lookup y = some .local) && (py.line == pos.line) && !(scope.names.any fun (n, k) => n == y && (k == .local || k == .cell))
  | _, _ => false
mutual
def okS (T : Tab) (L : LC) : S → Stmt → Bool
  | .asg g E, s => (match s with
    | .Assign [t] e _ => okG T L g t && okE T L E false e && !isStar t && !(isTupE t && isTupE e) && !isCompE2 e
    | _ => false)
  | .ex E, s => (match s with
    | .Expr e _ => okE T L E false e && !isCompE e
    | _ => false)
  | .ret E, s => (match s with
    | .Return (some e) _ => okE T L E false e
    | _ => false)
  | .ite c a b, s => (match s with
    | .If t x y _ => okE T L c true t && okSs T L a x && okSs T L b y
    | _ => false)
  | .for_ g it b, s => (match s with
    | .For t i x [] _ => okG T L g t && okI T L it t i && okSs T L b x && !isSet i && !isStar t
    | _ => false)
  | .while_ c b, s => (match s with
    | .While t x [] _ => okE T L c true t && okSs T L b x
    | _ => false)
  | .brk, s => (match s with
    | .Break _ => true
    | _ => false)
  | .cont, s => (match s with
    | .Continue _ => true
    | _ => false)
  | .pass, s => (match s with
    | .Pass _ => true
    | _ => false)
def okSs (T : Tab) (L : LC) : List S → List Stmt → Bool
  | [], l => l.isEmpty
  | S :: Ss, l => (match l with
    | s :: ss => okS T L S s && okSs T L Ss ss
    | [] => false)
end

/-! ### what is known where the code runs -/
structure CtxOk (T : Tab) (cf : Calls) (L : LC) (X : Cx) (W : WX) : Prop where
  N : X.N = L.N
  nd : X.N.Nodup
  sc : X.env.scope = L.sc
  kind : L.sc.kind = .function
  calm : X.calm = true
  hu : X.A.units + 64 < cLine
  free : ∀ x ∈ T.frees, X.mg x = none
  con : ∀ p ∈ T.consts, ∃ (u : Value) (v : V), X.mg p.1 = some u ∧ RelV v u ∧ (∀ ρ Z H, RepS X.K ρ Z H p.2 v) ∧ ∀ ds, p.2 = .tup ds → ∃ a o, v = .ref a ∧ X.K.lookup a = some o ∧ o.cls = .type "tuple" ∧ o.dict = none
  gd : X.A.guards = some []
  kw : ∀ q ∈ T.kws, ∃ (fa : Addr) (fd : FuncData) (ps : List Str) (k : Nat), X.mg q.name = some (.ref fa) ∧ PySem.W.keepIn X.K (.ref fa) = true ∧ BindA X.K fd ps q.n q.ks q.arr ∧ Room k X.A ∧
    FnG X.prog X.w X.K X.mg X.base k fa fd ps (spF X.K cf q.np q.ix) ∧ ∀ ds s, ds.length ≠ q.np → cf q.ix ds s = .stuck
  fn : ∀ p ∈ T.fns, ∃ (fa : Addr) (fd : FuncData) (ps : List Str) (k : Nat), X.mg p.name = some (.ref fa) ∧ PySem.W.keepIn X.K (.ref fa) = true ∧ Binds X.K fd ps [] ∧ Room k X.A ∧
    FnG X.prog X.w X.K X.mg X.base k fa fd ps (spF X.K cf p.np p.ix) ∧ ∀ ds s, ds.length ≠ p.np → cf p.ix ds s = .stuck
  pass : ∀ σ, PassesAt (L2.CX X.prog X.w) X σ (WE W σ)
  own : PassesOwn (model X.prog X.w) X.A X.env X.xe
  sto : (L.blk = none ∧ ∀ x, X.fn x = true) ∨ ∃ sc, L.blk = some sc ∧ ∀ x, X.fn x = (sc.names.lookup x == some .cell)
/-- no exception is wanted -/
abbrev W0 : WX := fun _ _ _ _ => False
theorem CtxOk.blk {T : Tab} {cf : Calls} {L : LC} {X : Cx} {W : WX} (c : CtxOk T cf L X W) (s : Shared) (H : Hp) (scope : Scope) (C : Addr) (cl : List (Str × Addr)) (fp : List Addr) (hk : scope.kind = .function) :
    CtxOk T cf (blkL L scope) (X.blk s H scope (compEnvC scope cl C X.env) fp) W0 := by
  have hsc : (compEnvC scope cl C X.env).scope = relS scope L.sc := by
    show relabel scope X.env = _
    unfold relabel relS Env.kindOf
    rw [c.sc]
  exact ⟨c.N, c.nd, hsc, hk, c.calm, c.hu, c.free, c.con, c.gd, c.kw, c.fn, fun σ pins H' s' e s'' I h => by
    obtain ⟨_, _, _, _, _, _, _, _, _, _, _, _, z⟩ := h
    exact z.elim, PassesOwn.never, .inr ⟨scope, rfl, fun x => rfl⟩⟩
section
variable {T : Tab} {cf : Calls} {L : LC} {X : Cx} {W : WX}
theorem CtxOk.vis (c : CtxOk T cf L X W) {x : Str} (h : isVis L x = true) : Vis X.env.scope x := by
  rw [c.sc]
  unfold isVis at h
  split at h
  · exact .inl (by assumption)
  · exact .inr (.inl (by assumption))
  · exact .inr (.inr (by assumption))
  · cases h
theorem CtxOk.loc (c : CtxOk T cf L X W) {x : Str} (h : isLoc L x = true) : Loc X.env.scope x ∧ (X.fn x = true ∨ X.env.scope.names.lookup x = some .local) := by
  rw [c.sc]
  unfold isLoc at h
  split at h
  · rename_i e
    exact ⟨.inl e, .inr e⟩
  · rename_i e
    refine ⟨.inr e, .inl ?_⟩
    rcases c.sto with ⟨h1, h2⟩ | ⟨sc, h1, h2⟩
    · exact h2 x
    · rw [h1] at h
      rw [h2]; exact h
  · cases h
theorem CtxOk.gl (c : CtxOk T cf L X W) {x : Str} (h : isGl L x = true) : Gl X x ∧ (x == ("__debug__" : Str)) = false := by
  have h' := Bool.and_eq_true_iff.mp h
  refine ⟨?_, by simpa using h'.2⟩
  show X.env.scope.names.lookup x = _
  rw [c.sc]
  exact of_decide_eq_true h'.1
theorem CtxOk.blt (c : CtxOk T cf L X W) {x y : Str} (h : okB T L x y = true) : x = y ∧ Gl X x ∧ X.mg x = none := by
  have h' := Bool.and_eq_true_iff.mp h
  have h2 := Bool.and_eq_true_iff.mp h'.1
  exact ⟨by simpa using h2.1, (c.gl h2.2).1, c.free x (List.contains_iff_mem.mp h'.2)⟩
theorem CtxOk.name (c : CtxOk T cf L X W) {i : Nat} {e : Expr} (h : okN L i e = true) : PE X e (tVar i) := by
  cases e <;> first | (cases h; done) | skip
  rename_i x pos
  simp only [okN, Bool.and_eq_true] at h
  obtain ⟨⟨⟨h1, h2⟩, h3⟩, h4⟩ := h
  exact pe_var (by rw [c.N]; exact of_decide_eq_true h1) (c.vis h2) (by simpa using h3) (by simpa using h4)
theorem star_of {e : Expr} (h : isStar e = false) (es : List Expr) (env : PySem.Env) : starEach (e :: es) env = (false, eval e env) :: starEach es env := by
  cases e <;> first | rfl | cases h
theorem const_rep {K : PySem.W.Frag} {d : D} {v : V} (h : ∀ ρ Z H, RepS K ρ Z H d v) {σ : L2.St} {H : Hp} {Q : VK} (q : simE K W (.ret d) σ H Q) : tC v σ H Q := by
  obtain ⟨ρ, Z, S, en, F, ⟨k, r⟩, h1⟩ := q
  exact h1 ρ Z v H k (r.push (h ρ Z H))
theorem CtxOk.const (c : CtxOk T cf L X W) {d : D} {e : Expr} (h : okK T L d e = true) : PE X e (simE X.K W (.ret d)) := by
  cases e <;> first | (cases h; done) | skip
  · rename_i v k pos
    cases v <;> first | (cases h; done) | skip
    · cases d <;> first | (cases h; done) | skip
      exact PE.by pe_non fun σ H Q q => const_rep (d := .non) (fun _ _ _ => rfl) q
    · cases d <;> first | (cases h; done) | skip
      simp only [okK, beq_iff_eq] at h
      subst h
      exact PE.by pe_bl fun σ H Q q => const_rep (d := .bl _) (fun _ _ _ => rfl) q
    · cases d <;> first | (cases h; done) | skip
      simp only [okK, beq_iff_eq] at h
      subst h
      exact PE.by pe_int fun σ H Q q => const_rep (d := .int _) (fun _ _ _ => rfl) q
    · cases d <;> first | (cases h; done) | skip
      simp only [okK, beq_iff_eq] at h
      subst h
      exact PE.by pe_str fun σ H Q q => const_rep (d := .str _) (fun _ _ _ => rfl) q
  · rename_i x pos
    simp only [okK, Bool.and_eq_true, List.any_eq_true, beq_iff_eq] at h
    obtain ⟨h1, p, hp, h2, h3⟩ := h
    obtain ⟨u, v, hm, hr, hd, _⟩ := c.con p hp
    rw [D.beq_eq _ _ h3] at hd
    rw [h2] at hm
    exact PE.by (pe_glob (c.gl h1).1 hm hr (c.gl h1).2) fun σ H Q q => const_rep hd q
/-- readings of several expressions, one after another -/
def tAll : List TE → TA
  | [] => tNil
  | t :: ts => tCons t (tAll ts)
abbrev Reads' (X : Cx) (es : List Expr) (ts : List TE) : Prop := Paired (fun e t => PE X e t) es ts
theorem rd1 {a : Expr} {ts : List TE} (h : Reads' X [a] ts) : ∃ t, ts = [t] ∧ PE X a t := by
  cases h with | cons h t => cases t; exact ⟨_, rfl, h⟩
theorem rd2 {a b : Expr} {ts : List TE} (h : Reads' X [a, b] ts) : ∃ t u, ts = [t, u] ∧ PE X a t ∧ PE X b u := by
  cases h with | cons h t => cases t with | cons k t => cases t; exact ⟨_, _, rfl, h, k⟩
theorem rd3 {a b d : Expr} {ts : List TE} (h : Reads' X [a, b, d] ts) : ∃ t u w, ts = [t, u, w] ∧ PE X a t ∧ PE X b u ∧ PE X d w := by
  cases h with | cons h t => cases t with | cons k t => cases t with | cons l t => cases t; exact ⟨_, _, _, rfl, h, k, l⟩
theorem bin_P {p : P} {op : Operator} {a b : Expr} {pos : Pos} {ta tb : TE} (ho : OpR X (binaryOp op) (rP2 X.K p)) (ha : PE X a ta) (hb : PE X b tb) : PE X (.BinOp a op b pos) (fun σ H Q => tAll [ta, tb] σ H fun vs H' => rP X.K p vs H' Q) :=
  PE.by (pe_op ho ha hb) fun _ _ _ q => q
end
end Mi
end
section
set_option Elab.async false
set_option maxRecDepth 100000
set_option linter.all false
namespace Mi
open PySem PySem.Spec PyProof.Rows L2
section
variable {T : Tab} {cf : Calls} {L : LC} {X : Cx} {W : WX}
abbrev tP (K : PySem.W.Frag) (p : P) (ts : List TE) : TE := fun σ H Q => tAll ts σ H fun vs H' => rP K p vs H' Q
theorem boot_str' : bootBuiltins "str" = some (.type "str") := by decide +kernel
theorem boot_len' : bootBuiltins "len" = some (.builtin "len") := by decide +kernel
theorem boot_list' : bootBuiltins "list" = some (.type "list") := by decide +kernel
theorem boot_tuple' : bootBuiltins "tuple" = some (.type "tuple") := by decide +kernel
theorem boot_int' : bootBuiltins "int" = some (.type "int") := by decide +kernel
theorem boot_min' : bootBuiltins "min" = some (.builtin "min") := by decide +kernel
theorem boot_max' : bootBuiltins "max" = some (.builtin "max") := by decide +kernel
theorem boot_isi' : bootBuiltins "isinstance" = some (.builtin "isinstance") := by decide +kernel
theorem boot_isiN (t : Nat) (h : t ≤ 4) : bootBuiltins (Str.ofString (isiN t)) = some (.type (isiN t)) := by
  have : t = 0 ∨ t = 1 ∨ t = 2 ∨ t = 3 ∨ t = 4 := by omega
  rcases this with h | h | h | h | h <;> subst h <;> decide +kernel
theorem name_isiN (t : Nat) (h : t ≤ 4) : Str.ofString (isiN t) ≠ "__name__" ∧ (Str.ofString (isiN t) == ("__debug__" : Str)) = false := by
  have : t = 0 ∨ t = 1 ∨ t = 2 ∨ t = 3 ∨ t = 4 := by omega
  rcases this with h | h | h | h | h <;> subst h <;> decide +kernel
theorem plain_ix {b : Expr} (h : isSlc b = false) : PlainIx b := by
  cases b <;> first | (exact fun _ _ => rfl) | cases h
theorem star_nil (env : PySem.Env) (pos : Pos) : (backTo pos (starEach [] env)).any (·.1) = false := rfl
theorem star_one {b : Expr} (h : isStar b = false) (env : PySem.Env) (pos : Pos) : (backTo pos (starEach [b] env)).any (·.1) = false := by
  rw [star_of h]; rfl
theorem add_rfl {t : TE} {R : V → Hp → Prop} {σ : L2.St} {H : Hp} (q : t σ H R) : t σ H fun x H1 => V.non = V.non ∧ R x H1 := by
  have e : R = fun x H1 => V.non = V.non ∧ R x H1 := by funext x H1; simp
  rw [← e]; exact q
theorem po_q {t : TE} {R : Option Int → Hp → Prop} {R' : V → Hp → Prop} {σ : L2.St} {H : Hp} (e : R' = fun x H1 => ∃ i, x = .int i ∧ R (some i) H1) (q : t σ H R') : tPart t σ H R := by
  unfold tPart; rw [← e]; exact q
/-- a[l:h], both written -/
theorem pe_slice2 {a l h : Expr} {ta tl th : TE} {p2 pos : Pos} (ha : PE X a ta) (hl : PE X l tl) (hh : PE X h th) : PE X (.Subscript a (.Slice (some l) (some h) none p2) pos) (tP X.K (.slc true true) [ta, tl, th]) := by
  refine ⟨fun pins s σ H Q I q => ?_⟩
  refine Subscript_ (thn (ha.run pins s σ H _ I q) fun va s1 ⟨x, H1, I1, rx, q1⟩ => ?_)
  refine wpAny_Slice ?_
  rw [evalPart_some, evalPart_some, evalPart_none]
  refine thn (hl.run pins s1 σ H1 _ I1 q1) fun vl s2 ⟨y, H2, I2, ry, q2⟩ => thn (hh.run pins s2 σ H2 _ I2 q2) fun vh s3 ⟨z, H3, I3, rz, q3⟩ => ?_
  obtain ⟨ρ, Z, ds, d, e, ar, hQ⟩ := q3
  obtain ⟨da, dl, dh, rfl, ra, rl, rh⟩ : ∃ da dl dh, ds = [da, dl, dh] ∧ Rep X.K ρ Z H3 da x ∧ Rep X.K ρ Z H3 dl y ∧ Rep X.K ρ Z H3 dh z := by
    cases ar with | cons h1 t => cases t with | cons h2 t => cases t with | cons h3 t => cases t; exact ⟨_, _, _, rfl, h1, h2, h3⟩
  cases dl <;> cases dh <;> first | (simp [primF] at e; done) | skip
  rename_i i j
  cases rl.int
  cases rh.int
  obtain ⟨ti, rfl⟩ := ry
  obtain ⟨tj, rfl⟩ := rz
  refine wpAny_pure ?_
  have J : Inv X pins σ H3 { s3 with heap := s3.heap.push { cls := .type "slice", data := .fields #[.int i ti, .int j tj, .none] } } := I3.kept (t' := s3.toks) fun _ _ k => Heap.get?_push_of_some _ k
  obtain ⟨T', id, hT, hty, hg⟩ := sl_P pins _ σ H3 x va (.int i ti) (.int j tj) (some i) (some j) s3.heap.objs.size Q J rx (Heap.IsSliceOf.new ..) (.int i ti) (.int j tj) ⟨ρ, Z, da, d, e, ra, hQ⟩
  exact tail_any (ops := [.ref s3.heap.objs.size, va]) hty hT hg (by with_unfolding_all rfl)
/-- the operands' stars: none -/
theorem CtxOk.prim (c : CtxOk T cf L X W) {p : P} {e : Expr} {k : List Expr → Bool} (h : okP T L p e k = true) :
    ∃ l, k l = true ∧ ((∀ e ∈ l, isStar e = false) → ∀ ts, Reads' X l ts → PE X e (tP X.K p ts)) := by
  unfold okP at h
  split at h
  · exact ⟨_, h, fun _ ts r => by obtain ⟨t, u, rfl, ha, hb⟩ := rd2 r; exact PE.by (pe_op op_add_P ha hb) fun _ _ _ q => q⟩
  · exact ⟨_, h, fun _ ts r => by obtain ⟨t, u, rfl, ha, hb⟩ := rd2 r; exact PE.by (pe_op op_sub_P ha hb) fun _ _ _ q => q⟩
  · exact ⟨_, h, fun _ ts r => by obtain ⟨t, u, rfl, ha, hb⟩ := rd2 r; exact PE.by (pe_op op_mul_P ha hb) fun _ _ _ q => q⟩
  · exact ⟨_, h, fun _ ts r => by obtain ⟨t, u, rfl, ha, hb⟩ := rd2 r; exact PE.by (pe_op op_mod_P ha hb) fun _ _ _ q => q⟩
  · exact ⟨_, h, fun _ ts r => by obtain ⟨t, u, rfl, ha, hb⟩ := rd2 r; exact PE.by (pe_op op_fdiv_P ha hb) fun _ _ _ q => q⟩
  · exact ⟨_, h, fun _ ts r => by obtain ⟨t, u, rfl, ha, hb⟩ := rd2 r; exact PE.by (pe_op op_pow_P ha hb) fun _ _ _ q => q⟩
  · exact ⟨_, h, fun _ ts r => by obtain ⟨t, u, rfl, ha, hb⟩ := rd2 r; exact PE.by (pe_cmpR (op_eq_P c.hu) ha hb (nomark _)) fun _ _ _ q => q⟩
  · exact ⟨_, h, fun _ ts r => by obtain ⟨t, u, rfl, ha, hb⟩ := rd2 r; exact PE.by (pe_cmpR (op_ne_P c.hu) ha hb (nomark _)) fun _ _ _ q => q⟩
  · exact ⟨_, h, fun _ ts r => by obtain ⟨t, u, rfl, ha, hb⟩ := rd2 r; exact PE.by (pe_cmpR op_lt_P ha hb (nomark _)) fun _ _ _ q => q⟩
  · exact ⟨_, h, fun _ ts r => by obtain ⟨t, u, rfl, ha, hb⟩ := rd2 r; exact PE.by (pe_cmpR op_le_P ha hb (nomark _)) fun _ _ _ q => q⟩
  · exact ⟨_, h, fun _ ts r => by obtain ⟨t, u, rfl, ha, hb⟩ := rd2 r; exact PE.by (pe_cmpR op_gt_P ha hb (nomark _)) fun _ _ _ q => q⟩
  · exact ⟨_, h, fun _ ts r => by obtain ⟨t, u, rfl, ha, hb⟩ := rd2 r; exact PE.by (pe_cmpR op_ge_P ha hb (nomark _)) fun _ _ _ q => q⟩
  · have h' := Bool.and_eq_true_iff.mp h
    exact ⟨_, h'.2, fun _ ts r => by obtain ⟨t, u, rfl, ha, hb⟩ := rd2 r; exact PE.by (pe_cmpR (op_in_P c.hu) ha hb (by simpa using h'.1)) fun _ _ _ q => q⟩
  · have h' := Bool.and_eq_true_iff.mp h
    exact ⟨_, h'.2, fun _ ts r => by obtain ⟨t, u, rfl, ha, hb⟩ := rd2 r; exact PE.by (pe_cmpR (op_notin_P c.hu) ha hb (by simpa using h'.1)) fun _ _ _ q => q⟩
  · refine ⟨_, h, fun _ ts r => ?_⟩
    obtain ⟨t, rfl, ha⟩ := rd1 r
    exact PE.by (pe_cmpR op_isN_P ha pe_non (nomark _)) fun σ H Q q => add_rfl q
  · refine ⟨_, h, fun _ ts r => ?_⟩
    obtain ⟨t, rfl, ha⟩ := rd1 r
    exact PE.by (pe_cmpR op_notN_P ha pe_non (nomark _)) fun σ H Q q => add_rfl q
  · exact ⟨_, h, fun _ ts r => by obtain ⟨t, rfl, ha⟩ := rd1 r; exact PE.by (pe_un un_neg_P ha) fun _ _ _ q => q⟩
  · have h' := Bool.and_eq_true_iff.mp h
    exact ⟨_, h'.2, fun _ ts r => by obtain ⟨t, u, rfl, ha, hb⟩ := rd2 r; exact PE.by (pe_ix ix_P ha hb (plain_ix (by simpa using h'.1))) fun _ _ _ q => q⟩
  · have h' := Bool.and_eq_true_iff.mp h
    refine ⟨_, h'.2, fun st ts r => ?_⟩
    obtain ⟨t, rfl, ha⟩ := rd1 r
    obtain ⟨rfl, hg, hm⟩ := c.blt h'.1
    exact PE.by (pe_callB call_len_P hg hm boot_len' (pa_cons ha pa_nil (star_of (st _ (by simp)) _ _)) (by decide +kernel) (by decide +kernel) (star_of (st _ (by simp)) _ _)) fun _ _ _ q => q
  · have h' := Bool.and_eq_true_iff.mp h
    refine ⟨_, h'.2, fun st ts r => ?_⟩
    obtain ⟨t, rfl, ha⟩ := rd1 r
    obtain ⟨rfl, hg, hm⟩ := c.blt h'.1
    exact PE.by (pe_callTy (call_str_P c.hu c.gd) hg hm boot_str' (pa_cons ha pa_nil (star_of (st _ (by simp)) _ _)) (by decide +kernel) (by decide +kernel) (star_of (st _ (by simp)) _ _)) fun _ _ _ q => q
  · have h' := Bool.and_eq_true_iff.mp h
    refine ⟨_, h'.2, fun st ts r => ?_⟩
    obtain ⟨t, rfl, ha⟩ := rd1 r
    obtain ⟨rfl, hg, hm⟩ := c.blt h'.1
    exact PE.by (pe_callTy (call_list_P c.calm) hg hm boot_list' (pa_cons ha pa_nil (star_of (st _ (by simp)) _ _)) (by decide +kernel) (by decide +kernel) (star_of (st _ (by simp)) _ _)) fun _ _ _ q => q
  · have h' := Bool.and_eq_true_iff.mp h
    refine ⟨_, h'.2, fun st ts r => ?_⟩
    obtain ⟨t, rfl, ha⟩ := rd1 r
    obtain ⟨rfl, hg, hm⟩ := c.blt h'.1
    exact PE.by (pe_callTy call_tuple_P hg hm boot_tuple' (pa_cons ha pa_nil (star_of (st _ (by simp)) _ _)) (by decide +kernel) (by decide +kernel) (star_of (st _ (by simp)) _ _)) fun _ _ _ q => q
  · have h' := Bool.and_eq_true_iff.mp h
    refine ⟨_, h'.2, fun st ts r => ?_⟩
    obtain ⟨t, rfl, ha⟩ := rd1 r
    obtain ⟨rfl, hg, hm⟩ := c.blt h'.1
    exact PE.by (pe_callTy call_int_P hg hm boot_int' (pa_cons ha pa_nil (star_of (st _ (by simp)) _ _)) (by decide +kernel) (by decide +kernel) (star_of (st _ (by simp)) _ _)) fun _ _ _ q => q
  · have h' := Bool.and_eq_true_iff.mp h
    refine ⟨_, h'.2, fun st ts r => ?_⟩
    obtain ⟨t, u, rfl, ha, hb⟩ := rd2 r
    obtain ⟨rfl, hg, hm⟩ := c.blt h'.1
    exact PE.by (pe_callB (call_min2_P c.calm) hg hm boot_min' (pa_cons ha (pa_cons hb pa_nil (star_of (st _ (by simp)) _ _)) (star_of (st _ (by simp)) _ _)) (by decide +kernel) (by decide +kernel) (star_of (st _ (by simp)) _ _) (star_one (st _ (by simp)) _ _)) fun _ _ _ q => q
  · have h' := Bool.and_eq_true_iff.mp h
    refine ⟨_, h'.2, fun st ts r => ?_⟩
    obtain ⟨t, u, rfl, ha, hb⟩ := rd2 r
    obtain ⟨rfl, hg, hm⟩ := c.blt h'.1
    exact PE.by (pe_callB (call_max2_P c.calm) hg hm boot_max' (pa_cons ha (pa_cons hb pa_nil (star_of (st _ (by simp)) _ _)) (star_of (st _ (by simp)) _ _)) (by decide +kernel) (by decide +kernel) (star_of (st _ (by simp)) _ _) (star_one (st _ (by simp)) _ _)) fun _ _ _ q => q
  · simp only [Bool.and_eq_true, decide_eq_true_eq] at h
    obtain ⟨⟨⟨h1, h2⟩, h3⟩, h4⟩ := h
    refine ⟨_, h4, fun st ts r => ?_⟩
    obtain ⟨t, rfl, ha⟩ := rd1 r
    obtain ⟨rfl, hg, hm⟩ := c.blt h1
    obtain ⟨rfl, hg2, hm2⟩ := c.blt h3
    have ht := name_isiN _ h2
    refine PE.by (pe_callB (call_isi_P h2) hg hm boot_isi' (pa_cons ha (pa_cons (pe_bltn hg2 hm2 (boot_isiN _ h2) (show RelV (.ty _) _ from rfl) ht.1 ht.2) pa_nil rfl) (star_of (st _ (by simp)) _ _)) (by decide +kernel) (by decide +kernel) (star_of (st _ (by simp)) _ _)) fun σ H Q q => ?_
    rename_i ty _ _ _ _
    have e : (fun (x : V) (H1 : Hp) => rP X.K (.isi ty) [x] H1 Q) = fun x H1 => ∃ x', [x, V.ty (isiN ty)] = [x', V.ty (isiN ty)] ∧ rP X.K (.isi ty) [x'] H1 Q := by
      funext x H1
      simp
    replace q : t σ H fun x H1 => rP X.K (.isi ty) [x] H1 Q := q
    rw [e] at q
    exact q
  · refine ⟨_, h, fun st ts r => ?_⟩
    obtain ⟨t, rfl, ha⟩ := rd1 r
    refine PE.by (pe_slice sl_P ha po_none po_none) fun σ H Q q => ?_
    have e : (fun (x : V) (H1 : Hp) => rP X.K (.slc false false) [x] H1 Q) = fun x H1 => rSlP X.K x none none H1 Q := by
      funext x H1
      refine propext ⟨fun ⟨ρ, Z, ds, d, e, ar, hQ⟩ => ?_, fun ⟨ρ, Z, a, d, e, ha, hQ⟩ => ⟨ρ, Z, [a], d, e, .cons ha .nil, hQ⟩⟩
      obtain ⟨a, rfl, ha⟩ := paired1 ar
      exact ⟨ρ, Z, a, d, e, ha, hQ⟩
    replace q : t σ H fun x H1 => rP X.K (.slc false false) [x] H1 Q := q
    rw [e] at q
    exact q
  · refine ⟨_, h, fun st ts r => ?_⟩
    obtain ⟨t, u, rfl, ha, hb⟩ := rd2 r
    refine PE.by (pe_slice sl_P ha (po_some hb) po_none) fun σ H Q q => ?_
    have e : (fun (x : V) (H1 : Hp) => u σ H1 fun y H2 => rP X.K (.slc true false) [x, y] H2 Q) = fun x H1 => tPart u σ H1 fun l H2 => rSlP X.K x l none H2 Q := by
      funext x H1
      have e2 : (fun (y : V) (H2 : Hp) => rP X.K (.slc true false) [x, y] H2 Q) = fun y H2 => ∃ i, y = .int i ∧ rSlP X.K x (some i) none H2 Q := by
        funext y H2
        refine propext ⟨fun ⟨ρ, Z, ds, d, e, ar, hQ⟩ => ?_, fun ⟨i, hi, ρ, Z, a, d, e, ha, hQ⟩ => ⟨ρ, Z, [a, .int i], d, e, .cons ha (.cons hi .nil), hQ⟩⟩
        obtain ⟨a, b, rfl, ha, hb⟩ := paired2 ar
        cases b <;> first | (simp [primF] at e; done) | skip
        exact ⟨_, hb, ρ, Z, a, d, e, ha, hQ⟩
      unfold tPart
      rw [← e2]
    replace q : t σ H fun x H1 => u σ H1 fun y H2 => rP X.K (.slc true false) [x, y] H2 Q := q
    rw [e] at q
    exact q
  · refine ⟨_, h, fun st ts r => ?_⟩
    obtain ⟨t, u, rfl, ha, hb⟩ := rd2 r
    refine PE.by (pe_slice sl_P ha po_none (po_some hb)) fun σ H Q q => ?_
    have e : (fun (x : V) (H1 : Hp) => u σ H1 fun y H2 => rP X.K (.slc false true) [x, y] H2 Q) = fun x H1 => tPart u σ H1 fun l H2 => rSlP X.K x none l H2 Q := by
      funext x H1
      have e2 : (fun (y : V) (H2 : Hp) => rP X.K (.slc false true) [x, y] H2 Q) = fun y H2 => ∃ i, y = .int i ∧ rSlP X.K x none (some i) H2 Q := by
        funext y H2
        refine propext ⟨fun ⟨ρ, Z, ds, d, e, ar, hQ⟩ => ?_, fun ⟨i, hi, ρ, Z, a, d, e, ha, hQ⟩ => ⟨ρ, Z, [a, .int i], d, e, .cons ha (.cons hi .nil), hQ⟩⟩
        obtain ⟨a, b, rfl, ha, hb⟩ := paired2 ar
        cases b <;> first | (simp [primF] at e; done) | skip
        exact ⟨_, hb, ρ, Z, a, d, e, ha, hQ⟩
      unfold tPart
      rw [← e2]
    replace q : t σ H fun x H1 => u σ H1 fun y H2 => rP X.K (.slc false true) [x, y] H2 Q := q
    rw [e] at q
    exact q
  · refine ⟨_, h, fun st ts r => ?_⟩
    obtain ⟨t, u, w, rfl, ha, hb, hc⟩ := rd3 r
    exact pe_slice2 ha hb hc
  · cases h
end
end Mi
end
section
set_option Elab.async false
set_option maxRecDepth 100000
set_option linter.all false
namespace Mi
open PySem PySem.Spec PyProof.Rows L2
section
variable {T : Tab} {cf : Calls} {L : LC} {X : Cx} {W : WX}
theorem stars_of : ∀ {es : List Expr} (h : ∀ e ∈ es, isStar e = false) (env : PySem.Env) (pos : Pos), (backTo pos (starEach es env)).any (·.1) = false
  | [], _, _, _ => rfl
  | e :: es, h, env, pos => by
    rw [star_of (h e List.mem_cons_self)]
    show (false || (backTo pos (starEach es env)).any (·.1)) = false
    rw [stars_of fun e he => h e (List.mem_cons_of_mem _ he)]
    rfl
theorem okEs_star : ∀ {es : List E} {l : List Expr}, okEs T L es l = true → ∀ e ∈ l, isStar e = false
  | [], [], _, _, h => by cases h
  | [], _ :: _, h, _, _ => by cases h
  | _ :: _, [], h, _, _ => by cases h
  | E :: es, e :: l, h, x, hx => by
    replace h : (okE T L E false e && !isStar e && okEs T L es l) = true := h
    simp only [Bool.and_eq_true, Bool.not_eq_true'] at h
    rcases List.mem_cons.mp hx with hx | hx
    · rw [hx]; exact h.1.2
    · exact okEs_star h.2 x hx
/-- a test of a value -/
theorem plain_test {e : Expr} (h1 : ∀ x p, e ≠ .UnaryOp .Not x p) (h2 : ∀ o l p, e ≠ .BoolOp o l p) (h3 : ∀ a b c p, e ≠ .IfExp a b c p) (h4 : ∀ a o l p, e ≠ .Compare a o l p) (env : PySem.Env) (whole : Sem Value) :
    isTrue e env whole = (do let v ← whole; standAt e.pos; holding [v] (PySem.truthy v)) := by
  cases e with
  | UnaryOp op x p => cases op <;> first | rfl | exact absurd rfl (h1 x p)
  | BoolOp o l p => exact absurd rfl (h2 o l p)
  | IfExp a b c p => exact absurd rfl (h3 a b c p)
  | Compare a o l p => exact absurd rfl (h4 a o l p)
  | _ => rfl
theorem cmp_bl {p : P} {o : CmpOp} (h : cmpOp p = some o) : ∀ ds d, primF p ds = some d → ∃ b, d = .bl b := by
  intro ds d e
  have pc : ∀ {fi : Int → Int → Bool} {fs : List Nat → List Nat → Bool} {a b : D}, pCmp fi fs a b = some d → ∃ b, d = .bl b := by
    intro fi fs a b h
    cases a <;> cases b <;> simp only [pCmp, Option.some.injEq] at h <;> first | (cases h; done) | exact ⟨_, h.symm⟩
  have pq : ∀ {n : Bool} {a b : D}, pEq n a b = some d → ∃ b, d = .bl b := by
    intro n a b h
    unfold pEq at h
    split at h <;> first | (cases h; exact ⟨_, rfl⟩) | cases h
  have two : ∀ {f : D → D → Option D}, (∀ a b, primF p [a, b] = f a b) → (∀ a b, f a b = some d → ∃ b, d = .bl b) → (∀ l, l.length ≠ 2 → primF p l = none) → ∃ b, d = .bl b := by
    intro f h1 h2 h3
    by_cases hl : ds.length = 2
    · match ds, hl with
      | [a, b], _ => exact h2 a b (by rw [← h1]; exact e)
    · rw [h3 ds hl] at e; cases e
  have no2 : ∀ l : List D, l.length ≠ 2 → l = [] ∨ (∃ a, l = [a]) ∨ ∃ a b c r, l = a :: b :: c :: r := by
    intro l hl
    match l with
    | [] => exact .inl rfl
    | [a] => exact .inr (.inl ⟨a, rfl⟩)
    | [a, b] => exact absurd rfl hl
    | a :: b :: c :: r => exact .inr (.inr ⟨a, b, c, r, rfl⟩)
  have fin : ∀ l : List D, l.length ≠ 2 → primF p l = none := by
    intro l hl
    rcases no2 l hl with rfl | ⟨a, rfl⟩ | ⟨a, b, c, r, rfl⟩ <;> (cases p <;> simp only [cmpOp] at h <;> first | (cases h; done) | rfl)
  cases p <;> simp only [cmpOp] at h <;> first | (cases h; done) | skip
  · exact two (fun _ _ => rfl) (fun a b hh => pq hh) fin
  · exact two (fun _ _ => rfl) (fun a b hh => pq hh) fin
  · exact two (f := pCmp (fun i j => decide (i < j)) (fun i j => decide (i < j))) (fun _ _ => rfl) (fun a b hh => pc hh) fin
  · exact two (f := pCmp (fun i j => decide (i ≤ j)) (fun i j => !decide (j < i))) (fun _ _ => rfl) (fun a b hh => pc hh) fin
  · exact two (f := pCmp (fun i j => decide (j < i)) (fun i j => decide (j < i))) (fun _ _ => rfl) (fun a b hh => pc hh) fin
  · exact two (f := pCmp (fun i j => decide (j ≤ i)) (fun i j => !decide (i < j))) (fun _ _ => rfl) (fun a b hh => pc hh) fin
theorem CtxOk.cmp (c : CtxOk T cf L X W) {p : P} {o : CmpOp} (h : cmpOp p = some o) : OpR X (compareOp o) (rP2 X.K p) ∧ o ≠ .In ∧ o ≠ .NotIn := by
  cases p <;> simp only [cmpOp, Option.some.injEq] at h <;> first | (cases h; done) | skip
  all_goals subst h
  · exact ⟨op_eq_P c.hu, by decide, by decide⟩
  · exact ⟨op_ne_P c.hu, by decide, by decide⟩
  · exact ⟨op_lt_P, by decide, by decide⟩
  · exact ⟨op_le_P, by decide, by decide⟩
  · exact ⟨op_gt_P, by decide, by decide⟩
  · exact ⟨op_ge_P, by decide, by decide⟩
theorem chain_mark {o1 o2 : CmpOp} {b c : Expr} (h : o2 ≠ .In) (h2 : o2 ≠ .NotIn) : lastMarks [o1, o2] [b, c] = false := by
  show behindInMarks o2 c = false
  exact nomark c h h2
/-- f(..) -/
theorem pe_callP {k : Nat} {f : Addr} {fd : FuncData} {ps : List Str} {sp : Sp} {E : L2.St → XK} {x : Str} {p pos : Pos} {e : Expr} {es : List Expr} {t : TA} (F : FnG X.prog X.w X.K X.mg X.base k f fd ps sp) (room : Room k X.A) (gd : X.A.guards = some []) (hg : Gl X x) (hdb : (x == ("__debug__" : Str)) = false) (hm : X.mg x = some (.ref f)) (hk : PySem.W.keepIn X.K (.ref f) = true) (hb : L2.Binds X.K fd ps [])
    (hx : ∀ σ, PassesAt (L2.CX X.prog X.w) X σ (E σ)) (ha : PA X (e :: es) t) (hse : starEach (e :: es) X.env = (false, eval e X.env) :: starEach es X.env) (hs : (backTo pos (starEach es X.env)).any (·.1) = false) : PE X (.Call (.Name x p) (e :: es) [] pos) (fun σ H Q => t σ H fun vs H1 => sp vs H1 Q (E σ)) := by
  refine ⟨fun pins s σ H Q I h => wpAny_Call_Name_kw (ld_glob I hg hm ?_ hdb)⟩
  refine PySem.W.callWith_K (h₀ := X.base) I.ok.mod.kin hk (thn (ha.run pos pins s σ H _ I h) fun us s1 ⟨vs, H1, I1, r, q⟩ => ⟨I1.kIn, ?_⟩) hse hs
  have b := hb s1 us I1.kIn (by rw [List.append_nil, ← r.length]; exact F.len _ _ _ _ q)
  rw [List.append_nil] at b
  exact run_G F room gd (hx σ) I1 b r q
theorem CtxOk.call (c : CtxOk T cf L X W) {x : Str} {f : Nat} {l : List Expr} {p pos : Pos} {t : TA} {ms : M (List D)} (hg : isGl L x = true) (hn : l.isEmpty = false) (hf : (T.fns.any fun p => p.name == x && p.ix == f) = true)
    (st : ∀ e ∈ l, isStar e = false) (ha : PA X l t) (ht : ∀ σ H Q, simAs X.K W ms σ H Q → t σ H Q) : PE X (.Call (.Name x p) l [] pos) (simE X.K W (ms.bind fun ds => callM cf f ds)) := by
  simp only [List.any_eq_true, Bool.and_eq_true, beq_iff_eq] at hf
  obtain ⟨q, hq, rfl, rfl⟩ := hf
  obtain ⟨fa, fd, ps, k, hm, hk, hb, hr, F, hz⟩ := c.fn q hq
  cases l with
  | nil => cases hn
  | cons e es =>
    have g := c.gl hg
    exact PE.by (pe_callP F hr c.gd g.1 g.2 hm hk hb c.pass ha (star_of (st e List.mem_cons_self) _ _) (stars_of (fun x hx => st x (List.mem_cons_of_mem _ hx)) _ _)) fun σ H Q q => ht σ H _ (call_of hz q)
theorem kw_names {env : PySem.Env} {pos : Pos} : ∀ {kw : List Keyword} {ks : List Str}, kw.map (·.arg) = ks.map some → (backToKw pos (keywordEach kw env)).all (·.1.isSome) = true ∧ (backToKw pos (keywordEach kw env)).filterMap (·.1) = ks
  | [], [], _ => ⟨rfl, rfl⟩
  | [], _ :: _, h => by cases h
  | _ :: _, [], h => by cases h
  | ⟨a, v, p⟩ :: kw, k :: ks, h => by
    simp only [List.map_cons, List.cons.injEq] at h
    obtain ⟨rfl, h2⟩ := h
    obtain ⟨i1, i2⟩ := kw_names (env := env) (pos := pos) h2
    refine ⟨?_, ?_⟩
    · show (true && (backToKw pos (keywordEach kw env)).all (·.1.isSome)) = true
      rw [i1]; rfl
    · show k :: (backToKw pos (keywordEach kw env)).filterMap (·.1) = _
      rw [i2]
theorem CtxOk.callA (c : CtxOk T cf L X W) {x : Str} {f : Nat} {l : List Expr} {kw : List Keyword} {p pos : Pos} {n m : Nat} {ms mz : M (List D)} {arr : List (Nat ⊕ D)} (hg : isGl L x = true)
    (hf : (T.kws.any fun q => q.name == x && q.ix == f && q.n == l.length && decide (kw.map (·.arg) = q.ks.map some) && arrB q.arr arr) = true) (e1 : n = l.length) (e2 : m = kw.length)
    (st : ∀ e ∈ l, isStar e = false) (ha : PA X l (simAs X.K W ms)) (hk : PK X kw (simAs X.K W mz)) (h0 : l = [] → ms = .ret []) :
    PE X (.Call (.Name x p) l kw pos) (simE X.K W (ms.bind fun ds => mz.bind fun zs => if ds.length = n ∧ zs.length = m then callM cf f (arrange arr ((ds ++ zs).map D.hard)) else .stuck)) := by
  simp only [List.any_eq_true, Bool.and_eq_true, beq_iff_eq, decide_eq_true_eq] at hf
  obtain ⟨q, hq, ⟨⟨⟨rfl, rfl⟩, h3⟩, h4⟩, h5⟩ := hf
  obtain rfl := arrB_eq h5
  obtain ⟨fa, fd, ps, k, hm, hki, hb, hr, F, hz⟩ := c.kw q hq
  obtain ⟨k1, k2⟩ := kw_names (env := X.env) (pos := pos) h4
  have hl : m = q.ks.length := by
    have := congrArg List.length h4
    simp at this
    omega
  have g := c.gl hg
  have e3 : n = q.n := by omega
  subst hl
  subst e3
  cases l with
  | nil =>
    have := h0 rfl
    subst this
    refine PE.by (pe_callG0 (E := fun σ => WE W σ) F hr c.gd g.1 g.2 hm hki hb c.pass hk k1 k2) fun σ H Q q' => ?_
    have := callA_of hz q'
    exact as_nil this
  | cons e es =>
    exact PE.by (pe_callG (E := fun σ => WE W σ) F hr c.gd g.1 g.2 hm hki hb c.pass ha hk k1 k2 (stars_of st _ _) (star_of (st e List.mem_cons_self) _ _)) fun σ H Q q' => callA_of hz q'
/-! ### methods that change nothing -/
theorem mt_all (c : CtxOk T cf L X W) {p : P} (h : p = .m 0 ∨ p = .m 1) : ∃ id, PlainAttrs (mTy p) ∧ Slot (mTy p) (mName p) id ∧ typeOf (.builtin id) = pure (.type "method_descriptor") ∧ MtR X id (fun x ws H Q => rP X.K p (x :: ws) H Q) := by
  rcases h with rfl | rfl
  · exact ⟨_, PySem.F.plainAttrs_list, PySem.F.slot_list_index, PySem.F.type_list_index, mt_index_P c.hu⟩
  · exact ⟨_, PySem.F.plainAttrs_tuple, PySem.F.slot_tuple_index, PySem.F.type_tuple_index, mt_tindex_P c.hu⟩
/-! ### methods of lists -/
theorem list_base {o : Expr} {n : Str} {env : PySem.Env} (h : ∀ x p pos, o ≠ .Call (.Name x p) [] [] pos) : attributeBase o n env (eval o env) = eval o env := by
  unfold attributeBase
  cases o with
  | Call f as ks pos =>
    cases f <;> first | rfl | skip
    cases as <;> first | rfl | skip
    cases ks <;> first | rfl | skip
    exact absurd rfl (h _ _ _)
  | _ => rfl
theorem tyV_mu {K : PySem.W.Frag} {x : V} {m : Mu} {ws : List V} {H : Hp} {Q : VK} (h : rMu m x ws H Q) : tyV K "list" x H := by
  obtain ⟨a, vs, vs', v, rfl, q, _⟩ := h
  exact .inl ⟨rfl, vs, .of q⟩
theorem mu_append : MtR X "list.append" (fun x ws H Q => rMu .append x ws H Q) := by
  intro pins s σ H x ws v us Q I rx rs h
  obtain ⟨a, vs, vs', w, rfl, q, e, hQ⟩ := h
  match ws, e with
  | [d], e =>
    simp only [muV, muG] at e
    split at e
    · cases e
      exact mt_append pins s σ H _ _ v us Q I rx rs ⟨a, vs, _, rfl, rfl, q, by rw [big_eq]; assumption, hQ⟩
    · cases e
theorem mu_pop : MtR X "list.pop" (fun x ws H Q => rMu .pop x ws H Q) := by
  intro pins s σ H x ws v us Q I rx rs h
  obtain ⟨a, vs, vs', w, rfl, q, e, hQ⟩ := h
  match ws, e with
  | [], e =>
    simp only [muV, muG] at e
    cases hx : vs[vs.length - 1]? with
    | none => rw [hx] at e; cases e
    | some y =>
      rw [hx] at e
      cases e
      exact mt_pop pins s σ H _ _ v us Q I rx rs ⟨a, vs, _, rfl, rfl, q, hx, hQ⟩
theorem mu_popAt : MtR X "list.pop" (fun x ws H Q => rMu .popAt x ws H Q) := by
  intro pins s σ H x ws v us Q I rx rs h
  obtain ⟨a, vs, vs', w, rfl, q, e, hQ⟩ := h
  match ws with
  | [] => simp [muV, muG] at e
  | _ :: _ :: _ => simp [muV, muG] at e
  | [y] =>
    cases y <;> first | (simp [muV, muG, V.int?] at e; done) | skip
    rename_i i
    simp only [muV, muG, V.int?, Option.bind_some] at e
    cases hj : ixN vs.length i with
    | none => rw [hj] at e; cases e
    | some j =>
      rw [hj] at e
      simp only [Option.bind_some] at e
      cases hx : vs[j]? with
      | none => rw [hx] at e; cases e
      | some y =>
        rw [hx] at e
        cases e
        obtain ⟨h1, h2, h3, h4⟩ := ixN_seq hj
        have hl : vs.length ≤ sizeLine := by
          obtain ⟨its, n, r, e, z⟩ := I.lst q
          exact z
        have hz : sizeLine = 16777216 := sizeLine_eq
        exact mt_popAt pins s σ H _ _ v us Q I rx rs ⟨a, vs, i, j, _, rfl, rfl, q, by omega, by omega, h1, hx, hQ⟩
theorem mu_insert : MtR X "list.insert" (fun x ws H Q => rMu .insert x ws H Q) := by
  intro pins s σ H x ws v us Q I rx rs h
  obtain ⟨a, vs, vs', w, rfl, q, e, hQ⟩ := h
  match ws with
  | [] => simp [muV, muG] at e
  | [_] => simp [muV, muG] at e
  | _ :: _ :: _ :: _ => simp [muV, muG] at e
  | [y, d] =>
    cases y <;> first | (simp [muV, muG, V.int?] at e; done) | skip
    rename_i i
    simp only [muV, muG, V.int?, Option.bind_some] at e
    split at e
    · rename_i hc
      cases e
      exact mt_insert pins s σ H _ _ v us Q I rx rs ⟨a, vs, _, _, rfl, rfl, q, by rw [big_eq]; exact hc.2.2, hc.1, hc.2.1, by simpa using hQ⟩
    · cases e
theorem few_of {es : List Expr} {env : PySem.Env} {pos : Pos} (st : ∀ e ∈ es, isStar e = false) (hl : es.length < 20) :
    ((backTo pos (starEach es env)).all (fun x => !x.1) && (backToKw pos (keywordEach [] env)).all (fun x => x.1.isSome)
      && decide (es.length + ([] : List Keyword).length + (if ([] : List Keyword).isEmpty then 0 else 1) < 30)) = true := by
  have h1 : (backTo pos (starEach es env)).all (fun x => !x.1) = true := by
    have := stars_of st env pos
    rw [List.any_eq_false] at this
    rw [List.all_eq_true]
    intro x hx
    have := this x hx
    simpa using this
  rw [h1]
  simp [backToKw, keywordEach]
  omega
/-- o.m(..) of a list: o's reading, the arguments' -/
theorem mut_call {m : Mu} {o : Expr} {l : List Expr} {apos cpos : Pos} {to : TE} {ta : TA} (hm : (meOf m == ("" : Str)) = false) (hline : (apos.endLine == cpos.line) = true) (hl : l.length < 20) (hb : ∀ x p pos, o ≠ .Call (.Name x p) [] [] pos)
    (st : ∀ e ∈ l, isStar e = false) (ho : PE X o to) (ha : PA X l ta) (ne : l = [] → m = .pop ∧ ta = tNil) (ne2 : l ≠ [] → m ≠ .pop ∧ m ≠ .extend) :
    PE X (.Call (.Attribute o (meOf m) apos) l [] cpos) (fun σ H Q => to σ H fun x H1 => tyV X.K "list" x H1 ∧ ta σ H1 fun ws H2 => rMu m x ws H2 Q) := by
  cases l with
  | nil =>
    obtain ⟨rfl, rfl⟩ := ne rfl
    exact PE.by (pe_bm0 PySem.F.plainAttrs_list PySem.F.slot_list_pop PySem.F.type_list_pop mu_pop ho (list_base hb) hline) fun _ _ _ q => q
  | cons e es =>
    obtain ⟨n1, n2⟩ := ne2 (by simp)
    have s1 := star_of (st e List.mem_cons_self) es X.env
    have s2 := stars_of (fun x hx => st x (List.mem_cons_of_mem _ hx)) X.env cpos
    cases m with
    | append => exact PE.by (pe_bm PySem.F.plainAttrs_list PySem.F.slot_list_append PySem.F.type_list_append mu_append ho ha (list_base hb) (few_of st hl) hline s1 s2) fun _ _ _ q => q
    | pop => exact absurd rfl n1
    | popAt => exact PE.by (pe_bm PySem.F.plainAttrs_list PySem.F.slot_list_pop PySem.F.type_list_pop mu_popAt ho ha (list_base hb) (few_of st hl) hline s1 s2) fun _ _ _ q => q
    | insert => exact PE.by (pe_bm PySem.F.plainAttrs_list PySem.F.slot_list_insert PySem.F.type_list_insert mu_insert ho ha (list_base hb) (few_of st hl) hline s1 s2) fun _ _ _ q => q
    | extend => exact absurd rfl n2
    | set => simp [meOf] at hm
end
end Mi
end
section
set_option Elab.async false
set_option maxRecDepth 100000
set_option linter.all false
namespace Mi
open PySem PySem.Spec PyProof.Rows L2
section
variable {T : Tab} {cf : Calls} {L : LC} {X : Cx} {W : WX}
def isCmpE : Expr → Bool
  | .Compare _ _ _ _ => true
  | _ => false
/-- no test of its own kind -/
def isPlainE : Expr → Bool
  | .UnaryOp .Not _ _ => false
  | .BoolOp _ _ _ => false
  | .IfExp _ _ _ _ => false
  | .Compare _ _ _ _ => false
  | _ => true
theorem PK.by {X : Cx} {e : List Keyword} {t t' : TA} (h : PK X e t) (k : ∀ σ H Q, t' σ H Q → t σ H Q) : PK X e t' := ⟨fun pos pins s σ H Q I q => h.run pos pins s σ H Q I (k σ H Q q)⟩
theorem PW.by {X : Cx} {e : Expr} {t t' : TT} (h : PW X e t) (k : ∀ σ H Q, t' σ H Q → t σ H Q) : PW X e t' := ⟨fun wh pins s σ H Q I q => h.run wh pins s σ H Q I (k σ H Q q)⟩
def isBoolE : Expr → Bool
  | .BoolOp _ _ _ => true
  | _ => false
theorem plain_nb {e : Expr} (h : isPlainE e = true) : ¬ isBoolE e = true := by
  cases e <;> first | (intro z; cases z; done) | cases h
theorem leafT {e : Expr} {m : M D} (hp : isPlainE e = true) (he : PE X e (simE X.K W m)) : PT X e (simT X.K W (m.bind fun d => truM d)) :=
  PT.by (pt_truth he (plain_test (fun x p z => by subst z; cases hp) (fun o l p z => by subst z; cases hp) (fun a b c p z => by subst z; cases hp) (fun a o l p z => by subst z; cases hp) X.env)) fun σ H Q q => tru_of (fun _ _ _ h => h) q
abbrev tPT (K : PySem.W.Frag) (p : P) (ts : List TE) : TT := fun σ H Q => tAll ts σ H fun vs H' => rP K p vs H' fun v H2 => ∃ k, v = .bl k ∧ Q k H2
theorem add_rflT {t : TE} {R : V → Hp → Prop} {σ : L2.St} {H : Hp} (q : t σ H R) : t σ H fun x H1 => V.non = V.non ∧ R x H1 := add_rfl q
theorem inB {n : Bool} {a b d : D} (h : pIn n a b = some d) : ∃ c, d = .bl c := by
  unfold pIn at h
  split at h
  · split at h <;> first | (cases h; exact ⟨_, rfl⟩) | cases h
  · split at h
    · split at h <;> first | (cases h; exact ⟨_, rfl⟩) | cases h
    · cases h
/-- a comparison of one sign, as a test -/
theorem CtxOk.primT (c : CtxOk T cf L X W) {p : P} {e : Expr} {k : List Expr → Bool} (h : okP T L p e k = true) (hc : isCmpE e = true) :
    (∃ l, k l = true ∧ ((∀ e ∈ l, isStar e = false) → ∀ ts, Reads' X l ts → PT X e (tPT X.K p ts))) ∧ ∀ ds d, primF p ds = some d → ∃ b, d = .bl b := by
  have inn : ∀ {q : P} {n : Bool}, (∀ ds d, primF q ds = some d → ∃ a b, ds = [a, b] ∧ pIn n a b = some d) → ∀ ds d, primF q ds = some d → ∃ b, d = .bl b := by
    intro q n hq ds d hd
    obtain ⟨a, b, rfl, h⟩ := hq ds d hd
    exact inB h
  unfold okP at h
  split at h <;> first | (cases hc; done) | skip
  · exact ⟨⟨_, h, fun _ ts r => by obtain ⟨t, u, rfl, ha, hb⟩ := rd2 r; exact PT.by (pt_cmpR (op_eq_P c.hu) ha hb (nomark _)) fun _ _ _ q => q⟩, cmp_bl (o := .Eq) rfl⟩
  · exact ⟨⟨_, h, fun _ ts r => by obtain ⟨t, u, rfl, ha, hb⟩ := rd2 r; exact PT.by (pt_cmpR (op_ne_P c.hu) ha hb (nomark _)) fun _ _ _ q => q⟩, cmp_bl (o := .NotEq) rfl⟩
  · exact ⟨⟨_, h, fun _ ts r => by obtain ⟨t, u, rfl, ha, hb⟩ := rd2 r; exact PT.by (pt_cmpR op_lt_P ha hb (nomark _)) fun _ _ _ q => q⟩, cmp_bl (o := .Lt) rfl⟩
  · exact ⟨⟨_, h, fun _ ts r => by obtain ⟨t, u, rfl, ha, hb⟩ := rd2 r; exact PT.by (pt_cmpR op_le_P ha hb (nomark _)) fun _ _ _ q => q⟩, cmp_bl (o := .LtE) rfl⟩
  · exact ⟨⟨_, h, fun _ ts r => by obtain ⟨t, u, rfl, ha, hb⟩ := rd2 r; exact PT.by (pt_cmpR op_gt_P ha hb (nomark _)) fun _ _ _ q => q⟩, cmp_bl (o := .Gt) rfl⟩
  · exact ⟨⟨_, h, fun _ ts r => by obtain ⟨t, u, rfl, ha, hb⟩ := rd2 r; exact PT.by (pt_cmpR op_ge_P ha hb (nomark _)) fun _ _ _ q => q⟩, cmp_bl (o := .GtE) rfl⟩
  · have h' := Bool.and_eq_true_iff.mp h
    refine ⟨⟨_, h'.2, fun _ ts r => by obtain ⟨t, u, rfl, ha, hb⟩ := rd2 r; exact PT.by (pt_cmpR (op_in_P c.hu) ha hb (by simpa using h'.1)) fun _ _ _ q => q⟩, inn (n := false) fun ds d hd => ?_⟩
    match ds, hd with
    | [a, b], hd => exact ⟨a, b, rfl, hd⟩
  · have h' := Bool.and_eq_true_iff.mp h
    refine ⟨⟨_, h'.2, fun _ ts r => by obtain ⟨t, u, rfl, ha, hb⟩ := rd2 r; exact PT.by (pt_cmpR (op_notin_P c.hu) ha hb (by simpa using h'.1)) fun _ _ _ q => q⟩, inn (n := true) fun ds d hd => ?_⟩
    match ds, hd with
    | [a, b], hd => exact ⟨a, b, rfl, hd⟩
  · refine ⟨⟨_, h, fun _ ts r => ?_⟩, fun ds d hd => ?_⟩
    · obtain ⟨t, rfl, ha⟩ := rd1 r
      exact PT.by (pt_cmpR op_isN_P ha pe_non (nomark _)) fun σ H Q q => add_rflT q
    · match ds, hd with
      | [a], hd => cases hd; exact ⟨_, rfl⟩
  · refine ⟨⟨_, h, fun _ ts r => ?_⟩, fun ds d hd => ?_⟩
    · obtain ⟨t, rfl, ha⟩ := rd1 r
      exact PT.by (pt_cmpR op_notN_P ha pe_non (nomark _)) fun σ H Q q => add_rflT q
    · match ds, hd with
      | [a], hd => cases hd; exact ⟨_, rfl⟩
  · cases h
theorem okP_plain {p : P} {e : Expr} {k : List Expr → Bool} (h : okP T L p e k = true) (hc : isCmpE e = false) : isPlainE e = true := by
  unfold okP at h
  split at h <;> first | rfl | (cases hc; done) | cases h
theorem name_plain {i : Nat} {e : Expr} (h : okN L i e = true) : isPlainE e = true := by
  cases e <;> first | rfl | cases h
theorem k_plain {d : D} {e : Expr} (h : okK T L d e = true) : isPlainE e = true := by
  cases e <;> first | rfl | cases h
theorem bind_ok {α β : Type} {m : M α} {f : α → M β} {en en2 : Env} {S S2 : Sto} {b : β} (h : M.bind m f en S = .ok b en2 S2) : ∃ a en1 S1, m en S = .ok a en1 S1 ∧ f a en1 S1 = .ok b en2 S2 := by
  unfold M.bind R.bind at h
  cases e : m en S with
  | ok a en1 S1 => rw [e] at h; exact ⟨a, en1, S1, rfl, h⟩
  | exc x en1 S1 => rw [e] at h; cases h
  | stuck => rw [e] at h; cases h
theorem primM_bl {p : P} (hp : ∀ ds d, primF p ds = some d → ∃ b, d = .bl b) {ds : List D} {en en2 : Env} {S S2 : Sto} {d : D} (h : primM p ds en S = .ok d en2 S2) : ∃ b, d = .bl b := by
  unfold primM at h
  cases e : primF p (ds.map (derefD S)) with
  | none => rw [e] at h; cases h
  | some d' => rw [e] at h; cases h; exact hp _ _ e
/-- a test of two comparisons -/
theorem chainT_of {K : PySem.W.Frag} {p q : P} (hp : ∀ ds d, primF p ds = some d → ∃ b, d = .bl b) (hq : ∀ ds d, primF q ds = some d → ∃ b, d = .bl b) {a b c : M D} {σ : L2.St} {H : Hp} {Q : Bool → Hp → Prop}
    (h : simT K W ((a.bind fun x => b.bind fun y => (primM p [x, y]).bind fun z => (match z with
      | .bl k => if k then c.bind fun w => primM q [y, w] else .ret (.bl false)
      | _ => .stuck)).bind fun d => truM d) σ H Q) : tTest (tChain (rP2 K p) (rP2 K q) (simE K W a) (simE K W b) (simE K W c)) σ H Q := by
  refine chain_of hp (fun _ _ _ h => h) (fun _ _ _ h => h) (fun _ _ _ h => h) ?_
  obtain ⟨ρ, Z, S, en, F, k, h⟩ := h
  refine ⟨ρ, Z, S, en, F, k, ?_⟩
  -- every value is a bool
  have vb : ∀ d en1 S1, (a.bind fun x => b.bind fun y => (primM p [x, y]).bind fun z => (match z with
      | .bl k => if k then c.bind fun w => primM q [y, w] else .ret (.bl false)
      | _ => .stuck)) en S = .ok d en1 S1 → ∃ b, d = .bl b := by
    intro d en1 S1 e
    obtain ⟨x, en2, S2, _, e⟩ := bind_ok e
    obtain ⟨y, en3, S3, _, e⟩ := bind_ok e
    obtain ⟨z, en4, S4, ez, e⟩ := bind_ok e
    obtain ⟨kk, rfl⟩ := primM_bl hp ez
    cases kk with
    | false => cases e; exact ⟨_, rfl⟩
    | true =>
      obtain ⟨w, en5, S5, _, e⟩ := bind_ok (show M.bind c _ en4 S4 = _ from e)
      exact primM_bl hq e
  have h1 := Post.bind h
  generalize hm : (a.bind fun x => b.bind fun y => (primM p [x, y]).bind fun z => (match z with
      | .bl k => if k then c.bind fun w => primM q [y, w] else .ret (.bl false)
      | _ => .stuck)) en S = res at h1
  cases res with
  | ok d en1 S1 =>
    obtain ⟨b, rfl⟩ := vb _ _ _ hm
    exact fun ρ1 Z1 v H1 k1 r1 => ⟨b, (r1.fr _ List.mem_cons_self : Rep K ρ1 Z1 H1 (.bl b) v).bl, h1.ok ρ1 Z1 H1 k1 (r1.le le_drop)⟩
  | exc x en1 S1 => exact h1
  | stuck => exact h1
def g0R : G → TG
  | .nm i => gName i
  | _ => fun _ _ _ _ => False
def g0sR : List G → TGs
  | [] => gNil
  | g :: gs => gCons (g0R g) (g0sR gs)
def gcR (K : PySem.W.Frag) : G → TG
  | .tp gs => gTup K gs.length (g0sR gs)
  | g => g0R g
theorem g0_of {vs : List Nat} (c : CtxOk T cf L X W) : ∀ {g : G} {e : Expr}, okG0 L vs g e = true → ∃ i, g = .nm i ∧ i ∈ vs ∧ PG X e (gName i) := by
  intro g e h
  cases g <;> cases e <;> first | (cases h; done) | skip
  rename_i i x pos
  simp only [okG0, Bool.and_eq_true, decide_eq_true_eq, List.contains_iff_mem] at h
  obtain ⟨⟨h1, h2⟩, h3⟩ := h
  exact ⟨i, rfl, h3, pg_name c.nd (by rw [c.N]; exact h1) (c.loc h2).1 (c.loc h2).2⟩
theorem asg_map {e : Expr} {es : List Expr} (h : isStar e = false) (env : PySem.Env) : (assignEach (e :: es) env).map (·.2) = assign e env :: (assignEach es env).map (·.2) := by
  cases e <;> first | rfl | cases h
theorem g0s_of {vs : List Nat} (c : CtxOk T cf L X W) : ∀ {gs : List G} {es : List Expr}, okG0s L vs gs es = true → PGs X es (g0sR gs) ∧ Keepss vs (g0sR gs) ∧ MonoGs (g0sR gs) ∧ (∀ K v σ H Q, simGs K (asgGs cf gs) v σ H Q → g0sR gs v σ H Q) ∧ es.length = gs.length ∧ ∀ e ∈ es, isStar e = false
  | [], [], _ => ⟨pgs_nil, keeps_nil, mono_nil, fun _ _ _ _ _ q => g_nil q, rfl, fun _ h => by cases h⟩
  | [], _ :: _, h => by cases h
  | _ :: _, [], h => by cases h
  | g :: gs, e :: es, h => by
    have h' := Bool.and_eq_true_iff.mp (show (okG0 L vs g e && okG0s L vs gs es) = true from h)
    obtain ⟨i, rfl, hi, hg⟩ := g0_of c h'.1
    obtain ⟨hu, hk, hm, hs, hl, hst⟩ := g0s_of c h'.2
    have st : isStar e = false := by cases e <;> first | rfl | cases h'.1
    refine ⟨pgs_cons hg hu (asg_map st _), keeps_cons (keeps_name hi) mono_name hk hm, mono_cons mono_name hm, fun K v σ H Q q => g_cons (m := fun d => setV i d) (ms := asgGs cf gs) (fun _ _ _ _ q => g_name q) (hs K) q, by simp [hl], fun x hx => ?_⟩
    rcases List.mem_cons.mp hx with hx | hx
    · rw [hx]; exact st
    · exact hst x hx
theorem asg_len {es : List Expr} (env : PySem.Env) (h : ∀ e ∈ es, isStar e = false) : (assignEach es env).length = es.length ∧ (assignEach es env).findIdx? (·.1) = none := by
  induction es with
  | nil => exact ⟨rfl, rfl⟩
  | cons e es ih =>
    have st := h e List.mem_cons_self
    obtain ⟨h1, h2⟩ := ih fun x hx => h x (List.mem_cons_of_mem _ hx)
    have e1 : assignEach (e :: es) env = (false, assign e env) :: assignEach es env := by cases e <;> first | rfl | cases st
    rw [e1]
    refine ⟨by simp [h1], ?_⟩
    rw [List.findIdx?_cons]
    simp [h2]
theorem gc_of {vs : List Nat} (c : CtxOk T cf L X W) {g : G} {e : Expr} (h : okGc L vs g e = true) : PG X e (gcR X.K g) ∧ Keeps vs (gcR X.K g) ∧ ∀ v σ H Q, simG X.K (asgG cf g) v σ H Q → gcR X.K g v σ H Q := by
  unfold okGc at h
  split at h
  · obtain ⟨hu, hk, hm, hs, hl, hst⟩ := g0s_of c h
    rename_i gs es kk pos
    obtain ⟨h1, h2⟩ := asg_len X.env hst
    exact ⟨pg_tup c.calm hu (h1.trans hl) h2, keeps_tup hk, fun v σ H Q q => g_tup (hs X.K) q⟩
  · obtain ⟨i, rfl, hi, hg⟩ := g0_of c h
    exact ⟨hg, keeps_name hi, fun v σ H Q q => g_name q⟩
theorem g0s_keep {vs : List Nat} : ∀ {gs : List G} {es : List Expr}, okG0s L vs gs es = true → Keepss vs (g0sR gs) ∧ MonoGs (g0sR gs) ∧ ∀ K v σ H Q, simGs K (asgGs cf gs) v σ H Q → g0sR gs v σ H Q
  | [], [], _ => ⟨keeps_nil, mono_nil, fun _ _ _ _ _ q => g_nil q⟩
  | [], _ :: _, h => by cases h
  | _ :: _, [], h => by cases h
  | g :: gs, e :: es, h => by
    have h' := Bool.and_eq_true_iff.mp (show (okG0 L vs g e && okG0s L vs gs es) = true from h)
    obtain ⟨hk, hm, hs⟩ := g0s_keep h'.2
    have h1 := h'.1
    cases g <;> cases e <;> first | (cases h1; done) | skip
    simp only [okG0, Bool.and_eq_true, decide_eq_true_eq, List.contains_iff_mem] at h1
    rename_i i x pos
    exact ⟨keeps_cons (keeps_name h1.2) mono_name hk hm, mono_cons mono_name hm, fun K v σ H Q q => g_cons (m := fun d => setV i d) (ms := asgGs cf gs) (fun _ _ _ _ q => g_name q) (hs K) q⟩
theorem gc_keep {K : PySem.W.Frag} {vs : List Nat} {g : G} {e : Expr} (h : okGc L vs g e = true) : Keeps vs (gcR K g) ∧ ∀ v σ H Q, simG K (asgG cf g) v σ H Q → gcR K g v σ H Q := by
  unfold okGc at h
  split at h
  · obtain ⟨hk, hm, hs⟩ := g0s_keep (cf := cf) h
    exact ⟨keeps_tup hk, fun v σ H Q q => g_tup (hs K) q⟩
  · cases g <;> cases e <;> first | (cases h; done) | skip
    simp only [okG0, Bool.and_eq_true, decide_eq_true_eq, List.contains_iff_mem] at h
    exact ⟨keeps_name h.2, fun v σ H Q q => g_name q⟩
theorem PI.by {X : Cx} {tg e : Expr} {t t' : TI} (h : PI X tg e t) (k : ∀ σ H R, t' σ H R → t σ H R) : PI X tg e t' := ⟨fun pins s σ H R I q => h.run pins s σ H R I (k σ H R q)⟩
theorem folded_of {e : Expr} (h : isSet e = false) (env : PySem.Env) (x : Value) : foldedSetIterable e env x = pure x := by
  cases e <;> first | rfl | cases h
theorem pi_seq {X : Cx} {W : WX} {tg e : Expr} {m : M D} (h : PE X e (simE X.K W m)) : PI X tg e (simI X.K W (m.bind fun d => M.opt (seqItems d))) := ⟨fun pins s σ H R I q => by
  rcases seq_of (fun _ _ _ q => q) q with q | q | q
  · exact (pi_list h).run pins s σ H R I q
  · exact (pi_tup h).run pins s σ H R I q
  · exact (pi_str h).run pins s σ H R I q⟩
theorem tests1 {K : PySem.W.Frag} {m : M Bool} {σ : L2.St} {H : Hp} {Q : Bool → Hp → Prop} (h : simT K W (m.bind fun b => if b then .ret true else .ret false) σ H Q) : simT K W m σ H Q := by
  obtain ⟨ρ, Z, S, en, F, k, h⟩ := h
  refine ⟨ρ, Z, S, en, F, k, (Post.bind h).imp (Le.refl F) fun b en1 S1 q => ?_⟩
  cases b
  · exact q.ok
  · exact q.ok
/-- what a comprehension's rule asks -/
structure LcOk (X : Cx) (x t i : Expr) (fs : List Expr) (scope : Scope) (own : List Nat) (wi : TI) (g : TG) (tt : TT) (te : TE) : Prop where
  pi : PI X t i wi
  ok : ∃ o : List (Str × Nat), o.map (·.2) = own ∧ BlkOk X.N X.env.scope scope o
  pg : ∀ (s : Shared) (H : Hp) (C : Addr) (cl : List (Str × Addr)) (fp : List Addr), PG (X.blk s H scope (compEnvC scope cl C X.env) fp) t g
  pt : ∀ (s : Shared) (H : Hp) (C : Addr) (cl : List (Str × Addr)) (fp : List Addr), PTs (X.blk s H scope (compEnvC scope cl C X.env) fp) fs tt
  pe : ∀ (s : Shared) (H : Hp) (C : Addr) (cl : List (Str × Addr)) (fp : List Addr), PE (X.blk s H scope (compEnvC scope cl C X.env) fp) x te
end
section
variable {T : Tab} {cf : Calls}
/-- an operand's reading -/
theorem op_cons {L : LC} {X : Cx} {W : WX} (c : CtxOk T cf L X W) {E1 : E} {Es : List E} {e : Expr} {l : List Expr} {b : Bool} (he : okE T L E1 b e = true) (hE : PE X e (simE X.K W (ev cf E1)))
    (hr : ∃ ts, Reads' X l ts ∧ ∀ σ H Q, simOs X.K W (ops cf Es) σ H Q → tAll ts σ H Q) : ∃ ts, Reads' X (e :: l) ts ∧ ∀ σ H Q, simOs X.K W (ops cf (E1 :: Es)) σ H Q → tAll ts σ H Q := by
  obtain ⟨ts, h1, h2⟩ := hr
  by_cases hv : ∃ i, E1 = .v i
  · obtain ⟨i, rfl⟩ := hv
    exact ⟨tVar i :: ts, .cons (c.name he) h1, fun σ H Q q => os_var (ms := ops cf Es) h2 q⟩
  · refine ⟨simE X.K W (ev cf E1) :: ts, .cons hE h1, fun σ H Q q => os_cons (m := ev cf E1) (ms := ops cf Es) (fun _ _ _ q => q) h2 ?_⟩
    have : ops cf (E1 :: Es) = (ev cf E1).bind fun d => (ops cf Es).bind fun ds => .ret (d :: ds) := by
      show opB E1 (ev2 cf E1).1 (ops cf Es) = _
      unfold opB
      split
      · exact absurd ⟨_, rfl⟩ hv
      · rfl
    rwa [this] at q
theorem op_pa {L : LC} {X : Cx} {W : WX} (c : CtxOk T cf L X W) {E1 : E} {Es : List E} {e : Expr} {l : List Expr} {b : Bool} (he : okE T L E1 b e = true) (hst : isStar e = false) (hE : PE X e (simE X.K W (ev cf E1)))
    (hr : PA X l (simOs X.K W (ops cf Es))) : PA X (e :: l) (simOs X.K W (ops cf (E1 :: Es))) := by
  by_cases hv : ∃ i, E1 = .v i
  · obtain ⟨i, rfl⟩ := hv
    exact PA.by (pa_cons (c.name he) hr (star_of hst _ _)) fun σ H Q q => os_var (ms := ops cf Es) (fun _ _ _ q => q) q
  · refine PA.by (pa_cons hE hr (star_of hst _ _)) fun σ H Q q => os_cons (m := ev cf E1) (ms := ops cf Es) (fun _ _ _ q => q) (fun _ _ _ q => q) ?_
    have : ops cf (E1 :: Es) = (ev cf E1).bind fun d => (ops cf Es).bind fun ds => .ret (d :: ds) := by
      show opB E1 (ev2 cf E1).1 (ops cf Es) = _
      unfold opB
      split
      · exact absurd ⟨_, rfl⟩ hv
      · rfl
    rwa [this] at q
/-- a place's reading -/
theorem pl_of {L : LC} {X : Cx} {W : WX} (c : CtxOk T cf L X W) {E1 : E} {e : Expr} {b : Bool} (he : okE T L E1 b e = true) (hE : PE X e (simE X.K W (ev cf E1))) : ∃ t, PE X e t ∧
    ((∃ i, E1 = .v i ∧ t = tVar i) ∨ ((∀ i, E1 ≠ .v i) ∧ t = simE X.K W (ev cf E1))) := by
  by_cases hv : ∃ i, E1 = .v i
  · obtain ⟨i, rfl⟩ := hv
    exact ⟨tVar i, c.name he, .inl ⟨i, rfl, rfl⟩⟩
  · exact ⟨_, hE, .inr ⟨fun i h => hv ⟨i, h⟩, rfl⟩⟩
/-- of a leaf -/
theorem leaf2 {X : Cx} {W : WX} {e : Expr} {m : M D} (b : Bool) (hp : isPlainE e = true) (he : PE X e (simE X.K W m)) :
    (b = false → PE X e (simE X.K W m)) ∧ (b = true → PT X e (simT X.K W (m.bind fun d => truM d)) ∧ (isBoolE e = true → PW X e (simT X.K W (m.bind fun d => truM d)))) :=
  ⟨fun _ => he, fun _ => ⟨leafT hp he, fun h => absurd h (plain_nb hp)⟩⟩
theorem pl1_exp {E1 : E} (h : ∀ i, E1 ≠ .v i) (m : M D) : pl1 E1 m = (m.bind fun d => .ret (some d)) := by
  unfold pl1
  split
  · exact absurd rfl (h _)
  · rfl
theorem slot_exp {E1 : E} (h : ∀ i, E1 ≠ .v i) : slotOf E1 = none := by
  unfold slotOf
  split
  · exact absurd rfl (h _)
  · rfl
theorem mut_all {L : LC} {X : Cx} {W : WX} (c : CtxOk T cf L X W) {m : Mu} {tgt : E} {es : List E} {o : Expr} {l : List Expr} {apos cpos : Pos} (h1 : okMu m l.length = true) (h2 : (apos.endLine == cpos.line) = true) (h3 : isCall0 o = false) (h4 : okE T L tgt false o = true) (h5 : okEs T L es l = true)
    (hE : PE X o (simE X.K W (ev cf tgt))) (hA : PA X l (simAs X.K W (evs cf es))) : PE X (.Call (.Attribute o (meOf m) apos) l [] cpos) (simE X.K W (ev cf (.mut m tgt es))) := by
  obtain ⟨t, ht, hh⟩ := pl_of c h4 hE
  have hm : (meOf m == ("" : Str)) = false := by cases m <;> first | (decide +kernel) | (simp [okMu] at h1)
  have hl : l.length < 20 := by
    cases m <;> simp only [okMu, beq_iff_eq] at h1 <;> first | omega | (cases h1; done)
  have hb : ∀ x p pos, o ≠ .Call (.Name x p) [] [] pos := fun x p pos e => by subst e; cases h3
  have n2 : l ≠ [] → m ≠ .pop ∧ m ≠ .extend := fun hn => by
    cases m <;> simp [okMu] at h1 <;> simp_all
  -- the arguments' reading: none where there are none
  have fin : ∀ ta : TA, PA X l ta → (∀ σ H Q, simAs X.K W (evs cf es) σ H Q → ta σ H Q) → (l = [] → m = .pop ∧ ta = tNil) → PE X (.Call (.Attribute o (meOf m) apos) l [] cpos) (simE X.K W (ev cf (.mut m tgt es))) := by
    intro ta pa ha ne
    refine PE.by (mut_call hm h2 hl hb (okEs_star h5) ht pa ne n2) fun σ H Q q => ?_
    rcases hh with ⟨i, rfl, rfl⟩ | ⟨hv, rfl⟩
    · exact mut_var (ms := evs cf es) ha q
    · have e : ev cf (.mut m tgt es) = (((ev cf tgt).bind fun d => .ret (some d)).bind fun r => (lookP none r).bind fun _ => (evs cf es).bind fun as => (match r with
          | none => (match (none : Option Nat) with
            | some i => (getV i).bind fun d0 => mutM m d0 (some i) (as.map D.hard)
            | none => .stuck)
          | some d0 => mutM m d0 none (as.map D.hard))) := by
        show ((pl1 tgt (ev2 cf tgt).1).bind fun r => (lookP (slotOf tgt) r).bind fun _ => (evs cf es).bind fun as => (match r with
          | none => (match slotOf tgt with
            | some i => (getV i).bind fun d0 => mutM m d0 (some i) (as.map D.hard)
            | none => .stuck)
          | some d0 => mutM m d0 none (as.map D.hard))) = _
        rw [pl1_exp hv, slot_exp hv]
      rw [e] at q
      exact mut_exp (slot := none) (m0 := ev cf tgt) (ms := evs cf es) (fun _ _ _ q => q) ha q
  cases l with
  | nil =>
    have : es = [] := by
      cases es with
      | nil => rfl
      | cons => cases h5
    subst this
    refine fin tNil (pa_nil) (fun σ H Q q => as_nil q) fun _ => ⟨?_, rfl⟩
    cases m <;> first | rfl | (simp [okMu] at h1)
  | cons e es => exact fin _ hA (fun _ _ _ q => q) fun h => by cases h
theorem okEs_len {L : LC} : ∀ {es : List E} {l : List Expr}, okEs T L es l = true → es.length = l.length
  | [], [], _ => rfl
  | [], _ :: _, h => by cases h
  | _ :: _, [], h => by cases h
  | E :: es, e :: l, h => by
    replace h : (okE T L E false e && !isStar e && okEs T L es l) = true := h
    simp only [Bool.and_eq_true] at h
    simp [okEs_len h.2]
theorem meth_all {L : LC} {X : Cx} {W : WX} (c : CtxOk T cf L X W) {p : P} {tgt : E} {es : List E} {o : Expr} {l : List Expr} {apos cpos : Pos} (h1 : l.length = mAr p) (h0 : l.length ≠ 0) (h2 : (apos.endLine == cpos.line) = true) (h3 : isCall0 o = false)
    (h4 : (if isM1 p then okKT T L tgt o else okE T L tgt false o) = true) (st : ∀ e ∈ l, isStar e = false) (hE : okE T L tgt false o = true → PE X o (simE X.K W (ev cf tgt))) (hA : PA X l (simOs X.K W (ops cf es))) :
    PE X (.Call (.Attribute o (mName p) apos) l [] cpos) (simE X.K W (ev cf (.meth p tgt es))) := by
  have hp : p = .m 0 ∨ p = .m 1 := by
    unfold mAr at h1
    split at h1
    · exact .inl rfl
    · exact .inr rfl
    · exact absurd h1 h0
  obtain ⟨id, pa, sl, ty, mt⟩ := mt_all c hp
  have hl : l.length < 20 := by rw [h1]; rcases hp with rfl | rfl <;> decide
  have hb : ∀ x p pos, o ≠ .Call (.Name x p) [] [] pos := fun x p pos e => by subst e; cases h3
  cases l with
  | nil => exact absurd rfl h0
  | cons e r =>
    have s1 := star_of (st e List.mem_cons_self) r X.env
    have s2 := stars_of (fun x hx => st x (List.mem_cons_of_mem _ hx)) X.env cpos
    have rule : ∀ {to : TE}, PE X o to → PE X (.Call (.Attribute o (mName p) apos) (e :: r) [] cpos) (fun σ H Q => to σ H fun x H1 => tyV X.K (mTy p) x H1 ∧ simOs X.K W (ops cf es) σ H1 fun ws H2 => rP X.K p (x :: ws) H2 Q) := fun ho =>
      PE.by (pe_bm pa sl ty mt ho hA (list_base hb) (few_of st hl) h2 s1 s2) fun _ _ _ q => q
    have ex : (∀ i, tgt ≠ .v i) → ev cf (.meth p tgt es) = (((ev cf tgt).bind fun d => .ret (some d)).bind fun r => (lookM p none r).bind fun _ => (ops cf es).bind fun ds => (fin1 none r).bind fun d => primM p (d :: ds)) := fun hv => by
      show ((pl1 tgt (ev2 cf tgt).1).bind fun r => (lookM p (slotOf tgt) r).bind fun _ => (ops cf es).bind fun ds => (fin1 (slotOf tgt) r).bind fun d => primM p (d :: ds)) = _
      rw [pl1_exp hv, slot_exp hv]
    rcases hp with rfl | rfl
    · have h4 : okE T L tgt false o = true := h4
      obtain ⟨t, ht, hh⟩ := pl_of c h4 (hE h4)
      refine PE.by (rule ht) fun σ H Q q => ?_
      rcases hh with ⟨i, rfl, rfl⟩ | ⟨hv, rfl⟩
      · exact meth_var (ms := ops cf es) (by simp) (fun _ _ _ q => q) q
      · rw [ex hv] at q
        exact meth_exp (slot := none) (m0 := ev cf tgt) (ms := ops cf es) (by simp) (fun _ _ _ q => q) (fun _ _ _ q => q) q
    · have h4 : okKT T L tgt o = true := h4
      obtain ⟨ds, x, pos, rfl, rfl, h'⟩ : ∃ ds x pos, tgt = .k (.tup ds) ∧ o = .Name x pos ∧ (isGl L x = true ∧ (T.consts.any fun p => p.1 == x && D.beq p.2 (.tup ds)) = true) := by
        unfold okKT at h4
        split at h4
        · exact ⟨_, _, _, rfl, rfl, Bool.and_eq_true_iff.mp h4⟩
        · cases h4
      · have hc := h'.2
        simp only [List.any_eq_true, Bool.and_eq_true, beq_iff_eq] at hc
        obtain ⟨q0, hq0, rfl, h6⟩ := hc
        obtain ⟨u, v, hm, hr, hd, hk⟩ := c.con q0 hq0
        have e6 := D.beq_eq _ _ h6
        obtain ⟨a, ob, rfl, k1, k2, k3⟩ := hk ds e6
        rw [e6] at hd
        have g := c.gl h'.1
        refine PE.by (rule (pe_glob g.1 hm hr g.2)) fun σ H Q q => ?_
        rw [ex (by intro i h; cases h)] at q
        exact ⟨.inr (.inl ⟨rfl, ob, k1, k2, k3⟩), meth_const (slot := none) (ms := ops cf es) hd (fun _ _ _ q => q) q⟩
mutual
theorem snd2 : ∀ (E1 : E) {L : LC} {X : Cx} {W : WX} (c : CtxOk T cf L X W) (b : Bool) (e : Expr), okE T L E1 b e = true → (b = false → PE X e (simE X.K W (ev cf E1))) ∧ (b = true → PT X e (simT X.K W (tst cf E1)) ∧ (isBoolE e = true → PW X e (simT X.K W (tst cf E1))))
  | .v i, L, X, W, c, b, e, h => ⟨fun _ => PE.by (c.name h) sim_use, fun _ => ⟨PT.by (pt_truth (c.name h) (plain_test (fun x p z => by subst z; cases h) (fun o l p z => by subst z; cases h) (fun a b c p z => by subst z; cases h) (fun a o l p z => by subst z; cases h) X.env)) fun σ H Q q => tru_var q, fun z => absurd z (plain_nb (name_plain h))⟩⟩
  | .mv i, L, X, W, c, b, e, h =>
    have p : PE X e (simE X.K W (ev cf (.mv i))) := PE.by (c.name h) sim_move
    leaf2 b (name_plain h) p
  | .rf i, L, X, W, c, b, e, h =>
    have p : PE X e (simE X.K W (ev cf (.rf i))) := PE.by (c.name h) sim_ref
    leaf2 b (name_plain h) p
  | .k d, L, X, W, c, b, e, h =>
    have p : PE X e (simE X.K W (ev cf (.k d))) := c.const h
    leaf2 b (k_plain h) p
  | .prim p es, L, X, W, c, b, e, h => by
    have h : okP T L p e (okEs T L es) = true := h
    have pe : PE X e (simE X.K W (ev cf (.prim p es))) := by
      obtain ⟨l, hl, hp⟩ := c.prim h
      obtain ⟨ts, h1, h2⟩ := (sndEs es c l hl).2.1
      exact PE.by (hp (okEs_star hl) ts h1) fun σ H Q q => h2 σ H _ (prim_of (ms := ops cf es) q)
    cases hc : isCmpE e with
    | false => exact leaf2 b (okP_plain h hc) pe
    | true =>
      refine ⟨fun _ => pe, fun _ => ⟨?_, fun z => by cases e <;> first | (cases hc; done) | cases z⟩⟩
      obtain ⟨⟨l, hl, hp⟩, hb⟩ := c.primT h hc
      obtain ⟨ts, h1, h2⟩ := (sndEs es c l hl).2.1
      exact PT.by (hp (okEs_star hl) ts h1) fun σ H Q q => h2 σ H _ (primT_of (ms := ops cf es) hb q)
  | .chain p q x y z, L, X, W, c, b, e, h => by
    cases e <;> first | (cases h; done) | skip
    rename_i a0 os l pos
    match os, l, h with
    | [o1, o2], [y', z'], h =>
      replace h : (decide (cmpOp p = some o1) && decide (cmpOp q = some o2) && okE T L x false a0 && okE T L y false y' && okE T L z false z') = true := h
      simp only [Bool.and_eq_true, decide_eq_true_eq] at h
      obtain ⟨⟨⟨⟨h1, h2⟩, h3⟩, h4⟩, h5⟩ := h
      obtain ⟨k1, m1, m2⟩ := c.cmp h1
      obtain ⟨k2, m3, m4⟩ := c.cmp h2
      have p1 := (snd2 x c false _ h3).1 rfl
      have p2 := (snd2 y c false _ h4).1 rfl
      have p3 := (snd2 z c false _ h5).1 rfl
      refine ⟨fun _ => PE.by (pe_chain k1 k2 p1 p2 p3 (chain_mark m3 m4)) fun σ H Q q => chain_of (cmp_bl h1) (fun _ _ _ h => h) (fun _ _ _ h => h) (fun _ _ _ h => h) q, fun _ => ⟨?_, fun z => by cases z⟩⟩
      exact PT.by (pt_chain k1 k2 p1 p2 p3 (chain_mark m3 m4)) fun σ H Q q => chainT_of (cmp_bl h1) (cmp_bl h2) q
    | [], _, h => cases h
    | [_], _, h => cases h
    | [_, _], [], h => cases h
    | [_, _], [_], h => cases h
    | [_, _], _ :: _ :: _ :: _, h => cases h
    | _ :: _ :: _ :: _, _, h => cases h
  | .tup es, L, X, W, c, b, e, h => by
    cases e <;> first | (cases h; done) | skip
    rename_i l kk pos
    have p : PE X (.Tuple l kk pos) (simE X.K W (ev cf (.tup es))) := PE.by (pe_tup (sndEs es c _ h).1) fun σ H Q q => tup_of (ms := evs cf es) q
    exact leaf2 b rfl p
  | .lst es, L, X, W, c, b, e, h => by
    cases e <;> first | (cases h; done) | skip
    rename_i l pos
    have p : PE X (.List l pos) (simE X.K W (ev cf (.lst es))) := PE.by (pe_lst (sndEs es c _ h).1) fun σ H Q q => lst_of (ms := evs cf es) q
    exact leaf2 b rfl p
  | .call f es, L, X, W, c, b, e, h => by
    cases e <;> first | (cases h; done) | skip
    rename_i fe l ks pos
    cases fe <;> first | (cases h; done) | skip
    cases ks <;> first | (cases h; done) | skip
    rename_i x p
    replace h : (isGl L x && !l.isEmpty && (T.fns.any fun p => p.name == x && p.ix == f) && okEs T L es l) = true := h
    simp only [Bool.and_eq_true, Bool.not_eq_true'] at h
    obtain ⟨⟨⟨h1, h2⟩, h3⟩, h4⟩ := h
    have p : PE X (.Call (.Name x p) l [] pos) (simE X.K W (ev cf (.call f es))) := c.call (pos := pos) (p := p) (ms := evs cf es) h1 h2 h3 (okEs_star h4) (sndEs es c _ h4).1 fun _ _ _ q => q
    exact leaf2 b rfl p
  | .and_ a b', L, X, W, c, b, e, h => by
    cases e <;> first | (cases h; done) | skip
    rename_i o l pos
    cases o <;> first | (cases h; done) | skip
    match l, h with
    | x :: y :: r, h =>
      have h' := Bool.and_eq_true_iff.mp (show (okE T L a b x && okE T L b' b (if r.isEmpty then y else .BoolOp .And (y :: r) pos)) = true from h)
      obtain ⟨a1, a2⟩ := snd2 a c b _ h'.1
      obtain ⟨b1, b2⟩ := snd2 b' c b _ h'.2
      refine ⟨fun hb => PE.by (pe_andT (a1 hb) (tb := simE X.K W (ev cf b')) ?_) fun σ H Q q => andT_of (fun _ _ _ h => h) (fun _ _ _ h => h) q, fun hb => ?_⟩
      · have := b1 hb
        cases r with
        | nil => exact pe_one this
        | cons z r => exact this
      · have tl : PW X (.BoolOp .And (y :: r) pos) (simT X.K W (tst cf b')) := by
          cases r with
          | nil => exact pw_and1 (b2 hb).1
          | cons z r => exact (b2 hb).2 rfl
        have w : PW X (.BoolOp .And (x :: y :: r) pos) (simT X.K W (tst cf (.and_ a b'))) := PW.by (pw_and (a2 hb).1 tl) fun σ H Q q => and_of (fun _ _ _ h => h) (fun _ _ _ h => h) q
        exact ⟨w.pt, fun _ => w⟩
    | [], h => cases h
    | [_], h => cases h
  | .or_ a b', L, X, W, c, b, e, h => by
    cases e <;> first | (cases h; done) | skip
    rename_i o l pos
    cases o <;> first | (cases h; done) | skip
    match l, h with
    | x :: y :: r, h =>
      have h' := Bool.and_eq_true_iff.mp (show (okE T L a b x && okE T L b' b (if r.isEmpty then y else .BoolOp .Or (y :: r) pos)) = true from h)
      obtain ⟨a1, a2⟩ := snd2 a c b _ h'.1
      obtain ⟨b1, b2⟩ := snd2 b' c b _ h'.2
      refine ⟨fun hb => PE.by (pe_orT (a1 hb) (tb := simE X.K W (ev cf b')) ?_) fun σ H Q q => orT_of (fun _ _ _ h => h) (fun _ _ _ h => h) q, fun hb => ?_⟩
      · have := b1 hb
        cases r with
        | nil => exact pe_one this
        | cons z r => exact this
      · have tl : PW X (.BoolOp .Or (y :: r) pos) (simT X.K W (tst cf b')) := by
          cases r with
          | nil => exact pw_or1 (b2 hb).1
          | cons z r => exact (b2 hb).2 rfl
        have w : PW X (.BoolOp .Or (x :: y :: r) pos) (simT X.K W (tst cf (.or_ a b'))) := PW.by (pw_or (a2 hb).1 tl) fun σ H Q q => or_of (fun _ _ _ h => h) (fun _ _ _ h => h) q
        exact ⟨w.pt, fun _ => w⟩
    | [], h => cases h
    | [_], h => cases h
  | .not_ a, L, X, W, c, b, e, h => by
    cases e <;> first | (cases h; done) | skip
    rename_i o x pos
    cases o <;> first | (cases h; done) | skip
    obtain ⟨a1, a2⟩ := snd2 a c b _ h
    exact ⟨fun hb => PE.by (pe_notT (a1 hb)) fun σ H Q q => notV_of (fun _ _ _ h => h) q, fun hb => ⟨PT.by (pt_not (a2 hb).1) fun σ H Q q => not_of (fun _ _ _ h => h) q, fun z => by cases z⟩⟩
  | .cond x y z, L, X, W, c, b, e, h => by
    have h' := Bool.and_eq_true_iff.mp (show (!b && _) = true from h)
    have hb : b = false := by simpa using h'.1
    subst hb
    cases e <;> first | (cases h; done) | skip
    rename_i x' y' z' pos
    have h2 := h'.2
    replace h2 : (okE T L x true x' && okE T L y false y' && okE T L z false z') = true := h2
    simp only [Bool.and_eq_true] at h2
    refine ⟨fun _ => PE.by (pe_ifExp ((snd2 x c true _ h2.1.1).2 rfl).1 ((snd2 y c false _ h2.1.2).1 rfl) ((snd2 z c false _ h2.2).1 rfl)) fun σ H Q q => cond_of (fun _ _ _ h => h) (fun _ _ _ h => h) (fun _ _ _ h => h) q, fun h => by cases h⟩
  | .mut m tgt es, L, X, W, c, b, e, h => by
    cases e <;> first | (cases h; done) | skip
    rename_i fe l ks pos
    cases fe <;> first | (cases h; done) | skip
    cases ks <;> first | (cases h; done) | skip
    rename_i o n apos
    replace h : (n == meOf m && okMu m l.length && (apos.endLine == pos.line) && !isCall0 o && okE T L tgt false o && okEs T L es l) = true := h
    simp only [Bool.and_eq_true, Bool.not_eq_true', beq_iff_eq (a := n)] at h
    obtain ⟨⟨⟨⟨⟨rfl, h1⟩, h2⟩, h3⟩, h4⟩, h5⟩ := h
    have p := mut_all (cpos := pos) (apos := apos) c h1 h2 h3 h4 h5 ((snd2 tgt c false _ h4).1 rfl) (sndEs es c _ h5).1
    exact leaf2 b rfl p
  | .meth p tgt es, L, X, W, c, b, e, h => by
    cases e <;> first | (cases h; done) | skip
    rename_i fe l ks pos
    cases fe <;> first | (cases h; done) | skip
    cases ks <;> first | (cases h; done) | skip
    rename_i o n apos
    replace h : (n == mName p && l.length == mAr p && l.length != 0 && (apos.endLine == pos.line) && !isCall0 o && (if isM1 p then okKT T L tgt o else okE T L tgt false o) && okEs T L es l) = true := h
    simp only [Bool.and_eq_true, Bool.not_eq_true', beq_iff_eq (a := n), beq_iff_eq (a := l.length), bne_iff_ne] at h
    obtain ⟨⟨⟨⟨⟨⟨rfl, h1⟩, h0⟩, h2⟩, h3⟩, h4⟩, h5⟩ := h
    have p' := meth_all (cpos := pos) (apos := apos) (es := es) c h1 h0 h2 h3 h4 (okEs_star h5) (fun h => (snd2 tgt c false _ h).1 rfl) (sndEs es c _ h5).2.2.1
    exact leaf2 b rfl p'
  | .callA f es ks arr, L, X, W, c, b, e, h => by
    cases e <;> first | (cases h; done) | skip
    rename_i fe l kw pos
    cases fe <;> first | (cases h; done) | skip
    rename_i x p
    replace h : (isGl L x && (T.kws.any fun q => q.name == x && q.ix == f && q.n == l.length && decide (kw.map (·.arg) = q.ks.map some) && arrB q.arr arr) && okEs T L es l && okEs T L ks (kw.map (·.value))) = true := h
    have h' := Bool.and_eq_true_iff.mp h
    have h'' := Bool.and_eq_true_iff.mp h'.1
    have h3 := Bool.and_eq_true_iff.mp h''.1
    obtain ⟨a1, _, _, _⟩ := sndEs es c _ h''.2
    obtain ⟨_, _, _, b1⟩ := sndEs ks c _ h'.2
    have hz : l = [] → evs cf es = .ret [] := fun e => by
      subst e
      cases es with
      | nil => rfl
      | cons => cases h''.2
    have pp : PE X (.Call (.Name x p) l kw pos) (simE X.K W (ev cf (.callA f es ks arr))) := c.callA (n := es.length) (m := ks.length) (ms := evs cf es) (mz := evs cf ks) (arr := arr) h3.1 h3.2 (okEs_len h''.2) (by rw [okEs_len h'.2]; simp) (okEs_star h''.2) a1 (b1 kw rfl) hz
    exact leaf2 b rfl pp
  | .lc own g it ifs elt, L, X, W, c, b, e, h => by
    cases e <;> first | (cases h; done) | skip
    rename_i x gs scope pos
    obtain ⟨t, i, fs, rfl, h6, q⟩ : ∃ t i fs, gs = [⟨t, i, fs, 0⟩] ∧ isSet i = false ∧ LcOk X x t i fs scope own (simI X.K W (iter cf it)) (gcR X.K g) (simT X.K W0 (tsts cf ifs)) (simE X.K W0 (ev cf elt)) ∧ Keeps own (gcR X.K g) ∧ ∀ v σ H Q, simG X.K (asgG cf g) v σ H Q → gcR X.K g v σ H Q := by
      obtain ⟨t, i, fs, rfl, h⟩ := okLc_of (show okLc _ gs = true from h)
      replace h : (blkC L.N L.sc scope (own.map fun j => (L.N.getD j Str.empty, j)) && okI T L it t i && okGc (blkL L scope) own g t && okTs T (blkL L scope) ifs fs && okE T (blkL L scope) elt false x && !isSet i) = true := h
      · simp only [Bool.and_eq_true, Bool.not_eq_true'] at h
        obtain ⟨⟨⟨⟨⟨h1, h2⟩, h3⟩, h4⟩, h5⟩, h6⟩ := h
        have hk : scope.kind = .function := by
          have := blkOk_by h1
          exact this.kind
        have cb := fun s H C cl fp => c.blk s H scope C cl fp hk
        refine ⟨t, i, fs, rfl, h6, ⟨sndI it c t i h2, ⟨own.map fun j => (L.N.getD j Str.empty, j), ?_, ?_⟩, fun s H C cl fp => (gc_of (cf := cf) (cb s H C cl fp) h3).1, fun s H C cl fp => sndTs ifs (cb s H C cl fp) fs h4, fun s H C cl fp => (snd2 elt (cb s H C cl fp) false x h5).1 rfl⟩, ?_⟩
        · rw [List.map_map]; exact List.map_id _
        · rw [c.N, c.sc]; exact blkOk_by h1
        · exact gc_keep h3
    obtain ⟨⟨p1, ⟨o, rfl, p2⟩, p3, p4, p5⟩, kp, sg⟩ := q
    have p : PE X (.ListComp x [⟨t, i, fs, 0⟩] scope pos) (simE X.K W (ev cf (.lc (o.map (·.2)) g it ifs elt))) := PE.by (pe_lc c.calm c.nd p1 p2 p3 p4 p5 (folded_of h6 _)) fun σ H Q q => lc_of (fun _ _ _ q => q) sg kp (fun _ _ _ q => q) (fun _ _ _ q => q) q
    exact leaf2 b rfl p
theorem sndTs : ∀ (Es : List E) {L : LC} {X : Cx} {W : WX} (c : CtxOk T cf L X W) (l : List Expr), okTs T L Es l = true → PTs X l (simT X.K W (tsts cf Es))
  | [], L, X, W, c, l, h => by
    cases l with
    | nil => exact ⟨fun pins s σ H Q I q => pts_nil.run pins s σ H Q I (by
        obtain ⟨ρ, Z, S, en, F, ⟨k, r⟩, h⟩ := q
        exact h ρ Z H k r)⟩
    | cons _ _ => cases h
  | E1 :: Es, L, X, W, c, l, h => by
    cases l with
    | nil => exact absurd h (by show ¬ ((Es.isEmpty && false) = true); simp)
    | cons e r =>
      cases r with
      | nil =>
        have h' := Bool.and_eq_true_iff.mp (show (Es.isEmpty && okE T L E1 true e) = true from h)
        have he : Es = [] := by simpa using h'.1
        subst he
        have := ((snd2 E1 c true e h'.2).2 rfl).1
        exact pts_one (PT.by this fun σ H Q q => tests1 q)
      | cons e2 r => exact absurd h (by show ¬ ((Es.isEmpty && false) = true); simp)
theorem sndI : ∀ (it : I) {L : LC} {X : Cx} {W : WX} (c : CtxOk T cf L X W) (t e : Expr), okI T L it t e = true → PI X t e (simI X.K W (iter cf it))
  | .seq E1, L, X, W, c, t, e, h => pi_seq ((snd2 E1 c false e h).1 rfl)
  | .rng1 A, L, X, W, c, t, e, h => by
    cases e <;> first | (cases h; done) | skip
    rename_i fe l ks pos
    cases fe <;> first | (cases h; done) | skip
    rename_i x p
    match l, ks, h with
    | [a], [], h =>
      replace h : (okB T L x "range" && okE T L A false a && !isStar a) = true := h
      simp only [Bool.and_eq_true, Bool.not_eq_true'] at h
      obtain ⟨⟨h1, h2⟩, h3⟩ := h
      obtain ⟨rfl, hg, hm⟩ := c.blt h1
      exact PI.by (pi_range1 hg hm (pa_cons ((snd2 A c false a h2).1 rfl) pa_nil (star_of h3 _ _)) (star_of h3 _ _)) fun σ H R q => rng1_of (fun _ _ _ q => q) q
    | [], _, h => cases h
    | [_], _ :: _, h => cases h
    | _ :: _ :: _, _, h => cases h
  | .rng2 A B, L, X, W, c, t, e, h => by
    cases e <;> first | (cases h; done) | skip
    rename_i fe l ks pos
    cases fe <;> first | (cases h; done) | skip
    rename_i x p
    match l, ks, h with
    | [a, b], [], h =>
      replace h : (okB T L x "range" && okE T L A false a && okE T L B false b && !isStar a && !isStar b) = true := h
      simp only [Bool.and_eq_true, Bool.not_eq_true'] at h
      obtain ⟨⟨⟨⟨h1, h2⟩, h3⟩, h4⟩, h5⟩ := h
      obtain ⟨rfl, hg, hm⟩ := c.blt h1
      exact PI.by (pi_range2 hg hm (pa_cons ((snd2 A c false a h2).1 rfl) (pa_cons ((snd2 B c false b h3).1 rfl) pa_nil (star_of h5 _ _)) (star_of h4 _ _)) (by rw [star_of h4, star_of h5]; rfl) (star_of h5 _ _)) fun σ H R q => rng2_of (fun _ _ _ q => q) (fun _ _ _ q => q) q
    | [], _, h => cases h
    | [_], _, h => cases h
    | [_, _], _ :: _, h => cases h
    | _ :: _ :: _ :: _, _, h => cases h
  | .enum E1, L, X, W, c, t, e, h => by
    cases t <;> cases e <;> first | (cases h; done) | skip
    rename_i fe l ks pos
    cases fe <;> first | (cases h; done) | skip
    rename_i x p
    match l, ks, h with
    | [a], [], h =>
      replace h : (okB T L x "enumerate" && okE T L E1 false a && !isStar a) = true := h
      simp only [Bool.and_eq_true, Bool.not_eq_true'] at h
      obtain ⟨⟨h1, h2⟩, h3⟩ := h
      obtain ⟨rfl, hg, hm⟩ := c.blt h1
      exact pi_enum2 hg hm (pa_cons ((snd2 E1 c false a h2).1 rfl) pa_nil (star_of h3 _ _)) (star_of h3 _ _)
    | [], _, h => cases h
    | [_], _ :: _, h => cases h
    | _ :: _ :: _, _, h => cases h
theorem sndEs : ∀ (Es : List E) {L : LC} {X : Cx} {W : WX} (c : CtxOk T cf L X W) (l : List Expr), okEs T L Es l = true → PA X l (simAs X.K W (evs cf Es)) ∧ (∃ ts, Reads' X l ts ∧ ∀ σ H Q, simOs X.K W (ops cf Es) σ H Q → tAll ts σ H Q) ∧ PA X l (simOs X.K W (ops cf Es)) ∧ ∀ kw : List Keyword, kw.map (·.value) = l → PK X kw (simAs X.K W (evs cf Es))
  | [], L, X, W, c, [], h => ⟨PA.by pa_nil fun σ H Q q => as_nil q, ⟨[], .nil, fun σ H Q q => os_nil q⟩, PA.by pa_nil fun σ H Q q => os_nil q, fun kw hk => by
    have : kw = [] := by simpa using hk
    subst this
    exact PK.by pk_nil fun σ H Q q => as_nil q⟩
  | [], L, X, W, c, _ :: _, h => by cases h
  | _ :: _, L, X, W, c, [], h => by cases h
  | E1 :: Es, L, X, W, c, e :: l, h => by
    replace h : (okE T L E1 false e && !isStar e && okEs T L Es l) = true := h
    simp only [Bool.and_eq_true, Bool.not_eq_true'] at h
    have p1 := (snd2 E1 c false _ h.1.1).1 rfl
    have p2 := sndEs Es c _ h.2
    refine ⟨PA.by (pa_cons p1 p2.1 (star_of h.1.2 _ _)) fun σ H Q q => as_cons (m := ev cf E1) (ms := evs cf Es) (fun _ _ _ h => h) (fun _ _ _ h => h) q, op_cons c h.1.1 p1 p2.2.1, ?_, fun kw hk => ?_⟩
    · exact op_pa c h.1.1 h.1.2 p1 p2.2.2.1
    · cases kw with
      | nil => cases hk
      | cons q kw =>
        obtain ⟨nm, v, kp⟩ := q
        simp only [List.map_cons, List.cons.injEq] at hk
        obtain ⟨rfl, hk⟩ := hk
        exact PK.by (pk_cons p1 (p2.2.2.2 kw hk)) fun σ H Q q => as_cons (m := ev cf E1) (ms := evs cf Es) (fun _ _ _ h => h) (fun _ _ _ h => h) q
end
end
end Mi
end
section
set_option Elab.async false
set_option maxRecDepth 100000
set_option linter.all false
namespace Mi
open PySem PySem.Spec PyProof.Rows L2
section
variable {T : Tab} {cf : Calls}
theorem PG.by {X : Cx} {e : Expr} {t t' : TG} (h : PG X e t) (k : ∀ v σ H Q, t' v σ H Q → t v σ H Q) : PG X e t' := ⟨fun pins s σ H v u Q I r q => h.run pins s σ H v u Q I r (k v σ H Q q)⟩
theorem PGs.by {X : Cx} {e : List Expr} {t t' : TGs} (h : PGs X e t) (k : ∀ v σ H Q, t' v σ H Q → t v σ H Q) : PGs X e t' := ⟨fun pins s σ H v u Q I r q => h.run pins s σ H v u Q I r (k v σ H Q q)⟩
theorem PS.by {X : Cx} {e : Stmt} {t t' : TS} (h : PS X e t) (k : ∀ D σ H, t' D σ H → t D σ H) : PS X e t' := ⟨fun pins s σ H D I q => h.run pins s σ H D I (k D σ H q)⟩
theorem PSs.by {X : Cx} {e : List Stmt} {t t' : TS} (h : PSs X e t) (k : ∀ D σ H, t' D σ H → t D σ H) : PSs X e t' := ⟨fun pins s σ H D I q => h.run pins s σ H D I (k D σ H q)⟩
theorem okGs_star {L : LC} : ∀ {gs : List G} {es : List Expr}, okGs T L gs es = true → es.length = gs.length ∧ ∀ e ∈ es, isStar e = false
  | [], [], _ => ⟨rfl, fun _ h => by cases h⟩
  | [], _ :: _, h => by cases h
  | _ :: _, [], h => by cases h
  | g :: gs, e :: es, h => by
    replace h : (okG T L g e && !isStar e && okGs T L gs es) = true := h
    simp only [Bool.and_eq_true, Bool.not_eq_true'] at h
    obtain ⟨hl, hst⟩ := okGs_star h.2
    refine ⟨by simp [hl], fun x hx => ?_⟩
    rcases List.mem_cons.mp hx with hx | hx
    · rw [hx]; exact h.1.2
    · exact hst x hx
theorem sub_assign {o i : Expr} {pos : Pos} {env : PySem.Env} (h : isSlc i = false) (v : Value) : assign (.Subscript o i pos) env v = (do
      let ov ← holding [v] (eval o env)
      let iv ← holding [v, ov] (eval i env)
      standAt pos
      holding [v, ov, iv] (setItem ov iv v)
      release [v, ov, iv] []) := by
  cases i <;> first | rfl | cases h
mutual
theorem sndG : ∀ (g : G) {L : LC} {X : Cx} {W : WX} (c : CtxOk T cf L X W) (e : Expr), okG T L g e = true → PG X e (simG X.K (asgG cf g))
  | .nm i, L, X, W, c, e, h => by
    cases e <;> first | (cases h; done) | skip
    rename_i x pos
    have h' := Bool.and_eq_true_iff.mp (show (decide (L.N[i]? = some x) && isLoc L x) = true from h)
    exact PG.by (pg_name c.nd (by rw [c.N]; exact of_decide_eq_true h'.1) (c.loc h'.2).1 (c.loc h'.2).2) fun v σ H Q q => g_name q
  | .tp gs, L, X, W, c, e, h => by
    cases e <;> first | (cases h; done) | skip
    rename_i es kk pos
    obtain ⟨hl, hst⟩ := okGs_star (show okGs T L gs es = true from h)
    obtain ⟨h1, h2⟩ := asg_len X.env hst
    exact PG.by (pg_tup c.calm (sndGs gs c es h) (h1.trans hl) h2) fun v σ H Q q => g_tup (fun _ _ _ _ q => q) q
  | .sub o i, L, X, W, c, e, h => by
    cases e <;> first | (cases h; done) | skip
    rename_i x y pos
    replace h : (okE T L o false x && okE T L i false y && !isSlc y) = true := h
    simp only [Bool.and_eq_true, Bool.not_eq_true'] at h
    have pi := (snd2 i c false y h.1.2).1 rfl
    obtain ⟨t, ht, hh⟩ := pl_of c h.1.1 ((snd2 o c false x h.1.1).1 rfl)
    refine PG.by (pg_sub ht pi set_list (sub_assign h.2)) fun v σ H Q q => ?_
    rcases hh with ⟨n, rfl, rfl⟩ | ⟨hv, rfl⟩
    · exact g_subV (mi := ev cf i) (W := W) (fun _ _ _ q => q) q
    · have e : asgG cf (.sub o i) = fun d => ((ev cf o).bind fun d => .ret (some d)).calm.bind fun r => (ev cf i).calm.bind fun j => (match r with
          | none => (match (none : Option Nat) with
            | some n => (getV n).bind fun d0 => (mutM .set d0 (some n) [j.hard, d.hard]).bind fun _ => .ret ()
            | none => .stuck)
          | some d0 => (mutM .set d0 none [j.hard, d.hard]).bind fun _ => .ret ()) := by
        funext d
        show ((pl1 o (ev2 cf o).1).calm.bind fun r => (ev2 cf i).1.calm.bind fun j => (match r with
          | none => (match slotOf o with
            | some n => (getV n).bind fun d0 => (mutM .set d0 (some n) [j.hard, d.hard]).bind fun _ => .ret ()
            | none => .stuck)
          | some d0 => (mutM .set d0 none [j.hard, d.hard]).bind fun _ => .ret ())) = _
        rw [pl1_exp hv, slot_exp hv]
      rw [e] at q
      exact g_subE (slot := none) (m0 := ev cf o) (mi := ev cf i) (W := W) (fun _ _ _ q => q) (fun _ _ _ q => q) q
  | .att o f, L, X, W, c, e, h => by cases h
theorem sndGs : ∀ (gs : List G) {L : LC} {X : Cx} {W : WX} (c : CtxOk T cf L X W) (es : List Expr), okGs T L gs es = true → PGs X es (simGs X.K (asgGs cf gs))
  | [], L, X, W, c, [], h => PGs.by pgs_nil fun v σ H Q q => g_nil q
  | [], L, X, W, c, _ :: _, h => by cases h
  | _ :: _, L, X, W, c, [], h => by cases h
  | g :: gs, L, X, W, c, e :: es, h => by
    replace h : (okG T L g e && !isStar e && okGs T L gs es) = true := h
    simp only [Bool.and_eq_true, Bool.not_eq_true'] at h
    exact PGs.by (pgs_cons (sndG g c e h.1.1) (sndGs gs c es h.2) (asg_map h.1.2 _)) fun v σ H Q q => g_cons (m := asgG cf g) (ms := asgGs cf gs) (fun _ _ _ _ q => q) (fun _ _ _ _ q => q) q
end
/-! ### statements -/
theorem sw_plain {e : Expr} (h : isCompE e = false) (t : Option Expr) (l : Nat) (env : PySem.Env) : swapsWith e t l env = pure false := by
  unfold swapsWith
  cases e <;> first | rfl | cases h
theorem stores_none {t e : Expr} (h : (isTupE t && isTupE e) = false) (hl : isCompE e = false ∨ True) (env : PySem.Env) : swappedStores [t] e env = pure none := by
  unfold swappedStores
  cases t <;> first | rfl | skip
  all_goals (cases e <;> first | rfl | (cases h; done))
theorem okP_lc {L : LC} {p : P} {k : List Expr → Bool} {x : Expr} {gs : List Comprehension} {scope : Scope} {pos : Pos} : okP T L p (.ListComp x gs scope pos) k = false := by
  cases p <;> first | rfl | skip
  rename_i lo hi
  cases lo <;> cases hi <;> rfl
theorem lc_only {L : LC} {E1 : E} {b : Bool} {x : Expr} {gs : List Comprehension} {scope : Scope} {pos : Pos} (h : okE T L E1 b (.ListComp x gs scope pos) = true) : ∃ own g it ifs elt, E1 = .lc own g it ifs elt := by
  cases E1 <;> first | (exact ⟨_, _, _, _, _, rfl⟩) | skip
  all_goals first | (cases h; done) | skip
  · rename_i p es
    rw [show okE T L (.prim p es) b (.ListComp x gs scope pos) = okP T L p (.ListComp x gs scope pos) (okEs T L es) from rfl, okP_lc] at h
    cases h
  · rename_i a b' c
    exact absurd h (by show ¬ ((!b && false) = true); simp)
theorem lc_parts {L : LC} {X : Cx} {W : WX} (c : CtxOk T cf L X W) {own : List Nat} {g : G} {it : I} {ifs : List E} {elt : E} {b : Bool} {x : Expr} {gs : List Comprehension} {scope : Scope} {pos : Pos} (h : okE T L (.lc own g it ifs elt) b (.ListComp x gs scope pos) = true) :
    ∃ t i fs, gs = [⟨t, i, fs, 0⟩] ∧ isSet i = false ∧ LcOk X x t i fs scope own (simI X.K W (iter cf it)) (gcR X.K g) (simT X.K W0 (tsts cf ifs)) (simE X.K W0 (ev cf elt)) ∧ Keeps own (gcR X.K g) ∧ ∀ v σ H Q, simG X.K (asgG cf g) v σ H Q → gcR X.K g v σ H Q := by
  obtain ⟨t, i, fs, rfl, h⟩ := okLc_of (show okLc _ gs = true from h)
  replace h : (blkC L.N L.sc scope (own.map fun j => (L.N.getD j Str.empty, j)) && okI T L it t i && okGc (blkL L scope) own g t && okTs T (blkL L scope) ifs fs && okE T (blkL L scope) elt false x && !isSet i) = true := h
  simp only [Bool.and_eq_true, Bool.not_eq_true'] at h
  obtain ⟨⟨⟨⟨⟨h1, h2⟩, h3⟩, h4⟩, h5⟩, h6⟩ := h
  have hk : scope.kind = .function := (blkOk_by h1).kind
  have cb := fun s H C cl fp => c.blk s H scope C cl fp hk
  refine ⟨t, i, fs, rfl, h6, ⟨sndI it c t i h2, ⟨own.map fun j => (L.N.getD j Str.empty, j), ?_, ?_⟩, fun s H C cl fp => (gc_of (cf := cf) (cb s H C cl fp) h3).1, fun s H C cl fp => sndTs ifs (cb s H C cl fp) fs h4, fun s H C cl fp => (snd2 elt (cb s H C cl fp) false x h5).1 rfl⟩, ?_⟩
  · rw [List.map_map]; exact List.map_id _
  · rw [c.N, c.sc]; exact blkOk_by h1
  · exact gc_keep h3
/-- .. of the statement's own reading -/
theorem s_asgM {K : PySem.W.Frag} {W : WX} {σ : L2.St} {H : Hp} {D' : Ends} {m : M D} {g : D → M Unit} {te : TE} {tg : TG} (ha : ∀ σ H Q, simE K W m σ H Q → te σ H Q) (hg : ∀ v σ H Q, simG K g v σ H Q → tg v σ H Q) (h : tAsg (simE K W m) (simG K g) D' σ H) : tAsg te tg D' σ H := by
  refine ha σ H _ ?_
  obtain ⟨ρ, Z, S, en, F, k, h⟩ := h
  exact ⟨ρ, Z, S, en, F, k, h.imp (Le.refl F) fun d en1 S1 q ρ1 Z1 v H1 k1 r1 => hg v σ H1 _ (q ρ1 Z1 v H1 k1 r1)⟩
/-- is the store within the comprehension's frame -/
def swC (L : LC) (t e : Expr) : Bool := match t, e with
  | .Name y py, .ListComp _ _ scope pos => decide (L.sc.names.lookup y = some .local) && (py.line == pos.line) && !(scope.names.any fun (n, k) => n == y && (k == .local || k == .cell))
  | _, _ => false
theorem sw_of {L : LC} {X : Cx} {W : WX} (c : CtxOk T cf L X W) {t x : Expr} {gs : List Comprehension} {scope : Scope} {pos : Pos} (h : swC L t (.ListComp x gs scope pos) = false) (l : Nat) : swapsWith (.ListComp x gs scope pos) (some t) l X.env = pure false := by
  unfold swapsWith
  cases t <;> first | rfl | skip
  rename_i y py
  have hb : X.env.blockKind = .function := by unfold PySem.Env.blockKind; rw [c.sc, c.kind]; rfl
  have hk : X.env.kindOf y = L.sc.names.lookup y := by show X.env.scope.names.lookup y = _; rw [c.sc]
  show (pure (X.env.blockKind == .function && X.env.kindOf y == some .local && py.line == pos.line && !(scope.names.any fun (n, k) => n == y && (k == .local || k == .cell))) : Sem Bool) = pure false
  rw [hb, hk]
  replace h : (decide (L.sc.names.lookup y = some .local) && (py.line == pos.line) && !(scope.names.any fun (n, k) => n == y && (k == .local || k == .cell))) = false := h
  have e : (L.sc.names.lookup y == some NameKind.local) = decide (L.sc.names.lookup y = some .local) := by
    by_cases z : L.sc.names.lookup y = some .local
    · rw [z]; rfl
    · rw [decide_eq_false z]
      simpa using z
  rw [e, ← h]
  rfl
mutual
theorem sndS (Wn : Nat) : ∀ (S1 : S) {L : LC} {X : Cx} {W : WX} (c : CtxOk T cf L X W) (s : Stmt), okS T L S1 s = true → PS X s (simS X.K W (exS cf Wn S1))
  | .asg g E1, L, X, W, c, s, h => by
    cases s <;> first | (cases h; done) | skip
    rename_i ts e pos
    match ts, h with
    | [t], h =>
      replace h : (okG T L g t && okE T L E1 false e && !isStar t && !(isTupE t && isTupE e) && !isCompE2 e) = true := h
      simp only [Bool.and_eq_true, Bool.not_eq_true'] at h
      obtain ⟨⟨⟨⟨h1, h2⟩, h3⟩, h4⟩, h5⟩ := h
      have pg := sndG g c t h1
      have rd : PS X (.Assign [t] e pos) (tAsg (simE X.K W (ev cf E1)) (simG X.K (asgG cf g))) → PS X (.Assign [t] e pos) (simS X.K W (exS cf Wn (.asg g E1))) := fun p => PS.by p fun D σ H q => s_asg (m := ev cf E1) (g := asgG cf g) (fun _ _ _ q => q) (fun _ _ _ _ q => q) q
      apply rd
      have plain : (∀ l, swapsWith e (some t) l X.env = pure false) → PS X (.Assign [t] e pos) (tAsg (simE X.K W (ev cf E1)) (simG X.K (asgG cf g))) := fun hs =>
        ps_asg ((snd2 E1 c false e h2).1 rfl) pg (hs _) (stores_none h4 (.inr trivial) _) (asg_map h3 _)
      by_cases hc : isCompE e = true
      · cases e <;> first | (cases hc; done) | skip
        · rename_i x gs scope pos'
          cases hsw : swC L t (.ListComp x gs scope pos') with
          | false => exact plain fun l => sw_of c hsw l
          | true =>
            cases t <;> first | (cases hsw; done) | skip
            rename_i y py
            replace hsw : (decide (L.sc.names.lookup y = some .local) && (py.line == pos'.line) && !(scope.names.any fun (n, k) => n == y && (k == .local || k == .cell))) = true := hsw
            simp only [Bool.and_eq_true, decide_eq_true_eq, Bool.not_eq_true'] at hsw
            obtain ⟨⟨w1, w2⟩, w3⟩ := hsw
            obtain ⟨i, rfl, hi⟩ : ∃ i, g = .nm i ∧ L.N[i]? = some y := by
              cases g <;> first | (cases h1; done) | skip
              have h' := Bool.and_eq_true_iff.mp h1
              exact ⟨_, rfl, of_decide_eq_true h'.1⟩
            obtain ⟨own, g2, it, ifs, elt, rfl⟩ := lc_only h2
            obtain ⟨t, i2, fs, rfl, h6, ⟨p1, ⟨o, rfl, p2⟩, p3, p4, p5⟩, kp, sg⟩ := lc_parts c h2
            have hl : X.env.scope.names.lookup y = some .local := by rw [c.sc]; exact w1
            refine PS.by (ps_setLc c.calm c.nd (by rw [c.N]; exact hi) hl (sw_true (by rw [c.sc]; exact c.kind) hl w2 w3) p1 p2 p3 p4 p5 (folded_of h6 _)) fun D σ H q => ?_
            exact s_asgM (fun _ _ _ q => lc_of (fun _ _ _ q => q) sg kp (fun _ _ _ q => q) (fun _ _ _ q => q) q) (fun v σ H Q q => g_name q) q
        · cases h5
        · cases h5
      · exact plain fun l => sw_plain (by simpa using hc) _ _ _
    | [], h => cases h
    | _ :: _ :: _, h => cases h
  | .ex E1, L, X, W, c, s, h => by
    cases s <;> first | (cases h; done) | skip
    rename_i e pos
    have h' := Bool.and_eq_true_iff.mp (show (okE T L E1 false e && !isCompE e) = true from h)
    exact PS.by (ps_expr ((snd2 E1 c false e h'.1).1 rfl) (sw_plain (by simpa using h'.2) _ _ _)) fun D σ H q => s_ex (m := ev cf E1) (fun _ _ _ q => q) q
  | .ret E1, L, X, W, c, s, h => by
    cases s <;> first | (cases h; done) | skip
    rename_i o pos
    cases o <;> first | (cases h; done) | skip
    exact PS.by (ps_ret ((snd2 E1 c false _ h).1 rfl)) fun D σ H q => s_ret (m := ev cf E1) (fun _ _ _ q => q) q
  | .ite t a b, L, X, W, c, s, h => by
    cases s <;> first | (cases h; done) | skip
    rename_i x y z pos
    replace h : (okE T L t true x && okSs T L a y && okSs T L b z) = true := h
    simp only [Bool.and_eq_true] at h
    exact PS.by (ps_if ((snd2 t c true x h.1.1).2 rfl).1 (sndSs Wn a c y h.1.2) (sndSs Wn b c z h.2)) fun D σ H q => s_if (c := tst cf t) (a := exSs cf Wn a) (b := exSs cf Wn b) (fun _ _ _ q => q) (fun _ _ _ q => q) (fun _ _ _ q => q) q
  | .for_ g it b, L, X, W, c, s, h => by
    cases s <;> first | (cases h; done) | skip
    rename_i t i x els pos
    cases els <;> first | (cases h; done) | skip
    replace h : (okG T L g t && okI T L it t i && okSs T L b x && !isSet i && !isStar t) = true := h
    simp only [Bool.and_eq_true, Bool.not_eq_true'] at h
    obtain ⟨⟨⟨⟨h1, h2⟩, h3⟩, h4⟩, h5⟩ := h
    exact PS.by (ps_for c.own c.calm (sndI it c t i h2) (sndG g c t h1) (sndSs Wn b c x h3) (folded_of h4 _)) fun D σ H q => s_for (it := iter cf it) (g := asgG cf g) (b := exSs cf Wn b) (fun _ _ _ q => q) (fun _ _ _ _ q => q) (fun _ _ _ q => q) q
  | .while_ t b, L, X, W, c, s, h => by
    cases s <;> first | (cases h; done) | skip
    rename_i x y els pos
    cases els <;> first | (cases h; done) | skip
    have h' := Bool.and_eq_true_iff.mp (show (okE T L t true x && okSs T L b y) = true from h)
    exact PS.by (ps_while c.own ((snd2 t c true x h'.1).2 rfl).1 (sndSs Wn b c y h'.2)) fun D σ H q => s_while (c := tst cf t) (b := exSs cf Wn b) (fun _ _ _ q => q) (fun _ _ _ q => q) q
  | .brk, L, X, W, c, s, h => by
    cases s <;> first | (cases h; done) | skip
    exact PS.by ps_break fun D σ H q => s_brk q
  | .cont, L, X, W, c, s, h => by
    cases s <;> first | (cases h; done) | skip
    exact PS.by ps_continue fun D σ H q => s_cont q
  | .pass, L, X, W, c, s, h => by
    cases s <;> first | (cases h; done) | skip
    exact PS.by ps_pass fun D σ H q => s_next q
theorem sndSs (Wn : Nat) : ∀ (Ss : List S) {L : LC} {X : Cx} {W : WX} (c : CtxOk T cf L X W) (ss : List Stmt), okSs T L Ss ss = true → PSs X ss (simS X.K W (exSs cf Wn Ss))
  | [], L, X, W, c, [], h => PSs.by pss_nil fun D σ H q => s_next q
  | [], L, X, W, c, _ :: _, h => by cases h
  | _ :: _, L, X, W, c, [], h => by cases h
  | S1 :: Ss, L, X, W, c, s :: ss, h => by
    have h' := Bool.and_eq_true_iff.mp (show (okS T L S1 s && okSs T L Ss ss) = true from h)
    exact PSs.by (pss_cons (sndS Wn S1 c s h'.1) (sndSs Wn Ss c ss h'.2)) fun D σ H q => s_seq (a := exS cf Wn S1) (b := exSs cf Wn Ss) (fun _ _ _ q => q) (fun _ _ _ q => q) q
end
end
end Mi
end
section
set_option Elab.async false
set_option maxRecDepth 100000
set_option linter.all false
namespace Mi
open PySem PySem.Spec PyProof.Rows L2
/-! ### defs -/
/-- what is known of a def of the table -/
structure DefOk (K : PySem.W.Frag) (mg : Str → Option Value) (T : Tab) (fns : List Fn) (p : FnT) (fa : Addr) (fd : FuncData) (ps N : List Str) (fn : Fn) (x qual : Str) (params : Arguments) (body : List Stmt) (scope : Scope) (dvs : List V) (kws : List (Str × V)) : Prop where
  at_ : fns[p.ix]? = some fn
  np : fn.np = p.np
  mg : mg p.name = some (.ref fa)
  fund : FunD K x qual params body scope dvs kws fa fd
  sc : FnScope N ps scope
  pl : ps.length = p.np
  nl : N.length = fn.nl
  bd : L2.Binds K fd ps []
  ok : okSs T ⟨N, scope, none⟩ fn.body body = true
structure TabOk (K : PySem.W.Frag) (mg : Str → Option Value) (T : Tab) (fns : List Fn) : Prop where
  free : ∀ x ∈ T.frees, mg x = none
  con : ∀ p ∈ T.consts, ∃ (u : Value) (v : V), mg p.1 = some u ∧ RelV v u ∧ (∀ ρ Z H, RepS K ρ Z H p.2 v) ∧ ∀ ds, p.2 = .tup ds → ∃ a o, v = .ref a ∧ K.lookup a = some o ∧ o.cls = .type "tuple" ∧ o.dict = none
  kw : ∀ q ∈ T.kws, ∃ (p : FnT) (fa : Addr) (fd : FuncData) (ps N : List Str) (fn : Fn) (x qual : Str) (params : Arguments) (body : List Stmt) (scope : Scope) (dvs : List V) (kws : List (Str × V)), p.name = q.name ∧ p.ix = q.ix ∧ p.np = q.np ∧ DefOk K mg T fns p fa fd ps N fn x qual params body scope dvs kws ∧ BindA K fd ps q.n q.ks q.arr
  fn : ∀ p ∈ T.fns, ∃ (fa : Addr) (fd : FuncData) (ps N : List Str) (fn : Fn) (x qual : Str) (params : Arguments) (body : List Stmt) (scope : Scope) (dvs : List V) (kws : List (Str × V)), DefOk K mg T fns p fa fd ps N fn x qual params body scope dvs kws
theorem pairs_start : ∀ (vs : List V) (ds : List D) (n : Nat), vs.length = ds.length → pairs (vs.map some ++ List.replicate n none) (ds.map some ++ List.replicate n none) = vs.zip ds
  | [], [], n, _ => by
    have : ∀ n : Nat, pairs (List.replicate n none) (List.replicate n none) = [] := by
      intro n
      induction n with
      | zero => rfl
      | succ n ih => exact ih
    exact this n
  | [], _ :: _, _, h => by simp at h
  | _ :: _, [], _, h => by simp at h
  | v :: vs, d :: ds, n, h => by
    show (v, d) :: pairs (vs.map some ++ List.replicate n none) (ds.map some ++ List.replicate n none) = _
    rw [pairs_start vs ds n (by simpa using h)]
    rfl
theorem env_start (vs : List V) (ds : List D) (n : Nat) (h : vs.length = ds.length) : EnvOk (vs.map some ++ List.replicate n none) (ds.map some ++ List.replicate n none) := by
  refine ⟨by simp [h], fun i d hi => ?_⟩
  by_cases hlt : i < ds.length
  · rw [List.getElem?_append_left (by simpa [h] using hlt)]
    have : i < vs.length := by omega
    exact ⟨vs[i], by simp [this]⟩
  · rw [List.getElem?_append_right (by simpa using hlt)] at hi
    rw [List.getElem?_replicate] at hi
    split at hi <;> cases hi
section
variable {P : Program} {w : World} {K : PySem.W.Frag} {mg : Str → Option Value} {base : Heap}
theorem run_len {fns : List Fn} {Wn : Nat} : ∀ {n f : Nat} {fn : Fn}, fns[f]? = some fn → ∀ ds s, ds.length ≠ fn.np → run fns Wn n f ds s = .stuck
  | 0, _, _, _, _, _, _ => rfl
  | n + 1, f, fn, h, ds, s, hl => by
    simp only [run, h]
    rw [if_neg hl]
theorem def_ok {T : Tab} {fns : List Fn} {Wn : Nat} (tb : TabOk K mg T fns) : ∀ (n : Nat) (p : FnT) (fa : Addr) (fd : FuncData) (ps N : List Str) (fn : Fn) (x qual : Str) (params : Arguments) (body : List Stmt) (scope : Scope) (dvs : List V) (kws : List (Str × V)),
    DefOk K mg T fns p fa fd ps N fn x qual params body scope dvs kws → FnG P w K mg base n fa fd ps (spF K (run fns Wn n) p.np p.ix)
  | 0, p, fa, fd, ps, N, fn, x, qual, params, body, scope, dvs, kws, d => ⟨fun vs H Q E h => h.1.trans d.pl.symm, fun A outer s H args us vs Q E _ _ _ _ _ h => by
      obtain ⟨_, ρ, Z, S, F, ds, _, _, h⟩ := h
      exact h.elim⟩
  | n + 1, p, fa, fd, ps, N, fn, x, qual, params, body, scope, dvs, kws, d => by
    refine fnG_of d.fund d.sc (fun vs H Q E h => h.1.trans d.pl.symm) fun cdv A outer s H vs Q E hr gd h => ?_
    let X : Cx := cxOf (L2.CX P w) P w K mg base N qual scope fa cdv A outer s H E
    let W : WX := fun cls dx _ H => E cls dx H
    have tk : Takes X W := takes_of rfl rfl rfl rfl
    have c : CtxOk T (run fns Wn n) ⟨N, scope, none⟩ X W := by
      refine ⟨rfl, d.sc.nd, rfl, d.sc.kind, rfl, hr.units, tb.free, tb.con, gd, fun q hq => ?_, fun q hq => ?_, fun σ => passAt tk σ, passes_of (K := fun e s'' => L2.CX P w outer H s E e s'') rfl, .inl ⟨rfl, fun _ => rfl⟩⟩
      · obtain ⟨p', fa', fd', ps', N', fn', x', qual', params', body', scope', dvs', kws', e1, e2, e3, d', hb⟩ := tb.kw q hq
        refine ⟨fa', fd', ps', n, by rw [← e1]; exact d'.mg, d'.fund.kp, hb, hr, ?_, fun ds s hl => ?_⟩
        · rw [← e2, ← e3]; exact def_ok tb n p' fa' fd' ps' N' fn' x' qual' params' body' scope' dvs' kws' d'
        · rw [← e2]
          exact run_len d'.at_ ds s (by rw [d'.np, e3]; exact hl)
      obtain ⟨fa', fd', ps', N', fn', x', qual', params', body', scope', dvs', kws', d'⟩ := tb.fn q hq
      refine ⟨fa', fd', ps', n, d'.mg, d'.fund.kp, d'.bd, hr, def_ok tb n q fa' fd' ps' N' fn' x' qual' params' body' scope' dvs' kws' d', fun ds s hl => run_len d'.at_ ds s ?_⟩
      rw [d'.np]; exact hl
    refine ⟨_, sndSs Wn fn.body c body d.ok, ?_⟩
    obtain ⟨hl, ρ, Z, S, F, ds, hd, r, h⟩ := h
    have hn : ds.length = fn.np := by rw [hd, hl, d.np]
    simp only [run, d.at_] at h
    rw [if_pos hn] at h
    have e1 : L2.start N vs = vs.map some ++ List.replicate (N.length - vs.length) none := rfl
    have e2 : initE fn.nl ds = ds.map some ++ List.replicate (N.length - vs.length) none := by
      unfold initE; rw [d.nl, hd]
    rw [e2] at h
    rw [e1]
    refine ⟨ρ, Z, S, _, F, env_start vs ds _ hd.symm, by rw [pairs_start vs ds _ hd.symm]; exact r, ?_⟩
    generalize exSs (run fns Wn n) Wn fn.body (ds.map some ++ List.replicate (N.length - vs.length) none) S = res at h
    have dropE : ∀ {σ : L2.St} {en : Env}, Le F (pairs σ en ++ F) := fun {σ en} => ⟨fun p hp => List.mem_append_right _ hp, fun a => by simp only [cF_append]; omega⟩
    cases res with
    | ok f en S' =>
      cases f with
      | next => exact fun ρ' Z' σ' H' k r' => h ρ' Z' .non H' ((r'.le dropE).push rfl)
      | ret d' => exact fun ρ' Z' σ' v H' k r' => h ρ' Z' v H' (r'.le (Le.cons dropE _))
      | brk => exact h.elim
      | cont => exact h.elim
    | exc x' en S' => exact fun ρ' Z' σ' H' cls dx k r' ex => h ρ' Z' H' cls dx (r'.le dropE) ex
    | stuck => exact h.elim
end
/-! ### a law -/
/-- the heap that the call begins with: the script hidden where it is no object of the module's -/
theorem law_callG {P : Program} {w : World} {K : PySem.W.Frag} {mg mb : Str → Option Value} {k : Nat} {fa a : Addr} {fd : FuncData} {x : Str} {sp : Sp} {s₁ : Shared} {vs : List Value} {ns : List Int}
    (KX : K.In s₁.heap) (hns : s₁.heap.Ns mainGlobals mg) (hb : s₁.heap.Ns builtinsNs mb) (hbb : ∀ x : Str, x ≠ "__name__" → mb x = bootBuiltins x) (hlim : s₁.heap.NoLimit) (hg : s₁.gens = #[])
    (ha : s₁.heap.get? a = some { cls := .type "list", data := .seq vs.toArray }) (hi : IntsAre vs ns) (hl : ns.length ≤ sizeLine) (hr : Room k callerA)
    (F : ∀ base : Heap, K.In base → base.Ns mainGlobals mg → FnG P w K mg base k fa fd [x] sp) (hbind : ∀ (s : Shared) (u : Value), BindsTo s fd ⟨[u], []⟩ [(x, u)])
    (hsp : ∀ H : Hp, Only H → SqL K H a (ns.map V.int) → sp [.ref a] H (fun v _ => v = .bl true) fun _ _ _ => False) :
    codeAny (model P w) callerA (.call (.ref fa) ⟨[.ref a], []⟩) (fun r s' => r = .ok (.ret (.bool true)) ∧ OldK s₁.heap s'.heap ∧ s'.os = s₁.os ∧ AllBare s'.gens) s₁ := by
  have rv := vals_ints hi
  have lv := hi.length
  have main : ∀ H : Hp, Only H → SqL K H a (ns.map V.int) → HOk P w H s₁.heap → (∀ b, H b ≠ none → b = a ∧ K.lookup a = none) →
      codeAny (model P w) callerA (.call (.ref fa) ⟨[.ref a], []⟩) (fun r s' => r = .ok (.ret (.bool true)) ∧ OldK s₁.heap s'.heap ∧ s'.os = s₁.os ∧ AllBare s'.gens) s₁ := by
    intro H only script hok one
    have hid : ∀ {b : Addr} {o : Obj}, s₁.heap.get? b = some o → (b = a → K.lookup a ≠ none ∨ ∃ es ep, o.data = .dict es ep) → (hidT s₁.heap H).get? b = some o := by
      intro b o e h
      refine hidT_get e ?_
      cases q : H b with
      | none => rfl
      | some u =>
        obtain ⟨rfl, hk⟩ := one b (by rw [q]; simp)
        rcases h rfl with h | ⟨es, ep, h⟩
        · exact absurd hk h
        · rw [ha] at e; cases e; cases h
    have names : ∀ {b : Addr} {m : Str → Option Value}, s₁.heap.Ns b m → (hidT s₁.heap H).Ns b m := by
      rintro b m ⟨o, es, ep, e, d, r⟩
      exact ⟨o, es, ep, hid e fun _ => .inr ⟨es, ep, d⟩, d, r⟩
    have kin : K.In (hidT s₁.heap H) := fun b o e => hid (KX b o e) fun z => .inl (by rw [← z, e]; simp)
    have lim : (hidT s₁.heap H).NoLimit := by
      obtain ⟨mc, h1, h2⟩ := hlim
      exact ⟨mc, names h1, h2⟩
    have mod : Mod K mg (hidT s₁.heap H) := ⟨kin, names hns, ⟨mb, names hb, hbb⟩, lim⟩
    have env0 : Env0 P w K mg (hidT s₁.heap H) callerA [] s₁ H := ⟨rfl, mod, fun b o e => of_hidT e, Nat.le_of_eq (hidT_size _ _), trivial, (fun b hb => absurd (show b ∈ ([] : List Addr) from hb) (by simp)), hok, AllBare.of_eq hg⟩
    have call := (F _ kin (names hns)).run callerA [] s₁ H ⟨[.ref a], []⟩ [.ref a] [.ref a] _ _ hr rfl env0 (hbind s₁ (.ref a)) (.cons rfl .nil) (hsp H only script)
    refine codeAny_mono call fun r s' h => ?_
    cases r with
    | error e =>
      obtain ⟨_, _, _, _, _, _, _, _, _, _, _, _, z⟩ := h
      exact z.elim
    | ok fl =>
      cases fl with
      | ret u =>
        obtain ⟨v, H', os, bare, un, hok', rel, q⟩ := h
        obtain rfl : v = .bl true := q
        obtain rfl : u = Value.bool true := rel
        refine ⟨rfl, OldK.of_keep fun b o e => ?_, os, bare⟩
        cases q : H b with
        | none => exact un.keep b o e q (fun z => absurd (show b ∈ ([] : List Addr) from z) (by simp)) (by simp)
        | some u =>
          rcases only b with z | ⟨ox, xs, z⟩
          · rw [q] at z; cases z
          · have hx := hok' b _ (un.frzs b ox _ z)
            have e1 := (hok b _ z).1
            rw [e] at e1
            cases e1
            exact hx.1
      | _ => exact h.elim
  cases hk : K.lookup a with
  | some o =>
    obtain rfl : o = { cls := .type "list", data := .seq vs.toArray } := by
      have e := KX a o hk
      rw [ha] at e; cases e; rfl
    refine main (fun _ => none) (fun _ => .inl rfl) (.inr ⟨_, vs.toArray, _, hk, rfl, rfl, rfl, ?_, ?_⟩) (fun b u z => by cases z) fun b z => absurd rfl z
    · rw [List.size_toArray, lv]; exact hl
    · simpa using rv
  | none =>
    have self : (if a = a then some (HO.frz { cls := .type "list", data := .seq vs.toArray } (.lst (ns.map V.int))) else none) = some (HO.frz { cls := .type "list", data := .seq vs.toArray } (.lst (ns.map V.int))) := if_pos rfl
    refine main (fun b => if b = a then some (.frz { cls := .type "list", data := .seq vs.toArray } (.lst (ns.map V.int))) else none) (fun b => ?_) (.inl (.inr ⟨_, self⟩)) (fun b u z => ?_) fun b z => ?_
    · by_cases e : b = a
      · exact .inr ⟨_, _, if_pos e⟩
      · exact .inl (if_neg e)
    · by_cases e : b = a
      · subst e
        have := self.symm.trans z
        cases this
        exact ⟨ha, by rw [List.length_map]; exact hl, vs, _, rv, ha⟩
      · have := (if_neg e).symm.trans z
        cases this
    · by_cases e : b = a
      · exact ⟨e, hk⟩
      · exact absurd (if_neg e) z
/-- the end of a law's proof: the head's facts give the table; the evaluator says True -/
theorem law_end {l : PySem.W.OpenLaw} {n k : Nat} {q : Program} {loose : List Str} {XP : (Str → Option Value) → Heap → Prop} {YP : World → Heap → Prop} {d : DefRec} {x : Str} {fns : List Fn} {Wn : Nat} {p : FnT} (hp : p.np = 1)
    (hn : l.most = some n) (hn2 : n ≤ sizeLine) (hdf : d.params.defaults = []) (hr : Room k callerA)
    (F : ∀ (w : World) (mg : Str → Option Value) (fa : Addr) (h : Heap), YP w h → h.Ns mainGlobals mg → mg d.name = some (.ref fa) →
      ∃ (K : PySem.W.Frag) (T : Tab), K.In h ∧ TabOk K mg T fns ∧ ∃ (fd : FuncData) (N : List Str) (fn : Fn) (x' qual : Str) (params : Arguments) (body : List Stmt) (scope : Scope) (dvs : List V) (kws : List (Str × V)),
        (∀ (s : Shared) (u : Value), BindsTo s fd ⟨[u], []⟩ [(x, u)]) ∧ DefOk K mg T fns p fa fd [x] N fn x' qual params body scope dvs kws)
    (law : ∀ ns : List Int, ns.length ≤ n → ∃ S, run fns Wn k p.ix [.frz (ns.map D.int)] [] = .ok (.bl true) S) :
    PySem.W.WalkO q loose XP YP l.row.toRowW d [] (fun f vs => PySem.call f vs) := by
  refine Att.attach_call hn hdf fun w s₀ s₁ mg mb fa o pm cd doc a vs ns G Y ho hd hcd hmg hobj hints hlen hg => ?_
  obtain ⟨K, T, KX, tb, fd, N, fn, x', qual, params, body, scope, dvs, kws, hb, dk⟩ := F w mg fa _ Y G.T.g hmg
  refine law_callG (sp := spF K (run fns Wn k) p.np p.ix) KX G.T.g G.T.b G.T.builtins G.T.nolimit hg hobj hints (Nat.le_trans hlen hn2) hr (fun base _ _ => def_ok tb k p fa fd [x] N fn x' qual params body scope dvs kws dk) hb fun H hO hS => ?_
  · obtain ⟨S, e⟩ := law ns hlen
    have rs : ∀ ns : List Int, RepSs K [] [] H (ns.map D.int) (ns.map V.int) := by
      intro ns
      induction ns with
      | nil => rfl
      | cons i ns ih => exact ⟨_, _, rfl, rfl, ih⟩
    have r : RepS K [] [] H (.frz (ns.map D.int)) (.ref a) := by
      refine ⟨a, _, rfl, ?_, rs ns⟩
      rcases hS with (hS | hS) | ⟨o', its, m, hk, hc, hdi, hs, hz, rv⟩
      · rcases hO a with z | ⟨o, xs, z⟩
        · rw [hS] at z; cases z
        · rw [hS] at z; cases z
      · exact .inr (.inl hS)
      · have e1 := KX a o' hk
        rw [hobj] at e1
        cases e1
        cases hs
        exact .inr (.inr ⟨vs, _, hk, by simpa using hz, by simpa using rv⟩)
    have r0 : Mi.Rel K [] [] [] [] H := Mi.Rel.mk rfl (fun n o a h => by simp at h) (fun p h => by cases h) (fun a => by simp [cF]) (fun a h => by cases h)
    refine ⟨hp.symm, [], [], [], [], [.frz (ns.map D.int)], rfl, r0.push r, ?_⟩
    rw [e]
    exact fun ρ' Z' v H' r' => (r'.fr _ List.mem_cons_self : Rep K ρ' Z' H' (.bl true) v).bl
end Mi
end
section
set_option Elab.async false
set_option maxRecDepth 100000
set_option linter.all false
namespace Mi
open PySem PySem.Spec PyProof.Rows L2
/-! ### constants of the module -/
mutual
def cB (K : PySem.W.Frag) : D → Value → Bool
  | .non, u => (match u with | .none => true | _ => false)
  | .bl b, u => (match u with | .bool c => b == c | _ => false)
  | .int i, u => (match u with | .int j _ => decide (i = j) | _ => false)
  | .str x, u => (match u with | .str y _ => decide (x = y) | _ => false)
  | .tup ds, u => (match u with
    | .ref a => (match K.lookup a with
      | some ⟨.type c, none, .seq its _, _⟩ => decide (c = "tuple") && (decide (its.size ≤ sizeLine) && cBs K ds its.toList)
      | _ => false)
    | _ => false)
  | _, _ => false
def cBs (K : PySem.W.Frag) : List D → List Value → Bool
  | [], l => l.isEmpty
  | d :: ds, l => (match l with
    | u :: us => cB K d u && cBs K ds us
    | [] => false)
end
section
variable {K : PySem.W.Frag}
mutual
theorem cB_ok : ∀ (d : D) (u : Value), cB K d u = true → ∃ v, RelV v u ∧ (∀ ρ Z H, RepS K ρ Z H d v) ∧ ∀ ds, d = .tup ds → ∃ a o, v = .ref a ∧ K.lookup a = some o ∧ o.cls = .type "tuple" ∧ o.dict = none
  | .non, u, h => by
    cases u <;> first | (cases h; done) | skip
    exact ⟨.non, rfl, fun _ _ _ => rfl, fun _ z => by cases z⟩
  | .bl b, u, h => by
    cases u <;> first | (cases h; done) | skip
    rename_i b2
    have e : b = b2 := by simpa [cB] using h
    subst e
    exact ⟨.bl b, rfl, fun _ _ _ => rfl, fun _ z => by cases z⟩
  | .int i, u, h => by
    cases u <;> first | (cases h; done) | skip
    have e := of_decide_eq_true h
    subst e
    exact ⟨.int i, ⟨_, rfl⟩, fun _ _ _ => rfl, fun _ z => by cases z⟩
  | .str i, u, h => by
    cases u <;> first | (cases h; done) | skip
    have e := of_decide_eq_true h
    subst e
    exact ⟨.str i, ⟨_, rfl⟩, fun _ _ _ => rfl, fun _ z => by cases z⟩
  | .tup ds, u, h => by
    cases u <;> first | (cases h; done) | skip
    rename_i a
    unfold cB at h
    simp only at h
    split at h
    · rename_i c its n sl hk
      simp only [Bool.and_eq_true, decide_eq_true_eq] at h
      obtain ⟨rfl, h2, h3⟩ := h
      obtain ⟨vs, rv, hr⟩ := cBs_ok ds its.toList h3
      exact ⟨.ref a, rfl, fun ρ Z H => ⟨a, vs, rfl, .inr ⟨_, its, n, hk, rfl, rfl, h2, rv⟩, hr ρ Z H⟩, fun _ _ => ⟨a, _, rfl, hk, rfl, rfl⟩⟩
    · cases h
  | .frz _, _, h => by cases h
  | .own _, _, h => by cases h
  | .ref _, _, h => by cases h
theorem cBs_ok : ∀ (ds : List D) (us : List Value), cBs K ds us = true → ∃ vs, Vals vs us ∧ ∀ ρ Z H, RepSs K ρ Z H ds vs
  | [], [], _ => ⟨[], .nil, fun _ _ _ => rfl⟩
  | [], _ :: _, h => by cases h
  | _ :: _, [], h => by cases h
  | d :: ds, u :: us, h => by
    have h' := Bool.and_eq_true_iff.mp (show (cB K d u && cBs K ds us) = true from h)
    obtain ⟨v, r, hr, _⟩ := cB_ok d u h'.1
    obtain ⟨vs, rs, hrs⟩ := cBs_ok ds us h'.2
    exact ⟨v :: vs, .cons r rs, fun ρ Z H => ⟨v, vs, rfl, hr ρ Z H, hrs ρ Z H⟩⟩
end
end
def conB (cs : List (Str × D)) (K : PySem.W.Frag) : Bool := cs.all fun p => match PySem.W.nsIn K mainGlobals p.1 with
  | some (some u) => cB K p.2 u
  | _ => false
/-! ### the defs -/
structure Ent where
  d : He.DefD
  fn : Fn
  ps : List Str
  N : List Str
def fnTs : Nat → List Ent → List FnT
  | _, [] => []
  | i, e :: es => ⟨e.d.name, i, e.fn.np⟩ :: fnTs (i + 1) es
def mkTab (frees : List Str) (es : List Ent) (cs : List (Str × D)) (kws : List KwT) : Tab := ⟨frees, fnTs 0 es, cs, kws⟩
def scB (N ps : List Str) (sc : Scope) : Bool := (match sc.kind with | .function => true | _ => false) && !sc.isCoroutine && !sc.isGenerator && decide N.Nodup && decide (N.take ps.length = ps) &&
  (ps.all fun x => match sc.names.lookup x with | some .local => true | some .cell => true | _ => false) && (sc.names.all fun y => match y.2 with | .free => false | _ => true)
theorem scB_ok {N ps : List Str} {sc : Scope} (h : scB N ps sc = true) : FnScope N ps sc := by
  unfold scB at h
  simp only [Bool.and_eq_true, decide_eq_true_eq, Bool.not_eq_true', List.all_eq_true] at h
  obtain ⟨⟨⟨⟨⟨⟨h1, h2⟩, h3⟩, h4⟩, h5⟩, h6⟩, h7⟩ := h
  refine ⟨?_, h2, h3, h4, h5, fun x hx => ?_, fun y hy e => ?_⟩
  · split at h1
    · assumption
    · cases h1
  · have := h6 x hx
    split at this
    · exact .inl (by assumption)
    · exact .inr (by assumption)
    · cases this
  · have := h7 y hy
    rw [e] at this
    cases this
/-- the def is told by its term -/
def entB (T : Tab) (e : Ent) : Bool := decide (e.d.at_ = (e.d.name, none)) && e.d.dfl.isEmpty && decide (e.ps.length = e.fn.np) && decide (e.N.length = e.fn.nl) && scB e.N e.ps e.d.scope && okSs T ⟨e.N, e.d.scope, none⟩ e.fn.body e.d.body
def BdOk (e : Ent) : Prop := ∀ (kV doc pm : Value) (an : Option Addr) (cdv ct : Value) (us : List Value), us.length = e.ps.length → bindArgs (PySem.W.fnOf e.d.name e.d.qual e.d.params e.d.body e.d.scope .none kV doc pm an cdv ct) ⟨us, []⟩ = pure (e.ps.zip us)
def BdAll : List Ent → Prop
  | [] => True
  | e :: es => BdOk e ∧ BdAll es
theorem BdAll.of : ∀ {es : List Ent} {e : Ent}, BdAll es → e ∈ es → BdOk e
  | e :: es, _, h, hm => by
    rcases List.mem_cons.mp hm with rfl | hm
    · exact h.1
    · exact BdAll.of h.2 hm
def faOf (frees : List Str) (es : List Ent) : List He.Fa := es.map (fun e => He.Fa.glo e.d.name) ++ frees.map He.Fa.free
/-- the facts, and that the constants are these -/
def hookM (n : Nat) (frees : List Str) (es : List Ent) (cs : List (Str × D)) : PySem.W.Hook where
  α := He.AlD × Bool
  obs := fun s => (He.obsDG n (faOf frees es) (es.map Ent.d) s.heap.get?, conB cs (He.frG s.heap.get? (He.asD s.heap.get? n)))
  val := fun _ => (He.valD (es.map Ent.d), true)
  says := fun _ h => ∃ K : PySem.W.Frag, K.In h ∧ He.SaysD (faOf frees es) (es.map Ent.d) K ∧ conB cs K = true
  of := fun _ _ e => ⟨_, He.frG_in, congrArg Prod.fst e, congrArg Prod.snd e⟩
  keeps := fun _ _ _ ⟨K, hK, c⟩ k => ⟨K, PySem.W.Frag.In.keeps hK k, c⟩
def obM (n : Nat) (frees : List Str) (es : List Ent) (cs : List (Str × D)) (s : PySem.W.SharedT) : He.AlD × Bool := (He.obsDG n (faOf frees es) (es.map Ent.d) (HandSHeadRun.getT s), conB cs (He.frG (HandSHeadRun.getT s) (He.asD (HandSHeadRun.getT s) n)))
theorem obM_eq {n : Nat} {frees : List Str} {es : List Ent} {cs : List (Str × D)} (s : PySem.W.SharedT) : obM n frees es cs s = (hookM n frees es cs).obs s.abs := by
  have e : HandSHeadRun.getT s = s.abs.heap.get? := funext (HandSHeadRun.getT_eq s)
  unfold obM
  rw [e]
  rfl
section
variable {K : PySem.W.Frag} {mg : Str → Option Value} {h : Heap} {frees : List Str} {es : List Ent} {cs : List (Str × D)} {kws : List KwT}
theorem fnTs_at : ∀ {es : List Ent} {k : Nat} {p : FnT}, p ∈ fnTs k es → ∃ i e, es[i]? = some e ∧ p = ⟨e.d.name, k + i, e.fn.np⟩
  | [], _, _, h => by cases h
  | e :: es, k, p, h => by
    rcases List.mem_cons.mp h with rfl | h
    · exact ⟨0, e, rfl, rfl⟩
    · obtain ⟨i, e', h1, h2⟩ := fnTs_at h
      exact ⟨i + 1, e', h1, by rw [h2, Nat.add_right_comm k 1 i, Nat.add_assoc k i 1]⟩
theorem ent_ok (X : K.In h) (G : h.Ns mainGlobals mg) (c : He.SaysD (faOf frees es) (es.map Ent.d) K) (hb : BdAll es) {i : Nat} {e : Ent} (hi : es[i]? = some e) (he : entB (mkTab frees es cs kws) e = true) :
    ∃ fd, DefOk K mg (mkTab frees es cs kws) (es.map Ent.fn) ⟨e.d.name, i, e.fn.np⟩ (He.ga K e.d.name) fd e.ps e.N e.fn e.d.name e.d.qual e.d.params e.d.body e.d.scope [] (e.d.kws K) ∧
      ∀ (s : Shared) (us : List Value), us.length = e.ps.length → BindsTo s fd ⟨us, []⟩ (e.ps.zip us) := by
  have hm : e ∈ es := List.mem_of_getElem? hi
  unfold entB at he
  simp only [Bool.and_eq_true, decide_eq_true_eq] at he
  obtain ⟨⟨⟨⟨⟨h1, h0⟩, h2⟩, h3⟩, h4⟩, h5⟩ := he
  obtain ⟨fd, F⟩ := He.SaysD.defs c (d := e.d) (List.mem_map_of_mem hm)
  have hd : e.d.dvs K = [] := by
    unfold He.DefD.dvs
    rw [List.isEmpty_iff.mp h0]; rfl
  have ha : He.fAd K e.d.at_ = He.ga K e.d.name := by rw [h1]; rfl
  rw [hd, ha] at F
  refine ⟨fd, ⟨by simp [hi], rfl, ?_, F, scB_ok h4, h2, h3, F.bindsN (hb.of hm), h5⟩, F.bindsA (hb.of hm)⟩
  exact He.glo_ok X G (He.SaysD.facts c (f := .glo e.d.name) (List.mem_append_left _ (List.mem_map_of_mem hm)))
/-- a call by keywords: which def, and how it binds -/
def KwOk (es : List Ent) (q : KwT) : Prop := ∃ e : Ent, es[q.ix]? = some e ∧ q.name = e.d.name ∧ q.np = e.fn.np ∧ ∀ (K : PySem.W.Frag) (kV doc pm : Value) (an : Option Addr) (cdv ct : Value), BindA K (PySem.W.fnOf e.d.name e.d.qual e.d.params e.d.body e.d.scope .none kV doc pm an cdv ct) e.ps q.n q.ks q.arr
def KwAll (es : List Ent) : List KwT → Prop
  | [] => True
  | q :: qs => KwOk es q ∧ KwAll es qs
theorem KwAll.of {es : List Ent} : ∀ {qs : List KwT} {q : KwT}, KwAll es qs → q ∈ qs → KwOk es q
  | q :: qs, _, h, hm => by
    rcases List.mem_cons.mp hm with rfl | hm
    · exact h.1
    · exact KwAll.of h.2 hm
theorem tab_ok (X : K.In h) (G : h.Ns mainGlobals mg) (c : He.SaysD (faOf frees es) (es.map Ent.d) K) (hc : conB cs K = true) (hb : BdAll es) (he : (es.all fun e => entB (mkTab frees es cs kws) e) = true)
    (hk : KwAll es kws) :
    TabOk K mg (mkTab frees es cs kws) (es.map Ent.fn) := by
  refine ⟨fun x hx => ?_, fun p hp => ?_, fun q hq => ?_, fun p hp => ?_⟩
  · exact He.free_ok X G (He.SaysD.facts c (f := .free x) (List.mem_append_right _ (List.mem_map_of_mem hx)))
  · have := List.all_eq_true.mp hc p hp
    split at this
    · rename_i u hu
      obtain ⟨v, r, hr, ht⟩ := cB_ok p.2 u this
      exact ⟨u, v, PySem.W.mg_of X G hu, r, hr, ht⟩
    · cases this
  · obtain ⟨e, hi, h1, h2, hb2⟩ := hk.of hq
    have hm := List.mem_of_getElem? hi
    have hee := List.all_eq_true.mp he e hm
    obtain ⟨fd, dk, _⟩ := ent_ok (cs := cs) (kws := kws) X G c hb hi hee
    refine ⟨_, _, fd, _, _, _, _, _, _, _, _, _, _, h1.symm, rfl, h2.symm, dk, ?_⟩
    obtain ⟨oc, od, dV, kV, doc, pm, an, cdv, ct, osl, rfl, lk, hcd, hD, hK⟩ := dk.fund.ex
    rcases hD with ⟨_, rfl⟩ | ⟨z, _⟩
    · exact hb2 K kV doc pm an cdv ct
    · exact absurd rfl z
  · obtain ⟨i, e, hi, rfl⟩ := fnTs_at hp
    obtain ⟨fd, dk, _⟩ := ent_ok (cs := cs) (kws := kws) X G c hb hi (List.all_eq_true.mp he e (List.mem_of_getElem? hi))
    rw [Nat.zero_add]
    exact ⟨_, fd, _, _, _, _, _, _, _, _, _, _, dk⟩
end
/-- by keywords alone: the values by their places -/
theorem bindA_perm {K : PySem.W.Frag} {fd : FuncData} {ps : List Str} {n : Nat} {ks : List Str} (is : List Nat) (hi : ∀ i ∈ is, i < n + ks.length)
    (h : ∀ us ws : List Value, us.length = n → ws.length = ks.length → bindArgs fd ⟨us, ks.zip ws⟩ = pure (ps.zip (is.map fun i => (us ++ ws).getD i .none))) : BindA K fd ps n ks (is.map .inl) := by
  intro s us ws _ hu hw
  refine ⟨is.map fun i => (us ++ ws).getD i .none, .of_eq (h us ws hu hw), fun vs hv => ⟨is.map fun i => vs.getD i .non, ?_, fun ρ Z H ds hr => ?_⟩⟩
  · have hl : vs.length = n + ks.length := by rw [hv.length]; simp [hu, hw]
    have one : ∀ i, i < n + ks.length → RelV (vs.getD i .non) ((us ++ ws).getD i .none) := by
      intro i hi
      have e : vs[i]? = some vs[i] := List.getElem?_eq_getElem (by omega)
      obtain ⟨u, hu', ru⟩ := hv.get e
      rw [List.getD_eq_getElem?_getD, List.getD_eq_getElem?_getD, e, hu']
      exact ru
    clear h
    induction is with
    | nil => exact .nil
    | cons i is ih => exact .cons (one i (hi i List.mem_cons_self)) (ih fun j hj => hi j (List.mem_cons_of_mem _ hj))
  · have hl : vs.length = n + ks.length := by rw [hv.length]; simp [hu, hw]
    have hd := hr.length
    have one : ∀ i, i < n + ks.length → RepS K ρ Z H (ds.getD i .non) (vs.getD i .non) := by
      intro i hi
      have e : ds[i]? = some ds[i] := List.getElem?_eq_getElem (by omega)
      obtain ⟨v, hv', rv⟩ := hr.get e
      rw [List.getD_eq_getElem?_getD, List.getD_eq_getElem?_getD, e, hv']
      exact rv
    clear h
    show RepSs K ρ Z H (arrange (is.map .inl) ds) _
    unfold arrange
    rw [List.map_map]
    induction is with
    | nil => rfl
    | cons i is ih => exact ⟨_, _, rfl, one i (hi i List.mem_cons_self), ih fun j hj => hi j (List.mem_cons_of_mem _ hj)⟩
/-- the goal behind the head's run -/
theorem law_end2 {l : PySem.W.OpenLaw} {n k hn : Nat} {q : Program} {loose : List Str} {XP : (Str → Option Value) → Heap → Prop} {d : DefRec} {x : Str} {frees : List Str} {es : List Ent} {cs : List (Str × D)} {kws : List KwT} {Wn : Nat} {i : Nat} {e : Ent}
    (hi : es[i]? = some e) (hp : e.fn.np = 1) (hx : e.ps = [x]) (hd : d.name = e.d.name) (hb : BdAll es) (he : (es.all fun e => entB (mkTab frees es cs kws) e) = true) (hk : KwAll es kws)
    (hm : l.most = some n) (hn2 : n ≤ sizeLine) (hdf : d.params.defaults = []) (hr : Room k callerA)
    (law : ∀ ns : List Int, ns.length ≤ n → ∃ S, run (es.map Ent.fn) Wn k i [.frz (ns.map D.int)] [] = .ok (.bl true) S) :
    PySem.W.WalkO q loose XP (hookM hn frees es cs).says l.row.toRowW d [] (fun f vs => PySem.call f vs) := by
  refine law_end (p := ⟨e.d.name, i, e.fn.np⟩) (x := x) (fns := es.map Ent.fn) (Wn := Wn) hp hm hn2 hdf hr ?_ law
  intro w mg fa h Y G hmg
  obtain ⟨K, KX, c, hc⟩ := Y
  have hee := List.all_eq_true.mp he e (List.mem_of_getElem? hi)
  obtain ⟨fd, dk, bt⟩ := ent_ok (cs := cs) (kws := kws) KX G c hb hi hee
  have hfa : He.ga K e.d.name = fa := by
    have := dk.mg
    rw [hd] at hmg
    exact Value.ref.inj (Option.some.inj (this.symm.trans hmg))
  rw [hfa] at dk
  rw [hx] at dk bt
  exact ⟨K, mkTab frees es cs kws, KX, tab_ok KX G c hc hb he hk, fd, _, _, _, _, _, _, _, _, _, fun s u => bt s [u] rfl, dk⟩
end Mi
end
section
set_option Elab.async false
set_option maxRecDepth 100000
set_option linter.all false
namespace Mi
open PySem
def val : D → Bool
  | .own _ => false
  | .ref _ => false
  | _ => true
def ans (fns : List Fn) (W n f : Nat) (ds : List D) (s : Sto) (Q : D → Sto → Prop) : Prop := match run fns W n f ds s with
  | .ok d s' => Q d s'
  | _ => False
def endQ (Q : D → Sto → Prop) (fl : Flow) (s : Sto) : Prop := match fl with
  | .next => Q .non s
  | .ret d => Q d s
  | _ => False
def enumO (d : D) : Option (List D) := (match d with | .str _ => none | d => seqItems d).map (enumD 0)
def rngO : D → Option (List D)
  | .int n => if fit62 n then some (rngD 0 n.toNat) else none
  | _ => none
def rngO2 : D → D → Option (List D)
  | .int l, .int h => if fit62 l && fit62 h then some (rngD l (h - l).toNat) else none
  | _, _ => none
def lookQ (s : Sto) : D → Prop
  | .own _ => True
  | .ref n => ∃ ds, s[n]? = some (.lst ds)
  | _ => False
end Mi
namespace Mi.W0
open PySem Mi
/-! ### what the evaluator answers, step by step: no exceptions here -/
def wp {α : Type} (m : M α) (en : Env) (s : Sto) (Q : α → Env → Sto → Prop) : Prop := match m en s with
  | .ok a en' s' => Q a en' s'
  | _ => False
def optQ {α : Type} (o : Option α) (K : α → Prop) : Prop := match o with
  | some a => K a
  | none => False
def getQ (o : Option (Option D)) (K : D → Prop) : Prop := match o with
  | some (some d) => K d
  | _ => False
def useQ (o : Option (Option D)) (i : Nat) (en : Env) (K : D → Env → Prop) : Prop := match o with
  | some (some (.own ds)) => K (.frz ds) (en.set i (some (.frz ds)))
  | some (some d) => K d en
  | _ => False
def callQ (c : C) (K : D → Sto → Prop) : Prop := match c with
  | .ok d s => K d s
  | _ => False
section
variable {α : Type} (K : α → Prop)
theorem optQ_some (a : α) : optQ (some a) K = K a := id rfl
theorem optQ_none : optQ none K = False := id rfl
end
theorem getQ_some (d : D) (K : D → Prop) : getQ (some (some d)) K = K d := id rfl
theorem getQ_n1 (K : D → Prop) : getQ (some none) K = False := id rfl
theorem getQ_n2 (K : D → Prop) : getQ none K = False := id rfl
section
variable (i : Nat) (en : Env) (K : D → Env → Prop)
theorem useQ_own (ds) : useQ (some (some (.own ds))) i en K = K (.frz ds) (en.set i (some (.frz ds))) := id rfl
theorem useQ_frz (ds) : useQ (some (some (.frz ds))) i en K = K (.frz ds) en := id rfl
theorem useQ_tup (ds) : useQ (some (some (.tup ds))) i en K = K (.tup ds) en := id rfl
theorem useQ_non : useQ (some (some .non)) i en K = K .non en := id rfl
theorem useQ_bl (b) : useQ (some (some (.bl b))) i en K = K (.bl b) en := id rfl
theorem useQ_int (b) : useQ (some (some (.int b))) i en K = K (.int b) en := id rfl
theorem useQ_str (b) : useQ (some (some (.str b))) i en K = K (.str b) en := id rfl
theorem useQ_ref (b) : useQ (some (some (.ref b))) i en K = K (.ref b) en := id rfl
theorem useQ_n1 : useQ (some none) i en K = False := id rfl
theorem useQ_n2 : useQ none i en K = False := id rfl
theorem useQ_val (d) (h : val d = true) : useQ (some (some d)) i en K = K d en := by cases d <;> first | rfl | cases h
end
theorem callQ_ok (d s K) : callQ (.ok d s) K = K d s := id rfl
theorem callQ_stuck (K) : callQ .stuck K = False := id rfl
section
variable {α β : Type} {en : Env} {s : Sto}
theorem wp_bind {m : M α} {f : α → M β} {Q : β → Env → Sto → Prop} : wp (m.bind f) en s Q = wp m en s fun a en s => wp (f a) en s Q := by
  unfold wp M.bind R.bind
  cases m en s <;> rfl
theorem wp_ret {a : α} {Q : α → Env → Sto → Prop} : wp (.ret a) en s Q = Q a en s := id rfl
theorem wp_stuck {Q : α → Env → Sto → Prop} : wp (.stuck : M α) en s Q = False := id rfl
theorem wp_opt {o : Option α} {Q : α → Env → Sto → Prop} : wp (M.opt o) en s Q = optQ o fun a => Q a en s := by cases o <;> rfl
theorem wp_ite {c : Prop} [Decidable c] {a b : M α} {Q : α → Env → Sto → Prop} : wp (if c then a else b) en s Q = if c then wp a en s Q else wp b en s Q := by split <;> rfl
theorem wp_calm {m : M α} {Q : α → Env → Sto → Prop} : wp m.calm en s Q = wp m en s Q := by
  unfold wp M.calm
  cases m en s <;> rfl
theorem wp_prim {p : P} {ds : List D} {Q : D → Env → Sto → Prop} : wp (primM p ds) en s Q = optQ (primF p (ds.map (derefD s))) fun d => Q d en s := by
  unfold wp primM
  cases primF p (ds.map (derefD s)) <;> rfl
theorem wp_tru {d : D} {Q : Bool → Env → Sto → Prop} : wp (truM d) en s Q = optQ (truthy (derefD s d)) fun d => Q d en s := by
  unfold wp truM
  cases truthy (derefD s d) <;> rfl
theorem wp_setV {i : Nat} {d : D} {Q : Unit → Env → Sto → Prop} : wp (setV i d) en s Q = Q () (en.set i (some d)) s := id rfl
theorem wp_get {i : Nat} {Q : D → Env → Sto → Prop} : wp (getV i) en s Q = getQ en[i]? fun d => Q d en s := by
  unfold wp getV getQ
  split <;> (split <;> simp_all)
theorem wp_use {i : Nat} {Q : D → Env → Sto → Prop} : wp (useV i) en s Q = useQ en[i]? i en fun d en => Q d en s := by
  unfold wp useV
  cases e : en[i]? with
  | none => rfl
  | some o =>
    cases o with
    | none => rfl
    | some d => cases d <;> rfl
theorem wp_move {i : Nat} {Q : D → Env → Sto → Prop} : wp (moveV i) en s Q = getQ en[i]? fun d => Q d (en.set i none) s := by
  unfold wp moveV getQ
  split <;> (split <;> simp_all)
def refQ (o : Option (Option D)) (i : Nat) (en : Env) (s : Sto) (K : D → Env → Sto → Prop) : Prop := match o with
  | some (some (.own ds)) => K (.ref s.length) (en.set i (some (.ref s.length))) (s ++ [.lst ds])
  | some (some d) => K d en s
  | _ => False
theorem refQ_own (ds i) (K : D → Env → Sto → Prop) : refQ (some (some (.own ds))) i en s K = K (.ref s.length) (en.set i (some (.ref s.length))) (s ++ [.lst ds]) := id rfl
theorem refQ_ref (n i) (K : D → Env → Sto → Prop) : refQ (some (some (.ref n))) i en s K = K (.ref n) en s := id rfl
theorem wp_rf {i : Nat} {Q : D → Env → Sto → Prop} : wp (refV i) en s Q = refQ en[i]? i en s Q := by
  unfold wp refV
  cases e : en[i]? with
  | none => rfl
  | some o =>
    cases o with
    | none => rfl
    | some d => cases d <;> rfl
theorem wp_call {cf : Calls} {f : Nat} {ds : List D} {Q : D → Env → Sto → Prop} : wp (callM cf f ds) en s Q = callQ (cf f ds s) fun d s => Q d en s := by
  unfold wp callM
  cases cf f ds s <;> rfl
theorem wp_mono {m : M α} {Q Q' : α → Env → Sto → Prop} (h : wp m en s Q) (k : ∀ a en s, Q a en s → Q' a en s) : wp m en s Q' := by
  unfold wp at *
  cases e : m en s <;> simp_all
end
theorem ans_of {fns : List Fn} {W n f : Nat} {ds : List D} {s : Sto} {Q : D → Sto → Prop} {fn : Fn} (h : fns[f]? = some fn) (hl : ds.length = fn.np)
    (w : wp (exSs (run fns W n) W fn.body) (initE fn.nl ds) s fun fl _ s' => endQ Q fl s') : ans fns W (n + 1) f ds s Q := by
  unfold ans
  simp only [run, h]
  rw [if_pos hl]
  unfold wp at w
  cases e : exSs (run fns W n) W fn.body (initE fn.nl ds) s with
  | ok fl en s' =>
    rw [e] at w
    cases fl with
    | next => exact w
    | ret d => exact w
    | brk => exact w.elim
    | cont => exact w.elim
  | exc x en s' => rw [e] at w; exact w.elim
  | stuck => rw [e] at w; exact w.elim
section
variable (cf : Calls) (W : Nat) (en : Env) (s : Sto)
section
variable (Q : D → Env → Sto → Prop)
theorem q_v (i) : wp (ev2 cf (.v i)).1 en s Q = useQ en[i]? i en fun d en => Q d en s := wp_use
theorem q_mv (i) : wp (ev2 cf (.mv i)).1 en s Q = getQ en[i]? fun d => Q d (en.set i none) s := wp_move
theorem q_rf (i) : wp (ev2 cf (.rf i)).1 en s Q = refQ en[i]? i en s Q := wp_rf
theorem q_k (d) : wp (ev2 cf (.k d)).1 en s Q = Q d en s := id rfl
theorem q_prim (p es) : wp (ev2 cf (.prim p es)).1 en s Q = wp (ops cf es) en s fun ds en s => optQ (primF p (ds.map (derefD s))) fun d => Q d en s := by
  show wp (M.bind (ops cf es) fun ds => primM p ds) en s Q = _
  simp only [wp_bind, wp_prim]
theorem q_chain (p q a b c) : wp (ev2 cf (.chain p q a b c)).1 en s Q = wp (ev2 cf a).1 en s fun x en s => wp (ev2 cf b).1 en s fun y en s => optQ (primF p [derefD s x, derefD s y]) fun z => (match z with
      | .bl k => if k then wp (ev2 cf c).1 en s fun w en s => optQ (primF q [derefD s y, derefD s w]) fun d => Q d en s else Q (.bl false) en s
      | _ => False) := by
  show wp (M.bind _ _) en s Q = _
  simp only [wp_bind, wp_prim]
  refine congrArg _ (funext fun x => funext fun en => funext fun s => ?_)
  refine congrArg _ (funext fun y => funext fun en => funext fun s => ?_)
  refine congrArg _ (funext fun z => ?_)
  cases z with
  | bl k => cases k <;> simp [wp_bind, wp_prim, wp_ret]
  | _ => rfl
theorem q_tup (es) : wp (ev2 cf (.tup es)).1 en s Q = wp (evs cf es) en s fun ds en s => if ds.length ≤ big then Q (.tup (ds.map D.hard)) en s else False := by
  show wp (M.bind _ _) en s Q = _
  simp only [wp_bind, wp_ite, wp_ret, wp_stuck]
theorem q_lst (es) : wp (ev2 cf (.lst es)).1 en s Q = wp (evs cf es) en s fun ds en s => if ds.length ≤ big then Q (.own (ds.map D.hard)) en s else False := by
  show wp (M.bind _ _) en s Q = _
  simp only [wp_bind, wp_ite, wp_ret, wp_stuck]
theorem q_call (f es) : wp (ev2 cf (.call f es)).1 en s Q = wp (evs cf es) en s fun ds en s => callQ (cf f ds s) fun d s => Q d en s := by
  show wp (M.bind _ _) en s Q = _
  simp only [wp_bind, wp_call]
theorem q_and (a b) : wp (ev2 cf (.and_ a b)).1 en s Q = wp (ev2 cf a).1 en s fun d en s => optQ (truthy (derefD s d)) fun t => if t then wp (ev2 cf b).1 en s Q else Q d en s := by
  show wp (M.bind _ _) en s Q = _
  simp only [wp_bind, wp_tru, wp_ite, wp_ret]
theorem q_or (a b) : wp (ev2 cf (.or_ a b)).1 en s Q = wp (ev2 cf a).1 en s fun d en s => optQ (truthy (derefD s d)) fun t => if t then Q d en s else wp (ev2 cf b).1 en s Q := by
  show wp (M.bind _ _) en s Q = _
  simp only [wp_bind, wp_tru, wp_ite, wp_ret]
theorem q_not (a) : wp (ev2 cf (.not_ a)).1 en s Q = wp (ev2 cf a).1 en s fun d en s => optQ (truthy (derefD s d)) fun t => Q (.bl (!t)) en s := by
  show wp (M.bind _ _) en s Q = _
  simp only [wp_bind, wp_tru, wp_ret]
theorem q_cond (c a b) : wp (ev2 cf (.cond c a b)).1 en s Q = wp (ev2 cf c).2 en s fun t en s => if t then wp (ev2 cf a).1 en s Q else wp (ev2 cf b).1 en s Q := by
  show wp (M.bind _ _) en s Q = _
  simp only [wp_bind, wp_ite]
theorem q_meth (p tgt es) : wp (ev2 cf (.meth p tgt es)).1 en s Q = wp (pl1 tgt (ev2 cf tgt).1) en s fun r en s => wp (fin1 (slotOf tgt) r) en s fun d en s => if kindM p d then wp (ops cf es) en s fun ds en s => wp (fin1 (slotOf tgt) r) en s fun d en s => optQ (primF p ((d :: ds).map (derefD s))) fun d => Q d en s else False := by
  show wp (M.bind _ _) en s Q = _
  simp only [wp_bind, lookM, wp_ite, wp_ret, wp_stuck, wp_prim]
theorem q_mut (m tgt es) : wp (ev2 cf (.mut m tgt es)).1 en s Q = wp (pl1 tgt (ev2 cf tgt).1) en s fun r en s => wp (lookP (slotOf tgt) r) en s fun _ en s => wp (evs cf es) en s fun as en s => wp (match r with
      | none => (match slotOf tgt with
        | some i => (getV i).bind fun d0 => mutM m d0 (some i) (as.map D.hard)
        | none => .stuck)
      | some d0 => mutM m d0 none (as.map D.hard)) en s Q := by
  show wp (M.bind _ _) en s Q = _
  simp only [wp_bind]
  try rfl
theorem q_mut_v (m n es) : wp (ev2 cf (.mut m (.v n) es)).1 en s Q = getQ en[n]? fun _ => getQ en[n]? fun d => wp (lookL d) en s fun _ en s => wp (evs cf es) en s fun as en s => getQ en[n]? fun d0 => wp (mutM m d0 (some n) (as.map D.hard)) en s Q := by
  show wp (M.bind _ _) en s Q = _
  simp only [wp_bind]
  show wp (M.bind _ _) en s _ = _
  simp only [wp_bind, wp_get, wp_ret, slotOf, lookP]
theorem q_callA (f es ks arr) : wp (ev2 cf (.callA f es ks arr)).1 en s Q = wp (evs cf es) en s fun ds en s => wp (evs cf ks) en s fun zs en s => if ds.length = es.length ∧ zs.length = ks.length then callQ (cf f (arrange arr ((ds ++ zs).map D.hard)) s) fun d s => Q d en s else False := by
  show wp (M.bind _ _) en s Q = _
  simp only [wp_bind, wp_ite, wp_call, wp_stuck]
theorem q_lc (own g it ifs elt) : wp (ev2 cf (.lc own g it ifs elt)).1 en s Q = wp (iter cf it) en s fun p en s => wp (lcL own (fun d => (asgG cf g d).calm) (tsts cf ifs).calm (ev2 cf elt).1.calm p []) (wipeE own en) s fun ds en s => Q (.own ds) en s := by
  show wp (M.bind _ _) en s Q = _
  simp only [wp_bind, wp_ret]
  rfl
end
section
variable (Q : Bool → Env → Sto → Prop)
theorem qt_v (i) : wp (ev2 cf (.v i)).2 en s Q = getQ en[i]? fun d => optQ (truthy (derefD s d)) fun b => Q b en s := by
  show wp (M.bind _ _) en s Q = _
  simp only [wp_bind, wp_get, wp_tru]
theorem qt_and (a b) : wp (ev2 cf (.and_ a b)).2 en s Q = wp (ev2 cf a).2 en s fun t en s => if t then wp (ev2 cf b).2 en s Q else Q false en s := by
  show wp (M.bind _ _) en s Q = _
  simp only [wp_bind, wp_ite, wp_ret]
theorem qt_or (a b) : wp (ev2 cf (.or_ a b)).2 en s Q = wp (ev2 cf a).2 en s fun t en s => if t then Q true en s else wp (ev2 cf b).2 en s Q := by
  show wp (M.bind _ _) en s Q = _
  simp only [wp_bind, wp_ite, wp_ret]
theorem qt_not (a) : wp (ev2 cf (.not_ a)).2 en s Q = wp (ev2 cf a).2 en s fun t en s => Q (!t) en s := by
  show wp (M.bind _ _) en s Q = _
  simp only [wp_bind, wp_ret]
theorem qt_vt {e : E} (h : (ev2 cf e).2 = (ev2 cf e).1.bind fun d => truM d) : wp (ev2 cf e).2 en s Q = wp (ev2 cf e).1 en s fun d en s => optQ (truthy (derefD s d)) fun b => Q b en s := by
  rw [h, wp_bind]
  simp only [wp_tru]
theorem qt_mv (i) : wp (ev2 cf (.mv i)).2 en s Q = wp (ev2 cf (.mv i)).1 en s fun d en s => optQ (truthy (derefD s d)) fun b => Q b en s := qt_vt cf en s Q rfl
theorem qt_rf (i) : wp (ev2 cf (.rf i)).2 en s Q = wp (ev2 cf (.rf i)).1 en s fun d en s => optQ (truthy (derefD s d)) fun b => Q b en s := qt_vt cf en s Q rfl
theorem qt_k (i) : wp (ev2 cf (.k i)).2 en s Q = wp (ev2 cf (.k i)).1 en s fun d en s => optQ (truthy (derefD s d)) fun b => Q b en s := qt_vt cf en s Q rfl
theorem qt_prim (p es) : wp (ev2 cf (.prim p es)).2 en s Q = wp (ev2 cf (.prim p es)).1 en s fun d en s => optQ (truthy (derefD s d)) fun b => Q b en s := qt_vt cf en s Q rfl
theorem qt_chain (p q a b c) : wp (ev2 cf (.chain p q a b c)).2 en s Q = wp (ev2 cf (.chain p q a b c)).1 en s fun d en s => optQ (truthy (derefD s d)) fun b => Q b en s := qt_vt cf en s Q rfl
theorem qt_tup (es) : wp (ev2 cf (.tup es)).2 en s Q = wp (ev2 cf (.tup es)).1 en s fun d en s => optQ (truthy (derefD s d)) fun b => Q b en s := qt_vt cf en s Q rfl
theorem qt_lst (es) : wp (ev2 cf (.lst es)).2 en s Q = wp (ev2 cf (.lst es)).1 en s fun d en s => optQ (truthy (derefD s d)) fun b => Q b en s := qt_vt cf en s Q rfl
theorem qt_call (f es) : wp (ev2 cf (.call f es)).2 en s Q = wp (ev2 cf (.call f es)).1 en s fun d en s => optQ (truthy (derefD s d)) fun b => Q b en s := qt_vt cf en s Q rfl
theorem qt_cond (c a b) : wp (ev2 cf (.cond c a b)).2 en s Q = wp (ev2 cf (.cond c a b)).1 en s fun d en s => optQ (truthy (derefD s d)) fun b => Q b en s := qt_vt cf en s Q rfl
theorem qt_meth (p t es) : wp (ev2 cf (.meth p t es)).2 en s Q = wp (ev2 cf (.meth p t es)).1 en s fun d en s => optQ (truthy (derefD s d)) fun b => Q b en s := qt_vt cf en s Q rfl
theorem qt_mut (p t es) : wp (ev2 cf (.mut p t es)).2 en s Q = wp (ev2 cf (.mut p t es)).1 en s fun d en s => optQ (truthy (derefD s d)) fun b => Q b en s := qt_vt cf en s Q rfl
theorem qt_callA (f es ks arr) : wp (ev2 cf (.callA f es ks arr)).2 en s Q = wp (ev2 cf (.callA f es ks arr)).1 en s fun d en s => optQ (truthy (derefD s d)) fun b => Q b en s := qt_vt cf en s Q rfl
theorem qt_lc (o g it i e) : wp (ev2 cf (.lc o g it i e)).2 en s Q = wp (ev2 cf (.lc o g it i e)).1 en s fun d en s => optQ (truthy (derefD s d)) fun b => Q b en s := qt_vt cf en s Q rfl
theorem q_ts0 : wp (tsts cf []) en s Q = Q true en s := id rfl
theorem q_ts1 (e es) : wp (tsts cf (e :: es)) en s Q = wp (ev2 cf e).2 en s fun b en s => if b then wp (tsts cf es) en s Q else Q false en s := by
  show wp (M.bind _ _) en s Q = _
  simp only [wp_bind, wp_ite, wp_ret]
end
section
variable (Q : List D → Env → Sto → Prop)
theorem q_evs0 : wp (evs cf []) en s Q = Q [] en s := id rfl
theorem q_evs1 (e es) : wp (evs cf (e :: es)) en s Q = wp (ev2 cf e).1 en s fun d en s => wp (evs cf es) en s fun ds en s => Q (d :: ds) en s := by
  show wp (M.bind _ _) en s Q = _
  simp only [wp_bind, wp_ret]
theorem q_ops0 : wp (ops cf []) en s Q = Q [] en s := id rfl
theorem q_opB (e : E) (x : M D) (es) (h : ∀ r, opB e x r = (x.bind fun d => r.bind fun ds => .ret (d :: ds))) : wp (opB e x (ops cf es)) en s Q = wp x en s fun d en s => wp (ops cf es) en s fun ds en s => Q (d :: ds) en s := by
  rw [h]
  simp only [wp_bind, wp_ret]
theorem q_opv (i es) : wp (ops cf (.v i :: es)) en s Q = getQ en[i]? fun _ => wp (ops cf es) en s fun ds en s => getQ en[i]? fun d => Q (d :: ds) en s := by
  show wp (M.bind _ _) en s Q = _
  simp only [wp_bind, wp_ret, wp_get]
theorem o_mv (i es) : wp (ops cf (.mv i :: es)) en s Q = wp (ev2 cf (.mv i)).1 en s fun d en s => wp (ops cf es) en s fun ds en s => Q (d :: ds) en s := q_opB cf en s Q (.mv i) _ es fun _ => rfl
theorem o_rf (i es) : wp (ops cf (.rf i :: es)) en s Q = wp (ev2 cf (.rf i)).1 en s fun d en s => wp (ops cf es) en s fun ds en s => Q (d :: ds) en s := q_opB cf en s Q (.rf i) _ es fun _ => rfl
theorem o_k (d es) : wp (ops cf (.k d :: es)) en s Q = wp (ops cf es) en s fun ds en s => Q (d :: ds) en s := q_opB cf en s Q (.k d) _ es fun _ => rfl
theorem o_prim (p x es) : wp (ops cf (.prim p x :: es)) en s Q = wp (ev2 cf (.prim p x)).1 en s fun d en s => wp (ops cf es) en s fun ds en s => Q (d :: ds) en s := q_opB cf en s Q (.prim p x) _ es fun _ => rfl
theorem o_chain (p q a b c es) : wp (ops cf (.chain p q a b c :: es)) en s Q = wp (ev2 cf (.chain p q a b c)).1 en s fun d en s => wp (ops cf es) en s fun ds en s => Q (d :: ds) en s := q_opB cf en s Q (.chain p q a b c) _ es fun _ => rfl
theorem o_tup (x es) : wp (ops cf (.tup x :: es)) en s Q = wp (ev2 cf (.tup x)).1 en s fun d en s => wp (ops cf es) en s fun ds en s => Q (d :: ds) en s := q_opB cf en s Q (.tup x) _ es fun _ => rfl
theorem o_lst (x es) : wp (ops cf (.lst x :: es)) en s Q = wp (ev2 cf (.lst x)).1 en s fun d en s => wp (ops cf es) en s fun ds en s => Q (d :: ds) en s := q_opB cf en s Q (.lst x) _ es fun _ => rfl
theorem o_call (f x es) : wp (ops cf (.call f x :: es)) en s Q = wp (ev2 cf (.call f x)).1 en s fun d en s => wp (ops cf es) en s fun ds en s => Q (d :: ds) en s := q_opB cf en s Q (.call f x) _ es fun _ => rfl
theorem o_and (a b es) : wp (ops cf (.and_ a b :: es)) en s Q = wp (ev2 cf (.and_ a b)).1 en s fun d en s => wp (ops cf es) en s fun ds en s => Q (d :: ds) en s := q_opB cf en s Q (.and_ a b) _ es fun _ => rfl
theorem o_or (a b es) : wp (ops cf (.or_ a b :: es)) en s Q = wp (ev2 cf (.or_ a b)).1 en s fun d en s => wp (ops cf es) en s fun ds en s => Q (d :: ds) en s := q_opB cf en s Q (.or_ a b) _ es fun _ => rfl
theorem o_not (a es) : wp (ops cf (.not_ a :: es)) en s Q = wp (ev2 cf (.not_ a)).1 en s fun d en s => wp (ops cf es) en s fun ds en s => Q (d :: ds) en s := q_opB cf en s Q (.not_ a) _ es fun _ => rfl
theorem o_cond (c a b es) : wp (ops cf (.cond c a b :: es)) en s Q = wp (ev2 cf (.cond c a b)).1 en s fun d en s => wp (ops cf es) en s fun ds en s => Q (d :: ds) en s := q_opB cf en s Q (.cond c a b) _ es fun _ => rfl
theorem o_mut (m t x es) : wp (ops cf (.mut m t x :: es)) en s Q = wp (ev2 cf (.mut m t x)).1 en s fun d en s => wp (ops cf es) en s fun ds en s => Q (d :: ds) en s := q_opB cf en s Q (.mut m t x) _ es fun _ => rfl
theorem o_meth (m t x es) : wp (ops cf (.meth m t x :: es)) en s Q = wp (ev2 cf (.meth m t x)).1 en s fun d en s => wp (ops cf es) en s fun ds en s => Q (d :: ds) en s := q_opB cf en s Q (.meth m t x) _ es fun _ => rfl
theorem o_callA (f x ks arr es) : wp (ops cf (.callA f x ks arr :: es)) en s Q = wp (ev2 cf (.callA f x ks arr)).1 en s fun d en s => wp (ops cf es) en s fun ds en s => Q (d :: ds) en s := q_opB cf en s Q (.callA f x ks arr) _ es fun _ => rfl
theorem o_lc (o g it i e es) : wp (ops cf (.lc o g it i e :: es)) en s Q = wp (ev2 cf (.lc o g it i e)).1 en s fun d en s => wp (ops cf es) en s fun ds en s => Q (d :: ds) en s := q_opB cf en s Q (.lc o g it i e) _ es fun _ => rfl
theorem q_seq (e) : wp (iter cf (.seq e)) en s Q = wp (ev2 cf e).1 en s fun d en s => optQ (seqItems d) fun ds => Q ds en s := by
  show wp (M.bind _ _) en s Q = _
  simp only [wp_bind, wp_opt]
theorem q_enum (e) : wp (iter cf (.enum e)) en s Q = wp (ev2 cf e).1 en s fun d en s => optQ (enumO d) fun ds => Q ds en s := by
  show wp (M.bind _ _) en s Q = _
  simp only [wp_bind, wp_opt]
  rfl
theorem q_rng1 (e) : wp (iter cf (.rng1 e)) en s Q = wp (ev2 cf e).1 en s fun d en s => optQ (rngO d) fun ds => Q ds en s := by
  show wp (M.bind _ _) en s Q = _
  simp only [wp_bind, wp_opt]
  rfl
theorem q_rng2 (a b) : wp (iter cf (.rng2 a b)) en s Q = wp (ev2 cf a).1 en s fun d en s => wp (ev2 cf b).1 en s fun f en s => optQ (rngO2 d f) fun ds => Q ds en s := by
  show wp (M.bind _ _) en s Q = _
  simp only [wp_bind, wp_opt]
  rfl
end
section
variable (Q : Flow → Env → Sto → Prop)
theorem q_asg (g e) : wp (exS cf W (.asg g e)) en s Q = wp (ev2 cf e).1 en s fun d en s => wp (asgG cf g d) en s fun _ en s => Q .next en s := by
  show wp (M.bind _ _) en s Q = _
  simp only [wp_bind, wp_calm, wp_ret]
theorem q_ex (e) : wp (exS cf W (.ex e)) en s Q = wp (ev2 cf e).1 en s fun _ en s => Q .next en s := by
  show wp (M.bind _ _) en s Q = _
  simp only [wp_bind, wp_ret]
theorem q_ret (e) : wp (exS cf W (.ret e)) en s Q = wp (ev2 cf e).1 en s fun d en s => Q (.ret d) en s := by
  show wp (M.bind _ _) en s Q = _
  simp only [wp_bind, wp_ret]
theorem q_ite (c a b) : wp (exS cf W (.ite c a b)) en s Q = wp (ev2 cf c).2 en s fun t en s => if t then wp (exSs cf W a) en s Q else wp (exSs cf W b) en s Q := by
  show wp (M.bind _ _) en s Q = _
  simp only [wp_bind, wp_ite]
theorem q_for (g it b) : wp (exS cf W (.for_ g it b)) en s Q = wp (iter cf it) en s fun ds en s => wp (forL (fun d => (asgG cf g d).calm) (exSs cf W b) ds) en s Q := by
  show wp (M.bind _ _) en s Q = _
  simp only [wp_bind]
theorem q_pass : wp (exS cf W .pass) en s Q = Q .next en s := id rfl
theorem q_brk : wp (exS cf W .brk) en s Q = Q .brk en s := id rfl
theorem q_cont : wp (exS cf W .cont) en s Q = Q .cont en s := id rfl
theorem q_while (c b) : wp (exS cf W (.while_ c b)) en s Q = wp (whileL (tst cf c) (exSs cf W b) W) en s Q := id rfl
def nextQ (cf : Calls) (W : Nat) (ss : List S) (Q : Flow → Env → Sto → Prop) (f : Flow) (en : Env) (s : Sto) : Prop := match f with
  | .next => wp (exSs cf W ss) en s Q
  | f => Q f en s
theorem nextQ_next (ss) : nextQ cf W ss Q .next en s = wp (exSs cf W ss) en s Q := id rfl
theorem nextQ_ret (ss d) : nextQ cf W ss Q (.ret d) en s = Q (.ret d) en s := id rfl
theorem nextQ_brk (ss) : nextQ cf W ss Q .brk en s = Q .brk en s := id rfl
theorem nextQ_cont (ss) : nextQ cf W ss Q .cont en s = Q .cont en s := id rfl
theorem q_ss0 : wp (exSs cf W []) en s Q = Q .next en s := id rfl
theorem q_ss1 (x ss) : wp (exSs cf W (x :: ss)) en s Q = wp (exS cf W x) en s (nextQ cf W ss Q) := by
  show wp (M.bind _ _) en s Q = _
  rw [wp_bind]
  refine congrArg _ (funext fun f => funext fun en => funext fun s => ?_)
  cases f <;> rfl
end
theorem q_app (Q : Flow → Env → Sto → Prop) : ∀ (a b : List S) (en : Env) (s : Sto), wp (exSs cf W (a ++ b)) en s Q = wp (exSs cf W a) en s (nextQ cf W b Q)
  | [], b, en, s => rfl
  | x :: a, b, en, s => by
    rw [List.cons_append, q_ss1, q_ss1]
    refine congrArg _ (funext fun f => funext fun en => funext fun s => ?_)
    cases f with
    | next => exact q_app Q a b en s
    | _ => rfl
section
variable (Q : Unit → Env → Sto → Prop)
theorem q_nm (i d) : wp (asgG cf (.nm i) d) en s Q = Q () (en.set i (some d)) s := id rfl
theorem q_tp (gs ds) : wp (asgG cf (.tp gs) (.tup ds)) en s Q = if ds.length = gs.length then wp (asgGs cf gs ds) en s Q else False := by
  show wp (if _ then _ else _) en s Q = _
  rw [wp_ite, wp_stuck]
theorem q_gs0 : wp (asgGs cf [] []) en s Q = Q () en s := id rfl
theorem q_gs1 (g gs d ds) : wp (asgGs cf (g :: gs) (d :: ds)) en s Q = wp (asgG cf g d) en s fun _ en s => wp (asgGs cf gs ds) en s Q := by
  show wp (M.bind _ _) en s Q = _
  rw [wp_bind]
theorem q_sub_v (n i d) : wp (asgG cf (.sub (.v n) i) d) en s Q = getQ en[n]? fun _ => wp (ev2 cf i).1 en s fun j en s => getQ en[n]? fun d0 => wp (mutM .set d0 (some n) [j.hard, d.hard]) en s fun _ en s => Q () en s := by
  show wp (M.bind _ _) en s Q = _
  simp only [wp_bind, wp_calm]
  show wp (M.bind _ _) en s _ = _
  simp only [wp_bind, wp_get, wp_ret, slotOf]
theorem q_sub (o i d) : wp (asgG cf (.sub o i) d) en s Q = wp (pl1 o (ev2 cf o).1) en s fun r en s => wp (ev2 cf i).1 en s fun j en s => wp (match r with
      | none => (match slotOf o with
        | some n => (getV n).bind fun d0 => (mutM .set d0 (some n) [j.hard, d.hard]).bind fun _ => .ret ()
        | none => .stuck)
      | some d0 => (mutM .set d0 none [j.hard, d.hard]).bind fun _ => .ret ()) en s Q := by
  show wp (M.bind _ _) en s Q = _
  simp only [wp_bind, wp_calm]
  try rfl
end
theorem w_pl_v (i x) (Q : Option D → Env → Sto → Prop) : wp (pl1 (.v i) x) en s Q = getQ en[i]? fun _ => Q none en s := by
  show wp (M.bind _ _) en s Q = _
  simp only [wp_bind, wp_ret, wp_get]
theorem w_pl_k (d x) (Q : Option D → Env → Sto → Prop) : wp (pl1 (.k d) x) en s Q = wp x en s fun d en s => Q (some d) en s := by
  show wp (M.bind _ _) en s Q = _
  simp only [wp_bind, wp_ret]
theorem w_pl_prim (p es x) (Q : Option D → Env → Sto → Prop) : wp (pl1 (.prim p es) x) en s Q = wp x en s fun d en s => Q (some d) en s := by
  show wp (M.bind _ _) en s Q = _
  simp only [wp_bind, wp_ret]
theorem w_fin_s (i d) (Q : D → Env → Sto → Prop) : wp (fin1 i (some d)) en s Q = Q d en s := id rfl
theorem w_fin_n (i) (Q : D → Env → Sto → Prop) : wp (fin1 (slotOf (.v i)) none) en s Q = getQ en[i]? fun d => Q d en s := wp_get
theorem w_lookL (d) (Q : Unit → Env → Sto → Prop) : wp (lookL d) en s Q = (lookQ s d ∧ Q () en s) := by
  unfold wp lookL
  cases d with
  | own ds => simp [lookQ]
  | ref n =>
    simp only [lookQ]
    cases h : s[n]? with
    | none => simp
    | some o => cases o <;> simp
  | _ => simp [lookQ]
theorem w_lookP_n (i) (Q : Unit → Env → Sto → Prop) : wp (lookP (slotOf (.v i)) none) en s Q = getQ en[i]? fun d => lookQ s d ∧ Q () en s := by
  show wp (M.bind _ _) en s Q = _
  simp only [wp_bind, wp_get, w_lookL]
theorem w_lookP_s (i d) (Q : Unit → Env → Sto → Prop) : wp (lookP i (some d)) en s Q = (lookQ s d ∧ Q () en s) := w_lookL en s d Q
theorem w_mut_own (m ds i as) (Q : D → Env → Sto → Prop) : wp (mutM m (.own ds) (some i) as) en s Q = optQ (muF m ds as) fun p => Q p.2 (en.set i (some (.own p.1))) s := by
  unfold wp mutM
  cases h : muF m ds as with
  | none => simp [h, optQ]
  | some p => obtain ⟨a, b⟩ := p; simp [h, optQ]
def lstQ (o : Option O) (K : List D → Prop) : Prop := match o with
  | some (.lst ds) => K ds
  | _ => False
theorem lstQ_some (ds K) : lstQ (some (.lst ds)) K = K ds := id rfl
theorem w_mut_ref (m n i as) (Q : D → Env → Sto → Prop) : wp (mutM m (.ref n) i as) en s Q = lstQ s[n]? fun ds => optQ (muF m ds as) fun p => Q p.2 en (s.set n (.lst p.1)) := by
  unfold wp mutM lstQ
  cases h : s[n]? with
  | none => simp [h]
  | some o =>
    cases o with
    | ins c fs => simp [h]
    | lst ds =>
      simp only [h]
      cases h2 : muF m ds as with
      | none => simp [optQ]
      | some p => obtain ⟨a, b⟩ := p; simp [optQ]
end
end Mi.W0
end
section
set_option Elab.async false
set_option maxRecDepth 100000
set_option linter.all false
namespace Mi
open PySem
/-- beside a way on: it is not looked into ahead of its turn -/
inductive U {α : Type} (a : α) : Type where
  | mk
def wp {α : Type} (m : M α) (en : Env) (s : Sto) (Q : α → Env → Sto → Prop) (u : U Q := .mk) : Prop := W0.wp m en s Q
def optQ {α : Type} (o : Option α) (K : α → Prop) (u : U K := .mk) : Prop := W0.optQ o K
def getQ (o : Option (Option D)) (K : D → Prop) (u : U K := .mk) : Prop := W0.getQ o K
def useQ (o : Option (Option D)) (i : Nat) (en : Env) (K : D → Env → Prop) (u : U K := .mk) : Prop := W0.useQ o i en K
def callQ (c : C) (K : D → Sto → Prop) (u : U K := .mk) : Prop := W0.callQ c K
@[simp] theorem val_non : val .non = true := id rfl
@[simp] theorem val_bl (x) : val (.bl x) = true := id rfl
@[simp] theorem val_int (x) : val (.int x) = true := id rfl
@[simp] theorem val_str (x) : val (.str x) = true := id rfl
@[simp] theorem val_tup (x) : val (.tup x) = true := id rfl
@[simp] theorem val_frz (x) : val (.frz x) = true := id rfl
section
variable {α : Type} (K : α → Prop)
@[simp] theorem optQ_some (a : α) : optQ (some a) K = K a := W0.optQ_some ..
@[simp] theorem optQ_none : optQ none K = False := W0.optQ_none ..
end
@[simp] theorem getQ_some (d : D) (K : D → Prop) : getQ (some (some d)) K = K d := W0.getQ_some ..
@[simp] theorem getQ_n1 (K : D → Prop) : getQ (some none) K = False := W0.getQ_n1 ..
@[simp] theorem getQ_n2 (K : D → Prop) : getQ none K = False := W0.getQ_n2 ..
section
variable (i : Nat) (en : Env) (K : D → Env → Prop)
@[simp] theorem useQ_own (ds) : useQ (some (some (.own ds))) i en K = K (.frz ds) (en.set i (some (.frz ds))) := W0.useQ_own ..
@[simp] theorem useQ_frz (ds) : useQ (some (some (.frz ds))) i en K = K (.frz ds) en := W0.useQ_frz ..
@[simp] theorem useQ_tup (ds) : useQ (some (some (.tup ds))) i en K = K (.tup ds) en := W0.useQ_tup ..
@[simp] theorem useQ_non : useQ (some (some .non)) i en K = K .non en := W0.useQ_non ..
@[simp] theorem useQ_bl (b) : useQ (some (some (.bl b))) i en K = K (.bl b) en := W0.useQ_bl ..
@[simp] theorem useQ_int (b) : useQ (some (some (.int b))) i en K = K (.int b) en := W0.useQ_int ..
@[simp] theorem useQ_str (b) : useQ (some (some (.str b))) i en K = K (.str b) en := W0.useQ_str ..
@[simp] theorem useQ_ref (b) : useQ (some (some (.ref b))) i en K = K (.ref b) en := W0.useQ_ref ..
@[simp] theorem useQ_n1 : useQ (some none) i en K = False := W0.useQ_n1 ..
@[simp] theorem useQ_n2 : useQ none i en K = False := W0.useQ_n2 ..
@[simp] theorem useQ_val (d) (h : val d = true) : useQ (some (some d)) i en K = K d en := W0.useQ_val _ _ _ _ h
end
@[simp] theorem callQ_ok (d s K) : callQ (.ok d s) K = K d s := W0.callQ_ok ..
@[simp] theorem callQ_stuck (K) : callQ .stuck K = False := W0.callQ_stuck ..
@[simp] theorem hard_val (d : D) (h : val d = true) : D.hard d = d := by cases d <;> first | rfl | cases h
@[simp] theorem hard_own (ds) : D.hard (.own ds) = .frz ds := id rfl
@[simp] theorem hard_ref (n) : D.hard (.ref n) = .ref n := id rfl
@[simp] theorem deref_val (S : Sto) (d : D) (h : val d = true) : derefD S d = d := by cases d <;> first | rfl | cases h
@[simp] theorem deref_own (S : Sto) (ds) : derefD S (.own ds) = .own ds := id rfl
theorem deref_ref {S : Sto} {n : Nat} {ds : List D} (h : S[n]? = some (.lst ds)) : derefD S (.ref n) = .own ds := by simp [derefD, h]
section
variable {α β : Type} {en : Env} {s : Sto}
@[simp ↓] theorem wp_bind {m : M α} {f : α → M β} {Q : β → Env → Sto → Prop} : wp (m.bind f) en s Q = wp m en s fun a en s => wp (f a) en s Q := W0.wp_bind ..
@[simp ↓] theorem wp_ret {a : α} {Q : α → Env → Sto → Prop} : wp (.ret a) en s Q = Q a en s := W0.wp_ret ..
@[simp ↓] theorem wp_stuck {Q : α → Env → Sto → Prop} : wp (.stuck : M α) en s Q = False := W0.wp_stuck ..
@[simp ↓] theorem wp_opt {o : Option α} {Q : α → Env → Sto → Prop} : wp (M.opt o) en s Q = optQ o fun a => Q a en s := W0.wp_opt ..
@[simp ↓] theorem wp_ite {c : Prop} [Decidable c] {a b : M α} {Q : α → Env → Sto → Prop} : wp (if c then a else b) en s Q = if c then wp a en s Q else wp b en s Q := W0.wp_ite ..
@[simp ↓] theorem wp_calm {m : M α} {Q : α → Env → Sto → Prop} : wp m.calm en s Q = wp m en s Q := W0.wp_calm ..
@[simp ↓] theorem wp_prim {p : P} {ds : List D} {Q : D → Env → Sto → Prop} : wp (primM p ds) en s Q = optQ (primF p (ds.map (derefD s))) fun d => Q d en s := W0.wp_prim ..
@[simp ↓] theorem wp_tru {d : D} {Q : Bool → Env → Sto → Prop} : wp (truM d) en s Q = optQ (truthy (derefD s d)) fun d => Q d en s := W0.wp_tru ..
@[simp ↓] theorem wp_setV {i : Nat} {d : D} {Q : Unit → Env → Sto → Prop} : wp (setV i d) en s Q = Q () (en.set i (some d)) s := W0.wp_setV ..
@[simp ↓] theorem wp_get {i : Nat} {Q : D → Env → Sto → Prop} : wp (getV i) en s Q = getQ en[i]? fun d => Q d en s := W0.wp_get ..
@[simp ↓] theorem wp_use {i : Nat} {Q : D → Env → Sto → Prop} : wp (useV i) en s Q = useQ en[i]? i en fun d en => Q d en s := W0.wp_use ..
@[simp ↓] theorem wp_move {i : Nat} {Q : D → Env → Sto → Prop} : wp (moveV i) en s Q = getQ en[i]? fun d => Q d (en.set i none) s := W0.wp_move ..
def refQ (o : Option (Option D)) (i : Nat) (en : Env) (s : Sto) (K : D → Env → Sto → Prop) (u : U K := .mk) : Prop := W0.refQ o i en s K
@[simp] theorem refQ_own (ds i) (K : D → Env → Sto → Prop) : refQ (some (some (.own ds))) i en s K = K (.ref s.length) (en.set i (some (.ref s.length))) (s ++ [.lst ds]) := W0.refQ_own ..
@[simp] theorem refQ_ref (n i) (K : D → Env → Sto → Prop) : refQ (some (some (.ref n))) i en s K = K (.ref n) en s := W0.refQ_ref ..
@[simp ↓] theorem wp_rf {i : Nat} {Q : D → Env → Sto → Prop} : wp (refV i) en s Q = refQ en[i]? i en s Q := W0.wp_rf ..
@[simp ↓] theorem wp_call {cf : Calls} {f : Nat} {ds : List D} {Q : D → Env → Sto → Prop} : wp (callM cf f ds) en s Q = callQ (cf f ds s) fun d s => Q d en s := W0.wp_call ..
theorem wp_mono {m : M α} {Q Q' : α → Env → Sto → Prop} (h : wp m en s Q) (k : ∀ a en s, Q a en s → Q' a en s) : wp m en s Q' := W0.wp_mono h k
end
@[simp] theorem endQ_next (Q s) : endQ Q .next s = Q .non s := id rfl
@[simp] theorem endQ_ret (Q d s) : endQ Q (.ret d) s = Q d s := id rfl
theorem ans_of {fns : List Fn} {W n f : Nat} {ds : List D} {s : Sto} {Q : D → Sto → Prop} {fn : Fn} (h : fns[f]? = some fn) (hl : ds.length = fn.np)
    (w : wp (exSs (run fns W n) W fn.body) (initE fn.nl ds) s fun fl _ s' => endQ Q fl s') : ans fns W (n + 1) f ds s Q := W0.ans_of h hl w
section
variable (cf : Calls) (W : Nat) (en : Env) (s : Sto)
section
variable (Q : D → Env → Sto → Prop)
@[simp ↓] theorem q_v (i) : wp (ev2 cf (.v i)).1 en s Q = useQ en[i]? i en fun d en => Q d en s := W0.q_v ..
@[simp ↓] theorem q_mv (i) : wp (ev2 cf (.mv i)).1 en s Q = getQ en[i]? fun d => Q d (en.set i none) s := W0.q_mv ..
@[simp ↓] theorem q_rf (i) : wp (ev2 cf (.rf i)).1 en s Q = refQ en[i]? i en s Q := W0.q_rf ..
@[simp ↓] theorem q_k (d) : wp (ev2 cf (.k d)).1 en s Q = Q d en s := W0.q_k ..
@[simp ↓] theorem q_prim (p es) : wp (ev2 cf (.prim p es)).1 en s Q = wp (ops cf es) en s fun ds en s => optQ (primF p (ds.map (derefD s))) fun d => Q d en s := W0.q_prim ..
@[simp ↓] theorem q_chain (p q a b c) : wp (ev2 cf (.chain p q a b c)).1 en s Q = wp (ev2 cf a).1 en s fun x en s => wp (ev2 cf b).1 en s fun y en s => optQ (primF p [derefD s x, derefD s y]) fun z => (match z with
      | .bl k => if k then wp (ev2 cf c).1 en s fun w en s => optQ (primF q [derefD s y, derefD s w]) fun d => Q d en s else Q (.bl false) en s
      | _ => False) := W0.q_chain ..
@[simp ↓] theorem q_tup (es) : wp (ev2 cf (.tup es)).1 en s Q = wp (evs cf es) en s fun ds en s => if ds.length ≤ big then Q (.tup (ds.map D.hard)) en s else False := W0.q_tup ..
@[simp ↓] theorem q_lst (es) : wp (ev2 cf (.lst es)).1 en s Q = wp (evs cf es) en s fun ds en s => if ds.length ≤ big then Q (.own (ds.map D.hard)) en s else False := W0.q_lst ..
@[simp ↓] theorem q_call (f es) : wp (ev2 cf (.call f es)).1 en s Q = wp (evs cf es) en s fun ds en s => callQ (cf f ds s) fun d s => Q d en s := W0.q_call ..
@[simp ↓] theorem q_and (a b) : wp (ev2 cf (.and_ a b)).1 en s Q = wp (ev2 cf a).1 en s fun d en s => optQ (truthy (derefD s d)) fun t => if t then wp (ev2 cf b).1 en s Q else Q d en s := W0.q_and ..
@[simp ↓] theorem q_or (a b) : wp (ev2 cf (.or_ a b)).1 en s Q = wp (ev2 cf a).1 en s fun d en s => optQ (truthy (derefD s d)) fun t => if t then Q d en s else wp (ev2 cf b).1 en s Q := W0.q_or ..
@[simp ↓] theorem q_not (a) : wp (ev2 cf (.not_ a)).1 en s Q = wp (ev2 cf a).1 en s fun d en s => optQ (truthy (derefD s d)) fun t => Q (.bl (!t)) en s := W0.q_not ..
@[simp ↓] theorem q_cond (c a b) : wp (ev2 cf (.cond c a b)).1 en s Q = wp (ev2 cf c).2 en s fun t en s => if t then wp (ev2 cf a).1 en s Q else wp (ev2 cf b).1 en s Q := W0.q_cond ..
@[simp ↓] theorem q_meth (p tgt es) : wp (ev2 cf (.meth p tgt es)).1 en s Q = wp (pl1 tgt (ev2 cf tgt).1) en s fun r en s => wp (fin1 (slotOf tgt) r) en s fun d en s => if kindM p d then wp (ops cf es) en s fun ds en s => wp (fin1 (slotOf tgt) r) en s fun d en s => optQ (primF p ((d :: ds).map (derefD s))) fun d => Q d en s else False := W0.q_meth ..
theorem q_mut (m tgt es) : wp (ev2 cf (.mut m tgt es)).1 en s Q = wp (pl1 tgt (ev2 cf tgt).1) en s fun r en s => wp (lookP (slotOf tgt) r) en s fun _ en s => wp (evs cf es) en s fun as en s => wp (match r with
      | none => (match slotOf tgt with
        | some i => (getV i).bind fun d0 => mutM m d0 (some i) (as.map D.hard)
        | none => .stuck)
      | some d0 => mutM m d0 none (as.map D.hard)) en s Q := W0.q_mut ..
@[simp ↓] theorem q_mut_v (m n es) : wp (ev2 cf (.mut m (.v n) es)).1 en s Q = getQ en[n]? fun _ => getQ en[n]? fun d => wp (lookL d) en s fun _ en s => wp (evs cf es) en s fun as en s => getQ en[n]? fun d0 => wp (mutM m d0 (some n) (as.map D.hard)) en s Q := W0.q_mut_v ..
@[simp ↓] theorem q_callA (f es ks arr) : wp (ev2 cf (.callA f es ks arr)).1 en s Q = wp (evs cf es) en s fun ds en s => wp (evs cf ks) en s fun zs en s => if ds.length = es.length ∧ zs.length = ks.length then callQ (cf f (arrange arr ((ds ++ zs).map D.hard)) s) fun d s => Q d en s else False := W0.q_callA ..
@[simp ↓] theorem q_lc (own g it ifs elt) : wp (ev2 cf (.lc own g it ifs elt)).1 en s Q = wp (iter cf it) en s fun p en s => wp (lcL own (fun d => (asgG cf g d).calm) (tsts cf ifs).calm (ev2 cf elt).1.calm p []) (wipeE own en) s fun ds en s => Q (.own ds) en s := W0.q_lc ..
end
section
variable (Q : Bool → Env → Sto → Prop)
@[simp ↓] theorem qt_v (i) : wp (ev2 cf (.v i)).2 en s Q = getQ en[i]? fun d => optQ (truthy (derefD s d)) fun b => Q b en s := W0.qt_v ..
@[simp ↓] theorem qt_and (a b) : wp (ev2 cf (.and_ a b)).2 en s Q = wp (ev2 cf a).2 en s fun t en s => if t then wp (ev2 cf b).2 en s Q else Q false en s := W0.qt_and ..
@[simp ↓] theorem qt_or (a b) : wp (ev2 cf (.or_ a b)).2 en s Q = wp (ev2 cf a).2 en s fun t en s => if t then Q true en s else wp (ev2 cf b).2 en s Q := W0.qt_or ..
@[simp ↓] theorem qt_not (a) : wp (ev2 cf (.not_ a)).2 en s Q = wp (ev2 cf a).2 en s fun t en s => Q (!t) en s := W0.qt_not ..
theorem qt_vt {e : E} (h : (ev2 cf e).2 = (ev2 cf e).1.bind fun d => truM d) : wp (ev2 cf e).2 en s Q = wp (ev2 cf e).1 en s fun d en s => optQ (truthy (derefD s d)) fun b => Q b en s := W0.qt_vt _ _ _ _ h
@[simp ↓] theorem qt_mv (i) : wp (ev2 cf (.mv i)).2 en s Q = wp (ev2 cf (.mv i)).1 en s fun d en s => optQ (truthy (derefD s d)) fun b => Q b en s := W0.qt_mv ..
@[simp ↓] theorem qt_rf (i) : wp (ev2 cf (.rf i)).2 en s Q = wp (ev2 cf (.rf i)).1 en s fun d en s => optQ (truthy (derefD s d)) fun b => Q b en s := W0.qt_rf ..
@[simp ↓] theorem qt_k (i) : wp (ev2 cf (.k i)).2 en s Q = wp (ev2 cf (.k i)).1 en s fun d en s => optQ (truthy (derefD s d)) fun b => Q b en s := W0.qt_k ..
@[simp ↓] theorem qt_prim (p es) : wp (ev2 cf (.prim p es)).2 en s Q = wp (ev2 cf (.prim p es)).1 en s fun d en s => optQ (truthy (derefD s d)) fun b => Q b en s := W0.qt_prim ..
@[simp ↓] theorem qt_chain (p q a b c) : wp (ev2 cf (.chain p q a b c)).2 en s Q = wp (ev2 cf (.chain p q a b c)).1 en s fun d en s => optQ (truthy (derefD s d)) fun b => Q b en s := W0.qt_chain ..
@[simp ↓] theorem qt_tup (es) : wp (ev2 cf (.tup es)).2 en s Q = wp (ev2 cf (.tup es)).1 en s fun d en s => optQ (truthy (derefD s d)) fun b => Q b en s := W0.qt_tup ..
@[simp ↓] theorem qt_lst (es) : wp (ev2 cf (.lst es)).2 en s Q = wp (ev2 cf (.lst es)).1 en s fun d en s => optQ (truthy (derefD s d)) fun b => Q b en s := W0.qt_lst ..
@[simp ↓] theorem qt_call (f es) : wp (ev2 cf (.call f es)).2 en s Q = wp (ev2 cf (.call f es)).1 en s fun d en s => optQ (truthy (derefD s d)) fun b => Q b en s := W0.qt_call ..
@[simp ↓] theorem qt_cond (c a b) : wp (ev2 cf (.cond c a b)).2 en s Q = wp (ev2 cf (.cond c a b)).1 en s fun d en s => optQ (truthy (derefD s d)) fun b => Q b en s := W0.qt_cond ..
@[simp ↓] theorem qt_meth (p t es) : wp (ev2 cf (.meth p t es)).2 en s Q = wp (ev2 cf (.meth p t es)).1 en s fun d en s => optQ (truthy (derefD s d)) fun b => Q b en s := W0.qt_meth ..
@[simp ↓] theorem qt_mut (p t es) : wp (ev2 cf (.mut p t es)).2 en s Q = wp (ev2 cf (.mut p t es)).1 en s fun d en s => optQ (truthy (derefD s d)) fun b => Q b en s := W0.qt_mut ..
@[simp ↓] theorem qt_callA (f es ks arr) : wp (ev2 cf (.callA f es ks arr)).2 en s Q = wp (ev2 cf (.callA f es ks arr)).1 en s fun d en s => optQ (truthy (derefD s d)) fun b => Q b en s := W0.qt_callA ..
@[simp ↓] theorem qt_lc (o g it i e) : wp (ev2 cf (.lc o g it i e)).2 en s Q = wp (ev2 cf (.lc o g it i e)).1 en s fun d en s => optQ (truthy (derefD s d)) fun b => Q b en s := W0.qt_lc ..
@[simp ↓] theorem q_ts0 : wp (tsts cf []) en s Q = Q true en s := W0.q_ts0 ..
@[simp ↓] theorem q_ts1 (e es) : wp (tsts cf (e :: es)) en s Q = wp (ev2 cf e).2 en s fun b en s => if b then wp (tsts cf es) en s Q else Q false en s := W0.q_ts1 ..
end
section
variable (Q : List D → Env → Sto → Prop)
@[simp ↓] theorem q_evs0 : wp (evs cf []) en s Q = Q [] en s := W0.q_evs0 ..
@[simp ↓] theorem q_evs1 (e es) : wp (evs cf (e :: es)) en s Q = wp (ev2 cf e).1 en s fun d en s => wp (evs cf es) en s fun ds en s => Q (d :: ds) en s := W0.q_evs1 ..
@[simp ↓] theorem q_ops0 : wp (ops cf []) en s Q = Q [] en s := W0.q_ops0 ..
theorem q_opB (e : E) (x : M D) (es) (h : ∀ r, opB e x r = (x.bind fun d => r.bind fun ds => .ret (d :: ds))) : wp (opB e x (ops cf es)) en s Q = wp x en s fun d en s => wp (ops cf es) en s fun ds en s => Q (d :: ds) en s := W0.q_opB _ _ _ _ _ _ _ h
@[simp ↓] theorem q_opv (i es) : wp (ops cf (.v i :: es)) en s Q = getQ en[i]? fun _ => wp (ops cf es) en s fun ds en s => getQ en[i]? fun d => Q (d :: ds) en s := W0.q_opv ..
@[simp ↓] theorem o_mv (i es) : wp (ops cf (.mv i :: es)) en s Q = wp (ev2 cf (.mv i)).1 en s fun d en s => wp (ops cf es) en s fun ds en s => Q (d :: ds) en s := W0.o_mv ..
@[simp ↓] theorem o_rf (i es) : wp (ops cf (.rf i :: es)) en s Q = wp (ev2 cf (.rf i)).1 en s fun d en s => wp (ops cf es) en s fun ds en s => Q (d :: ds) en s := W0.o_rf ..
@[simp ↓] theorem o_k (d es) : wp (ops cf (.k d :: es)) en s Q = wp (ops cf es) en s fun ds en s => Q (d :: ds) en s := W0.o_k ..
@[simp ↓] theorem o_prim (p x es) : wp (ops cf (.prim p x :: es)) en s Q = wp (ev2 cf (.prim p x)).1 en s fun d en s => wp (ops cf es) en s fun ds en s => Q (d :: ds) en s := W0.o_prim ..
@[simp ↓] theorem o_chain (p q a b c es) : wp (ops cf (.chain p q a b c :: es)) en s Q = wp (ev2 cf (.chain p q a b c)).1 en s fun d en s => wp (ops cf es) en s fun ds en s => Q (d :: ds) en s := W0.o_chain ..
@[simp ↓] theorem o_tup (x es) : wp (ops cf (.tup x :: es)) en s Q = wp (ev2 cf (.tup x)).1 en s fun d en s => wp (ops cf es) en s fun ds en s => Q (d :: ds) en s := W0.o_tup ..
@[simp ↓] theorem o_lst (x es) : wp (ops cf (.lst x :: es)) en s Q = wp (ev2 cf (.lst x)).1 en s fun d en s => wp (ops cf es) en s fun ds en s => Q (d :: ds) en s := W0.o_lst ..
@[simp ↓] theorem o_call (f x es) : wp (ops cf (.call f x :: es)) en s Q = wp (ev2 cf (.call f x)).1 en s fun d en s => wp (ops cf es) en s fun ds en s => Q (d :: ds) en s := W0.o_call ..
@[simp ↓] theorem o_and (a b es) : wp (ops cf (.and_ a b :: es)) en s Q = wp (ev2 cf (.and_ a b)).1 en s fun d en s => wp (ops cf es) en s fun ds en s => Q (d :: ds) en s := W0.o_and ..
@[simp ↓] theorem o_or (a b es) : wp (ops cf (.or_ a b :: es)) en s Q = wp (ev2 cf (.or_ a b)).1 en s fun d en s => wp (ops cf es) en s fun ds en s => Q (d :: ds) en s := W0.o_or ..
@[simp ↓] theorem o_not (a es) : wp (ops cf (.not_ a :: es)) en s Q = wp (ev2 cf (.not_ a)).1 en s fun d en s => wp (ops cf es) en s fun ds en s => Q (d :: ds) en s := W0.o_not ..
@[simp ↓] theorem o_cond (c a b es) : wp (ops cf (.cond c a b :: es)) en s Q = wp (ev2 cf (.cond c a b)).1 en s fun d en s => wp (ops cf es) en s fun ds en s => Q (d :: ds) en s := W0.o_cond ..
@[simp ↓] theorem o_mut (m t x es) : wp (ops cf (.mut m t x :: es)) en s Q = wp (ev2 cf (.mut m t x)).1 en s fun d en s => wp (ops cf es) en s fun ds en s => Q (d :: ds) en s := W0.o_mut ..
@[simp ↓] theorem o_meth (m t x es) : wp (ops cf (.meth m t x :: es)) en s Q = wp (ev2 cf (.meth m t x)).1 en s fun d en s => wp (ops cf es) en s fun ds en s => Q (d :: ds) en s := W0.o_meth ..
@[simp ↓] theorem o_callA (f x ks arr es) : wp (ops cf (.callA f x ks arr :: es)) en s Q = wp (ev2 cf (.callA f x ks arr)).1 en s fun d en s => wp (ops cf es) en s fun ds en s => Q (d :: ds) en s := W0.o_callA ..
@[simp ↓] theorem o_lc (o g it i e es) : wp (ops cf (.lc o g it i e :: es)) en s Q = wp (ev2 cf (.lc o g it i e)).1 en s fun d en s => wp (ops cf es) en s fun ds en s => Q (d :: ds) en s := W0.o_lc ..
@[simp ↓] theorem q_seq (e) : wp (iter cf (.seq e)) en s Q = wp (ev2 cf e).1 en s fun d en s => optQ (seqItems d) fun ds => Q ds en s := W0.q_seq ..
@[simp ↓] theorem q_enum (e) : wp (iter cf (.enum e)) en s Q = wp (ev2 cf e).1 en s fun d en s => optQ (enumO d) fun ds => Q ds en s := W0.q_enum ..
@[simp] theorem enumO_t (ds) : enumO (.tup ds) = some (enumD 0 ds) := id rfl
@[simp] theorem enumO_f (ds) : enumO (.frz ds) = some (enumD 0 ds) := id rfl
@[simp] theorem enumO_o (ds) : enumO (.own ds) = some (enumD 0 ds) := id rfl
@[simp ↓] theorem q_rng1 (e) : wp (iter cf (.rng1 e)) en s Q = wp (ev2 cf e).1 en s fun d en s => optQ (rngO d) fun ds => Q ds en s := W0.q_rng1 ..
@[simp ↓] theorem q_rng2 (a b) : wp (iter cf (.rng2 a b)) en s Q = wp (ev2 cf a).1 en s fun d en s => wp (ev2 cf b).1 en s fun f en s => optQ (rngO2 d f) fun ds => Q ds en s := W0.q_rng2 ..
end
section
variable (Q : Flow → Env → Sto → Prop)
@[simp ↓] theorem q_asg (g e) : wp (exS cf W (.asg g e)) en s Q = wp (ev2 cf e).1 en s fun d en s => wp (asgG cf g d) en s fun _ en s => Q .next en s := W0.q_asg ..
@[simp ↓] theorem q_ex (e) : wp (exS cf W (.ex e)) en s Q = wp (ev2 cf e).1 en s fun _ en s => Q .next en s := W0.q_ex ..
@[simp ↓] theorem q_ret (e) : wp (exS cf W (.ret e)) en s Q = wp (ev2 cf e).1 en s fun d en s => Q (.ret d) en s := W0.q_ret ..
@[simp ↓] theorem q_ite (c a b) : wp (exS cf W (.ite c a b)) en s Q = wp (ev2 cf c).2 en s fun t en s => if t then wp (exSs cf W a) en s Q else wp (exSs cf W b) en s Q := W0.q_ite ..
@[simp ↓] theorem q_for (g it b) : wp (exS cf W (.for_ g it b)) en s Q = wp (iter cf it) en s fun ds en s => wp (forL (fun d => (asgG cf g d).calm) (exSs cf W b) ds) en s Q := W0.q_for ..
@[simp ↓] theorem q_pass : wp (exS cf W .pass) en s Q = Q .next en s := W0.q_pass ..
@[simp ↓] theorem q_brk : wp (exS cf W .brk) en s Q = Q .brk en s := W0.q_brk ..
@[simp ↓] theorem q_cont : wp (exS cf W .cont) en s Q = Q .cont en s := W0.q_cont ..
@[simp ↓] theorem q_while (c b) : wp (exS cf W (.while_ c b)) en s Q = wp (whileL (tst cf c) (exSs cf W b) W) en s Q := W0.q_while ..
def nextQ (cf : Calls) (W : Nat) (ss : List S) (Q : Flow → Env → Sto → Prop) (f : Flow) (en : Env) (s : Sto) : Prop := match f with
  | .next => wp (exSs cf W ss) en s Q
  | f => Q f en s
@[simp] theorem nextQ_next (ss) : nextQ cf W ss Q .next en s = wp (exSs cf W ss) en s Q := id rfl
@[simp] theorem nextQ_ret (ss d) : nextQ cf W ss Q (.ret d) en s = Q (.ret d) en s := id rfl
@[simp] theorem nextQ_brk (ss) : nextQ cf W ss Q .brk en s = Q .brk en s := id rfl
@[simp] theorem nextQ_cont (ss) : nextQ cf W ss Q .cont en s = Q .cont en s := id rfl
@[simp ↓] theorem q_ss0 : wp (exSs cf W []) en s Q = Q .next en s := W0.q_ss0 ..
@[simp ↓] theorem q_ss1 (x ss) : wp (exSs cf W (x :: ss)) en s Q = wp (exS cf W x) en s (nextQ cf W ss Q) := W0.q_ss1 ..
end
theorem q_app (Q : Flow → Env → Sto → Prop) : ∀ (a b : List S) (en : Env) (s : Sto), wp (exSs cf W (a ++ b)) en s Q = wp (exSs cf W a) en s (nextQ cf W b Q) := W0.q_app cf W Q
section
variable (Q : Unit → Env → Sto → Prop)
@[simp ↓] theorem q_nm (i d) : wp (asgG cf (.nm i) d) en s Q = Q () (en.set i (some d)) s := W0.q_nm ..
@[simp ↓] theorem q_tp (gs ds) : wp (asgG cf (.tp gs) (.tup ds)) en s Q = if ds.length = gs.length then wp (asgGs cf gs ds) en s Q else False := W0.q_tp ..
@[simp ↓] theorem q_gs0 : wp (asgGs cf [] []) en s Q = Q () en s := W0.q_gs0 ..
@[simp ↓] theorem q_gs1 (g gs d ds) : wp (asgGs cf (g :: gs) (d :: ds)) en s Q = wp (asgG cf g d) en s fun _ en s => wp (asgGs cf gs ds) en s Q := W0.q_gs1 ..
@[simp ↓] theorem q_sub_v (n i d) : wp (asgG cf (.sub (.v n) i) d) en s Q = getQ en[n]? fun _ => wp (ev2 cf i).1 en s fun j en s => getQ en[n]? fun d0 => wp (mutM .set d0 (some n) [j.hard, d.hard]) en s fun _ en s => Q () en s := W0.q_sub_v ..
theorem q_sub (o i d) : wp (asgG cf (.sub o i) d) en s Q = wp (pl1 o (ev2 cf o).1) en s fun r en s => wp (ev2 cf i).1 en s fun j en s => wp (match r with
      | none => (match slotOf o with
        | some n => (getV n).bind fun d0 => (mutM .set d0 (some n) [j.hard, d.hard]).bind fun _ => .ret ()
        | none => .stuck)
      | some d0 => (mutM .set d0 none [j.hard, d.hard]).bind fun _ => .ret ()) en s Q := W0.q_sub ..
end
@[simp ↓] theorem w_pl_v (i x) (Q : Option D → Env → Sto → Prop) : wp (pl1 (.v i) x) en s Q = getQ en[i]? fun _ => Q none en s := W0.w_pl_v ..
@[simp ↓] theorem w_pl_k (d x) (Q : Option D → Env → Sto → Prop) : wp (pl1 (.k d) x) en s Q = wp x en s fun d en s => Q (some d) en s := W0.w_pl_k ..
@[simp ↓] theorem w_pl_prim (p es x) (Q : Option D → Env → Sto → Prop) : wp (pl1 (.prim p es) x) en s Q = wp x en s fun d en s => Q (some d) en s := W0.w_pl_prim ..
@[simp ↓] theorem w_fin_s (i d) (Q : D → Env → Sto → Prop) : wp (fin1 i (some d)) en s Q = Q d en s := W0.w_fin_s ..
@[simp ↓] theorem w_fin_n (i) (Q : D → Env → Sto → Prop) : wp (fin1 (slotOf (.v i)) none) en s Q = getQ en[i]? fun d => Q d en s := W0.w_fin_n ..
@[simp] theorem lookQ_own (ds) : lookQ s (.own ds) = True := id rfl
@[simp ↓] theorem w_lookL (d) (Q : Unit → Env → Sto → Prop) : wp (lookL d) en s Q = (lookQ s d ∧ Q () en s) := W0.w_lookL ..
@[simp ↓] theorem w_lookP_n (i) (Q : Unit → Env → Sto → Prop) : wp (lookP (slotOf (.v i)) none) en s Q = getQ en[i]? fun d => lookQ s d ∧ Q () en s := W0.w_lookP_n ..
@[simp ↓] theorem w_lookP_s (i d) (Q : Unit → Env → Sto → Prop) : wp (lookP i (some d)) en s Q = (lookQ s d ∧ Q () en s) := W0.w_lookP_s ..
@[simp ↓] theorem w_mut_own (m ds i as) (Q : D → Env → Sto → Prop) : wp (mutM m (.own ds) (some i) as) en s Q = optQ (muF m ds as) fun p => Q p.2 (en.set i (some (.own p.1))) s := W0.w_mut_own ..
def lstQ (o : Option O) (K : List D → Prop) (u : U K := .mk) : Prop := W0.lstQ o K
@[simp] theorem lstQ_some (ds K) : lstQ (some (.lst ds)) K = K ds := W0.lstQ_some ..
@[simp ↓] theorem w_mut_ref (m n i as) (Q : D → Env → Sto → Prop) : wp (mutM m (.ref n) i as) en s Q = lstQ s[n]? fun ds => optQ (muF m ds as) fun p => Q p.2 en (s.set n (.lst p.1)) := W0.w_mut_ref ..
@[simp] theorem q_init (nl ds) : initE nl ds = ds.map some ++ List.replicate (nl - ds.length) none := id rfl
end
/-! ### loops -/
theorem wp_for_from {bd : D → M Unit} {body : M Flow} {Q : Flow → Env → Sto → Prop} {all : List D} (I : Nat → Env → Sto → Prop)
    (step : ∀ i d en s, all[i]? = some d → I i en s → wp (bd d) en s fun _ en s => wp body en s fun f en s => match f with | .next => I (i + 1) en s | .cont => I (i + 1) en s | .brk => Q .next en s | .ret r => Q (.ret r) en s)
    (fin : ∀ en s, I all.length en s → Q .next en s) : ∀ (ds : List D) (k : Nat) (en : Env) (s : Sto), all.drop k = ds → k ≤ all.length → I k en s → wp (forL bd body ds) en s Q
  | [], k, en, s, hd, hk, h => by
    have : all.length ≤ k := List.drop_eq_nil_iff.mp hd
    have e : k = all.length := Nat.le_antisymm hk this
    subst e
    exact fin en s h
  | d :: ds, k, en, s, hd, hk, h => by
    have hk2 : k < all.length := by
      rcases Nat.lt_or_ge k all.length with z | z
      · exact z
      · rw [List.drop_eq_nil_of_le z] at hd; cases hd
    have e1 : all[k]? = some d := by
      have := List.getElem?_drop (xs := all) (i := k) (j := 0)
      rw [hd] at this
      simpa using this.symm
    have e2 : all.drop (k + 1) = ds := by
      rw [← List.drop_drop, hd]; rfl
    show wp (M.bind (bd d) _) en s Q
    rw [wp_bind]
    refine wp_mono (step k d en s e1 h) fun _ en1 s1 h1 => ?_
    rw [wp_bind]
    refine wp_mono h1 fun f en2 s2 h2 => ?_
    cases f with
    | next => exact wp_for_from I step fin ds (k + 1) en2 s2 e2 hk2 h2
    | cont => exact wp_for_from I step fin ds (k + 1) en2 s2 e2 hk2 h2
    | brk => exact h2
    | ret r => exact h2
/-- behind a turn -/
def turnQ (I : Env → Sto → Prop) (Q : Flow → Env → Sto → Prop) (f : Flow) (en : Env) (s : Sto) : Prop := match f with
  | .next => I en s
  | .cont => I en s
  | .brk => Q .next en s
  | .ret r => Q (.ret r) en s
@[simp] theorem turnQ_next (I Q en s) : turnQ I Q .next en s = I en s := id rfl
@[simp] theorem turnQ_cont (I Q en s) : turnQ I Q .cont en s = I en s := id rfl
@[simp] theorem turnQ_brk (I Q en s) : turnQ I Q .brk en s = Q .next en s := id rfl
@[simp] theorem turnQ_ret (I Q en s r) : turnQ I Q (.ret r) en s = Q (.ret r) en s := id rfl
theorem wp_for {bd : D → M Unit} {body : M Flow} {Q : Flow → Env → Sto → Prop} {ds : List D} {en : Env} {s : Sto} (I : Nat → Env → Sto → Prop) (h0 : I 0 en s)
    (step : ∀ i d en s, ds[i]? = some d → I i en s → wp (bd d) en s fun _ en s => wp body en s (turnQ (I (i + 1)) Q))
    (fin : ∀ en s, I ds.length en s → Q .next en s) : wp (forL bd body ds) en s Q := by
  refine wp_for_from I ?_ fin ds 0 en s rfl (Nat.zero_le _) h0
  intro i d en s h hi
  refine wp_mono (step i d en s h hi) fun _ en s h => wp_mono h fun f en s h => ?_
  cases f <;> exact h
/-- a comprehension's turns, where each keeps or drops its item -/
theorem wp_lc {own : List Nat} {bd : D → M Unit} {test : M Bool} {elt : M D} {Q : List D → Env → Sto → Prop} {ds : List D} {en : Env} {s : Sto} (I : Nat → List D → Env → Sto → Prop) (h0 : I 0 [] en s) (hz : ds.length ≤ big)
    (len : ∀ i acc en s, I i acc en s → acc.length ≤ i)
    (step : ∀ i d acc en s, ds[i]? = some d → I i acc en s → wp (bd d) en s fun _ en s => wp test en s fun b en s => if b then wp elt en s fun y en s => I (i + 1) (acc ++ [y.hard]) (wipeE own en) s else I (i + 1) acc (wipeE own en) s)
    (fin : ∀ acc en s, I ds.length acc en s → Q acc en s) : wp (lcL own bd test elt ds []) en s Q := by
  have go : ∀ (rest : List D) (k : Nat) (acc : List D) (en : Env) (s : Sto), ds.drop k = rest → k ≤ ds.length → I k acc en s → wp (lcL own bd test elt rest acc) en s Q := by
    intro rest
    induction rest with
    | nil =>
      intro k acc en s hd hk h
      have e : k = ds.length := Nat.le_antisymm hk (List.drop_eq_nil_iff.mp hd)
      subst e
      exact fin acc en s h
    | cons d rest ih =>
      intro k acc en s hd hk h
      have hk2 : k < ds.length := by
        rcases Nat.lt_or_ge k ds.length with z | z
        · exact z
        · rw [List.drop_eq_nil_of_le z] at hd; cases hd
      have e1 : ds[k]? = some d := by
        have := List.getElem?_drop (xs := ds) (i := k) (j := 0)
        rw [hd] at this
        simpa using this.symm
      have e2 : ds.drop (k + 1) = rest := by rw [← List.drop_drop, hd]; rfl
      have hl := len k acc en s h
      show wp (M.bind (bd d) _) en s Q
      rw [wp_bind]
      refine wp_mono (step k d acc en s e1 h) fun _ en1 s1 h1 => ?_
      rw [wp_bind]
      refine wp_mono h1 fun b en2 s2 h2 => ?_
      cases b with
      | false => exact ih (k + 1) acc _ s2 e2 hk2 h2
      | true =>
        show wp (M.bind elt _) en2 s2 Q
        rw [wp_bind]
        refine wp_mono h2 fun y en3 s3 h3 => ?_
        rw [if_pos (show acc.length < big by omega)]
        exact ih (k + 1) _ _ s3 e2 hk2 h3
  exact go ds 0 [] en s rfl (Nat.zero_le _) h0
@[simp] theorem wipe0 (e : Env) : wipeE [] e = e := id rfl
@[simp] theorem wipe1 (i is) (e : Env) : wipeE (i :: is) e = (wipeE is e).set i none := id rfl
section
/-! the pure things, for simp -/
@[simp] theorem t_bl (b) : Mi.truthy (.bl b) = some b := id rfl
@[simp] theorem t_tup (ds) : Mi.truthy (.tup ds) = some (!ds.isEmpty) := id rfl
@[simp] theorem t_own (ds) : Mi.truthy (.own ds) = some (!ds.isEmpty) := id rfl
@[simp] theorem t_frz (ds) : Mi.truthy (.frz ds) = some (!ds.isEmpty) := id rfl
@[simp] theorem p_add (a b : Int) : primF .add [.int a, .int b] = some (.int (a + b)) := id rfl
@[simp] theorem p_sub (a b : Int) : primF .sub [.int a, .int b] = some (.int (a - b)) := id rfl
@[simp] theorem p_lt (a b : Int) : primF .lt [.int a, .int b] = some (.bl (decide (a < b))) := id rfl
@[simp] theorem p_le (a b : Int) : primF .le [.int a, .int b] = some (.bl (decide (a ≤ b))) := id rfl
@[simp] theorem p_gt (a b : Int) : primF .gt [.int a, .int b] = some (.bl (decide (b < a))) := id rfl
@[simp] theorem p_ge (a b : Int) : primF .ge [.int a, .int b] = some (.bl (decide (b ≤ a))) := id rfl
@[simp] theorem p_isi (t d) : primF (.isi t) [d] = (isiD t d).map D.bl := id rfl
@[simp] theorem p_isN (d) : primF .isN [d] = some (.bl (match d with | .non => true | _ => false)) := id rfl
@[simp] theorem p_notN (d) : primF .notN [d] = some (.bl (match d with | .non => false | _ => true)) := id rfl
@[simp] theorem p_len_t (ds) : primF .len [.tup ds] = some (.int ds.length) := id rfl
@[simp] theorem p_len_f (ds) : primF .len [.frz ds] = some (.int ds.length) := id rfl
@[simp] theorem p_len_o (ds) : primF .len [.own ds] = some (.int ds.length) := id rfl
@[simp] theorem p_idx_t (ds i) : primF .idx [.tup ds, .int i] = L2.atI ds i := id rfl
@[simp] theorem p_idx_f (ds i) : primF .idx [.frz ds, .int i] = L2.atI ds i := id rfl
@[simp] theorem p_idx_o (ds i) : primF .idx [.own ds, .int i] = L2.atI ds i := id rfl
theorem p_len_s (x : Str) (h : x.length ≤ big) : primF .len [.str x] = some (.int x.length) := by
  show (if x.length ≤ big then some (D.int x.length) else none) = _
  rw [if_pos h]
theorem p_eq (a b : D) (h : cmpOk a b = true) : primF .eq [a, b] = some (.bl (D.eqv a b)) := by
  show (if cmpOk a b = true then some (D.bl (D.eqv a b != false)) else none) = _
  rw [if_pos h, Bool.bne_false]
theorem p_ne (a b : D) (h : cmpOk a b = true) : primF .ne [a, b] = some (.bl (!D.eqv a b)) := by
  show (if cmpOk a b = true then some (D.bl (D.eqv a b != true)) else none) = _
  rw [if_pos h, Bool.bne_true]
theorem c_int (a b : Int) : cmpOk (.int a) (.int b) = true := rfl
theorem v_int (a b : Int) : D.eqv (.int a) (.int b) = (a == b) := rfl
@[simp] theorem p_eqI (a b : Int) : primF .eq [.int a, .int b] = some (.bl (a == b)) := p_eq _ _ rfl
@[simp] theorem p_neI (a b : Int) : primF .ne [.int a, .int b] = some (.bl (!(a == b))) := p_ne _ _ rfl
theorem p_mod (a b : Int) (h : 0 < b) : primF .mod [.int a, .int b] = some (.int (a % b)) := by
  show (if b ≠ 0 then some (D.int (a.fmod b)) else none) = _
  rw [if_pos (by omega), Int.fmod_eq_emod_of_nonneg _ (by omega)]
theorem p_fdiv (a b : Int) (h : 0 < b) (h2 : b < 1073741824) : primF .fdiv [.int a, .int b] = some (.int (a / b)) := by
  show (if b ≠ 0 ∧ b.natAbs < 1073741824 then some (D.int (a.fdiv b)) else none) = _
  rw [if_pos (by omega), Int.fdiv_eq_ediv_of_nonneg _ (by omega)]
theorem p_mul (a b : Int) (h : a.natAbs < 2 ^ 400000) (h2 : b.natAbs < 2 ^ 400000) : primF .mul [.int a, .int b] = some (.int (a * b)) := by
  show (if a.natAbs.log2 + b.natAbs.log2 < 1000000 then some (D.int (a * b)) else none) = _
  have l : ∀ n : Nat, n < 2 ^ 400000 → n.log2 < 400001 := fun n hn => by
    rcases Nat.eq_zero_or_pos n with rfl | z
    · decide
    · exact Nat.lt_succ_of_lt ((Nat.log2_lt (by omega)).mpr hn)
  have := l _ h
  have := l _ h2
  rw [if_pos (by omega)]
end
@[simp] theorem z_0 : 0 ≤ big := by decide
@[simp] theorem z_1 : 1 ≤ big := by decide
@[simp] theorem z_2 : 2 ≤ big := by decide
@[simp] theorem z_3 : 3 ≤ big := by decide
@[simp] theorem z_4 : 4 ≤ big := by decide
@[simp] theorem s_tup (ds) : seqItems (.tup ds) = some ds := id rfl
@[simp] theorem s_frz (ds) : seqItems (.frz ds) = some ds := id rfl
@[simp] theorem s_own (ds) : seqItems (.own ds) = some ds := id rfl
theorem atI_nat {ds : List D} {i : Nat} {d : D} (h : ds[i]? = some d) : L2.atI ds (i : Int) = some d := by
  have hlt : i < ds.length := by
    rcases Nat.lt_or_ge i ds.length with z | z
    · exact z
    · rw [List.getElem?_eq_none z] at h; cases h
  simp only [L2.atI, L2.ixN]
  rw [if_pos (by omega), if_pos (by omega)]
  simpa using h
/-- a call whose answer is known -/
theorem wp_ans {fns : List Fn} {W n f : Nat} {ds : List D} {en : Env} {s : Sto} {Q : D → Env → Sto → Prop} {P : D → Sto → Prop} (h : ans fns W n f ds s P) (k : ∀ d s', P d s' → Q d en s') : callQ (run fns W n f ds s) (fun d s => Q d en s) := by
  unfold ans at h
  cases e : run fns W n f ds s with
  | ok d s' => rw [e] at h; exact k d s' h
  | exc x s' => rw [e] at h; exact h.elim
  | stuck => rw [e] at h; exact h.elim
theorem callQ_ans {fns : List Fn} {W n f : Nat} {ds : List D} {s : Sto} {K : D → Sto → Prop} {P : D → Sto → Prop} (h : ans fns W n f ds s P) (k : ∀ d s', P d s' → K d s') : callQ (run fns W n f ds s) K := by
  unfold ans at h
  cases e : run fns W n f ds s with
  | ok d s' => rw [e] at h; exact k d s' h
  | exc x s' => rw [e] at h; exact h.elim
  | stuck => rw [e] at h; exact h.elim
/-- a call's one answer -/
theorem ans_eq {fns : List Fn} {W n f : Nat} {ds : List D} {s : Sto} {d : D} (h : ans fns W n f ds s fun r s' => r = d ∧ s' = s) : run fns W n f ds s = .ok d s := by
  unfold ans at h
  cases e : run fns W n f ds s with
  | ok r s' => rw [e] at h; obtain ⟨rfl, rfl⟩ := h; rfl
  | exc x s' => rw [e] at h; exact h.elim
  | stuck => rw [e] at h; exact h.elim
end Mi
end
section
set_option Elab.async false
set_option maxRecDepth 100000
set_option linter.all false
namespace Mi
open PySem
/-! ### small data: leaves short, at most so deep; and how much it weighs -/
def leafOk : D → Bool
  | .non => true
  | .bl _ => true
  | .int i => decide (i.natAbs < 10 ^ 12)
  | .str x => x.cps.toList.all (fun c => decide (c < 16 ^ 8)) && decide (x.cps.size ≤ 1000)
  | _ => false
def fine : Nat → D → Bool
  | h + 1, .tup ds => ds.all (fine h)
  | h + 1, .frz ds => ds.all (fine h)
  | _, d => leafOk d
mutual
def wt : D → Nat
  | .str x => x.cps.size + 1
  | .int _ => 41
  | .tup ds => wts ds + 1
  | .frz ds => wts ds + 1
  | .own ds => wts ds + 1
  | _ => 1
def wts : List D → Nat
  | [] => 0
  | d :: ds => wt d + wts ds
end
theorem wt_pos (d : D) : 1 ≤ wt d := by cases d <;> simp [wt]
theorem wts_append (a b : List D) : wts (a ++ b) = wts a + wts b := by
  induction a with
  | nil => simp [wts]
  | cons x a ih => simp only [List.cons_append, wts, ih]; omega
theorem wts_take (n : Nat) : ∀ a : List D, wts (a.take n) ≤ wts a := by
  induction n with
  | zero => intro a; simp [wts]
  | succ n ih =>
    intro a
    cases a with
    | nil => simp [wts]
    | cons x a => have := ih a; simp only [List.take_succ_cons, wts]; omega
theorem wts_drop (n : Nat) : ∀ a : List D, wts (a.drop n) ≤ wts a := by
  induction n with
  | zero => intro a; simp
  | succ n ih =>
    intro a
    cases a with
    | nil => simp
    | cons x a => have := ih a; simp only [List.drop_succ_cons, wts]; omega
theorem wt_mem {d : D} : ∀ {a : List D}, d ∈ a → wt d ≤ wts a
  | x :: a, h => by
    rcases List.mem_cons.mp h with rfl | h
    · simp only [wts]; omega
    · have := wt_mem h; simp only [wts]; omega
theorem len_wts : ∀ a : List D, a.length ≤ wts a
  | [] => Nat.zero_le _
  | x :: a => by have := len_wts a; have := wt_pos x; simp only [wts, List.length_cons]; omega
theorem wts_set : ∀ (a : List D) (i : Nat) (d : D), wts (a.set i d) ≤ wts a + wt d
  | [], _, _ => by simp [wts]
  | x :: a, 0, d => by simp only [List.set_cons_zero, wts]; omega
  | x :: a, i + 1, d => by have := wts_set a i d; simp only [List.set_cons_succ, wts]; omega
theorem wts_erase : ∀ (a : List D) (i : Nat), wts (a.eraseIdx i) ≤ wts a
  | [], _ => by simp [wts]
  | x :: a, 0 => by simp only [List.eraseIdx_cons_zero, wts]; omega
  | x :: a, i + 1 => by have := wts_erase a i; simp only [List.eraseIdx_cons_succ, wts]; omega
theorem fine_leaf {d : D} (h : leafOk d = true) : ∀ n, fine n d = true
  | 0 => by cases d <;> first | exact h | cases h
  | n + 1 => by cases d <;> first | exact h | cases h
theorem fine_succ : ∀ {n : Nat} {d : D}, fine n d = true → fine (n + 1) d = true
  | 0, d, h => by cases d <;> first | exact h | (exact absurd h (by simp [fine, leafOk]))
  | n + 1, d, h => by
    cases d with
    | tup ds =>
      simp only [fine, List.all_eq_true] at h ⊢
      exact fun x hx => fine_succ (h x hx)
    | frz ds =>
      simp only [fine, List.all_eq_true] at h ⊢
      exact fun x hx => fine_succ (h x hx)
    | _ => exact h
theorem fine_le {n m : Nat} {d : D} (h : fine n d = true) (hm : n ≤ m) : fine m d = true := by
  induction hm with
  | refl => exact h
  | step _ ih => exact fine_succ ih
theorem fine_tup {n : Nat} {ds : List D} : fine (n + 1) (.tup ds) = true ↔ ∀ d ∈ ds, fine n d = true := by simp [fine]
theorem fine_frz {n : Nat} {ds : List D} : fine (n + 1) (.frz ds) = true ↔ ∀ d ∈ ds, fine n d = true := by simp [fine]
theorem plains_of {ds : List D} (h : ∀ d ∈ ds, D.plain d = true) : D.plains ds = true := by
  induction ds with
  | nil => rfl
  | cons d ds ih => simp only [D.plains, Bool.and_eq_true]; exact ⟨h _ (List.mem_cons_self ..), ih fun x hx => h x (List.mem_cons_of_mem _ hx)⟩
theorem fine_plain : ∀ {n : Nat} {d : D}, fine n d = true → D.plain d = true
  | 0, d, h => by cases d <;> first | rfl | (exact absurd h (by simp [fine, leafOk]))
  | n + 1, d, h => by
    cases d with
    | tup ds => exact plains_of fun x hx => fine_plain (fine_tup.mp h x hx)
    | frz ds => exact plains_of fun x hx => fine_plain (fine_frz.mp h x hx)
    | own ds => exact absurd h (by simp [fine, leafOk])
    | ref n => exact absurd h (by simp [fine, leafOk])
    | _ => rfl
theorem pys_depth {n : Nat} : ∀ {ds : List D}, (∀ d ∈ ds, d.py.depth ≤ n) → PyData.depthAll (D.pys ds) ≤ n
  | [], _ => by simp [D.pys, PyData.depthAll]
  | d :: ds, h => by
    simp only [D.pys, PyData.depthAll]
    exact Nat.max_le.mpr ⟨h d (List.mem_cons_self ..), pys_depth fun x hx => h x (List.mem_cons_of_mem _ hx)⟩
theorem fine_depth : ∀ {n : Nat} {d : D}, fine n d = true → d.py.depth ≤ n
  | 0, d, h => by cases d <;> first | (simp [D.py, PyData.depth]; done) | (exact absurd h (by simp [fine, leafOk]))
  | n + 1, d, h => by
    cases d with
    | tup ds => simp only [D.py, PyData.depth]; have := pys_depth (n := n) (ds := ds) fun x hx => fine_depth (fine_tup.mp h x hx); omega
    | frz ds => simp only [D.py, PyData.depth]; have := pys_depth (n := n) (ds := ds) fun x hx => fine_depth (fine_frz.mp h x hx); omega
    | own ds => exact absurd h (by simp [fine, leafOk])
    | _ => simp [D.py, PyData.depth]
theorem pys_show : ∀ {ds : List D}, (∀ d ∈ ds, d.py.showable = true) → PyData.showableAll (D.pys ds) = true
  | [], _ => by simp [D.pys, PyData.showableAll]
  | d :: ds, h => by
    simp only [D.pys, PyData.showableAll, Bool.and_eq_true]
    exact ⟨h d (List.mem_cons_self ..), pys_show fun x hx => h x (List.mem_cons_of_mem _ hx)⟩
theorem leaf_int {i : Int} (h : i.natAbs < 10 ^ 12) : i.natAbs.log2 < 1920 := by
  have h2 : i.natAbs < 2 ^ 40 := by omega
  rcases Nat.eq_zero_or_pos i.natAbs with z | z
  · rw [z]; decide
  · have : i.natAbs.log2 < 40 := (Nat.log2_lt (by omega)).mpr h2
    omega
theorem leaf_show {d : D} (h : leafOk d = true) : d.py.showable = true := by
  cases d with
  | int i => simp only [leafOk, decide_eq_true_eq] at h; simp only [D.py, PyData.showable, decide_eq_true_eq]; exact leaf_int h
  | _ => first | rfl | cases h
theorem fine_show : ∀ {n : Nat} {d : D}, fine n d = true → d.py.showable = true
  | 0, d, h => by cases d <;> first | exact leaf_show h | (exact absurd h (by simp [fine, leafOk]))
  | n + 1, d, h => by
    cases d with
    | tup ds => exact pys_show fun x hx => fine_show (fine_tup.mp h x hx)
    | frz ds => exact pys_show fun x hx => fine_show (fine_frz.mp h x hx)
    | own ds => exact absurd h (by simp [fine, leafOk])
    | ref n => exact absurd h (by simp [fine, leafOk])
    | _ => exact leaf_show h
theorem pys_short : ∀ {ds : List D}, (∀ d ∈ ds, d.py.leavesShort 13 = true) → PyData.leavesShortAll 13 (D.pys ds) = true
  | [], _ => by simp [D.pys, PyData.leavesShortAll]
  | d :: ds, h => by
    simp only [D.pys, PyData.leavesShortAll, Bool.and_eq_true]
    exact ⟨h d (List.mem_cons_self ..), pys_short fun x hx => h x (List.mem_cons_of_mem _ hx)⟩
theorem leaf_short {d : D} (h : leafOk d = true) : d.py.leavesShort 13 = true := by
  cases d with
  | int i => simp only [leafOk, decide_eq_true_eq] at h; simp only [D.py, PyData.leavesShort, decide_eq_true_eq]; exact PyData.shown_int_le h
  | str x => simp only [leafOk, Bool.and_eq_true] at h; simp only [D.py, PyData.leavesShort]; exact h.1
  | _ => first | rfl | cases h
theorem fine_short : ∀ {n : Nat} {d : D}, fine n d = true → d.py.leavesShort 13 = true
  | 0, d, h => by cases d <;> first | exact leaf_short h | (exact absurd h (by simp [fine, leafOk]))
  | n + 1, d, h => by
    cases d with
    | tup ds => simp only [D.py, PyData.leavesShort]; exact pys_short fun x hx => fine_short (fine_tup.mp h x hx)
    | frz ds => simp only [D.py, PyData.leavesShort]; exact pys_short fun x hx => fine_short (fine_frz.mp h x hx)
    | own ds => exact absurd h (by simp [fine, leafOk])
    | ref n => exact absurd h (by simp [fine, leafOk])
    | _ => exact leaf_short h
theorem pys_wt : ∀ {ds : List D}, (∀ d ∈ ds, d.py.weight + 1 ≤ wt d) → PyData.weightAll (D.pys ds) ≤ wts ds
  | [], _ => by simp [D.pys, PyData.weightAll]
  | d :: ds, h => by
    simp only [D.pys, PyData.weightAll, wts]
    have := h d (List.mem_cons_self ..)
    have := pys_wt fun x hx => h x (List.mem_cons_of_mem _ hx)
    omega
theorem leaf_wt {d : D} (h : leafOk d = true) : d.py.weight + 1 ≤ wt d := by
  cases d with
  | int i =>
    simp only [leafOk, decide_eq_true_eq] at h
    simp only [D.py, PyData.weight, wt]
    split
    · omega
    · rename_i z
      have z : i ≠ 0 := by simpa using z
      have : i.natAbs.log2 < 40 := (Nat.log2_lt (by omega)).mpr (by omega)
      omega
  | str x => simp [D.py, PyData.weight, wt]
  | non => simp [D.py, PyData.weight, wt]
  | bl => simp [D.py, PyData.weight, wt]
  | _ => cases h
theorem fine_wt : ∀ {n : Nat} {d : D}, fine n d = true → d.py.weight + 1 ≤ wt d
  | 0, d, h => by cases d <;> first | exact leaf_wt h | (exact absurd h (by simp [fine, leafOk]))
  | n + 1, d, h => by
    cases d with
    | tup ds => simp only [D.py, PyData.weight, wt]; have := pys_wt (ds := ds) fun x hx => fine_wt (fine_tup.mp h x hx); omega
    | frz ds => simp only [D.py, PyData.weight, wt]; have := pys_wt (ds := ds) fun x hx => fine_wt (fine_frz.mp h x hx); omega
    | own ds => exact absurd h (by simp [fine, leafOk])
    | ref n => exact absurd h (by simp [fine, leafOk])
    | _ => exact leaf_wt h
theorem fine_pStr {n : Nat} {d : D} (h : fine n d = true) (hn : n ≤ 60) (hw : wt d ≤ 1000000) : ∃ x, pStr d = some (.str x) := by
  have h1 := fine_plain h
  have h2 := fine_show h
  have h3 := fine_depth h
  have h4 := fine_short h
  have h5 := fine_wt h
  have h6 := PyData.shown_le 13 (by decide) d.py h4
  have hl : d.py.shown.length ≤ big := by
    have : big = 16777216 := rfl
    omega
  have hd : d.py.depth ≤ 60 := Nat.le_trans h3 hn
  cases d with
  | str x => exact ⟨x, rfl⟩
  | _ => exact ⟨_, by simp only [pStr]; rw [if_pos (by simp only [h1, h2, hd, hl, Bool.and_self, decide_true])]⟩
theorem fine_cmp {n : Nat} {a b : D} (ha : fine n a = true) (hb : D.plain b = true) (hn : n ≤ 60) : cmpOk a b = true := by
  simp only [cmpOk, Bool.and_eq_true, decide_eq_true_eq]
  exact ⟨⟨fine_plain ha, hb⟩, Nat.le_trans (Nat.min_le_left _ _) (Nat.le_trans (fine_depth ha) hn)⟩
theorem eqv_s (a b : Str) : D.eqv (.str a) (.str b) = (a == b) := by
  show PyData.eqv (.str a) (.str b) = _
  simp [PyData.eqv]
@[simp] theorem p_eqS (a b : Str) : primF .eq [.str a, .str b] = some (.bl (a == b)) := by rw [p_eq _ _ rfl, eqv_s]
@[simp] theorem p_neS (a b : Str) : primF .ne [.str a, .str b] = some (.bl (!(a == b))) := by rw [p_ne _ _ rfl, eqv_s]
theorem enum_get (ds : List D) (i : Nat) : (enumD 0 ds)[i]? = ds[i]?.map fun d => .tup [.int i, d] := by
  have go : ∀ (ds : List D) (k i : Nat), (enumD k ds)[i]? = ds[i]?.map fun d => .tup [.int ((k + i : Nat) : Int), d] := by
    intro ds
    induction ds with
    | nil => intro k i; simp [enumD]
    | cons d ds ih =>
      intro k i
      cases i with
      | zero => simp [enumD]
      | succ i =>
        simp only [enumD, List.getElem?_cons_succ, ih (k + 1) i]
        rw [Nat.add_right_comm k 1 i, Nat.add_assoc k i 1]
  simpa using go ds 0 i
theorem enum_len (ds : List D) : (enumD 0 ds).length = ds.length := by
  have go : ∀ (ds : List D) (k : Nat), (enumD k ds).length = ds.length := by
    intro ds
    induction ds with
    | nil => intro k; rfl
    | cons d ds ih => intro k; simp [enumD, ih]
  exact go ds 0
theorem get_lt {α : Type} {ds : List α} {i : Nat} {d : α} (h : ds[i]? = some d) : i < ds.length := by
  rcases Nat.lt_or_ge i ds.length with z | z
  · exact z
  · rw [List.getElem?_eq_none z] at h; cases h
theorem drop_get {α : Type} {ds : List α} {i : Nat} {d : α} (h : ds[i]? = some d) : ds.drop i = d :: ds.drop (i + 1) := by
  have hlt := get_lt h
  rw [List.drop_eq_getElem_cons hlt]
  rw [List.getElem?_eq_getElem hlt] at h
  rw [Option.some.inj h]
theorem sIx_nat (n d i : Nat) : HT.sIx n d (some (i : Int)) = min i n := by
  simp only [HT.sIx]
  rw [if_neg (by omega)]
  simp
theorem sIx_none (n d : Nat) : HT.sIx n d none = d := rfl
theorem cut_take (ds : List D) (i : Nat) : cutD ds none (some (i : Int)) = ds.take i := by
  simp only [cutD, sIx_none, sIx_nat, List.drop_zero, Nat.sub_zero]
  rcases Nat.le_total i ds.length with h | h
  · rw [Nat.min_eq_left h]
  · rw [Nat.min_eq_right h, List.take_length, List.take_of_length_le h]
theorem cut_drop (ds : List D) (i : Nat) : cutD ds (some (i : Int)) none = ds.drop i := by
  simp only [cutD, sIx_none, sIx_nat]
  rcases Nat.le_total i ds.length with h | h
  · rw [Nat.min_eq_left h, List.take_of_length_le (by simp)]
  · rw [Nat.min_eq_right h]; simp [List.drop_of_length_le h]
theorem slc_take_t (ds : List D) (i : Nat) : primF (.slc false true) [.tup ds, .int i] = some (.tup (ds.take i)) := by
  rw [← cut_take]; rfl
theorem slc_take_f (ds : List D) (i : Nat) : primF (.slc false true) [.frz ds, .int i] = some (.own (ds.take i)) := by
  rw [← cut_take]; rfl
theorem slc_take_o (ds : List D) (i : Nat) : primF (.slc false true) [.own ds, .int i] = some (.own (ds.take i)) := by
  rw [← cut_take]; rfl
theorem slc_drop_t (ds : List D) (i : Nat) : primF (.slc true false) [.tup ds, .int i] = some (.tup (ds.drop i)) := by
  rw [← cut_drop]; rfl
theorem slc_drop_f (ds : List D) (i : Nat) : primF (.slc true false) [.frz ds, .int i] = some (.own (ds.drop i)) := by
  rw [← cut_drop]; rfl
theorem slc_drop_o (ds : List D) (i : Nat) : primF (.slc true false) [.own ds, .int i] = some (.own (ds.drop i)) := by
  rw [← cut_drop]; rfl
theorem fine_val {n : Nat} {d : D} (h : fine n d = true) : val d = true := by
  cases d with
  | own ds => cases n <;> exact absurd h (by simp [fine, leafOk])
  | ref k => cases n <;> exact absurd h (by simp [fine, leafOk])
  | _ => rfl
/-- a comprehension that changes nothing -/
theorem wp_lcP {own : List Nat} {bd : D → M Unit} {test : M Bool} {elt : M D} {Q : List D → Env → Sto → Prop} {ds : List D} {en : Env} {s : Sto} (p : D → Bool) (f : D → D) (hz : ds.length ≤ big)
    (step : ∀ d ∈ ds, wp (bd d) en s fun _ en1 s1 => wp test en1 s1 fun b en2 s2 => b = p d ∧ s2 = s ∧ (p d = true → wp elt en2 s2 fun y en3 s3 => y.hard = f d ∧ wipeE own en3 = en ∧ s3 = s) ∧ (p d = false → wipeE own en2 = en))
    (fin : Q ((ds.filter p).map f) en s) : wp (lcL own bd test elt ds []) en s Q := by
  refine wp_lc (fun i acc en' s' => acc = ((ds.take i).filter p).map f ∧ en' = en ∧ s' = s) ⟨rfl, rfl, rfl⟩ hz ?_ ?_ ?_
  · rintro i acc en' s' ⟨rfl, _, _⟩
    rw [List.length_map]
    exact Nat.le_trans (List.length_filter_le _ _) (by rw [List.length_take]; exact Nat.min_le_left _ _)
  · rintro i d acc en' s' hd ⟨rfl, rfl, rfl⟩
    have ht : ds.take (i + 1) = ds.take i ++ [d] := by rw [List.take_succ, hd]; rfl
    refine wp_mono (step d (List.mem_of_getElem? hd)) fun _ en1 s1 h1 => wp_mono h1 fun b en2 s2 h2 => ?_
    obtain ⟨rfl, rfl, h3, h4⟩ := h2
    cases hp : p d with
    | false => exact ⟨by rw [ht]; simp [hp], h4 hp, rfl⟩
    | true =>
      refine wp_mono (h3 hp) fun y en3 s3 h5 => ?_
      obtain ⟨e1, e2, rfl⟩ := h5
      exact ⟨by rw [ht]; simp [hp, e1], e2, rfl⟩
  · rintro acc en' s' ⟨rfl, rfl, rfl⟩
    rw [List.take_length]
    exact fin
/-- the first of a list at which something is found -/
def firstW (w : Nat → D → Option D) : Nat → List D → Option D
  | _, [] => none
  | k, d :: r => match w k d with
    | some x => some x
    | none => firstW w (k + 1) r
/-- a loop over enumerate that ends with the first that isn't so -/
theorem wp_first {bd : D → M Unit} {body : M Flow} {en : Env} {s : Sto} {Q : Flow → Env → Sto → Prop} {ds : List D} (w : Nat → D → Option D) (I : Env → Sto → Prop) (h0 : I en s)
    (step : ∀ i d en s, ds[i]? = some d → I en s → (∀ j d', j < i → ds[j]? = some d' → w j d' = none) → wp (bd (.tup [.int i, d])) en s fun _ en s => wp body en s fun f en s => match w i d with
      | none => (f = .next ∨ f = .cont) ∧ I en s
      | some r => f = .ret r ∧ I en s)
    (fin : ∀ en s, I en s → match firstW w 0 ds with
      | none => Q .next en s
      | some r => Q (.ret r) en s) : wp (forL bd body (enumD 0 ds)) en s Q := by
  refine wp_for (fun i en s => I en s ∧ firstW w 0 ds = firstW w i (ds.drop i) ∧ ∀ j d', j < i → ds[j]? = some d' → w j d' = none) ⟨h0, rfl, fun j _ hj => absurd hj (Nat.not_lt_zero j)⟩ ?_ ?_
  · rintro i d0 en s he ⟨hi, hf, hp⟩
    rw [enum_get] at he
    obtain ⟨d, hd, rfl⟩ : ∃ d, ds[i]? = some d ∧ .tup [.int i, d] = d0 := by
      cases h : ds[i]? with
      | none => rw [h] at he; cases he
      | some d => rw [h] at he; exact ⟨d, rfl, Option.some.inj he⟩
    rw [drop_get hd] at hf
    refine wp_mono (step i d en s hd hi hp) fun _ en1 s1 h1 => wp_mono h1 fun f en2 s2 h2 => ?_
    cases hw : w i d with
    | none =>
      rw [hw] at h2
      have e : firstW w 0 ds = firstW w (i + 1) (ds.drop (i + 1)) := by rw [hf]; simp only [firstW, hw]
      have hp' : ∀ j d', j < i + 1 → ds[j]? = some d' → w j d' = none := by
        intro j d' hj hd'
        rcases Nat.lt_succ_iff_lt_or_eq.mp hj with z | rfl
        · exact hp j d' z hd'
        · rw [hd] at hd'; cases hd'; exact hw
      rcases h2 with ⟨rfl | rfl, h2⟩ <;> exact ⟨h2, e, hp'⟩
    | some r =>
      rw [hw] at h2
      obtain ⟨rfl, h2⟩ := h2
      have := fin en2 s2 h2
      rw [hf] at this
      show Q (.ret r) en2 s2
      simpa only [firstW, hw] using this
  · rintro en s ⟨hi, hf, hp⟩
    rw [enum_len, List.drop_length] at hf
    have := fin en s hi
    rw [hf] at this
    exact this
end Mi
end
section
set_option Elab.async false
set_option maxRecDepth 100000
set_option linter.all false
namespace Mi
open PySem
/-! ### the purse of the laws k01 .. k13: what is drawn of it stays in its bounds -/
theorem ans_run {fns : List Fn} {W n f : Nat} {ds : List D} {s : Sto} {Q : D → Sto → Prop} (h : ans fns W n f ds s Q) : ∃ d s', run fns W n f ds s = .ok d s' ∧ Q d s' := by
  unfold ans at h
  cases e : run fns W n f ds s with
  | ok d s' => rw [e] at h; exact ⟨d, s', rfl, h⟩
  | exc x s' => rw [e] at h; exact h.elim
  | stuck => rw [e] at h; exact h.elim
theorem p_mul2 (a b : Int) (h : a.natAbs < 2 ^ 250) (h2 : b.natAbs < 2 ^ 250) : primF .mul [.int a, .int b] = some (.int (a * b)) := by
  show (if a.natAbs.log2 + b.natAbs.log2 < 1000000 then some (D.int (a * b)) else none) = _
  have l : ∀ n : Nat, n < 2 ^ 250 → n.log2 < 251 := fun n hn => by
    rcases Nat.eq_zero_or_pos n with rfl | z
    · decide
    · exact Nat.lt_succ_of_lt ((Nat.log2_lt (by omega)).mpr hn)
  have := l _ h
  have := l _ h2
  rw [if_pos (by omega)]
theorem pow18 : primF .pow [.int 10, .int 18] = some (.int (10 ^ 18)) := by rfl
theorem pow60 : primF .pow [.int 10, .int 60] = some (.int (10 ^ 60)) := by rfl
theorem pow600 : ∃ z : Int, 0 < z ∧ primF .pow [.int 1000000000000000000000000000000000000000000000000000000000000, .int 10] = some (.int z) := ⟨_, by decide, rfl⟩
def fMixed : Fn := ⟨2, 3, [.asg (.nm 2) (.prim .add [(.prim .add [(.prim .mul [(.prim .add [(.prim .mod [(.v 0), (.prim .add [(.prim .pow [(.k (.int 10)), (.k (.int 18))]), (.k (.int 9))])]), (.prim .mul [(.k (.int 7)), (.v 1)])]), (.k (.int 739108512309184756019283746561))]), (.prim .mul [(.k (.int 7919)), (.v 1)])]), (.k (.int 1))]), .asg (.nm 2) (.prim .mod [(.prim .mul [(.v 2), (.v 2)]), (.prim .add [(.prim .pow [(.k (.int 10)), (.k (.int 60))]), (.k (.int 7))])]), .ret (.prim .mod [(.prim .mul [(.prim .add [(.v 2), (.k (.int 40503))]), (.prim .add [(.v 2), (.k (.int 57))])]), (.prim .add [(.prim .pow [(.k (.int 10)), (.k (.int 60))]), (.k (.int 7))])])]⟩
theorem mixed_ {fns : List Fn} {i : Nat} (h : fns[i]? = some fMixed) (W n : Nat) (c k : Int) (s : Sto) (h0 : 0 ≤ k) (h1 : k < 2 ^ 100) : ∃ r, run fns W (n + 1) i [.int c, .int k] s = .ok (.int r) s ∧ 0 ≤ r ∧ r < 1000000000000000000000000000000000000000000000000000000000007 := by
  have key : ans fns W (n + 1) i [.int c, .int k] s fun d s' => s' = s ∧ ∃ r, d = .int r ∧ 0 ≤ r ∧ r < 1000000000000000000000000000000000000000000000000000000000007 := by
    refine ans_of h rfl ?_
    have a0 : 0 ≤ c % 1000000000000000009 := Int.emod_nonneg _ (by decide)
    have a1 : c % 1000000000000000009 < 1000000000000000009 := Int.emod_lt_of_pos _ (by decide)
    have e1 := p_mod c 1000000000000000009 (by decide)
    have e2 := p_mul2 7 k (by decide) (by omega)
    have e4 := p_mul2 7919 k (by decide) (by omega)
    generalize hx : c % 1000000000000000009 = x at *
    have e3 := p_mul2 (x + 7 * k) 739108512309184756019283746561 (by omega) (by decide)
    generalize hy : (x + 7 * k) * 739108512309184756019283746561 + 7919 * k + 1 = y at *
    have hy2 : y.natAbs < 2 ^ 250 := by omega
    have e5 := p_mul2 y y hy2 hy2
    have e6 := p_mod (y * y) 1000000000000000000000000000000000000000000000000000000000007 (by decide)
    have z0 : 0 ≤ y * y % 1000000000000000000000000000000000000000000000000000000000007 := Int.emod_nonneg _ (by decide)
    have z1 : y * y % 1000000000000000000000000000000000000000000000000000000000007 < 1000000000000000000000000000000000000000000000000000000000007 := Int.emod_lt_of_pos _ (by decide)
    generalize hz : y * y % 1000000000000000000000000000000000000000000000000000000000007 = z at *
    have e7 := p_mul2 (z + 40503) (z + 57) (by omega) (by omega)
    have e8 := p_mod ((z + 40503) * (z + 57)) 1000000000000000000000000000000000000000000000000000000000007 (by decide)
    have w0 : 0 ≤ (z + 40503) * (z + 57) % 1000000000000000000000000000000000000000000000000000000000007 := Int.emod_nonneg _ (by decide)
    have w1 : (z + 40503) * (z + 57) % 1000000000000000000000000000000000000000000000000000000000007 < 1000000000000000000000000000000000000000000000000000000000007 := Int.emod_lt_of_pos _ (by decide)
    simp [fMixed, pow18, pow60, e1, e2, e3, e4, e5, e6, e7, e8, hy, w0, w1]
  obtain ⟨d, s', e, rfl, r, rfl, hr⟩ := ans_run key
  exact ⟨r, e, hr⟩
/-- a purse's numbers, N takes behind its making at most -/
def PV (N : Nat) (v : List D) : Prop := ∃ a b c : Int, v = [.int a, .int b, .int c] ∧ 0 ≤ a ∧ 0 ≤ b ∧ b ≤ N ∧ 0 ≤ c
def Pu (p N : Nat) (s : Sto) : Prop := ∃ v, s[p]? = some (.lst v) ∧ PV N v
/-- from one store to the next, but for a purse -/
def St (p N : Nat) (s s' : Sto) : Prop := ∃ v, s' = s.set p (.lst v) ∧ PV N v ∧ p < s.length
theorem St.pu {p N : Nat} {s s' : Sto} (h : St p N s s') : Pu p N s' := by
  obtain ⟨v, rfl, hv, hp⟩ := h
  exact ⟨v, by simp [hp], hv⟩
theorem St.trans {p N M : Nat} {a b c : Sto} (h : St p N a b) (k : St p M b c) : St p M a c := by
  obtain ⟨v, rfl, hv, hp⟩ := h
  obtain ⟨w, rfl, hw, _⟩ := k
  exact ⟨w, by rw [List.set_set], hw, hp⟩
theorem St.len {p N : Nat} {s s' : Sto} (h : St p N s s') : s'.length = s.length := by
  obtain ⟨v, rfl, hv, hp⟩ := h
  simp
theorem Pu.lt {p N : Nat} {s : Sto} (h : Pu p N s) : p < s.length := by
  obtain ⟨v, h, _⟩ := h
  exact get_lt h
theorem PV.mono {N M : Nat} {v : List D} (h : PV N v) (k : N ≤ M) : PV M v := by
  obtain ⟨a, b, c, rfl, h0, h1, h2, h3⟩ := h
  exact ⟨a, b, c, rfl, h0, h1, by omega, h3⟩
theorem Pu.mono {p N M : Nat} {s : Sto} (h : Pu p N s) (k : N ≤ M) : Pu p M s := by
  obtain ⟨v, h, hv⟩ := h
  exact ⟨v, h, hv.mono k⟩
theorem St.mono {p N M : Nat} {s s' : Sto} (h : St p N s s') (k : N ≤ M) : St p M s s' := by
  obtain ⟨v, h, hv, hp⟩ := h
  exact ⟨v, h, hv.mono k, hp⟩
theorem St.refl {p N : Nat} {s : Sto} (h : Pu p N s) : St p N s s := by
  have hp := h.lt
  obtain ⟨v, h, hv⟩ := h
  refine ⟨v, ?_, hv, hp⟩
  rw [List.getElem?_eq_getElem hp] at h
  rw [← Option.some.inj h, List.set_getElem_self]
theorem deref_set {s : Sto} {p : Nat} {v : List D} (h : p < s.length) : derefD (s.set p (.lst v)) (.ref p) = .own v := deref_ref (by simp [h])
@[simp] theorem mu_set0 (x y z d : D) : muF .set [x, y, z] [.int 0, d] = some ([d, y, z], .non) := id rfl
@[simp] theorem mu_set1 (x y z d : D) : muF .set [x, y, z] [.int 1, d] = some ([x, d, z], .non) := id rfl
@[simp] theorem at0 (a : D) (r) : L2.atI (a :: r) 0 = some a := atI_nat (i := 0) rfl
@[simp] theorem at1 (a b : D) (r) : L2.atI (a :: b :: r) 1 = some b := atI_nat (i := 1) rfl
@[simp] theorem at2 (a b c : D) (r) : L2.atI (a :: b :: c :: r) 2 = some c := atI_nat (i := 2) rfl
def fTake (mixed : Nat) : Fn := ⟨2, 3, [.ite (.prim .lt [(.prim .idx [(.v 0), (.k (.int 0))]), (.v 1)]) [.asg (.sub (.v 0) (.k (.int 1))) (.prim .add [(.prim .idx [(.v 0), (.k (.int 1))]), (.k (.int 1))]), .asg (.sub (.v 0) (.k (.int 0))) (.prim .add [(.prim .idx [(.v 0), (.k (.int 0))]), (.prim .mul [(.v 1), (.call mixed [(.prim .idx [(.v 0), (.k (.int 2))]), (.prim .add [(.prim .mul [(.k (.int 11)), (.prim .idx [(.v 0), (.k (.int 1))])]), (.k (.int 5))])])])])] [], .asg (.nm 2) (.prim .mod [(.prim .idx [(.v 0), (.k (.int 0))]), (.v 1)]), .asg (.sub (.v 0) (.k (.int 0))) (.prim .fdiv [(.prim .idx [(.v 0), (.k (.int 0))]), (.v 1)]), .ret (.mv 2)]⟩
theorem take_ {fns : List Fn} {i j : Nat} (hi : fns[i]? = some (fTake j)) (hj : fns[j]? = some fMixed) (W n p N : Nat) (far : Int) (s : Sto) (h : Pu p N s) (hN : N < 2 ^ 90) (h1 : 1 ≤ far) (h2 : far < 1000000) :
    ∃ g s', run fns W (n + 2) i [.ref p, .int far] s = .ok (.int g) s' ∧ 0 ≤ g ∧ g < far ∧ St p (N + 1) s s' := by
  have hp := h.lt
  obtain ⟨v, hv, a, b, c, rfl, ha, hb, hbN, hc⟩ := h
  have key : ans fns W (n + 2) i [.ref p, .int far] s fun d s' => ∃ g, d = .int g ∧ 0 ≤ g ∧ g < far ∧ St p (N + 1) s s' := by
    refine ans_of hi rfl ?_
    have d0 := deref_ref hv
    have d1 : ∀ v : List D, derefD (s.set p (.lst v)) (.ref p) = .own v := fun v => deref_set hp
    have d2 : ∀ v : List D, (s.set p (.lst v))[p]? = some (.lst v) := fun v => by simp [hp]
    by_cases hlt : a < far
    · have e1 := p_mul2 11 (b + 1) (by decide) (by omega)
      obtain ⟨r, e2, r0, r1⟩ := mixed_ hj W n c (11 * (b + 1) + 5) (s.set p (.lst [.int a, .int (b + 1), .int c])) (by omega) (by omega)
      have e3 := p_mul2 far r (by omega) (by omega)
      have m0 : 0 ≤ far * r := Int.mul_nonneg (by omega) r0
      generalize far * r = m at *
      have e4 := p_mod (a + m) far (by omega)
      have e5 := p_fdiv (a + m) far (by omega) (by omega)
      have g0 : 0 ≤ (a + m) % far := Int.emod_nonneg _ (by omega)
      have g1 : (a + m) % far < far := Int.emod_lt_of_pos _ (by omega)
      have q0 : 0 ≤ (a + m) / far := Int.ediv_nonneg (by omega) (by omega)
      simp [fTake, d0, d1, d2, hlt, hv, e1, e2, e3, e4, e5, g0, g1]
      exact ⟨_, rfl, ⟨_, _, _, rfl, q0, by omega, by omega, hc⟩, hp⟩
    · have e4 := p_mod a far (by omega)
      have e5 := p_fdiv a far (by omega) (by omega)
      have g0 : 0 ≤ a % far := Int.emod_nonneg _ (by omega)
      have g1 : a % far < far := Int.emod_lt_of_pos _ (by omega)
      have q0 : 0 ≤ a / far := Int.ediv_nonneg (by omega) (by omega)
      simp [fTake, d0, d1, d2, hlt, hv, e4, e5, g0, g1]
      exact ⟨_, rfl, ⟨_, _, _, rfl, q0, by omega, by omega, hc⟩, hp⟩
  obtain ⟨d, s', e, g, rfl, h3⟩ := ans_run key
  exact ⟨g, s', e, h3⟩
def fPurse (mixed : Nat) : Fn := ⟨2, 2, [.ite (.prim .ge [(.v 0), (.prim .pow [(.k (.int 10)), (.k (.int 18))])]) [.ret (.lst [(.prim .mod [(.prim .sub [(.v 0), (.prim .pow [(.k (.int 10)), (.k (.int 18))])]), (.prim .pow [(.prim .pow [(.k (.int 10)), (.k (.int 60))]), (.k (.int 10))])]), (.k (.int 0)), (.v 1)])] [], .ret (.lst [(.call mixed [(.v 0), (.v 1)]), (.k (.int 0)), (.prim .add [(.prim .mod [(.v 0), (.prim .add [(.prim .pow [(.k (.int 10)), (.k (.int 18))]), (.k (.int 9))])]), (.v 1)])])]⟩
theorem purse_ {fns : List Fn} {i j : Nat} (hi : fns[i]? = some (fPurse j)) (hj : fns[j]? = some fMixed) (W n : Nat) (c k : Int) (s : Sto) (h0 : 0 ≤ k) (h1 : k < 1000000) :
    ∃ v, run fns W (n + 2) i [.int c, .int k] s = .ok (.own v) s ∧ PV 0 v := by
  have key : ans fns W (n + 2) i [.int c, .int k] s fun d s' => s' = s ∧ ∃ v, d = .own v ∧ PV 0 v := by
    refine ans_of hi rfl ?_
    obtain ⟨z, hz, ez⟩ := pow600
    have e1 := p_mod (c - 1000000000000000000) z hz
    have a0 : 0 ≤ (c - 1000000000000000000) % z := Int.emod_nonneg _ (by omega)
    generalize (c - 1000000000000000000) % z = x at *
    obtain ⟨r, e2, r0, r1⟩ := mixed_ hj W n c k s h0 (by omega)
    have e3 := p_mod c 1000000000000000009 (by decide)
    have b0 : 0 ≤ c % 1000000000000000009 := Int.emod_nonneg _ (by decide)
    generalize c % 1000000000000000009 = y at *
    by_cases hc : 1000000000000000000 ≤ c
    · simp [fPurse, pow18, pow60, ez, e1, hc]
      exact ⟨_, _, _, rfl, a0, Int.le_refl _, Int.le_refl _, h0⟩
    · simp [fPurse, pow18, pow60, e2, e3, hc]
      exact ⟨_, _, _, rfl, r0, Int.le_refl _, Int.le_refl _, by omega⟩
  obtain ⟨d, s', e, rfl, v, rfl, hv⟩ := ans_run key
  exact ⟨v, e, hv⟩
def fAt : Fn := ⟨2, 2, [.ite (.prim .lt [(.v 1), (.prim .len [(.v 0)])]) [.ret (.prim .idx [(.v 0), (.v 1)])] [], .ret (.prim .add [(.prim .mul [(.k (.int 3)), (.v 1)]), (.k (.int 1))])]⟩
theorem at_ {fns : List Fn} {i : Nat} (hi : fns[i]? = some fAt) (W n : Nat) (ns : List Int) (k : Nat) (s : Sto) (h1 : k < 1000000) :
    ∃ c, run fns W (n + 1) i [.frz (ns.map D.int), .int k] s = .ok (.int c) s := by
  have key : ans fns W (n + 1) i [.frz (ns.map D.int), .int k] s fun d s' => s' = s ∧ ∃ c, d = .int c := by
    refine ans_of hi rfl ?_
    have e1 := p_mul2 3 k (by decide) (by omega)
    by_cases hk : k < ns.length
    · have hk' : (k : Int) < ns.length := by omega
      have e2 : L2.atI (ns.map D.int) (k : Int) = some (.int ns[k]) := atI_nat (by simp [hk])
      simp [fAt, hk', e2]
    · have hk' : ¬ (k : Int) < ns.length := by omega
      simp [fAt, hk', e1]
  obtain ⟨d, s', e, rfl, c, rfl⟩ := ans_run key
  exact ⟨c, e⟩
def fPick (take : Nat) : Fn := ⟨2, 2, [.ret (.prim .idx [(.v 1), (.call take [(.rf 0), (.prim .len [(.v 1)])])])]⟩
theorem pick_ {fns : List Fn} {h i j : Nat} (hh : fns[h]? = some (fPick i)) (hi : fns[i]? = some (fTake j)) (hj : fns[j]? = some fMixed) (W n p N : Nat) (xs : List D) (s : Sto) (hs : Pu p N s) (hN : N < 2 ^ 90) (h1 : xs ≠ []) (h2 : xs.length < 1000000) :
    ∃ x s', run fns W (n + 3) h [.ref p, .own xs] s = .ok x s' ∧ x ∈ xs ∧ St p (N + 1) s s' := by
  have hl : 1 ≤ xs.length := by cases xs with | nil => exact absurd rfl h1 | cons => simp
  have key : ans fns W (n + 3) h [.ref p, .own xs] s fun d s' => d ∈ xs ∧ St p (N + 1) s s' := by
    refine ans_of hh rfl ?_
    obtain ⟨g, s', e, g0, g1, hst⟩ := take_ hi hj W n p N xs.length s hs hN (by omega) (by omega)
    obtain ⟨k, rfl⟩ := Int.eq_ofNat_of_zero_le g0
    have hk : k < xs.length := by omega
    have e2 : L2.atI xs (k : Int) = some xs[k] := atI_nat (by simp [hk])
    simp [fPick, e, e2, hst]
  obtain ⟨d, s', e, hd, hst⟩ := ans_run key
  exact ⟨d, s', e, hd, hst⟩
def fSomeOf (take : Nat) : Fn := ⟨3, 4, [.ret (.lc [3] (.nm 3) (.seq (.v 1)) [(.prim .gt [(.call take [(.rf 0), (.v 2)]), (.k (.int 0))])] (.v 3))]⟩
theorem someOf_ {fns : List Fn} {h i j : Nat} (hh : fns[h]? = some (fSomeOf i)) (hi : fns[i]? = some (fTake j)) (hj : fns[j]? = some fMixed) (W n p N : Nat) (xs : List D) (far : Int) (s : Sto) (hs : Pu p N s) (hN : N + xs.length < 2 ^ 90) (h2 : xs.length < 1000000) (f1 : 1 ≤ far) (f2 : far < 1000000) (hv : ∀ x ∈ xs, val x = true) :
    ∃ ys s', run fns W (n + 3) h [.ref p, .own xs, .int far] s = .ok (.own ys) s' ∧ ys.Sublist xs ∧ St p (N + xs.length) s s' := by
  have key : ans fns W (n + 3) h [.ref p, .own xs, .int far] s fun d s' => ∃ ys, d = .own ys ∧ ys.Sublist xs ∧ St p (N + xs.length) s s' := by
    refine ans_of hh rfl ?_
    simp [fSomeOf]
    refine wp_lc (fun k acc en s' => en = [some (.ref p), some (.frz xs), some (.int far), none] ∧ acc.Sublist (xs.take k) ∧ St p (N + k) s s' ∧ k ≤ xs.length) ⟨rfl, by simp, St.refl hs, Nat.zero_le _⟩ (by have : big = 16777216 := rfl; omega) ?_ ?_ ?_
    · rintro k acc en s' ⟨rfl, hsub, hst, hk⟩
      exact Nat.le_trans hsub.length_le (by rw [List.length_take]; exact Nat.min_le_left _ _)
    · rintro k d acc en s' hd ⟨rfl, hsub, hst, hk⟩
      have hkl := get_lt hd
      have ht : xs.take (k + 1) = xs.take k ++ [d] := by rw [List.take_succ, hd]; rfl
      obtain ⟨g, s2, e, g0, g1, hst2⟩ := take_ hi hj W n p (N + k) far s' hst.pu (by omega) f1 f2
      have hvd := hv d (List.mem_of_getElem? hd)
      have st3 := hst.trans hst2
      by_cases hg : 0 < g
      · simp [e, hg, hvd, ht]
        exact ⟨hsub, st3, by omega⟩
      · simp [e, hg, hvd, ht]
        exact ⟨hsub.trans (List.sublist_append_left _ _), st3, by omega⟩
    · rintro acc en s' ⟨rfl, hsub, hst, hk⟩
      rw [List.take_length] at hsub
      simp [hsub, hst]
  obtain ⟨d, s', e, ys, rfl, hd, hst⟩ := ans_run key
  exact ⟨ys, s', e, hd, hst⟩
end Mi
end
section
set_option Elab.async false
set_option maxRecDepth 100000
set_option linter.all false
namespace Mi
open PySem
theorem le_big {n : Nat} (h : n ≤ 16777216) : n ≤ big := h
theorem p_addL (x y : D) (a b : List D) (hx : x = .own a ∨ x = .frz a) (hy : y = .own b ∨ y = .frz b) (h : a.length + b.length ≤ big) : primF .add [x, y] = some (.own (a ++ b)) := by
  rcases hx with rfl | rfl <;> rcases hy with rfl | rfl <;> (show (if _ then _ else _) = _; rw [if_pos h])
theorem p_addO (a b : List D) (h : a.length + b.length ≤ big) : primF .add [.own a, .own b] = some (.own (a ++ b)) := p_addL _ _ a b (.inl rfl) (.inl rfl) h
theorem cut_mid (ds : List D) (i j : Nat) (h : i ≤ j) (hj : j ≤ ds.length) : cutD ds (some (i : Int)) (some (j : Int)) = (ds.drop i).take (j - i) := by
  simp only [cutD, sIx_nat]
  have e1 : min i ds.length = i := by omega
  have e2 : min j ds.length = j := by omega
  rw [e1, e2]
theorem slc_mid_o (ds : List D) (i j : Nat) (h : i ≤ j) (hj : j ≤ ds.length) : primF (.slc true true) [.own ds, .int i, .int j] = some (.own ((ds.drop i).take (j - i))) := by
  rw [← cut_mid ds i j h hj]; rfl
theorem own_eq_nil (xs : List D) (h : D.plains xs = true) : primF .eq [.own xs, .own []] = some (.bl xs.isEmpty) := by
  have : cmpOk (.own xs) (.own []) = true := by
    simp [cmpOk, D.plain, D.plains, h, D.py, PyData.depth, D.pys, PyData.depthAll]
  rw [p_eq _ _ this]
  cases xs with
  | nil => simp [D.eqv, D.py, D.pys, PyData.eqv, PyData.eqvAll]
  | cons x xs => simp [D.eqv, D.py, D.pys, PyData.eqv, PyData.eqvAll]
theorem own_ne_nil (xs : List D) (h : D.plains xs = true) : primF .ne [.own xs, .own []] = some (.bl (!xs.isEmpty)) := by
  have : cmpOk (.own xs) (.own []) = true := by
    simp [cmpOk, D.plain, D.plains, h, D.py, PyData.depth, D.pys, PyData.depthAll]
  rw [p_ne _ _ this]
  cases xs with
  | nil => simp [D.eqv, D.py, D.pys, PyData.eqv, PyData.eqvAll]
  | cons x xs => simp [D.eqv, D.py, D.pys, PyData.eqv, PyData.eqvAll]
@[simp] theorem p_tuple_o (ds) : primF .tuple [.own ds] = some (.tup ds) := id rfl
@[simp] theorem p_tuple_f (ds) : primF .tuple [.frz ds] = some (.tup ds) := id rfl
@[simp] theorem p_list_t (ds) : primF .list [.tup ds] = some (.own ds) := id rfl
@[simp] theorem p_list_f (ds) : primF .list [.frz ds] = some (.own ds) := id rfl
@[simp] theorem p_list_o (ds) : primF .list [.own ds] = some (.own ds) := id rfl
def signsA : List D := charsD "STKPWHR*AOEUZF"
def rotA (g : Nat) : List D := signsA.drop g ++ signsA.take g
def pairUp (b : Str) (xs : List D) : List D := xs.map fun d => .tup [d, .str b]
def fullA (g : Nat) : List D := pairUp "left" ((rotA g).take 6) ++ (pairUp "middle" (((rotA g).drop 6).take 3) ++ pairUp "right" ((rotA g).drop 9 ++ (rotA g).take 4))
def fLayoutA (take someOf : Nat) : Fn := ⟨1, 8, [.asg (.nm 1) (.prim .list [(.k (.str "STKPWHR*AOEUZF"))]), .asg (.nm 2) (.call take [(.rf 0), (.k (.int 14))]), .asg (.nm 1) (.prim .add [(.prim (.slc true false) [(.v 1), (.v 2)]), (.prim (.slc false true) [(.v 1), (.v 2)])]), .asg (.nm 3) (.call someOf [(.rf 0), (.prim (.slc false true) [(.v 1), (.k (.int 6))]), (.k (.int 3))]), .asg (.nm 4) (.call someOf [(.rf 0), (.prim (.slc true true) [(.v 1), (.k (.int 6)), (.k (.int 9))]), (.k (.int 2))]), .asg (.nm 5) (.call someOf [(.rf 0), (.prim .add [(.prim (.slc true false) [(.v 1), (.k (.int 9))]), (.prim (.slc false true) [(.v 1), (.k (.int 4))])]), (.k (.int 2))]), .ite (.prim .eq [(.prim .add [(.prim .add [(.v 3), (.v 4)]), (.v 5)]), (.lst [])]) [.asg (.nm 3) (.lst [(.prim .idx [(.v 1), (.k (.int 0))])])] [], .asg (.nm 6) (.prim .add [(.lc [7] (.nm 7) (.seq (.v 3)) [] (.tup [(.v 7), (.k (.str "left"))])), (.lc [7] (.nm 7) (.seq (.v 4)) [] (.tup [(.v 7), (.k (.str "middle"))]))]), .ret (.prim .tuple [(.prim .add [(.v 6), (.lc [7] (.nm 7) (.seq (.v 5)) [] (.tup [(.v 7), (.k (.str "right"))]))])])]⟩
theorem signsA_len : signsA.length = 14 := by decide +kernel
theorem rotA_len (g : Nat) (h : g ≤ 14) : (rotA g).length = 14 := by
  simp [rotA, signsA_len]; omega
theorem rotA_str (g : Nat) : ∀ d ∈ rotA g, ∃ x, d = .str x := by
  intro d hd
  have : d ∈ signsA := by
    rcases List.mem_append.mp hd with h | h
    · exact List.mem_of_mem_drop h
    · exact List.mem_of_mem_take h
  obtain ⟨c, _, rfl⟩ := List.mem_map.mp this
  exact ⟨_, rfl⟩
theorem filter_true (xs : List D) : xs.filter (fun _ => true) = xs := List.filter_eq_self.mpr fun _ _ => rfl
theorem layoutA_ {fns : List Fn} {g h i j : Nat} (hg : fns[g]? = some (fLayoutA i h)) (hh : fns[h]? = some (fSomeOf i)) (hi : fns[i]? = some (fTake j)) (hj : fns[j]? = some fMixed) (W n p N : Nat) (s : Sto) (hs : Pu p N s) (hN : N < 2 ^ 89) :
    ∃ ds s' r, run fns W (n + 4) g [.ref p] s = .ok (.tup ds) s' ∧ r < 14 ∧ ds.Sublist (fullA r) ∧ ds ≠ [] ∧ St p (N + 30) s s' := by
  have key : ans fns W (n + 4) g [.ref p] s fun d s' => ∃ ds, d = .tup ds ∧ ∃ r, r < 14 ∧ ds.Sublist (fullA r) ∧ ds ≠ [] ∧ St p (N + 30) s s' := by
    refine ans_of hg rfl ?_
    have e1 : primF .list [.str "STKPWHR*AOEUZF"] = some (.own signsA) := by rfl
    obtain ⟨z, s1, e2, z0, z1, st1⟩ := take_ hi hj W (n + 1) p N 14 s hs (by omega) (by decide) (by decide)
    obtain ⟨r, rfl⟩ := Int.eq_ofNat_of_zero_le z0
    have hr : r < 14 := by omega
    have e3 := slc_drop_o signsA r
    have e4 := slc_take_o signsA r
    have e5 := p_addO (signsA.drop r) (signsA.take r) (le_big (by simp [signsA_len]; omega))
    rw [show signsA.drop r ++ signsA.take r = rotA r from rfl] at e5
    have hl := rotA_len r (by omega)
    have hst := rotA_str r
    have e6 : primF (.slc false true) [.own (rotA r), .int 6] = some (.own ((rotA r).take 6)) := slc_take_o (rotA r) 6
    have e7 : primF (.slc true true) [.own (rotA r), .int 6, .int 9] = some (.own (((rotA r).drop 6).take 3)) := slc_mid_o (rotA r) 6 9 (by decide) (by omega)
    have e8 : primF (.slc true false) [.own (rotA r), .int 9] = some (.own ((rotA r).drop 9)) := slc_drop_o (rotA r) 9
    have e9 : primF (.slc false true) [.own (rotA r), .int 4] = some (.own ((rotA r).take 4)) := slc_take_o (rotA r) 4
    have e10 := p_addO ((rotA r).drop 9) ((rotA r).take 4) (le_big (by simp [hl]))
    have hsv : ∀ ys : List D, (∀ x ∈ ys, x ∈ rotA r) → ∀ x ∈ ys, val x = true := fun ys h x hx => by
      obtain ⟨y, rfl⟩ := hst x (h x hx); simp
    obtain ⟨A, s2, e11, sub1, st2⟩ := someOf_ hh hi hj W n p (N + 1) ((rotA r).take 6) 3 s1 st1.pu (by simp [hl]; omega) (by simp [hl]) (by decide) (by decide) (hsv _ fun x hx => List.mem_of_mem_take hx)
    obtain ⟨B, s3, e12, sub2, st3⟩ := someOf_ hh hi hj W n p _ (((rotA r).drop 6).take 3) 2 s2 st2.pu (by simp [hl]; omega) (by simp [hl]) (by decide) (by decide) (hsv _ fun x hx => List.mem_of_mem_drop (List.mem_of_mem_take hx))
    obtain ⟨C, s4, e13, sub3, st4⟩ := someOf_ hh hi hj W n p _ ((rotA r).drop 9 ++ (rotA r).take 4) 2 s3 st3.pu (by simp [hl]; omega) (by simp [hl]) (by decide) (by decide) (hsv _ fun x hx => by
      rcases List.mem_append.mp hx with h | h
      · exact List.mem_of_mem_drop h
      · exact List.mem_of_mem_take h)
    have st : St p (N + 30) s s4 := (((st1.trans st2).trans st3).trans st4).mono (by simp [hl])
    have l1 := sub1.length_le
    have l2 := sub2.length_le
    have l3 := sub3.length_le
    simp [hl] at l1 l2 l3
    have hb : big = 16777216 := rfl
    have strA : ∀ x ∈ A, ∃ y, x = .str y := fun x hx => hst x (List.mem_of_mem_take (sub1.subset hx))
    have strB : ∀ x ∈ B, ∃ y, x = .str y := fun x hx => hst x (List.mem_of_mem_drop (List.mem_of_mem_take (sub2.subset hx)))
    have strC : ∀ x ∈ C, ∃ y, x = .str y := fun x hx => hst x (by
      rcases List.mem_append.mp (sub3.subset hx) with h | h
      · exact List.mem_of_mem_drop h
      · exact List.mem_of_mem_take h)
    have e14 := p_addO A B (le_big (by omega))
    have e15 := p_addO (A ++ B) C (le_big (by simp; omega))
    have e16 := own_eq_nil (A ++ B ++ C) (plains_of fun d hd => by
      have : ∃ y, d = .str y := by
        rcases List.mem_append.mp hd with h | h
        · rcases List.mem_append.mp h with h | h
          · exact strA d h
          · exact strB d h
        · exact strC d h
      obtain ⟨y, rfl⟩ := this
      rfl)
    have e0 : ∃ x, (rotA r)[0]? = some x ∧ x ∈ (rotA r).take 6 := by
      cases hR : rotA r with
      | nil => rw [hR] at hl; cases hl
      | cons x t => exact ⟨x, rfl, by simp⟩
    obtain ⟨x0, ex0, hx0⟩ := e0
    have e17 : L2.atI (rotA r) 0 = some x0 := atI_nat (i := 0) ex0
    have rest : ∀ (X : List D) (u1 u2 : Option D), X.Sublist ((rotA r).take 6) → X ++ B ++ C ≠ [] → wp (exSs (run fns W (n + 3)) W [.asg (.nm 6) (.prim .add [(.lc [7] (.nm 7) (.seq (.v 3)) [] (.tup [(.v 7), (.k (.str "left"))])), (.lc [7] (.nm 7) (.seq (.v 4)) [] (.tup [(.v 7), (.k (.str "middle"))]))]), .ret (.prim .tuple [(.prim .add [(.v 6), (.lc [7] (.nm 7) (.seq (.v 5)) [] (.tup [(.v 7), (.k (.str "right"))]))])])])
        [some (.ref p), some (.own (rotA r)), some (.int r), some (.own X), some (.own B), some (.own C), u1, u2] s4 fun fl _ s' => endQ (fun d s' => ∃ ds, d = .tup ds ∧ ∃ r, r < 14 ∧ ds.Sublist (fullA r) ∧ ds ≠ [] ∧ St p (N + 30) s s') fl s' := by
      intro X u1 u2 hX hne
      have strX : ∀ x ∈ X, ∃ y, x = .str y := fun x hx => hst x (List.mem_of_mem_take (hX.subset hx))
      have lX := hX.length_le
      simp [hl] at lX
      simp
      refine wp_lcP (fun _ => true) (fun d => .tup [d, .str "left"]) (by omega) ?_ ?_
      · intro d hd
        obtain ⟨y, rfl⟩ := strX d hd
        simp
      simp [filter_true]
      refine wp_lcP (fun _ => true) (fun d => .tup [d, .str "middle"]) (by omega) ?_ ?_
      · intro d hd
        obtain ⟨y, rfl⟩ := strB d hd
        simp
      have f1 := p_addO (pairUp "left" X) (pairUp "middle" B) (le_big (by simp [pairUp]; omega))
      simp only [pairUp] at f1
      simp [filter_true, f1]
      refine wp_lcP (fun _ => true) (fun d => .tup [d, .str "right"]) (by omega) ?_ ?_
      · intro d hd
        obtain ⟨y, rfl⟩ := strC d hd
        simp
      have f2 := p_addO (pairUp "left" X ++ pairUp "middle" B) (pairUp "right" C) (le_big (by simp [pairUp]; omega))
      simp only [pairUp] at f2
      simp [filter_true, f2]
      refine ⟨r, hr, ?_, ?_, st⟩
      · exact List.Sublist.append (hX.map _) (List.Sublist.append (sub2.map _) (sub3.map _))
      · intro hx hy hz
        exact hne (by rw [hx, hy, hz]; rfl)
    have e1' : primF .list [.str (Str.ofString "STKPWHR*AOEUZF")] = some (.own signsA) := e1
    show wp (exSs _ W ((fLayoutA i h).body.take 7 ++ (fLayoutA i h).body.drop 7)) _ _ _
    rw [q_app]
    generalize hT : nextQ (run fns W (n + 3)) W ((fLayoutA i h).body.drop 7) _ = T
    cases hE : (A ++ B ++ C).isEmpty with
    | true =>
      have hABC : A = [] ∧ B = [] ∧ C = [] := by simpa [List.isEmpty_iff] using hE
      have v0 : val x0 = true := hsv ((rotA r).take 6) (fun x hx => List.mem_of_mem_take hx) x0 hx0
      simp [fLayoutA, e1', e2, e3, e4, e5, e6, e7, e8, e9, e10, e11, e12, e13, e14, e15, e16, e17, hE, v0, -List.append_assoc]
      rw [← hT]
      exact rest [x0] none none (List.singleton_sublist.mpr hx0) (by simp)
    | false =>
      simp [fLayoutA, e1', e2, e3, e4, e5, e6, e7, e8, e9, e10, e11, e12, e13, e14, e15, e16, e17, hE, -List.append_assoc]
      rw [← hT]
      exact rest A none none sub1 (by intro h; rw [h] at hE; cases hE)
  obtain ⟨d, s', e, ds, rfl, r, h1, h2, h3, h4⟩ := ans_run key
  exact ⟨ds, s', r, e, h1, h2, h3, h4⟩
end Mi
end
section
set_option Elab.async false
set_option maxRecDepth 100000
set_option maxHeartbeats 0
set_option linter.all false
namespace Lk
open PySem PySem.Spec PyProof.Rows L2 Mi
def top (i : Nat) : Stmt := PySem.Challenge.pw_chordhand_k01_layouts_and_none.main.body.getD i (.Pass ⟨0, 0, 0, 0⟩)
/-! the program's text as terms -/
/-- is_key: 0=thing 1=label 2=bank -/
def b0 : List S := [.ite (.or_ (.not_ (.prim (.isi 2) [(.v 0)])) (.prim .ne [(.prim .len [(.v 0)]), (.k (.int 2))])) [.ret (.k (.bl false))] [], .asg (.tp [(.nm 1), (.nm 2)]) (.v 0), .ite (.or_ (.not_ (.prim (.isi 1) [(.v 1)])) (.or_ (.prim .ne [(.prim .len [(.v 1)]), (.k (.int 1))]) (.prim .notin [(.v 1), (.k (.str "ABCDEFGHIJKLMNOPQRSTUVWXYZ*"))]))) [.ret (.k (.bl false))] [], .ret (.and_ (.prim (.isi 1) [(.v 2)]) (.prim .in_ [(.v 2), (.k (.tup [(.str "left"), (.str "middle"), (.str "right")]))]))]
def f0 : Fn := ⟨1, 3, b0⟩
/-- is_behind: 0=bank 1=other -/
def b1 : List S := [.ret (.prim .le [(.meth (.m 1) (.k (.tup [(.str "left"), (.str "middle"), (.str "right")])) [(.v 1)]), (.meth (.m 1) (.k (.tup [(.str "left"), (.str "middle"), (.str "right")])) [(.v 0)])])]
def f1 : Fn := ⟨2, 2, b1⟩
/-- may_stand: 0=label 1=bank 2=ahead 3=one 4=other -/
def b2 : List S := [.for_ (.tp [(.nm 3), (.nm 4)]) (.seq (.v 2)) [.ite (.and_ (.prim .eq [(.v 3), (.v 0)]) (.or_ (.prim .eq [(.v 4), (.v 1)]) (.prim .in_ [(.k (.str "middle")), (.tup [(.v 1), (.v 4)])]))) [.ret (.k (.bl false))] []], .ret (.k (.bl true))]
def f2 : Fn := ⟨3, 5, b2⟩
/-- layout_wrong: 0=thing 1=k 2=key -/
def b3 : List S := [.ite (.or_ (.not_ (.prim (.isi 2) [(.v 0)])) (.not_ (.chain .le .le (.k (.int 1)) (.prim .len [(.v 0)]) (.k (.int 24))))) [.ret (.tup [(.k (.str "layout"))])] [], .for_ (.tp [(.nm 1), (.nm 2)]) (.enum (.v 0)) [.ite (.not_ (.call 0 [(.v 2)])) [.ret (.tup [(.k (.str "key")), (.v 1)])] [], .ite (.and_ (.prim .gt [(.v 1), (.k (.int 0))]) (.not_ (.call 1 [(.prim .idx [(.v 2), (.k (.int 1))]), (.prim .idx [(.prim .idx [(.v 0), (.prim .sub [(.v 1), (.k (.int 1))])]), (.k (.int 1))])]))) [.ret (.tup [(.k (.str "bank")), (.v 1)])] [], .ite (.not_ (.call 2 [(.prim .idx [(.v 2), (.k (.int 0))]), (.prim .idx [(.v 2), (.k (.int 1))]), (.prim (.slc false true) [(.v 0), (.v 1)])])) [.ret (.tup [(.k (.str "twice")), (.v 1)])] []], .ret (.k .non)]
def f3 : Fn := ⟨1, 3, b3⟩
/-- _law_mixed: 0=_law_cell 1=_law_k 2=_law_number -/
def b4 : List S := [.asg (.nm 2) (.prim .add [(.prim .add [(.prim .mul [(.prim .add [(.prim .mod [(.v 0), (.prim .add [(.prim .pow [(.k (.int 10)), (.k (.int 18))]), (.k (.int 9))])]), (.prim .mul [(.k (.int 7)), (.v 1)])]), (.k (.int 739108512309184756019283746561))]), (.prim .mul [(.k (.int 7919)), (.v 1)])]), (.k (.int 1))]), .asg (.nm 2) (.prim .mod [(.prim .mul [(.v 2), (.v 2)]), (.prim .add [(.prim .pow [(.k (.int 10)), (.k (.int 60))]), (.k (.int 7))])]), .ret (.prim .mod [(.prim .mul [(.prim .add [(.v 2), (.k (.int 40503))]), (.prim .add [(.v 2), (.k (.int 57))])]), (.prim .add [(.prim .pow [(.k (.int 10)), (.k (.int 60))]), (.k (.int 7))])])]
def f4 : Fn := ⟨2, 3, b4⟩
/-- _law_purse: 0=_law_cell 1=_law_k -/
def b5 : List S := [.ite (.prim .ge [(.v 0), (.prim .pow [(.k (.int 10)), (.k (.int 18))])]) [.ret (.lst [(.prim .mod [(.prim .sub [(.v 0), (.prim .pow [(.k (.int 10)), (.k (.int 18))])]), (.prim .pow [(.prim .pow [(.k (.int 10)), (.k (.int 60))]), (.k (.int 10))])]), (.k (.int 0)), (.v 1)])] [], .ret (.lst [(.call 4 [(.v 0), (.v 1)]), (.k (.int 0)), (.prim .add [(.prim .mod [(.v 0), (.prim .add [(.prim .pow [(.k (.int 10)), (.k (.int 18))]), (.k (.int 9))])]), (.v 1)])])]
def f5 : Fn := ⟨2, 2, b5⟩
/-- _law_take: 0=_law_purse_here 1=_law_far 2=_law_got -/
def b6 : List S := [.ite (.prim .lt [(.prim .idx [(.v 0), (.k (.int 0))]), (.v 1)]) [.asg (.sub (.v 0) (.k (.int 1))) (.prim .add [(.prim .idx [(.v 0), (.k (.int 1))]), (.k (.int 1))]), .asg (.sub (.v 0) (.k (.int 0))) (.prim .add [(.prim .idx [(.v 0), (.k (.int 0))]), (.prim .mul [(.v 1), (.call 4 [(.prim .idx [(.v 0), (.k (.int 2))]), (.prim .add [(.prim .mul [(.k (.int 11)), (.prim .idx [(.v 0), (.k (.int 1))])]), (.k (.int 5))])])])])] [], .asg (.nm 2) (.prim .mod [(.prim .idx [(.v 0), (.k (.int 0))]), (.v 1)]), .asg (.sub (.v 0) (.k (.int 0))) (.prim .fdiv [(.prim .idx [(.v 0), (.k (.int 0))]), (.v 1)]), .ret (.mv 2)]
def f6 : Fn := ⟨2, 3, b6⟩
/-- _law_at: 0=_law_script 1=_law_k -/
def b7 : List S := [.ite (.prim .lt [(.v 1), (.prim .len [(.v 0)])]) [.ret (.prim .idx [(.v 0), (.v 1)])] [], .ret (.prim .add [(.prim .mul [(.k (.int 3)), (.v 1)]), (.k (.int 1))])]
def f7 : Fn := ⟨2, 2, b7⟩
/-- _law_pick: 0=_law_purse_here 1=_law_some -/
def b8 : List S := [.ret (.prim .idx [(.v 1), (.call 6 [(.rf 0), (.prim .len [(.v 1)])])])]
def f8 : Fn := ⟨2, 2, b8⟩
/-- _law_some_of: 0=_law_purse_here 1=_law_some 2=_law_share 3=_law_one -/
def b9 : List S := [.ret (.lc [3] (.nm 3) (.seq (.v 1)) [(.prim .gt [(.call 6 [(.rf 0), (.v 2)]), (.k (.int 0))])] (.v 3))]
def f9 : Fn := ⟨3, 4, b9⟩
/-- _law_layout: 0=_law_purse_here 1=_law_signs 2=_law_start 3=_law_left 4=_law_middle 5=_law_right 6=_law_found 7=_law_sign -/
def b10 : List S := [.asg (.nm 1) (.prim .list [(.k (.str "STKPWHR*AOEUZF"))]), .asg (.nm 2) (.call 6 [(.rf 0), (.k (.int 14))]), .asg (.nm 1) (.prim .add [(.prim (.slc true false) [(.v 1), (.v 2)]), (.prim (.slc false true) [(.v 1), (.v 2)])]), .asg (.nm 3) (.call 9 [(.rf 0), (.prim (.slc false true) [(.v 1), (.k (.int 6))]), (.k (.int 3))]), .asg (.nm 4) (.call 9 [(.rf 0), (.prim (.slc true true) [(.v 1), (.k (.int 6)), (.k (.int 9))]), (.k (.int 2))]), .asg (.nm 5) (.call 9 [(.rf 0), (.prim .add [(.prim (.slc true false) [(.v 1), (.k (.int 9))]), (.prim (.slc false true) [(.v 1), (.k (.int 4))])]), (.k (.int 2))]), .ite (.prim .eq [(.prim .add [(.prim .add [(.v 3), (.v 4)]), (.v 5)]), (.lst [])]) [.asg (.nm 3) (.lst [(.prim .idx [(.v 1), (.k (.int 0))])])] [], .asg (.nm 6) (.prim .add [(.lc [7] (.nm 7) (.seq (.v 3)) [] (.tup [(.v 7), (.k (.str "left"))])), (.lc [7] (.nm 7) (.seq (.v 4)) [] (.tup [(.v 7), (.k (.str "middle"))]))]), .ret (.prim .tuple [(.prim .add [(.v 6), (.lc [7] (.nm 7) (.seq (.v 5)) [] (.tup [(.v 7), (.k (.str "right"))]))])])]
def f10 : Fn := ⟨1, 8, b10⟩
/-- _law_due: 0=_law_what 1=_law_banks 2=_law_k 3=_law_key 4=_law_same 5=_law_one -/
def b11 : List S := [.ite (.or_ (.not_ (.prim (.isi 2) [(.v 0)])) (.or_ (.prim .lt [(.prim .len [(.v 0)]), (.k (.int 1))]) (.prim .gt [(.prim .len [(.v 0)]), (.k (.int 24))]))) [.ret (.tup [(.k (.str "layout"))])] [], .asg (.nm 1) (.lst [(.k (.str "left")), (.k (.str "middle")), (.k (.str "right"))]), .for_ (.tp [(.nm 2), (.nm 3)]) (.enum (.v 0)) [.ite (.or_ (.not_ (.prim (.isi 2) [(.v 3)])) (.or_ (.prim .ne [(.prim .len [(.v 3)]), (.k (.int 2))]) (.or_ (.not_ (.prim (.isi 1) [(.prim .idx [(.v 3), (.k (.int 0))])])) (.not_ (.prim (.isi 1) [(.prim .idx [(.v 3), (.k (.int 1))])]))))) [.ret (.tup [(.k (.str "key")), (.v 2)])] [], .ite (.or_ (.prim .ne [(.prim .len [(.prim .idx [(.v 3), (.k (.int 0))])]), (.k (.int 1))]) (.or_ (.prim .notin [(.prim .idx [(.v 3), (.k (.int 0))]), (.k (.str "ABCDEFGHIJKLMNOPQRSTUVWXYZ*"))]) (.prim .notin [(.prim .idx [(.v 3), (.k (.int 1))]), (.v 1)]))) [.ret (.tup [(.k (.str "key")), (.v 2)])] [], .ite (.and_ (.prim .gt [(.v 2), (.k (.int 0))]) (.prim .lt [(.meth (.m 0) (.v 1) [(.prim .idx [(.v 3), (.k (.int 1))])]), (.meth (.m 0) (.v 1) [(.prim .idx [(.prim .idx [(.v 0), (.prim .sub [(.v 2), (.k (.int 1))])]), (.k (.int 1))])])])) [.ret (.tup [(.k (.str "bank")), (.v 2)])] [], .asg (.nm 4) (.lc [5] (.nm 5) (.seq (.prim (.slc false true) [(.v 0), (.v 2)])) [(.prim .eq [(.prim .idx [(.v 5), (.k (.int 0))]), (.prim .idx [(.v 3), (.k (.int 0))])])] (.prim .idx [(.v 5), (.k (.int 1))])), .ite (.or_ (.prim .in_ [(.prim .idx [(.v 3), (.k (.int 1))]), (.v 4)]) (.or_ (.prim .in_ [(.k (.str "middle")), (.v 4)]) (.and_ (.prim .eq [(.prim .idx [(.v 3), (.k (.int 1))]), (.k (.str "middle"))]) (.prim .ne [(.v 4), (.lst [])])))) [.ret (.tup [(.k (.str "twice")), (.v 2)])] []], .ret (.k .non)]
def f11 : Fn := ⟨1, 6, b11⟩
/-- _law_odd: 0=_law_purse_here 1=_law_some -/
def b12 : List S := [.asg (.nm 1) (.lst [(.k .non), (.k (.int 1)), (.k (.bl true)), (.k (.str "")), (.k (.str "A")), (.k (.str "a")), (.k (.str "AB")), (.k (.str "1")), (.k (.str "-")), (.k (.str ".")), (.k (.str "**")), (.k (.str "left")), (.k (.str "Left")), (.k (.str "top")), (.tup []), (.lst []), (.tup [(.k (.str "A"))])]), .asg (.nm 1) (.prim .add [(.v 1), (.lst [(.lst [(.k (.str "A")), (.k (.str "left"))]), (.tup [(.k (.str "Q")), (.k (.str "middle"))]), (.tup [(.k (.str "S")), (.k (.str "right"))]), (.tup [(.k (.str "*")), (.k (.str "left"))]), (.tup [(.k (.str "")), (.k (.str "left"))]), (.tup [(.k (.str "A")), (.k (.int 2))])])]), .ret (.call 8 [(.rf 0), (.prim .add [(.v 1), (.lst [(.tup [(.k (.str "A")), (.k (.str "left")), (.k (.int 1))])])])])]
def f12 : Fn := ⟨1, 2, b12⟩
/-- _law_bent: 0=_law_purse_here 1=_law_layout_here 2=_law_found 3=_law_at_here 4=_law_other 5=_law_mode 6=_law_kept -/
def b13 : List S := [.asg (.nm 2) (.prim .list [(.v 1)]), .asg (.nm 3) (.call 6 [(.rf 0), (.prim .len [(.v 2)])]), .asg (.nm 4) (.call 6 [(.rf 0), (.prim .len [(.v 2)])]), .asg (.nm 5) (.call 6 [(.rf 0), (.k (.int 9))]), .ite (.prim .eq [(.v 5), (.k (.int 0))]) [.ex (.mut .popAt (.v 2) [(.v 3)])] [.ite (.prim .eq [(.v 5), (.k (.int 1))]) [.ex (.mut .insert (.v 2) [(.v 3), (.prim .idx [(.v 2), (.v 4)])])] [.ite (.prim .eq [(.v 5), (.k (.int 2))]) [.asg (.sub (.v 2) (.v 3)) (.call 12 [(.rf 0)])] [.ite (.prim .eq [(.v 5), (.k (.int 3))]) [.asg (.nm 6) (.prim .idx [(.v 2), (.v 3)]), .asg (.sub (.v 2) (.v 3)) (.prim .idx [(.v 2), (.v 4)]), .asg (.sub (.v 2) (.v 4)) (.v 6)] [.ite (.and_ (.prim .eq [(.v 5), (.k (.int 4))]) (.prim (.isi 2) [(.prim .idx [(.v 2), (.v 3)])])) [.asg (.sub (.v 2) (.v 3)) (.prim .add [(.prim (.slc false true) [(.prim .idx [(.v 2), (.v 3)]), (.k (.int 1))]), (.tup [(.call 12 [(.rf 0)])])])] [.ite (.and_ (.prim .eq [(.v 5), (.k (.int 5))]) (.prim (.isi 2) [(.prim .idx [(.v 2), (.v 3)])])) [.asg (.sub (.v 2) (.v 3)) (.prim .add [(.tup [(.call 12 [(.rf 0)])]), (.prim (.slc true false) [(.prim .idx [(.v 2), (.v 3)]), (.k (.int 1))])])] [.ite (.and_ (.prim .eq [(.v 5), (.k (.int 6))]) (.prim (.isi 2) [(.prim .idx [(.v 2), (.v 3)])])) [.asg (.sub (.v 2) (.v 3)) (.prim .add [(.prim (.slc false true) [(.prim .idx [(.v 2), (.v 3)]), (.k (.int 1))]), (.tup [(.call 8 [(.rf 0), (.lst [(.k (.str "left")), (.k (.str "middle")), (.k (.str "right"))])])])])] [.ite (.and_ (.prim .eq [(.v 5), (.k (.int 7))]) (.and_ (.prim (.isi 2) [(.prim .idx [(.v 2), (.v 4)])]) (.prim .ne [(.prim .idx [(.v 2), (.v 4)]), (.tup [])]))) [.asg (.sub (.v 2) (.v 3)) (.prim .add [(.prim (.slc false true) [(.prim .idx [(.v 2), (.v 4)]), (.k (.int 1))]), (.tup [(.k (.str "right"))])])] [.ret (.prim .idx [(.lst [(.v 2), (.call 12 [(.rf 0)])]), (.call 6 [(.rf 0), (.k (.int 2))])])]]]]]]]], .ret (.prim .tuple [(.v 2)])]
def f13 : Fn := ⟨2, 7, b13⟩
/-- _law_long: 0=_law_many 1=_law_signs 2=_law_k -/
def b14 : List S := [.asg (.nm 1) (.k (.str "ABCDEFGHIJKLMNOPQRSTUVWXYZ")), .ret (.prim .tuple [(.lc [2] (.nm 2) (.rng1 (.v 0)) [] (.tup [(.prim .idx [(.v 1), (.prim .mod [(.v 2), (.k (.int 26))])]), (.prim .idx [(.lst [(.k (.str "left")), (.k (.str "right"))]), (.prim .int [(.prim .gt [(.v 2), (.k (.int 12))])])])]))])]
def f14 : Fn := ⟨1, 3, b14⟩
/-- law: 0=_law_script 1=_law_k 2=_law_purse_here 3=_law_layout_here 4=_law_what 5=_law_bend 6=_law_stayed -/
def b15 : List S := [.for_ (.nm 1) (.rng1 (.prim .add [(.k (.int 2)), (.prim .min2 [(.prim .len [(.v 0)]), (.k (.int 5))])])) [.asg (.nm 2) (.call 5 [(.call 7 [(.v 0), (.v 1)]), (.v 1)]), .asg (.nm 3) (.call 10 [(.rf 2)]), .ite (.or_ (.prim .notN [(.call 3 [(.v 3)])]) (.prim .notN [(.call 3 [(.call 14 [(.k (.int 24))])])])) [.ret (.k (.bl false))] [], .ite (.prim .ne [(.call 3 [(.call 14 [(.k (.int 25))])]), (.tup [(.k (.str "layout"))])]) [.ret (.k (.bl false))] [], .asg (.nm 4) (.v 3), .for_ (.nm 5) (.rng1 (.call 6 [(.rf 2), (.k (.int 4))])) [.ite (.and_ (.prim (.isi 2) [(.v 4)]) (.prim .ne [(.v 4), (.tup [])])) [.asg (.nm 4) (.call 13 [(.rf 2), (.v 4)])] []], .asg (.nm 6) (.prim .str [(.v 4)]), .ite (.or_ (.prim .ne [(.call 3 [(.v 4)]), (.call 11 [(.v 4)])]) (.or_ (.prim .ne [(.callA 3 [] [(.v 4)] [.inl 0]), (.call 11 [(.v 4)])]) (.prim .ne [(.prim .str [(.v 4)]), (.v 6)]))) [.ret (.k (.bl false))] []], .ret (.k (.bl true))]
def f15 : Fn := ⟨1, 7, b15⟩
def e0 : Ent := ⟨⟨("is_key", none), "is_key", "is_key", defArgs (top 4), defBody (top 4), defScope (top 4), [], []⟩, f0, ["thing"], ["thing", "label", "bank"]⟩
def e1 : Ent := ⟨⟨("is_behind", none), "is_behind", "is_behind", defArgs (top 5), defBody (top 5), defScope (top 5), [], []⟩, f1, ["bank", "other"], ["bank", "other"]⟩
def e2 : Ent := ⟨⟨("may_stand", none), "may_stand", "may_stand", defArgs (top 6), defBody (top 6), defScope (top 6), [], []⟩, f2, ["label", "bank", "ahead"], ["label", "bank", "ahead", "one", "other"]⟩
def e3 : Ent := ⟨⟨("layout_wrong", none), "layout_wrong", "layout_wrong", defArgs (top 7), defBody (top 7), defScope (top 7), [], []⟩, f3, ["thing"], ["thing", "k", "key"]⟩
def e4 : Ent := ⟨⟨("_law_mixed", none), "_law_mixed", "_law_mixed", defArgs (top 9), defBody (top 9), defScope (top 9), [], []⟩, f4, ["_law_cell", "_law_k"], ["_law_cell", "_law_k", "_law_number"]⟩
def e5 : Ent := ⟨⟨("_law_purse", none), "_law_purse", "_law_purse", defArgs (top 10), defBody (top 10), defScope (top 10), [], []⟩, f5, ["_law_cell", "_law_k"], ["_law_cell", "_law_k"]⟩
def e6 : Ent := ⟨⟨("_law_take", none), "_law_take", "_law_take", defArgs (top 11), defBody (top 11), defScope (top 11), [], []⟩, f6, ["_law_purse_here", "_law_far"], ["_law_purse_here", "_law_far", "_law_got"]⟩
def e7 : Ent := ⟨⟨("_law_at", none), "_law_at", "_law_at", defArgs (top 12), defBody (top 12), defScope (top 12), [], []⟩, f7, ["_law_script", "_law_k"], ["_law_script", "_law_k"]⟩
def e8 : Ent := ⟨⟨("_law_pick", none), "_law_pick", "_law_pick", defArgs (top 13), defBody (top 13), defScope (top 13), [], []⟩, f8, ["_law_purse_here", "_law_some"], ["_law_purse_here", "_law_some"]⟩
def e9 : Ent := ⟨⟨("_law_some_of", none), "_law_some_of", "_law_some_of", defArgs (top 14), defBody (top 14), defScope (top 14), [], []⟩, f9, ["_law_purse_here", "_law_some", "_law_share"], ["_law_purse_here", "_law_some", "_law_share", "_law_one"]⟩
def e10 : Ent := ⟨⟨("_law_layout", none), "_law_layout", "_law_layout", defArgs (top 15), defBody (top 15), defScope (top 15), [], []⟩, f10, ["_law_purse_here"], ["_law_purse_here", "_law_signs", "_law_start", "_law_left", "_law_middle", "_law_right", "_law_found", "_law_sign"]⟩
def e11 : Ent := ⟨⟨("_law_due", none), "_law_due", "_law_due", defArgs (top 16), defBody (top 16), defScope (top 16), [], []⟩, f11, ["_law_what"], ["_law_what", "_law_banks", "_law_k", "_law_key", "_law_same", "_law_one"]⟩
def e12 : Ent := ⟨⟨("_law_odd", none), "_law_odd", "_law_odd", defArgs (top 17), defBody (top 17), defScope (top 17), [], []⟩, f12, ["_law_purse_here"], ["_law_purse_here", "_law_some"]⟩
def e13 : Ent := ⟨⟨("_law_bent", none), "_law_bent", "_law_bent", defArgs (top 18), defBody (top 18), defScope (top 18), [], []⟩, f13, ["_law_purse_here", "_law_layout_here"], ["_law_purse_here", "_law_layout_here", "_law_found", "_law_at_here", "_law_other", "_law_mode", "_law_kept"]⟩
def e14 : Ent := ⟨⟨("_law_long", none), "_law_long", "_law_long", defArgs (top 19), defBody (top 19), defScope (top 19), [], []⟩, f14, ["_law_many"], ["_law_many", "_law_signs", "_law_k"]⟩
def e15 : Ent := ⟨⟨("law", none), "law", "law", defArgs (top 20), defBody (top 20), defScope (top 20), [], []⟩, f15, ["_law_script"], ["_law_script", "_law_k", "_law_purse_here", "_law_layout_here", "_law_what", "_law_bend", "_law_stayed"]⟩
def ents : List Ent := [e0, e1, e2, e3, e4, e5, e6, e7, e8, e9, e10, e11, e12, e13, e14, e15]
def fns : List Fn := ents.map Ent.fn
def frees : List Str := ["enumerate", "int", "isinstance", "len", "list", "min", "range", "str", "tuple"]
def cons : List (Str × D) := [("BANKS", (.tup [(.str "left"), (.str "middle"), (.str "right")])), ("LABELS", (.str "ABCDEFGHIJKLMNOPQRSTUVWXYZ*")), ("MOST_KEYS", (.int 24))]
def kwt : List KwT := [⟨"layout_wrong", 3, 1, 0, ["thing"], [.inl 0]⟩]
abbrev tab : Tab := mkTab frees ents cons kwt
def loose : List Str := ["BANKS", "LABELS", "MOST_KEYS", "__name__", "_law_at", "_law_bent", "_law_due", "_law_layout", "_law_long", "_law_mixed", "_law_odd", "_law_pick", "_law_purse", "_law_some_of", "_law_take", "is_behind", "is_key", "layout_wrong", "may_stand"]
theorem c0 : entB tab e0 = true := by decide +kernel
theorem c1 : entB tab e1 = true := by decide +kernel
theorem c2 : entB tab e2 = true := by decide +kernel
theorem c3 : entB tab e3 = true := by decide +kernel
theorem c4 : entB tab e4 = true := by decide +kernel
theorem c5 : entB tab e5 = true := by decide +kernel
theorem c6 : entB tab e6 = true := by decide +kernel
theorem c7 : entB tab e7 = true := by decide +kernel
theorem c8 : entB tab e8 = true := by decide +kernel
theorem c9 : entB tab e9 = true := by decide +kernel
theorem c10 : entB tab e10 = true := by decide +kernel
theorem c11 : entB tab e11 = true := by decide +kernel
theorem c12 : entB tab e12 = true := by decide +kernel
theorem c13 : entB tab e13 = true := by decide +kernel
theorem c14 : entB tab e14 = true := by decide +kernel
theorem c15 : entB tab e15 = true := by decide +kernel
theorem bd : BdAll ents := ⟨fun _ _ _ _ _ _ us hl => match us, hl with | [_], _ => rfl, ⟨fun _ _ _ _ _ _ us hl => match us, hl with | [_, _], _ => rfl, ⟨fun _ _ _ _ _ _ us hl => match us, hl with | [_, _, _], _ => rfl, ⟨fun _ _ _ _ _ _ us hl => match us, hl with | [_], _ => rfl, ⟨fun _ _ _ _ _ _ us hl => match us, hl with | [_, _], _ => rfl, ⟨fun _ _ _ _ _ _ us hl => match us, hl with | [_, _], _ => rfl, ⟨fun _ _ _ _ _ _ us hl => match us, hl with | [_, _], _ => rfl, ⟨fun _ _ _ _ _ _ us hl => match us, hl with | [_, _], _ => rfl, ⟨fun _ _ _ _ _ _ us hl => match us, hl with | [_, _], _ => rfl, ⟨fun _ _ _ _ _ _ us hl => match us, hl with | [_, _, _], _ => rfl, ⟨fun _ _ _ _ _ _ us hl => match us, hl with | [_], _ => rfl, ⟨fun _ _ _ _ _ _ us hl => match us, hl with | [_], _ => rfl, ⟨fun _ _ _ _ _ _ us hl => match us, hl with | [_], _ => rfl, ⟨fun _ _ _ _ _ _ us hl => match us, hl with | [_, _], _ => rfl, ⟨fun _ _ _ _ _ _ us hl => match us, hl with | [_], _ => rfl, ⟨fun _ _ _ _ _ _ us hl => match us, hl with | [_], _ => rfl, trivial⟩⟩⟩⟩⟩⟩⟩⟩⟩⟩⟩⟩⟩⟩⟩⟩
theorem kw : KwAll ents kwt := ⟨⟨e3, rfl, rfl, rfl, fun K kV doc pm an cdv ct => bindA_perm [0] (by decide) fun us ws hu hw => match us, ws, hu, hw with | [], [_], _, _ => rfl⟩, trivial⟩
theorem chk : (ents.all fun e => entB tab e) = true := by
  simp only [ents, List.all_cons, List.all_nil, c0, c1, c2, c3, c4, c5, c6, c7, c8, c9, c10, c11, c12, c13, c14, c15, Bool.and_self, Bool.and_true]
abbrev R : PySem.W.OpenRow := PySem.W.OpenLaw.row PySem.Challenge.rw_chordhand_k01_layouts_and_none
abbrev hk : PySem.W.Hook := hookM 5 frees ents cons
theorem run_ (w : World) : HandSHeadRun.RunEq R (PySem.W.view R.prog [20]) hk (obM 5 frees ents cons) 4000 loose w := by
  intro os
  kernel_rfl
/-- the law, from what the evaluator answers -/
theorem holds_of {Wn k : Nat} (hr : Room k callerA) (law : ∀ ns : List Int, ns.length ≤ 63 → ∃ S, Mi.run fns Wn k 15 [.frz (ns.map D.int)] [] = .ok (.bl true) S) : PySem.Challenge.rw_chordhand_k01_layouts_and_none.Holds := by
  open PySem PySem.W PySem.Calls PyProof.Rows in
  w_on; o_law
  refine HandSHeadRun.head_any (r := OpenLaw.row PySem.Challenge.rw_chordhand_k01_layouts_and_none) (q := view (OpenLaw.row PySem.Challenge.rw_chordhand_k01_layouts_and_none).prog [20]) (H := hk) (ob := obM 5 frees ents cons) (M := 4000) (loose := loose) (d := HandSHeadRun.topDef (OpenLaw.row PySem.Challenge.rw_chordhand_k01_layouts_and_none).prog 20) (kwd := []) obM_eq
    (by kernel_rfl) (fun s => by kernel_rfl) run_ (by kernel_rfl) (by kernel_rfl) (by kernel_rfl) (by rfl) (by first | assumption | decide +kernel) (by decide +kernel) ⟨rfl, rfl, rfl, rfl, rfl, by decide +kernel⟩ ?hw ?hc
  case hw => w_witness2
  case hc => exact law_end2 (e := e15) (i := 15) (x := "_law_script") rfl rfl rfl (by kernel_rfl) bd chk kw rfl (by decide) (by kernel_rfl) hr law
end Lk
end
section
set_option Elab.async false
set_option maxRecDepth 100000
set_option linter.all false
namespace Lk
open PySem Mi
abbrev banks : List D := [.str "left", .str "middle", .str "right"]
/-- is_behind -/
theorem behind_ (W n : Nat) (a b : Str) (s : Sto) (ia ib : Int) (ha : pIndex banks (.str a) = some (.int ia)) (hb : pIndex banks (.str b) = some (.int ib)) :
    ans fns W (n + 1) 1 [.str a, .str b] s fun d s' => d = .bl (decide (ib ≤ ia)) ∧ s' = s := by
  refine ans_of (fn := f1) rfl rfl ?_
  simp [f1, b1, opB, pl1, lookM, fin1, slotOf, kindM, primF, derefD, ha, hb, pCmp]
/-- a sign of the labels; of the banks -/
def inL (x : Str) : Bool := !(Builtin.Str.occurrences "ABCDEFGHIJKLMNOPQRSTUVWXYZ*" x 0 (Str.length "ABCDEFGHIJKLMNOPQRSTUVWXYZ*") 1).isEmpty
def inB (x : D) : Bool := banks.any fun z => D.eqv z x
def isKeyB : D → Bool
  | .tup [.str l, .str b] => (l.length == 1) && (inL l && inB (.str b))
  | _ => false
def sOk : D → Bool
  | .str x => decide (x.length ≤ big)
  | .ref _ => false
  | .own _ => false
  | _ => true
def kOk : D → Bool
  | .tup ds => ds.all sOk
  | d => sOk d
theorem in_banks (b : Str) : pIn false (.str b) (.tup banks) = some (.bl (inB (.str b))) := by
  have h : cmpOk (.str b) (.str b) = true := by simp [cmpOk, D.plain, D.py, PyData.depth]
  have h2 : D.plains banks = true := rfl
  simp only [pIn, D.seq?, h, h2, Bool.and_self, if_true, Bool.bne_false]
  rfl
theorem key_ (W n : Nat) (d : D) (s : Sto) (hk : kOk d = true) : ans fns W (n + 1) 0 [d] s fun r s' => r = .bl (isKeyB d) ∧ s' = s := by
  refine ans_of (fn := f0) rfl rfl ?_
  cases d with
  | tup ds =>
    match ds, hk with
    | [x, y], hk =>
      simp only [kOk, List.all_cons, List.all_nil, Bool.and_true, Bool.and_eq_true] at hk
      obtain ⟨hx, hy⟩ := hk
      cases x with
      | str l =>
        simp only [sOk, decide_eq_true_eq] at hx
        have e1 := p_len_s l hx
        have e2 : primF .notin [.str l, .str "ABCDEFGHIJKLMNOPQRSTUVWXYZ*"] = some (.bl (!inL l)) := by
          show some (D.bl ((!(Builtin.Str.occurrences ("ABCDEFGHIJKLMNOPQRSTUVWXYZ*" : Str) l 0 (Str.length "ABCDEFGHIJKLMNOPQRSTUVWXYZ*") 1).isEmpty) != true)) = _
          rw [Bool.bne_true]
          rfl
        by_cases h1 : l.length = 1
        · cases h2 : inL l with
          | false =>
            have e4 : isKeyB (.tup [.str l, y]) = false := by cases y <;> simp [isKeyB, h2]
            simp [f0, b0, isiD, e1, e2, h1, h2, e4]
          | true =>
            cases y with
            | str b =>
              have e3 : primF .in_ [.str b, .tup [.str "left", .str "middle", .str "right"]] = some (.bl (inB (.str b))) := in_banks b
              simp [f0, b0, isiD, e1, e2, e3, h1, h2, isKeyB]
            | ref => cases hy
            | own => cases hy
            | _ => simp [f0, b0, isiD, e1, e2, h1, h2, isKeyB]
        · have h1' : ¬ ((l.length : Int) = 1) := by omega
          have e4 : isKeyB (.tup [.str l, y]) = false := by cases y <;> simp [isKeyB, h1]
          simp [f0, b0, isiD, e1, h1, h1', e4]
      | ref => cases hx
      | own => cases hx
      | _ => simp [f0, b0, opB, isiD, isKeyB]
    | [], hk => simp [f0, b0, opB, isiD, isKeyB]
    | [x], hk => simp [f0, b0, opB, isiD, isKeyB]
    | x :: y :: z :: r, hk =>
      have : ¬ ((r.length : Int) + 1 + 1 + 1 = 2) := by omega
      simp [f0, b0, opB, isiD, isKeyB, this]
  | ref => cases hk
  | own => cases hk
  | _ => simp [f0, b0, opB, isiD, isKeyB]
end Lk
end
section
set_option Elab.async false
set_option maxRecDepth 100000
set_option linter.all false
namespace Lk
open PySem Mi
/-! ### may_stand -/
/-- what stands ahead bars this -/
def bars (l b : Str) : D → Bool
  | .tup [.str x, .str y] => (x == l) && ((y == b) || ((b == ("middle" : Str)) || (y == ("middle" : Str))))
  | _ => false
theorem c_str (a b : Str) : cmpOk (.str a) (.str b) = true := rfl
theorem in2 (b y : Str) : primF .in_ [.str "middle", .tup [.str b, .str y]] = some (.bl ((b == ("middle" : Str)) || (y == ("middle" : Str)))) := by
  show (if cmpOk (.str "middle") (.str "middle") && D.plains [.str b, .str y] then some (D.bl (([D.str b, D.str y].any fun z => D.eqv z (.str "middle")) != false)) else none) = _
  rw [if_pos (show (cmpOk (.str "middle") (.str "middle") && D.plains [.str b, .str y]) = true from rfl)]
  simp [eqv_s]
theorem stand_ (W n : Nat) (l b : Str) (ks : List D) (s : Sto) (hk : ∀ d ∈ ks, isKeyB d = true) : ans fns W (n + 1) 2 [.str l, .str b, .tup ks] s fun r s' => r = .bl (!ks.any (bars l b)) ∧ s' = s := by
  refine ans_of (fn := f2) rfl rfl ?_
  simp [f2, b2, seqItems]
  refine wp_for (fun i en s' => s' = s ∧ (∃ x y, en = [some (.str l), some (.str b), some (.tup ks), x, y]) ∧ (ks.take i).any (bars l b) = false) ⟨rfl, ⟨_, _, rfl⟩, rfl⟩ ?_ ?_
  · rintro i d en s' hd ⟨rfl, ⟨x, y, rfl⟩, ha⟩
    have hm := hk d (List.mem_of_getElem? hd)
    obtain ⟨x', y', rfl⟩ : ∃ x y, d = .tup [.str x, .str y] := by
      unfold isKeyB at hm
      split at hm
      · exact ⟨_, _, rfl⟩
      · cases hm
    have ht : (ks.take (i + 1)).any (bars l b) = ((ks.take i).any (bars l b) || bars l b (.tup [.str x', .str y'])) := by
      rw [List.take_succ, hd]
      simp
    have hb : bars l b (.tup [.str x', .str y']) = true → ks.any (bars l b) = true := fun h => List.any_eq_true.mpr ⟨_, List.mem_of_getElem? hd, h⟩
    have hT : bars l b (.tup [.str x', .str y']) = true → ∃ x, x ∈ ks ∧ bars l b x = true := fun h => ⟨_, List.mem_of_getElem? hd, h⟩
    have hF : bars l b (.tup [.str x', .str y']) = false → ∀ x, x ∈ ks.take (i + 1) → bars l b x = false := fun h => by
      rw [ha, h] at ht
      simpa [List.any_eq_false] using ht
    by_cases e1 : x' = l <;> by_cases e2 : y' = b <;> by_cases e3 : b = "middle" <;> by_cases e4 : y' = "middle" <;> simp [in2, D.hard, e1, e2, e3, e4] <;>
      first
        | simpa [e1, e2, e3, e4] using hT (by simp [bars, e1, e2, e3, e4])
        | simpa [e1, e2, e3, e4] using hF (by simp [bars, e1, e2, e3, e4])
        | (refine ⟨by decide, ?_⟩; simpa [e1, e2, e3, e4] using hT (by simp [bars, e1, e2, e3, e4]))
  · rintro en s' ⟨rfl, ⟨x, y, rfl⟩, ha⟩
    rw [List.take_length] at ha
    simp [ha]
end Lk
end
section
set_option Elab.async false
set_option maxRecDepth 100000
set_option linter.all false
namespace Lk
open PySem Mi
/-! ### layout_wrong -/
def lab : D → Str
  | .tup (.str l :: _) => l
  | _ => Str.empty
def bank : D → Str
  | .tup [_, .str b] => b
  | _ => Str.empty
/-- the place of a bank -/
def ixB (b : Str) : Int := ((banks.map fun z => D.eqv z (.str b)).idxOf true : Nat)
theorem ix_bank (b : Str) (h : inB (.str b) = true) : pIndex banks (.str b) = some (.int (ixB b)) := by
  have h1 : (cmpOk (.str b) (.str b) && D.plains banks) = true := rfl
  have h2 : (banks.map fun z => D.eqv z (.str b)).contains true = true := by
    simpa [inB, List.any_eq_true] using h
  unfold pIndex
  rw [if_pos h1, if_pos h2]
  rfl
/-- what is wrong at the k-th key, behind keys that are let by -/
def wrongAt (ds : List D) (k : Nat) (d : D) : Option D :=
  if isKeyB d = false then some (.tup [.str "key", .int k])
  else if 0 < k ∧ ¬ (ixB (bank (ds.getD (k - 1) .non)) ≤ ixB (bank d)) then some (.tup [.str "bank", .int k])
  else if (ds.take k).any (bars (lab d) (bank d)) = true then some (.tup [.str "twice", .int k])
  else none
def firstW (ds : List D) : Nat → List D → D
  | _, [] => .non
  | k, d :: r => match wrongAt ds k d with
    | some w => w
    | none => firstW ds (k + 1) r
def wrongL : D → D
  | .tup ds => if 1 ≤ ds.length ∧ ds.length ≤ 24 then firstW ds 0 ds else .tup [.str "layout"]
  | _ => .tup [.str "layout"]
end Lk
end
section
set_option Elab.async false
set_option maxRecDepth 100000
set_option linter.all false
namespace Lk
open PySem Mi
@[simp] theorem at0 (a : D) (r) : L2.atI (a :: r) 0 = some a := atI_nat (i := 0) rfl
@[simp] theorem at1 (a b : D) (r) : L2.atI (a :: b :: r) 1 = some b := atI_nat (i := 1) rfl
@[simp] theorem at2 (a b c : D) (r) : L2.atI (a :: b :: c :: r) 2 = some c := atI_nat (i := 2) rfl
def lOk : D → Bool
  | .tup ds => ds.all kOk
  | d => sOk d
theorem isKey_form {d : D} (h : isKeyB d = true) : ∃ l b, d = .tup [.str l, .str b] ∧ inB (.str b) = true := by
  unfold isKeyB at h
  split at h
  · simp only [Bool.and_eq_true] at h
    exact ⟨_, _, rfl, h.2.2⟩
  · cases h
theorem key_eq (W n : Nat) (d : D) (s : Sto) (hk : kOk d = true) : Mi.run fns W (n + 1) 0 [d] s = .ok (.bl (isKeyB d)) s := ans_eq (key_ W n d s hk)
theorem behind_eq (W n : Nat) (a b : Str) (s : Sto) (ha : inB (.str a) = true) (hb : inB (.str b) = true) : Mi.run fns W (n + 1) 1 [.str a, .str b] s = .ok (.bl (decide (ixB b ≤ ixB a))) s := ans_eq (behind_ W n a b s _ _ (ix_bank a ha) (ix_bank b hb))
theorem stand_eq (W n : Nat) (l b : Str) (ks : List D) (s : Sto) (hk : ∀ d ∈ ks, isKeyB d = true) : Mi.run fns W (n + 1) 2 [.str l, .str b, .tup ks] s = .ok (.bl (!ks.any (bars l b))) s := ans_eq (stand_ W n l b ks s hk)
theorem kOk_val {d : D} (h : kOk d = true) : val d = true := by cases d <;> first | rfl | cases h
theorem wrongAt_key {ds : List D} {k : Nat} {d : D} (h : wrongAt ds k d = none) : isKeyB d = true := by
  unfold wrongAt at h
  split at h
  · cases h
  · rename_i z; simpa using z
theorem keys_take {ds : List D} {i : Nat} (h : ∀ j d', j < i → ds[j]? = some d' → wrongAt ds j d' = none) : ∀ d ∈ ds.take i, isKeyB d = true := by
  intro d hd
  obtain ⟨j, hj, e⟩ := List.getElem_of_mem hd
  have hj2 : j < i ∧ j < ds.length := by rw [List.length_take] at hj; omega
  refine wrongAt_key (h j d hj2.1 ?_)
  rw [List.getElem_take] at e
  rw [List.getElem?_eq_getElem hj2.2, e]
theorem firstW_eq (ds : List D) : ∀ (k : Nat) (r : List D), (match Mi.firstW (wrongAt ds) k r with | none => D.non | some x => x) = Lk.firstW ds k r
  | _, [] => rfl
  | k, d :: r => by
    simp only [Mi.firstW, Lk.firstW]
    cases h : wrongAt ds k d with
    | some w => rfl
    | none => exact firstW_eq ds (k + 1) r
theorem wrong_hard (ds : List D) (k : Nat) : ∀ (d x : D), wrongAt ds k d = some x → ∃ s : Str, x = .tup [.str s, .int k] := by
  intro d x h
  unfold wrongAt at h
  split at h
  · cases h; exact ⟨_, rfl⟩
  · split at h
    · cases h; exact ⟨_, rfl⟩
    · split at h
      · cases h; exact ⟨_, rfl⟩
      · cases h
theorem layout_ (W n : Nat) (d : D) (s : Sto) (hd : lOk d = true) : ans fns W (n + 2) 3 [d] s fun r s' => r = wrongL d ∧ s' = s := by
  refine ans_of (fn := f3) rfl rfl ?_
  cases d with
  | tup ds =>
    have hd : ∀ d ∈ ds, kOk d = true := by simpa [lOk] using hd
    simp [f3, b3, isiD]
    by_cases h1 : 1 ≤ ds.length
    · by_cases h2 : ds.length ≤ 24
      · have h1' : (1 : Int) ≤ ds.length := by omega
        have h2' : (ds.length : Int) ≤ 24 := by omega
        have hw : wrongL (.tup ds) = Lk.firstW ds 0 ds := by simp [wrongL, h1, h2]
        rw [if_pos h1', if_neg (show ¬ (24 : Int) < ds.length by omega), hw]
        refine wp_first (wrongAt ds) (fun en s' => s' = s ∧ ∃ x y, en = [some (.tup ds), x, y]) ⟨rfl, _, _, rfl⟩ ?_ ?_
        · rintro i d en s' hi ⟨rfl, x, y, rfl⟩ hp
          have hm := List.mem_of_getElem? hi
          have hkd := hd d hm
          have hks := keys_take hp
          have hlt := get_lt hi
          have hv := kOk_val hkd
          cases hkey : isKeyB d with
          | false =>
            have hw : wrongAt ds i d = some (.tup [.str "key", .int i]) := by simp [wrongAt, hkey]
            simp [key_eq, hkd, hkey, hw, hv]
          | true =>
            obtain ⟨l, b, rfl, hb⟩ := isKey_form hkey
            have htk := slc_take_t ds i
            have hst := stand_eq W n l b (ds.take i) s' hks
            by_cases h0 : 0 < i
            · obtain ⟨j, rfl⟩ : ∃ j, i = j + 1 := ⟨i - 1, by omega⟩
              obtain ⟨p, hpj⟩ : ∃ p, ds[j]? = some p := ⟨ds[j], List.getElem?_eq_getElem (by omega)⟩
              have hpk : isKeyB p = true := hks p (by
                have : (ds.take (j + 1))[j]? = some p := by rw [List.getElem?_take]; simp [hpj]
                exact List.mem_of_getElem? this)
              obtain ⟨l', b', rfl, hb'⟩ := isKey_form hpk
              have hid : L2.atI ds (((j + 1 : Nat) : Int) - 1) = some (.tup [.str l', .str b']) := by
                have : (((j + 1 : Nat) : Int) - 1) = (j : Int) := by omega
                rw [this]; exact atI_nat hpj
              have hbe := behind_eq W n b b' s' hb hb'
              have hw : wrongAt ds (j + 1) (.tup [.str l, .str b]) = if ixB b' ≤ ixB b then (if (ds.take (j + 1)).any (bars l b) = true then some (.tup [.str "twice", .int ((j + 1 : Nat) : Int)]) else none) else some (.tup [.str "bank", .int ((j + 1 : Nat) : Int)]) := by
                have e1 : bank (ds.getD (j + 1 - 1) .non) = b' := by simp [List.getD, hpj, bank]
                have e2 : bank (.tup [.str l, .str b]) = b := rfl
                have e3 : lab (.tup [.str l, .str b]) = l := rfl
                simp only [wrongAt, hkey, e1, e2, e3]
                by_cases hle : ixB b' ≤ ixB b
                · simp [hle]
                · simp [hle]
              generalize hi' : ((j + 1 : Nat) : Int) = ii at *
              have hg : 0 < ii := by omega
              by_cases hle : ixB b' ≤ ixB b
              · cases hba : (ds.take (j + 1)).any (bars l b) with
                | true => simp [key_eq, hkd, hkey, hw, hid, hbe, hst, htk, hle, hba, hg, at0, at1]
                | false => simp [key_eq, hkd, hkey, hw, hid, hbe, hst, htk, hle, hba, hg, at0, at1]
              · simp [key_eq, hkd, hkey, hw, hid, hbe, hst, htk, hle, hg, at0, at1]
            · have h0 : i = 0 := by omega
              subst h0
              have hw : wrongAt ds 0 (.tup [.str l, .str b]) = none := by simp [wrongAt, hkey]
              have hst : Mi.run fns W (n + 1) 2 [.str l, .str b, .tup []] s' = .ok (.bl true) s' := stand_eq W n l b [] s' (by simp)
              simp at htk
              simp [key_eq, hkd, hkey, hw, hst, htk, at0, at1]
        · rintro en s' ⟨rfl, x, y, rfl⟩
          have := firstW_eq ds 0 ds
          cases h : Mi.firstW (wrongAt ds) 0 ds with
          | none => rw [h] at this; simp [← this]
          | some r => rw [h] at this; simp [← this]
      · have h2' : ¬ (ds.length : Int) ≤ 24 := by omega
        have h1' : (1 : Int) ≤ ds.length := by omega
        simp [h1', h2', wrongL, h2]
    · have h1' : ¬ (1 : Int) ≤ ds.length := by omega
      simp [h1', wrongL, h1]
  | ref => cases hd
  | own => cases hd
  | _ => simp [f3, b3, isiD, wrongL]
end Lk
end
section
set_option Elab.async false
set_option maxRecDepth 100000
set_option linter.all false
namespace Lk
open PySem Mi
/-! ### _law_due -/
def sameL (l : Str) (ks : List D) : List D := (ks.filter fun d => lab d == l).map fun d => .str (bank d)
theorem bars_eq (l b : Str) (ks : List D) (hk : ∀ d ∈ ks, isKeyB d = true) :
    (((sameL l ks).any fun z => D.eqv z (.str b)) || (((sameL l ks).any fun z => D.eqv z (.str "middle")) || ((b == ("middle" : Str)) && !(sameL l ks).isEmpty))) = ks.any (bars l b) := by
  induction ks with
  | nil => simp [sameL]
  | cons k ks ih =>
    have ih := ih fun d hd => hk d (List.mem_cons_of_mem _ hd)
    obtain ⟨l', b', rfl, _⟩ := isKey_form (hk _ (List.mem_cons_self ..))
    by_cases e1 : l' = l
    · subst e1
      have e : sameL l' (.tup [.str l', .str b'] :: ks) = .str b' :: sameL l' ks := by simp [sameL, lab, bank]
      rw [e]
      simp only [List.any_cons, eqv_s, List.isEmpty_cons, bars, beq_self_eq_true, Bool.true_and, ← ih]
      cases (b' == b) <;> cases (b' == ("middle" : Str)) <;> cases (b == ("middle" : Str)) <;> cases (sameL l' ks).any (fun z => D.eqv z (.str b)) <;> cases (sameL l' ks).any (fun z => D.eqv z (.str "middle")) <;> simp
    · have e : sameL l (.tup [.str l', .str b'] :: ks) = sameL l ks := by simp [sameL, lab, bank, e1]
      rw [e, ih]
      simp [bars, e1]
theorem p_inT (a : D) (ds : List D) (h : cmpOk a a = true) (h2 : D.plains ds = true) : primF .in_ [a, .tup ds] = some (.bl (ds.any fun z => D.eqv z a)) := by
  show pIn false a (.tup ds) = _
  simp [pIn, D.seq?, h, h2]
theorem p_inF (a : D) (ds : List D) (h : cmpOk a a = true) (h2 : D.plains ds = true) : primF .in_ [a, .frz ds] = some (.bl (ds.any fun z => D.eqv z a)) := by
  show pIn false a (.frz ds) = _
  simp [pIn, D.seq?, h, h2]
theorem p_inO (a : D) (ds : List D) (h : cmpOk a a = true) (h2 : D.plains ds = true) : primF .in_ [a, .own ds] = some (.bl (ds.any fun z => D.eqv z a)) := by
  show pIn false a (.own ds) = _
  simp [pIn, D.seq?, h, h2]
theorem p_niO (a : D) (ds : List D) (h : cmpOk a a = true) (h2 : D.plains ds = true) : primF .notin [a, .own ds] = some (.bl (!ds.any fun z => D.eqv z a)) := by
  show pIn true a (.own ds) = _
  simp [pIn, D.seq?, h, h2]
theorem cs (a : Str) : cmpOk (.str a) (.str a) = true := rfl
theorem same_plain (l : Str) (ks : List D) : D.plains (sameL l ks) = true := plains_of fun d hd => by
  obtain ⟨x, _, rfl⟩ := List.mem_map.mp hd
  rfl
theorem own_ne_nil (xs : List D) (h : D.plains xs = true) : primF .ne [.own xs, .own []] = some (.bl (!xs.isEmpty)) := by
  have : cmpOk (.own xs) (.own []) = true := by
    simp [cmpOk, D.plain, D.plains, h, D.py, PyData.depth, D.pys, PyData.depthAll]
  rw [p_ne _ _ this]
  cases xs with
  | nil => simp [D.eqv, D.py, D.pys, PyData.eqv, PyData.eqvAll]
  | cons x xs => simp [D.eqv, D.py, D.pys, PyData.eqv, PyData.eqvAll]
theorem frz_ne_nil (xs : List D) (h : D.plains xs = true) : primF .ne [.frz xs, .own []] = some (.bl (!xs.isEmpty)) := own_ne_nil xs h
theorem notin_L (l : Str) : primF .notin [.str l, .str "ABCDEFGHIJKLMNOPQRSTUVWXYZ*"] = some (.bl (!inL l)) := by
  show some (D.bl ((!(Builtin.Str.occurrences ("ABCDEFGHIJKLMNOPQRSTUVWXYZ*" : Str) l 0 (Str.length "ABCDEFGHIJKLMNOPQRSTUVWXYZ*") 1).isEmpty) != true)) = _
  rw [Bool.bne_true]
  rfl
theorem notin_B (b : Str) : primF .notin [.str b, .own banks] = some (.bl (!inB (.str b))) := p_niO _ _ (cs b) rfl
@[simp] theorem kind0_o (ds) : kindM (.m 0) (.own ds) = true := id rfl
@[simp] theorem kind0_f (ds) : kindM (.m 0) (.frz ds) = true := id rfl
@[simp] theorem kind1_t (ds) : kindM (.m 1) (.tup ds) = true := id rfl
theorem ixO (b : Str) (h : inB (.str b) = true) : primF (.m 0) [.own banks, .str b] = some (.int (ixB b)) := ix_bank b h
theorem len1 (l : Str) (h : l.length = 1) : primF .len [.str l] = some (.int 1) := by rw [p_len_s l (by rw [h]; exact z_1), h]; rfl
theorem due_ (W n : Nat) (d : D) (s : Sto) (hd : lOk d = true) : ans fns W (n + 2) 11 [d] s fun r s' => r = wrongL d ∧ s' = s := by
  refine ans_of (fn := f11) rfl rfl ?_
  cases d with
  | tup ds =>
    have hd : ∀ d ∈ ds, kOk d = true := by simpa [lOk] using hd
    simp [f11, b11, isiD]
    by_cases h1 : 1 ≤ ds.length
    · by_cases h2 : ds.length ≤ 24
      · have h1' : ¬ (ds.length : Int) < 1 := by omega
        have h2' : ¬ (24 : Int) < ds.length := by omega
        have hw : wrongL (.tup ds) = Lk.firstW ds 0 ds := by simp [wrongL, h1, h2]
        rw [if_neg h1', if_neg h2', hw]
        refine wp_first (wrongAt ds) (fun en s' => s' = s ∧ ∃ x y z w, en = [some (.tup ds), some (.own banks), x, y, z, w]) ⟨rfl, _, _, _, _, rfl⟩ ?_ ?_
        · rintro i d en s' hi ⟨rfl, x, y, z, w, rfl⟩ hp
          have hm := List.mem_of_getElem? hi
          have hkd := hd d hm
          have hks := keys_take hp
          have hlt := get_lt hi
          have hv := kOk_val hkd
          cases hkey : isKeyB d with
          | false =>
            have hw : wrongAt ds i d = some (.tup [.str "key", .int i]) := by simp [wrongAt, hkey]
            cases d with
            | tup ks =>
              match ks, hkd with
              | [p, q], hkd =>
                simp only [kOk, List.all_cons, List.all_nil, Bool.and_true, Bool.and_eq_true] at hkd
                obtain ⟨hx, hy⟩ := hkd
                cases p with
                | str l =>
                  simp only [sOk, decide_eq_true_eq] at hx
                  cases q with
                  | str b =>
                    have e1 := p_len_s l hx
                    by_cases hl : l.length = 1
                    · cases hL : inL l with
                      | false => simp [hv, hw, isiD, at0, at1, len1 l hl, notin_L, hL]
                      | true =>
                        have hB : inB (.str b) = false := by
                          cases hB : inB (.str b) with
                          | false => rfl
                          | true => simp [isKeyB, hl, hL, hB] at hkey
                        simp [hv, hw, isiD, at0, at1, len1 l hl, notin_L, hL, notin_B, hB]
                    · have hl' : ¬ ((l.length : Int) = 1) := by omega
                      simp [hv, hw, isiD, at0, at1, e1, hl']
                  | ref => cases hy
                  | own => cases hy
                  | _ => simp [hv, hw, isiD, at0, at1]
                | ref => cases hx
                | own => cases hx
                | _ => simp [hv, hw, isiD, at0, at1]
              | [], hkd => simp [hv, hw, isiD]
              | [p], hkd => simp [hv, hw, isiD]
              | p :: q :: r :: t, hkd =>
                have : ¬ ((t.length : Int) + 1 + 1 + 1 = 2) := by omega
                simp [hv, hw, isiD, this]
            | ref => cases hkd
            | own => cases hkd
            | _ => simp [hv, hw, isiD]
          | true =>
            obtain ⟨l, b, rfl, hb⟩ := isKey_form hkey
            have hl : l.length = 1 ∧ inL l = true := by
              simp only [isKeyB, Bool.and_eq_true, beq_iff_eq] at hkey
              exact ⟨hkey.1, hkey.2.1⟩
            have htk := slc_take_t ds i
            have rest : ∀ (Q : Mi.Flow → Mi.Env → Sto → Prop) (z w : Option D), ((ds.take i).any (bars l b) = true → ∀ z w, Q (.ret (.tup [.str "twice", .int i])) [some (.tup ds), some (.own banks), some (.int i), some (.tup [.str l, .str b]), z, w] s') → ((ds.take i).any (bars l b) = false → ∀ z w, Q .next [some (.tup ds), some (.own banks), some (.int i), some (.tup [.str l, .str b]), z, w] s') → wp (exS (Mi.run fns W (n + 1)) W (.asg (.nm 4) (.lc [5] (.nm 5) (.seq (.prim (.slc false true) [(.v 0), (.v 2)])) [(.prim .eq [(.prim .idx [(.v 5), (.k (.int 0))]), (.prim .idx [(.v 3), (.k (.int 0))])])] (.prim .idx [(.v 5), (.k (.int 1))]))))
                [some (.tup ds), some (.own banks), some (.int i), some (.tup [.str l, .str b]), z, w] s' (nextQ (Mi.run fns W (n + 1)) W [.ite (.or_ (.prim .in_ [(.prim .idx [(.v 3), (.k (.int 1))]), (.v 4)]) (.or_ (.prim .in_ [(.k (.str "middle")), (.v 4)]) (.and_ (.prim .eq [(.prim .idx [(.v 3), (.k (.int 1))]), (.k (.str "middle"))]) (.prim .ne [(.v 4), (.lst [])])))) [.ret (.tup [(.k (.str "twice")), (.v 2)])] []] Q) := by
              intro Q z w hQ1 hQ2
              simp [htk]
              refine wp_lcP (fun d => lab d == l) (fun d => .str (bank d)) (by rw [List.length_take]; have : big = 16777216 := rfl; omega) ?_ ?_
              · intro d hd
                obtain ⟨l', b', rfl, _⟩ := isKey_form (hks d hd)
                simp [at0, at1, lab, bank]
              · have hbe := bars_eq l b (ds.take i) hks
                have g1 := p_inO (.str b) (sameL l (ds.take i)) (cs b) (same_plain _ _)
                have g2 := p_inO (.str "middle") (sameL l (ds.take i)) (cs _) (same_plain _ _)
                have g3 := own_ne_nil (sameL l (ds.take i)) (same_plain _ _)
                rw [show ((ds.take i).filter fun d => lab d == l).map (fun d => D.str (bank d)) = sameL l (ds.take i) from rfl]
                generalize sameL l (ds.take i) = sm at *
                generalize hA : (sm.any fun z => D.eqv z (.str b)) = A at *
                generalize hB : (sm.any fun z => D.eqv z (.str "middle")) = B at *
                generalize hC : sm.isEmpty = C at *
                generalize (ds.take i).any (bars l b) = T at *
                clear hp hks hd htk
                by_cases hm : b = "middle" <;> cases A <;> cases B <;> cases C <;> simp_all [at0, at1]
            by_cases h0 : 0 < i
            · obtain ⟨j, rfl⟩ : ∃ j, i = j + 1 := ⟨i - 1, by omega⟩
              obtain ⟨p, hpj⟩ : ∃ p, ds[j]? = some p := ⟨ds[j], List.getElem?_eq_getElem (by omega)⟩
              have hpk : isKeyB p = true := hks p (by
                have : (ds.take (j + 1))[j]? = some p := by rw [List.getElem?_take]; simp [hpj]
                exact List.mem_of_getElem? this)
              obtain ⟨l', b', rfl, hb'⟩ := isKey_form hpk
              have hid : L2.atI ds (((j + 1 : Nat) : Int) - 1) = some (.tup [.str l', .str b']) := by
                have : (((j + 1 : Nat) : Int) - 1) = (j : Int) := by omega
                rw [this]; exact atI_nat hpj
              have hw : wrongAt ds (j + 1) (.tup [.str l, .str b]) = if ixB b' ≤ ixB b then (if (ds.take (j + 1)).any (bars l b) = true then some (.tup [.str "twice", .int ((j + 1 : Nat) : Int)]) else none) else some (.tup [.str "bank", .int ((j + 1 : Nat) : Int)]) := by
                have e1 : bank (ds.getD (j + 1 - 1) .non) = b' := by simp [List.getD, hpj, bank]
                have e2 : bank (.tup [.str l, .str b]) = b := rfl
                have e3 : lab (.tup [.str l, .str b]) = l := rfl
                simp only [wrongAt, hkey, e1, e2, e3]
                by_cases hle : ixB b' ≤ ixB b
                · simp [hle]
                · simp [hle]
              generalize hi' : ((j + 1 : Nat) : Int) = ii at *
              have hg : 0 < ii := by omega
              by_cases hle : ixB b' ≤ ixB b
              · have hlt' : ¬ ixB b < ixB b' := by omega
                simp [-q_asg, isiD, at0, at1, len1 l hl.1, notin_L, hl.2, notin_B, hb, hg, hid, ixO, hb', hlt']
                refine rest _ _ _ ?_ ?_
                · intro hT z w
                  simp [hw, hle, hT]
                · intro hT z w
                  simp [hw, hle, hT]
              · have hlt' : ixB b < ixB b' := by omega
                simp [isiD, at0, at1, len1 l hl.1, notin_L, hl.2, notin_B, hb, hg, hid, ixO, hb', hlt', hw, hle]
            · have h0 : i = 0 := by omega
              subst h0
              have hw : wrongAt ds 0 (.tup [.str l, .str b]) = none := by simp [wrongAt, hkey]
              simp [-q_asg, isiD, at0, at1, len1 l hl.1, notin_L, hl.2, notin_B, hb]
              refine rest _ _ _ ?_ ?_
              · intro hT z w
                simp at hT
              · intro hT z w
                simp [hw]
        · rintro en s' ⟨rfl, x, y, z, w, rfl⟩
          have := firstW_eq ds 0 ds
          cases h : Mi.firstW (wrongAt ds) 0 ds with
          | none => rw [h] at this; simp [← this]
          | some r => rw [h] at this; simp [← this]
      · have h2' : (24 : Int) < ds.length := by omega
        have h1' : ¬ (ds.length : Int) < 1 := by omega
        simp [h1', h2', wrongL, h2]
    · have h1' : (ds.length : Int) < 1 := by omega
      simp [h1', wrongL, h1]
  | ref => cases hd
  | own => cases hd
  | _ => simp [f11, b11, isiD, wrongL]
end Lk
end
section
set_option Elab.async false
set_option maxRecDepth 100000
set_option linter.all false
namespace Lk
open PySem Mi
/-! ### layouts that are let by -/
def goodL (ds : List D) : Prop := (∀ d ∈ ds, isKeyB d = true) ∧ ds.Pairwise fun x y => ixB (bank x) ≤ ixB (bank y) ∧ bars (lab y) (bank y) x = false
instance (ds : List D) : Decidable (goodL ds) := by unfold goodL; infer_instance
theorem goodL_sub {a b : List D} (h : a.Sublist b) (hb : goodL b) : goodL a := ⟨fun d hd => hb.1 d (h.subset hd), hb.2.sublist h⟩
theorem pair_get {R : D → D → Prop} {ds : List D} (h : ds.Pairwise R) {i j : Nat} {x y : D} (hi : ds[i]? = some x) (hj : ds[j]? = some y) (hl : i < j) : R x y := by
  have h1 := get_lt hi
  have h2 := get_lt hj
  rw [List.getElem?_eq_getElem h1] at hi
  rw [List.getElem?_eq_getElem h2] at hj
  have := List.pairwise_iff_getElem.mp h i j h1 h2 hl
  rw [Option.some.inj hi, Option.some.inj hj] at this
  exact this
theorem good_wrong {ds : List D} (h : goodL ds) (k : Nat) (d : D) (hd : ds[k]? = some d) : wrongAt ds k d = none := by
  have hk := h.1 d (List.mem_of_getElem? hd)
  have hb : ¬ (0 < k ∧ ¬ (ixB (bank (ds.getD (k - 1) .non)) ≤ ixB (bank d))) := by
    rintro ⟨h0, h1⟩
    obtain ⟨p, hp⟩ : ∃ p, ds[k - 1]? = some p := ⟨_, List.getElem?_eq_getElem (by have := get_lt hd; omega)⟩
    have := (pair_get h.2 hp hd (by omega)).1
    rw [List.getD_eq_getElem?_getD, hp] at h1
    exact h1 this
  have ht : (ds.take k).any (bars (lab d) (bank d)) = false := by
    rw [List.any_eq_false]
    intro x hx
    obtain ⟨j, hj, e⟩ := List.getElem_of_mem hx
    have hj2 : j < k ∧ j < ds.length := by rw [List.length_take] at hj; omega
    rw [List.getElem_take] at e
    have := (pair_get h.2 (show ds[j]? = some x by rw [List.getElem?_eq_getElem hj2.2, e]) hd hj2.1).2
    simp [this]
  simp only [wrongAt, hk, ht]
  rw [if_neg (by decide), if_neg hb, if_neg (by decide)]
theorem good_non {ds : List D} (h : goodL ds) (h0 : ds ≠ []) (hl : ds.length ≤ 24) : wrongL (.tup ds) = .non := by
  have h1 : 1 ≤ ds.length := by cases ds with | nil => exact absurd rfl h0 | cons => simp
  have go : ∀ (r : List D) (k : Nat), ds.drop k = r → firstW ds k r = .non := by
    intro r
    induction r with
    | nil => intro k _; rfl
    | cons d r ih =>
      intro k hk
      have hd : ds[k]? = some d := by
        have := List.getElem?_drop (xs := ds) (i := k) (j := 0)
        rw [hk] at this
        simpa using this.symm
      simp only [firstW, good_wrong h k d hd]
      exact ih (k + 1) (by rw [← List.drop_drop, hk]; rfl)
  simp only [wrongL]
  rw [if_pos ⟨h1, hl⟩]
  exact go ds 0 rfl
theorem full_good : ∀ r, r < 14 → goodL (fullA r) := by decide +kernel
theorem full_len : ∀ r, r < 14 → (fullA r).length ≤ 24 := by decide +kernel
theorem full_fine : ∀ r, r < 14 → ((fullA r).all fun d => fine 1 d && decide (wt d ≤ 20)) = true := by decide +kernel
theorem wts_le {k : Nat} : ∀ {ds : List D}, (∀ d ∈ ds, wt d ≤ k) → wts ds ≤ k * ds.length
  | [], _ => by simp [wts]
  | d :: ds, h => by
    have h1 := h d (List.mem_cons_self ..)
    have h2 := wts_le fun x hx => h x (List.mem_cons_of_mem _ hx)
    simp only [wts, List.length_cons, Nat.mul_add]
    omega
/-! ### small data is looked at without ado -/
theorem leaf_sOk {d : D} (h : leafOk d = true) : sOk d = true := by
  cases d with
  | str x =>
    simp only [leafOk, Bool.and_eq_true, decide_eq_true_eq] at h
    have : big = 16777216 := rfl
    have : x.length = x.cps.size := rfl
    simp only [sOk, decide_eq_true_eq]
    omega
  | _ => first | rfl | cases h
theorem fine_sOk {n : Nat} {d : D} (h : fine n d = true) : sOk d = true := by
  cases n with
  | zero => cases d <;> first | exact leaf_sOk h | (exact absurd h (by simp [fine, leafOk]))
  | succ n => cases d <;> first | rfl | exact leaf_sOk h | (exact absurd h (by simp [fine, leafOk]))
theorem fine_kOk {n : Nat} {d : D} (h : fine n d = true) : kOk d = true := by
  cases n with
  | zero => cases d <;> first | exact leaf_sOk h | (exact absurd h (by simp [fine, leafOk]))
  | succ n =>
    cases d with
    | tup ds => simp only [kOk, List.all_eq_true]; exact fun x hx => fine_sOk (fine_tup.mp h x hx)
    | _ => exact fine_sOk h
theorem fine_lOk {n : Nat} {d : D} (h : fine n d = true) : lOk d = true := by
  cases n with
  | zero => cases d <;> first | exact leaf_sOk h | (exact absurd h (by simp [fine, leafOk]))
  | succ n =>
    cases d with
    | tup ds => simp only [lOk, List.all_eq_true]; exact fun x hx => fine_kOk (fine_tup.mp h x hx)
    | _ => exact fine_sOk h
/-! ### what is drawn -/
def oddL : List D := [.non, .int 1, .bl true, .str "", .str "A", .str "a", .str "AB", .str "1", .str "-", .str ".", .str "**", .str "left", .str "Left", .str "top", .tup [], .frz [], .tup [.str "A"], .frz [.str "A", .str "left"], .tup [.str "Q", .str "middle"], .tup [.str "S", .str "right"], .tup [.str "*", .str "left"], .tup [.str "", .str "left"], .tup [.str "A", .int 2], .tup [.str "A", .str "left", .int 1]]
theorem odd_fine : (oddL.all fun d => fine 1 d && decide (wt d ≤ 60)) = true := by decide +kernel
theorem odd_ (W n p N : Nat) (s : Sto) (hs : Pu p N s) (hN : N < 2 ^ 90) : ∃ x s', Mi.run fns W (n + 4) 12 [.ref p] s = .ok x s' ∧ fine 1 x = true ∧ wt x ≤ 60 ∧ St p (N + 1) s s' := by
  have key : ans fns W (n + 4) 12 [.ref p] s fun x s' => x ∈ oddL ∧ St p (N + 1) s s' := by
    refine ans_of (fn := f12) rfl rfl ?_
    obtain ⟨x, s', e, hx, hst⟩ := pick_ (fns := fns) (h := 8) (i := 6) (j := 4) rfl rfl rfl W n p N oddL s hs hN (by simp [oddL]) (by simp [oddL])
    have a1 : primF .add [.own [.non, .int 1, .bl true, .str "", .str "A", .str "a", .str "AB", .str "1", .str "-", .str ".", .str "**", .str "left", .str "Left", .str "top", .tup [], .frz [], .tup [.str "A"]], .own [.frz [.str "A", .str "left"], .tup [.str "Q", .str "middle"], .tup [.str "S", .str "right"], .tup [.str "*", .str "left"], .tup [.str "", .str "left"], .tup [.str "A", .int 2]]] = some (.own [.non, .int 1, .bl true, .str "", .str "A", .str "a", .str "AB", .str "1", .str "-", .str ".", .str "**", .str "left", .str "Left", .str "top", .tup [], .frz [], .tup [.str "A"], .frz [.str "A", .str "left"], .tup [.str "Q", .str "middle"], .tup [.str "S", .str "right"], .tup [.str "*", .str "left"], .tup [.str "", .str "left"], .tup [.str "A", .int 2]]) := p_addO _ _ (by decide)
    have a2 : primF .add [.own [.non, .int 1, .bl true, .str "", .str "A", .str "a", .str "AB", .str "1", .str "-", .str ".", .str "**", .str "left", .str "Left", .str "top", .tup [], .frz [], .tup [.str "A"], .frz [.str "A", .str "left"], .tup [.str "Q", .str "middle"], .tup [.str "S", .str "right"], .tup [.str "*", .str "left"], .tup [.str "", .str "left"], .tup [.str "A", .int 2]], .own [.tup [.str "A", .str "left", .int 1]]] = some (.own oddL) := p_addO _ _ (by decide)
    have z17 : 17 ≤ big := by decide
    have z6 : 6 ≤ big := by decide
    simp [f12, b12, z17, z6, a1, a2, e, hst, hx]
  obtain ⟨x, s', e, hx, hst⟩ := ans_run key
  have := List.all_eq_true.mp odd_fine x hx
  simp only [Bool.and_eq_true, decide_eq_true_eq] at this
  exact ⟨x, s', e, this.1, this.2, hst⟩
end Lk
end
section
set_option Elab.async false
set_option maxRecDepth 100000
set_option linter.all false
namespace Lk
open PySem Mi
theorem p_addT (a b : List D) (h : a.length + b.length ≤ big) : primF .add [.tup a, .tup b] = some (.tup (a ++ b)) := by
  show (if _ then _ else _) = _
  rw [if_pos h]
theorem slc1_t (ts : List D) : primF (.slc false true) [.tup ts, .int 1] = some (.tup (ts.take 1)) := slc_take_t ts 1
theorem slcd1_t (ts : List D) : primF (.slc true false) [.tup ts, .int 1] = some (.tup (ts.drop 1)) := slc_drop_t ts 1
theorem mu_set (xs : List D) (i : Nat) (d : D) (h : i < xs.length) : muF .set xs [.int i, d] = some (xs.set i d, .non) := by
  have : L2.ixN xs.length (i : Int) = some i := by simp only [L2.ixN]; rw [if_pos (by omega), if_pos (by omega)]; rfl
  unfold muF muG
  simp [D.int?, this]
theorem mu_popAt (xs : List D) (i : Nat) (d : D) (h : xs[i]? = some d) : muF .popAt xs [.int i] = some (xs.eraseIdx i, d) := by
  have hl := get_lt h
  have : L2.ixN xs.length (i : Int) = some i := by simp only [L2.ixN]; rw [if_pos (by omega), if_pos (by omega)]; rfl
  unfold muF muG
  simp [D.int?, this, h]
theorem mu_ins0 (xs : List D) (k d : D) : muF .insert xs [k, d] = (D.int? k).bind fun i => if 0 ≤ i ∧ i < 2 ^ 63 ∧ xs.length < big then some (xs.take i.toNat ++ d :: xs.drop i.toNat, .non) else none := rfl
theorem mu_insert (xs : List D) (i : Nat) (d : D) (h : i < 1000000) (h2 : xs.length < big) : muF .insert xs [.int i, d] = some (xs.take i ++ d :: xs.drop i, .non) := by
  have e : ∀ j : Int, j = i → (if 0 ≤ j ∧ j < 2 ^ 63 ∧ xs.length < big then some (xs.take j.toNat ++ d :: xs.drop j.toNat, D.non) else none) = some (xs.take i ++ d :: xs.drop i, .non) := by
    intro j hj
    rw [if_pos ⟨by omega, by omega, h2⟩]
    subst hj
    rw [Int.toNat_natCast]
  have e0 : D.int? (.int (i:Int)) = some (i:Int) := rfl
  rw [mu_ins0, e0, Option.bind_some, e _ rfl]
/-- small things that weigh at most w -/
def B (w : Nat) (d : D) : Prop := fine 3 d = true ∧ wt d ≤ w
def Bs (w : Nat) (ds : List D) : Prop := (∀ d ∈ ds, fine 2 d = true) ∧ wts ds ≤ w
theorem Bs.tup {w : Nat} {ds : List D} (h : Bs w ds) : B (w + 1) (.tup ds) := ⟨fine_tup.mpr h.1, by have := h.2; simp only [wt]; omega⟩
theorem Bs.frz {w : Nat} {ds : List D} (h : Bs w ds) : B (w + 1) (.frz ds) := ⟨fine_frz.mpr h.1, by have := h.2; simp only [wt]; omega⟩
theorem Bs.set {w v : Nat} {ds : List D} (h : Bs w ds) (i : Nat) {d : D} (hd : fine 2 d = true) (hw : wt d ≤ v) : Bs (w + v) (ds.set i d) := by
  refine ⟨fun x hx => ?_, ?_⟩
  · rcases List.mem_or_eq_of_mem_set hx with h1 | rfl
    · exact h.1 x h1
    · exact hd
  · have := wts_set ds i d
    have := h.2
    omega
theorem Bs.mono {w v : Nat} {ds : List D} (h : Bs w ds) (k : w ≤ v) : Bs v ds := ⟨h.1, Nat.le_trans h.2 k⟩
theorem Bs.mem {w : Nat} {ds : List D} (h : Bs w ds) {i : Nat} {d : D} (hd : ds[i]? = some d) : fine 2 d = true ∧ wt d ≤ w := ⟨h.1 d (List.mem_of_getElem? hd), Nat.le_trans (wt_mem (List.mem_of_getElem? hd)) h.2⟩
theorem fine_take1 {ts : List D} (h : fine 2 (.tup ts) = true) {x : D} (hx : fine 1 x = true) : fine 2 (.tup (ts.take 1 ++ [x])) = true := by
  refine fine_tup.mpr fun d hd => ?_
  rcases List.mem_append.mp hd with h1 | h1
  · exact fine_tup.mp h d (List.mem_of_mem_take h1)
  · rw [List.mem_singleton.mp h1]; exact hx
theorem fine_drop1 {ts : List D} (h : fine 2 (.tup ts) = true) {x : D} (hx : fine 1 x = true) : fine 2 (.tup ([x] ++ ts.drop 1)) = true := by
  refine fine_tup.mpr fun d hd => ?_
  rcases List.mem_append.mp hd with h1 | h1
  · rw [List.mem_singleton.mp h1]; exact hx
  · exact fine_tup.mp h d (List.mem_of_mem_drop h1)
theorem wt_take1 (ts : List D) (x : D) : wt (.tup (ts.take 1 ++ [x])) ≤ wt (.tup ts) + wt x := by
  simp only [wt, wts_append, wts]
  have := wts_take 1 ts
  omega
theorem wt_drop1 (ts : List D) (x : D) : wt (.tup ([x] ++ ts.drop 1)) ≤ wt (.tup ts) + wt x := by
  simp only [wt, wts_append, wts]
  have := wts_drop 1 ts
  omega
def isT : D → Bool
  | .tup _ => true
  | _ => false
theorem isT_eq (d : D) (h : val d = true) : isiD 2 d = some (isT d) := by cases d <;> first | rfl | cases h
theorem tup_ne_nil (xs : List D) (h : D.plains xs = true) : primF .ne [.tup xs, .tup []] = some (.bl (!xs.isEmpty)) := by
  have : cmpOk (.tup xs) (.tup []) = true := by
    simp [cmpOk, D.plain, D.plains, h, D.py, PyData.depth, D.pys, PyData.depthAll]
  rw [p_ne _ _ this]
  cases xs with
  | nil => simp [D.eqv, D.py, D.pys, PyData.eqv, PyData.eqvAll]
  | cons x xs => simp [D.eqv, D.py, D.pys, PyData.eqv, PyData.eqvAll]
theorem bent_ (W n p N w : Nat) (ks : List D) (s : Sto) (hs : Pu p N s) (hN : N < 2 ^ 89) (hB : Bs w ks) (h0 : ks ≠ []) (hw : w < 100000) :
    ∃ d s', Mi.run fns W (n + 5) 13 [.ref p, .tup ks] s = .ok d s' ∧ B (3 * w + 200) d ∧ St p (N + 10) s s' := by
  have key : ans fns W (n + 5) 13 [.ref p, .tup ks] s fun d s' => B (3 * w + 200) d ∧ St p (N + 10) s s' := by
    refine ans_of (fn := f13) rfl rfl ?_
    have hl : 1 ≤ ks.length := by cases ks with | nil => exact absurd rfl h0 | cons => simp
    have hl2 : ks.length ≤ w := Nat.le_trans (len_wts ks) hB.2
    have hbig : big = 16777216 := rfl
    obtain ⟨a, s1, e1, a0, a1, st1⟩ := take_ (fns := fns) (i := 6) (j := 4) rfl rfl W (n + 2) p N ks.length s hs (by omega) (by omega) (by omega)
    obtain ⟨b, s2, e2, b0, b1, st2⟩ := take_ (fns := fns) (i := 6) (j := 4) rfl rfl W (n + 2) p _ ks.length s1 st1.pu (by omega) (by omega) (by omega)
    obtain ⟨m, s3, e3, m0, m1, st3⟩ := take_ (fns := fns) (i := 6) (j := 4) rfl rfl W (n + 2) p _ 9 s2 st2.pu (by omega) (by omega) (by omega)
    obtain ⟨i, rfl⟩ := Int.eq_ofNat_of_zero_le a0
    obtain ⟨j, rfl⟩ := Int.eq_ofNat_of_zero_le b0
    have hi : i < ks.length := by omega
    have hj : j < ks.length := by omega
    obtain ⟨x, hx⟩ : ∃ x, ks[i]? = some x := ⟨_, List.getElem?_eq_getElem hi⟩
    obtain ⟨y, hy⟩ : ∃ y, ks[j]? = some y := ⟨_, List.getElem?_eq_getElem hj⟩
    have x1 := atI_nat hx
    have y1 := atI_nat hy
    have bx := hB.mem hx
    have byy := hB.mem hy
    have vx := fine_val bx.1
    have vy := fine_val byy.1
    have st := (st1.trans st2).trans st3
    obtain ⟨o, s4, e4, o1, o2, st4⟩ := odd_ W n p _ s3 st3.pu (by omega)
    have vo := fine_val o1
    have sto := st.trans st4
    obtain ⟨q, s5, e5, q1, st5⟩ := pick_ (fns := fns) (h := 8) (i := 6) (j := 4) rfl rfl rfl W (n + 1) p _ [.str "left", .str "middle", .str "right"] s3 st3.pu (by omega) (by simp) (by simp)
    have q2 : fine 1 q = true ∧ wt q ≤ 60 := by
      have : ([D.str "left", .str "middle", .str "right"].all fun d => fine 1 d && decide (wt d ≤ 60)) = true := by decide +kernel
      have := List.all_eq_true.mp this q q1
      simpa using this
    have vq := fine_val q2.1
    have stq := st.trans st5
    obtain ⟨z, s6, e6, z0, z1, st6⟩ := take_ (fns := fns) (i := 6) (j := 4) rfl rfl W (n + 2) p _ 2 s4 st4.pu (by omega) (by omega) (by omega)
    have stz := sto.trans st6
    have hm : m = 0 ∨ m = 1 ∨ m = 2 ∨ m = 3 ∨ m = 4 ∨ m = 5 ∨ m = 6 ∨ m = 7 ∨ m = 8 := by omega
    have S0 : St p (N + 10) s s3 := st.mono (by omega)
    have S4 : St p (N + 10) s s4 := sto.mono (by omega)
    have S5 : St p (N + 10) s s5 := stq.mono (by omega)
    have S6 : St p (N + 10) s s6 := stz.mono (by omega)
    have t1 := isT_eq x vx
    have t2 := isT_eq y vy
    show wp (exSs _ W (b13.take 4 ++ b13.drop 4)) _ _ _
    rw [q_app]
    generalize hT : nextQ (Mi.run fns W (n + 4)) W (b13.drop 4) _ = T
    simp [b13, f13, e1, e2, e3]
    rw [← hT]
    clear hT e1 e2 e3
    have fin : ∀ {v : Nat} {xs : List D} , Bs v xs → v < 3 * w + 200 → B (3 * w + 200) (.tup xs) := fun h hv => ⟨h.tup.1, by have := h.tup.2; omega⟩
    have set1 : ∀ (d : D), fine 2 d = true → wt d ≤ w + 60 → B (3 * w + 200) (.tup (ks.set i d)) := fun d h1 h2 => fin (hB.set i h1 h2) (by omega)
    have fo : fine 2 o = true := fine_succ o1
    have fq : fine 2 q = true := fine_succ q2.1
    have tt : ∀ (ts : List D) (c : D), fine 2 (.tup ts) = true → fine 1 c = true → ts.length + 1 ≤ big → primF .add [.tup (ts.take 1), .tup [c]] = some (.tup (ts.take 1 ++ [c])) := fun ts c _ _ h => p_addT _ _ (by rw [List.length_take]; simp only [List.length_singleton]; omega)
    have lt2 : ∀ (ts : List D), wt (.tup ts) ≤ w → ts.length + 1 ≤ big := fun ts h => by
      have := len_wts ts
      simp only [wt] at h
      omega
    have e8 : ∀ b : Bool, b = true ∨ b = false := fun b => by cases b <;> simp
    have last : ∀ (Q : Mi.Flow → Mi.Env → Sto → Prop) (en : Mi.Env), (∀ d s', B (3 * w + 200) d → St p (N + 10) s s' → ∀ en, Q (.ret d) en s') → en = [some (.ref p), some (.tup ks), some (.own ks), some (.int i), some (.int j), some (.int m), none] → wp (exS (Mi.run fns W (n + 4)) W (.ret (.prim .idx [(.lst [(.v 2), (.call 12 [(.rf 0)])]), (.call 6 [(.rf 0), (.k (.int 2))])]))) en s3 Q := by
      rintro Q en hQ rfl
      have hz : z = 0 ∨ z = 1 := by omega
      rcases hz with rfl | rfl
      · simp [e4, e6, vo]
        exact hQ _ _ ⟨hB.frz.1, by have := hB.frz.2; omega⟩ S6 _
      · simp [e4, e6, vo]
        exact hQ _ _ ⟨fine_le o1 (by omega), by omega⟩ S6 _
    rcases hm with rfl | rfl | rfl | rfl | rfl | rfl | rfl | rfl | rfl
    · have g1 := mu_popAt ks i x hx
      simp [b13, g1, S0]
      exact fin (v := w) ⟨fun d hd => hB.1 d (List.mem_of_mem_eraseIdx hd), Nat.le_trans (wts_erase ks i) hB.2⟩ (by omega)
    · have g1 := mu_insert ks i y (by omega) (by omega)
      simp [b13, y1, vy, g1, S0]
      refine fin (v := 2 * w) ⟨fun d hd => ?_, ?_⟩ (by omega)
      · rcases List.mem_append.mp hd with h | h
        · exact hB.1 d (List.mem_of_mem_take h)
        · rcases List.mem_cons.mp h with rfl | h
          · exact byy.1
          · exact hB.1 d (List.mem_of_mem_drop h)
      · have q1 : wts (ks.take i) + wts (ks.drop i) = wts ks := by rw [← wts_append, List.take_append_drop]
        have := hB.2
        rw [wts_append]
        simp only [wts]
        omega
    · have g1 := mu_set ks i o hi
      simp [b13, e4, vo, g1, S4]
      exact set1 o fo (by omega)
    · have g1 := mu_set ks i y hi
      have g2 := mu_set (ks.set i y) j x (by simp [hj])
      simp [b13, vx, vy, x1, y1, g1, g2, S0]
      exact fin ((hB.set i byy.1 byy.2).set j bx.1 bx.2) (by omega)
    · cases hT : isT x with
      | true =>
        cases x with
        | tup ts =>
          have g0 := slc1_t ts
          have g1 := tt ts o bx.1 o1 (lt2 ts bx.2)
          have g2 := mu_set ks i (.tup (ts.take 1 ++ [o])) hi
          simp [-List.cons_append, b13, t1, hT, x1, g0, g1, g2, e4, vo, S4]
          exact set1 _ (fine_take1 bx.1 o1) (by have := wt_take1 ts o; omega)
        | _ => cases hT
      | false =>
        simp [-q_ret, b13, t1, hT, x1, vx]
        refine last _ _ ?_ rfl
        intro d s' h1 h2 en
        simp [h1, h2]
    · cases hT : isT x with
      | true =>
        cases x with
        | tup ts =>
          have g0 := slcd1_t ts
          have g1 : primF .add [.tup [o], .tup (ts.drop 1)] = some (.tup (o :: ts.drop 1)) := p_addT _ _ (by have := lt2 ts bx.2; rw [List.length_drop]; simp only [List.length_singleton]; omega)
          have g2 := mu_set ks i (.tup (o :: ts.drop 1)) hi
          simp [-List.cons_append, -List.nil_append, -List.drop_one, b13, t1, hT, x1, g0, g1, g2, e4, vo, S4]
          exact set1 (.tup ([o] ++ ts.drop 1)) (fine_drop1 bx.1 o1) (by have := wt_drop1 ts o; omega)
        | _ => cases hT
      | false =>
        simp [-q_ret, b13, t1, hT, x1, vx]
        refine last _ _ ?_ rfl
        intro d s' h1 h2 en
        simp [h1, h2]
    · cases hT : isT x with
      | true =>
        cases x with
        | tup ts =>
          have g0 := slc1_t ts
          have g1 := tt ts q bx.1 q2.1 (lt2 ts bx.2)
          have g2 := mu_set ks i (.tup (ts.take 1 ++ [q])) hi
          simp [-List.cons_append, b13, t1, hT, x1, g0, g1, g2, e5, vq, S5]
          exact set1 _ (fine_take1 bx.1 q2.1) (by have := wt_take1 ts q; omega)
        | _ => cases hT
      | false =>
        simp [-q_ret, b13, t1, hT, x1, vx]
        refine last _ _ ?_ rfl
        intro d s' h1 h2 en
        simp [h1, h2]
    · cases hT : isT y with
      | true =>
        cases y with
        | tup ts =>
          have g3 := tup_ne_nil ts (plains_of fun d hd => fine_plain (fine_tup.mp byy.1 d hd))
          cases hE : ts.isEmpty with
          | false =>
            have g0 := slc1_t ts
            have g1 := tt ts (.str "right") byy.1 (by decide +kernel) (lt2 ts byy.2)
            have g2 := mu_set ks i (.tup (ts.take 1 ++ [.str "right"])) hi
            simp [-List.cons_append, b13, t2, hT, y1, g0, g1, g2, g3, hE, S0]
            exact set1 _ (fine_take1 byy.1 (by decide +kernel)) (by have := wt_take1 ts (.str "right"); have : wt (.str "right") = 6 := (by decide +kernel); omega)
          | true =>
            simp [-q_ret, b13, t2, hT, y1, g3, hE]
            refine last _ _ ?_ rfl
            intro d s' h1 h2 en
            simp [h1, h2]
        | _ => cases hT
      | false =>
        simp [-q_ret, b13, t2, hT, y1, vy]
        refine last _ _ ?_ rfl
        intro d s' h1 h2 en
        simp [h1, h2]
    · simp [-q_ret, b13]
      refine last _ _ ?_ rfl
      intro d s' h1 h2 en
      simp [h1, h2]
  obtain ⟨d, s', e, h⟩ := ans_run key
  exact ⟨d, s', e, h⟩
end Lk
end
section
set_option Elab.async false
set_option maxRecDepth 100000
set_option linter.all false
namespace Lk
open PySem Mi
def longL (n : Nat) : List D := (List.range n).map fun k => .tup [.str ⟨#[(Str.cps "ABCDEFGHIJKLMNOPQRSTUVWXYZ").toList.getD (k % 26) 0]⟩, .str (if 12 < k then "right" else "left")]
theorem long24 (W n : Nat) (s : Sto) : Mi.run fns W (n + 1) 14 [.int 24] s = .ok (.tup (longL 24)) s := by rfl
theorem long25 (W n : Nat) (s : Sto) : Mi.run fns W (n + 1) 14 [.int 25] s = .ok (.tup (longL 25)) s := by rfl
theorem wl24 : wrongL (.tup (longL 24)) = .non := good_non (by decide +kernel) (by decide) (by decide)
theorem wl25 : wrongL (.tup (longL 25)) = .tup [.str "layout"] := by rfl
theorem lok24 : lOk (.tup (longL 24)) = true := by decide +kernel
theorem lok25 : lOk (.tup (longL 25)) = true := by decide +kernel
theorem layout_eq (W n : Nat) (d : D) (s : Sto) (hd : lOk d = true) : Mi.run fns W (n + 2) 3 [d] s = .ok (wrongL d) s := ans_eq (layout_ W n d s hd)
theorem due_eq (W n : Nat) (d : D) (s : Sto) (hd : lOk d = true) : Mi.run fns W (n + 2) 11 [d] s = .ok (wrongL d) s := ans_eq (due_ W n d s hd)
theorem wl_form (d : D) : wrongL d = .non ∨ (∃ x, wrongL d = .tup [.str x]) ∨ ∃ x k, wrongL d = .tup [.str x, .int k] := by
  have go : ∀ (ds r : List D) (k : Nat), firstW ds k r = .non ∨ (∃ x, firstW ds k r = .tup [.str x]) ∨ ∃ x j, firstW ds k r = .tup [.str x, .int j] := by
    intro ds r
    induction r with
    | nil => intro k; exact .inl rfl
    | cons d r ih =>
      intro k
      simp only [firstW]
      cases h : wrongAt ds k d with
      | none => exact ih (k + 1)
      | some w =>
        obtain ⟨x, rfl⟩ := wrong_hard ds k d w h
        exact .inr (.inr ⟨_, _, rfl⟩)
  cases d with
  | tup ds =>
    simp only [wrongL]
    split
    · exact go ds ds 0
    · exact .inr (.inl ⟨_, rfl⟩)
  | _ => exact .inr (.inl ⟨_, rfl⟩)
theorem wl_val (d : D) : val (wrongL d) = true := by
  rcases wl_form d with h | ⟨x, h⟩ | ⟨x, k, h⟩ <;> rw [h] <;> rfl
theorem wl_ne (d : D) : primF .ne [wrongL d, wrongL d] = some (.bl false) := by
  have h : cmpOk (wrongL d) (wrongL d) = true ∧ (wrongL d).py.plain = true := by
    rcases wl_form d with h | ⟨x, h⟩ | ⟨x, k, h⟩ <;> rw [h] <;> exact ⟨rfl, rfl⟩
  rw [p_ne _ _ h.1]
  have := PySem.SeqAt.eqv_refl_plain _ h.2
  simp only [D.eqv, this, Bool.not_true]
theorem rng_get {lo : Int} {n i : Nat} {d : D} (h : (rngD lo n)[i]? = some d) : d = .int (lo + i) ∧ i < n := by
  have := get_lt h
  simp only [rngD, List.length_map, List.length_range] at this
  simp only [rngD, List.getElem?_map, List.getElem?_range this, Option.map_some] at h
  exact ⟨(Option.some.inj h).symm, this⟩
theorem rng_len (lo : Int) (n : Nat) : (rngD lo n).length = n := by simp [rngD]
theorem rngO_small (i : Int) (h : -1000000 < i) (h2 : i < 1000000) : rngO (.int i) = some (rngD 0 i.toNat) := by
  have : fit62 i = true := by simp only [fit62, decide_eq_true_eq]; omega
  simp only [rngO, this, if_true]
def bnd (i : Nat) : Nat := 500 * 4 ^ i
theorem bnd_step (i : Nat) : 3 * bnd i + 200 ≤ bnd (i + 1) := by
  have : 1 ≤ 4 ^ i := Nat.pos_of_ne_zero (by simp)
  simp only [bnd, Nat.pow_succ]
  omega
theorem law_ (W n : Nat) (ns : List Int) (s : Sto) (hn : ns.length ≤ 63) : ans fns W (n + 6) 15 [.frz (ns.map D.int)] s fun d s' => d = .bl true := by
  refine ans_of (fn := f15) rfl rfl ?_
  have hm : ∃ t : Int, primF .min2 [.int (ns.length : Int), .int 5] = some (.int t) ∧ 0 ≤ t ∧ t ≤ 5 := by
    by_cases h : (5 : Int) < ns.length
    · exact ⟨5, by show some (D.int (if (5 : Int) < ns.length then 5 else ns.length)) = _; rw [if_pos h], by decide, by decide⟩
    · exact ⟨ns.length, by show some (D.int (if (5 : Int) < ns.length then 5 else ns.length)) = _; rw [if_neg h], by omega, by omega⟩
  obtain ⟨t, e0, t0, t1⟩ := hm
  have e1 := rngO_small (2 + t) (by omega) (by omega)
  simp [f15, b15, e0, e1]
  refine wp_for (fun i en s' => ∃ x1 x2 x3 x4 x5 x6, en = [some (.frz (ns.map D.int)), x1, x2, x3, x4, x5, x6]) ⟨_, _, _, _, _, _, rfl⟩ ?_ ?_
  · rintro i d en s' hd ⟨x1, x2, x3, x4, x5, x6, rfl⟩
    obtain ⟨rfl, hi⟩ := rng_get hd
    obtain ⟨c, e2⟩ := at_ (fns := fns) (i := 7) rfl W (n + 4) ns i s' (by omega)
    obtain ⟨v, e3, pv⟩ := purse_ (fns := fns) (i := 5) (j := 4) rfl rfl W (n + 3) c i s' (by omega) (by omega)
    have pu : Pu s'.length 0 (s' ++ [.lst v]) := ⟨v, by simp, pv⟩
    obtain ⟨ds, s1, r, e4, hr, hsub, hne, st1⟩ := layoutA_ (fns := fns) (g := 10) (h := 9) (i := 6) (j := 4) rfl rfl rfl rfl W (n + 1) s'.length 0 _ pu (by decide)
    have hlen : ds.length ≤ 24 := Nat.le_trans hsub.length_le (full_len r hr)
    have hwl := good_non (goodL_sub hsub (full_good r hr)) hne hlen
    have hfd : ∀ d ∈ ds, fine 1 d = true ∧ wt d ≤ 20 := fun d hd => by
      have := List.all_eq_true.mp (full_fine r hr) d (hsub.subset hd)
      simpa using this
    have hBs : Bs 480 ds := ⟨fun d hd => fine_succ (hfd d hd).1, Nat.le_trans (wts_le fun d hd => (hfd d hd).2) (by omega)⟩
    have hB : B (bnd 0) (.tup ds) := ⟨hBs.tup.1, Nat.le_trans hBs.tup.2 (by decide)⟩
    have hlk := fine_lOk hB.1
    have e5 := layout_eq W (n + 3) (.tup ds) s1 hlk
    have e6 := layout_eq W (n + 3) (.tup (longL 24)) s1 lok24
    have e7 := layout_eq W (n + 3) (.tup (longL 25)) s1 lok25
    rw [wl24] at e6
    rw [wl25] at e7
    rw [hwl] at e5
    have e8 := long24 W (n + 4) s1
    have e9 := long25 W (n + 4) s1
    obtain ⟨m, s2, e10, m0, m1, st2⟩ := take_ (fns := fns) (i := 6) (j := 4) rfl rfl W (n + 3) s'.length _ 4 s1 st1.pu (by decide) (by decide) (by decide)
    have e11 := rngO_small m (by omega) (by omega)
    have e12 : primF .ne [.tup [.str "layout"], .tup [.str "layout"]] = some (.bl false) := by rfl
    simp [e2, e3, e4, e5, e6, e7, e8, e9, e10, e11, e12]
    refine wp_for (fun j en s3 => ∃ d x5 x6, en = [some (.frz (ns.map D.int)), some (.int i), some (.ref s'.length), some (.tup ds), some d, x5, x6] ∧ B (bnd j) d ∧ Pu s'.length (0 + 30 + 1 + 10 * j) s3) ⟨.tup ds, _, _, rfl, hB, st2.pu⟩ ?_ ?_
    · rintro j d en s3 hdj ⟨d, x5, x6, rfl, hBd, pu3⟩
      obtain ⟨rfl, hj⟩ := rng_get hdj
      have hj3 : j ≤ 2 := by omega
      have hbj : bnd j < 100000 := by
        rcases (by omega : j = 0 ∨ j = 1 ∨ j = 2) with rfl | rfl | rfl <;> decide
      have vd := fine_val hBd.1
      have t1 := isT_eq d vd
      have hstep := bnd_step j
      have pu4 : Pu s'.length (0 + 30 + 1 + 10 * (j + 1)) s3 := pu3.mono (by omega)
      cases hT : isT d with
      | false =>
        simp [vd, t1, hT]
        exact ⟨⟨hBd.1, by have := hBd.2; omega⟩, pu4⟩
      | true =>
        cases d with
        | tup ks =>
          have hks : Bs (bnd j) ks := ⟨fine_tup.mp hBd.1, by have := hBd.2; simp only [wt] at this; omega⟩
          have g1 := tup_ne_nil ks (plains_of fun d hd => fine_plain (hks.1 d hd))
          cases hE : ks.isEmpty with
          | true =>
            simp [t1, hT, g1, hE]
            exact ⟨⟨hBd.1, by have := hBd.2; omega⟩, pu4⟩
          | false =>
            obtain ⟨d', s4, e13, hB', st4⟩ := bent_ W n s'.length _ (bnd j) ks s3 pu3 (by omega) hks (by intro h; rw [h] at hE; cases hE) hbj
            have vd' := fine_val hB'.1
            simp [t1, hT, g1, hE, e13]
            exact ⟨⟨hB'.1, by have := hB'.2; omega⟩, st4.pu.mono (by omega)⟩
        | _ => cases hT
    · rintro en s3 ⟨d, x5, x6, rfl, hBd, pu3⟩
      rw [rng_len] at hBd
      have vd := fine_val hBd.1
      have hm3 : m.toNat ≤ 3 := by omega
      have hbj : bnd m.toNat ≤ 1000000 := by
        rcases (by omega : m.toNat = 0 ∨ m.toNat = 1 ∨ m.toNat = 2 ∨ m.toNat = 3) with h | h | h | h <;> rw [h] <;> decide
      obtain ⟨x, hx⟩ := fine_pStr hBd.1 (by decide) (Nat.le_trans hBd.2 hbj)
      have hx' : primF .str [d] = some (.str x) := hx
      have hlk := fine_lOk hBd.1
      have f1 := layout_eq W (n + 3) d s3 hlk
      have f2 := due_eq W (n + 3) d s3 hlk
      have f3 := wl_ne d
      have f4 := wl_val d
      simp [vd, hx', f1, f2, f3, f4, arrange]
  · rintro en s' ⟨x1, x2, x3, x4, x5, x6, rfl⟩
    simp
end Lk
end
set_option Elab.async false
set_option maxHeartbeats 8000000 in
theorem PySem.Challenge.cw_chordhand_k01_layouts_and_none_holds : PySem.Challenge.rw_chordhand_k01_layouts_and_none.Holds := by
  refine Lk.holds_of (Wn := 1) (k := 6) ⟨rfl, by decide, by decide⟩ fun ns hn => ?_
  obtain ⟨d, s, e, rfl⟩ := Mi.ans_run (Lk.law_ 1 0 ns [] hn)
  exact ⟨s, e⟩
