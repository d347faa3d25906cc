import PyProof.Rows.All
import Wide.All
import OpenK.AllK
import Wide.FinOn
import KE.DataEq
import KE.DataCmp
import HandS.List
import PyProof.ReprLen
import PyProof.Rows.ReprOcc
import HandS.ForMost
import HandS.ForExc
import HandS.Wide
import HandS.TupAny
import HandS.IsInst
import PyProof.Rows.RuleB_pow
import HandS.TupMul
import HandS.SortInts
import PyProof.ListStr
import HandS.Flow
import HandS.More
import HandS.Small
import HandS.ExcField
import KE.KExcIs
import KE.GoesMore
import PyProof.SeqIndex
import PyProof.ReprRoads
import PyProof.CallStr
import PyProof.EqAt
import HandS.SetFor
import HandS.Style
import HandS.Defaults
import HandS.ExcOwn
import HandS.Strs
import HandS.Conv
import HandS.DictEq
import HandS.HeadEnd
import HandS.Head0
import HandS.Head1
import HandS.Head2
import HandS.HeadHook1
import HandS.HeadHook2
import HandS.HeadHook4
import PyProof.EqKinds
import PyProof.TupleCall
import HandS.ForSpec
import HandS.RaiseMore
import KE.KExcPX
import KE.KStateDown
import PySem.Challenge.RW_chordhand_k11_strokes_told_by_events
section
set_option Elab.async false
set_option linter.all false
/-! Mi, part 1: a small evaluator over deep values (plain Lean). -/
namespace Mi
open PySem

/-- values: tuples are deep; frz: a list that nobody changes any more; own: a list held by this place alone; ref: an object of the store -/
inductive D where
  | non | bl (b : Bool) | int (i : Int) | str (x : Str)
  | tup (ds : List D) | frz (ds : List D) | own (ds : List D)
  | ref (n : Nat)

mutual
def D.beq : D → D → Bool
  | .non, .non => true
  | .bl a, .bl b => a == b
  | .int a, .int b => a == b
  | .str a, .str b => a == b
  | .tup a, .tup b => D.beqs a b
  | .frz a, .frz b => D.beqs a b
  | .own a, .own b => D.beqs a b
  | .ref a, .ref b => a == b
  | _, _ => false
def D.beqs : List D → List D → Bool
  | [], [] => true
  | a :: as, b :: bs => D.beq a b && D.beqs as bs
  | _, _ => false
end

/-- what may stand anywhere: nothing that one place holds alone -/
def D.hard : D → D
  | .own ds => .frz ds
  | d => d

/-- keys of dicts -/
abbrev Ky := Sum Int Str
inductive O where
  | lst (ds : List D)
  | dic (kvs : List (Ky × D))
  | exn (cls : Str) (k : Option Nat)
  | xdt (fs : List (Str × D))
  | ins (c : Nat) (fs : List (Str × D))
  | ldic (t : Nat) (kvs : List (Ky × D))

structure Ex where
  cls : Str
  fs : List (Str × D)

abbrev Env := List (Option D)
abbrev Sto := List O

inductive R (α : Type) where
  | ok (a : α) (e : Env) (s : Sto)
  | exc (x : Ex) (e : Env) (s : Sto)
  | stuck

abbrev M (α : Type) := Env → Sto → R α
def M.ret {α : Type} (a : α) : M α := fun e s => .ok a e s
def M.stuck {α : Type} : M α := fun _ _ => .stuck
def R.bind {α β : Type} (r : R α) (f : α → M β) : R β := match r with
  | .ok a e s => f a e s
  | .exc x e s => .exc x e s
  | .stuck => .stuck
def M.bind {α β : Type} (m : M α) (f : α → M β) : M β := fun e s => (m e s).bind f
def M.opt {α : Type} (o : Option α) : M α := match o with
  | some a => .ret a
  | none => .stuck

/-- a call's end -/
inductive C where
  | ok (d : D) (s : Sto)
  | exc (x : Ex) (s : Sto)
  | stuck
abbrev Calls := Nat → List D → Sto → C

inductive Flow where
  | next | ret (d : D) | brk | cont

/-- the pure things that are done to values -/
inductive P where
  | add | sub | mul | mod | fdiv | pow
  | eq | ne | lt | le | gt | ge | in_ | notin | isN | notN
  | neg | not_ | idx | len | isi (t : Nat) | list | tuple | min2 | max2 | int | str | rev | min1 | max1 | all1 | any1 | sort1 | sset1 | lrng1
  | slc (lo hi : Bool)
  | m (name : Nat)
/-- the things that change an object -/
inductive Mu where
  | append | pop | popAt | insert | extend | set | remove

/-- what is read of a dict -/
inductive Dr where
  | get | has | hasnt
mutual
inductive E where
  | v (i : Nat) | mv (i : Nat) | rf (i : Nat) | box (e : E)
  | k (d : D)
  | prim (p : P) (es : List E)
  | chain (p q : P) (a b c : E)
  | tup (es : List E) | lst (es : List E)
  | call (f : Nat) (es : List E)
  | and_ (a b : E) | or_ (a b : E) | not_ (a : E) | cond (c a b : E)
  | mut (m : Mu) (tgt : E) (es : List E)
  | meth (p : P) (tgt : E) (es : List E)
  | callA (f : Nat) (es ks : List E) (arr : List (Nat ⊕ D))
  | lc (own : List Nat) (g : G) (it : I) (ifs : List E) (elt : E)
  | isx (ys ns : List Str) (c : Str) (e : E) | xfld (cs : List Str) (e : E) (f : Str)
  | deq0 (tgt : E) | dsort (tgt : E) | ext (i : Nat) (e : E) | lkd (i : Nat) (e : E)
  | dnew | dget (tgt k : E) | dhas (neg : Bool) (k tgt : E) | dpop (tgt k : E)
inductive G where
  | nm (i : Nat) | tp (gs : List G) | sub (o i : E) | att (o : E) (f : Str) | dsub (o i : E)
inductive I where
  | seq (e : E) | rng1 (a : E) | rng2 (a b : E) | enum (e : E) | keys (e : E)
end

inductive S where
  | asg (g : G) (e : E)
  | ex (e : E)
  | ret (e : E)
  | ite (c : E) (a b : List S)
  | for_ (g : G) (it : I) (body : List S)
  | while_ (c : E) (body : List S)
  | brk | cont | pass | bad
  | raise (c : Str) (fs : List Str) (es : List E)
  | tryK (body : List S) (c : Str) (cs : List Str) (i j : Nat)

structure Fn where
  np : Nat
  nl : Nat
  body : List S
end Mi
end
section
set_option Elab.async false
set_option linter.all false
namespace Mi
open PySem

abbrev big : Nat := 16777216

/-! ### values as data -/
mutual
def D.plain : D → Bool
  | .tup ds => D.plains ds
  | .frz ds => D.plains ds
  | .own ds => D.plains ds
  | .ref _ => false
  | _ => true
def D.plains : List D → Bool
  | [] => true
  | d :: ds => D.plain d && D.plains ds
end
mutual
def D.py : D → PyData
  | .non => .none
  | .bl b => .bool b
  | .int i => .int i
  | .str x => .str x
  | .tup ds => .tuple (D.pys ds)
  | .frz ds => .list (D.pys ds)
  | .own ds => .list (D.pys ds)
  | .ref _ => .none
def D.pys : List D → List PyData
  | [] => []
  | d :: ds => D.py d :: D.pys ds
end
/-! nothing that one place holds alone, at no depth -/
mutual
def D.solid : D → Bool
  | .own _ => false
  | .tup ds => D.solids ds
  | .frz ds => D.solids ds
  | _ => true
def D.solids : List D → Bool
  | [] => true
  | d :: ds => D.solid d && D.solids ds
end

def D.lst? : D → Option (List D)
  | .own ds => some ds
  | .frz ds => some ds
  | _ => none
/-- a list or a tuple -/
def D.seq? : D → Option (List D)
  | .own ds => some ds
  | .frz ds => some ds
  | .tup ds => some ds
  | _ => none
def cmpOk (a b : D) : Bool := D.plain a && D.plain b && decide (min a.py.depth b.py.depth ≤ 60)
def D.eqv (a b : D) : Bool := PyData.eqv a.py b.py
def truthy : D → Option Bool
  | .non => some false
  | .bl b => some b
  | .int i => some (i != 0)
  | .str x => if x.length ≤ big then some (x.length != 0) else none
  | .tup ds => some (!ds.isEmpty)
  | .own ds => some (!ds.isEmpty)
  | .frz ds => some (!ds.isEmpty)
  | _ => none
abbrev cutD (ds : List D) (lo hi : Option Int) : List D := (ds.drop (HT.sIx ds.length 0 lo)).take (HT.sIx ds.length ds.length hi - HT.sIx ds.length 0 lo)
def isiD : Nat → D → Option Bool
  | 0, d => (match d with | .int _ => some true | .bl _ => some true | .ref _ => none | _ => some false)
  | 1, d => (match d with | .str _ => some true | .ref _ => none | _ => some false)
  | 2, d => (match d with | .tup _ => some true | .ref _ => none | _ => some false)
  | 3, d => (match d with | .own _ => some true | .frz _ => some true | .ref _ => none | _ => some false)
  | 4, d => (match d with | .bl _ => some true | .ref _ => none | _ => some false)
  | _, _ => none

/-! ### the pure things -/
def pAdd : D → D → Option D
  | .int a, .int b => some (.int (a + b))
  | .str a, .str b => if a.length + b.length ≤ big then some (.str (a ++ b)) else none
  | .tup a, .tup b => if a.length + b.length ≤ big then some (.tup (a ++ b)) else none
  | a, b => match a.lst?, b.lst? with
    | some x, some y => if x.length + y.length ≤ big then some (.own (x ++ y)) else none
    | _, _ => none
def allI {α : Type} (f : α → Option Int) : List α → Option (List Int)
  | [] => some []
  | x :: xs => (match f x, allI f xs with
    | some i, some l => some (i :: l)
    | _, _ => none)
def D.int? : D → Option Int
  | .int i => some i
  | _ => none
def sortI (ns : List Int) : List Int := ns.mergeSort fun a b => decide (a ≤ b)
/-- without twins -/
def nubI : List Int → List Int
  | [] => []
  | n :: ns => if (nubI ns).contains n then nubI ns else n :: nubI ns
def allB : List D → Option (List Bool)
  | [] => some []
  | x :: xs => (match x, allB xs with
    | .bl b, some l => some (b :: l)
    | _, _ => none)
def pMul : D → D → Option D
  | .int a, .int b => if a.natAbs.log2 + b.natAbs.log2 < 1000000 then some (.int (a * b)) else none
  | .tup ds, .int k => if ds ≠ [] ∧ 2 ≤ k ∧ k ≤ 1000 ∧ ds.length ≤ 1000 then some (.tup (List.replicate k.toNat ds).flatten) else none
  | _, _ => none
def pMod : D → D → Option D
  | .int a, .int b => if b ≠ 0 then some (.int (a.fmod b)) else none
  | _, _ => none
def pFdiv : D → D → Option D
  | .int a, .int b => if b ≠ 0 ∧ b.natAbs < 1073741824 then some (.int (a.fdiv b)) else none
  | _, _ => none
def pPow : D → D → Option D
  | .int a, .int b => if 0 ≤ b ∧ (Builtin.Int.intBits a : Int) * b ≤ 134217728 then some (.int (a ^ b.toNat)) else none
  | _, _ => none
def pCmp (f : Int → Int → Bool) (g : List Nat → List Nat → Bool) : D → D → Option D
  | .int a, .int b => some (.bl (f a b))
  | .str a, .str b => some (.bl (g a.cps.toList b.cps.toList))
  | _, _ => none
def pEq (n : Bool) (a b : D) : Option D := if cmpOk a b then some (.bl (D.eqv a b != n)) else none
def pIn (n : Bool) (x : D) : D → Option D
  | .str z => (match x with
    | .str y => some (.bl ((!(Builtin.Str.occurrences z y 0 z.length 1).isEmpty) != n))
    | _ => none)
  | d => match d.seq? with
    | some ds => if cmpOk x x && D.plains ds then some (.bl ((ds.any fun z => D.eqv z x) != n)) else none
    | none => none
def pIdx : D → D → Option D
  | .str z, .int i => if z.length ≤ big then (L2.atI z.cps.toList i).map fun c => .str ⟨#[c]⟩ else none
  | d, .int i => d.seq?.bind fun ds => L2.atI ds i
  | _, _ => none
def pLen : D → Option D
  | .str z => if z.length ≤ big then some (.int z.length) else none
  | d => d.seq?.bind fun ds => some (.int ds.length)
def pSlc (d : D) (lo hi : Option Int) : Option D := match d with
  | .tup ds => some (.tup (cutD ds lo hi))
  | d => d.lst?.bind fun ds => some (.own (cutD ds lo hi))
def pIndex (ds : List D) (x : D) : Option D := if cmpOk x x && D.plains ds then (if (ds.map fun z => D.eqv z x).contains true then some (.int ((ds.map fun z => D.eqv z x).idxOf true : Nat)) else none) else none
def pCount (ds : List D) (x : D) : Option D := if cmpOk x x && D.plains ds then some (.int (ds.countP (fun z => D.eqv z x) : Nat)) else none
def charsD (x : Str) : List D := x.cps.toList.map fun c => .str ⟨#[c]⟩
def pList : D → Option D
  | .str x => if x.cps.size ≤ big then some (.own (charsD x)) else none
  | d => d.seq?.bind fun ds => some (.own ds)
/-- str(d) -/
def pStr : D → Option D
  | .str x => some (.str x)
  | d => if D.plain d && d.py.showable && decide (d.py.depth ≤ 60) && decide (d.py.shown.length ≤ big) then some (.str d.py.shown) else none
def primF : P → List D → Option D
  | .m 0, [d, x] => d.lst?.bind fun ds => pIndex ds x
  | .m 1, [.tup ds, x] => pIndex ds x
  | .m 2, [d, x] => d.lst?.bind fun ds => pCount ds x
  | .str, [d] => pStr d
  | .add, [a, b] => pAdd a b
  | .sub, [.int a, .int b] => some (.int (a - b))
  | .mul, [a, b] => pMul a b
  | .mod, [a, b] => pMod a b
  | .fdiv, [a, b] => pFdiv a b
  | .pow, [a, b] => pPow a b
  | .eq, [a, b] => pEq false a b
  | .ne, [a, b] => pEq true a b
  | .lt, [a, b] => pCmp (fun i j => decide (i < j)) (fun i j => decide (i < j)) a b
  | .le, [a, b] => pCmp (fun i j => decide (i ≤ j)) (fun i j => !decide (j < i)) a b
  | .gt, [a, b] => pCmp (fun i j => decide (j < i)) (fun i j => decide (j < i)) a b
  | .ge, [a, b] => pCmp (fun i j => decide (j ≤ i)) (fun i j => !decide (i < j)) a b
  | .in_, [a, b] => pIn false a b
  | .notin, [a, b] => pIn true a b
  | .isN, [d] => some (.bl (match d with | .non => true | _ => false))
  | .notN, [d] => some (.bl (match d with | .non => false | _ => true))
  | .neg, [.int a] => some (.int (-a))
  | .idx, [a, b] => pIdx a b
  | .len, [d] => pLen d
  | .isi t, [d] => (isiD t d).map D.bl
  | .list, [d] => pList d
  | .tuple, [d] => d.seq?.bind fun ds => some (.tup ds)
  | .min2, [.int a, .int b] => some (.int (if b < a then b else a))
  | .max2, [.int a, .int b] => some (.int (if b > a then b else a))
  | .int, [.int a] => some (.int a)
  | .int, [.bl b] => some (.int (if b then 1 else 0))
  | .slc false false, [d] => pSlc d none none
  | .slc true false, [d, .int i] => pSlc d (some i) none
  | .slc false true, [d, .int j] => pSlc d none (some j)
  | .slc true true, [d, .int i, .int j] => pSlc d (some i) (some j)
  | .rev, [d] => d.lst?.bind fun ds => some (.own ds.reverse)
  | .min1, [d] => d.lst?.bind fun ds => (allI D.int? ds).bind fun ns => ns.min?.map .int
  | .max1, [d] => d.lst?.bind fun ds => (allI D.int? ds).bind fun ns => ns.max?.map .int
  | .all1, [d] => d.lst?.bind fun ds => (allB ds).map fun bs => .bl (bs.all id)
  | .any1, [d] => d.lst?.bind fun ds => (allB ds).map fun bs => .bl (bs.any id)
  | .sort1, [d] => d.lst?.bind fun ds => (allI D.int? ds).map fun ns => .own ((sortI ns).map .int)
  | .sset1, [d] => d.seq?.bind fun ds => (allI D.int? ds).bind fun ns => if ns.length < 64 then some (.own ((sortI (nubI ns)).map .int)) else none
  | .lrng1, [.int n] => if 0 ≤ n ∧ n < 1000000 then some (.own ((List.range n.toNat).map fun (i : Nat) => D.int i)) else none
  | _, _ => none

/-- a list is changed: what it is then, and what is told (over values of any kind) -/
def muG {α : Type} (non : α) (int? : α → Option Int) : Mu → List α → List α → Option (List α × α)
  | .append, xs, [d] => if xs.length < big then some (xs ++ [d], non) else none
  | .pop, xs, [] => (xs[xs.length - 1]?).bind fun d => some (xs.dropLast, d)
  | .popAt, xs, [k] => (int? k).bind fun i => (L2.ixN xs.length i).bind fun j => (xs[j]?).bind fun d => some (xs.eraseIdx j, d)
  | .set, xs, [k, d] => (int? k).bind fun i => (L2.ixN xs.length i).map fun j => (xs.set j d, non)
  | .insert, xs, [k, d] => (int? k).bind fun i => if 0 ≤ i ∧ i < 2 ^ 63 ∧ xs.length < big then some (xs.take i.toNat ++ d :: xs.drop i.toNat, non) else none
  | .remove, xs, [k] => (int? k).bind fun i => (allI int? xs).bind fun ns => if i ∈ ns then some (xs.eraseIdx (ns.idxOf i), non) else none
  | _, _, _ => none
def muF : Mu → List D → List D → Option (List D × D) := muG .non D.int?

/-! ### dicts -/
def keyD : D → Option Ky
  | .int i => some (.inl i)
  | .str x => some (.inr x)
  | _ => none
def valD (kvs : List (Ky × D)) (k : Ky) : Option D := (kvs.find? fun kv => decide (kv.1 = k)).map (·.2)
def putD (kvs : List (Ky × D)) (k : Ky) (v : D) : List (Ky × D) :=
  if (kvs.any fun kv => decide (kv.1 = k)) = true then kvs.map (fun kv => if kv.1 = k then (kv.1, v) else kv) else kvs ++ [(k, v)]
def dropD (kvs : List (Ky × D)) (k : Ky) : List (Ky × D) := kvs.filter fun kv => decide (kv.1 ≠ k)
def drF : Dr → List (Ky × D) → Ky → Option D
  | .get, kvs, k => valD kvs k
  | .has, kvs, k => some (.bl (valD kvs k).isSome)
  | .hasnt, kvs, k => some (.bl (!(valD kvs k).isSome))
/-! ### the evaluator -/
/-- an object looked at as it stands -/
def derefD (s : Sto) : D → D
  | .ref n => (match s[n]? with
    | some (.lst ds) => .own ds
    | _ => .ref n)
  | d => d
def primM (p : P) (ds : List D) : M D := fun e s => M.opt (primF p (ds.map (derefD s))) e s
def truM (d : D) : M Bool := fun e s => M.opt (truthy (derefD s d)) e s
def getV (i : Nat) : M D := fun e s => match e[i]? with
  | some (some d) => .ok d e s
  | _ => .stuck
/-- used: what this name alone held is shared from now on -/
def useV (i : Nat) : M D := fun e s => match e[i]? with
  | some (some (.own ds)) => .ok (.frz ds) (e.set i (some (.frz ds))) s
  | some (some d) => .ok d e s
  | _ => .stuck
def moveV (i : Nat) : M D := fun e s => match e[i]? with
  | some (some d) => .ok d (e.set i none) s
  | _ => .stuck
def refV (i : Nat) : M D := fun e s => match e[i]? with
  | some (some (.own ds)) => .ok (.ref s.length) (e.set i (some (.ref s.length))) (s ++ [.lst ds])
  | some (some d) => .ok d e s
  | _ => .stuck
/-- a list that this place alone holds becomes an object of the store -/
def boxM (d : D) : M D := fun e s => match d with
  | .own ds => .ok (.ref s.length) e (s ++ [.lst ds])
  | d => .ok d e s
/-- what may not raise -/
def M.calm {α : Type} (m : M α) : M α := fun e s => match m e s with
  | .exc _ _ _ => .stuck
  | r => r
def setV (i : Nat) (d : D) : M Unit := fun e s => .ok () (e.set i (some d)) s
def wipeE : List Nat → Env → Env
  | [], e => e
  | i :: is, e => (wipeE is e).set i none
def wipeV (is : List Nat) : M Unit := fun e s => .ok () (wipeE is e) s
def callM (cf : Calls) (f : Nat) (ds : List D) : M D := fun e s => match cf f ds s with
  | .ok d s' => .ok d e s'
  | .exc x s' => .exc x e s'
  | .stuck => .stuck
/-- the list at a place is changed -/
def mutM (m : Mu) (d0 : D) (slot : Option Nat) (as : List D) : M D := fun e s => match d0 with
  | .own ds => (match slot, muF m ds as with
    | some i, some (ds', r) => .ok r (e.set i (some (.own ds'))) s
    | _, _ => .stuck)
  | .ref n => (match s[n]? with
    | some (.lst ds) => (match muF m ds as with
      | some (ds', r) => .ok r e (s.set n (.lst ds'))
      | none => .stuck)
    | _ => .stuck)
  | _ => .stuck
/-- the dict at a place -/
def dicAt (s : Sto) : D → Option (Nat × List (Ky × D))
  | .ref n => (match s[n]? with
    | some (.dic kvs) => some (n, kvs)
    | _ => none)
  | _ => none
/-! a dict that is walked -/
def ldicAt (s : Sto) : D → Option (Nat × List (Ky × D))
  | .ref n => (match s[n]? with
    | some (.ldic t kvs) => if t = n then some (n, kvs) else none
    | _ => none)
  | _ => none
def lockM (d : D) : M Nat := fun e s => match dicAt s d with
  | some (n, kvs) => .ok n e (s.set n (.ldic n kvs))
  | none => .stuck
def unlockM (n : Nat) (r : D) : M D := fun e s => match ldicAt s (.ref n) with
  | some (_, kvs) => .ok r e (s.set n (.dic kvs))
  | none => .stuck
def kyD : Ky → D
  | .inl i => .int i
  | .inr x => .str x
def keysM (d : D) : M (List D) := fun e s => match ldicAt s d with
  | some (_, kvs) => .ok (kvs.map fun kv => kyD kv.1) e s
  | none => .stuck
/-- a dict, walked or not -/
def rdAt (s : Sto) (d : D) : Option (Nat × List (Ky × D)) := (dicAt s d).or (ldicAt s d)
def dnewM : M D := fun e s => .ok (.ref s.length) e (s ++ [.dic []])
def drM (o : Dr) (d x : D) : M D := fun e s => match rdAt s d, keyD x with
  | some (_, kvs), some k => M.opt (drF o kvs k) e s
  | _, _ => .stuck
def lookD (d : D) : M Unit := fun e s => match dicAt s d with
  | some _ => .ok () e s
  | none => .stuck
def dpopM (d x : D) : M D := fun e s => match dicAt s d, keyD x with
  | some (n, kvs), some k => (match valD kvs k with
    | some v => .ok v e (s.set n (.dic (dropD kvs k)))
    | none => .stuck)
  | _, _ => .stuck
def dputM (d x v : D) : M Unit := fun e s => match dicAt s d, keyD x with
  | some (n, kvs), some k => if kvs.length < big then .ok () e (s.set n (.dic (putD kvs k v))) else .stuck
  | _, _ => .stuck
/-- d == {} -/
def deqM (d : D) : M D := fun e s => match dicAt s d with
  | some (_, kvs) => .ok (.bl kvs.isEmpty) e s
  | none => .stuck
def kyI : Ky → Option Int
  | .inl i => some i
  | .inr _ => none
/-- sorted(d), its keys ints -/
def dsortM (d : D) : M D := fun e s => match dicAt s d with
  | some (_, kvs) => (match allI (fun kv : Ky × D => kyI kv.1) kvs with
    | some ns => if ns.length < 64 then .ok (.own ((sortI ns).map .int)) e s else .stuck
    | none => .stuck)
  | none => .stuck
/-- a list at a name gets the items of a list that this place alone holds -/
def extM (i : Nat) (d : D) : M D := fun e s => match e[i]?, d with
  | some (some (.own xs)), .own ys => if xs.length + ys.length ≤ big then .ok .non (e.set i (some (.own (xs ++ ys)))) s else .stuck
  | _, _ => .stuck
/-- a kept error's dict stands -/
def exnOk (s : Sto) : Option Nat → Bool
  | none => true
  | some k => (match s[k]? with
    | some (.xdt _) => true
    | _ => false)
/-- isinstance(d, an own error class) -/
def isxM (ys ns : List Str) (d : D) : M D := fun e s => match d with
  | .non => .ok (.bl false) e s
  | .ref n => (match s[n]? with
    | some (.exn cls k) => if exnOk s k then (if ys.contains cls then .ok (.bl true) e s else if ns.contains cls then .ok (.bl false) e s else .stuck) else .stuck
    | _ => .stuck)
  | _ => .stuck
/-- what an error tells -/
def xfldM (cs : List Str) (f : Str) (d : D) : M D := fun e s => match d with
  | .ref n => (match s[n]? with
    | some (.exn c (some k)) => (match s[k]? with
      | some (.xdt fs) => if cs.contains c then M.opt (fs.lookup f) e s else .stuck
      | _ => .stuck)
    | _ => .stuck)
  | _ => .stuck
def raiseM (c : Str) (fs : List Str) (ds : List D) : M Flow := fun e s => if fs.length = ds.length then .exc ⟨c, fs.zip (ds.map D.hard)⟩ e s else .stuck
/-- an exception that is kept: its place, and the store behind it -/
def keepX (x : Ex) (s : Sto) : Nat × Sto := match x.fs with
  | [] => (s.length, s ++ [.exn x.cls none])
  | fs => (s.length + 1, s ++ [.xdt fs, .exn x.cls (some s.length)])
def tryM (cs : List Str) (i j : Nat) (m : M Flow) : M Flow := fun e s => match m e s with
  | .exc x e' s' => if cs.contains x.cls then .ok .next (((e'.set i (some (.ref (keepX x s').1))).set j (some (.ref (keepX x s').1))).set i none) (keepX x s').2 else .stuck
  | r => r
def slotOf : E → Option Nat
  | .v i => some i
  | _ => none
def seqItems : D → Option (List D)
  | .tup ds => some ds
  | .own ds => some ds
  | .frz ds => some ds
  | .str x => some (charsD x)
  | _ => none
def asB (m : M D) : M Bool := m.bind fun d => truM d
/-- a comprehension's turns -/
def lcL (own : List Nat) (bd : D → M Unit) (test : M Bool) (elt : M D) : List D → List D → M (List D)
  | [], acc => .ret acc
  | d :: ds, acc => (bd d).bind fun _ => test.bind fun b => if b then elt.bind fun y => if acc.length < big then (wipeV own).bind fun _ => lcL own bd test elt ds (acc ++ [y.hard]) else .stuck
    else (wipeV own).bind fun _ => lcL own bd test elt ds acc
def allM : List (M Bool) → M Bool
  | [] => .ret true
  | m :: ms => m.bind fun b => if b then allM ms else .ret false
def rngD (lo : Int) (n : Nat) : List D := (List.range n).map fun (i : Nat) => D.int (lo + i)
def enumD : Nat → List D → List D
  | _, [] => []
  | i, d :: ds => .tup [.int i, d] :: enumD (i + 1) ds
def fit62 (i : Int) : Bool := decide (-(2 ^ 62) ≤ i ∧ i < 2 ^ 62)

/-- a value's truth, as a test -/
def vt (m : M D) : M D × M Bool := (m, m.bind fun d => truM d)
/-- is it a list that may be changed -/
def lookL (d : D) : M Unit := fun e s => match d with
  | .own _ => .ok () e s
  | .ref n => (match s[n]? with
    | some (.lst _) => .ok () e s
    | _ => .stuck)
  | _ => .stuck
def lookP (slot : Option Nat) (r : Option D) : M Unit := match r with
  | some d => lookL d
  | none => (match slot with
    | some i => (getV i).bind lookL
    | none => .stuck)
/-- what stands at a place now -/
def fin1 (slot : Option Nat) (r : Option D) : M D := match r with
  | some d => .ret d
  | none => (match slot with
    | some i => getV i
    | none => .stuck)
/-- of the kind whose method it is -/
def kindM : P → D → Bool
  | .m 0, .own _ => true
  | .m 0, .frz _ => true
  | .m 1, .tup _ => true
  | .m 2, .own _ => true
  | .m 2, .frz _ => true
  | .m 2, _ => false
  | .m (_ + 2), .str _ => true
  | _, _ => false
def lookM (p : P) (slot : Option Nat) (r : Option D) : M Unit := (fin1 slot r).bind fun d => if kindM p d then .ret () else .stuck
/-- arguments by their places, defaults between them -/
def arrange (arr : List (Nat ⊕ D)) (ds : List D) : List D := arr.map fun a => match a with
  | .inl i => ds.getD i .non
  | .inr d => d
/-- a borrowed operand -/
def opB : E → M D → M (List D) → M (List D)
  | .v i, _, r => (getV i).bind fun _ => r.bind fun ds => (getV i).bind fun d => .ret (d :: ds)
  | _, m, r => m.bind fun d => r.bind fun ds => .ret (d :: ds)
/-- a place: a name is looked at later -/
def pl1 : E → M D → M (Option D)
  | .v i, _ => (getV i).bind fun _ => .ret none
  | _, m => m.bind fun d => .ret (some d)
mutual
/-- as a value, and as a test -/
def ev2 (cf : Calls) : E → M D × M Bool
  | .v i => (useV i, (getV i).bind fun d => truM d)
  | .mv i => vt (moveV i)
  | .rf i => vt (refV i)
  | .box x => vt ((ev2 cf x).1.bind boxM)
  | .k d => vt (.ret d)
  | .prim p es => vt ((ops cf es).bind fun ds => primM p ds)
  | .chain p q a b c => vt ((ev2 cf a).1.bind fun x => (ev2 cf b).1.bind fun y => (primM p [x, y]).bind fun z => (match z with
      | .bl k => if k then (ev2 cf c).1.bind fun w => primM q [y, w] else .ret (.bl false)
      | _ => .stuck))
  | .tup es => vt ((evs cf es).bind fun ds => if ds.length ≤ big then .ret (.tup (ds.map D.hard)) else .stuck)
  | .lst es => vt ((evs cf es).bind fun ds => if ds.length ≤ big then .ret (.own (ds.map D.hard)) else .stuck)
  | .call f es => vt ((evs cf es).bind fun ds => callM cf f ds)
  | .and_ a b => ((ev2 cf a).1.bind fun d => (truM d).bind fun t => if t then (ev2 cf b).1 else .ret d, (ev2 cf a).2.bind fun t => if t then (ev2 cf b).2 else .ret false)
  | .or_ a b => ((ev2 cf a).1.bind fun d => (truM d).bind fun t => if t then .ret d else (ev2 cf b).1, (ev2 cf a).2.bind fun t => if t then .ret true else (ev2 cf b).2)
  | .not_ a => ((ev2 cf a).1.bind fun d => (truM d).bind fun b => .ret (.bl (!b)), (ev2 cf a).2.bind fun t => .ret (!t))
  | .cond c a b => vt ((ev2 cf c).2.bind fun t => if t then (ev2 cf a).1 else (ev2 cf b).1)
  | .mut m tgt es => vt ((pl1 tgt (ev2 cf tgt).1).bind fun r => (lookP (slotOf tgt) r).bind fun _ => (evs cf es).bind fun as => (match r with
      | none => (match slotOf tgt with
        | some i => (getV i).bind fun d0 => mutM m d0 (some i) (as.map D.hard)
        | none => .stuck)
      | some d0 => mutM m d0 none (as.map D.hard)))
  | .meth p tgt es => vt ((pl1 tgt (ev2 cf tgt).1).bind fun r => (lookM p (slotOf tgt) r).bind fun _ => (ops cf es).bind fun ds => (fin1 (slotOf tgt) r).bind fun d => primM p (d :: ds))
  | .callA f es ks arr => vt ((evs cf es).bind fun ds => (evs cf ks).bind fun zs => if ds.length = es.length ∧ zs.length = ks.length then callM cf f (arrange arr ((ds ++ zs).map D.hard)) else .stuck)
  | .isx ys ns _ x => vt ((ev2 cf x).1.bind fun d => isxM ys ns d)
  | .xfld cs x f => vt ((ev2 cf x).1.bind fun d => xfldM cs f d)
  | .lkd i x => vt ((getV i).bind fun d => (lockM d).bind fun n => (ev2 cf x).1.calm.bind fun r => unlockM n r)
  | .deq0 tgt => vt ((ev2 cf tgt).1.bind deqM)
  | .dsort tgt => vt ((ev2 cf tgt).1.bind dsortM)
  | .ext i x => vt ((getV i).bind fun d0 => (lookL d0).bind fun _ => (ev2 cf x).1.bind fun d => extM i d)
  | .dnew => vt dnewM
  | .dget tgt k => vt ((ev2 cf tgt).1.bind fun x => (ev2 cf k).1.bind fun y => drM .get x y)
  | .dhas neg k tgt => vt ((ev2 cf k).1.bind fun y => (ev2 cf tgt).1.bind fun x => drM (if neg then .hasnt else .has) x y)
  | .dpop tgt k => vt ((ev2 cf tgt).1.bind fun x => (lookD x).bind fun _ => (ev2 cf k).1.bind fun y => dpopM x y)
  | .lc own g it ifs elt => vt ((iter cf it).bind fun p => (wipeV own).bind fun _ => (lcL own (fun d => (asgG cf g d).calm) (tsts cf ifs).calm (ev2 cf elt).1.calm p []).bind fun ds => .ret (.own ds))
def evs (cf : Calls) : List E → M (List D)
  | [] => .ret []
  | e :: es => (ev2 cf e).1.bind fun d => (evs cf es).bind fun ds => .ret (d :: ds)
def ops (cf : Calls) : List E → M (List D)
  | [] => .ret []
  | e :: es => opB e (ev2 cf e).1 (ops cf es)
def tsts (cf : Calls) : List E → M Bool
  | [] => .ret true
  | e :: es => (ev2 cf e).2.bind fun b => if b then tsts cf es else .ret false
def iter (cf : Calls) : I → M (List D)
  | .seq e => (ev2 cf e).1.bind fun d => M.opt (seqItems d)
  | .rng1 a => (ev2 cf a).1.bind fun d => M.opt (match d with | .int n => if fit62 n then some (rngD 0 n.toNat) else none | _ => none)
  | .rng2 a b => (ev2 cf a).1.bind fun d => (ev2 cf b).1.bind fun f => M.opt (match d, f with | .int l, .int h => if fit62 l && fit62 h then some (rngD l (h - l).toNat) else none | _, _ => none)
  | .keys e => (ev2 cf e).1.bind fun d => keysM d
  | .enum e => (ev2 cf e).1.bind fun d => M.opt ((match d with | .str _ => none | d => seqItems d).map (enumD 0))
def asgG (cf : Calls) : G → D → M Unit
  | .nm i => fun d => setV i d
  | .tp gs => fun d => (match d with
    | .tup ds => if ds.length = gs.length then asgGs cf gs ds else .stuck
    | _ => .stuck)
  | .sub o i => fun d => (pl1 o (ev2 cf o).1).calm.bind fun r => (ev2 cf i).1.calm.bind fun j => (match r with
      | none => (match slotOf o with
        | some n => (getV n).bind fun d0 => (mutM .set d0 (some n) [j.hard, d.hard]).bind fun _ => .ret ()
        | none => .stuck)
      | some d0 => (mutM .set d0 none [j.hard, d.hard]).bind fun _ => .ret ())
  | .att o f => fun d => .stuck
  | .dsub o i => fun d => (ev2 cf o).1.calm.bind fun x => (ev2 cf i).1.calm.bind fun k => dputM x k d.hard
def asgGs (cf : Calls) : List G → List D → M Unit
  | [] => fun ds => (match ds with | [] => .ret () | _ :: _ => .stuck)
  | g :: gs => fun ds => (match ds with | d :: ds => (asgG cf g d).bind fun _ => asgGs cf gs ds | [] => .stuck)
end
abbrev ev (cf : Calls) (e : E) : M D := (ev2 cf e).1
abbrev tst (cf : Calls) (e : E) : M Bool := (ev2 cf e).2

def forL (bd : D → M Unit) (body : M Flow) : List D → M Flow
  | [] => .ret .next
  | d :: ds => (bd d).bind fun _ => body.bind fun f => match f with
    | .next => forL bd body ds
    | .cont => forL bd body ds
    | .brk => .ret .next
    | .ret d => .ret (.ret d)
def whileL (test : M Bool) (body : M Flow) : Nat → M Flow
  | 0 => .stuck
  | n + 1 => test.bind fun t => if t then body.bind fun f => match f with
    | .next => whileL test body n
    | .cont => whileL test body n
    | .brk => .ret .next
    | .ret d => .ret (.ret d)
    else .ret .next

mutual
def exS (cf : Calls) (W : Nat) : S → M Flow
  | .asg g e => (ev cf e).bind fun d => (asgG cf g d).calm.bind fun _ => .ret .next
  | .ex e => (ev cf e).bind fun _ => .ret .next
  | .ret e => (ev cf e).bind fun d => .ret (.ret d)
  | .ite c a b => (tst cf c).bind fun t => if t then exSs cf W a else exSs cf W b
  | .for_ g it body => (iter cf it).bind fun ds => forL (fun d => (asgG cf g d).calm) (exSs cf W body) ds
  | .while_ c body => whileL (tst cf c) (exSs cf W body) W
  | .brk => .ret .brk
  | .cont => .ret .cont
  | .pass => .ret .next
  | .bad => .stuck
  | .raise c fs es => (evs cf es).bind fun ds => raiseM c fs ds
  | .tryK body _ cs i j => tryM cs i j (exSs cf W body)
def exSs (cf : Calls) (W : Nat) : List S → M Flow
  | [] => .ret .next
  | s :: ss => (exS cf W s).bind fun f => match f with
    | .next => exSs cf W ss
    | f => .ret f
end

def initE (nl : Nat) (ds : List D) : Env := ds.map some ++ List.replicate (nl - ds.length) none
def outC : R Flow → C
  | .ok .next _ s => .ok .non s
  | .ok (.ret d) _ s => .ok d s
  | .ok _ _ _ => .stuck
  | .exc x _ s => .exc x s
  | .stuck => .stuck
/-- the call of the f-th def, at most n calls deep -/
def run (fns : List Fn) (W : Nat) : Nat → Calls
  | 0 => fun _ _ _ => .stuck
  | n + 1 => fun f ds s => match fns[f]? with
    | some fn => if ds.length = fn.np then outC (exSs (run fns W n) W fn.body (initE fn.nl ds) s) else .stuck
    | none => .stuck
end Mi
end
section
set_option Elab.async false
set_option maxRecDepth 100000
set_option linter.all false
namespace Lk
open PySem Mi
/-- is_key: 0=thing 1=label 2=bank -/
def b0 : List S := [.ite (.or_ (.not_ (.prim (.isi 2) [(.v 0)])) (.prim .ne [(.prim .len [(.v 0)]), (.k (.int 2))])) [.ret (.k (.bl false))] [], .asg (.tp [(.nm 1), (.nm 2)]) (.v 0), .ite (.or_ (.not_ (.prim (.isi 1) [(.v 1)])) (.or_ (.prim .ne [(.prim .len [(.v 1)]), (.k (.int 1))]) (.prim .notin [(.v 1), (.k (.str "ABCDEFGHIJKLMNOPQRSTUVWXYZ*"))]))) [.ret (.k (.bl false))] [], .ret (.and_ (.prim (.isi 1) [(.v 2)]) (.prim .in_ [(.v 2), (.k (.tup [(.str "left"), (.str "middle"), (.str "right")]))]))]
def f0 : Fn := ⟨1, 3, b0⟩
/-- is_behind: 0=bank 1=other -/
def b1 : List S := [.ret (.prim .le [(.meth (.m 1) (.k (.tup [(.str "left"), (.str "middle"), (.str "right")])) [(.v 1)]), (.meth (.m 1) (.k (.tup [(.str "left"), (.str "middle"), (.str "right")])) [(.v 0)])])]
def f1 : Fn := ⟨2, 2, b1⟩
/-- may_stand: 0=label 1=bank 2=ahead 3=one 4=other -/
def b2 : List S := [.for_ (.tp [(.nm 3), (.nm 4)]) (.seq (.v 2)) [.ite (.and_ (.prim .eq [(.v 3), (.v 0)]) (.or_ (.prim .eq [(.v 4), (.v 1)]) (.prim .in_ [(.k (.str "middle")), (.tup [(.v 1), (.v 4)])]))) [.ret (.k (.bl false))] []], .ret (.k (.bl true))]
def f2 : Fn := ⟨3, 5, b2⟩
/-- layout_wrong: 0=thing 1=k 2=key -/
def b3 : List S := [.ite (.or_ (.not_ (.prim (.isi 2) [(.v 0)])) (.not_ (.chain .le .le (.k (.int 1)) (.prim .len [(.v 0)]) (.k (.int 24))))) [.ret (.tup [(.k (.str "layout"))])] [], .for_ (.tp [(.nm 1), (.nm 2)]) (.enum (.v 0)) [.ite (.not_ (.call 0 [(.v 2)])) [.ret (.tup [(.k (.str "key")), (.v 1)])] [], .ite (.and_ (.prim .gt [(.v 1), (.k (.int 0))]) (.not_ (.call 1 [(.prim .idx [(.v 2), (.k (.int 1))]), (.prim .idx [(.prim .idx [(.v 0), (.prim .sub [(.v 1), (.k (.int 1))])]), (.k (.int 1))])]))) [.ret (.tup [(.k (.str "bank")), (.v 1)])] [], .ite (.not_ (.call 2 [(.prim .idx [(.v 2), (.k (.int 0))]), (.prim .idx [(.v 2), (.k (.int 1))]), (.prim (.slc false true) [(.v 0), (.v 1)])])) [.ret (.tup [(.k (.str "twice")), (.v 1)])] []], .ret (.k .non)]
def f3 : Fn := ⟨1, 3, b3⟩
/-- must_layout: 0=layout 1=wrong -/
def b4 : List S := [.asg (.nm 1) (.call 3 [(.v 0)]), .ite (.prim .notN [(.v 1)]) [.raise "NoLayout" ["wrong"] [(.v 1)]] []]
def f4 : Fn := ⟨1, 2, b4⟩
/-- is_whole: 0=thing 1=least 2=most -/
def b5 : List S := [.ite (.or_ (.not_ (.prim (.isi 0) [(.v 0)])) (.or_ (.prim (.isi 4) [(.v 0)]) (.prim .lt [(.v 0), (.v 1)]))) [.ret (.k (.bl false))] [], .ret (.or_ (.prim .isN [(.v 2)]) (.prim .le [(.v 0), (.v 2)]))]
def f5 : Fn := ⟨3, 3, b5⟩
/-- is_event: 0=layout 1=thing -/
def b6 : List S := [.ite (.or_ (.not_ (.prim (.isi 2) [(.v 1)])) (.or_ (.prim .ne [(.prim .len [(.v 1)]), (.k (.int 3))]) (.not_ (.call 5 [(.prim .idx [(.v 1), (.k (.int 0))]), (.k (.int 0)), (.k .non)])))) [.ret (.k (.bl false))] [], .ite (.not_ (.call 5 [(.prim .idx [(.v 1), (.k (.int 1))]), (.k (.int 0)), (.prim .sub [(.prim .len [(.v 0)]), (.k (.int 1))])])) [.ret (.k (.bl false))] [], .ret (.and_ (.prim (.isi 1) [(.prim .idx [(.v 1), (.k (.int 2))])]) (.prim .in_ [(.prim .idx [(.v 1), (.k (.int 2))]), (.k (.tup [(.str "down"), (.str "up")]))]))]
def f6 : Fn := ⟨2, 2, b6⟩
/-- wrong_from: 0=layout 1=events 2=first 3=down 4=k 5=time 6=key 7=way -/
def b7 : List S := [.for_ (.nm 4) (.rng2 (.v 2) (.prim .len [(.v 1)])) [.ite (.not_ (.call 6 [(.v 0), (.prim .idx [(.v 1), (.v 4)])])) [.ret (.tup [(.k (.str "event")), (.v 4)])] [], .asg (.tp [(.nm 5), (.nm 6), (.nm 7)]) (.prim .idx [(.v 1), (.v 4)]), .ite (.and_ (.prim .gt [(.v 4), (.k (.int 0))]) (.prim .lt [(.v 5), (.prim .idx [(.prim .idx [(.v 1), (.prim .sub [(.v 4), (.k (.int 1))])]), (.k (.int 0))])])) [.ret (.tup [(.k (.str "time")), (.v 4)])] [], .ite (.prim .eq [(.prim .eq [(.v 7), (.k (.str "down"))]), (.dhas false (.v 6) (.v 3))]) [.ret (.tup [(.k (.str "key")), (.v 4)])] [], .ite (.prim .eq [(.v 7), (.k (.str "down"))]) [.asg (.dsub (.v 3) (.v 6)) (.v 5)] [.ex (.dpop (.v 3) (.v 6))]], .ret (.k .non)]
def f7 : Fn := ⟨4, 8, b7⟩
/-- events_wrong: 0=layout 1=thing -/
def b8 : List S := [.ex (.call 4 [(.v 0)]), .ite (.not_ (.prim (.isi 3) [(.v 1)])) [.ret (.tup [(.k (.str "events"))])] [], .ret (.call 7 [(.v 0), (.v 1), (.k (.int 0)), .dnew])]
def f8 : Fn := ⟨2, 2, b8⟩
/-- must_events: 0=layout 1=events 2=wrong -/
def b9 : List S := [.asg (.nm 2) (.call 8 [(.v 0), (.v 1)]), .ite (.prim .notN [(.v 2)]) [.raise "NoEvents" ["wrong"] [(.v 2)]] []]
def f9 : Fn := ⟨2, 3, b9⟩
/-- must_rule: 0=rule 1=bounce -/
def b10 : List S := [.ite (.or_ (.not_ (.prim (.isi 1) [(.v 0)])) (.prim .notin [(.v 0), (.k (.tup [(.str "all"), (.str "first")]))])) [.raise "NoRule" [] []] [], .ite (.not_ (.call 5 [(.v 1), (.k (.int 0)), (.k (.int 50))])) [.raise "NoCount" [] []] []]
def f10 : Fn := ⟨2, 2, b10⟩
/-- bounces: 0=events 1=bounce 2=found 3=ups 4=k 5=time 6=key 7=way -/
def b11 : List S := [.asg (.nm 2) .dnew, .asg (.nm 3) .dnew, .for_ (.tp [(.nm 4), (.tp [(.nm 5), (.nm 6), (.nm 7)])]) (.enum (.v 0)) [.ite (.prim .eq [(.v 7), (.k (.str "up"))]) [.asg (.dsub (.v 3) (.v 6)) (.v 4)] [.ite (.and_ (.dhas false (.v 6) (.v 3)) (.and_ (.prim .gt [(.v 1), (.k (.int 0))]) (.prim .le [(.prim .sub [(.v 5), (.prim .idx [(.prim .idx [(.v 0), (.dget (.v 3) (.v 6))]), (.k (.int 0))])]), (.v 1)]))) [.asg (.dsub (.v 2) (.dget (.v 3) (.v 6))) (.k (.bl true)), .asg (.dsub (.v 2) (.v 4)) (.k (.bl true))] []]], .ret (.mv 2)]
def f11 : Fn := ⟨2, 8, b11⟩
/-- clean: 0=events 1=bounce 2=barred 3=k 4=event -/
def b12 : List S := [.asg (.nm 2) (.call 11 [(.v 0), (.v 1)]), .ret (.lc [3, 4] (.tp [(.nm 3), (.nm 4)]) (.enum (.v 0)) [(.dhas true (.v 3) (.v 2))] (.v 4))]
def f12 : Fn := ⟨2, 5, b12⟩
/-- told_by: 0=events 1=rule 2=found 3=down 4=since 5=fresh 6=time 7=key 8=way -/
def b13 : List S := [.asg (.nm 2) (.lst []), .asg (.nm 3) .dnew, .asg (.nm 4) .dnew, .asg (.nm 5) (.k (.bl false)), .for_ (.tp [(.nm 6), (.nm 7), (.nm 8)]) (.seq (.v 0)) [.ite (.prim .eq [(.v 8), (.k (.str "down"))]) [.asg (.dsub (.v 3) (.v 7)) (.k (.bl true)), .asg (.dsub (.v 4) (.v 7)) (.k (.bl true)), .asg (.nm 5) (.k (.bl true))] [.ite (.and_ (.prim .eq [(.v 1), (.k (.str "first"))]) (.v 5)) [.ex (.mut .append (.v 2) [(.tup [(.v 6), (.prim .tuple [(.dsort (.v 3))])])]), .asg (.nm 5) (.k (.bl false))] [], .ex (.dpop (.v 3) (.v 7)), .ite (.and_ (.prim .eq [(.v 1), (.k (.str "all"))]) (.deq0 (.v 3))) [.ex (.mut .append (.v 2) [(.tup [(.v 6), (.prim .tuple [(.dsort (.v 4))])])]), .asg (.nm 4) .dnew] []]], .ret (.mv 2)]
def f13 : Fn := ⟨2, 9, b13⟩
/-- strokes_of: 0=layout 1=events 2=rule 3=bounce -/
def b14 : List S := [.ex (.call 9 [(.v 0), (.v 1)]), .ex (.call 10 [(.v 2), (.v 3)]), .ret (.call 13 [(.call 12 [(.v 1), (.v 3)]), (.v 2)])]
def f14 : Fn := ⟨4, 4, b14⟩
/-- keys_down: 0=events 1=down 2=time 3=key 4=way -/
def b15 : List S := [.asg (.nm 1) .dnew, .for_ (.tp [(.nm 2), (.nm 3), (.nm 4)]) (.seq (.v 0)) [.asg (.dsub (.v 1) (.v 3)) (.prim .eq [(.v 4), (.k (.str "down"))])], .ret (.prim .tuple [(.prim .sort1 [(.lkd 1 (.lc [3] (.nm 3) (.keys (.v 1)) [(.dget (.v 1) (.v 3))] (.v 3)))])])]
def f15 : Fn := ⟨1, 5, b15⟩
/-- held: 0=layout 1=events 2=rule 3=bounce -/
def b16 : List S := [.ex (.call 9 [(.v 0), (.v 1)]), .ex (.call 10 [(.v 2), (.v 3)]), .ret (.call 15 [(.v 1)])]
def f16 : Fn := ⟨4, 4, b16⟩
/-- _law_mixed: 0=_law_cell 1=_law_k 2=_law_number -/
def b17 : List S := [.asg (.nm 2) (.prim .add [(.prim .add [(.prim .mul [(.prim .add [(.prim .mod [(.v 0), (.prim .add [(.prim .pow [(.k (.int 10)), (.k (.int 18))]), (.k (.int 9))])]), (.prim .mul [(.k (.int 7)), (.v 1)])]), (.k (.int 739108512309184756019283746561))]), (.prim .mul [(.k (.int 7919)), (.v 1)])]), (.k (.int 1))]), .asg (.nm 2) (.prim .mod [(.prim .mul [(.v 2), (.v 2)]), (.prim .add [(.prim .pow [(.k (.int 10)), (.k (.int 60))]), (.k (.int 7))])]), .ret (.prim .mod [(.prim .mul [(.prim .add [(.v 2), (.k (.int 40503))]), (.prim .add [(.v 2), (.k (.int 57))])]), (.prim .add [(.prim .pow [(.k (.int 10)), (.k (.int 60))]), (.k (.int 7))])])]
def f17 : Fn := ⟨2, 3, b17⟩
/-- _law_purse: 0=_law_cell 1=_law_k -/
def b18 : List S := [.ite (.prim .ge [(.v 0), (.prim .pow [(.k (.int 10)), (.k (.int 18))])]) [.ret (.lst [(.prim .mod [(.prim .sub [(.v 0), (.prim .pow [(.k (.int 10)), (.k (.int 18))])]), (.prim .pow [(.prim .pow [(.k (.int 10)), (.k (.int 60))]), (.k (.int 10))])]), (.k (.int 0)), (.v 1)])] [], .ret (.lst [(.call 17 [(.v 0), (.v 1)]), (.k (.int 0)), (.prim .add [(.prim .mod [(.v 0), (.prim .add [(.prim .pow [(.k (.int 10)), (.k (.int 18))]), (.k (.int 9))])]), (.v 1)])])]
def f18 : Fn := ⟨2, 2, b18⟩
/-- _law_take: 0=_law_purse_here 1=_law_far 2=_law_got -/
def b19 : List S := [.ite (.prim .lt [(.prim .idx [(.v 0), (.k (.int 0))]), (.v 1)]) [.asg (.sub (.v 0) (.k (.int 1))) (.prim .add [(.prim .idx [(.v 0), (.k (.int 1))]), (.k (.int 1))]), .asg (.sub (.v 0) (.k (.int 0))) (.prim .add [(.prim .idx [(.v 0), (.k (.int 0))]), (.prim .mul [(.v 1), (.call 17 [(.prim .idx [(.v 0), (.k (.int 2))]), (.prim .add [(.prim .mul [(.k (.int 11)), (.prim .idx [(.v 0), (.k (.int 1))])]), (.k (.int 5))])])])])] [], .asg (.nm 2) (.prim .mod [(.prim .idx [(.v 0), (.k (.int 0))]), (.v 1)]), .asg (.sub (.v 0) (.k (.int 0))) (.prim .fdiv [(.prim .idx [(.v 0), (.k (.int 0))]), (.v 1)]), .ret (.mv 2)]
def f19 : Fn := ⟨2, 3, b19⟩
/-- _law_at: 0=_law_script 1=_law_k -/
def b20 : List S := [.ite (.prim .lt [(.v 1), (.prim .len [(.v 0)])]) [.ret (.prim .idx [(.v 0), (.v 1)])] [], .ret (.prim .add [(.prim .mul [(.k (.int 3)), (.v 1)]), (.k (.int 1))])]
def f20 : Fn := ⟨2, 2, b20⟩
/-- _law_pick: 0=_law_purse_here 1=_law_some -/
def b21 : List S := [.ret (.prim .idx [(.v 1), (.call 19 [(.rf 0), (.prim .len [(.v 1)])])])]
def f21 : Fn := ⟨2, 2, b21⟩
/-- _law_some_of: 0=_law_purse_here 1=_law_some 2=_law_share 3=_law_one -/
def b22 : List S := [.ret (.lc [3] (.nm 3) (.seq (.v 1)) [(.prim .gt [(.call 19 [(.rf 0), (.v 2)]), (.k (.int 0))])] (.v 3))]
def f22 : Fn := ⟨3, 4, b22⟩
/-- _law_layout: 0=_law_purse_here 1=_law_signs 2=_law_start 3=_law_left 4=_law_middle 5=_law_right_here 6=_law_found 7=_law_sign -/
def b23 : List S := [.asg (.nm 1) (.prim .list [(.k (.str "STKPWHR*AOEUZF"))]), .asg (.nm 2) (.call 19 [(.rf 0), (.k (.int 14))]), .asg (.nm 1) (.prim .add [(.prim (.slc true false) [(.v 1), (.v 2)]), (.prim (.slc false true) [(.v 1), (.v 2)])]), .asg (.nm 3) (.call 22 [(.rf 0), (.prim (.slc false true) [(.v 1), (.k (.int 6))]), (.k (.int 3))]), .asg (.nm 4) (.call 22 [(.rf 0), (.prim (.slc true true) [(.v 1), (.k (.int 6)), (.k (.int 9))]), (.k (.int 2))]), .asg (.nm 5) (.call 22 [(.rf 0), (.prim .add [(.prim (.slc true false) [(.v 1), (.k (.int 9))]), (.prim (.slc false true) [(.v 1), (.k (.int 4))])]), (.k (.int 2))]), .ite (.prim .eq [(.prim .add [(.prim .add [(.v 3), (.v 4)]), (.v 5)]), (.lst [])]) [.asg (.nm 3) (.lst [(.prim .idx [(.v 1), (.k (.int 0))])])] [], .asg (.nm 6) (.prim .add [(.lc [7] (.nm 7) (.seq (.v 3)) [] (.tup [(.v 7), (.k (.str "left"))])), (.lc [7] (.nm 7) (.seq (.v 4)) [] (.tup [(.v 7), (.k (.str "middle"))]))]), .ret (.prim .tuple [(.prim .add [(.v 6), (.lc [7] (.nm 7) (.seq (.v 5)) [] (.tup [(.v 7), (.k (.str "right"))]))])])]
def f23 : Fn := ⟨1, 8, b23⟩
/-- _law_events: 0=_law_purse_here 1=_law_board 2=_law_many 3=_law_found 4=_law_down 5=_law_time 6=_law_k 7=_law_key 8=_law_side -/
def b24 : List S := [.asg (.nm 3) (.lst []), .asg (.nm 4) (.lst []), .asg (.nm 5) (.call 21 [(.rf 0), (.lst [(.k (.int 0)), (.k (.int 0)), (.k (.int 1)), (.k (.int 7)), (.prim .pow [(.k (.int 10)), (.k (.int 20))])])]), .for_ (.nm 6) (.rng1 (.call 19 [(.rf 0), (.v 2)])) [.asg (.nm 5) (.prim .add [(.v 5), (.call 21 [(.rf 0), (.lst [(.k (.int 0)), (.k (.int 0)), (.k (.int 1)), (.k (.int 1)), (.k (.int 2)), (.k (.int 3)), (.k (.int 9)), (.k (.int 60))])])]), .asg (.nm 7) (.call 19 [(.rf 0), (.prim .len [(.v 1)])]), .asg (.nm 8) (.prim .idx [(.lst [(.k (.str "down")), (.k (.str "up"))]), (.prim .int [(.prim .in_ [(.v 7), (.v 4)])])]), .ite (.prim .eq [(.v 8), (.k (.str "up"))]) [.ex (.mut .remove (.v 4) [(.v 7)])] [.ex (.mut .append (.v 4) [(.v 7)])], .ex (.mut .append (.v 3) [(.tup [(.v 5), (.v 7), (.v 8)])])], .ret (.mv 3)]
def f24 : Fn := ⟨3, 9, b24⟩
/-- _law_bounces: 0=_law_happened 1=_law_ticks 2=_law_found 3=_law_at_here 4=_law_behind 5=_law_time 6=_law_key 7=_law_side 8=_law_k -/
def b25 : List S := [.asg (.nm 2) (.lst []), .for_ (.tp [(.nm 3), (.tp [(.nm 5), (.nm 6), (.nm 7)])]) (.enum (.v 0)) [.asg (.nm 4) (.lc [8] (.nm 8) (.rng2 (.prim .add [(.v 3), (.k (.int 1))]) (.prim .len [(.v 0)])) [(.prim .eq [(.prim .idx [(.prim .idx [(.v 0), (.v 8)]), (.k (.int 1))]), (.v 6)])] (.v 8)), .ite (.and_ (.prim .eq [(.v 7), (.k (.str "up"))]) (.and_ (.prim .ne [(.v 4), (.lst [])]) (.and_ (.prim .gt [(.v 1), (.k (.int 0))]) (.prim .le [(.prim .sub [(.prim .idx [(.prim .idx [(.v 0), (.prim .idx [(.v 4), (.k (.int 0))])]), (.k (.int 0))]), (.v 5)]), (.v 1)])))) [.asg (.nm 2) (.prim .add [(.v 2), (.lst [(.v 3), (.prim .idx [(.v 4), (.k (.int 0))])])])] []], .ret (.mv 2)]
def f25 : Fn := ⟨2, 9, b25⟩
/-- _law_calm: 0=_law_happened 1=_law_ticks 2=_law_barred 3=_law_k -/
def b26 : List S := [.asg (.nm 2) (.call 25 [(.v 0), (.v 1)]), .ret (.lc [3] (.nm 3) (.rng1 (.prim .len [(.v 0)])) [(.prim .notin [(.v 3), (.v 2)])] (.prim .idx [(.v 0), (.v 3)]))]
def f26 : Fn := ⟨2, 4, b26⟩
/-- _law_down_behind: 0=_law_happened 1=_law_ups 2=_law_downs 3=_law_key 4=_law_time 5=_law_side -/
def b27 : List S := [.asg (.nm 1) (.lc [4, 3, 5] (.tp [(.nm 4), (.nm 3), (.nm 5)]) (.seq (.v 0)) [(.prim .eq [(.v 5), (.k (.str "up"))])] (.v 3)), .asg (.nm 2) (.lc [4, 3, 5] (.tp [(.nm 4), (.nm 3), (.nm 5)]) (.seq (.v 0)) [(.prim .eq [(.v 5), (.k (.str "down"))])] (.v 3)), .ret (.lc [3] (.nm 3) (.seq (.prim .sset1 [(.v 2)])) [(.prim .gt [(.meth (.m 2) (.v 2) [(.v 3)]), (.meth (.m 2) (.v 1) [(.v 3)])])] (.v 3))]
def f27 : Fn := ⟨1, 6, b27⟩
/-- _law_told_strokes: 0=_law_happened 1=_law_pick_here 2=_law_found 3=_law_begun 4=_law_at_here 5=_law_ahead 6=_law_time 7=_law_key 8=_law_side 9=_law_happening -/
def b28 : List S := [.asg (.nm 2) (.lst []), .asg (.nm 3) (.k (.int 0)), .for_ (.tp [(.nm 4), (.tp [(.nm 6), (.nm 7), (.nm 8)])]) (.enum (.v 0)) [.asg (.nm 5) (.lc [9] (.nm 9) (.seq (.prim (.slc true true) [(.v 0), (.v 3), (.v 4)])) [(.prim .eq [(.prim .idx [(.v 9), (.k (.int 2))]), (.k (.str "down"))])] (.v 9)), .ite (.and_ (.prim .eq [(.v 8), (.k (.str "up"))]) (.and_ (.prim .eq [(.v 1), (.k (.str "first"))]) (.prim .ne [(.v 5), (.lst [])]))) [.ex (.mut .append (.v 2) [(.tup [(.v 6), (.prim .tuple [(.call 27 [(.prim (.slc false true) [(.v 0), (.v 4)])])])])]), .asg (.nm 3) (.v 4)] [], .ite (.and_ (.prim .eq [(.v 8), (.k (.str "up"))]) (.and_ (.prim .eq [(.v 1), (.k (.str "all"))]) (.prim .eq [(.call 27 [(.prim (.slc false true) [(.v 0), (.prim .add [(.v 4), (.k (.int 1))])])]), (.lst [])]))) [.ex (.mut .append (.v 2) [(.tup [(.v 6), (.prim .tuple [(.prim .sset1 [(.lc [9] (.nm 9) (.seq (.v 5)) [] (.prim .idx [(.v 9), (.k (.int 1))]))])])])]), .asg (.nm 3) (.v 4)] []], .ret (.mv 2)]
def f28 : Fn := ⟨2, 10, b28⟩
/-- _law_class: 0=_law_error 1=_law_got -/
def b29 : List S := [.asg (.nm 1) (.lst [(.isx ["NoLayout"] ["NoEvents", "NoRule", "NoCount"] "NoLayout" (.v 0)), (.isx ["NoEvents"] ["NoLayout", "NoRule", "NoCount"] "NoEvents" (.v 0)), (.isx ["NoRule"] ["NoLayout", "NoEvents", "NoCount"] "NoRule" (.v 0))]), .asg (.nm 1) (.prim .add [(.v 1), (.lst [(.isx ["NoCount"] ["NoLayout", "NoEvents", "NoRule"] "NoCount" (.v 0)), (.isx [] ["NoLayout", "NoEvents", "NoRule", "NoCount"] "Ended" (.v 0))])]), .ite (.or_ (.prim .ne [(.meth (.m 2) (.v 1) [(.k (.bl true))]), (.k (.int 1))]) (.or_ (.not_ (.isx ["NoLayout", "NoEvents", "NoRule", "NoCount"] [] "ChordError" (.v 0))) (.not_ (.isx ["NoLayout", "NoEvents", "NoRule", "NoCount"] [] "ValueError" (.v 0))))) [.ret (.lst [(.k (.str "other"))])] [], .ite (.or_ (.prim .idx [(.v 1), (.k (.int 0))]) (.prim .idx [(.v 1), (.k (.int 1))])) [.ret (.lst [(.prim .idx [(.lst [(.k (.str "NoEvents")), (.k (.str "NoLayout"))]), (.prim .int [(.prim .idx [(.v 1), (.k (.int 0))])])]), (.xfld ["NoLayout", "NoEvents"] (.v 0) "wrong")])] [], .ret (.lst [(.prim .idx [(.lst [(.k (.str "")), (.k (.str "")), (.k (.str "NoRule")), (.k (.str "NoCount")), (.k (.str "Ended"))]), (.meth (.m 0) (.v 1) [(.k (.bl true))])])])]
def f29 : Fn := ⟨1, 2, b29⟩
/-- _law_odd_event: 0=_law_purse_here 1=_law_board 2=_law_time 3=_law_some -/
def b30 : List S := [.asg (.nm 3) (.lst [(.k .non), (.tup []), (.tup [(.v 2), (.k (.int 0))]), (.tup [(.v 2), (.k (.int 0)), (.k (.str "down")), (.k (.int 0))]), (.lst [(.v 2), (.k (.int 0)), (.k (.str "down"))]), (.tup [(.v 2), (.prim .len [(.v 1)]), (.k (.str "down"))])]), .asg (.nm 3) (.prim .add [(.v 3), (.lst [(.tup [(.v 2), (.prim .neg [(.k (.int 1))]), (.k (.str "up"))]), (.tup [(.prim .neg [(.k (.int 1))]), (.k (.int 0)), (.k (.str "down"))]), (.tup [(.k (.bl true)), (.k (.int 0)), (.k (.str "up"))]), (.tup [(.v 2), (.k (.bl false)), (.k (.str "down"))]), (.tup [(.v 2), (.k (.int 0)), (.k (.str "Down"))])])]), .ret (.call 21 [(.rf 0), (.prim .add [(.v 3), (.lst [(.tup [(.v 2), (.k (.int 0)), (.k .non)]), (.k (.str "down")), (.tup [(.v 2), (.k (.int 0)), (.k (.int 1))]), (.tup [(.prim .str [(.v 2)]), (.k (.int 0)), (.k (.str "up"))]), (.tup [(.k .non), (.k (.int 0)), (.k (.str "down"))])])])])]
def f30 : Fn := ⟨3, 4, b30⟩
/-- _law_bent_events: 0=_law_purse_here 1=_law_board 2=_law_happened 3=_law_at_here 4=_law_time 5=_law_mode 6=_law_happening -/
def b31 : List S := [.asg (.nm 3) (.call 19 [(.rf 0), (.prim .add [(.prim .len [(.v 2)]), (.k (.int 1))])]), .asg (.nm 4) (.prim .idx [(.lc [6] (.nm 6) (.seq (.prim (.slc false true) [(.prim .add [(.v 2), (.lst [(.tup [(.k (.int 0)), (.k (.int 0)), (.k (.str ""))])])]), (.prim .add [(.v 3), (.k (.int 1))])])) [] (.prim .idx [(.v 6), (.k (.int 0))])), (.prim .neg [(.k (.int 1))])]), .asg (.nm 5) (.call 19 [(.rf 0), (.k (.int 6))]), .ite (.prim .eq [(.v 5), (.k (.int 0))]) [.ret (.prim .add [(.prim (.slc false true) [(.v 2), (.v 3)]), (.prim (.slc true false) [(.v 2), (.prim .add [(.v 3), (.k (.int 1))])])])] [], .ite (.prim .eq [(.v 5), (.k (.int 1))]) [.ret (.prim .add [(.prim .add [(.prim (.slc false true) [(.v 2), (.v 3)]), (.lst [(.call 30 [(.rf 0), (.v 1), (.v 4)])])]), (.prim (.slc true false) [(.v 2), (.v 3)])])] [], .ite (.prim .eq [(.v 5), (.k (.int 2))]) [.ret (.prim .add [(.prim .add [(.prim (.slc false true) [(.v 2), (.v 3)]), (.lst [(.tup [(.prim .max2 [(.k (.int 0)), (.prim .sub [(.prim .sub [(.v 4), (.k (.int 1))]), (.call 19 [(.rf 0), (.k (.int 3))])])]), (.k (.int 0)), (.k (.str "down"))])])]), (.prim (.slc true false) [(.v 2), (.v 3)])])] [], .ite (.prim .eq [(.v 5), (.k (.int 3))]) [.asg (.nm 6) (.tup [(.v 4), (.call 19 [(.rf 0), (.prim .len [(.v 1)])]), (.prim .idx [(.lst [(.k (.str "down")), (.k (.str "up"))]), (.call 19 [(.rf 0), (.k (.int 2))])])]), .ret (.prim .add [(.prim .add [(.prim (.slc false true) [(.v 2), (.v 3)]), (.lst [(.v 6)])]), (.prim (.slc true false) [(.v 2), (.v 3)])])] [], .ite (.prim .eq [(.v 5), (.k (.int 4))]) [.ret (.prim .add [(.prim (.slc false true) [(.v 2), (.v 3)]), (.prim .rev [(.prim (.slc true false) [(.v 2), (.v 3)])])])] [], .ret (.mv 2)]
def f31 : Fn := ⟨3, 7, b31⟩
/-- _law_told: 0=_law_which 1=_law_board 2=_law_happened 3=_law_pick_here 4=_law_ticks 5=_law_error 6=_law_told_here 7=caught -/
def b32 : List S := [.asg (.nm 5) (.k .non), .asg (.nm 6) (.k .non), .tryK [.ite (.prim .eq [(.v 0), (.k (.int 0))]) [.asg (.nm 6) (.callA 14 [(.v 1), (.v 2)] [(.v 3), (.v 4)] [.inl 0, .inl 1, .inl 2, .inl 3])] [.asg (.nm 6) (.callA 16 [(.v 1), (.v 2)] [(.v 3), (.v 4)] [.inl 0, .inl 1, .inl 2, .inl 3])]] "ChordError" ["NoLayout", "NoEvents", "NoRule", "NoCount"] 7 5, .ite (.prim .isN [(.v 5)]) [.ret (.lst [(.k (.str "")), (.v 6)])] [], .ret (.call 29 [(.v 5)])]
def f32 : Fn := ⟨5, 8, b32⟩
/-- _law_right: 0=_law_board 1=_law_happened 2=_law_pick_here 3=_law_ticks 4=_law_due 5=_law_down 6=_law_turn 7=_law_told_here -/
def b33 : List S := [.asg (.nm 4) (.call 28 [(.call 26 [(.v 1), (.v 3)]), (.v 2)]), .asg (.nm 5) (.prim .tuple [(.call 27 [(.v 1)])]), .for_ (.nm 6) (.rng1 (.k (.int 2))) [.asg (.nm 7) (.callA 14 [(.v 0), (.v 1)] [(.v 2), (.v 3)] [.inl 0, .inl 1, .inl 2, .inl 3]), .ite (.prim .eq [(.v 6), (.k (.int 1))]) [.asg (.nm 7) (.callA 14 [] [(.v 3), (.v 2), (.v 1), (.v 0)] [.inl 3, .inl 2, .inl 1, .inl 0])] [], .ite (.or_ (.not_ (.prim (.isi 3) [(.v 7)])) (.prim .ne [(.v 7), (.v 4)])) [.ret (.k (.bl false))] [], .ex (.mut .append (.v 7) [(.k (.int 0))])], .ite (.or_ (.prim .ne [(.callA 16 [(.v 0), (.v 1)] [(.v 3), (.v 2)] [.inl 0, .inl 1, .inl 3, .inl 2]), (.v 5)]) (.prim .ne [(.callA 16 [(.v 0), (.v 1)] [] [.inl 0, .inl 1, .inr (.str "all"), .inr (.int 0)]), (.v 5)])) [.ret (.k (.bl false))] [], .ret (.prim .eq [(.callA 14 [(.v 0), (.v 1)] [] [.inl 0, .inl 1, .inr (.str "all"), .inr (.int 0)]), (.call 28 [(.v 1), (.k (.str "all"))])])]
def f33 : Fn := ⟨4, 8, b33⟩
/-- law: 0=_law_script 1=_law_k 2=_law_purse_here 3=_law_board 4=_law_happened 5=_law_stayed 6=_law_pick_here 7=_law_odd 8=_law_bad 9=_law_bent 10=_law_wrong 11=_law_which 12=_law_ticks 13=_law_told_here -/
def b34 : List S := [.for_ (.nm 1) (.rng1 (.prim .add [(.k (.int 2)), (.prim .min2 [(.prim .len [(.v 0)]), (.k (.int 5))])])) [.asg (.nm 2) (.call 18 [(.call 20 [(.v 0), (.v 1)]), (.v 1)]), .asg (.nm 3) (.call 23 [(.rf 2)]), .asg (.nm 4) (.call 24 [(.rf 2), (.prim (.slc false true) [(.v 3), (.prim .add [(.k (.int 1)), (.call 19 [(.rf 2), (.k (.int 4))])])]), (.k (.int 26))]), .asg (.nm 5) (.prim .str [(.v 4)]), .for_ (.nm 6) (.seq (.tup [(.k (.str "all")), (.k (.str "first"))])) [.asg (.nm 12) (.call 21 [(.rf 2), (.lst [(.k (.int 0)), (.k (.int 1)), (.k (.int 2)), (.k (.int 3)), (.k (.int 9)), (.k (.int 50))])]), .ite (.or_ (.not_ (.call 33 [(.v 3), (.v 4), (.v 6), (.v 12)])) (.prim .ne [(.prim .str [(.v 4)]), (.v 5)])) [.ret (.k (.bl false))] []], .asg (.nm 7) (.call 21 [(.rf 2), (.lst [(.prim .neg [(.k (.int 1))]), (.k (.int 51)), (.k .non), (.k (.bl true)), (.k (.str "1"))])]), .asg (.nm 8) (.call 21 [(.rf 2), (.lst [(.k (.str "")), (.k (.str "All")), (.k .non), (.k (.int 0)), (.k (.str "none")), (.tup [(.k (.str "all"))])])]), .asg (.nm 9) (.call 31 [(.rf 2), (.v 3), (.v 4)]), .asg (.nm 10) (.call 8 [(.v 3), (.v 9)]), .for_ (.nm 11) (.seq (.tup [(.k (.int 0)), (.k (.int 1))])) [.asg (.nm 13) (.lc [6] (.nm 6) (.seq (.tup [(.k (.str "first")), (.v 8)])) [] (.call 32 [(.v 11), (.v 3), (.v 4), (.v 6), (.v 7)])), .ite (.prim .ne [(.v 13), (.lst [(.lst [(.k (.str "NoCount"))]), (.lst [(.k (.str "NoRule"))])])]) [.ret (.k (.bl false))] [], .asg (.nm 13) (.call 32 [(.v 11), (.v 3), (.v 9), (.v 8), (.v 7)]), .ite (.and_ (.prim .notN [(.v 10)]) (.prim .ne [(.v 13), (.lst [(.k (.str "NoEvents")), (.v 10)])])) [.ret (.k (.bl false))] [], .asg (.nm 13) (.call 32 [(.v 11), (.prim .list [(.v 3)]), (.v 9), (.v 8), (.v 7)]), .ite (.prim .ne [(.v 13), (.lst [(.k (.str "NoLayout")), (.tup [(.k (.str "layout"))])])]) [.ret (.k (.bl false))] []]], .ret (.k (.bl true))]
def f34 : Fn := ⟨1, 14, b34⟩
def fns : List Fn := [f0, f1, f2, f3, f4, f5, f6, f7, f8, f9, f10, f11, f12, f13, f14, f15, f16, f17, f18, f19, f20, f21, f22, f23, f24, f25, f26, f27, f28, f29, f30, f31, f32, f33, f34]
theorem at0 : fns[0]? = some f0 := rfl
theorem at1 : fns[1]? = some f1 := rfl
theorem at2 : fns[2]? = some f2 := rfl
theorem at3 : fns[3]? = some f3 := rfl
theorem at4 : fns[4]? = some f4 := rfl
theorem at5 : fns[5]? = some f5 := rfl
theorem at6 : fns[6]? = some f6 := rfl
theorem at7 : fns[7]? = some f7 := rfl
theorem at8 : fns[8]? = some f8 := rfl
theorem at9 : fns[9]? = some f9 := rfl
theorem at10 : fns[10]? = some f10 := rfl
theorem at11 : fns[11]? = some f11 := rfl
theorem at12 : fns[12]? = some f12 := rfl
theorem at13 : fns[13]? = some f13 := rfl
theorem at14 : fns[14]? = some f14 := rfl
theorem at15 : fns[15]? = some f15 := rfl
theorem at16 : fns[16]? = some f16 := rfl
theorem at17 : fns[17]? = some f17 := rfl
theorem at18 : fns[18]? = some f18 := rfl
theorem at19 : fns[19]? = some f19 := rfl
theorem at20 : fns[20]? = some f20 := rfl
theorem at21 : fns[21]? = some f21 := rfl
theorem at22 : fns[22]? = some f22 := rfl
theorem at23 : fns[23]? = some f23 := rfl
theorem at24 : fns[24]? = some f24 := rfl
theorem at25 : fns[25]? = some f25 := rfl
theorem at26 : fns[26]? = some f26 := rfl
theorem at27 : fns[27]? = some f27 := rfl
theorem at28 : fns[28]? = some f28 := rfl
theorem at29 : fns[29]? = some f29 := rfl
theorem at30 : fns[30]? = some f30 := rfl
theorem at31 : fns[31]? = some f31 := rfl
theorem at32 : fns[32]? = some f32 := rfl
theorem at33 : fns[33]? = some f33 := rfl
theorem at34 : fns[34]? = some f34 := rfl
end Lk
end
section
set_option Elab.async false
set_option maxRecDepth 100000
set_option linter.all false
namespace Mi
open PySem
def val : D → Bool
  | .own _ => false
  | .ref _ => false
  | _ => true
def ans (fns : List Fn) (W n f : Nat) (ds : List D) (s : Sto) (Q : D → Sto → Prop) : Prop := match run fns W n f ds s with
  | .ok d s' => Q d s'
  | _ => False
def endQ (Q : D → Sto → Prop) (fl : Flow) (s : Sto) : Prop := match fl with
  | .next => Q .non s
  | .ret d => Q d s
  | _ => False
def enumO (d : D) : Option (List D) := (match d with | .str _ => none | d => seqItems d).map (enumD 0)
def rngO : D → Option (List D)
  | .int n => if fit62 n then some (rngD 0 n.toNat) else none
  | _ => none
def rngO2 : D → D → Option (List D)
  | .int l, .int h => if fit62 l && fit62 h then some (rngD l (h - l).toNat) else none
  | _, _ => none
def lookQ (s : Sto) : D → Prop
  | .own _ => True
  | .ref n => ∃ ds, s[n]? = some (.lst ds)
  | _ => False
end Mi
namespace Mi.W0
open PySem Mi
/-! ### what the evaluator answers, step by step: no exceptions here -/
def wp {α : Type} (m : M α) (en : Env) (s : Sto) (Q : α → Env → Sto → Prop) : Prop := match m en s with
  | .ok a en' s' => Q a en' s'
  | _ => False
def optQ {α : Type} (o : Option α) (K : α → Prop) : Prop := match o with
  | some a => K a
  | none => False
def getQ (o : Option (Option D)) (K : D → Prop) : Prop := match o with
  | some (some d) => K d
  | _ => False
def useQ (o : Option (Option D)) (i : Nat) (en : Env) (K : D → Env → Prop) : Prop := match o with
  | some (some (.own ds)) => K (.frz ds) (en.set i (some (.frz ds)))
  | some (some d) => K d en
  | _ => False
def callQ (c : C) (K : D → Sto → Prop) : Prop := match c with
  | .ok d s => K d s
  | _ => False
section
variable {α : Type} (K : α → Prop)
theorem optQ_some (a : α) : optQ (some a) K = K a := id rfl
theorem optQ_none : optQ none K = False := id rfl
end
theorem getQ_some (d : D) (K : D → Prop) : getQ (some (some d)) K = K d := id rfl
theorem getQ_n1 (K : D → Prop) : getQ (some none) K = False := id rfl
theorem getQ_n2 (K : D → Prop) : getQ none K = False := id rfl
section
variable (i : Nat) (en : Env) (K : D → Env → Prop)
theorem useQ_own (ds) : useQ (some (some (.own ds))) i en K = K (.frz ds) (en.set i (some (.frz ds))) := id rfl
theorem useQ_frz (ds) : useQ (some (some (.frz ds))) i en K = K (.frz ds) en := id rfl
theorem useQ_tup (ds) : useQ (some (some (.tup ds))) i en K = K (.tup ds) en := id rfl
theorem useQ_non : useQ (some (some .non)) i en K = K .non en := id rfl
theorem useQ_bl (b) : useQ (some (some (.bl b))) i en K = K (.bl b) en := id rfl
theorem useQ_int (b) : useQ (some (some (.int b))) i en K = K (.int b) en := id rfl
theorem useQ_str (b) : useQ (some (some (.str b))) i en K = K (.str b) en := id rfl
theorem useQ_ref (b) : useQ (some (some (.ref b))) i en K = K (.ref b) en := id rfl
theorem useQ_n1 : useQ (some none) i en K = False := id rfl
theorem useQ_n2 : useQ none i en K = False := id rfl
theorem useQ_val (d) (h : val d = true) : useQ (some (some d)) i en K = K d en := by cases d <;> first | rfl | cases h
end
theorem callQ_ok (d s K) : callQ (.ok d s) K = K d s := id rfl
theorem callQ_stuck (K) : callQ .stuck K = False := id rfl
section
variable {α β : Type} {en : Env} {s : Sto}
theorem wp_bind {m : M α} {f : α → M β} {Q : β → Env → Sto → Prop} : wp (m.bind f) en s Q = wp m en s fun a en s => wp (f a) en s Q := by
  unfold wp M.bind R.bind
  cases m en s <;> rfl
theorem wp_ret {a : α} {Q : α → Env → Sto → Prop} : wp (.ret a) en s Q = Q a en s := id rfl
theorem wp_stuck {Q : α → Env → Sto → Prop} : wp (.stuck : M α) en s Q = False := id rfl
theorem wp_opt {o : Option α} {Q : α → Env → Sto → Prop} : wp (M.opt o) en s Q = optQ o fun a => Q a en s := by cases o <;> rfl
theorem wp_ite {c : Prop} [Decidable c] {a b : M α} {Q : α → Env → Sto → Prop} : wp (if c then a else b) en s Q = if c then wp a en s Q else wp b en s Q := by split <;> rfl
theorem wp_calm {m : M α} {Q : α → Env → Sto → Prop} : wp m.calm en s Q = wp m en s Q := by
  unfold wp M.calm
  cases m en s <;> rfl
theorem wp_prim {p : P} {ds : List D} {Q : D → Env → Sto → Prop} : wp (primM p ds) en s Q = optQ (primF p (ds.map (derefD s))) fun d => Q d en s := by
  unfold wp primM
  cases primF p (ds.map (derefD s)) <;> rfl
theorem wp_tru {d : D} {Q : Bool → Env → Sto → Prop} : wp (truM d) en s Q = optQ (truthy (derefD s d)) fun d => Q d en s := by
  unfold wp truM
  cases truthy (derefD s d) <;> rfl
theorem wp_setV {i : Nat} {d : D} {Q : Unit → Env → Sto → Prop} : wp (setV i d) en s Q = Q () (en.set i (some d)) s := id rfl
theorem wp_get {i : Nat} {Q : D → Env → Sto → Prop} : wp (getV i) en s Q = getQ en[i]? fun d => Q d en s := by
  unfold wp getV getQ
  split <;> (split <;> simp_all)
theorem wp_use {i : Nat} {Q : D → Env → Sto → Prop} : wp (useV i) en s Q = useQ en[i]? i en fun d en => Q d en s := by
  unfold wp useV
  cases e : en[i]? with
  | none => rfl
  | some o =>
    cases o with
    | none => rfl
    | some d => cases d <;> rfl
theorem wp_move {i : Nat} {Q : D → Env → Sto → Prop} : wp (moveV i) en s Q = getQ en[i]? fun d => Q d (en.set i none) s := by
  unfold wp moveV getQ
  split <;> (split <;> simp_all)
def refQ (o : Option (Option D)) (i : Nat) (en : Env) (s : Sto) (K : D → Env → Sto → Prop) : Prop := match o with
  | some (some (.own ds)) => K (.ref s.length) (en.set i (some (.ref s.length))) (s ++ [.lst ds])
  | some (some d) => K d en s
  | _ => False
theorem refQ_own (ds i) (K : D → Env → Sto → Prop) : refQ (some (some (.own ds))) i en s K = K (.ref s.length) (en.set i (some (.ref s.length))) (s ++ [.lst ds]) := id rfl
theorem refQ_ref (n i) (K : D → Env → Sto → Prop) : refQ (some (some (.ref n))) i en s K = K (.ref n) en s := id rfl
theorem wp_rf {i : Nat} {Q : D → Env → Sto → Prop} : wp (refV i) en s Q = refQ en[i]? i en s Q := by
  unfold wp refV
  cases e : en[i]? with
  | none => rfl
  | some o =>
    cases o with
    | none => rfl
    | some d => cases d <;> rfl
theorem wp_call {cf : Calls} {f : Nat} {ds : List D} {Q : D → Env → Sto → Prop} : wp (callM cf f ds) en s Q = callQ (cf f ds s) fun d s => Q d en s := by
  unfold wp callM
  cases cf f ds s <;> rfl
theorem wp_mono {m : M α} {Q Q' : α → Env → Sto → Prop} (h : wp m en s Q) (k : ∀ a en s, Q a en s → Q' a en s) : wp m en s Q' := by
  unfold wp at *
  cases e : m en s <;> simp_all
end
theorem ans_of {fns : List Fn} {W n f : Nat} {ds : List D} {s : Sto} {Q : D → Sto → Prop} {fn : Fn} (h : fns[f]? = some fn) (hl : ds.length = fn.np)
    (w : wp (exSs (run fns W n) W fn.body) (initE fn.nl ds) s fun fl _ s' => endQ Q fl s') : ans fns W (n + 1) f ds s Q := by
  unfold ans
  simp only [run, h]
  rw [if_pos hl]
  unfold wp at w
  cases e : exSs (run fns W n) W fn.body (initE fn.nl ds) s with
  | ok fl en s' =>
    rw [e] at w
    cases fl with
    | next => exact w
    | ret d => exact w
    | brk => exact w.elim
    | cont => exact w.elim
  | exc x en s' => rw [e] at w; exact w.elim
  | stuck => rw [e] at w; exact w.elim
section
variable (cf : Calls) (W : Nat) (en : Env) (s : Sto)
section
variable (Q : D → Env → Sto → Prop)
theorem q_v (i) : wp (ev2 cf (.v i)).1 en s Q = useQ en[i]? i en fun d en => Q d en s := wp_use
theorem q_mv (i) : wp (ev2 cf (.mv i)).1 en s Q = getQ en[i]? fun d => Q d (en.set i none) s := wp_move
theorem q_rf (i) : wp (ev2 cf (.rf i)).1 en s Q = refQ en[i]? i en s Q := wp_rf
theorem q_box (x) : wp (ev2 cf (.box x)).1 en s Q = wp (ev2 cf x).1 en s fun d en s => wp (boxM d) en s Q := by
  show wp (M.bind _ _) en s Q = _
  simp only [wp_bind]
theorem q_k (d) : wp (ev2 cf (.k d)).1 en s Q = Q d en s := id rfl
theorem q_prim (p es) : wp (ev2 cf (.prim p es)).1 en s Q = wp (ops cf es) en s fun ds en s => optQ (primF p (ds.map (derefD s))) fun d => Q d en s := by
  show wp (M.bind (ops cf es) fun ds => primM p ds) en s Q = _
  simp only [wp_bind, wp_prim]
theorem q_chain (p q a b c) : wp (ev2 cf (.chain p q a b c)).1 en s Q = wp (ev2 cf a).1 en s fun x en s => wp (ev2 cf b).1 en s fun y en s => optQ (primF p [derefD s x, derefD s y]) fun z => (match z with
      | .bl k => if k then wp (ev2 cf c).1 en s fun w en s => optQ (primF q [derefD s y, derefD s w]) fun d => Q d en s else Q (.bl false) en s
      | _ => False) := by
  show wp (M.bind _ _) en s Q = _
  simp only [wp_bind, wp_prim]
  refine congrArg _ (funext fun x => funext fun en => funext fun s => ?_)
  refine congrArg _ (funext fun y => funext fun en => funext fun s => ?_)
  refine congrArg _ (funext fun z => ?_)
  cases z with
  | bl k => cases k <;> simp [wp_bind, wp_prim, wp_ret]
  | _ => rfl
theorem q_tup (es) : wp (ev2 cf (.tup es)).1 en s Q = wp (evs cf es) en s fun ds en s => if ds.length ≤ big then Q (.tup (ds.map D.hard)) en s else False := by
  show wp (M.bind _ _) en s Q = _
  simp only [wp_bind, wp_ite, wp_ret, wp_stuck]
theorem q_lst (es) : wp (ev2 cf (.lst es)).1 en s Q = wp (evs cf es) en s fun ds en s => if ds.length ≤ big then Q (.own (ds.map D.hard)) en s else False := by
  show wp (M.bind _ _) en s Q = _
  simp only [wp_bind, wp_ite, wp_ret, wp_stuck]
theorem q_call (f es) : wp (ev2 cf (.call f es)).1 en s Q = wp (evs cf es) en s fun ds en s => callQ (cf f ds s) fun d s => Q d en s := by
  show wp (M.bind _ _) en s Q = _
  simp only [wp_bind, wp_call]
theorem q_and (a b) : wp (ev2 cf (.and_ a b)).1 en s Q = wp (ev2 cf a).1 en s fun d en s => optQ (truthy (derefD s d)) fun t => if t then wp (ev2 cf b).1 en s Q else Q d en s := by
  show wp (M.bind _ _) en s Q = _
  simp only [wp_bind, wp_tru, wp_ite, wp_ret]
theorem q_or (a b) : wp (ev2 cf (.or_ a b)).1 en s Q = wp (ev2 cf a).1 en s fun d en s => optQ (truthy (derefD s d)) fun t => if t then Q d en s else wp (ev2 cf b).1 en s Q := by
  show wp (M.bind _ _) en s Q = _
  simp only [wp_bind, wp_tru, wp_ite, wp_ret]
theorem q_not (a) : wp (ev2 cf (.not_ a)).1 en s Q = wp (ev2 cf a).1 en s fun d en s => optQ (truthy (derefD s d)) fun t => Q (.bl (!t)) en s := by
  show wp (M.bind _ _) en s Q = _
  simp only [wp_bind, wp_tru, wp_ret]
theorem q_cond (c a b) : wp (ev2 cf (.cond c a b)).1 en s Q = wp (ev2 cf c).2 en s fun t en s => if t then wp (ev2 cf a).1 en s Q else wp (ev2 cf b).1 en s Q := by
  show wp (M.bind _ _) en s Q = _
  simp only [wp_bind, wp_ite]
theorem q_meth (p tgt es) : wp (ev2 cf (.meth p tgt es)).1 en s Q = wp (pl1 tgt (ev2 cf tgt).1) en s fun r en s => wp (fin1 (slotOf tgt) r) en s fun d en s => if kindM p d then wp (ops cf es) en s fun ds en s => wp (fin1 (slotOf tgt) r) en s fun d en s => optQ (primF p ((d :: ds).map (derefD s))) fun d => Q d en s else False := by
  show wp (M.bind _ _) en s Q = _
  simp only [wp_bind, lookM, wp_ite, wp_ret, wp_stuck, wp_prim]
theorem q_mut (m tgt es) : wp (ev2 cf (.mut m tgt es)).1 en s Q = wp (pl1 tgt (ev2 cf tgt).1) en s fun r en s => wp (lookP (slotOf tgt) r) en s fun _ en s => wp (evs cf es) en s fun as en s => wp (match r with
      | none => (match slotOf tgt with
        | some i => (getV i).bind fun d0 => mutM m d0 (some i) (as.map D.hard)
        | none => .stuck)
      | some d0 => mutM m d0 none (as.map D.hard)) en s Q := by
  show wp (M.bind _ _) en s Q = _
  simp only [wp_bind]
  try rfl
theorem q_mut_v (m n es) : wp (ev2 cf (.mut m (.v n) es)).1 en s Q = getQ en[n]? fun _ => getQ en[n]? fun d => wp (lookL d) en s fun _ en s => wp (evs cf es) en s fun as en s => getQ en[n]? fun d0 => wp (mutM m d0 (some n) (as.map D.hard)) en s Q := by
  show wp (M.bind _ _) en s Q = _
  simp only [wp_bind]
  show wp (M.bind _ _) en s _ = _
  simp only [wp_bind, wp_get, wp_ret, slotOf, lookP]
theorem q_callA (f es ks arr) : wp (ev2 cf (.callA f es ks arr)).1 en s Q = wp (evs cf es) en s fun ds en s => wp (evs cf ks) en s fun zs en s => if ds.length = es.length ∧ zs.length = ks.length then callQ (cf f (arrange arr ((ds ++ zs).map D.hard)) s) fun d s => Q d en s else False := by
  show wp (M.bind _ _) en s Q = _
  simp only [wp_bind, wp_ite, wp_call, wp_stuck]
theorem q_lc (own g it ifs elt) : wp (ev2 cf (.lc own g it ifs elt)).1 en s Q = wp (iter cf it) en s fun p en s => wp (lcL own (fun d => (asgG cf g d).calm) (tsts cf ifs).calm (ev2 cf elt).1.calm p []) (wipeE own en) s fun ds en s => Q (.own ds) en s := by
  show wp (M.bind _ _) en s Q = _
  simp only [wp_bind, wp_ret]
  rfl
end
section
variable (Q : Bool → Env → Sto → Prop)
theorem qt_v (i) : wp (ev2 cf (.v i)).2 en s Q = getQ en[i]? fun d => optQ (truthy (derefD s d)) fun b => Q b en s := by
  show wp (M.bind _ _) en s Q = _
  simp only [wp_bind, wp_get, wp_tru]
theorem qt_and (a b) : wp (ev2 cf (.and_ a b)).2 en s Q = wp (ev2 cf a).2 en s fun t en s => if t then wp (ev2 cf b).2 en s Q else Q false en s := by
  show wp (M.bind _ _) en s Q = _
  simp only [wp_bind, wp_ite, wp_ret]
theorem qt_or (a b) : wp (ev2 cf (.or_ a b)).2 en s Q = wp (ev2 cf a).2 en s fun t en s => if t then Q true en s else wp (ev2 cf b).2 en s Q := by
  show wp (M.bind _ _) en s Q = _
  simp only [wp_bind, wp_ite, wp_ret]
theorem qt_not (a) : wp (ev2 cf (.not_ a)).2 en s Q = wp (ev2 cf a).2 en s fun t en s => Q (!t) en s := by
  show wp (M.bind _ _) en s Q = _
  simp only [wp_bind, wp_ret]
theorem qt_vt {e : E} (h : (ev2 cf e).2 = (ev2 cf e).1.bind fun d => truM d) : wp (ev2 cf e).2 en s Q = wp (ev2 cf e).1 en s fun d en s => optQ (truthy (derefD s d)) fun b => Q b en s := by
  rw [h, wp_bind]
  simp only [wp_tru]
theorem qt_mv (i) : wp (ev2 cf (.mv i)).2 en s Q = wp (ev2 cf (.mv i)).1 en s fun d en s => optQ (truthy (derefD s d)) fun b => Q b en s := qt_vt cf en s Q rfl
theorem qt_box (i) : wp (ev2 cf (.box i)).2 en s Q = wp (ev2 cf (.box i)).1 en s fun d en s => optQ (truthy (derefD s d)) fun b => Q b en s := qt_vt cf en s Q rfl
theorem qt_rf (i) : wp (ev2 cf (.rf i)).2 en s Q = wp (ev2 cf (.rf i)).1 en s fun d en s => optQ (truthy (derefD s d)) fun b => Q b en s := qt_vt cf en s Q rfl
theorem qt_k (i) : wp (ev2 cf (.k i)).2 en s Q = wp (ev2 cf (.k i)).1 en s fun d en s => optQ (truthy (derefD s d)) fun b => Q b en s := qt_vt cf en s Q rfl
theorem qt_prim (p es) : wp (ev2 cf (.prim p es)).2 en s Q = wp (ev2 cf (.prim p es)).1 en s fun d en s => optQ (truthy (derefD s d)) fun b => Q b en s := qt_vt cf en s Q rfl
theorem qt_chain (p q a b c) : wp (ev2 cf (.chain p q a b c)).2 en s Q = wp (ev2 cf (.chain p q a b c)).1 en s fun d en s => optQ (truthy (derefD s d)) fun b => Q b en s := qt_vt cf en s Q rfl
theorem qt_tup (es) : wp (ev2 cf (.tup es)).2 en s Q = wp (ev2 cf (.tup es)).1 en s fun d en s => optQ (truthy (derefD s d)) fun b => Q b en s := qt_vt cf en s Q rfl
theorem qt_lst (es) : wp (ev2 cf (.lst es)).2 en s Q = wp (ev2 cf (.lst es)).1 en s fun d en s => optQ (truthy (derefD s d)) fun b => Q b en s := qt_vt cf en s Q rfl
theorem qt_call (f es) : wp (ev2 cf (.call f es)).2 en s Q = wp (ev2 cf (.call f es)).1 en s fun d en s => optQ (truthy (derefD s d)) fun b => Q b en s := qt_vt cf en s Q rfl
theorem qt_cond (c a b) : wp (ev2 cf (.cond c a b)).2 en s Q = wp (ev2 cf (.cond c a b)).1 en s fun d en s => optQ (truthy (derefD s d)) fun b => Q b en s := qt_vt cf en s Q rfl
theorem qt_meth (p t es) : wp (ev2 cf (.meth p t es)).2 en s Q = wp (ev2 cf (.meth p t es)).1 en s fun d en s => optQ (truthy (derefD s d)) fun b => Q b en s := qt_vt cf en s Q rfl
theorem qt_mut (p t es) : wp (ev2 cf (.mut p t es)).2 en s Q = wp (ev2 cf (.mut p t es)).1 en s fun d en s => optQ (truthy (derefD s d)) fun b => Q b en s := qt_vt cf en s Q rfl
theorem qt_callA (f es ks arr) : wp (ev2 cf (.callA f es ks arr)).2 en s Q = wp (ev2 cf (.callA f es ks arr)).1 en s fun d en s => optQ (truthy (derefD s d)) fun b => Q b en s := qt_vt cf en s Q rfl
theorem qt_lc (o g it i e) : wp (ev2 cf (.lc o g it i e)).2 en s Q = wp (ev2 cf (.lc o g it i e)).1 en s fun d en s => optQ (truthy (derefD s d)) fun b => Q b en s := qt_vt cf en s Q rfl
theorem q_ts0 : wp (tsts cf []) en s Q = Q true en s := id rfl
theorem q_ts1 (e es) : wp (tsts cf (e :: es)) en s Q = wp (ev2 cf e).2 en s fun b en s => if b then wp (tsts cf es) en s Q else Q false en s := by
  show wp (M.bind _ _) en s Q = _
  simp only [wp_bind, wp_ite, wp_ret]
end
section
variable (Q : List D → Env → Sto → Prop)
theorem q_evs0 : wp (evs cf []) en s Q = Q [] en s := id rfl
theorem q_evs1 (e es) : wp (evs cf (e :: es)) en s Q = wp (ev2 cf e).1 en s fun d en s => wp (evs cf es) en s fun ds en s => Q (d :: ds) en s := by
  show wp (M.bind _ _) en s Q = _
  simp only [wp_bind, wp_ret]
theorem q_ops0 : wp (ops cf []) en s Q = Q [] en s := id rfl
theorem q_opB (e : E) (x : M D) (es) (h : ∀ r, opB e x r = (x.bind fun d => r.bind fun ds => .ret (d :: ds))) : wp (opB e x (ops cf es)) en s Q = wp x en s fun d en s => wp (ops cf es) en s fun ds en s => Q (d :: ds) en s := by
  rw [h]
  simp only [wp_bind, wp_ret]
theorem q_opv (i es) : wp (ops cf (.v i :: es)) en s Q = getQ en[i]? fun _ => wp (ops cf es) en s fun ds en s => getQ en[i]? fun d => Q (d :: ds) en s := by
  show wp (M.bind _ _) en s Q = _
  simp only [wp_bind, wp_ret, wp_get]
theorem o_mv (i es) : wp (ops cf (.mv i :: es)) en s Q = wp (ev2 cf (.mv i)).1 en s fun d en s => wp (ops cf es) en s fun ds en s => Q (d :: ds) en s := q_opB cf en s Q (.mv i) _ es fun _ => rfl
theorem o_box (i es) : wp (ops cf (.box i :: es)) en s Q = wp (ev2 cf (.box i)).1 en s fun d en s => wp (ops cf es) en s fun ds en s => Q (d :: ds) en s := q_opB cf en s Q (.box i) _ es fun _ => rfl
theorem o_rf (i es) : wp (ops cf (.rf i :: es)) en s Q = wp (ev2 cf (.rf i)).1 en s fun d en s => wp (ops cf es) en s fun ds en s => Q (d :: ds) en s := q_opB cf en s Q (.rf i) _ es fun _ => rfl
theorem o_k (d es) : wp (ops cf (.k d :: es)) en s Q = wp (ops cf es) en s fun ds en s => Q (d :: ds) en s := q_opB cf en s Q (.k d) _ es fun _ => rfl
theorem o_prim (p x es) : wp (ops cf (.prim p x :: es)) en s Q = wp (ev2 cf (.prim p x)).1 en s fun d en s => wp (ops cf es) en s fun ds en s => Q (d :: ds) en s := q_opB cf en s Q (.prim p x) _ es fun _ => rfl
theorem o_chain (p q a b c es) : wp (ops cf (.chain p q a b c :: es)) en s Q = wp (ev2 cf (.chain p q a b c)).1 en s fun d en s => wp (ops cf es) en s fun ds en s => Q (d :: ds) en s := q_opB cf en s Q (.chain p q a b c) _ es fun _ => rfl
theorem o_tup (x es) : wp (ops cf (.tup x :: es)) en s Q = wp (ev2 cf (.tup x)).1 en s fun d en s => wp (ops cf es) en s fun ds en s => Q (d :: ds) en s := q_opB cf en s Q (.tup x) _ es fun _ => rfl
theorem o_lst (x es) : wp (ops cf (.lst x :: es)) en s Q = wp (ev2 cf (.lst x)).1 en s fun d en s => wp (ops cf es) en s fun ds en s => Q (d :: ds) en s := q_opB cf en s Q (.lst x) _ es fun _ => rfl
theorem o_call (f x es) : wp (ops cf (.call f x :: es)) en s Q = wp (ev2 cf (.call f x)).1 en s fun d en s => wp (ops cf es) en s fun ds en s => Q (d :: ds) en s := q_opB cf en s Q (.call f x) _ es fun _ => rfl
theorem o_and (a b es) : wp (ops cf (.and_ a b :: es)) en s Q = wp (ev2 cf (.and_ a b)).1 en s fun d en s => wp (ops cf es) en s fun ds en s => Q (d :: ds) en s := q_opB cf en s Q (.and_ a b) _ es fun _ => rfl
theorem o_or (a b es) : wp (ops cf (.or_ a b :: es)) en s Q = wp (ev2 cf (.or_ a b)).1 en s fun d en s => wp (ops cf es) en s fun ds en s => Q (d :: ds) en s := q_opB cf en s Q (.or_ a b) _ es fun _ => rfl
theorem o_not (a es) : wp (ops cf (.not_ a :: es)) en s Q = wp (ev2 cf (.not_ a)).1 en s fun d en s => wp (ops cf es) en s fun ds en s => Q (d :: ds) en s := q_opB cf en s Q (.not_ a) _ es fun _ => rfl
theorem o_cond (c a b es) : wp (ops cf (.cond c a b :: es)) en s Q = wp (ev2 cf (.cond c a b)).1 en s fun d en s => wp (ops cf es) en s fun ds en s => Q (d :: ds) en s := q_opB cf en s Q (.cond c a b) _ es fun _ => rfl
theorem o_mut (m t x es) : wp (ops cf (.mut m t x :: es)) en s Q = wp (ev2 cf (.mut m t x)).1 en s fun d en s => wp (ops cf es) en s fun ds en s => Q (d :: ds) en s := q_opB cf en s Q (.mut m t x) _ es fun _ => rfl
theorem o_meth (m t x es) : wp (ops cf (.meth m t x :: es)) en s Q = wp (ev2 cf (.meth m t x)).1 en s fun d en s => wp (ops cf es) en s fun ds en s => Q (d :: ds) en s := q_opB cf en s Q (.meth m t x) _ es fun _ => rfl
theorem o_callA (f x ks arr es) : wp (ops cf (.callA f x ks arr :: es)) en s Q = wp (ev2 cf (.callA f x ks arr)).1 en s fun d en s => wp (ops cf es) en s fun ds en s => Q (d :: ds) en s := q_opB cf en s Q (.callA f x ks arr) _ es fun _ => rfl
theorem o_lc (o g it i e es) : wp (ops cf (.lc o g it i e :: es)) en s Q = wp (ev2 cf (.lc o g it i e)).1 en s fun d en s => wp (ops cf es) en s fun ds en s => Q (d :: ds) en s := q_opB cf en s Q (.lc o g it i e) _ es fun _ => rfl
theorem q_seq (e) : wp (iter cf (.seq e)) en s Q = wp (ev2 cf e).1 en s fun d en s => optQ (seqItems d) fun ds => Q ds en s := by
  show wp (M.bind _ _) en s Q = _
  simp only [wp_bind, wp_opt]
theorem q_enum (e) : wp (iter cf (.enum e)) en s Q = wp (ev2 cf e).1 en s fun d en s => optQ (enumO d) fun ds => Q ds en s := by
  show wp (M.bind _ _) en s Q = _
  simp only [wp_bind, wp_opt]
  rfl
theorem q_rng1 (e) : wp (iter cf (.rng1 e)) en s Q = wp (ev2 cf e).1 en s fun d en s => optQ (rngO d) fun ds => Q ds en s := by
  show wp (M.bind _ _) en s Q = _
  simp only [wp_bind, wp_opt]
  rfl
theorem q_rng2 (a b) : wp (iter cf (.rng2 a b)) en s Q = wp (ev2 cf a).1 en s fun d en s => wp (ev2 cf b).1 en s fun f en s => optQ (rngO2 d f) fun ds => Q ds en s := by
  show wp (M.bind _ _) en s Q = _
  simp only [wp_bind, wp_opt]
  rfl
end
section
variable (Q : Flow → Env → Sto → Prop)
theorem q_asg (g e) : wp (exS cf W (.asg g e)) en s Q = wp (ev2 cf e).1 en s fun d en s => wp (asgG cf g d) en s fun _ en s => Q .next en s := by
  show wp (M.bind _ _) en s Q = _
  simp only [wp_bind, wp_calm, wp_ret]
theorem q_ex (e) : wp (exS cf W (.ex e)) en s Q = wp (ev2 cf e).1 en s fun _ en s => Q .next en s := by
  show wp (M.bind _ _) en s Q = _
  simp only [wp_bind, wp_ret]
theorem q_ret (e) : wp (exS cf W (.ret e)) en s Q = wp (ev2 cf e).1 en s fun d en s => Q (.ret d) en s := by
  show wp (M.bind _ _) en s Q = _
  simp only [wp_bind, wp_ret]
theorem q_ite (c a b) : wp (exS cf W (.ite c a b)) en s Q = wp (ev2 cf c).2 en s fun t en s => if t then wp (exSs cf W a) en s Q else wp (exSs cf W b) en s Q := by
  show wp (M.bind _ _) en s Q = _
  simp only [wp_bind, wp_ite]
theorem q_for (g it b) : wp (exS cf W (.for_ g it b)) en s Q = wp (iter cf it) en s fun ds en s => wp (forL (fun d => (asgG cf g d).calm) (exSs cf W b) ds) en s Q := by
  show wp (M.bind _ _) en s Q = _
  simp only [wp_bind]
theorem q_pass : wp (exS cf W .pass) en s Q = Q .next en s := id rfl
theorem q_brk : wp (exS cf W .brk) en s Q = Q .brk en s := id rfl
theorem q_cont : wp (exS cf W .cont) en s Q = Q .cont en s := id rfl
theorem q_while (c b) : wp (exS cf W (.while_ c b)) en s Q = wp (whileL (tst cf c) (exSs cf W b) W) en s Q := id rfl
def nextQ (cf : Calls) (W : Nat) (ss : List S) (Q : Flow → Env → Sto → Prop) (f : Flow) (en : Env) (s : Sto) : Prop := match f with
  | .next => wp (exSs cf W ss) en s Q
  | f => Q f en s
theorem nextQ_next (ss) : nextQ cf W ss Q .next en s = wp (exSs cf W ss) en s Q := id rfl
theorem nextQ_ret (ss d) : nextQ cf W ss Q (.ret d) en s = Q (.ret d) en s := id rfl
theorem nextQ_brk (ss) : nextQ cf W ss Q .brk en s = Q .brk en s := id rfl
theorem nextQ_cont (ss) : nextQ cf W ss Q .cont en s = Q .cont en s := id rfl
theorem q_ss0 : wp (exSs cf W []) en s Q = Q .next en s := id rfl
theorem q_ss1 (x ss) : wp (exSs cf W (x :: ss)) en s Q = wp (exS cf W x) en s (nextQ cf W ss Q) := by
  show wp (M.bind _ _) en s Q = _
  rw [wp_bind]
  refine congrArg _ (funext fun f => funext fun en => funext fun s => ?_)
  cases f <;> rfl
end
theorem q_app (Q : Flow → Env → Sto → Prop) : ∀ (a b : List S) (en : Env) (s : Sto), wp (exSs cf W (a ++ b)) en s Q = wp (exSs cf W a) en s (nextQ cf W b Q)
  | [], b, en, s => rfl
  | x :: a, b, en, s => by
    rw [List.cons_append, q_ss1, q_ss1]
    refine congrArg _ (funext fun f => funext fun en => funext fun s => ?_)
    cases f with
    | next => exact q_app Q a b en s
    | _ => rfl
section
variable (Q : Unit → Env → Sto → Prop)
theorem q_nm (i d) : wp (asgG cf (.nm i) d) en s Q = Q () (en.set i (some d)) s := id rfl
theorem q_tp (gs ds) : wp (asgG cf (.tp gs) (.tup ds)) en s Q = if ds.length = gs.length then wp (asgGs cf gs ds) en s Q else False := by
  show wp (if _ then _ else _) en s Q = _
  rw [wp_ite, wp_stuck]
theorem q_gs0 : wp (asgGs cf [] []) en s Q = Q () en s := id rfl
theorem q_gs1 (g gs d ds) : wp (asgGs cf (g :: gs) (d :: ds)) en s Q = wp (asgG cf g d) en s fun _ en s => wp (asgGs cf gs ds) en s Q := by
  show wp (M.bind _ _) en s Q = _
  rw [wp_bind]
theorem q_sub_v (n i d) : wp (asgG cf (.sub (.v n) i) d) en s Q = getQ en[n]? fun _ => wp (ev2 cf i).1 en s fun j en s => getQ en[n]? fun d0 => wp (mutM .set d0 (some n) [j.hard, d.hard]) en s fun _ en s => Q () en s := by
  show wp (M.bind _ _) en s Q = _
  simp only [wp_bind, wp_calm]
  show wp (M.bind _ _) en s _ = _
  simp only [wp_bind, wp_get, wp_ret, slotOf]
theorem q_sub (o i d) : wp (asgG cf (.sub o i) d) en s Q = wp (pl1 o (ev2 cf o).1) en s fun r en s => wp (ev2 cf i).1 en s fun j en s => wp (match r with
      | none => (match slotOf o with
        | some n => (getV n).bind fun d0 => (mutM .set d0 (some n) [j.hard, d.hard]).bind fun _ => .ret ()
        | none => .stuck)
      | some d0 => (mutM .set d0 none [j.hard, d.hard]).bind fun _ => .ret ()) en s Q := by
  show wp (M.bind _ _) en s Q = _
  simp only [wp_bind, wp_calm]
  try rfl
end
theorem w_pl_v (i x) (Q : Option D → Env → Sto → Prop) : wp (pl1 (.v i) x) en s Q = getQ en[i]? fun _ => Q none en s := by
  show wp (M.bind _ _) en s Q = _
  simp only [wp_bind, wp_ret, wp_get]
theorem w_pl_k (d x) (Q : Option D → Env → Sto → Prop) : wp (pl1 (.k d) x) en s Q = wp x en s fun d en s => Q (some d) en s := by
  show wp (M.bind _ _) en s Q = _
  simp only [wp_bind, wp_ret]
theorem w_pl_prim (p es x) (Q : Option D → Env → Sto → Prop) : wp (pl1 (.prim p es) x) en s Q = wp x en s fun d en s => Q (some d) en s := by
  show wp (M.bind _ _) en s Q = _
  simp only [wp_bind, wp_ret]
theorem w_fin_s (i d) (Q : D → Env → Sto → Prop) : wp (fin1 i (some d)) en s Q = Q d en s := id rfl
theorem w_fin_n (i) (Q : D → Env → Sto → Prop) : wp (fin1 (slotOf (.v i)) none) en s Q = getQ en[i]? fun d => Q d en s := wp_get
theorem w_lookL (d) (Q : Unit → Env → Sto → Prop) : wp (lookL d) en s Q = (lookQ s d ∧ Q () en s) := by
  unfold wp lookL
  cases d with
  | own ds => simp [lookQ]
  | ref n =>
    simp only [lookQ]
    cases h : s[n]? with
    | none => simp
    | some o => cases o <;> simp
  | _ => simp [lookQ]
theorem w_lookP_n (i) (Q : Unit → Env → Sto → Prop) : wp (lookP (slotOf (.v i)) none) en s Q = getQ en[i]? fun d => lookQ s d ∧ Q () en s := by
  show wp (M.bind _ _) en s Q = _
  simp only [wp_bind, wp_get, w_lookL]
theorem w_lookP_s (i d) (Q : Unit → Env → Sto → Prop) : wp (lookP i (some d)) en s Q = (lookQ s d ∧ Q () en s) := w_lookL en s d Q
theorem w_mut_own (m ds i as) (Q : D → Env → Sto → Prop) : wp (mutM m (.own ds) (some i) as) en s Q = optQ (muF m ds as) fun p => Q p.2 (en.set i (some (.own p.1))) s := by
  unfold wp mutM
  cases h : muF m ds as with
  | none => simp [h, optQ]
  | some p => obtain ⟨a, b⟩ := p; simp [h, optQ]
def lstQ (o : Option O) (K : List D → Prop) : Prop := match o with
  | some (.lst ds) => K ds
  | _ => False
theorem lstQ_some (ds K) : lstQ (some (.lst ds)) K = K ds := id rfl
theorem w_mut_ref (m n i as) (Q : D → Env → Sto → Prop) : wp (mutM m (.ref n) i as) en s Q = lstQ s[n]? fun ds => optQ (muF m ds as) fun p => Q p.2 en (s.set n (.lst p.1)) := by
  unfold wp mutM lstQ
  cases h : s[n]? with
  | none => simp [h]
  | some o =>
    cases o with
    | ins c fs => simp [h]
    | ldic t kvs => simp [h]
    | dic kvs => simp [h]
    | exn c k => simp [h]
    | xdt fs => simp [h]
    | lst ds =>
      simp only [h]
      cases h2 : muF m ds as with
      | none => simp [optQ]
      | some p => obtain ⟨a, b⟩ := p; simp [optQ]
end
section
variable (cf : Calls) (en : Env) (s : Sto)
theorem wp_drM (o x y) (Q : D → Env → Sto → Prop) : wp (drM o x y) en s Q = optQ (rdAt s x) fun p => optQ (keyD y) fun k => optQ (drF o p.2 k) fun d => Q d en s := by
  unfold drM
  cases h1 : rdAt s x with
  | none => simp [wp, h1, optQ]
  | some p =>
    cases h2 : keyD y with
    | none => simp [wp, h1, h2, optQ]
    | some k => cases h3 : drF o p.2 k <;> simp [wp, h1, h2, h3, optQ, M.opt, M.ret, M.stuck]
theorem wp_lookD (x) (Q : Unit → Env → Sto → Prop) : wp (lookD x) en s Q = optQ (dicAt s x) fun _ => Q () en s := by
  unfold lookD
  cases h1 : dicAt s x <;> simp [wp, h1, optQ]
theorem wp_dpopM (x y) (Q : D → Env → Sto → Prop) : wp (dpopM x y) en s Q = optQ (dicAt s x) fun p => optQ (keyD y) fun k => optQ (valD p.2 k) fun v => Q v en (s.set p.1 (.dic (dropD p.2 k))) := by
  unfold dpopM
  cases h1 : dicAt s x with
  | none => simp [wp, h1, optQ]
  | some p =>
    cases h2 : keyD y with
    | none => simp [wp, h1, h2, optQ]
    | some k => cases h3 : valD p.2 k <;> simp [wp, h1, h2, h3, optQ]
theorem wp_dputM (x y v) (Q : Unit → Env → Sto → Prop) : wp (dputM x y v) en s Q = optQ (dicAt s x) fun p => optQ (keyD y) fun k => p.2.length < big ∧ Q () en (s.set p.1 (.dic (putD p.2 k v))) := by
  unfold dputM
  cases h1 : dicAt s x with
  | none => simp [wp, h1, optQ]
  | some p =>
    cases h2 : keyD y with
    | none => simp [wp, h1, h2, optQ]
    | some k =>
      by_cases h3 : p.2.length < 16777216 <;> simp [wp, h1, h2, h3, optQ]
theorem q_dnew (Q : D → Env → Sto → Prop) : wp (ev2 cf .dnew).1 en s Q = Q (.ref s.length) en (s ++ [.dic []]) := rfl
theorem q_dget (tgt k) (Q : D → Env → Sto → Prop) : wp (ev2 cf (.dget tgt k)).1 en s Q = wp (ev2 cf tgt).1 en s fun x en s => wp (ev2 cf k).1 en s fun y en s => optQ (rdAt s x) fun p => optQ (keyD y) fun k => optQ (valD p.2 k) fun d => Q d en s := by
  show wp (M.bind _ _) en s Q = _
  simp only [wp_bind, wp_drM]
  rfl
theorem q_dhas (neg k tgt) (Q : D → Env → Sto → Prop) : wp (ev2 cf (.dhas neg k tgt)).1 en s Q = wp (ev2 cf k).1 en s fun y en s => wp (ev2 cf tgt).1 en s fun x en s => optQ (rdAt s x) fun p => optQ (keyD y) fun k => Q (.bl ((valD p.2 k).isSome != neg)) en s := by
  show wp (M.bind _ _) en s Q = _
  simp only [wp_bind, wp_drM]
  cases neg <;> simp [drF, optQ]
theorem q_dpop (tgt k) (Q : D → Env → Sto → Prop) : wp (ev2 cf (.dpop tgt k)).1 en s Q = wp (ev2 cf tgt).1 en s fun x en s => optQ (dicAt s x) fun _ => wp (ev2 cf k).1 en s fun y en s => optQ (dicAt s x) fun p => optQ (keyD y) fun k => optQ (valD p.2 k) fun v => Q v en (s.set p.1 (.dic (dropD p.2 k))) := by
  show wp (M.bind _ _) en s Q = _
  simp only [wp_bind, wp_lookD, wp_dpopM]
theorem wp_lockM (x) (Q : Nat → Env → Sto → Prop) : wp (lockM x) en s Q = optQ (dicAt s x) fun p => Q p.1 en (s.set p.1 (.ldic p.1 p.2)) := by
  unfold lockM
  cases h1 : dicAt s x <;> simp [wp, h1, optQ]
theorem wp_unlockM (n r) (Q : D → Env → Sto → Prop) : wp (unlockM n r) en s Q = optQ (ldicAt s (.ref n)) fun p => Q r en (s.set n (.dic p.2)) := by
  unfold unlockM
  cases h1 : ldicAt s (.ref n) <;> simp [wp, h1, optQ]
theorem wp_keysM (x) (Q : List D → Env → Sto → Prop) : wp (keysM x) en s Q = optQ (ldicAt s x) fun p => Q (p.2.map fun kv => kyD kv.1) en s := by
  unfold keysM
  cases h1 : ldicAt s x <;> simp [wp, h1, optQ]
theorem q_lkd (i x) (Q : D → Env → Sto → Prop) : wp (ev2 cf (.lkd i x)).1 en s Q = getQ en[i]? fun d => optQ (dicAt s d) fun p => wp (ev2 cf x).1 en (s.set p.1 (.ldic p.1 p.2)) fun r en s => optQ (ldicAt s (.ref p.1)) fun q => Q r en (s.set p.1 (.dic q.2)) := by
  show wp (M.bind _ _) en s Q = _
  simp only [wp_bind, wp_get, wp_calm, wp_lockM, wp_unlockM]
theorem qi_keys (e) (Q : List D → Env → Sto → Prop) : wp (iter cf (.keys e)) en s Q = wp (ev2 cf e).1 en s fun d en s => optQ (ldicAt s d) fun p => Q (p.2.map fun kv => kyD kv.1) en s := by
  show wp (M.bind _ _) en s Q = _
  simp only [wp_bind, wp_keysM]
theorem q_dsub (o i d) (Q : Unit → Env → Sto → Prop) : wp (asgG cf (.dsub o i) d) en s Q = wp (ev2 cf o).1 en s fun x en s => wp (ev2 cf i).1 en s fun y en s => optQ (dicAt s x) fun p => optQ (keyD y) fun k => p.2.length < big ∧ Q () en (s.set p.1 (.dic (putD p.2 k d.hard))) := by
  show wp (M.bind _ _) en s Q = _
  simp only [wp_bind, wp_calm, wp_dputM]
theorem qt_dget (tgt k) (Q : Bool → Env → Sto → Prop) : wp (ev2 cf (.dget tgt k)).2 en s Q = wp (ev2 cf (.dget tgt k)).1 en s fun d en s => optQ (truthy (derefD s d)) fun b => Q b en s := qt_vt cf en s Q rfl
theorem qt_dhas (neg k tgt) (Q : Bool → Env → Sto → Prop) : wp (ev2 cf (.dhas neg k tgt)).2 en s Q = wp (ev2 cf (.dhas neg k tgt)).1 en s fun d en s => optQ (truthy (derefD s d)) fun b => Q b en s := qt_vt cf en s Q rfl
section
variable (Q : List D → Env → Sto → Prop)
theorem o_dget (a b es) : wp (ops cf (.dget a b :: es)) en s Q = wp (ev2 cf (.dget a b)).1 en s fun d en s => wp (ops cf es) en s fun ds en s => Q (d :: ds) en s := q_opB cf en s Q (.dget a b) _ es fun _ => rfl
theorem o_dhas (n a b es) : wp (ops cf (.dhas n a b :: es)) en s Q = wp (ev2 cf (.dhas n a b)).1 en s fun d en s => wp (ops cf es) en s fun ds en s => Q (d :: ds) en s := q_opB cf en s Q (.dhas n a b) _ es fun _ => rfl
end
theorem q_bad (W) (Q : Flow → Env → Sto → Prop) : wp (exS cf W .bad) en s Q = False := rfl
end
end Mi.W0
end
section
set_option Elab.async false
set_option maxRecDepth 100000
set_option linter.all false
namespace Mi
open PySem
/-- beside a way on: it is not looked into ahead of its turn -/
inductive U {α : Type} (a : α) : Type where
  | mk
def wp {α : Type} (m : M α) (en : Env) (s : Sto) (Q : α → Env → Sto → Prop) (u : U Q := .mk) : Prop := W0.wp m en s Q
def optQ {α : Type} (o : Option α) (K : α → Prop) (u : U K := .mk) : Prop := W0.optQ o K
def getQ (o : Option (Option D)) (K : D → Prop) (u : U K := .mk) : Prop := W0.getQ o K
def useQ (o : Option (Option D)) (i : Nat) (en : Env) (K : D → Env → Prop) (u : U K := .mk) : Prop := W0.useQ o i en K
def callQ (c : C) (K : D → Sto → Prop) (u : U K := .mk) : Prop := W0.callQ c K
@[simp] theorem val_non : val .non = true := id rfl
@[simp] theorem val_bl (x) : val (.bl x) = true := id rfl
@[simp] theorem val_int (x) : val (.int x) = true := id rfl
@[simp] theorem val_str (x) : val (.str x) = true := id rfl
@[simp] theorem val_tup (x) : val (.tup x) = true := id rfl
@[simp] theorem val_frz (x) : val (.frz x) = true := id rfl
section
variable {α : Type} (K : α → Prop)
@[simp] theorem optQ_some (a : α) : optQ (some a) K = K a := W0.optQ_some ..
@[simp] theorem optQ_none : optQ none K = False := W0.optQ_none ..
end
@[simp] theorem getQ_some (d : D) (K : D → Prop) : getQ (some (some d)) K = K d := W0.getQ_some ..
@[simp] theorem getQ_n1 (K : D → Prop) : getQ (some none) K = False := W0.getQ_n1 ..
@[simp] theorem getQ_n2 (K : D → Prop) : getQ none K = False := W0.getQ_n2 ..
section
variable (i : Nat) (en : Env) (K : D → Env → Prop)
@[simp] theorem useQ_own (ds) : useQ (some (some (.own ds))) i en K = K (.frz ds) (en.set i (some (.frz ds))) := W0.useQ_own ..
@[simp] theorem useQ_frz (ds) : useQ (some (some (.frz ds))) i en K = K (.frz ds) en := W0.useQ_frz ..
@[simp] theorem useQ_tup (ds) : useQ (some (some (.tup ds))) i en K = K (.tup ds) en := W0.useQ_tup ..
@[simp] theorem useQ_non : useQ (some (some .non)) i en K = K .non en := W0.useQ_non ..
@[simp] theorem useQ_bl (b) : useQ (some (some (.bl b))) i en K = K (.bl b) en := W0.useQ_bl ..
@[simp] theorem useQ_int (b) : useQ (some (some (.int b))) i en K = K (.int b) en := W0.useQ_int ..
@[simp] theorem useQ_str (b) : useQ (some (some (.str b))) i en K = K (.str b) en := W0.useQ_str ..
@[simp] theorem useQ_ref (b) : useQ (some (some (.ref b))) i en K = K (.ref b) en := W0.useQ_ref ..
@[simp] theorem useQ_n1 : useQ (some none) i en K = False := W0.useQ_n1 ..
@[simp] theorem useQ_n2 : useQ none i en K = False := W0.useQ_n2 ..
@[simp] theorem useQ_val (d) (h : val d = true) : useQ (some (some d)) i en K = K d en := W0.useQ_val _ _ _ _ h
end
@[simp] theorem callQ_ok (d s K) : callQ (.ok d s) K = K d s := W0.callQ_ok ..
@[simp] theorem callQ_stuck (K) : callQ .stuck K = False := W0.callQ_stuck ..
@[simp] theorem hard_val (d : D) (h : val d = true) : D.hard d = d := by cases d <;> first | rfl | cases h
@[simp] theorem hard_own (ds) : D.hard (.own ds) = .frz ds := id rfl
@[simp] theorem hard_ref (n) : D.hard (.ref n) = .ref n := id rfl
@[simp] theorem deref_val (S : Sto) (d : D) (h : val d = true) : derefD S d = d := by cases d <;> first | rfl | cases h
@[simp] theorem deref_own (S : Sto) (ds) : derefD S (.own ds) = .own ds := id rfl
theorem deref_ref {S : Sto} {n : Nat} {ds : List D} (h : S[n]? = some (.lst ds)) : derefD S (.ref n) = .own ds := by simp [derefD, h]
section
variable {α β : Type} {en : Env} {s : Sto}
@[simp ↓] theorem wp_bind {m : M α} {f : α → M β} {Q : β → Env → Sto → Prop} : wp (m.bind f) en s Q = wp m en s fun a en s => wp (f a) en s Q := W0.wp_bind ..
@[simp ↓] theorem wp_ret {a : α} {Q : α → Env → Sto → Prop} : wp (.ret a) en s Q = Q a en s := W0.wp_ret ..
@[simp ↓] theorem wp_stuck {Q : α → Env → Sto → Prop} : wp (.stuck : M α) en s Q = False := W0.wp_stuck ..
@[simp ↓] theorem wp_opt {o : Option α} {Q : α → Env → Sto → Prop} : wp (M.opt o) en s Q = optQ o fun a => Q a en s := W0.wp_opt ..
@[simp ↓] theorem wp_ite {c : Prop} [Decidable c] {a b : M α} {Q : α → Env → Sto → Prop} : wp (if c then a else b) en s Q = if c then wp a en s Q else wp b en s Q := W0.wp_ite ..
@[simp ↓] theorem wp_calm {m : M α} {Q : α → Env → Sto → Prop} : wp m.calm en s Q = wp m en s Q := W0.wp_calm ..
@[simp ↓] theorem wp_prim {p : P} {ds : List D} {Q : D → Env → Sto → Prop} : wp (primM p ds) en s Q = optQ (primF p (ds.map (derefD s))) fun d => Q d en s := W0.wp_prim ..
@[simp ↓] theorem wp_tru {d : D} {Q : Bool → Env → Sto → Prop} : wp (truM d) en s Q = optQ (truthy (derefD s d)) fun d => Q d en s := W0.wp_tru ..
@[simp ↓] theorem wp_setV {i : Nat} {d : D} {Q : Unit → Env → Sto → Prop} : wp (setV i d) en s Q = Q () (en.set i (some d)) s := W0.wp_setV ..
@[simp ↓] theorem wp_get {i : Nat} {Q : D → Env → Sto → Prop} : wp (getV i) en s Q = getQ en[i]? fun d => Q d en s := W0.wp_get ..
@[simp ↓] theorem wp_use {i : Nat} {Q : D → Env → Sto → Prop} : wp (useV i) en s Q = useQ en[i]? i en fun d en => Q d en s := W0.wp_use ..
@[simp ↓] theorem wp_move {i : Nat} {Q : D → Env → Sto → Prop} : wp (moveV i) en s Q = getQ en[i]? fun d => Q d (en.set i none) s := W0.wp_move ..
def refQ (o : Option (Option D)) (i : Nat) (en : Env) (s : Sto) (K : D → Env → Sto → Prop) (u : U K := .mk) : Prop := W0.refQ o i en s K
@[simp] theorem refQ_own (ds i) (K : D → Env → Sto → Prop) : refQ (some (some (.own ds))) i en s K = K (.ref s.length) (en.set i (some (.ref s.length))) (s ++ [.lst ds]) := W0.refQ_own ..
@[simp] theorem refQ_ref (n i) (K : D → Env → Sto → Prop) : refQ (some (some (.ref n))) i en s K = K (.ref n) en s := W0.refQ_ref ..
@[simp ↓] theorem wp_rf {i : Nat} {Q : D → Env → Sto → Prop} : wp (refV i) en s Q = refQ en[i]? i en s Q := W0.wp_rf ..
@[simp ↓] theorem wp_call {cf : Calls} {f : Nat} {ds : List D} {Q : D → Env → Sto → Prop} : wp (callM cf f ds) en s Q = callQ (cf f ds s) fun d s => Q d en s := W0.wp_call ..
theorem wp_mono {m : M α} {Q Q' : α → Env → Sto → Prop} (h : wp m en s Q) (k : ∀ a en s, Q a en s → Q' a en s) : wp m en s Q' := W0.wp_mono h k
end
@[simp] theorem endQ_next (Q s) : endQ Q .next s = Q .non s := id rfl
@[simp] theorem endQ_ret (Q d s) : endQ Q (.ret d) s = Q d s := id rfl
theorem ans_of {fns : List Fn} {W n f : Nat} {ds : List D} {s : Sto} {Q : D → Sto → Prop} {fn : Fn} (h : fns[f]? = some fn) (hl : ds.length = fn.np)
    (w : wp (exSs (run fns W n) W fn.body) (initE fn.nl ds) s fun fl _ s' => endQ Q fl s') : ans fns W (n + 1) f ds s Q := W0.ans_of h hl w
section
variable (cf : Calls) (W : Nat) (en : Env) (s : Sto)
section
variable (Q : D → Env → Sto → Prop)
@[simp ↓] theorem q_v (i) : wp (ev2 cf (.v i)).1 en s Q = useQ en[i]? i en fun d en => Q d en s := W0.q_v ..
@[simp ↓] theorem q_mv (i) : wp (ev2 cf (.mv i)).1 en s Q = getQ en[i]? fun d => Q d (en.set i none) s := W0.q_mv ..
@[simp ↓] theorem q_box (x) : wp (ev2 cf (.box x)).1 en s Q = wp (ev2 cf x).1 en s fun d en s => wp (boxM d) en s Q := W0.q_box ..
@[simp ↓] theorem w_box_own (ds) : wp (boxM (.own ds)) en s Q = Q (.ref s.length) en (s ++ [.lst ds]) := id rfl
@[simp ↓] theorem w_box_ref (n) : wp (boxM (.ref n)) en s Q = Q (.ref n) en s := id rfl
theorem w_box_val (d : D) (h : val d = true) : wp (boxM d) en s Q = Q d en s := by cases d <;> first | rfl | cases h
@[simp ↓] theorem q_rf (i) : wp (ev2 cf (.rf i)).1 en s Q = refQ en[i]? i en s Q := W0.q_rf ..
@[simp ↓] theorem q_k (d) : wp (ev2 cf (.k d)).1 en s Q = Q d en s := W0.q_k ..
@[simp ↓] theorem q_prim (p es) : wp (ev2 cf (.prim p es)).1 en s Q = wp (ops cf es) en s fun ds en s => optQ (primF p (ds.map (derefD s))) fun d => Q d en s := W0.q_prim ..
@[simp ↓] theorem q_chain (p q a b c) : wp (ev2 cf (.chain p q a b c)).1 en s Q = wp (ev2 cf a).1 en s fun x en s => wp (ev2 cf b).1 en s fun y en s => optQ (primF p [derefD s x, derefD s y]) fun z => (match z with
      | .bl k => if k then wp (ev2 cf c).1 en s fun w en s => optQ (primF q [derefD s y, derefD s w]) fun d => Q d en s else Q (.bl false) en s
      | _ => False) := W0.q_chain ..
@[simp ↓] theorem q_tup (es) : wp (ev2 cf (.tup es)).1 en s Q = wp (evs cf es) en s fun ds en s => if ds.length ≤ big then Q (.tup (ds.map D.hard)) en s else False := W0.q_tup ..
@[simp ↓] theorem q_lst (es) : wp (ev2 cf (.lst es)).1 en s Q = wp (evs cf es) en s fun ds en s => if ds.length ≤ big then Q (.own (ds.map D.hard)) en s else False := W0.q_lst ..
@[simp ↓] theorem q_call (f es) : wp (ev2 cf (.call f es)).1 en s Q = wp (evs cf es) en s fun ds en s => callQ (cf f ds s) fun d s => Q d en s := W0.q_call ..
@[simp ↓] theorem q_and (a b) : wp (ev2 cf (.and_ a b)).1 en s Q = wp (ev2 cf a).1 en s fun d en s => optQ (truthy (derefD s d)) fun t => if t then wp (ev2 cf b).1 en s Q else Q d en s := W0.q_and ..
@[simp ↓] theorem q_or (a b) : wp (ev2 cf (.or_ a b)).1 en s Q = wp (ev2 cf a).1 en s fun d en s => optQ (truthy (derefD s d)) fun t => if t then Q d en s else wp (ev2 cf b).1 en s Q := W0.q_or ..
@[simp ↓] theorem q_not (a) : wp (ev2 cf (.not_ a)).1 en s Q = wp (ev2 cf a).1 en s fun d en s => optQ (truthy (derefD s d)) fun t => Q (.bl (!t)) en s := W0.q_not ..
@[simp ↓] theorem q_cond (c a b) : wp (ev2 cf (.cond c a b)).1 en s Q = wp (ev2 cf c).2 en s fun t en s => if t then wp (ev2 cf a).1 en s Q else wp (ev2 cf b).1 en s Q := W0.q_cond ..
@[simp ↓] theorem q_meth (p tgt es) : wp (ev2 cf (.meth p tgt es)).1 en s Q = wp (pl1 tgt (ev2 cf tgt).1) en s fun r en s => wp (fin1 (slotOf tgt) r) en s fun d en s => if kindM p d then wp (ops cf es) en s fun ds en s => wp (fin1 (slotOf tgt) r) en s fun d en s => optQ (primF p ((d :: ds).map (derefD s))) fun d => Q d en s else False := W0.q_meth ..
theorem q_mut (m tgt es) : wp (ev2 cf (.mut m tgt es)).1 en s Q = wp (pl1 tgt (ev2 cf tgt).1) en s fun r en s => wp (lookP (slotOf tgt) r) en s fun _ en s => wp (evs cf es) en s fun as en s => wp (match r with
      | none => (match slotOf tgt with
        | some i => (getV i).bind fun d0 => mutM m d0 (some i) (as.map D.hard)
        | none => .stuck)
      | some d0 => mutM m d0 none (as.map D.hard)) en s Q := W0.q_mut ..
@[simp ↓] theorem q_mut_v (m n es) : wp (ev2 cf (.mut m (.v n) es)).1 en s Q = getQ en[n]? fun _ => getQ en[n]? fun d => wp (lookL d) en s fun _ en s => wp (evs cf es) en s fun as en s => getQ en[n]? fun d0 => wp (mutM m d0 (some n) (as.map D.hard)) en s Q := W0.q_mut_v ..
@[simp ↓] theorem q_callA (f es ks arr) : wp (ev2 cf (.callA f es ks arr)).1 en s Q = wp (evs cf es) en s fun ds en s => wp (evs cf ks) en s fun zs en s => if ds.length = es.length ∧ zs.length = ks.length then callQ (cf f (arrange arr ((ds ++ zs).map D.hard)) s) fun d s => Q d en s else False := W0.q_callA ..
@[simp ↓] theorem q_lc (own g it ifs elt) : wp (ev2 cf (.lc own g it ifs elt)).1 en s Q = wp (iter cf it) en s fun p en s => wp (lcL own (fun d => (asgG cf g d).calm) (tsts cf ifs).calm (ev2 cf elt).1.calm p []) (wipeE own en) s fun ds en s => Q (.own ds) en s := W0.q_lc ..
end
section
variable (Q : Bool → Env → Sto → Prop)
@[simp ↓] theorem qt_v (i) : wp (ev2 cf (.v i)).2 en s Q = getQ en[i]? fun d => optQ (truthy (derefD s d)) fun b => Q b en s := W0.qt_v ..
@[simp ↓] theorem qt_and (a b) : wp (ev2 cf (.and_ a b)).2 en s Q = wp (ev2 cf a).2 en s fun t en s => if t then wp (ev2 cf b).2 en s Q else Q false en s := W0.qt_and ..
@[simp ↓] theorem qt_or (a b) : wp (ev2 cf (.or_ a b)).2 en s Q = wp (ev2 cf a).2 en s fun t en s => if t then Q true en s else wp (ev2 cf b).2 en s Q := W0.qt_or ..
@[simp ↓] theorem qt_not (a) : wp (ev2 cf (.not_ a)).2 en s Q = wp (ev2 cf a).2 en s fun t en s => Q (!t) en s := W0.qt_not ..
theorem qt_vt {e : E} (h : (ev2 cf e).2 = (ev2 cf e).1.bind fun d => truM d) : wp (ev2 cf e).2 en s Q = wp (ev2 cf e).1 en s fun d en s => optQ (truthy (derefD s d)) fun b => Q b en s := W0.qt_vt _ _ _ _ h
@[simp ↓] theorem qt_mv (i) : wp (ev2 cf (.mv i)).2 en s Q = wp (ev2 cf (.mv i)).1 en s fun d en s => optQ (truthy (derefD s d)) fun b => Q b en s := W0.qt_mv ..
@[simp ↓] theorem qt_box (i) : wp (ev2 cf (.box i)).2 en s Q = wp (ev2 cf (.box i)).1 en s fun d en s => optQ (truthy (derefD s d)) fun b => Q b en s := W0.qt_box ..
@[simp ↓] theorem qt_rf (i) : wp (ev2 cf (.rf i)).2 en s Q = wp (ev2 cf (.rf i)).1 en s fun d en s => optQ (truthy (derefD s d)) fun b => Q b en s := W0.qt_rf ..
@[simp ↓] theorem qt_k (i) : wp (ev2 cf (.k i)).2 en s Q = wp (ev2 cf (.k i)).1 en s fun d en s => optQ (truthy (derefD s d)) fun b => Q b en s := W0.qt_k ..
@[simp ↓] theorem qt_prim (p es) : wp (ev2 cf (.prim p es)).2 en s Q = wp (ev2 cf (.prim p es)).1 en s fun d en s => optQ (truthy (derefD s d)) fun b => Q b en s := W0.qt_prim ..
@[simp ↓] theorem qt_chain (p q a b c) : wp (ev2 cf (.chain p q a b c)).2 en s Q = wp (ev2 cf (.chain p q a b c)).1 en s fun d en s => optQ (truthy (derefD s d)) fun b => Q b en s := W0.qt_chain ..
@[simp ↓] theorem qt_tup (es) : wp (ev2 cf (.tup es)).2 en s Q = wp (ev2 cf (.tup es)).1 en s fun d en s => optQ (truthy (derefD s d)) fun b => Q b en s := W0.qt_tup ..
@[simp ↓] theorem qt_lst (es) : wp (ev2 cf (.lst es)).2 en s Q = wp (ev2 cf (.lst es)).1 en s fun d en s => optQ (truthy (derefD s d)) fun b => Q b en s := W0.qt_lst ..
@[simp ↓] theorem qt_call (f es) : wp (ev2 cf (.call f es)).2 en s Q = wp (ev2 cf (.call f es)).1 en s fun d en s => optQ (truthy (derefD s d)) fun b => Q b en s := W0.qt_call ..
@[simp ↓] theorem qt_cond (c a b) : wp (ev2 cf (.cond c a b)).2 en s Q = wp (ev2 cf (.cond c a b)).1 en s fun d en s => optQ (truthy (derefD s d)) fun b => Q b en s := W0.qt_cond ..
@[simp ↓] theorem qt_meth (p t es) : wp (ev2 cf (.meth p t es)).2 en s Q = wp (ev2 cf (.meth p t es)).1 en s fun d en s => optQ (truthy (derefD s d)) fun b => Q b en s := W0.qt_meth ..
@[simp ↓] theorem qt_mut (p t es) : wp (ev2 cf (.mut p t es)).2 en s Q = wp (ev2 cf (.mut p t es)).1 en s fun d en s => optQ (truthy (derefD s d)) fun b => Q b en s := W0.qt_mut ..
@[simp ↓] theorem qt_callA (f es ks arr) : wp (ev2 cf (.callA f es ks arr)).2 en s Q = wp (ev2 cf (.callA f es ks arr)).1 en s fun d en s => optQ (truthy (derefD s d)) fun b => Q b en s := W0.qt_callA ..
@[simp ↓] theorem qt_lc (o g it i e) : wp (ev2 cf (.lc o g it i e)).2 en s Q = wp (ev2 cf (.lc o g it i e)).1 en s fun d en s => optQ (truthy (derefD s d)) fun b => Q b en s := W0.qt_lc ..
@[simp ↓] theorem q_ts0 : wp (tsts cf []) en s Q = Q true en s := W0.q_ts0 ..
@[simp ↓] theorem q_ts1 (e es) : wp (tsts cf (e :: es)) en s Q = wp (ev2 cf e).2 en s fun b en s => if b then wp (tsts cf es) en s Q else Q false en s := W0.q_ts1 ..
end
section
variable (Q : List D → Env → Sto → Prop)
@[simp ↓] theorem q_evs0 : wp (evs cf []) en s Q = Q [] en s := W0.q_evs0 ..
@[simp ↓] theorem q_evs1 (e es) : wp (evs cf (e :: es)) en s Q = wp (ev2 cf e).1 en s fun d en s => wp (evs cf es) en s fun ds en s => Q (d :: ds) en s := W0.q_evs1 ..
@[simp ↓] theorem q_ops0 : wp (ops cf []) en s Q = Q [] en s := W0.q_ops0 ..
theorem q_opB (e : E) (x : M D) (es) (h : ∀ r, opB e x r = (x.bind fun d => r.bind fun ds => .ret (d :: ds))) : wp (opB e x (ops cf es)) en s Q = wp x en s fun d en s => wp (ops cf es) en s fun ds en s => Q (d :: ds) en s := W0.q_opB _ _ _ _ _ _ _ h
@[simp ↓] theorem q_opv (i es) : wp (ops cf (.v i :: es)) en s Q = getQ en[i]? fun _ => wp (ops cf es) en s fun ds en s => getQ en[i]? fun d => Q (d :: ds) en s := W0.q_opv ..
@[simp ↓] theorem o_mv (i es) : wp (ops cf (.mv i :: es)) en s Q = wp (ev2 cf (.mv i)).1 en s fun d en s => wp (ops cf es) en s fun ds en s => Q (d :: ds) en s := W0.o_mv ..
@[simp ↓] theorem o_box (i es) : wp (ops cf (.box i :: es)) en s Q = wp (ev2 cf (.box i)).1 en s fun d en s => wp (ops cf es) en s fun ds en s => Q (d :: ds) en s := W0.o_box ..
@[simp ↓] theorem o_rf (i es) : wp (ops cf (.rf i :: es)) en s Q = wp (ev2 cf (.rf i)).1 en s fun d en s => wp (ops cf es) en s fun ds en s => Q (d :: ds) en s := W0.o_rf ..
@[simp ↓] theorem o_k (d es) : wp (ops cf (.k d :: es)) en s Q = wp (ops cf es) en s fun ds en s => Q (d :: ds) en s := W0.o_k ..
@[simp ↓] theorem o_prim (p x es) : wp (ops cf (.prim p x :: es)) en s Q = wp (ev2 cf (.prim p x)).1 en s fun d en s => wp (ops cf es) en s fun ds en s => Q (d :: ds) en s := W0.o_prim ..
@[simp ↓] theorem o_chain (p q a b c es) : wp (ops cf (.chain p q a b c :: es)) en s Q = wp (ev2 cf (.chain p q a b c)).1 en s fun d en s => wp (ops cf es) en s fun ds en s => Q (d :: ds) en s := W0.o_chain ..
@[simp ↓] theorem o_tup (x es) : wp (ops cf (.tup x :: es)) en s Q = wp (ev2 cf (.tup x)).1 en s fun d en s => wp (ops cf es) en s fun ds en s => Q (d :: ds) en s := W0.o_tup ..
@[simp ↓] theorem o_lst (x es) : wp (ops cf (.lst x :: es)) en s Q = wp (ev2 cf (.lst x)).1 en s fun d en s => wp (ops cf es) en s fun ds en s => Q (d :: ds) en s := W0.o_lst ..
@[simp ↓] theorem o_call (f x es) : wp (ops cf (.call f x :: es)) en s Q = wp (ev2 cf (.call f x)).1 en s fun d en s => wp (ops cf es) en s fun ds en s => Q (d :: ds) en s := W0.o_call ..
@[simp ↓] theorem o_and (a b es) : wp (ops cf (.and_ a b :: es)) en s Q = wp (ev2 cf (.and_ a b)).1 en s fun d en s => wp (ops cf es) en s fun ds en s => Q (d :: ds) en s := W0.o_and ..
@[simp ↓] theorem o_or (a b es) : wp (ops cf (.or_ a b :: es)) en s Q = wp (ev2 cf (.or_ a b)).1 en s fun d en s => wp (ops cf es) en s fun ds en s => Q (d :: ds) en s := W0.o_or ..
@[simp ↓] theorem o_not (a es) : wp (ops cf (.not_ a :: es)) en s Q = wp (ev2 cf (.not_ a)).1 en s fun d en s => wp (ops cf es) en s fun ds en s => Q (d :: ds) en s := W0.o_not ..
@[simp ↓] theorem o_cond (c a b es) : wp (ops cf (.cond c a b :: es)) en s Q = wp (ev2 cf (.cond c a b)).1 en s fun d en s => wp (ops cf es) en s fun ds en s => Q (d :: ds) en s := W0.o_cond ..
@[simp ↓] theorem o_mut (m t x es) : wp (ops cf (.mut m t x :: es)) en s Q = wp (ev2 cf (.mut m t x)).1 en s fun d en s => wp (ops cf es) en s fun ds en s => Q (d :: ds) en s := W0.o_mut ..
@[simp ↓] theorem o_meth (m t x es) : wp (ops cf (.meth m t x :: es)) en s Q = wp (ev2 cf (.meth m t x)).1 en s fun d en s => wp (ops cf es) en s fun ds en s => Q (d :: ds) en s := W0.o_meth ..
@[simp ↓] theorem o_callA (f x ks arr es) : wp (ops cf (.callA f x ks arr :: es)) en s Q = wp (ev2 cf (.callA f x ks arr)).1 en s fun d en s => wp (ops cf es) en s fun ds en s => Q (d :: ds) en s := W0.o_callA ..
@[simp ↓] theorem o_lc (o g it i e es) : wp (ops cf (.lc o g it i e :: es)) en s Q = wp (ev2 cf (.lc o g it i e)).1 en s fun d en s => wp (ops cf es) en s fun ds en s => Q (d :: ds) en s := W0.o_lc ..
@[simp ↓] theorem q_seq (e) : wp (iter cf (.seq e)) en s Q = wp (ev2 cf e).1 en s fun d en s => optQ (seqItems d) fun ds => Q ds en s := W0.q_seq ..
@[simp ↓] theorem q_enum (e) : wp (iter cf (.enum e)) en s Q = wp (ev2 cf e).1 en s fun d en s => optQ (enumO d) fun ds => Q ds en s := W0.q_enum ..
@[simp] theorem enumO_t (ds) : enumO (.tup ds) = some (enumD 0 ds) := id rfl
@[simp] theorem enumO_f (ds) : enumO (.frz ds) = some (enumD 0 ds) := id rfl
@[simp] theorem enumO_o (ds) : enumO (.own ds) = some (enumD 0 ds) := id rfl
@[simp ↓] theorem q_rng1 (e) : wp (iter cf (.rng1 e)) en s Q = wp (ev2 cf e).1 en s fun d en s => optQ (rngO d) fun ds => Q ds en s := W0.q_rng1 ..
@[simp ↓] theorem q_rng2 (a b) : wp (iter cf (.rng2 a b)) en s Q = wp (ev2 cf a).1 en s fun d en s => wp (ev2 cf b).1 en s fun f en s => optQ (rngO2 d f) fun ds => Q ds en s := W0.q_rng2 ..
end
section
variable (Q : Flow → Env → Sto → Prop)
@[simp ↓] theorem q_asg (g e) : wp (exS cf W (.asg g e)) en s Q = wp (ev2 cf e).1 en s fun d en s => wp (asgG cf g d) en s fun _ en s => Q .next en s := W0.q_asg ..
@[simp ↓] theorem q_ex (e) : wp (exS cf W (.ex e)) en s Q = wp (ev2 cf e).1 en s fun _ en s => Q .next en s := W0.q_ex ..
@[simp ↓] theorem q_ret (e) : wp (exS cf W (.ret e)) en s Q = wp (ev2 cf e).1 en s fun d en s => Q (.ret d) en s := W0.q_ret ..
@[simp ↓] theorem q_ite (c a b) : wp (exS cf W (.ite c a b)) en s Q = wp (ev2 cf c).2 en s fun t en s => if t then wp (exSs cf W a) en s Q else wp (exSs cf W b) en s Q := W0.q_ite ..
@[simp ↓] theorem q_for (g it b) : wp (exS cf W (.for_ g it b)) en s Q = wp (iter cf it) en s fun ds en s => wp (forL (fun d => (asgG cf g d).calm) (exSs cf W b) ds) en s Q := W0.q_for ..
@[simp ↓] theorem q_pass : wp (exS cf W .pass) en s Q = Q .next en s := W0.q_pass ..
@[simp ↓] theorem q_brk : wp (exS cf W .brk) en s Q = Q .brk en s := W0.q_brk ..
@[simp ↓] theorem q_cont : wp (exS cf W .cont) en s Q = Q .cont en s := W0.q_cont ..
@[simp ↓] theorem q_while (c b) : wp (exS cf W (.while_ c b)) en s Q = wp (whileL (tst cf c) (exSs cf W b) W) en s Q := W0.q_while ..
def nextQ (cf : Calls) (W : Nat) (ss : List S) (Q : Flow → Env → Sto → Prop) (f : Flow) (en : Env) (s : Sto) : Prop := match f with
  | .next => wp (exSs cf W ss) en s Q
  | f => Q f en s
@[simp] theorem nextQ_next (ss) : nextQ cf W ss Q .next en s = wp (exSs cf W ss) en s Q := id rfl
@[simp] theorem nextQ_ret (ss d) : nextQ cf W ss Q (.ret d) en s = Q (.ret d) en s := id rfl
@[simp] theorem nextQ_brk (ss) : nextQ cf W ss Q .brk en s = Q .brk en s := id rfl
@[simp] theorem nextQ_cont (ss) : nextQ cf W ss Q .cont en s = Q .cont en s := id rfl
@[simp ↓] theorem q_ss0 : wp (exSs cf W []) en s Q = Q .next en s := W0.q_ss0 ..
@[simp ↓] theorem q_ss1 (x ss) : wp (exSs cf W (x :: ss)) en s Q = wp (exS cf W x) en s (nextQ cf W ss Q) := W0.q_ss1 ..
end
theorem q_app (Q : Flow → Env → Sto → Prop) : ∀ (a b : List S) (en : Env) (s : Sto), wp (exSs cf W (a ++ b)) en s Q = wp (exSs cf W a) en s (nextQ cf W b Q) := W0.q_app cf W Q
section
variable (Q : Unit → Env → Sto → Prop)
@[simp ↓] theorem q_nm (i d) : wp (asgG cf (.nm i) d) en s Q = Q () (en.set i (some d)) s := W0.q_nm ..
@[simp ↓] theorem q_tp (gs ds) : wp (asgG cf (.tp gs) (.tup ds)) en s Q = if ds.length = gs.length then wp (asgGs cf gs ds) en s Q else False := W0.q_tp ..
@[simp ↓] theorem q_gs0 : wp (asgGs cf [] []) en s Q = Q () en s := W0.q_gs0 ..
@[simp ↓] theorem q_gs1 (g gs d ds) : wp (asgGs cf (g :: gs) (d :: ds)) en s Q = wp (asgG cf g d) en s fun _ en s => wp (asgGs cf gs ds) en s Q := W0.q_gs1 ..
@[simp ↓] theorem q_sub_v (n i d) : wp (asgG cf (.sub (.v n) i) d) en s Q = getQ en[n]? fun _ => wp (ev2 cf i).1 en s fun j en s => getQ en[n]? fun d0 => wp (mutM .set d0 (some n) [j.hard, d.hard]) en s fun _ en s => Q () en s := W0.q_sub_v ..
theorem q_sub (o i d) : wp (asgG cf (.sub o i) d) en s Q = wp (pl1 o (ev2 cf o).1) en s fun r en s => wp (ev2 cf i).1 en s fun j en s => wp (match r with
      | none => (match slotOf o with
        | some n => (getV n).bind fun d0 => (mutM .set d0 (some n) [j.hard, d.hard]).bind fun _ => .ret ()
        | none => .stuck)
      | some d0 => (mutM .set d0 none [j.hard, d.hard]).bind fun _ => .ret ()) en s Q := W0.q_sub ..
end
@[simp ↓] theorem w_pl_v (i x) (Q : Option D → Env → Sto → Prop) : wp (pl1 (.v i) x) en s Q = getQ en[i]? fun _ => Q none en s := W0.w_pl_v ..
@[simp ↓] theorem w_pl_k (d x) (Q : Option D → Env → Sto → Prop) : wp (pl1 (.k d) x) en s Q = wp x en s fun d en s => Q (some d) en s := W0.w_pl_k ..
@[simp ↓] theorem w_pl_prim (p es x) (Q : Option D → Env → Sto → Prop) : wp (pl1 (.prim p es) x) en s Q = wp x en s fun d en s => Q (some d) en s := W0.w_pl_prim ..
@[simp ↓] theorem w_fin_s (i d) (Q : D → Env → Sto → Prop) : wp (fin1 i (some d)) en s Q = Q d en s := W0.w_fin_s ..
@[simp ↓] theorem w_fin_n (i) (Q : D → Env → Sto → Prop) : wp (fin1 (slotOf (.v i)) none) en s Q = getQ en[i]? fun d => Q d en s := W0.w_fin_n ..
@[simp] theorem lookQ_own (ds) : lookQ s (.own ds) = True := id rfl
@[simp ↓] theorem w_lookL (d) (Q : Unit → Env → Sto → Prop) : wp (lookL d) en s Q = (lookQ s d ∧ Q () en s) := W0.w_lookL ..
@[simp ↓] theorem w_lookP_n (i) (Q : Unit → Env → Sto → Prop) : wp (lookP (slotOf (.v i)) none) en s Q = getQ en[i]? fun d => lookQ s d ∧ Q () en s := W0.w_lookP_n ..
@[simp ↓] theorem w_lookP_s (i d) (Q : Unit → Env → Sto → Prop) : wp (lookP i (some d)) en s Q = (lookQ s d ∧ Q () en s) := W0.w_lookP_s ..
@[simp ↓] theorem w_mut_own (m ds i as) (Q : D → Env → Sto → Prop) : wp (mutM m (.own ds) (some i) as) en s Q = optQ (muF m ds as) fun p => Q p.2 (en.set i (some (.own p.1))) s := W0.w_mut_own ..
def lstQ (o : Option O) (K : List D → Prop) (u : U K := .mk) : Prop := W0.lstQ o K
@[simp] theorem lstQ_some (ds K) : lstQ (some (.lst ds)) K = K ds := W0.lstQ_some ..
@[simp ↓] theorem w_mut_ref (m n i as) (Q : D → Env → Sto → Prop) : wp (mutM m (.ref n) i as) en s Q = lstQ s[n]? fun ds => optQ (muF m ds as) fun p => Q p.2 en (s.set n (.lst p.1)) := W0.w_mut_ref ..
@[simp] theorem q_init (nl ds) : initE nl ds = ds.map some ++ List.replicate (nl - ds.length) none := id rfl
end
section
variable (cf : Calls) (en : Env) (s : Sto)
@[simp ↓] theorem wp_drM (o x y) (Q : D → Env → Sto → Prop) : wp (drM o x y) en s Q = optQ (rdAt s x) fun p => optQ (keyD y) fun k => optQ (drF o p.2 k) fun d => Q d en s := W0.wp_drM ..
@[simp ↓] theorem wp_lookD (x) (Q : Unit → Env → Sto → Prop) : wp (lookD x) en s Q = optQ (dicAt s x) fun _ => Q () en s := W0.wp_lookD ..
@[simp ↓] theorem wp_dpopM (x y) (Q : D → Env → Sto → Prop) : wp (dpopM x y) en s Q = optQ (dicAt s x) fun p => optQ (keyD y) fun k => optQ (valD p.2 k) fun v => Q v en (s.set p.1 (.dic (dropD p.2 k))) := W0.wp_dpopM ..
@[simp ↓] theorem wp_dputM (x y v) (Q : Unit → Env → Sto → Prop) : wp (dputM x y v) en s Q = optQ (dicAt s x) fun p => optQ (keyD y) fun k => p.2.length < big ∧ Q () en (s.set p.1 (.dic (putD p.2 k v))) := W0.wp_dputM ..
@[simp ↓] theorem q_dnew (Q : D → Env → Sto → Prop) : wp (ev2 cf .dnew).1 en s Q = Q (.ref s.length) en (s ++ [.dic []]) := W0.q_dnew ..
@[simp ↓] theorem q_dget (tgt k) (Q : D → Env → Sto → Prop) : wp (ev2 cf (.dget tgt k)).1 en s Q = wp (ev2 cf tgt).1 en s fun x en s => wp (ev2 cf k).1 en s fun y en s => optQ (rdAt s x) fun p => optQ (keyD y) fun k => optQ (valD p.2 k) fun d => Q d en s := W0.q_dget ..
@[simp ↓] theorem q_dhas (neg k tgt) (Q : D → Env → Sto → Prop) : wp (ev2 cf (.dhas neg k tgt)).1 en s Q = wp (ev2 cf k).1 en s fun y en s => wp (ev2 cf tgt).1 en s fun x en s => optQ (rdAt s x) fun p => optQ (keyD y) fun k => Q (.bl ((valD p.2 k).isSome != neg)) en s := W0.q_dhas ..
@[simp ↓] theorem q_dpop (tgt k) (Q : D → Env → Sto → Prop) : wp (ev2 cf (.dpop tgt k)).1 en s Q = wp (ev2 cf tgt).1 en s fun x en s => optQ (dicAt s x) fun _ => wp (ev2 cf k).1 en s fun y en s => optQ (dicAt s x) fun p => optQ (keyD y) fun k => optQ (valD p.2 k) fun v => Q v en (s.set p.1 (.dic (dropD p.2 k))) := W0.q_dpop ..
@[simp ↓] theorem q_lkd (i x) (Q : D → Env → Sto → Prop) : wp (ev2 cf (.lkd i x)).1 en s Q = getQ en[i]? fun d => optQ (dicAt s d) fun p => wp (ev2 cf x).1 en (s.set p.1 (.ldic p.1 p.2)) fun r en s => optQ (ldicAt s (.ref p.1)) fun q => Q r en (s.set p.1 (.dic q.2)) := W0.q_lkd ..
@[simp ↓] theorem qi_keys (e) (Q : List D → Env → Sto → Prop) : wp (iter cf (.keys e)) en s Q = wp (ev2 cf e).1 en s fun d en s => optQ (ldicAt s d) fun p => Q (p.2.map fun kv => kyD kv.1) en s := W0.qi_keys ..
@[simp ↓] theorem q_dsub (o i d) (Q : Unit → Env → Sto → Prop) : wp (asgG cf (.dsub o i) d) en s Q = wp (ev2 cf o).1 en s fun x en s => wp (ev2 cf i).1 en s fun y en s => optQ (dicAt s x) fun p => optQ (keyD y) fun k => p.2.length < big ∧ Q () en (s.set p.1 (.dic (putD p.2 k d.hard))) := W0.q_dsub ..
@[simp ↓] theorem qt_dget (tgt k) (Q : Bool → Env → Sto → Prop) : wp (ev2 cf (.dget tgt k)).2 en s Q = wp (ev2 cf (.dget tgt k)).1 en s fun d en s => optQ (truthy (derefD s d)) fun b => Q b en s := W0.qt_dget ..
@[simp ↓] theorem qt_dhas (neg k tgt) (Q : Bool → Env → Sto → Prop) : wp (ev2 cf (.dhas neg k tgt)).2 en s Q = wp (ev2 cf (.dhas neg k tgt)).1 en s fun d en s => optQ (truthy (derefD s d)) fun b => Q b en s := W0.qt_dhas ..
section
variable (Q : List D → Env → Sto → Prop)
@[simp ↓] theorem o_dget (a b es) : wp (ops cf (.dget a b :: es)) en s Q = wp (ev2 cf (.dget a b)).1 en s fun d en s => wp (ops cf es) en s fun ds en s => Q (d :: ds) en s := W0.o_dget ..
@[simp ↓] theorem o_dhas (n a b es) : wp (ops cf (.dhas n a b :: es)) en s Q = wp (ev2 cf (.dhas n a b)).1 en s fun d en s => wp (ops cf es) en s fun ds en s => Q (d :: ds) en s := W0.o_dhas ..
end
@[simp ↓] theorem q_bad (W) (Q : Flow → Env → Sto → Prop) : wp (exS cf W .bad) en s Q = False := W0.q_bad ..
end
@[simp] theorem rdAt_eq (s : Sto) (x : D) : rdAt s x = (dicAt s x).or (ldicAt s x) := id rfl
theorem ldicAt_ref {s : Sto} {n : Nat} {kvs : List (Ky × D)} (h : s[n]? = some (.ldic n kvs)) : ldicAt s (.ref n) = some (n, kvs) := by simp [ldicAt, h]
theorem dicAt_lref {s : Sto} {n : Nat} {kvs : List (Ky × D)} (h : s[n]? = some (.ldic n kvs)) : dicAt s (.ref n) = none := by simp [dicAt, h]
theorem dicAt_ref {s : Sto} {n : Nat} {kvs : List (Ky × D)} (h : s[n]? = some (.dic kvs)) : dicAt s (.ref n) = some (n, kvs) := by simp [dicAt, h]
@[simp] theorem keyD_int (i) : keyD (.int i) = some (.inl i) := id rfl
@[simp] theorem keyD_str (x) : keyD (.str x) = some (.inr x) := id rfl
/-! ### loops -/
theorem wp_for_from {bd : D → M Unit} {body : M Flow} {Q : Flow → Env → Sto → Prop} {all : List D} (I : Nat → Env → Sto → Prop)
    (step : ∀ i d en s, all[i]? = some d → I i en s → wp (bd d) en s fun _ en s => wp body en s fun f en s => match f with | .next => I (i + 1) en s | .cont => I (i + 1) en s | .brk => Q .next en s | .ret r => Q (.ret r) en s)
    (fin : ∀ en s, I all.length en s → Q .next en s) : ∀ (ds : List D) (k : Nat) (en : Env) (s : Sto), all.drop k = ds → k ≤ all.length → I k en s → wp (forL bd body ds) en s Q
  | [], k, en, s, hd, hk, h => by
    have : all.length ≤ k := List.drop_eq_nil_iff.mp hd
    have e : k = all.length := Nat.le_antisymm hk this
    subst e
    exact fin en s h
  | d :: ds, k, en, s, hd, hk, h => by
    have hk2 : k < all.length := by
      rcases Nat.lt_or_ge k all.length with z | z
      · exact z
      · rw [List.drop_eq_nil_of_le z] at hd; cases hd
    have e1 : all[k]? = some d := by
      have := List.getElem?_drop (xs := all) (i := k) (j := 0)
      rw [hd] at this
      simpa using this.symm
    have e2 : all.drop (k + 1) = ds := by
      rw [← List.drop_drop, hd]; rfl
    show wp (M.bind (bd d) _) en s Q
    rw [wp_bind]
    refine wp_mono (step k d en s e1 h) fun _ en1 s1 h1 => ?_
    rw [wp_bind]
    refine wp_mono h1 fun f en2 s2 h2 => ?_
    cases f with
    | next => exact wp_for_from I step fin ds (k + 1) en2 s2 e2 hk2 h2
    | cont => exact wp_for_from I step fin ds (k + 1) en2 s2 e2 hk2 h2
    | brk => exact h2
    | ret r => exact h2
/-- behind a turn -/
def turnQ (I : Env → Sto → Prop) (Q : Flow → Env → Sto → Prop) (f : Flow) (en : Env) (s : Sto) : Prop := match f with
  | .next => I en s
  | .cont => I en s
  | .brk => Q .next en s
  | .ret r => Q (.ret r) en s
@[simp] theorem turnQ_next (I Q en s) : turnQ I Q .next en s = I en s := id rfl
@[simp] theorem turnQ_cont (I Q en s) : turnQ I Q .cont en s = I en s := id rfl
@[simp] theorem turnQ_brk (I Q en s) : turnQ I Q .brk en s = Q .next en s := id rfl
@[simp] theorem turnQ_ret (I Q en s r) : turnQ I Q (.ret r) en s = Q (.ret r) en s := id rfl
theorem wp_for {bd : D → M Unit} {body : M Flow} {Q : Flow → Env → Sto → Prop} {ds : List D} {en : Env} {s : Sto} (I : Nat → Env → Sto → Prop) (h0 : I 0 en s)
    (step : ∀ i d en s, ds[i]? = some d → I i en s → wp (bd d) en s fun _ en s => wp body en s (turnQ (I (i + 1)) Q))
    (fin : ∀ en s, I ds.length en s → Q .next en s) : wp (forL bd body ds) en s Q := by
  refine wp_for_from I ?_ fin ds 0 en s rfl (Nat.zero_le _) h0
  intro i d en s h hi
  refine wp_mono (step i d en s h hi) fun _ en s h => wp_mono h fun f en s h => ?_
  cases f <;> exact h
/-- a comprehension's turns, where each keeps or drops its item -/
theorem wp_lc {own : List Nat} {bd : D → M Unit} {test : M Bool} {elt : M D} {Q : List D → Env → Sto → Prop} {ds : List D} {en : Env} {s : Sto} (I : Nat → List D → Env → Sto → Prop) (h0 : I 0 [] en s) (hz : ds.length ≤ big)
    (len : ∀ i acc en s, I i acc en s → acc.length ≤ i)
    (step : ∀ i d acc en s, ds[i]? = some d → I i acc en s → wp (bd d) en s fun _ en s => wp test en s fun b en s => if b then wp elt en s fun y en s => I (i + 1) (acc ++ [y.hard]) (wipeE own en) s else I (i + 1) acc (wipeE own en) s)
    (fin : ∀ acc en s, I ds.length acc en s → Q acc en s) : wp (lcL own bd test elt ds []) en s Q := by
  have go : ∀ (rest : List D) (k : Nat) (acc : List D) (en : Env) (s : Sto), ds.drop k = rest → k ≤ ds.length → I k acc en s → wp (lcL own bd test elt rest acc) en s Q := by
    intro rest
    induction rest with
    | nil =>
      intro k acc en s hd hk h
      have e : k = ds.length := Nat.le_antisymm hk (List.drop_eq_nil_iff.mp hd)
      subst e
      exact fin acc en s h
    | cons d rest ih =>
      intro k acc en s hd hk h
      have hk2 : k < ds.length := by
        rcases Nat.lt_or_ge k ds.length with z | z
        · exact z
        · rw [List.drop_eq_nil_of_le z] at hd; cases hd
      have e1 : ds[k]? = some d := by
        have := List.getElem?_drop (xs := ds) (i := k) (j := 0)
        rw [hd] at this
        simpa using this.symm
      have e2 : ds.drop (k + 1) = rest := by rw [← List.drop_drop, hd]; rfl
      have hl := len k acc en s h
      show wp (M.bind (bd d) _) en s Q
      rw [wp_bind]
      refine wp_mono (step k d acc en s e1 h) fun _ en1 s1 h1 => ?_
      rw [wp_bind]
      refine wp_mono h1 fun b en2 s2 h2 => ?_
      cases b with
      | false => exact ih (k + 1) acc _ s2 e2 hk2 h2
      | true =>
        show wp (M.bind elt _) en2 s2 Q
        rw [wp_bind]
        refine wp_mono h2 fun y en3 s3 h3 => ?_
        rw [if_pos (show acc.length < big by omega)]
        exact ih (k + 1) _ _ s3 e2 hk2 h3
  exact go ds 0 [] en s rfl (Nat.zero_le _) h0
@[simp] theorem wipe0 (e : Env) : wipeE [] e = e := id rfl
@[simp] theorem wipe1 (i is) (e : Env) : wipeE (i :: is) e = (wipeE is e).set i none := id rfl
section
/-! the pure things, for simp -/
@[simp] theorem t_bl (b) : Mi.truthy (.bl b) = some b := id rfl
@[simp] theorem t_tup (ds) : Mi.truthy (.tup ds) = some (!ds.isEmpty) := id rfl
@[simp] theorem t_own (ds) : Mi.truthy (.own ds) = some (!ds.isEmpty) := id rfl
@[simp] theorem t_frz (ds) : Mi.truthy (.frz ds) = some (!ds.isEmpty) := id rfl
@[simp] theorem p_add (a b : Int) : primF .add [.int a, .int b] = some (.int (a + b)) := id rfl
@[simp] theorem p_sub (a b : Int) : primF .sub [.int a, .int b] = some (.int (a - b)) := id rfl
@[simp] theorem p_lt (a b : Int) : primF .lt [.int a, .int b] = some (.bl (decide (a < b))) := id rfl
@[simp] theorem p_le (a b : Int) : primF .le [.int a, .int b] = some (.bl (decide (a ≤ b))) := id rfl
@[simp] theorem p_gt (a b : Int) : primF .gt [.int a, .int b] = some (.bl (decide (b < a))) := id rfl
@[simp] theorem p_ge (a b : Int) : primF .ge [.int a, .int b] = some (.bl (decide (b ≤ a))) := id rfl
@[simp] theorem p_isi (t d) : primF (.isi t) [d] = (isiD t d).map D.bl := id rfl
@[simp] theorem p_isN (d) : primF .isN [d] = some (.bl (match d with | .non => true | _ => false)) := id rfl
@[simp] theorem p_notN (d) : primF .notN [d] = some (.bl (match d with | .non => false | _ => true)) := id rfl
@[simp] theorem p_len_t (ds) : primF .len [.tup ds] = some (.int ds.length) := id rfl
@[simp] theorem p_len_f (ds) : primF .len [.frz ds] = some (.int ds.length) := id rfl
@[simp] theorem p_len_o (ds) : primF .len [.own ds] = some (.int ds.length) := id rfl
@[simp] theorem p_idx_t (ds i) : primF .idx [.tup ds, .int i] = L2.atI ds i := id rfl
@[simp] theorem p_idx_f (ds i) : primF .idx [.frz ds, .int i] = L2.atI ds i := id rfl
@[simp] theorem p_idx_o (ds i) : primF .idx [.own ds, .int i] = L2.atI ds i := id rfl
theorem p_len_s (x : Str) (h : x.length ≤ big) : primF .len [.str x] = some (.int x.length) := by
  show (if x.length ≤ big then some (D.int x.length) else none) = _
  rw [if_pos h]
theorem p_eq (a b : D) (h : cmpOk a b = true) : primF .eq [a, b] = some (.bl (D.eqv a b)) := by
  show (if cmpOk a b = true then some (D.bl (D.eqv a b != false)) else none) = _
  rw [if_pos h, Bool.bne_false]
theorem p_ne (a b : D) (h : cmpOk a b = true) : primF .ne [a, b] = some (.bl (!D.eqv a b)) := by
  show (if cmpOk a b = true then some (D.bl (D.eqv a b != true)) else none) = _
  rw [if_pos h, Bool.bne_true]
theorem c_int (a b : Int) : cmpOk (.int a) (.int b) = true := rfl
theorem v_int (a b : Int) : D.eqv (.int a) (.int b) = (a == b) := rfl
@[simp] theorem p_eqI (a b : Int) : primF .eq [.int a, .int b] = some (.bl (a == b)) := p_eq _ _ rfl
@[simp] theorem p_neI (a b : Int) : primF .ne [.int a, .int b] = some (.bl (!(a == b))) := p_ne _ _ rfl
theorem p_mod (a b : Int) (h : 0 < b) : primF .mod [.int a, .int b] = some (.int (a % b)) := by
  show (if b ≠ 0 then some (D.int (a.fmod b)) else none) = _
  rw [if_pos (by omega), Int.fmod_eq_emod_of_nonneg _ (by omega)]
theorem p_fdiv (a b : Int) (h : 0 < b) (h2 : b < 1073741824) : primF .fdiv [.int a, .int b] = some (.int (a / b)) := by
  show (if b ≠ 0 ∧ b.natAbs < 1073741824 then some (D.int (a.fdiv b)) else none) = _
  rw [if_pos (by omega), Int.fdiv_eq_ediv_of_nonneg _ (by omega)]
theorem p_mul (a b : Int) (h : a.natAbs < 2 ^ 400000) (h2 : b.natAbs < 2 ^ 400000) : primF .mul [.int a, .int b] = some (.int (a * b)) := by
  show (if a.natAbs.log2 + b.natAbs.log2 < 1000000 then some (D.int (a * b)) else none) = _
  have l : ∀ n : Nat, n < 2 ^ 400000 → n.log2 < 400001 := fun n hn => by
    rcases Nat.eq_zero_or_pos n with rfl | z
    · decide
    · exact Nat.lt_succ_of_lt ((Nat.log2_lt (by omega)).mpr hn)
  have := l _ h
  have := l _ h2
  rw [if_pos (by omega)]
end
@[simp] theorem z_0 : 0 ≤ big := by decide
@[simp] theorem z_1 : 1 ≤ big := by decide
@[simp] theorem z_2 : 2 ≤ big := by decide
@[simp] theorem z_3 : 3 ≤ big := by decide
@[simp] theorem z_4 : 4 ≤ big := by decide
@[simp] theorem s_tup (ds) : seqItems (.tup ds) = some ds := id rfl
@[simp] theorem s_frz (ds) : seqItems (.frz ds) = some ds := id rfl
@[simp] theorem s_own (ds) : seqItems (.own ds) = some ds := id rfl
theorem atI_nat {ds : List D} {i : Nat} {d : D} (h : ds[i]? = some d) : L2.atI ds (i : Int) = some d := by
  have hlt : i < ds.length := by
    rcases Nat.lt_or_ge i ds.length with z | z
    · exact z
    · rw [List.getElem?_eq_none z] at h; cases h
  simp only [L2.atI, L2.ixN]
  rw [if_pos (by omega), if_pos (by omega)]
  simpa using h
/-- a call whose answer is known -/
theorem wp_ans {fns : List Fn} {W n f : Nat} {ds : List D} {en : Env} {s : Sto} {Q : D → Env → Sto → Prop} {P : D → Sto → Prop} (h : ans fns W n f ds s P) (k : ∀ d s', P d s' → Q d en s') : callQ (run fns W n f ds s) (fun d s => Q d en s) := by
  unfold ans at h
  cases e : run fns W n f ds s with
  | ok d s' => rw [e] at h; exact k d s' h
  | exc x s' => rw [e] at h; exact h.elim
  | stuck => rw [e] at h; exact h.elim
theorem callQ_ans {fns : List Fn} {W n f : Nat} {ds : List D} {s : Sto} {K : D → Sto → Prop} {P : D → Sto → Prop} (h : ans fns W n f ds s P) (k : ∀ d s', P d s' → K d s') : callQ (run fns W n f ds s) K := by
  unfold ans at h
  cases e : run fns W n f ds s with
  | ok d s' => rw [e] at h; exact k d s' h
  | exc x s' => rw [e] at h; exact h.elim
  | stuck => rw [e] at h; exact h.elim
/-- a call's one answer -/
theorem ans_eq {fns : List Fn} {W n f : Nat} {ds : List D} {s : Sto} {d : D} (h : ans fns W n f ds s fun r s' => r = d ∧ s' = s) : run fns W n f ds s = .ok d s := by
  unfold ans at h
  cases e : run fns W n f ds s with
  | ok r s' => rw [e] at h; obtain ⟨rfl, rfl⟩ := h; rfl
  | exc x s' => rw [e] at h; exact h.elim
  | stuck => rw [e] at h; exact h.elim
end Mi
end
section
set_option Elab.async false
set_option maxRecDepth 100000
set_option linter.all false
namespace Mi
open PySem
/-! ### small data: leaves short, at most so deep; and how much it weighs -/
def leafOk : D → Bool
  | .non => true
  | .bl _ => true
  | .int i => decide (i.natAbs < 10 ^ 30)
  | .str x => x.cps.toList.all (fun c => decide (c < 16 ^ 8)) && decide (x.cps.size ≤ 1000)
  | _ => false
def fine : Nat → D → Bool
  | h + 1, .tup ds => ds.all (fine h)
  | h + 1, .frz ds => ds.all (fine h)
  | _, d => leafOk d
mutual
def wt : D → Nat
  | .str x => x.cps.size + 1
  | .int _ => 101
  | .tup ds => wts ds + 1
  | .frz ds => wts ds + 1
  | .own ds => wts ds + 1
  | _ => 1
def wts : List D → Nat
  | [] => 0
  | d :: ds => wt d + wts ds
end
theorem wt_pos (d : D) : 1 ≤ wt d := by cases d <;> simp [wt]
theorem wts_append (a b : List D) : wts (a ++ b) = wts a + wts b := by
  induction a with
  | nil => simp [wts]
  | cons x a ih => simp only [List.cons_append, wts, ih]; omega
theorem wts_take (n : Nat) : ∀ a : List D, wts (a.take n) ≤ wts a := by
  induction n with
  | zero => intro a; simp [wts]
  | succ n ih =>
    intro a
    cases a with
    | nil => simp [wts]
    | cons x a => have := ih a; simp only [List.take_succ_cons, wts]; omega
theorem wts_drop (n : Nat) : ∀ a : List D, wts (a.drop n) ≤ wts a := by
  induction n with
  | zero => intro a; simp
  | succ n ih =>
    intro a
    cases a with
    | nil => simp
    | cons x a => have := ih a; simp only [List.drop_succ_cons, wts]; omega
theorem wt_mem {d : D} : ∀ {a : List D}, d ∈ a → wt d ≤ wts a
  | x :: a, h => by
    rcases List.mem_cons.mp h with rfl | h
    · simp only [wts]; omega
    · have := wt_mem h; simp only [wts]; omega
theorem len_wts : ∀ a : List D, a.length ≤ wts a
  | [] => Nat.zero_le _
  | x :: a => by have := len_wts a; have := wt_pos x; simp only [wts, List.length_cons]; omega
theorem wts_set : ∀ (a : List D) (i : Nat) (d : D), wts (a.set i d) ≤ wts a + wt d
  | [], _, _ => by simp [wts]
  | x :: a, 0, d => by simp only [List.set_cons_zero, wts]; omega
  | x :: a, i + 1, d => by have := wts_set a i d; simp only [List.set_cons_succ, wts]; omega
theorem wts_erase : ∀ (a : List D) (i : Nat), wts (a.eraseIdx i) ≤ wts a
  | [], _ => by simp [wts]
  | x :: a, 0 => by simp only [List.eraseIdx_cons_zero, wts]; omega
  | x :: a, i + 1 => by have := wts_erase a i; simp only [List.eraseIdx_cons_succ, wts]; omega
theorem fine_leaf {d : D} (h : leafOk d = true) : ∀ n, fine n d = true
  | 0 => by cases d <;> first | exact h | cases h
  | n + 1 => by cases d <;> first | exact h | cases h
theorem fine_succ : ∀ {n : Nat} {d : D}, fine n d = true → fine (n + 1) d = true
  | 0, d, h => by cases d <;> first | exact h | (exact absurd h (by simp [fine, leafOk]))
  | n + 1, d, h => by
    cases d with
    | tup ds =>
      simp only [fine, List.all_eq_true] at h ⊢
      exact fun x hx => fine_succ (h x hx)
    | frz ds =>
      simp only [fine, List.all_eq_true] at h ⊢
      exact fun x hx => fine_succ (h x hx)
    | _ => exact h
theorem fine_le {n m : Nat} {d : D} (h : fine n d = true) (hm : n ≤ m) : fine m d = true := by
  induction hm with
  | refl => exact h
  | step _ ih => exact fine_succ ih
theorem fine_tup {n : Nat} {ds : List D} : fine (n + 1) (.tup ds) = true ↔ ∀ d ∈ ds, fine n d = true := by simp [fine]
theorem fine_frz {n : Nat} {ds : List D} : fine (n + 1) (.frz ds) = true ↔ ∀ d ∈ ds, fine n d = true := by simp [fine]
theorem plains_of {ds : List D} (h : ∀ d ∈ ds, D.plain d = true) : D.plains ds = true := by
  induction ds with
  | nil => rfl
  | cons d ds ih => simp only [D.plains, Bool.and_eq_true]; exact ⟨h _ (List.mem_cons_self ..), ih fun x hx => h x (List.mem_cons_of_mem _ hx)⟩
theorem fine_plain : ∀ {n : Nat} {d : D}, fine n d = true → D.plain d = true
  | 0, d, h => by cases d <;> first | rfl | (exact absurd h (by simp [fine, leafOk]))
  | n + 1, d, h => by
    cases d with
    | tup ds => exact plains_of fun x hx => fine_plain (fine_tup.mp h x hx)
    | frz ds => exact plains_of fun x hx => fine_plain (fine_frz.mp h x hx)
    | own ds => exact absurd h (by simp [fine, leafOk])
    | ref n => exact absurd h (by simp [fine, leafOk])
    | _ => rfl
theorem pys_depth {n : Nat} : ∀ {ds : List D}, (∀ d ∈ ds, d.py.depth ≤ n) → PyData.depthAll (D.pys ds) ≤ n
  | [], _ => by simp [D.pys, PyData.depthAll]
  | d :: ds, h => by
    simp only [D.pys, PyData.depthAll]
    exact Nat.max_le.mpr ⟨h d (List.mem_cons_self ..), pys_depth fun x hx => h x (List.mem_cons_of_mem _ hx)⟩
theorem fine_depth : ∀ {n : Nat} {d : D}, fine n d = true → d.py.depth ≤ n
  | 0, d, h => by cases d <;> first | (simp [D.py, PyData.depth]; done) | (exact absurd h (by simp [fine, leafOk]))
  | n + 1, d, h => by
    cases d with
    | tup ds => simp only [D.py, PyData.depth]; have := pys_depth (n := n) (ds := ds) fun x hx => fine_depth (fine_tup.mp h x hx); omega
    | frz ds => simp only [D.py, PyData.depth]; have := pys_depth (n := n) (ds := ds) fun x hx => fine_depth (fine_frz.mp h x hx); omega
    | own ds => exact absurd h (by simp [fine, leafOk])
    | _ => simp [D.py, PyData.depth]
theorem pys_show : ∀ {ds : List D}, (∀ d ∈ ds, d.py.showable = true) → PyData.showableAll (D.pys ds) = true
  | [], _ => by simp [D.pys, PyData.showableAll]
  | d :: ds, h => by
    simp only [D.pys, PyData.showableAll, Bool.and_eq_true]
    exact ⟨h d (List.mem_cons_self ..), pys_show fun x hx => h x (List.mem_cons_of_mem _ hx)⟩
theorem leaf_int {i : Int} (h : i.natAbs < 10 ^ 30) : i.natAbs.log2 < 1920 := by
  have h2 : i.natAbs < 2 ^ 100 := by omega
  rcases Nat.eq_zero_or_pos i.natAbs with z | z
  · rw [z]; decide
  · have : i.natAbs.log2 < 100 := (Nat.log2_lt (by omega)).mpr h2
    omega
theorem leaf_show {d : D} (h : leafOk d = true) : d.py.showable = true := by
  cases d with
  | int i => simp only [leafOk, decide_eq_true_eq] at h; simp only [D.py, PyData.showable, decide_eq_true_eq]; exact leaf_int h
  | _ => first | rfl | cases h
theorem fine_show : ∀ {n : Nat} {d : D}, fine n d = true → d.py.showable = true
  | 0, d, h => by cases d <;> first | exact leaf_show h | (exact absurd h (by simp [fine, leafOk]))
  | n + 1, d, h => by
    cases d with
    | tup ds => exact pys_show fun x hx => fine_show (fine_tup.mp h x hx)
    | frz ds => exact pys_show fun x hx => fine_show (fine_frz.mp h x hx)
    | own ds => exact absurd h (by simp [fine, leafOk])
    | ref n => exact absurd h (by simp [fine, leafOk])
    | _ => exact leaf_show h
theorem shown_int30 {i : Int} (h : i.natAbs < 10 ^ 30) : (PyData.shown (.int i)).length ≤ 31 := by
  have e := int_text_length_le10 (k := 30) (by decide) h
  show (Str.ofString (toString i)).length ≤ 31
  rw [ofString_length]; exact e
theorem pys_short : ∀ {ds : List D}, (∀ d ∈ ds, d.py.leavesShort 31 = true) → PyData.leavesShortAll 31 (D.pys ds) = true
  | [], _ => by simp [D.pys, PyData.leavesShortAll]
  | d :: ds, h => by
    simp only [D.pys, PyData.leavesShortAll, Bool.and_eq_true]
    exact ⟨h d (List.mem_cons_self ..), pys_short fun x hx => h x (List.mem_cons_of_mem _ hx)⟩
theorem leaf_short {d : D} (h : leafOk d = true) : d.py.leavesShort 31 = true := by
  cases d with
  | int i => simp only [leafOk, decide_eq_true_eq] at h; simp only [D.py, PyData.leavesShort, decide_eq_true_eq]; exact shown_int30 h
  | str x => simp only [leafOk, Bool.and_eq_true] at h; simp only [D.py, PyData.leavesShort]; exact h.1
  | _ => first | rfl | cases h
theorem fine_short : ∀ {n : Nat} {d : D}, fine n d = true → d.py.leavesShort 31 = true
  | 0, d, h => by cases d <;> first | exact leaf_short h | (exact absurd h (by simp [fine, leafOk]))
  | n + 1, d, h => by
    cases d with
    | tup ds => simp only [D.py, PyData.leavesShort]; exact pys_short fun x hx => fine_short (fine_tup.mp h x hx)
    | frz ds => simp only [D.py, PyData.leavesShort]; exact pys_short fun x hx => fine_short (fine_frz.mp h x hx)
    | own ds => exact absurd h (by simp [fine, leafOk])
    | ref n => exact absurd h (by simp [fine, leafOk])
    | _ => exact leaf_short h
theorem pys_wt : ∀ {ds : List D}, (∀ d ∈ ds, d.py.weight + 1 ≤ wt d) → PyData.weightAll (D.pys ds) ≤ wts ds
  | [], _ => by simp [D.pys, PyData.weightAll]
  | d :: ds, h => by
    simp only [D.pys, PyData.weightAll, wts]
    have := h d (List.mem_cons_self ..)
    have := pys_wt fun x hx => h x (List.mem_cons_of_mem _ hx)
    omega
theorem leaf_wt {d : D} (h : leafOk d = true) : d.py.weight + 1 ≤ wt d := by
  cases d with
  | int i =>
    simp only [leafOk, decide_eq_true_eq] at h
    simp only [D.py, PyData.weight, wt]
    split
    · omega
    · rename_i z
      have z : i ≠ 0 := by simpa using z
      have : i.natAbs.log2 < 100 := (Nat.log2_lt (by omega)).mpr (by omega)
      omega
  | str x => simp [D.py, PyData.weight, wt]
  | non => simp [D.py, PyData.weight, wt]
  | bl => simp [D.py, PyData.weight, wt]
  | _ => cases h
theorem fine_wt : ∀ {n : Nat} {d : D}, fine n d = true → d.py.weight + 1 ≤ wt d
  | 0, d, h => by cases d <;> first | exact leaf_wt h | (exact absurd h (by simp [fine, leafOk]))
  | n + 1, d, h => by
    cases d with
    | tup ds => simp only [D.py, PyData.weight, wt]; have := pys_wt (ds := ds) fun x hx => fine_wt (fine_tup.mp h x hx); omega
    | frz ds => simp only [D.py, PyData.weight, wt]; have := pys_wt (ds := ds) fun x hx => fine_wt (fine_frz.mp h x hx); omega
    | own ds => exact absurd h (by simp [fine, leafOk])
    | ref n => exact absurd h (by simp [fine, leafOk])
    | _ => exact leaf_wt h
theorem fine_pStr {n : Nat} {d : D} (h : fine n d = true) (hn : n ≤ 60) (hw : wt d ≤ 500000) : ∃ x, pStr d = some (.str x) := by
  have h1 := fine_plain h
  have h2 := fine_show h
  have h3 := fine_depth h
  have h4 := fine_short h
  have h5 := fine_wt h
  have h6 := PyData.shown_le 31 (by decide) d.py h4
  have hl : d.py.shown.length ≤ big := by
    have : big = 16777216 := rfl
    omega
  have hd : d.py.depth ≤ 60 := Nat.le_trans h3 hn
  cases d with
  | str x => exact ⟨x, rfl⟩
  | _ => exact ⟨_, by simp only [pStr]; rw [if_pos (by simp only [h1, h2, hd, hl, Bool.and_self, decide_true])]⟩
theorem fine_cmp {n : Nat} {a b : D} (ha : fine n a = true) (hb : D.plain b = true) (hn : n ≤ 60) : cmpOk a b = true := by
  simp only [cmpOk, Bool.and_eq_true, decide_eq_true_eq]
  exact ⟨⟨fine_plain ha, hb⟩, Nat.le_trans (Nat.min_le_left _ _) (Nat.le_trans (fine_depth ha) hn)⟩
theorem eqv_s (a b : Str) : D.eqv (.str a) (.str b) = (a == b) := by
  show PyData.eqv (.str a) (.str b) = _
  simp [PyData.eqv]
@[simp] theorem p_eqS (a b : Str) : primF .eq [.str a, .str b] = some (.bl (a == b)) := by rw [p_eq _ _ rfl, eqv_s]
@[simp] theorem p_neS (a b : Str) : primF .ne [.str a, .str b] = some (.bl (!(a == b))) := by rw [p_ne _ _ rfl, eqv_s]
theorem enum_get (ds : List D) (i : Nat) : (enumD 0 ds)[i]? = ds[i]?.map fun d => .tup [.int i, d] := by
  have go : ∀ (ds : List D) (k i : Nat), (enumD k ds)[i]? = ds[i]?.map fun d => .tup [.int ((k + i : Nat) : Int), d] := by
    intro ds
    induction ds with
    | nil => intro k i; simp [enumD]
    | cons d ds ih =>
      intro k i
      cases i with
      | zero => simp [enumD]
      | succ i =>
        simp only [enumD, List.getElem?_cons_succ, ih (k + 1) i]
        rw [Nat.add_right_comm k 1 i, Nat.add_assoc k i 1]
  simpa using go ds 0 i
theorem enum_len (ds : List D) : (enumD 0 ds).length = ds.length := by
  have go : ∀ (ds : List D) (k : Nat), (enumD k ds).length = ds.length := by
    intro ds
    induction ds with
    | nil => intro k; rfl
    | cons d ds ih => intro k; simp [enumD, ih]
  exact go ds 0
theorem get_lt {α : Type} {ds : List α} {i : Nat} {d : α} (h : ds[i]? = some d) : i < ds.length := by
  rcases Nat.lt_or_ge i ds.length with z | z
  · exact z
  · rw [List.getElem?_eq_none z] at h; cases h
theorem drop_get {α : Type} {ds : List α} {i : Nat} {d : α} (h : ds[i]? = some d) : ds.drop i = d :: ds.drop (i + 1) := by
  have hlt := get_lt h
  rw [List.drop_eq_getElem_cons hlt]
  rw [List.getElem?_eq_getElem hlt] at h
  rw [Option.some.inj h]
theorem sIx_nat (n d i : Nat) : HT.sIx n d (some (i : Int)) = min i n := by
  simp only [HT.sIx]
  rw [if_neg (by omega)]
  simp
theorem sIx_none (n d : Nat) : HT.sIx n d none = d := rfl
theorem cut_take (ds : List D) (i : Nat) : cutD ds none (some (i : Int)) = ds.take i := by
  simp only [cutD, sIx_none, sIx_nat, List.drop_zero, Nat.sub_zero]
  rcases Nat.le_total i ds.length with h | h
  · rw [Nat.min_eq_left h]
  · rw [Nat.min_eq_right h, List.take_length, List.take_of_length_le h]
theorem cut_drop (ds : List D) (i : Nat) : cutD ds (some (i : Int)) none = ds.drop i := by
  simp only [cutD, sIx_none, sIx_nat]
  rcases Nat.le_total i ds.length with h | h
  · rw [Nat.min_eq_left h, List.take_of_length_le (by simp)]
  · rw [Nat.min_eq_right h]; simp [List.drop_of_length_le h]
theorem slc_take_t (ds : List D) (i : Nat) : primF (.slc false true) [.tup ds, .int i] = some (.tup (ds.take i)) := by
  rw [← cut_take]; rfl
theorem slc_take_f (ds : List D) (i : Nat) : primF (.slc false true) [.frz ds, .int i] = some (.own (ds.take i)) := by
  rw [← cut_take]; rfl
theorem slc_take_o (ds : List D) (i : Nat) : primF (.slc false true) [.own ds, .int i] = some (.own (ds.take i)) := by
  rw [← cut_take]; rfl
theorem slc_drop_t (ds : List D) (i : Nat) : primF (.slc true false) [.tup ds, .int i] = some (.tup (ds.drop i)) := by
  rw [← cut_drop]; rfl
theorem slc_drop_f (ds : List D) (i : Nat) : primF (.slc true false) [.frz ds, .int i] = some (.own (ds.drop i)) := by
  rw [← cut_drop]; rfl
theorem slc_drop_o (ds : List D) (i : Nat) : primF (.slc true false) [.own ds, .int i] = some (.own (ds.drop i)) := by
  rw [← cut_drop]; rfl
theorem fine_val {n : Nat} {d : D} (h : fine n d = true) : val d = true := by
  cases d with
  | own ds => cases n <;> exact absurd h (by simp [fine, leafOk])
  | ref k => cases n <;> exact absurd h (by simp [fine, leafOk])
  | _ => rfl
/-- a comprehension that changes nothing -/
theorem wp_lcP {own : List Nat} {bd : D → M Unit} {test : M Bool} {elt : M D} {Q : List D → Env → Sto → Prop} {ds : List D} {en : Env} {s : Sto} (p : D → Bool) (f : D → D) (hz : ds.length ≤ big)
    (step : ∀ d ∈ ds, wp (bd d) en s fun _ en1 s1 => wp test en1 s1 fun b en2 s2 => b = p d ∧ s2 = s ∧ (p d = true → wp elt en2 s2 fun y en3 s3 => y.hard = f d ∧ wipeE own en3 = en ∧ s3 = s) ∧ (p d = false → wipeE own en2 = en))
    (fin : Q ((ds.filter p).map f) en s) : wp (lcL own bd test elt ds []) en s Q := by
  refine wp_lc (fun i acc en' s' => acc = ((ds.take i).filter p).map f ∧ en' = en ∧ s' = s) ⟨rfl, rfl, rfl⟩ hz ?_ ?_ ?_
  · rintro i acc en' s' ⟨rfl, _, _⟩
    rw [List.length_map]
    exact Nat.le_trans (List.length_filter_le _ _) (by rw [List.length_take]; exact Nat.min_le_left _ _)
  · rintro i d acc en' s' hd ⟨rfl, rfl, rfl⟩
    have ht : ds.take (i + 1) = ds.take i ++ [d] := by rw [List.take_succ, hd]; rfl
    refine wp_mono (step d (List.mem_of_getElem? hd)) fun _ en1 s1 h1 => wp_mono h1 fun b en2 s2 h2 => ?_
    obtain ⟨rfl, rfl, h3, h4⟩ := h2
    cases hp : p d with
    | false => exact ⟨by rw [ht]; simp [hp], h4 hp, rfl⟩
    | true =>
      refine wp_mono (h3 hp) fun y en3 s3 h5 => ?_
      obtain ⟨e1, e2, rfl⟩ := h5
      exact ⟨by rw [ht]; simp [hp, e1], e2, rfl⟩
  · rintro acc en' s' ⟨rfl, rfl, rfl⟩
    rw [List.take_length]
    exact fin
/-- the first of a list at which something is found -/
def firstW (w : Nat → D → Option D) : Nat → List D → Option D
  | _, [] => none
  | k, d :: r => match w k d with
    | some x => some x
    | none => firstW w (k + 1) r
/-- a loop over enumerate that ends with the first that isn't so -/
theorem wp_first {bd : D → M Unit} {body : M Flow} {en : Env} {s : Sto} {Q : Flow → Env → Sto → Prop} {ds : List D} (w : Nat → D → Option D) (I : Env → Sto → Prop) (h0 : I en s)
    (step : ∀ i d en s, ds[i]? = some d → I en s → (∀ j d', j < i → ds[j]? = some d' → w j d' = none) → wp (bd (.tup [.int i, d])) en s fun _ en s => wp body en s fun f en s => match w i d with
      | none => (f = .next ∨ f = .cont) ∧ I en s
      | some r => f = .ret r ∧ I en s)
    (fin : ∀ en s, I en s → match firstW w 0 ds with
      | none => Q .next en s
      | some r => Q (.ret r) en s) : wp (forL bd body (enumD 0 ds)) en s Q := by
  refine wp_for (fun i en s => I en s ∧ firstW w 0 ds = firstW w i (ds.drop i) ∧ ∀ j d', j < i → ds[j]? = some d' → w j d' = none) ⟨h0, rfl, fun j _ hj => absurd hj (Nat.not_lt_zero j)⟩ ?_ ?_
  · rintro i d0 en s he ⟨hi, hf, hp⟩
    rw [enum_get] at he
    obtain ⟨d, hd, rfl⟩ : ∃ d, ds[i]? = some d ∧ .tup [.int i, d] = d0 := by
      cases h : ds[i]? with
      | none => rw [h] at he; cases he
      | some d => rw [h] at he; exact ⟨d, rfl, Option.some.inj he⟩
    rw [drop_get hd] at hf
    refine wp_mono (step i d en s hd hi hp) fun _ en1 s1 h1 => wp_mono h1 fun f en2 s2 h2 => ?_
    cases hw : w i d with
    | none =>
      rw [hw] at h2
      have e : firstW w 0 ds = firstW w (i + 1) (ds.drop (i + 1)) := by rw [hf]; simp only [firstW, hw]
      have hp' : ∀ j d', j < i + 1 → ds[j]? = some d' → w j d' = none := by
        intro j d' hj hd'
        rcases Nat.lt_succ_iff_lt_or_eq.mp hj with z | rfl
        · exact hp j d' z hd'
        · rw [hd] at hd'; cases hd'; exact hw
      rcases h2 with ⟨rfl | rfl, h2⟩ <;> exact ⟨h2, e, hp'⟩
    | some r =>
      rw [hw] at h2
      obtain ⟨rfl, h2⟩ := h2
      have := fin en2 s2 h2
      rw [hf] at this
      show Q (.ret r) en2 s2
      simpa only [firstW, hw] using this
  · rintro en s ⟨hi, hf, hp⟩
    rw [enum_len, List.drop_length] at hf
    have := fin en s hi
    rw [hf] at this
    exact this
end Mi
end
section
set_option Elab.async false
set_option maxRecDepth 100000
set_option linter.all false
namespace Mi
open PySem
/-! ### the purse of the laws k01 .. k13: what is drawn of it stays in its bounds -/
theorem ans_run {fns : List Fn} {W n f : Nat} {ds : List D} {s : Sto} {Q : D → Sto → Prop} (h : ans fns W n f ds s Q) : ∃ d s', run fns W n f ds s = .ok d s' ∧ Q d s' := by
  unfold ans at h
  cases e : run fns W n f ds s with
  | ok d s' => rw [e] at h; exact ⟨d, s', rfl, h⟩
  | exc x s' => rw [e] at h; exact h.elim
  | stuck => rw [e] at h; exact h.elim
theorem p_mul2 (a b : Int) (h : a.natAbs < 2 ^ 250) (h2 : b.natAbs < 2 ^ 250) : primF .mul [.int a, .int b] = some (.int (a * b)) := by
  show (if a.natAbs.log2 + b.natAbs.log2 < 1000000 then some (D.int (a * b)) else none) = _
  have l : ∀ n : Nat, n < 2 ^ 250 → n.log2 < 251 := fun n hn => by
    rcases Nat.eq_zero_or_pos n with rfl | z
    · decide
    · exact Nat.lt_succ_of_lt ((Nat.log2_lt (by omega)).mpr hn)
  have := l _ h
  have := l _ h2
  rw [if_pos (by omega)]
theorem pow18 : primF .pow [.int 10, .int 18] = some (.int (10 ^ 18)) := by rfl
theorem pow60 : primF .pow [.int 10, .int 60] = some (.int (10 ^ 60)) := by rfl
theorem pow600 : ∃ z : Int, 0 < z ∧ primF .pow [.int 1000000000000000000000000000000000000000000000000000000000000, .int 10] = some (.int z) := ⟨_, by decide, rfl⟩
def fMixed : Fn := ⟨2, 3, [.asg (.nm 2) (.prim .add [(.prim .add [(.prim .mul [(.prim .add [(.prim .mod [(.v 0), (.prim .add [(.prim .pow [(.k (.int 10)), (.k (.int 18))]), (.k (.int 9))])]), (.prim .mul [(.k (.int 7)), (.v 1)])]), (.k (.int 739108512309184756019283746561))]), (.prim .mul [(.k (.int 7919)), (.v 1)])]), (.k (.int 1))]), .asg (.nm 2) (.prim .mod [(.prim .mul [(.v 2), (.v 2)]), (.prim .add [(.prim .pow [(.k (.int 10)), (.k (.int 60))]), (.k (.int 7))])]), .ret (.prim .mod [(.prim .mul [(.prim .add [(.v 2), (.k (.int 40503))]), (.prim .add [(.v 2), (.k (.int 57))])]), (.prim .add [(.prim .pow [(.k (.int 10)), (.k (.int 60))]), (.k (.int 7))])])]⟩
theorem mixed_ {fns : List Fn} {i : Nat} (h : fns[i]? = some fMixed) (W n : Nat) (c k : Int) (s : Sto) (h0 : 0 ≤ k) (h1 : k < 2 ^ 100) : ∃ r, run fns W (n + 1) i [.int c, .int k] s = .ok (.int r) s ∧ 0 ≤ r ∧ r < 1000000000000000000000000000000000000000000000000000000000007 := by
  have key : ans fns W (n + 1) i [.int c, .int k] s fun d s' => s' = s ∧ ∃ r, d = .int r ∧ 0 ≤ r ∧ r < 1000000000000000000000000000000000000000000000000000000000007 := by
    refine ans_of h rfl ?_
    have a0 : 0 ≤ c % 1000000000000000009 := Int.emod_nonneg _ (by decide)
    have a1 : c % 1000000000000000009 < 1000000000000000009 := Int.emod_lt_of_pos _ (by decide)
    have e1 := p_mod c 1000000000000000009 (by decide)
    have e2 := p_mul2 7 k (by decide) (by omega)
    have e4 := p_mul2 7919 k (by decide) (by omega)
    generalize hx : c % 1000000000000000009 = x at *
    have e3 := p_mul2 (x + 7 * k) 739108512309184756019283746561 (by omega) (by decide)
    generalize hy : (x + 7 * k) * 739108512309184756019283746561 + 7919 * k + 1 = y at *
    have hy2 : y.natAbs < 2 ^ 250 := by omega
    have e5 := p_mul2 y y hy2 hy2
    have e6 := p_mod (y * y) 1000000000000000000000000000000000000000000000000000000000007 (by decide)
    have z0 : 0 ≤ y * y % 1000000000000000000000000000000000000000000000000000000000007 := Int.emod_nonneg _ (by decide)
    have z1 : y * y % 1000000000000000000000000000000000000000000000000000000000007 < 1000000000000000000000000000000000000000000000000000000000007 := Int.emod_lt_of_pos _ (by decide)
    generalize hz : y * y % 1000000000000000000000000000000000000000000000000000000000007 = z at *
    have e7 := p_mul2 (z + 40503) (z + 57) (by omega) (by omega)
    have e8 := p_mod ((z + 40503) * (z + 57)) 1000000000000000000000000000000000000000000000000000000000007 (by decide)
    have w0 : 0 ≤ (z + 40503) * (z + 57) % 1000000000000000000000000000000000000000000000000000000000007 := Int.emod_nonneg _ (by decide)
    have w1 : (z + 40503) * (z + 57) % 1000000000000000000000000000000000000000000000000000000000007 < 1000000000000000000000000000000000000000000000000000000000007 := Int.emod_lt_of_pos _ (by decide)
    simp [fMixed, pow18, pow60, e1, e2, e3, e4, e5, e6, e7, e8, hy, w0, w1]
  obtain ⟨d, s', e, rfl, r, rfl, hr⟩ := ans_run key
  exact ⟨r, e, hr⟩
/-- a purse's numbers, N takes behind its making at most -/
def PV (N : Nat) (v : List D) : Prop := ∃ a b c : Int, v = [.int a, .int b, .int c] ∧ 0 ≤ a ∧ 0 ≤ b ∧ b ≤ N ∧ 0 ≤ c
def Pu (p N : Nat) (s : Sto) : Prop := ∃ v, s[p]? = some (.lst v) ∧ PV N v
/-- from one store to the next, but for a purse -/
def St (p N : Nat) (s s' : Sto) : Prop := ∃ v, s' = s.set p (.lst v) ∧ PV N v ∧ p < s.length
theorem St.pu {p N : Nat} {s s' : Sto} (h : St p N s s') : Pu p N s' := by
  obtain ⟨v, rfl, hv, hp⟩ := h
  exact ⟨v, by simp [hp], hv⟩
theorem St.trans {p N M : Nat} {a b c : Sto} (h : St p N a b) (k : St p M b c) : St p M a c := by
  obtain ⟨v, rfl, hv, hp⟩ := h
  obtain ⟨w, rfl, hw, _⟩ := k
  exact ⟨w, by rw [List.set_set], hw, hp⟩
theorem St.len {p N : Nat} {s s' : Sto} (h : St p N s s') : s'.length = s.length := by
  obtain ⟨v, rfl, hv, hp⟩ := h
  simp
theorem Pu.lt {p N : Nat} {s : Sto} (h : Pu p N s) : p < s.length := by
  obtain ⟨v, h, _⟩ := h
  exact get_lt h
theorem PV.mono {N M : Nat} {v : List D} (h : PV N v) (k : N ≤ M) : PV M v := by
  obtain ⟨a, b, c, rfl, h0, h1, h2, h3⟩ := h
  exact ⟨a, b, c, rfl, h0, h1, by omega, h3⟩
theorem Pu.mono {p N M : Nat} {s : Sto} (h : Pu p N s) (k : N ≤ M) : Pu p M s := by
  obtain ⟨v, h, hv⟩ := h
  exact ⟨v, h, hv.mono k⟩
theorem St.mono {p N M : Nat} {s s' : Sto} (h : St p N s s') (k : N ≤ M) : St p M s s' := by
  obtain ⟨v, h, hv, hp⟩ := h
  exact ⟨v, h, hv.mono k, hp⟩
theorem St.refl {p N : Nat} {s : Sto} (h : Pu p N s) : St p N s s := by
  have hp := h.lt
  obtain ⟨v, h, hv⟩ := h
  refine ⟨v, ?_, hv, hp⟩
  rw [List.getElem?_eq_getElem hp] at h
  rw [← Option.some.inj h, List.set_getElem_self]
theorem deref_set {s : Sto} {p : Nat} {v : List D} (h : p < s.length) : derefD (s.set p (.lst v)) (.ref p) = .own v := deref_ref (by simp [h])
@[simp] theorem mu_set0 (x y z d : D) : muF .set [x, y, z] [.int 0, d] = some ([d, y, z], .non) := id rfl
@[simp] theorem mu_set1 (x y z d : D) : muF .set [x, y, z] [.int 1, d] = some ([x, d, z], .non) := id rfl
@[simp] theorem at0 (a : D) (r) : L2.atI (a :: r) 0 = some a := atI_nat (i := 0) rfl
@[simp] theorem at1 (a b : D) (r) : L2.atI (a :: b :: r) 1 = some b := atI_nat (i := 1) rfl
@[simp] theorem at2 (a b c : D) (r) : L2.atI (a :: b :: c :: r) 2 = some c := atI_nat (i := 2) rfl
def fTake (mixed : Nat) : Fn := ⟨2, 3, [.ite (.prim .lt [(.prim .idx [(.v 0), (.k (.int 0))]), (.v 1)]) [.asg (.sub (.v 0) (.k (.int 1))) (.prim .add [(.prim .idx [(.v 0), (.k (.int 1))]), (.k (.int 1))]), .asg (.sub (.v 0) (.k (.int 0))) (.prim .add [(.prim .idx [(.v 0), (.k (.int 0))]), (.prim .mul [(.v 1), (.call mixed [(.prim .idx [(.v 0), (.k (.int 2))]), (.prim .add [(.prim .mul [(.k (.int 11)), (.prim .idx [(.v 0), (.k (.int 1))])]), (.k (.int 5))])])])])] [], .asg (.nm 2) (.prim .mod [(.prim .idx [(.v 0), (.k (.int 0))]), (.v 1)]), .asg (.sub (.v 0) (.k (.int 0))) (.prim .fdiv [(.prim .idx [(.v 0), (.k (.int 0))]), (.v 1)]), .ret (.mv 2)]⟩
theorem take_ {fns : List Fn} {i j : Nat} (hi : fns[i]? = some (fTake j)) (hj : fns[j]? = some fMixed) (W n p N : Nat) (far : Int) (s : Sto) (h : Pu p N s) (hN : N < 2 ^ 90) (h1 : 1 ≤ far) (h2 : far < 1000000) :
    ∃ g s', run fns W (n + 2) i [.ref p, .int far] s = .ok (.int g) s' ∧ 0 ≤ g ∧ g < far ∧ St p (N + 1) s s' := by
  have hp := h.lt
  obtain ⟨v, hv, a, b, c, rfl, ha, hb, hbN, hc⟩ := h
  have key : ans fns W (n + 2) i [.ref p, .int far] s fun d s' => ∃ g, d = .int g ∧ 0 ≤ g ∧ g < far ∧ St p (N + 1) s s' := by
    refine ans_of hi rfl ?_
    have d0 := deref_ref hv
    have d1 : ∀ v : List D, derefD (s.set p (.lst v)) (.ref p) = .own v := fun v => deref_set hp
    have d2 : ∀ v : List D, (s.set p (.lst v))[p]? = some (.lst v) := fun v => by simp [hp]
    by_cases hlt : a < far
    · have e1 := p_mul2 11 (b + 1) (by decide) (by omega)
      obtain ⟨r, e2, r0, r1⟩ := mixed_ hj W n c (11 * (b + 1) + 5) (s.set p (.lst [.int a, .int (b + 1), .int c])) (by omega) (by omega)
      have e3 := p_mul2 far r (by omega) (by omega)
      have m0 : 0 ≤ far * r := Int.mul_nonneg (by omega) r0
      generalize far * r = m at *
      have e4 := p_mod (a + m) far (by omega)
      have e5 := p_fdiv (a + m) far (by omega) (by omega)
      have g0 : 0 ≤ (a + m) % far := Int.emod_nonneg _ (by omega)
      have g1 : (a + m) % far < far := Int.emod_lt_of_pos _ (by omega)
      have q0 : 0 ≤ (a + m) / far := Int.ediv_nonneg (by omega) (by omega)
      simp [fTake, d0, d1, d2, hlt, hv, e1, e2, e3, e4, e5, g0, g1]
      exact ⟨_, rfl, ⟨_, _, _, rfl, q0, by omega, by omega, hc⟩, hp⟩
    · have e4 := p_mod a far (by omega)
      have e5 := p_fdiv a far (by omega) (by omega)
      have g0 : 0 ≤ a % far := Int.emod_nonneg _ (by omega)
      have g1 : a % far < far := Int.emod_lt_of_pos _ (by omega)
      have q0 : 0 ≤ a / far := Int.ediv_nonneg (by omega) (by omega)
      simp [fTake, d0, d1, d2, hlt, hv, e4, e5, g0, g1]
      exact ⟨_, rfl, ⟨_, _, _, rfl, q0, by omega, by omega, hc⟩, hp⟩
  obtain ⟨d, s', e, g, rfl, h3⟩ := ans_run key
  exact ⟨g, s', e, h3⟩
def fPurse (mixed : Nat) : Fn := ⟨2, 2, [.ite (.prim .ge [(.v 0), (.prim .pow [(.k (.int 10)), (.k (.int 18))])]) [.ret (.lst [(.prim .mod [(.prim .sub [(.v 0), (.prim .pow [(.k (.int 10)), (.k (.int 18))])]), (.prim .pow [(.prim .pow [(.k (.int 10)), (.k (.int 60))]), (.k (.int 10))])]), (.k (.int 0)), (.v 1)])] [], .ret (.lst [(.call mixed [(.v 0), (.v 1)]), (.k (.int 0)), (.prim .add [(.prim .mod [(.v 0), (.prim .add [(.prim .pow [(.k (.int 10)), (.k (.int 18))]), (.k (.int 9))])]), (.v 1)])])]⟩
theorem purse_ {fns : List Fn} {i j : Nat} (hi : fns[i]? = some (fPurse j)) (hj : fns[j]? = some fMixed) (W n : Nat) (c k : Int) (s : Sto) (h0 : 0 ≤ k) (h1 : k < 1000000) :
    ∃ v, run fns W (n + 2) i [.int c, .int k] s = .ok (.own v) s ∧ PV 0 v := by
  have key : ans fns W (n + 2) i [.int c, .int k] s fun d s' => s' = s ∧ ∃ v, d = .own v ∧ PV 0 v := by
    refine ans_of hi rfl ?_
    obtain ⟨z, hz, ez⟩ := pow600
    have e1 := p_mod (c - 1000000000000000000) z hz
    have a0 : 0 ≤ (c - 1000000000000000000) % z := Int.emod_nonneg _ (by omega)
    generalize (c - 1000000000000000000) % z = x at *
    obtain ⟨r, e2, r0, r1⟩ := mixed_ hj W n c k s h0 (by omega)
    have e3 := p_mod c 1000000000000000009 (by decide)
    have b0 : 0 ≤ c % 1000000000000000009 := Int.emod_nonneg _ (by decide)
    generalize c % 1000000000000000009 = y at *
    by_cases hc : 1000000000000000000 ≤ c
    · simp [fPurse, pow18, pow60, ez, e1, hc]
      exact ⟨_, _, _, rfl, a0, Int.le_refl _, Int.le_refl _, h0⟩
    · simp [fPurse, pow18, pow60, e2, e3, hc]
      exact ⟨_, _, _, rfl, r0, Int.le_refl _, Int.le_refl _, by omega⟩
  obtain ⟨d, s', e, rfl, v, rfl, hv⟩ := ans_run key
  exact ⟨v, e, hv⟩
def fAt : Fn := ⟨2, 2, [.ite (.prim .lt [(.v 1), (.prim .len [(.v 0)])]) [.ret (.prim .idx [(.v 0), (.v 1)])] [], .ret (.prim .add [(.prim .mul [(.k (.int 3)), (.v 1)]), (.k (.int 1))])]⟩
theorem at_ {fns : List Fn} {i : Nat} (hi : fns[i]? = some fAt) (W n : Nat) (ns : List Int) (k : Nat) (s : Sto) (h1 : k < 1000000) :
    ∃ c, run fns W (n + 1) i [.frz (ns.map D.int), .int k] s = .ok (.int c) s := by
  have key : ans fns W (n + 1) i [.frz (ns.map D.int), .int k] s fun d s' => s' = s ∧ ∃ c, d = .int c := by
    refine ans_of hi rfl ?_
    have e1 := p_mul2 3 k (by decide) (by omega)
    by_cases hk : k < ns.length
    · have hk' : (k : Int) < ns.length := by omega
      have e2 : L2.atI (ns.map D.int) (k : Int) = some (.int ns[k]) := atI_nat (by simp [hk])
      simp [fAt, hk', e2]
    · have hk' : ¬ (k : Int) < ns.length := by omega
      simp [fAt, hk', e1]
  obtain ⟨d, s', e, rfl, c, rfl⟩ := ans_run key
  exact ⟨c, e⟩
def fPick (take : Nat) : Fn := ⟨2, 2, [.ret (.prim .idx [(.v 1), (.call take [(.rf 0), (.prim .len [(.v 1)])])])]⟩
theorem pick_ {fns : List Fn} {h i j : Nat} (hh : fns[h]? = some (fPick i)) (hi : fns[i]? = some (fTake j)) (hj : fns[j]? = some fMixed) (W n p N : Nat) (xs : List D) (s : Sto) (hs : Pu p N s) (hN : N < 2 ^ 90) (h1 : xs ≠ []) (h2 : xs.length < 1000000) :
    ∃ x s', run fns W (n + 3) h [.ref p, .own xs] s = .ok x s' ∧ x ∈ xs ∧ St p (N + 1) s s' := by
  have hl : 1 ≤ xs.length := by cases xs with | nil => exact absurd rfl h1 | cons => simp
  have key : ans fns W (n + 3) h [.ref p, .own xs] s fun d s' => d ∈ xs ∧ St p (N + 1) s s' := by
    refine ans_of hh rfl ?_
    obtain ⟨g, s', e, g0, g1, hst⟩ := take_ hi hj W n p N xs.length s hs hN (by omega) (by omega)
    obtain ⟨k, rfl⟩ := Int.eq_ofNat_of_zero_le g0
    have hk : k < xs.length := by omega
    have e2 : L2.atI xs (k : Int) = some xs[k] := atI_nat (by simp [hk])
    simp [fPick, e, e2, hst]
  obtain ⟨d, s', e, hd, hst⟩ := ans_run key
  exact ⟨d, s', e, hd, hst⟩
def fSomeOf (take : Nat) : Fn := ⟨3, 4, [.ret (.lc [3] (.nm 3) (.seq (.v 1)) [(.prim .gt [(.call take [(.rf 0), (.v 2)]), (.k (.int 0))])] (.v 3))]⟩
theorem someOf_ {fns : List Fn} {h i j : Nat} (hh : fns[h]? = some (fSomeOf i)) (hi : fns[i]? = some (fTake j)) (hj : fns[j]? = some fMixed) (W n p N : Nat) (xs : List D) (far : Int) (s : Sto) (hs : Pu p N s) (hN : N + xs.length < 2 ^ 90) (h2 : xs.length < 1000000) (f1 : 1 ≤ far) (f2 : far < 1000000) (hv : ∀ x ∈ xs, val x = true) :
    ∃ ys s', run fns W (n + 3) h [.ref p, .own xs, .int far] s = .ok (.own ys) s' ∧ ys.Sublist xs ∧ St p (N + xs.length) s s' := by
  have key : ans fns W (n + 3) h [.ref p, .own xs, .int far] s fun d s' => ∃ ys, d = .own ys ∧ ys.Sublist xs ∧ St p (N + xs.length) s s' := by
    refine ans_of hh rfl ?_
    simp [fSomeOf]
    refine wp_lc (fun k acc en s' => en = [some (.ref p), some (.frz xs), some (.int far), none] ∧ acc.Sublist (xs.take k) ∧ St p (N + k) s s' ∧ k ≤ xs.length) ⟨rfl, by simp, St.refl hs, Nat.zero_le _⟩ (by have : big = 16777216 := rfl; omega) ?_ ?_ ?_
    · rintro k acc en s' ⟨rfl, hsub, hst, hk⟩
      exact Nat.le_trans hsub.length_le (by rw [List.length_take]; exact Nat.min_le_left _ _)
    · rintro k d acc en s' hd ⟨rfl, hsub, hst, hk⟩
      have hkl := get_lt hd
      have ht : xs.take (k + 1) = xs.take k ++ [d] := by rw [List.take_succ, hd]; rfl
      obtain ⟨g, s2, e, g0, g1, hst2⟩ := take_ hi hj W n p (N + k) far s' hst.pu (by omega) f1 f2
      have hvd := hv d (List.mem_of_getElem? hd)
      have st3 := hst.trans hst2
      by_cases hg : 0 < g
      · simp [e, hg, hvd, ht]
        exact ⟨hsub, st3, by omega⟩
      · simp [e, hg, hvd, ht]
        exact ⟨hsub.trans (List.sublist_append_left _ _), st3, by omega⟩
    · rintro acc en s' ⟨rfl, hsub, hst, hk⟩
      rw [List.take_length] at hsub
      simp [hsub, hst]
  obtain ⟨d, s', e, ys, rfl, hd, hst⟩ := ans_run key
  exact ⟨ys, s', e, hd, hst⟩
end Mi
end
section
set_option Elab.async false
set_option maxRecDepth 100000
set_option linter.all false
namespace Mi
open PySem
/-! ### exceptions in the plain laws -/
def isxF (s : Sto) (ys ns : List Str) : D → Option Bool
  | .non => some false
  | .ref n => (match s[n]? with
    | some (.exn cls k) => if exnOk s k then (if ys.contains cls then some true else if ns.contains cls then some false else none) else none
    | _ => none)
  | _ => none
def xfldF (s : Sto) (cs : List Str) (f : Str) : D → Option D
  | .ref n => (match s[n]? with
    | some (.exn c (some k)) => (match s[k]? with
      | some (.xdt fs) => if cs.contains c then fs.lookup f else none
      | _ => none)
    | _ => none)
  | _ => none
section
variable (cf : Calls) (en : Env) (s : Sto)
theorem w0_isxM (ys ns d) (Q : D → Env → Sto → Prop) : W0.wp (isxM ys ns d) en s Q = W0.optQ (isxF s ys ns d) fun b => Q (.bl b) en s := by
  unfold isxM isxF W0.wp W0.optQ
  cases d <;> first | rfl | skip
  rename_i n
  simp only []
  cases h : s[n]? with
  | none => rfl
  | some o =>
    cases o <;> first | rfl | skip
    rename_i c k
    simp only []
    cases h1 : exnOk s k <;> cases h2 : ys.contains c <;> cases h3 : ns.contains c <;> simp
theorem w0_xfldM (cs f d) (Q : D → Env → Sto → Prop) : W0.wp (xfldM cs f d) en s Q = W0.optQ (xfldF s cs f d) fun v => Q v en s := by
  unfold xfldM xfldF W0.wp W0.optQ
  cases d <;> first | rfl | skip
  rename_i n
  simp only []
  cases h : s[n]? with
  | none => rfl
  | some o =>
    cases o <;> first | rfl | skip
    rename_i c k
    cases k <;> first | rfl | skip
    rename_i k
    simp only []
    cases h2 : s[k]? with
    | none => rfl
    | some o2 =>
      cases o2 <;> first | rfl | skip
      rename_i fs
      simp only []
      cases h3 : cs.contains c <;> cases h4 : fs.lookup f <;> simp [M.opt, M.ret, M.stuck]
theorem w0_isx (ys ns c x) (Q : D → Env → Sto → Prop) : W0.wp (ev2 cf (.isx ys ns c x)).1 en s Q = W0.wp (ev2 cf x).1 en s fun d en s => W0.optQ (isxF s ys ns d) fun b => Q (.bl b) en s := by
  show W0.wp (M.bind _ _) en s Q = _
  simp only [W0.wp_bind, w0_isxM]
theorem w0_xfld (cs x f) (Q : D → Env → Sto → Prop) : W0.wp (ev2 cf (.xfld cs x f)).1 en s Q = W0.wp (ev2 cf x).1 en s fun d en s => W0.optQ (xfldF s cs f d) fun v => Q v en s := by
  show W0.wp (M.bind _ _) en s Q = _
  simp only [W0.wp_bind, w0_xfldM]
@[simp ↓] theorem q_isx (ys ns c x) (Q : D → Env → Sto → Prop) : wp (ev2 cf (.isx ys ns c x)).1 en s Q = wp (ev2 cf x).1 en s fun d en s => optQ (isxF s ys ns d) fun b => Q (.bl b) en s := w0_isx ..
@[simp ↓] theorem q_xfld (cs x f) (Q : D → Env → Sto → Prop) : wp (ev2 cf (.xfld cs x f)).1 en s Q = wp (ev2 cf x).1 en s fun d en s => optQ (xfldF s cs f d) fun v => Q v en s := w0_xfld ..
@[simp ↓] theorem qt_isx (ys ns c x) (Q : Bool → Env → Sto → Prop) : wp (ev2 cf (.isx ys ns c x)).2 en s Q = wp (ev2 cf (.isx ys ns c x)).1 en s fun d en s => optQ (truthy (derefD s d)) fun b => Q b en s := qt_vt _ _ _ _ rfl
@[simp ↓] theorem qt_xfld (cs x f) (Q : Bool → Env → Sto → Prop) : wp (ev2 cf (.xfld cs x f)).2 en s Q = wp (ev2 cf (.xfld cs x f)).1 en s fun d en s => optQ (truthy (derefD s d)) fun b => Q b en s := qt_vt _ _ _ _ rfl
end
/-- ends in an exception -/
def wx {α : Type} (m : M α) (en : Env) (s : Sto) (E : Ex → Env → Sto → Prop) : Prop := match m en s with
  | .exc x en' s' => E x en' s'
  | _ => False
section
variable {α β : Type} {en : Env} {s : Sto} {E : Ex → Env → Sto → Prop}
theorem wx_first {m : M α} {f : α → M β} (h : wx m en s E) : wx (m.bind f) en s E := by
  unfold wx M.bind R.bind at *
  cases e : m en s <;> simp_all
theorem wx_then {m : M α} {f : α → M β} (h : wp m en s fun a en s => wx (f a) en s E) : wx (m.bind f) en s E := by
  replace h : W0.wp m en s fun a en s => wx (f a) en s E := h
  unfold W0.wp at h
  unfold wx M.bind R.bind
  cases e : m en s <;> simp_all [wx]
theorem wx_raise {c : Str} {fs : List Str} {ds : List D} (hl : fs.length = ds.length) (h : E ⟨c, fs.zip (ds.map D.hard)⟩ en s) : wx (raiseM c fs ds) en s E := by
  unfold wx raiseM
  rw [if_pos hl]
  exact h
theorem wx_call {cf : Calls} {f : Nat} {ds : List D} {x : Ex} {s' : Sto} (e : cf f ds s = .exc x s') (h : E x en s') : wx (callM cf f ds) en s E := by
  unfold wx callM
  rw [e]
  exact h
/-- a try whose body ends in an exception that it keeps -/
theorem wp_tryX {cs : List Str} {i j : Nat} {m : M Flow} {Q : Flow → Env → Sto → Prop} (h : wx m en s fun x e' s' => cs.contains x.cls = true ∧ Q .next (((e'.set i (some (.ref (keepX x s').1))).set j (some (.ref (keepX x s').1))).set i none) (keepX x s').2) : wp (tryM cs i j m) en s Q := by
  show W0.wp _ _ _ _
  unfold wx at h
  unfold W0.wp tryM
  cases e : m en s with
  | exc x e' s' =>
    rw [e] at h
    obtain ⟨h1, h2⟩ := h
    simp only [h1, if_true]
    exact h2
  | ok => rw [e] at h; exact h.elim
  | stuck => rw [e] at h; exact h.elim
end
/-- a try whose body ends without an exception -/
theorem wp_tryO {cs : List Str} {i j : Nat} {m : M Flow} {en : Env} {s : Sto} {Q : Flow → Env → Sto → Prop} (h : wp m en s Q) : wp (tryM cs i j m) en s Q := by
  replace h : W0.wp m en s Q := h
  show W0.wp _ _ _ _
  unfold W0.wp at *
  unfold tryM
  cases e : m en s with
  | ok fl e' s' => rw [e] at h; exact h
  | exc x e' s' => rw [e] at h; exact h.elim
  | stuck => rw [e] at h; exact h.elim
theorem run_exc {fns : List Fn} {W n f : Nat} {ds : List D} {s s2 : Sto} {x : Ex} {fn : Fn} (h : fns[f]? = some fn) (hl : ds.length = fn.np)
    (w : wx (exSs (run fns W n) W fn.body) (initE fn.nl ds) s fun x' _ s' => x' = x ∧ s' = s2) : run fns W (n + 1) f ds s = .exc x s2 := by
  simp only [run, h]
  rw [if_pos hl]
  unfold wx at w
  cases e : exSs (run fns W n) W fn.body (initE fn.nl ds) s with
  | ok fl en s' => rw [e] at w; exact w.elim
  | exc x' en s' =>
    rw [e] at w
    obtain ⟨rfl, rfl⟩ := w
    rfl
  | stuck => rw [e] at w; exact w.elim
end Mi
end
section
set_option Elab.async false
set_option maxRecDepth 100000
set_option linter.all false
namespace Mi
open PySem
/-! ### the program: layouts -/
/-- 0=thing 1=label 2=bank -/
def fn_is_key : Fn := ⟨1, 3, [.ite (.or_ (.not_ (.prim (.isi 2) [(.v 0)])) (.prim .ne [(.prim .len [(.v 0)]), (.k (.int 2))])) [.ret (.k (.bl false))] [], .asg (.tp [(.nm 1), (.nm 2)]) (.v 0), .ite (.or_ (.not_ (.prim (.isi 1) [(.v 1)])) (.or_ (.prim .ne [(.prim .len [(.v 1)]), (.k (.int 1))]) (.prim .notin [(.v 1), (.k (.str "ABCDEFGHIJKLMNOPQRSTUVWXYZ*"))]))) [.ret (.k (.bl false))] [], .ret (.and_ (.prim (.isi 1) [(.v 2)]) (.prim .in_ [(.v 2), (.k (.tup [(.str "left"), (.str "middle"), (.str "right")]))]))]⟩
/-- 0=bank 1=other -/
def fn_is_behind : Fn := ⟨2, 2, [.ret (.prim .le [(.meth (.m 1) (.k (.tup [(.str "left"), (.str "middle"), (.str "right")])) [(.v 1)]), (.meth (.m 1) (.k (.tup [(.str "left"), (.str "middle"), (.str "right")])) [(.v 0)])])]⟩
/-- 0=label 1=bank 2=ahead 3=one 4=other -/
def fn_may_stand : Fn := ⟨3, 5, [.for_ (.tp [(.nm 3), (.nm 4)]) (.seq (.v 2)) [.ite (.and_ (.prim .eq [(.v 3), (.v 0)]) (.or_ (.prim .eq [(.v 4), (.v 1)]) (.prim .in_ [(.k (.str "middle")), (.tup [(.v 1), (.v 4)])]))) [.ret (.k (.bl false))] []], .ret (.k (.bl true))]⟩
/-- 0=thing 1=k 2=key -/
def fn_layout_wrong (is_key_ is_behind_ may_stand_ : Nat) : Fn := ⟨1, 3, [.ite (.or_ (.not_ (.prim (.isi 2) [(.v 0)])) (.not_ (.chain .le .le (.k (.int 1)) (.prim .len [(.v 0)]) (.k (.int 24))))) [.ret (.tup [(.k (.str "layout"))])] [], .for_ (.tp [(.nm 1), (.nm 2)]) (.enum (.v 0)) [.ite (.not_ (.call is_key_ [(.v 2)])) [.ret (.tup [(.k (.str "key")), (.v 1)])] [], .ite (.and_ (.prim .gt [(.v 1), (.k (.int 0))]) (.not_ (.call is_behind_ [(.prim .idx [(.v 2), (.k (.int 1))]), (.prim .idx [(.prim .idx [(.v 0), (.prim .sub [(.v 1), (.k (.int 1))])]), (.k (.int 1))])]))) [.ret (.tup [(.k (.str "bank")), (.v 1)])] [], .ite (.not_ (.call may_stand_ [(.prim .idx [(.v 2), (.k (.int 0))]), (.prim .idx [(.v 2), (.k (.int 1))]), (.prim (.slc false true) [(.v 0), (.v 1)])])) [.ret (.tup [(.k (.str "twice")), (.v 1)])] []], .ret (.k .non)]⟩
/-- 0=layout 1=wrong -/
def fn_must_layout (layout_wrong_ : Nat) : Fn := ⟨1, 2, [.asg (.nm 1) (.call layout_wrong_ [(.v 0)]), .ite (.prim .notN [(.v 1)]) [.raise "NoLayout" ["wrong"] [(.v 1)]] []]⟩
abbrev banks : List D := [.str "left", .str "middle", .str "right"]
/-- is_behind -/
theorem behind_ {fns : List Fn} {i : Nat} (hi : fns[i]? = some fn_is_behind) (W n : Nat) (a b : Str) (s : Sto) (ia ib : Int) (ha : pIndex banks (.str a) = some (.int ia)) (hb : pIndex banks (.str b) = some (.int ib)) :
    ans fns W (n + 1) i [.str a, .str b] s fun d s' => d = .bl (decide (ib ≤ ia)) ∧ s' = s := by
  refine ans_of hi rfl ?_
  simp [fn_is_behind, opB, pl1, lookM, fin1, slotOf, kindM, primF, derefD, ha, hb, pCmp]
/-- a sign of the labels; of the banks -/
def inL (x : Str) : Bool := !(Builtin.Str.occurrences "ABCDEFGHIJKLMNOPQRSTUVWXYZ*" x 0 (Str.length "ABCDEFGHIJKLMNOPQRSTUVWXYZ*") 1).isEmpty
def inBk (x : D) : Bool := banks.any fun z => D.eqv z x
def isKeyB : D → Bool
  | .tup [.str l, .str b] => (l.length == 1) && (inL l && inBk (.str b))
  | _ => false
def sOk : D → Bool
  | .str x => decide (x.length ≤ big)
  | .ref _ => false
  | .own _ => false
  | _ => true
def kOk : D → Bool
  | .tup ds => ds.all sOk
  | d => sOk d
theorem in_banks (b : Str) : pIn false (.str b) (.tup banks) = some (.bl (inBk (.str b))) := by
  have h : cmpOk (.str b) (.str b) = true := by simp [cmpOk, D.plain, D.py, PyData.depth]
  have h2 : D.plains banks = true := rfl
  simp only [pIn, D.seq?, h, h2, Bool.and_self, if_true, Bool.bne_false]
  rfl
theorem key_ {fns : List Fn} {i : Nat} (hi : fns[i]? = some fn_is_key) (W n : Nat) (d : D) (s : Sto) (hk : kOk d = true) : ans fns W (n + 1) i [d] s fun r s' => r = .bl (isKeyB d) ∧ s' = s := by
  refine ans_of hi rfl ?_
  cases d with
  | tup ds =>
    match ds, hk with
    | [x, y], hk =>
      simp only [kOk, List.all_cons, List.all_nil, Bool.and_true, Bool.and_eq_true] at hk
      obtain ⟨hx, hy⟩ := hk
      cases x with
      | str l =>
        simp only [sOk, decide_eq_true_eq] at hx
        have e1 := p_len_s l hx
        have e2 : primF .notin [.str l, .str "ABCDEFGHIJKLMNOPQRSTUVWXYZ*"] = some (.bl (!inL l)) := by
          show some (D.bl ((!(Builtin.Str.occurrences ("ABCDEFGHIJKLMNOPQRSTUVWXYZ*" : Str) l 0 (Str.length "ABCDEFGHIJKLMNOPQRSTUVWXYZ*") 1).isEmpty) != true)) = _
          rw [Bool.bne_true]
          rfl
        by_cases h1 : l.length = 1
        · cases h2 : inL l with
          | false =>
            have e4 : isKeyB (.tup [.str l, y]) = false := by cases y <;> simp [isKeyB, h2]
            simp [fn_is_key, isiD, e1, e2, h1, h2, e4]
          | true =>
            cases y with
            | str b =>
              have e3 : primF .in_ [.str b, .tup [.str "left", .str "middle", .str "right"]] = some (.bl (inBk (.str b))) := in_banks b
              simp [fn_is_key, isiD, e1, e2, e3, h1, h2, isKeyB]
            | ref => cases hy
            | own => cases hy
            | _ => simp [fn_is_key, isiD, e1, e2, h1, h2, isKeyB]
        · have h1' : ¬ ((l.length : Int) = 1) := by omega
          have e4 : isKeyB (.tup [.str l, y]) = false := by cases y <;> simp [isKeyB, h1]
          simp [fn_is_key, isiD, e1, h1, h1', e4]
      | ref => cases hx
      | own => cases hx
      | _ => simp [fn_is_key, opB, isiD, isKeyB]
    | [], hk => simp [fn_is_key, opB, isiD, isKeyB]
    | [x], hk => simp [fn_is_key, opB, isiD, isKeyB]
    | x :: y :: z :: r, hk =>
      have : ¬ ((r.length : Int) + 1 + 1 + 1 = 2) := by omega
      simp [fn_is_key, opB, isiD, isKeyB, this]
  | ref => cases hk
  | own => cases hk
  | _ => simp [fn_is_key, opB, isiD, isKeyB]
/-! ### may_stand -/
/-- what stands ahead bars this -/
def bars (l b : Str) : D → Bool
  | .tup [.str x, .str y] => (x == l) && ((y == b) || ((b == ("middle" : Str)) || (y == ("middle" : Str))))
  | _ => false
theorem c_str (a b : Str) : cmpOk (.str a) (.str b) = true := rfl
theorem in2 (b y : Str) : primF .in_ [.str "middle", .tup [.str b, .str y]] = some (.bl ((b == ("middle" : Str)) || (y == ("middle" : Str)))) := by
  show (if cmpOk (.str "middle") (.str "middle") && D.plains [.str b, .str y] then some (D.bl (([D.str b, D.str y].any fun z => D.eqv z (.str "middle")) != false)) else none) = _
  rw [if_pos (show (cmpOk (.str "middle") (.str "middle") && D.plains [.str b, .str y]) = true from rfl)]
  simp [eqv_s]
theorem stand_ {fns : List Fn} {i : Nat} (hi : fns[i]? = some fn_may_stand) (W n : Nat) (l b : Str) (ks : List D) (s : Sto) (hk : ∀ d ∈ ks, isKeyB d = true) : ans fns W (n + 1) i [.str l, .str b, .tup ks] s fun r s' => r = .bl (!ks.any (bars l b)) ∧ s' = s := by
  refine ans_of hi rfl ?_
  simp [fn_may_stand, seqItems]
  refine wp_for (fun i en s' => s' = s ∧ (∃ x y, en = [some (.str l), some (.str b), some (.tup ks), x, y]) ∧ (ks.take i).any (bars l b) = false) ⟨rfl, ⟨_, _, rfl⟩, rfl⟩ ?_ ?_
  · rintro i d en s' hd ⟨rfl, ⟨x, y, rfl⟩, ha⟩
    have hm := hk d (List.mem_of_getElem? hd)
    obtain ⟨x', y', rfl⟩ : ∃ x y, d = .tup [.str x, .str y] := by
      unfold isKeyB at hm
      split at hm
      · exact ⟨_, _, rfl⟩
      · cases hm
    have ht : (ks.take (i + 1)).any (bars l b) = ((ks.take i).any (bars l b) || bars l b (.tup [.str x', .str y'])) := by
      rw [List.take_succ, hd]
      simp
    have hb : bars l b (.tup [.str x', .str y']) = true → ks.any (bars l b) = true := fun h => List.any_eq_true.mpr ⟨_, List.mem_of_getElem? hd, h⟩
    have hT : bars l b (.tup [.str x', .str y']) = true → ∃ x, x ∈ ks ∧ bars l b x = true := fun h => ⟨_, List.mem_of_getElem? hd, h⟩
    have hF : bars l b (.tup [.str x', .str y']) = false → ∀ x, x ∈ ks.take (i + 1) → bars l b x = false := fun h => by
      rw [ha, h] at ht
      simpa [List.any_eq_false] using ht
    by_cases e1 : x' = l <;> by_cases e2 : y' = b <;> by_cases e3 : b = "middle" <;> by_cases e4 : y' = "middle" <;> simp [in2, D.hard, e1, e2, e3, e4] <;>
      first
        | simpa [e1, e2, e3, e4] using hT (by simp [bars, e1, e2, e3, e4])
        | simpa [e1, e2, e3, e4] using hF (by simp [bars, e1, e2, e3, e4])
        | (refine ⟨by decide, ?_⟩; simpa [e1, e2, e3, e4] using hT (by simp [bars, e1, e2, e3, e4]))
  · rintro en s' ⟨rfl, ⟨x, y, rfl⟩, ha⟩
    rw [List.take_length] at ha
    simp [ha]
/-! ### layout_wrong -/
def lab : D → Str
  | .tup (.str l :: _) => l
  | _ => Str.empty
def bank : D → Str
  | .tup [_, .str b] => b
  | _ => Str.empty
/-- the place of a bank -/
def ixB (b : Str) : Int := ((banks.map fun z => D.eqv z (.str b)).idxOf true : Nat)
theorem ix_bank (b : Str) (h : inBk (.str b) = true) : pIndex banks (.str b) = some (.int (ixB b)) := by
  have h1 : (cmpOk (.str b) (.str b) && D.plains banks) = true := rfl
  have h2 : (banks.map fun z => D.eqv z (.str b)).contains true = true := by
    simpa [inBk, List.any_eq_true] using h
  unfold pIndex
  rw [if_pos h1, if_pos h2]
  rfl
/-- what is wrong at the k-th key, behind keys that are let by -/
def wrongAt (ds : List D) (k : Nat) (d : D) : Option D :=
  if isKeyB d = false then some (.tup [.str "key", .int k])
  else if 0 < k ∧ ¬ (ixB (bank (ds.getD (k - 1) .non)) ≤ ixB (bank d)) then some (.tup [.str "bank", .int k])
  else if (ds.take k).any (bars (lab d) (bank d)) = true then some (.tup [.str "twice", .int k])
  else none
def firstWL (ds : List D) : Nat → List D → D
  | _, [] => .non
  | k, d :: r => match wrongAt ds k d with
    | some w => w
    | none => firstWL ds (k + 1) r
def wrongL : D → D
  | .tup ds => if 1 ≤ ds.length ∧ ds.length ≤ 24 then firstWL ds 0 ds else .tup [.str "layout"]
  | _ => .tup [.str "layout"]
def lOk : D → Bool
  | .tup ds => ds.all kOk
  | d => sOk d
theorem isKey_form {d : D} (h : isKeyB d = true) : ∃ l b, d = .tup [.str l, .str b] ∧ inBk (.str b) = true := by
  unfold isKeyB at h
  split at h
  · simp only [Bool.and_eq_true] at h
    exact ⟨_, _, rfl, h.2.2⟩
  · cases h
theorem key_eq {fns : List Fn} {i : Nat} (hi : fns[i]? = some fn_is_key) (W n : Nat) (d : D) (s : Sto) (hk : kOk d = true) : run fns W (n + 1) i [d] s = .ok (.bl (isKeyB d)) s := ans_eq (key_ hi W n d s hk)
theorem behind_eq {fns : List Fn} {i : Nat} (hi : fns[i]? = some fn_is_behind) (W n : Nat) (a b : Str) (s : Sto) (ha : inBk (.str a) = true) (hb : inBk (.str b) = true) : run fns W (n + 1) i [.str a, .str b] s = .ok (.bl (decide (ixB b ≤ ixB a))) s := ans_eq (behind_ hi W n a b s _ _ (ix_bank a ha) (ix_bank b hb))
theorem stand_eq {fns : List Fn} {i : Nat} (hi : fns[i]? = some fn_may_stand) (W n : Nat) (l b : Str) (ks : List D) (s : Sto) (hk : ∀ d ∈ ks, isKeyB d = true) : run fns W (n + 1) i [.str l, .str b, .tup ks] s = .ok (.bl (!ks.any (bars l b))) s := ans_eq (stand_ hi W n l b ks s hk)
theorem kOk_val {d : D} (h : kOk d = true) : val d = true := by cases d <;> first | rfl | cases h
theorem wrongAt_key {ds : List D} {k : Nat} {d : D} (h : wrongAt ds k d = none) : isKeyB d = true := by
  unfold wrongAt at h
  split at h
  · cases h
  · rename_i z; simpa using z
theorem keys_take {ds : List D} {i : Nat} (h : ∀ j d', j < i → ds[j]? = some d' → wrongAt ds j d' = none) : ∀ d ∈ ds.take i, isKeyB d = true := by
  intro d hd
  obtain ⟨j, hj, e⟩ := List.getElem_of_mem hd
  have hj2 : j < i ∧ j < ds.length := by rw [List.length_take] at hj; omega
  refine wrongAt_key (h j d hj2.1 ?_)
  rw [List.getElem_take] at e
  rw [List.getElem?_eq_getElem hj2.2, e]
theorem firstWL_eq (ds : List D) : ∀ (k : Nat) (r : List D), (match firstW (wrongAt ds) k r with | none => D.non | some x => x) = firstWL ds k r
  | _, [] => rfl
  | k, d :: r => by
    simp only [firstW, firstWL]
    cases h : wrongAt ds k d with
    | some w => rfl
    | none => exact firstWL_eq ds (k + 1) r
theorem wrong_hard (ds : List D) (k : Nat) : ∀ (d x : D), wrongAt ds k d = some x → ∃ s : Str, x = .tup [.str s, .int k] := by
  intro d x h
  unfold wrongAt at h
  split at h
  · cases h; exact ⟨_, rfl⟩
  · split at h
    · cases h; exact ⟨_, rfl⟩
    · split at h
      · cases h; exact ⟨_, rfl⟩
      · cases h
theorem layout_ {fns : List Fn} {o x1 x2 x3 : Nat} (go : fns[o]? = some (fn_layout_wrong x1 x2 x3)) (gk : fns[x1]? = some fn_is_key) (gb : fns[x2]? = some fn_is_behind) (gs : fns[x3]? = some fn_may_stand) (W n : Nat) (d : D) (s : Sto) (hd : lOk d = true) : ans fns W (n + 2) o [d] s fun r s' => r = wrongL d ∧ s' = s := by
  refine ans_of go rfl ?_
  cases d with
  | tup ds =>
    have hd : ∀ d ∈ ds, kOk d = true := by simpa [lOk] using hd
    simp [fn_layout_wrong, isiD]
    by_cases h1 : 1 ≤ ds.length
    · by_cases h2 : ds.length ≤ 24
      · have h1' : (1 : Int) ≤ ds.length := by omega
        have h2' : (ds.length : Int) ≤ 24 := by omega
        have hw : wrongL (.tup ds) = firstWL ds 0 ds := by simp [wrongL, h1, h2]
        rw [if_pos h1', if_neg (show ¬ (24 : Int) < ds.length by omega), hw]
        refine wp_first (wrongAt ds) (fun en s' => s' = s ∧ ∃ x y, en = [some (.tup ds), x, y]) ⟨rfl, _, _, rfl⟩ ?_ ?_
        · rintro i d en s' hi ⟨rfl, x, y, rfl⟩ hp
          have hm := List.mem_of_getElem? hi
          have hkd := hd d hm
          have hks := keys_take hp
          have hlt := get_lt hi
          have hv := kOk_val hkd
          cases hkey : isKeyB d with
          | false =>
            have hw : wrongAt ds i d = some (.tup [.str "key", .int i]) := by simp [wrongAt, hkey]
            simp [key_eq gk, hkd, hkey, hw, hv]
          | true =>
            obtain ⟨l, b, rfl, hb⟩ := isKey_form hkey
            have htk := slc_take_t ds i
            have hst := stand_eq gs W n l b (ds.take i) s' hks
            by_cases h0 : 0 < i
            · obtain ⟨j, rfl⟩ : ∃ j, i = j + 1 := ⟨i - 1, by omega⟩
              obtain ⟨p, hpj⟩ : ∃ p, ds[j]? = some p := ⟨ds[j], List.getElem?_eq_getElem (by omega)⟩
              have hpk : isKeyB p = true := hks p (by
                have : (ds.take (j + 1))[j]? = some p := by rw [List.getElem?_take]; simp [hpj]
                exact List.mem_of_getElem? this)
              obtain ⟨l', b', rfl, hb'⟩ := isKey_form hpk
              have hid : L2.atI ds (((j + 1 : Nat) : Int) - 1) = some (.tup [.str l', .str b']) := by
                have : (((j + 1 : Nat) : Int) - 1) = (j : Int) := by omega
                rw [this]; exact atI_nat hpj
              have hbe := behind_eq gb W n b b' s' hb hb'
              have hw : wrongAt ds (j + 1) (.tup [.str l, .str b]) = if ixB b' ≤ ixB b then (if (ds.take (j + 1)).any (bars l b) = true then some (.tup [.str "twice", .int ((j + 1 : Nat) : Int)]) else none) else some (.tup [.str "bank", .int ((j + 1 : Nat) : Int)]) := by
                have e1 : bank (ds.getD (j + 1 - 1) .non) = b' := by simp [List.getD, hpj, bank]
                have e2 : bank (.tup [.str l, .str b]) = b := rfl
                have e3 : lab (.tup [.str l, .str b]) = l := rfl
                simp only [wrongAt, hkey, e1, e2, e3]
                by_cases hle : ixB b' ≤ ixB b
                · simp [hle]
                · simp [hle]
              generalize hi' : ((j + 1 : Nat) : Int) = ii at *
              have hg : 0 < ii := by omega
              by_cases hle : ixB b' ≤ ixB b
              · cases hba : (ds.take (j + 1)).any (bars l b) with
                | true => simp [key_eq gk, hkd, hkey, hw, hid, hbe, hst, htk, hle, hba, hg, at0, at1]
                | false => simp [key_eq gk, hkd, hkey, hw, hid, hbe, hst, htk, hle, hba, hg, at0, at1]
              · simp [key_eq gk, hkd, hkey, hw, hid, hbe, hst, htk, hle, hg, at0, at1]
            · have h0 : i = 0 := by omega
              subst h0
              have hw : wrongAt ds 0 (.tup [.str l, .str b]) = none := by simp [wrongAt, hkey]
              have hst : run fns W (n + 1) x3 [.str l, .str b, .tup []] s' = .ok (.bl true) s' := stand_eq gs W n l b [] s' (by simp)
              simp at htk
              simp [key_eq gk, hkd, hkey, hw, hst, htk, at0, at1]
        · rintro en s' ⟨rfl, x, y, rfl⟩
          have := firstWL_eq ds 0 ds
          cases h : firstW (wrongAt ds) 0 ds with
          | none => rw [h] at this; simp [← this]
          | some r => rw [h] at this; simp [← this]
      · have h2' : ¬ (ds.length : Int) ≤ 24 := by omega
        have h1' : (1 : Int) ≤ ds.length := by omega
        simp [h1', h2', wrongL, h2]
    · have h1' : ¬ (1 : Int) ≤ ds.length := by omega
      simp [h1', wrongL, h1]
  | ref => cases hd
  | own => cases hd
  | _ => simp [fn_layout_wrong, isiD, wrongL]
theorem lay_eq {fns : List Fn} {o x1 x2 x3 : Nat} (go : fns[o]? = some (fn_layout_wrong x1 x2 x3)) (gk : fns[x1]? = some fn_is_key) (gb : fns[x2]? = some fn_is_behind) (gs : fns[x3]? = some fn_may_stand) (W n : Nat) (d : D) (s : Sto) (hd : lOk d = true) : run fns W (n + 2) o [d] s = .ok (wrongL d) s := ans_eq (layout_ go gk gb gs W n d s hd)
theorem lOk_val {d : D} (h : lOk d = true) : val d = true := by cases d <;> first | rfl | cases h
/-- layout_wrong and what it calls stand at these places -/
def LayF (fns : List Fn) (o : Nat) : Prop := ∃ x1 x2 x3, fns[o]? = some (fn_layout_wrong x1 x2 x3) ∧ fns[x1]? = some fn_is_key ∧ fns[x2]? = some fn_is_behind ∧ fns[x3]? = some fn_may_stand
def MustF (fns : List Fn) (m : Nat) : Prop := ∃ o, fns[m]? = some (fn_must_layout o) ∧ LayF fns o
theorem LayF.eq {fns : List Fn} {o : Nat} (h : LayF fns o) (W n : Nat) (d : D) (s : Sto) (hd : lOk d = true) : run fns W (n + 2) o [d] s = .ok (wrongL d) s := by
  obtain ⟨x1, x2, x3, g1, g2, g3, g4⟩ := h
  exact lay_eq g1 g2 g3 g4 W n d s hd
theorem MustF.ok {fns : List Fn} {m : Nat} (g : MustF fns m) (W n : Nat) (d : D) (s : Sto) (hd : lOk d = true) (h : wrongL d = .non) : run fns W (n + 3) m [d] s = .ok .non s := by
  obtain ⟨o, gm, go⟩ := g
  refine ans_eq (ans_of gm rfl ?_)
  simp [fn_must_layout, initE, lOk_val hd, go.eq W n d s hd, h, primF]
abbrev noLayout (w : D) : Ex := ⟨"NoLayout", [("wrong", w)]⟩
theorem MustF.exc {fns : List Fn} {m : Nat} (g : MustF fns m) (W n : Nat) (d w : D) (s : Sto) (hd : lOk d = true) (h : wrongL d = w) (hw : val w = true) (hn : w ≠ .non) : run fns W (n + 3) m [d] s = .exc (noLayout w) s := by
  obtain ⟨o, gm, go⟩ := g
  refine run_exc gm rfl ?_
  refine wx_then ?_
  simp [fn_must_layout, initE, lOk_val hd, go.eq W n d s hd, h]
  refine wx_first (wx_then ?_)
  have e1 : primF .notN [w] = some (.bl true) := by
    cases w <;> first | rfl | exact absurd rfl hn
  simp [e1, hw]
  refine wx_first (wx_then ?_)
  simp [hw]
  refine wx_raise rfl ⟨?_, rfl⟩
  simp [hw]
end Mi
end
section
set_option Elab.async false
set_option maxRecDepth 100000
set_option linter.all false
namespace Mi
open PySem
theorem le_big {n : Nat} (h : n ≤ 16777216) : n ≤ big := h
theorem p_addL (x y : D) (a b : List D) (hx : x = .own a ∨ x = .frz a) (hy : y = .own b ∨ y = .frz b) (h : a.length + b.length ≤ big) : primF .add [x, y] = some (.own (a ++ b)) := by
  rcases hx with rfl | rfl <;> rcases hy with rfl | rfl <;> (show (if _ then _ else _) = _; rw [if_pos h])
theorem p_addO (a b : List D) (h : a.length + b.length ≤ big) : primF .add [.own a, .own b] = some (.own (a ++ b)) := p_addL _ _ a b (.inl rfl) (.inl rfl) h
theorem cut_mid (ds : List D) (i j : Nat) (h : i ≤ j) (hj : j ≤ ds.length) : cutD ds (some (i : Int)) (some (j : Int)) = (ds.drop i).take (j - i) := by
  simp only [cutD, sIx_nat]
  have e1 : min i ds.length = i := by omega
  have e2 : min j ds.length = j := by omega
  rw [e1, e2]
theorem slc_mid_o (ds : List D) (i j : Nat) (h : i ≤ j) (hj : j ≤ ds.length) : primF (.slc true true) [.own ds, .int i, .int j] = some (.own ((ds.drop i).take (j - i))) := by
  rw [← cut_mid ds i j h hj]; rfl
theorem own_eq_nil (xs : List D) (h : D.plains xs = true) : primF .eq [.own xs, .own []] = some (.bl xs.isEmpty) := by
  have : cmpOk (.own xs) (.own []) = true := by
    simp [cmpOk, D.plain, D.plains, h, D.py, PyData.depth, D.pys, PyData.depthAll]
  rw [p_eq _ _ this]
  cases xs with
  | nil => simp [D.eqv, D.py, D.pys, PyData.eqv, PyData.eqvAll]
  | cons x xs => simp [D.eqv, D.py, D.pys, PyData.eqv, PyData.eqvAll]
theorem own_ne_nil (xs : List D) (h : D.plains xs = true) : primF .ne [.own xs, .own []] = some (.bl (!xs.isEmpty)) := by
  have : cmpOk (.own xs) (.own []) = true := by
    simp [cmpOk, D.plain, D.plains, h, D.py, PyData.depth, D.pys, PyData.depthAll]
  rw [p_ne _ _ this]
  cases xs with
  | nil => simp [D.eqv, D.py, D.pys, PyData.eqv, PyData.eqvAll]
  | cons x xs => simp [D.eqv, D.py, D.pys, PyData.eqv, PyData.eqvAll]
@[simp] theorem p_tuple_o (ds) : primF .tuple [.own ds] = some (.tup ds) := id rfl
@[simp] theorem p_tuple_f (ds) : primF .tuple [.frz ds] = some (.tup ds) := id rfl
@[simp] theorem p_list_t (ds) : primF .list [.tup ds] = some (.own ds) := id rfl
@[simp] theorem p_list_f (ds) : primF .list [.frz ds] = some (.own ds) := id rfl
@[simp] theorem p_list_o (ds) : primF .list [.own ds] = some (.own ds) := id rfl
def signsA : List D := charsD "STKPWHR*AOEUZF"
def rotA (g : Nat) : List D := signsA.drop g ++ signsA.take g
def pairUp (b : Str) (xs : List D) : List D := xs.map fun d => .tup [d, .str b]
def fullA (g : Nat) : List D := pairUp "left" ((rotA g).take 6) ++ (pairUp "middle" (((rotA g).drop 6).take 3) ++ pairUp "right" ((rotA g).drop 9 ++ (rotA g).take 4))
def fLayoutA (take someOf : Nat) : Fn := ⟨1, 8, [.asg (.nm 1) (.prim .list [(.k (.str "STKPWHR*AOEUZF"))]), .asg (.nm 2) (.call take [(.rf 0), (.k (.int 14))]), .asg (.nm 1) (.prim .add [(.prim (.slc true false) [(.v 1), (.v 2)]), (.prim (.slc false true) [(.v 1), (.v 2)])]), .asg (.nm 3) (.call someOf [(.rf 0), (.prim (.slc false true) [(.v 1), (.k (.int 6))]), (.k (.int 3))]), .asg (.nm 4) (.call someOf [(.rf 0), (.prim (.slc true true) [(.v 1), (.k (.int 6)), (.k (.int 9))]), (.k (.int 2))]), .asg (.nm 5) (.call someOf [(.rf 0), (.prim .add [(.prim (.slc true false) [(.v 1), (.k (.int 9))]), (.prim (.slc false true) [(.v 1), (.k (.int 4))])]), (.k (.int 2))]), .ite (.prim .eq [(.prim .add [(.prim .add [(.v 3), (.v 4)]), (.v 5)]), (.lst [])]) [.asg (.nm 3) (.lst [(.prim .idx [(.v 1), (.k (.int 0))])])] [], .asg (.nm 6) (.prim .add [(.lc [7] (.nm 7) (.seq (.v 3)) [] (.tup [(.v 7), (.k (.str "left"))])), (.lc [7] (.nm 7) (.seq (.v 4)) [] (.tup [(.v 7), (.k (.str "middle"))]))]), .ret (.prim .tuple [(.prim .add [(.v 6), (.lc [7] (.nm 7) (.seq (.v 5)) [] (.tup [(.v 7), (.k (.str "right"))]))])])]⟩
theorem signsA_len : signsA.length = 14 := by decide +kernel
theorem rotA_len (g : Nat) (h : g ≤ 14) : (rotA g).length = 14 := by
  simp [rotA, signsA_len]; omega
theorem rotA_str (g : Nat) : ∀ d ∈ rotA g, ∃ x, d = .str x := by
  intro d hd
  have : d ∈ signsA := by
    rcases List.mem_append.mp hd with h | h
    · exact List.mem_of_mem_drop h
    · exact List.mem_of_mem_take h
  obtain ⟨c, _, rfl⟩ := List.mem_map.mp this
  exact ⟨_, rfl⟩
theorem filter_true (xs : List D) : xs.filter (fun _ => true) = xs := List.filter_eq_self.mpr fun _ _ => rfl
theorem layoutA_ {fns : List Fn} {g h i j : Nat} (hg : fns[g]? = some (fLayoutA i h)) (hh : fns[h]? = some (fSomeOf i)) (hi : fns[i]? = some (fTake j)) (hj : fns[j]? = some fMixed) (W n p N : Nat) (s : Sto) (hs : Pu p N s) (hN : N < 2 ^ 89) :
    ∃ ds s' r, run fns W (n + 4) g [.ref p] s = .ok (.tup ds) s' ∧ r < 14 ∧ ds.Sublist (fullA r) ∧ ds ≠ [] ∧ St p (N + 30) s s' := by
  have key : ans fns W (n + 4) g [.ref p] s fun d s' => ∃ ds, d = .tup ds ∧ ∃ r, r < 14 ∧ ds.Sublist (fullA r) ∧ ds ≠ [] ∧ St p (N + 30) s s' := by
    refine ans_of hg rfl ?_
    have e1 : primF .list [.str "STKPWHR*AOEUZF"] = some (.own signsA) := by rfl
    obtain ⟨z, s1, e2, z0, z1, st1⟩ := take_ hi hj W (n + 1) p N 14 s hs (by omega) (by decide) (by decide)
    obtain ⟨r, rfl⟩ := Int.eq_ofNat_of_zero_le z0
    have hr : r < 14 := by omega
    have e3 := slc_drop_o signsA r
    have e4 := slc_take_o signsA r
    have e5 := p_addO (signsA.drop r) (signsA.take r) (le_big (by simp [signsA_len]; omega))
    rw [show signsA.drop r ++ signsA.take r = rotA r from rfl] at e5
    have hl := rotA_len r (by omega)
    have hst := rotA_str r
    have e6 : primF (.slc false true) [.own (rotA r), .int 6] = some (.own ((rotA r).take 6)) := slc_take_o (rotA r) 6
    have e7 : primF (.slc true true) [.own (rotA r), .int 6, .int 9] = some (.own (((rotA r).drop 6).take 3)) := slc_mid_o (rotA r) 6 9 (by decide) (by omega)
    have e8 : primF (.slc true false) [.own (rotA r), .int 9] = some (.own ((rotA r).drop 9)) := slc_drop_o (rotA r) 9
    have e9 : primF (.slc false true) [.own (rotA r), .int 4] = some (.own ((rotA r).take 4)) := slc_take_o (rotA r) 4
    have e10 := p_addO ((rotA r).drop 9) ((rotA r).take 4) (le_big (by simp [hl]))
    have hsv : ∀ ys : List D, (∀ x ∈ ys, x ∈ rotA r) → ∀ x ∈ ys, val x = true := fun ys h x hx => by
      obtain ⟨y, rfl⟩ := hst x (h x hx); simp
    obtain ⟨A, s2, e11, sub1, st2⟩ := someOf_ hh hi hj W n p (N + 1) ((rotA r).take 6) 3 s1 st1.pu (by simp [hl]; omega) (by simp [hl]) (by decide) (by decide) (hsv _ fun x hx => List.mem_of_mem_take hx)
    obtain ⟨B, s3, e12, sub2, st3⟩ := someOf_ hh hi hj W n p _ (((rotA r).drop 6).take 3) 2 s2 st2.pu (by simp [hl]; omega) (by simp [hl]) (by decide) (by decide) (hsv _ fun x hx => List.mem_of_mem_drop (List.mem_of_mem_take hx))
    obtain ⟨C, s4, e13, sub3, st4⟩ := someOf_ hh hi hj W n p _ ((rotA r).drop 9 ++ (rotA r).take 4) 2 s3 st3.pu (by simp [hl]; omega) (by simp [hl]) (by decide) (by decide) (hsv _ fun x hx => by
      rcases List.mem_append.mp hx with h | h
      · exact List.mem_of_mem_drop h
      · exact List.mem_of_mem_take h)
    have st : St p (N + 30) s s4 := (((st1.trans st2).trans st3).trans st4).mono (by simp [hl])
    have l1 := sub1.length_le
    have l2 := sub2.length_le
    have l3 := sub3.length_le
    simp [hl] at l1 l2 l3
    have hb : big = 16777216 := rfl
    have strA : ∀ x ∈ A, ∃ y, x = .str y := fun x hx => hst x (List.mem_of_mem_take (sub1.subset hx))
    have strB : ∀ x ∈ B, ∃ y, x = .str y := fun x hx => hst x (List.mem_of_mem_drop (List.mem_of_mem_take (sub2.subset hx)))
    have strC : ∀ x ∈ C, ∃ y, x = .str y := fun x hx => hst x (by
      rcases List.mem_append.mp (sub3.subset hx) with h | h
      · exact List.mem_of_mem_drop h
      · exact List.mem_of_mem_take h)
    have e14 := p_addO A B (le_big (by omega))
    have e15 := p_addO (A ++ B) C (le_big (by simp; omega))
    have e16 := own_eq_nil (A ++ B ++ C) (plains_of fun d hd => by
      have : ∃ y, d = .str y := by
        rcases List.mem_append.mp hd with h | h
        · rcases List.mem_append.mp h with h | h
          · exact strA d h
          · exact strB d h
        · exact strC d h
      obtain ⟨y, rfl⟩ := this
      rfl)
    have e0 : ∃ x, (rotA r)[0]? = some x ∧ x ∈ (rotA r).take 6 := by
      cases hR : rotA r with
      | nil => rw [hR] at hl; cases hl
      | cons x t => exact ⟨x, rfl, by simp⟩
    obtain ⟨x0, ex0, hx0⟩ := e0
    have e17 : L2.atI (rotA r) 0 = some x0 := atI_nat (i := 0) ex0
    have rest : ∀ (X : List D) (u1 u2 : Option D), X.Sublist ((rotA r).take 6) → X ++ B ++ C ≠ [] → wp (exSs (run fns W (n + 3)) W [.asg (.nm 6) (.prim .add [(.lc [7] (.nm 7) (.seq (.v 3)) [] (.tup [(.v 7), (.k (.str "left"))])), (.lc [7] (.nm 7) (.seq (.v 4)) [] (.tup [(.v 7), (.k (.str "middle"))]))]), .ret (.prim .tuple [(.prim .add [(.v 6), (.lc [7] (.nm 7) (.seq (.v 5)) [] (.tup [(.v 7), (.k (.str "right"))]))])])])
        [some (.ref p), some (.own (rotA r)), some (.int r), some (.own X), some (.own B), some (.own C), u1, u2] s4 fun fl _ s' => endQ (fun d s' => ∃ ds, d = .tup ds ∧ ∃ r, r < 14 ∧ ds.Sublist (fullA r) ∧ ds ≠ [] ∧ St p (N + 30) s s') fl s' := by
      intro X u1 u2 hX hne
      have strX : ∀ x ∈ X, ∃ y, x = .str y := fun x hx => hst x (List.mem_of_mem_take (hX.subset hx))
      have lX := hX.length_le
      simp [hl] at lX
      simp
      refine wp_lcP (fun _ => true) (fun d => .tup [d, .str "left"]) (by omega) ?_ ?_
      · intro d hd
        obtain ⟨y, rfl⟩ := strX d hd
        simp
      simp [filter_true]
      refine wp_lcP (fun _ => true) (fun d => .tup [d, .str "middle"]) (by omega) ?_ ?_
      · intro d hd
        obtain ⟨y, rfl⟩ := strB d hd
        simp
      have f1 := p_addO (pairUp "left" X) (pairUp "middle" B) (le_big (by simp [pairUp]; omega))
      simp only [pairUp] at f1
      simp [filter_true, f1]
      refine wp_lcP (fun _ => true) (fun d => .tup [d, .str "right"]) (by omega) ?_ ?_
      · intro d hd
        obtain ⟨y, rfl⟩ := strC d hd
        simp
      have f2 := p_addO (pairUp "left" X ++ pairUp "middle" B) (pairUp "right" C) (le_big (by simp [pairUp]; omega))
      simp only [pairUp] at f2
      simp [filter_true, f2]
      refine ⟨r, hr, ?_, ?_, st⟩
      · exact List.Sublist.append (hX.map _) (List.Sublist.append (sub2.map _) (sub3.map _))
      · intro hx hy hz
        exact hne (by rw [hx, hy, hz]; rfl)
    have e1' : primF .list [.str (Str.ofString "STKPWHR*AOEUZF")] = some (.own signsA) := e1
    show wp (exSs _ W ((fLayoutA i h).body.take 7 ++ (fLayoutA i h).body.drop 7)) _ _ _
    rw [q_app]
    generalize hT : nextQ (run fns W (n + 3)) W ((fLayoutA i h).body.drop 7) _ = T
    cases hE : (A ++ B ++ C).isEmpty with
    | true =>
      have hABC : A = [] ∧ B = [] ∧ C = [] := by simpa [List.isEmpty_iff] using hE
      have v0 : val x0 = true := hsv ((rotA r).take 6) (fun x hx => List.mem_of_mem_take hx) x0 hx0
      simp [fLayoutA, e1', e2, e3, e4, e5, e6, e7, e8, e9, e10, e11, e12, e13, e14, e15, e16, e17, hE, v0, -List.append_assoc]
      rw [← hT]
      exact rest [x0] none none (List.singleton_sublist.mpr hx0) (by simp)
    | false =>
      simp [fLayoutA, e1', e2, e3, e4, e5, e6, e7, e8, e9, e10, e11, e12, e13, e14, e15, e16, e17, hE, -List.append_assoc]
      rw [← hT]
      exact rest A none none sub1 (by intro h; rw [h] at hE; cases hE)
  obtain ⟨d, s', e, ds, rfl, r, h1, h2, h3, h4⟩ := ans_run key
  exact ⟨ds, s', r, e, h1, h2, h3, h4⟩
end Mi
end
section
set_option Elab.async false
set_option maxRecDepth 100000
set_option linter.all false
namespace Mi
open PySem
/-! ### lists of ints -/
theorem allI_ints (ns : List Int) : allI D.int? (ns.map D.int) = some ns := by
  induction ns with
  | nil => rfl
  | cons n ns ih => simp only [List.map_cons, allI, ih, D.int?]
theorem erase_ix {α : Type} [BEq α] [LawfulBEq α] (l : List α) (a : α) : l.eraseIdx (l.idxOf a) = l.erase a := by
  induction l with
  | nil => rfl
  | cons x l ih =>
    by_cases h : x = a
    · subst h; simp
    · have : (x == a) = false := by simpa using h
      simp [List.idxOf_cons, List.erase_cons, this, ih]
theorem map_eraseIdx {α β : Type} (f : α → β) : ∀ (l : List α) (i : Nat), (l.map f).eraseIdx i = (l.eraseIdx i).map f
  | [], _ => rfl
  | x :: l, 0 => rfl
  | x :: l, i + 1 => by simp [List.eraseIdx_cons_succ, map_eraseIdx f l i]
theorem mu_rem (ns : List Int) (k : Int) (h : ns.contains k = true) : muF .remove (ns.map D.int) [.int k] = some ((ns.erase k).map D.int, .non) := by
  have hm : k ∈ ns := by simpa using h
  simp only [muF, muG, D.int?, Option.bind_some, allI_ints]
  rw [if_pos hm, map_eraseIdx, erase_ix]
theorem mu_app (xs : List D) (d : D) (h : xs.length < big) : muF .append xs [d] = some (xs ++ [d], .non) := by
  show (if xs.length < big then some (xs ++ [d], D.non) else none) = _
  rw [if_pos h]
theorem plains_ints (ns : List Int) : D.plains (ns.map D.int) = true := plains_of fun d hd => by
  obtain ⟨n, _, rfl⟩ := List.mem_map.mp hd; rfl
theorem any_ints (ns : List Int) (k : Int) : ((ns.map D.int).any fun z => D.eqv z (.int k)) = ns.contains k := by
  rw [Bool.eq_iff_iff]
  simp only [List.any_map, List.any_eq_true, Function.comp, v_int, beq_iff_eq, List.contains_eq_mem, decide_eq_true_eq]
  exact ⟨fun ⟨x, h, e⟩ => e ▸ h, fun h => ⟨k, h, rfl⟩⟩
theorem in_ints (d : D) (ns : List Int) (k : Int) (h : d.seq? = some (ns.map D.int)) : primF .in_ [.int k, d] = some (.bl (ns.contains k)) := by
  show pIn false (.int k) d = _
  cases d <;> first | (cases h; done) | skip
  all_goals (simp only [D.seq?, Option.some.injEq] at h; subst h; simp only [pIn, D.seq?, cmpOk, D.plain, D.py, PyData.depth, plains_ints, any_ints]; simp)
theorem in_own (ns : List Int) (k : Int) : primF .in_ [.int k, .own (ns.map D.int)] = some (.bl (ns.contains k)) := in_ints _ _ _ rfl
theorem in_frz (ns : List Int) (k : Int) : primF .in_ [.int k, .frz (ns.map D.int)] = some (.bl (ns.contains k)) := in_ints _ _ _ rfl
theorem eq_bb (a b : Bool) : primF .eq [.bl a, .bl b] = some (.bl (a == b)) := by
  cases a <;> cases b <;> kernel_rfl
theorem ne_bb (a b : Bool) : primF .ne [.bl a, .bl b] = some (.bl (a != b)) := by
  cases a <;> cases b <;> kernel_rfl
theorem fit_nat {a : Nat} (h : a < 1000000) : fit62 (a : Int) = true := by
  simp only [fit62, decide_eq_true_eq]; omega
theorem rngD_get (lo : Int) (n i : Nat) : (rngD lo n)[i]? = if i < n then some (.int (lo + i)) else none := by
  unfold rngD
  by_cases h : i < n
  · simp [h]
  · simp [h]
theorem rngD_len (lo : Int) (n : Nat) : (rngD lo n).length = n := by simp [rngD]
theorem idx_f {ds : List D} {i : Nat} {d : D} (h : ds[i]? = some d) : primF .idx [.frz ds, .int i] = some d := by
  rw [p_idx_f]; exact atI_nat h
theorem idx_o {ds : List D} {i : Nat} {d : D} (h : ds[i]? = some d) : primF .idx [.own ds, .int i] = some d := by
  rw [p_idx_o]; exact atI_nat h
theorem idx_t {ds : List D} {i : Nat} {d : D} (h : ds[i]? = some d) : primF .idx [.tup ds, .int i] = some d := by
  rw [p_idx_t]; exact atI_nat h
theorem rngO_i (i : Int) (h : fit62 i = true) : rngO (.int i) = some (rngD 0 i.toNat) := by
  simp only [rngO, h, if_true]
theorem rngO2_i (l h : Int) (h1 : fit62 l = true) (h2 : fit62 h = true) : rngO2 (.int l) (.int h) = some (rngD l (h - l).toNat) := by
  simp only [rngO2, h1, h2, Bool.and_self, if_true]
theorem fit_int {a : Int} (h : -1000000 ≤ a) (h2 : a ≤ 1000000) : fit62 a = true := by
  simp only [fit62, decide_eq_true_eq]; omega
@[simp] theorem z_5 : 5 ≤ big := by decide
@[simp] theorem z_6 : 6 ≤ big := by decide
@[simp] theorem z_7 : 7 ≤ big := by decide
@[simp] theorem z_8 : 8 ≤ big := by decide
@[simp] theorem z_9 : 9 ≤ big := by decide
@[simp] theorem z_10 : 10 ≤ big := by decide
@[simp] theorem z_11 : 11 ≤ big := by decide
@[simp] theorem z_12 : 12 ≤ big := by decide
@[simp] theorem z_13 : 13 ≤ big := by decide
@[simp] theorem z_14 : 14 ≤ big := by decide
@[simp] theorem z_15 : 15 ≤ big := by decide
@[simp] theorem z_16 : 16 ≤ big := by decide
@[simp] theorem z_17 : 17 ≤ big := by decide
@[simp] theorem z_18 : 18 ≤ big := by decide
@[simp] theorem z_19 : 19 ≤ big := by decide
@[simp] theorem z_20 : 20 ≤ big := by decide
@[simp] theorem z_21 : 21 ≤ big := by decide
@[simp] theorem z_22 : 22 ≤ big := by decide
@[simp] theorem z_23 : 23 ≤ big := by decide
@[simp] theorem z_24 : 24 ≤ big := by decide
@[simp] theorem z_25 : 25 ≤ big := by decide
/-! ### ways on that simp does not look into -/
theorem wp_forJ {bd : D → M Unit} {body : M Flow} {Q : Flow → Env → Sto → Prop} {ds : List D} {en : Env} {s : Sto} (I : Nat → Env → Sto → Prop) (h0 : I 0 en s)
    (step : ∀ i d en s (J : Env → Sto → Prop), ds[i]? = some d → I i en s → (∀ en s, I (i + 1) en s → J en s) → wp (bd d) en s fun _ en s => wp body en s (turnQ J Q))
    (fin : ∀ en s, I ds.length en s → Q .next en s) : wp (forL bd body ds) en s Q :=
  wp_for I h0 (fun i d en s h1 h2 => step i d en s _ h1 h2 fun _ _ h => h) fin
theorem ans_ofJ {fns : List Fn} {W n f : Nat} {ds : List D} {s : Sto} {Q : D → Sto → Prop} {fn : Fn} (h : fns[f]? = some fn) (hl : ds.length = fn.np)
    (w : ∀ K : D → Sto → Prop, (∀ d s, Q d s → K d s) → wp (exSs (run fns W n) W fn.body) (initE fn.nl ds) s fun fl _ s' => endQ K fl s') : ans fns W (n + 1) f ds s Q :=
  ans_of h hl (w _ fun _ _ h => h)
/-- a call's answer, told by what holds of it -/
theorem run_ofJ {fns : List Fn} {W n f : Nat} {ds : List D} {s : Sto} (Q : D → Sto → Prop) {fn : Fn} (h : fns[f]? = some fn) (hl : ds.length = fn.np)
    (w : ∀ K : D → Sto → Prop, (∀ d s, Q d s → K d s) → wp (exSs (run fns W n) W fn.body) (initE fn.nl ds) s fun fl _ s' => endQ K fl s') : ∃ d s', run fns W (n + 1) f ds s = .ok d s' ∧ Q d s' :=
  ans_run (ans_ofJ h hl w)
theorem Pu.app {p N : Nat} {s : Sto} (h : Pu p N s) (t : Sto) : Pu p N (s ++ t) := by
  have hl := h.lt
  obtain ⟨v, hv, h⟩ := h
  exact ⟨v, by rw [List.getElem?_append_left hl]; exact hv, h⟩
theorem min_cells (n : Nat) (c : Int) (hc : 0 ≤ c) : ∃ t : Int, primF .min2 [.int (n : Int), .int c] = some (.int t) ∧ 0 ≤ t ∧ t ≤ c := by
  by_cases h : c < n
  · exact ⟨c, by show some (D.int (if c < n then c else n)) = _; rw [if_pos h], hc, Int.le_refl _⟩
  · exact ⟨n, by show some (D.int (if c < n then c else n)) = _; rw [if_neg h], by omega, by omega⟩
theorem ans_eq' {fns : List Fn} {W n f : Nat} {ds : List D} {s s2 : Sto} {d : D} (h : ans fns W n f ds s fun r s' => r = d ∧ s' = s2) : run fns W n f ds s = .ok d s2 := by
  obtain ⟨r, s', e, rfl, rfl⟩ := ans_run h
  exact e
/-! ### a value beside itself -/
mutual
theorem py_plain : ∀ d : D, d.py.plain = true
  | .non => rfl
  | .bl _ => rfl
  | .int _ => rfl
  | .str _ => rfl
  | .tup ds => by simp only [D.py, PyData.plain]; exact pys_plain ds
  | .frz ds => by simp only [D.py, PyData.plain]; exact pys_plain ds
  | .own ds => by simp only [D.py, PyData.plain]; exact pys_plain ds
  | .ref _ => rfl
theorem pys_plain : ∀ ds : List D, PyData.plainAll (D.pys ds) = true
  | [] => rfl
  | d :: ds => by simp only [D.pys, PyData.plainAll, Bool.and_eq_true]; exact ⟨py_plain d, pys_plain ds⟩
end
theorem eqv_same {x y : D} (e : x.py = y.py) : D.eqv x y = true := by
  unfold D.eqv
  rw [e]
  exact PySem.SeqAt.eqv_refl_plain _ (py_plain y)
theorem eq_same {x y : D} (hx : D.plain x = true) (hy : D.plain y = true) (hd : x.py.depth ≤ 60) (e : x.py = y.py) : primF .eq [x, y] = some (.bl true) := by
  rw [p_eq _ _ (by simp only [cmpOk, hx, hy, Bool.and_self, Bool.true_and, decide_eq_true_eq]; exact Nat.le_trans (Nat.min_le_left _ _) hd), eqv_same e]
theorem ne_same {x y : D} (hx : D.plain x = true) (hy : D.plain y = true) (hd : x.py.depth ≤ 60) (e : x.py = y.py) : primF .ne [x, y] = some (.bl false) := by
  rw [p_ne _ _ (by simp only [cmpOk, hx, hy, Bool.and_self, Bool.true_and, decide_eq_true_eq]; exact Nat.le_trans (Nat.min_le_left _ _) hd), eqv_same e]; rfl
theorem own_depth {n : Nat} {ds : List D} (h : ∀ d ∈ ds, fine n d = true) : (D.own ds).py.depth ≤ n + 1 := by
  simp only [D.py, PyData.depth]
  have := pys_depth (n := n) (ds := ds) fun x hx => fine_depth (h x hx)
  omega
theorem own_plain {n : Nat} {ds : List D} (h : ∀ d ∈ ds, fine n d = true) : D.plain (.own ds) = true := plains_of fun d hd => fine_plain (h d hd)
/-! ### written texts -/
theorem map_inj_of {α β : Type} {f : α → β} (hf : ∀ x y, f x = f y → x = y) : ∀ {a b : List α}, a.map f = b.map f → a = b
  | [], [], _ => rfl
  | [], _ :: _, h => by cases h
  | _ :: _, [], h => by cases h
  | x :: a, y :: b, h => by
    simp only [List.map_cons, List.cons.injEq] at h
    rw [hf _ _ h.1, map_inj_of hf h.2]
theorem ofS_inj {a b : String} (h : Str.ofString a = Str.ofString b) : a = b := by
  have h1 := PyProof.Rows.signs_ofString a
  have h2 := PyProof.Rows.signs_ofString b
  rw [h, h2] at h1
  have h3 : b.toList = a.toList := map_inj_of (fun x y e => Char.toNat_inj.mp e) h1
  exact (String.toList_inj.mp h3).symm
@[simp] theorem ofS_eq (a b : String) : (Str.ofString a = Str.ofString b) = (a = b) := propext ⟨ofS_inj, fun h => by rw [h]⟩
@[simp] theorem ofS_beq (a b : String) : (Str.ofString a == Str.ofString b) = (a == b) := by
  rw [Bool.eq_iff_iff, beq_iff_eq, beq_iff_eq, ofS_eq]
@[simp] theorem kind_o0 (ds) : kindM (.m 0) (.own ds) = true := id rfl
@[simp] theorem kind_o2 (ds) : kindM (.m 2) (.own ds) = true := id rfl
@[simp] theorem kind_f0 (ds) : kindM (.m 0) (.frz ds) = true := id rfl
@[simp] theorem kind_f2 (ds) : kindM (.m 2) (.frz ds) = true := id rfl
/-- a name's value, used: what is told of it -/
def used (d0 d : D) : Prop := (d0 = d ∧ val d = true) ∨ ∃ ds, d0 = .own ds ∧ d = .frz ds
theorem used_val {d : D} (h : val d = true) : used d d := .inl ⟨rfl, h⟩
theorem used_own (ds : List D) : used (.own ds) (.frz ds) := .inr ⟨_, rfl, rfl⟩
theorem Pu.put {p N n : Nat} {s : Sto} {o : O} (h : Pu p N s) (hn : n ≠ p) : Pu p N (s.set n o) := by
  obtain ⟨v, hv, h⟩ := h
  exact ⟨v, by rw [List.getElem?_set_ne hn]; exact hv, h⟩
end Mi
end
section
set_option Elab.async false
set_option maxRecDepth 100000
set_option linter.all false
namespace Mi
open PySem
/-! ### the program: events -/
/-- 0=thing 1=least 2=most -/
def fn_is_whole : Fn := ⟨3, 3, [.ite (.or_ (.not_ (.prim (.isi 0) [(.v 0)])) (.or_ (.prim (.isi 4) [(.v 0)]) (.prim .lt [(.v 0), (.v 1)]))) [.ret (.k (.bl false))] [], .ret (.or_ (.prim .isN [(.v 2)]) (.prim .le [(.v 0), (.v 2)]))]⟩
/-- 0=layout 1=thing -/
def fn_is_event (is_whole_ : Nat) : Fn := ⟨2, 2, [.ite (.or_ (.not_ (.prim (.isi 2) [(.v 1)])) (.or_ (.prim .ne [(.prim .len [(.v 1)]), (.k (.int 3))]) (.not_ (.call is_whole_ [(.prim .idx [(.v 1), (.k (.int 0))]), (.k (.int 0)), (.k .non)])))) [.ret (.k (.bl false))] [], .ite (.not_ (.call is_whole_ [(.prim .idx [(.v 1), (.k (.int 1))]), (.k (.int 0)), (.prim .sub [(.prim .len [(.v 0)]), (.k (.int 1))])])) [.ret (.k (.bl false))] [], .ret (.and_ (.prim (.isi 1) [(.prim .idx [(.v 1), (.k (.int 2))])]) (.prim .in_ [(.prim .idx [(.v 1), (.k (.int 2))]), (.k (.tup [(.str "down"), (.str "up")]))]))]⟩
/-- 0=layout 1=events 2=first 3=down 4=k 5=time 6=key 7=way -/
def fn_wrong_from (is_event_ : Nat) : Fn := ⟨4, 8, [.for_ (.nm 4) (.rng2 (.v 2) (.prim .len [(.v 1)])) [.ite (.not_ (.call is_event_ [(.v 0), (.prim .idx [(.v 1), (.v 4)])])) [.ret (.tup [(.k (.str "event")), (.v 4)])] [], .asg (.tp [(.nm 5), (.nm 6), (.nm 7)]) (.prim .idx [(.v 1), (.v 4)]), .ite (.and_ (.prim .gt [(.v 4), (.k (.int 0))]) (.prim .lt [(.v 5), (.prim .idx [(.prim .idx [(.v 1), (.prim .sub [(.v 4), (.k (.int 1))])]), (.k (.int 0))])])) [.ret (.tup [(.k (.str "time")), (.v 4)])] [], .ite (.prim .eq [(.prim .eq [(.v 7), (.k (.str "down"))]), (.dhas false (.v 6) (.v 3))]) [.ret (.tup [(.k (.str "key")), (.v 4)])] [], .ite (.prim .eq [(.v 7), (.k (.str "down"))]) [.asg (.dsub (.v 3) (.v 6)) (.v 5)] [.ex (.dpop (.v 3) (.v 6))]], .ret (.k .non)]⟩
/-- 0=layout 1=thing -/
def fn_events_wrong (must_layout_ wrong_from_ : Nat) : Fn := ⟨2, 2, [.ex (.call must_layout_ [(.v 0)]), .ite (.not_ (.prim (.isi 3) [(.v 1)])) [.ret (.tup [(.k (.str "events"))])] [], .ret (.call wrong_from_ [(.v 0), (.v 1), (.k (.int 0)), .dnew])]⟩
def wholeB (lo : Int) (hi : Option Int) : D → Bool
  | .int i => !decide (i < lo) && (match hi with | none => true | some h => decide (i ≤ h))
  | _ => false
def optD : Option Int → D
  | none => .non
  | some h => .int h
theorem whole_ {fns : List Fn} {i : Nat} (gi : fns[i]? = some fn_is_whole) (W n : Nat) (d : D) (lo : Int) (hi : Option Int) (s : Sto) (hd : sOk d = true) : run fns W (n + 1) i [d, .int lo, optD hi] s = .ok (.bl (wholeB lo hi d)) s := by
  refine ans_eq (ans_of gi rfl ?_)
  cases d <;> first | (cases hd; done) | skip
  all_goals (cases hi <;> simp [fn_is_whole, initE, optD, wholeB, primF, isiD, opB, pCmp])
  all_goals (split <;> intros <;> omega)
theorem p_inT (a : D) (ds : List D) (h : cmpOk a a = true) (h2 : D.plains ds = true) : primF .in_ [a, .tup ds] = some (.bl (ds.any fun z => D.eqv z a)) := by
  show pIn false a (.tup ds) = _
  simp [pIn, D.seq?, h, h2]
/-- an event over a board of b keys -/
def eventB (b : Nat) : D → Bool
  | .tup [t, k, w] => wholeB 0 none t && (wholeB 0 (some ((b : Int) - 1)) k && (match w with | .str x => [D.str "down", .str "up"].any fun z => D.eqv z (.str x) | _ => false))
  | _ => false
theorem event_ {fns : List Fn} {i j : Nat} (gi : fns[i]? = some (fn_is_event j)) (gj : fns[j]? = some fn_is_whole) (W n : Nat) (ks : List D) (d : D) (s : Sto) (hd : kOk d = true) (hk : ks.length ≤ 1000) : run fns W (n + 2) i [.tup ks, d] s = .ok (.bl (eventB ks.length d)) s := by
  refine ans_eq (ans_of gi rfl ?_)
  have short : ∀ ds : List D, ds.length ≠ 3 → eventB ks.length (.tup ds) = false → wp (exSs (run fns W (n + 1)) W (fn_is_event j).body) (initE (fn_is_event j).nl [.tup ks, .tup ds]) s fun fl _ s' => endQ (fun r s' => r = .bl (eventB ks.length (.tup ds)) ∧ s' = s) fl s' := by
    intro ds h3 he
    have l1 : primF .len [.tup ds] = some (.int ds.length) := id rfl
    have n3 : primF .ne [.int ds.length, .int 3] = some (.bl true) := by
      rw [p_neI]
      have : ((ds.length : Int) == 3) = false := by
        rw [beq_eq_false_iff_ne]
        omega
      rw [this]
      rfl
    have t2 : primF (.isi 2) [.tup ds] = some (.bl true) := id rfl
    simp [fn_is_event, initE, l1, n3, t2, he]
  cases d <;> first | (cases hd; done) | skip
  case tup ds =>
    match ds, hd with
    | [t, k, w], hd =>
      simp only [kOk, List.all_cons, List.all_nil, Bool.and_true, Bool.and_eq_true] at hd
      obtain ⟨h1, h2, h3⟩ := hd
      have e1 := whole_ gj W n t 0 none s h1
      have e2 := whole_ gj W n k 0 (some ((ks.length : Int) - 1)) s h2
      simp only [optD] at e1 e2
      have l1 : primF .len [.tup [t, k, w]] = some (.int 3) := id rfl
      have l2 : primF .len [.tup ks] = some (.int ks.length) := id rfl
      have i0 : primF .idx [.tup [t, k, w], .int 0] = some t := id rfl
      have i1 : primF .idx [.tup [t, k, w], .int 1] = some k := id rfl
      have i2 : primF .idx [.tup [t, k, w], .int 2] = some w := id rfl
      have n3 : primF .ne [.int 3, .int 3] = some (.bl false) := by kernel_rfl
      have t2 : primF (.isi 2) [.tup [t, k, w]] = some (.bl true) := id rfl
      have sb : primF .sub [.int ks.length, .int 1] = some (.int ((ks.length : Int) - 1)) := id rfl
      simp [fn_is_event, initE, l1, l2, i0, i1, i2, n3, t2, sb, e1, e2]
      cases q1 : wholeB 0 none t <;> cases q2 : wholeB 0 (some ((ks.length : Int) - 1)) k <;> simp [eventB, q1, q2]
      cases w <;> first | (cases h3; done) | skip
      case str x =>
        have pn : primF .in_ [.str x, .tup [.str "down", .str "up"]] = some (.bl ([D.str "down", .str "up"].any fun z => D.eqv z (.str x))) := p_inT _ _ rfl rfl
        simp [isiD, i2, pn, q1, q2]
      all_goals (simp [isiD])
    | [], _ => exact short [] (by simp) rfl
    | [x], _ => exact short [x] (by simp) rfl
    | [x, y], _ => exact short [x, y] (by show (2 : Nat) ≠ 3; decide) rfl
    | x :: y :: z :: u :: r, _ => exact short (x :: y :: z :: u :: r) (by simp) rfl
  all_goals (simp [fn_is_event, initE, primF, isiD, opB, eventB])
/-! what events_wrong tells of a list of events -/
def evT : D → Int
  | .tup [.int t, _, _] => t
  | _ => 0
def evK : D → Int
  | .tup [_, .int k, _] => k
  | _ => 0
def evDown : D → Bool
  | .tup [_, _, .str x] => x == ("down" : Str)
  | _ => false
/-- earlier than the one ahead -/
def lateE (e : D) : Option D → Bool
  | some p => decide (evT e < evT p)
  | none => false
/-- from the k-th event on (pre: the one ahead), dn: the keys that are down -/
def wrongE (b : Nat) : Nat → Option D → List Int → List D → D
  | _, _, _, [] => .non
  | k, pre, dn, e :: es =>
    if !eventB b e then .tup [.str "event", .int k]
    else if lateE e pre then .tup [.str "time", .int k]
    else if evDown e == dn.contains (evK e) then .tup [.str "key", .int k]
    else wrongE b (k + 1) (some e) (if evDown e then dn ++ [evK e] else dn.erase (evK e)) es
theorem eventB_form {b : Nat} {e : D} (h : eventB b e = true) : ∃ t k x, e = .tup [.int t, .int k, .str x] ∧ 0 ≤ t ∧ 0 ≤ k ∧ k < b := by
  unfold eventB at h
  split at h
  · rename_i t k w
    simp only [Bool.and_eq_true] at h
    obtain ⟨h1, h2, h3⟩ := h
    cases t <;> first | (cases h1; done) | skip
    cases k <;> first | (cases h2; done) | skip
    cases w <;> first | (cases h3; done) | skip
    simp [wholeB] at h1 h2
    exact ⟨_, _, _, rfl, by omega, by omega, by omega⟩
  · cases h
/-- the dict's keys are these -/
def KeysAre (kvs : List (Ky × D)) (dn : List Int) : Prop := kvs.map (·.1) = dn.map .inl ∧ dn.Nodup
theorem KeysAre.val {kvs : List (Ky × D)} {dn : List Int} (h : KeysAre kvs dn) (k : Int) : (valD kvs (.inl k)).isSome = dn.contains k := by
  replace h := h.1
  unfold valD
  induction kvs generalizing dn with
  | nil =>
    cases dn with
    | nil => rfl
    | cons a b => simp at h
  | cons kv r ih =>
    cases dn with
    | nil => simp at h
    | cons a b =>
      simp only [List.map_cons, List.cons.injEq] at h
      obtain ⟨h1, h2⟩ := h
      simp only [List.find?_cons, h1]
      by_cases e : a = k
      · subst e; simp
      · have e2 : ¬ (Sum.inl a : Ky) = .inl k := fun z => e (Sum.inl.inj z)
        simp only [decide_eq_false e2, Bool.false_eq_true, if_false]
        rw [ih h2]
        have : (k == a) = false := by simpa using fun z => e z.symm
        rw [List.contains_cons, this]
        rfl
theorem KeysAre.put {kvs : List (Ky × D)} {dn : List Int} (h : KeysAre kvs dn) {k : Int} (hk : dn.contains k = false) (v : D) : KeysAre (putD kvs (.inl k) v) (dn ++ [k]) := by
  obtain ⟨h1, h2⟩ := h
  have hn : k ∉ dn := by simpa using hk
  have hany : (kvs.any fun kv => decide (kv.1 = .inl k)) = false := by
    rw [List.any_eq_false]
    intro kv hkv
    have : kv.1 ∈ dn.map Sum.inl := by rw [← h1]; exact List.mem_map_of_mem hkv
    obtain ⟨j, hj, e⟩ := List.mem_map.mp this
    rw [← e]
    simp only [decide_eq_true_eq]
    intro z
    exact hn (Sum.inl.inj z ▸ hj)
  unfold putD
  rw [hany]
  simp only [Bool.false_eq_true, if_false]
  refine ⟨by simp [h1], ?_⟩
  rw [List.nodup_append]
  exact ⟨h2, by simp, fun a ha b hb => by simp at hb; subst hb; exact fun z => hn (z ▸ ha)⟩
theorem KeysAre.drop {kvs : List (Ky × D)} {dn : List Int} (h : KeysAre kvs dn) (k : Int) : KeysAre (dropD kvs (.inl k)) (dn.erase k) := by
  obtain ⟨h1, h2⟩ := h
  refine ⟨?_, h2.erase k⟩
  rw [h2.erase_eq_filter k]
  unfold dropD
  clear h2
  induction kvs generalizing dn with
  | nil =>
    cases dn with
    | nil => rfl
    | cons a b => simp at h1
  | cons kv r ih =>
    cases dn with
    | nil => simp at h1
    | cons a b =>
      simp only [List.map_cons, List.cons.injEq] at h1
      obtain ⟨e1, e2⟩ := h1
      by_cases e : a = k
      · subst e
        have i := ih e2
        simp only [ne_eq, decide_not] at i
        simp [e1, i]
      · have e3 : kv.1 ≠ Sum.inl k := by rw [e1]; exact fun z => e (Sum.inl.inj z)
        have i := ih e2
        simp only [ne_eq, decide_not] at i
        simp [e1, e, i]
/-- the event ahead of the i-th -/
def preE (ds : List D) (i : Nat) : Option D := if i = 0 then none else ds[i - 1]?
/-- the keys that are down behind events -/
def dnE : List Int → List D → List Int
  | dn, [] => dn
  | dn, e :: es => dnE (if evDown e then dn ++ [evK e] else dn.erase (evK e)) es
/-- one turn of wrong_from's loop -/
abbrev body7 (o : Nat) : List S := [.ite (.not_ (.call o [(.v 0), (.prim .idx [(.v 1), (.v 4)])])) [.ret (.tup [(.k (.str "event")), (.v 4)])] [], .asg (.tp [(.nm 5), (.nm 6), (.nm 7)]) (.prim .idx [(.v 1), (.v 4)]), .ite (.and_ (.prim .gt [(.v 4), (.k (.int 0))]) (.prim .lt [(.v 5), (.prim .idx [(.prim .idx [(.v 1), (.prim .sub [(.v 4), (.k (.int 1))])]), (.k (.int 0))])])) [.ret (.tup [(.k (.str "time")), (.v 4)])] [], .ite (.prim .eq [(.prim .eq [(.v 7), (.k (.str "down"))]), (.dhas false (.v 6) (.v 3))]) [.ret (.tup [(.k (.str "key")), (.v 4)])] [], .ite (.prim .eq [(.v 7), (.k (.str "down"))]) [.asg (.dsub (.v 3) (.v 6)) (.v 5)] [.ex (.dpop (.v 3) (.v 6))]]
theorem turn7 {fns : List Fn} {o i1 : Nat} (go : fns[o]? = some (fn_is_event i1)) (g1 : fns[i1]? = some fn_is_whole) (W n p i : Nat) (ii : Int) (hii : (i : Int) = ii) (ks ds : List D) (dn : List Int) (kvs : List (Ky × D)) (x y z u : Option D) (e : D) (s : Sto) (Q : Flow → Env → Sto → Prop) (hk : ks.length ≤ 1000) (hz : ds.length < 1000000) (hd : kOk e = true) (hi : ds[i]? = some e)
    (hp : s[p]? = some (.dic kvs)) (hK : KeysAre kvs dn) (hl : kvs.length ≤ i) (hpre : ∀ q, preE ds i = some q → ∃ t r, q = .tup (.int t :: r) ∧ evT q = t)
    (h1 : ∀ w en, wrongE ks.length i (preE ds i) dn (e :: ds.drop (i + 1)) = w → (∃ a : Str, w = .tup [.str a, .int i]) → Q (.ret w) en s)
    (h2 : ∀ x y z kvs' dn', wrongE ks.length i (preE ds i) dn (e :: ds.drop (i + 1)) = wrongE ks.length (i + 1) (some e) dn' (ds.drop (i + 1)) → dn' = (if evDown e then dn ++ [evK e] else dn.erase (evK e)) → KeysAre kvs' dn' → kvs'.length ≤ i + 1 → eventB ks.length e = true → Q .next [some (.tup ks), some (.frz ds), u, some (.ref p), some (.int ii), x, y, z] (s.set p (.dic kvs'))) :
    wp (exSs (run fns W (n + 2)) W (body7 o)) [some (.tup ks), some (.frz ds), u, some (.ref p), some (.int ii), x, y, z] s Q := by
  have e1 := event_ go g1 W n ks e s hd hk
  have e2 := idx_f hi
  rw [hii] at e2
  have hlt := get_lt hi
  cases hb : eventB ks.length e with
  | false =>
    have hw : wrongE ks.length i (preE ds i) dn (e :: ds.drop (i + 1)) = .tup [.str "event", .int ii] := by simp [wrongE, hb, hii]
    simp [body7, e1, e2, hb]
    exact h1 _ _ hw ⟨_, by rw [hii]⟩
  | true =>
    obtain ⟨t, k, x, rfl, ht, hk0, hkb⟩ := eventB_form hb
    have e3 := hK.val k
    have e4 := dicAt_ref hp
    have dn0 : evDown (.tup [.int t, .int k, .str x]) = (x == ("down" : Str)) := rfl
    have k0 : evK (.tup [.int t, .int k, .str x]) = k := rfl
    have t0 : evT (.tup [.int t, .int k, .str x]) = t := rfl
    generalize he : D.tup [.int t, .int k, .str x] = e at *
    have rest : lateE e (preE ds i) = false → wp (exSs (run fns W (n + 2)) W ((body7 o).drop 3)) [some (.tup ks), some (.frz ds), u, some (.ref p), some (.int ii), some (.int t), some (.int k), some (.str x)] s Q := by
      intro hT
      have hwr : wrongE ks.length i (preE ds i) dn (e :: ds.drop (i + 1)) = if (x == ("down" : Str)) == dn.contains k then .tup [.str "key", .int ii] else wrongE ks.length (i + 1) (some e) (if (x == ("down" : Str)) then dn ++ [k] else dn.erase k) (ds.drop (i + 1)) := by
        simp only [wrongE, hb, hT, dn0, k0, hii]
        simp
      cases hc : dn.contains k <;> cases hx : (x == ("down" : Str)) <;> rw [hc, hx] at hwr <;> rw [hc] at e3
      · simp [body7, e3, e4, eq_bb, hx]
        exact h1 _ _ hwr ⟨_, by rw [hii]⟩
      · have hv : (valD kvs (.inl k)) = none := by simpa using e3
        simp [body7, e3, e4, eq_bb, hx, hp]
        refine ⟨by have : big = 16777216 := rfl; omega, ?_⟩
        refine h2 _ _ _ _ (dn ++ [k]) hwr (by rw [dn0, hx, k0]; rfl) (hK.put hc _) ?_ hb
        unfold putD
        split <;> simp <;> omega
      · obtain ⟨v, hv⟩ := Option.isSome_iff_exists.mp e3
        simp [body7, e3, e4, eq_bb, hx, hv, hp]
        refine h2 _ _ _ _ (dn.erase k) hwr (by rw [dn0, hx, k0]; rfl) (hK.drop k) ?_ hb
        exact Nat.le_trans (List.length_filter_le _ _) (by omega)
      · simp [body7, e3, e4, eq_bb, hx]
        exact h1 _ _ hwr ⟨_, by rw [hii]⟩
    show wp (exSs (run fns W (n + 2)) W ((body7 o).take 3 ++ (body7 o).drop 3)) _ _ _
    rw [q_app]
    generalize hT : nextQ (run fns W (n + 2)) W ((body7 o).drop 3) Q = T
    subst he
    by_cases h0 : i = 0
    · have h0i : ¬ (0 < ii) := by omega
      subst h0
      simp [body7, e1, e2, hb, h0i]
      rw [← hT]
      exact rest rfl
    · have hi0 : (0 : Int) < ii := by omega
      obtain ⟨q, hq⟩ : ∃ q, ds[i - 1]? = some q := ⟨_, List.getElem?_eq_getElem (by omega)⟩
      have hpq : preE ds i = some q := by simp [preE, h0, hq]
      obtain ⟨t', r, rfl, ht'⟩ := hpre q hpq
      have e5 : primF .idx [.frz ds, .int (ii - 1)] = some (.tup (.int t' :: r)) := by
        have := idx_f hq
        rwa [show ((i - 1 : Nat) : Int) = ii - 1 by omega] at this
      have e6 : L2.atI (D.int t' :: r) 0 = some (.int t') := atI_nat (i := 0) rfl
      by_cases hlt : t < t'
      · have hw : wrongE ks.length i (preE ds i) dn (.tup [.int t, .int k, .str x] :: ds.drop (i + 1)) = .tup [.str "time", .int ii] := by simp [wrongE, lateE, hb, hpq, ht', t0, hlt, hii]
        simp [body7, e1, e2, hb, hi0, e5, e6, hlt]
        rw [← hT]
        exact h1 _ _ hw ⟨_, by rw [hii]⟩
      · simp [body7, e1, e2, hb, hi0, e5, e6, hlt]
        rw [← hT]
        exact rest (by simp [lateE, hpq, ht', t0, hlt])
end Mi
end
section
set_option Elab.async false
set_option maxRecDepth 100000
set_option linter.all false
namespace Mi
open PySem
theorem wrongFrom_ {fns : List Fn} {f o i1 : Nat} (gf : fns[f]? = some (fn_wrong_from o)) (go : fns[o]? = some (fn_is_event i1)) (g1 : fns[i1]? = some fn_is_whole) (W n p a : Nat) (ks ds : List D) (dn : List Int) (kvs : List (Ky × D)) (s : Sto)
    (hk : ks.length ≤ 1000) (hz : ds.length < 1000000) (hd : ∀ d ∈ ds, kOk d = true) (ha : a ≤ ds.length) (hp : s[p]? = some (.dic kvs)) (hK : KeysAre kvs dn) (hl : kvs.length ≤ a) (hpre : ∀ q, preE ds a = some q → ∃ t r, q = .tup (.int t :: r) ∧ evT q = t) :
    ∃ kvs', run fns W (n + 3) f [.tup ks, .frz ds, .int a, .ref p] s = .ok (wrongE ks.length a (preE ds a) dn (ds.drop a)) (s.set p (.dic kvs')) ∧ (wrongE ks.length a (preE ds a) dn (ds.drop a) = .non → KeysAre kvs' (dnE dn (ds.drop a))) := by
  have hpl := get_lt hp
  suffices key : ans fns W (n + 3) f [.tup ks, .frz ds, .int a, .ref p] s fun r s' => r = wrongE ks.length a (preE ds a) dn (ds.drop a) ∧ ∃ kvs', s' = s.set p (.dic kvs') ∧ (wrongE ks.length a (preE ds a) dn (ds.drop a) = .non → KeysAre kvs' (dnE dn (ds.drop a))) by
    obtain ⟨r, s', e, rfl, kvs', rfl, h⟩ := ans_run key
    exact ⟨kvs', e, h⟩
  obtain ⟨ai, hai⟩ : ∃ ai : Int, ai = (a : Int) := ⟨_, rfl⟩
  rw [← hai]
  refine ans_of gf rfl ?_
  have ft1 := fit_nat (show a < 1000000 by omega)
  have ft2 := fit_nat hz
  have hsub : ((ds.length : Int) - ai).toNat = ds.length - a := by omega
  rw [← hai] at ft1
  have rg := rngO2_i ai ds.length ft1 ft2
  rw [hsub] at rg
  simp [fn_wrong_from, rg]
  refine wp_for (fun i en s' => ∃ kvs' dn' u x y z, en = [some (.tup ks), some (.frz ds), some (.int ai), some (.ref p), u, x, y, z] ∧ s' = s.set p (.dic kvs') ∧ KeysAre kvs' dn' ∧ kvs'.length ≤ a + i ∧ wrongE ks.length a (preE ds a) dn (ds.drop a) = wrongE ks.length (a + i) (preE ds (a + i)) dn' (ds.drop (a + i)) ∧ dnE dn (ds.drop a) = dnE dn' (ds.drop (a + i)) ∧ (∀ q, preE ds (a + i) = some q → ∃ t r, q = .tup (.int t :: r) ∧ evT q = t))
    ⟨kvs, dn, _, _, _, _, rfl, ?_, hK, by omega, rfl, rfl, hpre⟩ ?_ ?_
  · rw [List.getElem?_eq_getElem hpl] at hp
    rw [← Option.some.inj hp, List.set_getElem_self]
  · rintro i d en s' hi ⟨kvs', dn', u, x, y, z, rfl, rfl, hK', hl', hw, hdn, hpr⟩
    rw [rngD_get] at hi
    by_cases hlt : i < ds.length - a
    · rw [if_pos hlt] at hi
      obtain rfl := Option.some.inj hi
      obtain ⟨e, he⟩ : ∃ e, ds[a + i]? = some e := ⟨_, List.getElem?_eq_getElem (by omega)⟩
      have hdr := drop_get he
      rw [hdr] at hw hdn
      simp only [wp_calm, q_nm, List.set_cons_succ, List.set_cons_zero]
      refine turn7 go g1 W n p (a + i) (ai + i) (by omega) ks ds dn' kvs' x y z (some (.int ai)) e (s.set p (.dic kvs')) _ hk hz (hd e (List.mem_of_getElem? he)) he (by simp [hpl]) hK' hl' hpr ?_ ?_
      · rintro w en hw2 ⟨b, hb⟩
        refine ⟨by rw [hw]; exact hw2.symm, kvs', rfl, ?_⟩
        rw [hw, hw2, hb]
        intro h; cases h
      · intro x y z kvs2 dn2 h1 h2 h3 h4 h5
        refine ⟨kvs2, dn2, _, x, y, z, rfl, by rw [List.set_set], h3, by omega, ?_, ?_, ?_⟩
        · rw [hw, h1]
          have : preE ds (a + (i + 1)) = some e := by simp [preE, ← Nat.add_assoc, he]
          rw [this]; rfl
        · rw [hdn]
          simp only [dnE]
          rw [← h2]; rfl
        · intro q hq
          have : preE ds (a + (i + 1)) = some e := by simp [preE, ← Nat.add_assoc, he]
          rw [this] at hq
          obtain rfl := Option.some.inj hq
          obtain ⟨t, k, x, rfl, _⟩ := eventB_form h5
          exact ⟨_, _, rfl, rfl⟩
    · rw [if_neg hlt] at hi; cases hi
  · rintro en s' ⟨kvs', dn', u, x, y, z, rfl, rfl, hK', hl', hw, hdn, hpr⟩
    rw [rngD_len, show a + (ds.length - a) = ds.length by omega, List.drop_length] at hw hdn
    have hw' : wrongE ks.length a (preE ds a) dn (ds.drop a) = .non := by rw [hw]; rfl
    simp
    rw [hw']
    refine ⟨rfl, kvs', rfl, fun _ => ?_⟩
    rw [hdn]
    exact hK'
end Mi
end
section
set_option Elab.async false
set_option maxRecDepth 100000
set_option linter.all false
namespace Mi
open PySem
/-- events_wrong and what it calls stand at these places -/
def EventsF (fns : List Fn) (g : Nat) : Prop := ∃ m f o i1, fns[g]? = some (fn_events_wrong m f) ∧ MustF fns m ∧ fns[f]? = some (fn_wrong_from o) ∧ fns[o]? = some (fn_is_event i1) ∧ fns[i1]? = some fn_is_whole
theorem EventsF.lst {fns : List Fn} {g : Nat} (h : EventsF fns g) (W n : Nat) (ks ds : List D) (s : Sto) (hl : lOk (.tup ks) = true) (hw : wrongL (.tup ks) = .non) (hk : ks.length ≤ 1000) (hz : ds.length < 1000000) (hd : ∀ d ∈ ds, kOk d = true) :
    ∃ kvs, run fns W (n + 4) g [.tup ks, .frz ds] s = .ok (wrongE ks.length 0 none [] ds) (s ++ [.dic kvs]) := by
  obtain ⟨m, f, o, i1, g1, g2, g3, g4, g5⟩ := h
  suffices key : ans fns W (n + 4) g [.tup ks, .frz ds] s fun r s' => r = wrongE ks.length 0 none [] ds ∧ ∃ kvs, s' = s ++ [.dic kvs] by
    obtain ⟨r, s', e, rfl, kvs, rfl⟩ := ans_run key
    exact ⟨kvs, e⟩
  refine ans_of g1 rfl ?_
  obtain ⟨kvs, e1, _⟩ := wrongFrom_ g3 g4 g5 W n s.length 0 ks ds [] [] (s ++ [.dic []]) hk hz hd (Nat.zero_le _) (by simp) ⟨rfl, List.nodup_nil⟩ (Nat.le_refl _) (by intro q hq; cases hq)
  have e2 := g2.ok W n (.tup ks) s hl hw
  have e3 : (s ++ [O.dic []]).set s.length (.dic kvs) = s ++ [.dic kvs] := by simp
  rw [e3, show preE ds 0 = none from rfl, List.drop_zero] at e1
  simp at e1
  simp [fn_events_wrong, e2, isiD, e1]
theorem EventsF.off {fns : List Fn} {g : Nat} (h : EventsF fns g) (W n : Nat) (ks : List D) (d : D) (s : Sto) (hl : lOk (.tup ks) = true) (hw : wrongL (.tup ks) = .non) (hd : isiD 3 d = some false) (hv : val d = true) :
    run fns W (n + 4) g [.tup ks, d] s = .ok (.tup [.str "events"]) s := by
  obtain ⟨m, f, o, i1, g1, g2, g3, g4, g5⟩ := h
  refine ans_eq (ans_of g1 rfl ?_)
  have e2 := g2.ok W n (.tup ks) s hl hw
  simp [fn_events_wrong, e2, hd, hv]
theorem EventsF.exc {fns : List Fn} {g : Nat} (h : EventsF fns g) (W n : Nat) (d e w : D) (s : Sto) (hd : lOk d = true) (he : val e = true) (hw : wrongL d = w) (hv : val w = true) (hn : w ≠ .non) :
    run fns W (n + 4) g [d, e] s = .exc (noLayout w) s := by
  obtain ⟨m, f, o, i1, g1, g2, g3, g4, g5⟩ := h
  refine run_exc g1 rfl ?_
  refine wx_first (wx_first (wx_then ?_))
  simp [fn_events_wrong, initE, lOk_val hd]
  exact wx_call (g2.exc W n d w s hd hw hv hn) ⟨rfl, rfl⟩
end Mi
end
section
set_option Elab.async false
set_option maxRecDepth 100000
set_option linter.all false
namespace Mi
open PySem
/-- 0=_law_purse_here 1=_law_board 2=_law_many 3=_law_found 4=_law_down 5=_law_time 6=_law_k 7=_law_key 8=_law_side -/
def fn_law_events (_law_pick_ _law_take_ : Nat) : Fn := ⟨3, 9, [.asg (.nm 3) (.lst []), .asg (.nm 4) (.lst []), .asg (.nm 5) (.call _law_pick_ [(.rf 0), (.lst [(.k (.int 0)), (.k (.int 0)), (.k (.int 1)), (.k (.int 7)), (.prim .pow [(.k (.int 10)), (.k (.int 20))])])]), .for_ (.nm 6) (.rng1 (.call _law_take_ [(.rf 0), (.v 2)])) [.asg (.nm 5) (.prim .add [(.v 5), (.call _law_pick_ [(.rf 0), (.lst [(.k (.int 0)), (.k (.int 0)), (.k (.int 1)), (.k (.int 1)), (.k (.int 2)), (.k (.int 3)), (.k (.int 9)), (.k (.int 60))])])]), .asg (.nm 7) (.call _law_take_ [(.rf 0), (.prim .len [(.v 1)])]), .asg (.nm 8) (.prim .idx [(.lst [(.k (.str "down")), (.k (.str "up"))]), (.prim .int [(.prim .in_ [(.v 7), (.v 4)])])]), .ite (.prim .eq [(.v 8), (.k (.str "up"))]) [.ex (.mut .remove (.v 4) [(.v 7)])] [.ex (.mut .append (.v 4) [(.v 7)])], .ex (.mut .append (.v 3) [(.tup [(.v 5), (.v 7), (.v 8)])])], .ret (.mv 3)]⟩
/-- an event, small enough to be shown -/
def evFine (d : D) : Prop := kOk d = true ∧ fine 2 d = true ∧ wt d ≤ 5000
theorem leaf_wt1 {d : D} (h : leafOk d = true) : wt d ≤ 1001 := by
  cases d with
  | str x => simp only [leafOk, Bool.and_eq_true, decide_eq_true_eq] at h; simp only [wt]; omega
  | int i => simp [wt]
  | non => simp [wt]
  | bl => simp [wt]
  | _ => cases h
theorem leaf_wts : ∀ {ds : List D}, ds.all leafOk = true → wts ds ≤ 1001 * ds.length
  | [], _ => by simp [wts]
  | d :: ds, h => by
    simp only [List.all_cons, Bool.and_eq_true] at h
    have := leaf_wt1 h.1
    have := leaf_wts h.2
    simp only [wts, List.length_cons]
    omega
theorem evFine_of (t k : Int) (x : Str) (h1 : t.natAbs < 10 ^ 30) (h2 : k.natAbs < 10 ^ 30) (h3 : leafOk (.str x) = true) (h4 : sOk (.str x) = true) : evFine (.tup [.int t, .int k, .str x]) := by
  refine ⟨?_, ?_, ?_⟩
  · simp [kOk, sOk] at h4 ⊢; exact h4
  case refine_3 =>
    have := leaf_wt1 h3
    simp only [wt, wts] at this ⊢
    omega
  · rw [fine_tup]
    intro d hd
    simp at hd
    rcases hd with rfl | rfl | rfl
    · exact fine_leaf (by simp [leafOk]; omega) 1
    · exact fine_leaf (by simp [leafOk]; omega) 1
    · exact fine_leaf h3 1
theorem wrongE_step {b i : Nat} {pre : Option D} {dn : List Int} {t k : Int} {up : Bool} {es : List D} (ht : 0 ≤ t) (hk : 0 ≤ k) (hb : k < b) (hp : ∀ q, pre = some q → evT q ≤ t) (hu : up = dn.contains k) :
    wrongE b i pre dn (.tup [.int t, .int k, .str (if up then "up" else "down")] :: es) = wrongE b (i + 1) (some (.tup [.int t, .int k, .str (if up then "up" else "down")])) (if up then dn.erase k else dn ++ [k]) es := by
  have h1 : ∀ x : Str, x = "up" ∨ x = "down" → eventB b (.tup [.int t, .int k, .str x]) = true := by
    intro x hx
    have a1 : wholeB 0 none (.int t) = true := by simp [wholeB, ht]
    have a2 : wholeB 0 (some ((b : Int) - 1)) (.int k) = true := by simp [wholeB, hk]; omega
    simp only [eventB, a1, a2, Bool.true_and]
    rcases hx with rfl | rfl <;> rfl
  have h2 : ∀ x : Str, lateE (.tup [.int t, .int k, .str x]) pre = false := by
    intro x
    cases pre with
    | none => rfl
    | some q =>
      have := hp q rfl
      have e : evT (.tup [.int t, .int k, .str x]) = t := rfl
      simp only [lateE, e, decide_eq_false_iff_not]
      omega
  cases up with
  | true =>
    have e1 : evDown (.tup [.int t, .int k, .str "up"]) = false := rfl
    have e2 : evK (.tup [.int t, .int k, .str "up"]) = k := rfl
    simp only [wrongE, if_true, h1 _ (.inl rfl), e1, e2, h2, ← hu]
    rfl
  | false =>
    have e1 : evDown (.tup [.int t, .int k, .str "down"]) = true := rfl
    have e2 : evK (.tup [.int t, .int k, .str "down"]) = k := rfl
    simp only [wrongE, Bool.false_eq_true, if_false, h1 _ (.inr rfl), e1, e2, h2, ← hu]
    rfl
theorem events_ {fns : List Fn} {f h i j : Nat} (gf : fns[f]? = some (fn_law_events h i)) (hh : fns[h]? = some (fPick i)) (hi : fns[i]? = some (fTake j)) (hj : fns[j]? = some fMixed) (W n p N M : Nat) (bs : List D) (s : Sto) (hs : Pu p N s) (hN : N < 2 ^ 89) (hM : 1 ≤ M) (hM2 : M ≤ 100) (hb : 1 ≤ bs.length) (hb2 : bs.length ≤ 1000) :
    ∃ ds s', run fns W (n + 4) f [.ref p, .tup bs, .int M] s = .ok (.own ds) s' ∧ ds.length < M ∧ (∀ d ∈ ds, evFine d) ∧ (∀ b, bs.length ≤ b → wrongE b 0 none [] ds = .non) ∧ St p (N + 300) s s' := by
  suffices key : ans fns W (n + 4) f [.ref p, .tup bs, .int M] s fun r s' => ∃ ds, r = .own ds ∧ ds.length < M ∧ (∀ d ∈ ds, evFine d) ∧ (∀ b, bs.length ≤ b → wrongE b 0 none [] ds = .non) ∧ St p (N + 300) s s' by
    obtain ⟨r, s', e, ds, rfl, h⟩ := ans_run key
    exact ⟨ds, s', e, h⟩
  obtain ⟨Mi, hMi⟩ : ∃ m : Int, m = (M : Int) := ⟨_, rfl⟩
  rw [← hMi]
  refine ans_ofJ gf rfl fun K hK => ?_
  have pw : primF .pow [.int 10, .int 20] = some (.int 100000000000000000000) := by rfl
  obtain ⟨x0, s1, e1, hx0, st1⟩ := pick_ hh hi hj W n p N [.int 0, .int 0, .int 1, .int 7, .int 100000000000000000000] s hs (by omega) (by simp) (by simp)
  obtain ⟨t0, rfl, ht0, ht0'⟩ : ∃ t : Int, x0 = .int t ∧ 0 ≤ t ∧ t ≤ 100000000000000000000 := by
    simp at hx0
    rcases hx0 with rfl | rfl | rfl | rfl <;> exact ⟨_, rfl, by omega, by omega⟩
  obtain ⟨m, s2, e2, m0, m1, st2⟩ := take_ hi hj W (n + 1) p (N + 1) Mi s1 st1.pu (by omega) (by omega) (by omega)
  have rg := rngO_i m (fit_int (by omega) (by omega))
  have st12 := st1.trans st2
  simp [fn_law_events, pw, e1, e2, rg]
  refine wp_forJ (fun i en s' => ∃ found dn t u1 u2 u3, en = [some (.ref p), some (.tup bs), some (.int Mi), some (.own found), some (.own (dn.map D.int)), some (.int t), u1, u2, u3] ∧ St p (N + 2 + 2 * i) s s' ∧ found.length = i ∧ 0 ≤ t ∧ t ≤ 100000000000000000000 + 60 * i ∧ dn.length ≤ i ∧ (∀ q, found.getLast? = some q → evT q ≤ t) ∧ (∀ d ∈ found, evFine d) ∧ (∀ b, bs.length ≤ b → ∀ rest, wrongE b 0 none [] (found ++ rest) = wrongE b i found.getLast? dn rest))
    ⟨[], [], t0, _, _, _, rfl, st12, rfl, ht0, by omega, Nat.le_refl _, (by intro q hq; cases hq), (by intro d hd; cases hd), (by intro b hb rest; rfl)⟩ ?_ ?_
  · rintro i d en s' J hi' ⟨found, dn, t, u1, u2, u3, rfl, st, hl, ht, ht2, hdl, hlast, hf, hw⟩ hJ
    have hbig : big = 16777216 := rfl
    rw [rngD_get] at hi'
    by_cases hlt : i < m.toNat
    · rw [if_pos hlt] at hi'
      obtain rfl := Option.some.inj hi'
      obtain ⟨x1, s3, e3, hx1, st3⟩ := pick_ hh hi hj W n p _ [.int 0, .int 0, .int 1, .int 1, .int 2, .int 3, .int 9, .int 60] s' st.pu (by omega) (by simp) (by simp)
      obtain ⟨c, rfl, hc, hc'⟩ : ∃ t : Int, x1 = .int t ∧ 0 ≤ t ∧ t ≤ 60 := by
        simp at hx1
        rcases hx1 with rfl | rfl | rfl | rfl | rfl | rfl <;> exact ⟨_, rfl, by omega, by omega⟩
      obtain ⟨k, s4, e4, k0, k1, st4⟩ := take_ hi hj W (n + 1) p _ bs.length s3 st3.pu (by omega) (by omega) (by omega)
      have e5 := in_own dn k
      have st' := (st.trans st3).trans st4
      have hev : ∀ x : Str, x = "up" ∨ x = "down" → evFine (.tup [.int (t + c), .int k, .str x]) := by
        intro x hx
        refine evFine_of _ _ _ (by omega) (by omega) ?_ ?_ <;> rcases hx with rfl | rfl <;> decide +kernel
      have hstep : ∀ b, bs.length ≤ b → ∀ rest, wrongE b 0 none [] ((found ++ [.tup [.int (t + c), .int k, .str (if dn.contains k then "up" else "down")]]) ++ rest) = wrongE b (i + 1) (some (.tup [.int (t + c), .int k, .str (if dn.contains k then "up" else "down")])) (if dn.contains k then dn.erase k else dn ++ [k]) rest := by
        intro b hb rest
        rw [List.append_assoc, hw b hb]
        exact wrongE_step (by omega) k0 (by omega) (fun q hq => by have := hlast q hq; omega) rfl
      cases hc2 : dn.contains k with
      | true =>
        rw [hc2] at hstep e5
        have e6 := mu_rem dn k hc2
        have i1 : primF .idx [.own [.str "down", .str "up"], .int 1] = some (.str "up") := id rfl
        have i2 : primF .int [.bl true] = some (.int 1) := id rfl
        have a1 := mu_app found (.tup [.int (t + c), .int k, .str "up"]) (by omega)
        simp [e3, e4, e5, e6, i1, i2, a1]
        refine hJ _ _ ⟨_, dn.erase k, _, _, _, _, rfl, st'.mono (by omega), by simp [hl], by omega, by omega, ?_, ?_, ?_, ?_⟩
        · have := List.length_erase_le (a := k) (l := dn)
          omega
        · intro q hq
          simp at hq
          subst hq
          exact Int.le_refl _
        · intro d hd
          rcases List.mem_append.mp hd with hd | hd
          · exact hf d hd
          · rw [List.mem_singleton.mp hd]; exact hev _ (.inl rfl)
        · intro b hb rest
          simpa using hstep b hb rest
      | false =>
        rw [hc2] at hstep e5
        have i1 : primF .idx [.own [.str "down", .str "up"], .int 0] = some (.str "down") := id rfl
        have i2 : primF .int [.bl false] = some (.int 0) := id rfl
        have a0 := mu_app (dn.map D.int) (.int k) (by simp; omega)
        have a1 := mu_app found (.tup [.int (t + c), .int k, .str "down"]) (by omega)
        simp [e3, e4, e5, i1, i2, a0, a1]
        refine hJ _ _ ⟨_, dn ++ [k], _, _, _, _, by rw [List.map_append]; rfl, st'.mono (by omega), by simp [hl], by omega, by omega, ?_, ?_, ?_, ?_⟩
        · simp; omega
        · intro q hq
          simp at hq
          subst hq
          exact Int.le_refl _
        · intro d hd
          rcases List.mem_append.mp hd with hd | hd
          · exact hf d hd
          · rw [List.mem_singleton.mp hd]; exact hev _ (.inr rfl)
        · intro b hb rest
          simpa using hstep b hb rest
    · rw [if_neg hlt] at hi'; cases hi'
  · rintro en s' ⟨found, dn, t, u1, u2, u3, rfl, st, hl, ht, ht2, hdl, hlast, hf, hw⟩
    rw [rngD_len] at hl st
    simp
    refine hK _ _ ⟨_, rfl, by omega, hf, ?_, st.mono (by omega)⟩
    intro b hb
    have := hw b hb []
    rw [List.append_nil] at this
    rw [this]; rfl
end Mi
end
section
set_option Elab.async false
set_option maxRecDepth 100000
set_option linter.all false
namespace Mi
open PySem
/-- 0=_law_purse_here 1=_law_board 2=_law_time 3=_law_some -/
def fn_law_odd_event (_law_pick_ : Nat) : Fn := ⟨3, 4, [.asg (.nm 3) (.lst [(.k .non), (.tup []), (.tup [(.v 2), (.k (.int 0))]), (.tup [(.v 2), (.k (.int 0)), (.k (.str "down")), (.k (.int 0))]), (.lst [(.v 2), (.k (.int 0)), (.k (.str "down"))]), (.tup [(.v 2), (.prim .len [(.v 1)]), (.k (.str "down"))])]), .asg (.nm 3) (.prim .add [(.v 3), (.lst [(.tup [(.v 2), (.prim .neg [(.k (.int 1))]), (.k (.str "up"))]), (.tup [(.prim .neg [(.k (.int 1))]), (.k (.int 0)), (.k (.str "down"))]), (.tup [(.k (.bl true)), (.k (.int 0)), (.k (.str "up"))]), (.tup [(.v 2), (.k (.bl false)), (.k (.str "down"))]), (.tup [(.v 2), (.k (.int 0)), (.k (.str "Down"))])])]), .ret (.call _law_pick_ [(.rf 0), (.prim .add [(.v 3), (.lst [(.tup [(.v 2), (.k (.int 0)), (.k .non)]), (.k (.str "down")), (.tup [(.v 2), (.k (.int 0)), (.k (.int 1))]), (.tup [(.prim .str [(.v 2)]), (.k (.int 0)), (.k (.str "up"))]), (.tup [(.k .non), (.k (.int 0)), (.k (.str "down"))])])])])]⟩
theorem str_int (i : Int) (h : i.natAbs < 10 ^ 30) : ∃ x, primF .str [.int i] = some (.str x) ∧ leafOk (.str x) = true ∧ sOk (.str x) = true := by
  have h1 := shown_int30 h
  have hb : big = 16777216 := rfl
  have e : pStr (.int i) = some (.str (PyData.shown (.int i))) := by
    have h2 : (D.int i).py.showable = true := leaf_show (by simpa [leafOk] using h)
    have h3 : decide ((D.int i).py.depth ≤ 60) = true := rfl
    have h4 : decide ((D.int i).py.shown.length ≤ big) = true := by
      rw [decide_eq_true_eq]
      show (PyData.shown (.int i)).length ≤ big
      omega
    show (if D.plain (.int i) && (D.int i).py.showable && decide ((D.int i).py.depth ≤ 60) && decide ((D.int i).py.shown.length ≤ big) then some (D.str (D.int i).py.shown) else none) = _
    rw [h2, h3, h4]
    rfl
  have h5 : (PyData.shown (.int i)).cps.toList.length ≤ 31 := h1
  refine ⟨_, e, ?_, ?_⟩
  · have h6 : ∀ c ∈ (PyData.shown (.int i)).cps.toList, c < 16 ^ 8 := by
      intro c hc
      have : (PyData.shown (.int i)).cps.toList = (toString i).toList.map Char.toNat := PyProof.Rows.signs_ofString _
      rw [this] at hc
      obtain ⟨a, _, rfl⟩ := List.mem_map.mp hc
      have := a.val.toNat_lt
      exact this
    simp only [leafOk, Bool.and_eq_true, List.all_eq_true, decide_eq_true_eq]
    refine ⟨h6, ?_⟩
    rw [Array.length_toList] at h5
    omega
  · simp only [sOk, decide_eq_true_eq]
    omega
theorem oddEvent_ {fns : List Fn} {f h i j : Nat} (gf : fns[f]? = some (fn_law_odd_event h)) (hh : fns[h]? = some (fPick i)) (hi : fns[i]? = some (fTake j)) (hj : fns[j]? = some fMixed) (W n p N : Nat) (bs : List D) (t : Int) (s : Sto) (hs : Pu p N s) (hN : N < 2 ^ 89) (ht : t.natAbs < 10 ^ 30) (hb : bs.length ≤ 1000) :
    ∃ x s', run fns W (n + 4) f [.ref p, .tup bs, .int t] s = .ok x s' ∧ evFine x ∧ St p (N + 1) s s' := by
  refine run_ofJ (fun x s' => evFine x ∧ St p (N + 1) s s') gf rfl fun K hK => ?_
  obtain ⟨x, ex, l1, l2⟩ := str_int t ht
  obtain ⟨b, hb'⟩ : ∃ b : Int, b = (bs.length : Int) := ⟨_, rfl⟩
  generalize hL : [D.non, .tup [], .tup [.int t, .int 0], .tup [.int t, .int 0, .str "down", .int 0], .frz [.int t, .int 0, .str "down"], .tup [.int t, .int b, .str "down"], .tup [.int t, .int (-1), .str "up"], .tup [.int (-1), .int 0, .str "down"], .tup [.bl true, .int 0, .str "up"], .tup [.int t, .bl false, .str "down"], .tup [.int t, .int 0, .str "Down"], .tup [.int t, .int 0, .non], .str "down", .tup [.int t, .int 0, .int 1], .tup [.str x, .int 0, .str "up"], .tup [.non, .int 0, .str "down"]] = L
  have hLl : L.length = 16 := by rw [← hL]; rfl
  have hLf : ∀ d ∈ L, evFine d := by
    have i1 : leafOk (.int t) = true := by simpa [leafOk] using ht
    have i2 : leafOk (.int b) = true := by simp [leafOk]; omega
    have lf : ∀ d, leafOk d = true → fine 1 d = true := fun d h => fine_leaf h 1
    have sI : ∀ i, sOk (.int i) = true := fun _ => rfl
    have sN : sOk .non = true := rfl
    have sB : ∀ b, sOk (.bl b) = true := fun _ => rfl
    intro d hd
    rw [← hL] at hd
    simp only [List.mem_cons, List.not_mem_nil, or_false] at hd
    have c1 : leafOk (.str "down") = true := by decide +kernel
    have c2 : leafOk (.str "up") = true := by decide +kernel
    have c3 : leafOk (.str "Down") = true := by decide +kernel
    have c4 : leafOk (.int 0) = true := by decide +kernel
    have c5 : leafOk (.int 1) = true := by decide +kernel
    have c6 : leafOk (.int (-1)) = true := by decide +kernel
    have k1 : sOk (.str "down") = true := by decide +kernel
    have k2 : sOk (.str "up") = true := by decide +kernel
    have k3 : sOk (.str "Down") = true := by decide +kernel
    have q0 : ∀ ds : List D, ds.all leafOk = true → ds.length ≤ 4 → wts ds + 1 ≤ 5000 := fun ds h1 h2 => by
      have := leaf_wts h1
      omega
    have q : ∀ ds, (ds.all leafOk = true) → (ds.all sOk = true) → ds.length ≤ 4 → evFine (.tup ds) := fun ds h1 h2 h3 => ⟨h2, by
      rw [fine_tup]
      intro d hd
      exact fine_leaf (List.all_eq_true.mp h1 d hd) 1, q0 ds h1 h3⟩
    have q2 : ∀ ds, (ds.all leafOk = true) → ds.length ≤ 4 → evFine (.frz ds) := fun ds h1 h3 => ⟨rfl, by
      rw [fine_frz]
      intro d hd
      exact fine_leaf (List.all_eq_true.mp h1 d hd) 1, q0 ds h1 h3⟩
    have q3 : ∀ d, leafOk d = true → kOk d = true → evFine d := fun d h1 h2 => ⟨h2, fine_leaf h1 2, Nat.le_trans (leaf_wt1 h1) (by decide)⟩
    have n1 : leafOk .non = true := rfl
    have n2 : leafOk (.bl true) = true := rfl
    have n3 : leafOk (.bl false) = true := rfl
    rcases hd with rfl | rfl | rfl | rfl | rfl | rfl | rfl | rfl | rfl | rfl | rfl | rfl | rfl | rfl | rfl | rfl
    · exact q3 _ n1 rfl
    · exact q _ rfl rfl (by show _ ≤ 4; simp)
    · exact q _ (by simp [i1, c4]) (by simp only [List.all_cons, List.all_nil, sI, sN, sB, Bool.and_self]) (by show _ ≤ 4; simp)
    · exact q _ (by simp [i1, c1, c4]) (by simp only [List.all_cons, List.all_nil, sI, sN, sB, k1, Bool.and_self]) (by show _ ≤ 4; simp)
    · exact q2 _ (by simp [i1, c1, c4]) (by show _ ≤ 4; simp)
    · exact q _ (by simp [i1, i2, c1]) (by simp only [List.all_cons, List.all_nil, sI, sN, sB, k1, Bool.and_self]) (by show _ ≤ 4; simp)
    · exact q _ (by simp [i1, c6, c2]) (by simp only [List.all_cons, List.all_nil, sI, sN, sB, k2, Bool.and_self]) (by show _ ≤ 4; simp)
    · exact q _ (by simp [c6, c4, c1]) (by simp only [List.all_cons, List.all_nil, sI, sN, sB, k1, Bool.and_self]) (by show _ ≤ 4; simp)
    · exact q _ (by simp [n2, c4, c2]) (by simp only [List.all_cons, List.all_nil, sI, sN, sB, k2, Bool.and_self]) (by show _ ≤ 4; simp)
    · exact q _ (by simp [i1, n3, c1]) (by simp only [List.all_cons, List.all_nil, sI, sN, sB, k1, Bool.and_self]) (by show _ ≤ 4; simp)
    · exact q _ (by simp [i1, c4, c3]) (by simp only [List.all_cons, List.all_nil, sI, sN, sB, k3, Bool.and_self]) (by show _ ≤ 4; simp)
    · exact q _ (by simp [i1, c4, n1]) (by simp only [List.all_cons, List.all_nil, sI, sN, sB, Bool.and_self]) (by show _ ≤ 4; simp)
    · exact q3 _ c1 k1
    · exact q _ (by simp [i1, c4, c5]) (by simp only [List.all_cons, List.all_nil, sI, sN, sB, Bool.and_self]) (by show _ ≤ 4; simp)
    · exact q _ (by simp [l1, c4, c2]) (by simp only [List.all_cons, List.all_nil, sI, sN, sB, l2, k2, Bool.and_self]) (by show _ ≤ 4; simp)
    · exact q _ (by simp [n1, c4, c1]) (by simp only [List.all_cons, List.all_nil, sI, sN, sB, k1, Bool.and_self]) (by show _ ≤ 4; simp)
  obtain ⟨y, s1, e1, hy, st1⟩ := pick_ hh hi hj W n p N L s hs (by omega) (by intro h; rw [h] at hLl; cases hLl) (by omega)
  have a1 : primF .neg [.int 1] = some (.int (-1)) := rfl
  have a2 : primF .add [.own [D.non, .tup [], .tup [.int t, .int 0], .tup [.int t, .int 0, .str "down", .int 0], .frz [.int t, .int 0, .str "down"], .tup [.int t, .int b, .str "down"]], .own [.tup [.int t, .int (-1), .str "up"], .tup [.int (-1), .int 0, .str "down"], .tup [.bl true, .int 0, .str "up"], .tup [.int t, .bl false, .str "down"], .tup [.int t, .int 0, .str "Down"]]] = some (.own [D.non, .tup [], .tup [.int t, .int 0], .tup [.int t, .int 0, .str "down", .int 0], .frz [.int t, .int 0, .str "down"], .tup [.int t, .int b, .str "down"], .tup [.int t, .int (-1), .str "up"], .tup [.int (-1), .int 0, .str "down"], .tup [.bl true, .int 0, .str "up"], .tup [.int t, .bl false, .str "down"], .tup [.int t, .int 0, .str "Down"]]) := rfl
  have a3 : ∀ z, z = D.own [D.non, .tup [], .tup [.int t, .int 0], .tup [.int t, .int 0, .str "down", .int 0], .frz [.int t, .int 0, .str "down"], .tup [.int t, .int b, .str "down"], .tup [.int t, .int (-1), .str "up"], .tup [.int (-1), .int 0, .str "down"], .tup [.bl true, .int 0, .str "up"], .tup [.int t, .bl false, .str "down"], .tup [.int t, .int 0, .str "Down"]] → primF .add [z, .own [.tup [.int t, .int 0, .non], .str "down", .tup [.int t, .int 0, .int 1], .tup [.str x, .int 0, .str "up"], .tup [.non, .int 0, .str "down"]]] = some (.own L) := by
    rintro z rfl
    rw [← hL]; rfl
  have a3' := a3 _ rfl
  simp [fn_law_odd_event, ← hb', a1, a2, a3', ex, e1]
  exact hK _ _ ⟨hLf y hy, st1⟩
end Mi
end
section
set_option Elab.async false
set_option maxRecDepth 100000
set_option linter.all false
namespace Mi
open PySem
/-- 0=_law_purse_here 1=_law_board 2=_law_happened 3=_law_at_here 4=_law_time 5=_law_mode 6=_law_happening -/
def fn_law_bent_events (_law_take_ _law_odd_event_ : Nat) : Fn := ⟨3, 7, [.asg (.nm 3) (.call _law_take_ [(.rf 0), (.prim .add [(.prim .len [(.v 2)]), (.k (.int 1))])]), .asg (.nm 4) (.prim .idx [(.lc [6] (.nm 6) (.seq (.prim (.slc false true) [(.prim .add [(.v 2), (.lst [(.tup [(.k (.int 0)), (.k (.int 0)), (.k (.str ""))])])]), (.prim .add [(.v 3), (.k (.int 1))])])) [] (.prim .idx [(.v 6), (.k (.int 0))])), (.prim .neg [(.k (.int 1))])]), .asg (.nm 5) (.call _law_take_ [(.rf 0), (.k (.int 6))]), .ite (.prim .eq [(.v 5), (.k (.int 0))]) [.ret (.prim .add [(.prim (.slc false true) [(.v 2), (.v 3)]), (.prim (.slc true false) [(.v 2), (.prim .add [(.v 3), (.k (.int 1))])])])] [], .ite (.prim .eq [(.v 5), (.k (.int 1))]) [.ret (.prim .add [(.prim .add [(.prim (.slc false true) [(.v 2), (.v 3)]), (.lst [(.call _law_odd_event_ [(.rf 0), (.v 1), (.v 4)])])]), (.prim (.slc true false) [(.v 2), (.v 3)])])] [], .ite (.prim .eq [(.v 5), (.k (.int 2))]) [.ret (.prim .add [(.prim .add [(.prim (.slc false true) [(.v 2), (.v 3)]), (.lst [(.tup [(.prim .max2 [(.k (.int 0)), (.prim .sub [(.prim .sub [(.v 4), (.k (.int 1))]), (.call _law_take_ [(.rf 0), (.k (.int 3))])])]), (.k (.int 0)), (.k (.str "down"))])])]), (.prim (.slc true false) [(.v 2), (.v 3)])])] [], .ite (.prim .eq [(.v 5), (.k (.int 3))]) [.asg (.nm 6) (.tup [(.v 4), (.call _law_take_ [(.rf 0), (.prim .len [(.v 1)])]), (.prim .idx [(.lst [(.k (.str "down")), (.k (.str "up"))]), (.call _law_take_ [(.rf 0), (.k (.int 2))])])]), .ret (.prim .add [(.prim .add [(.prim (.slc false true) [(.v 2), (.v 3)]), (.lst [(.v 6)])]), (.prim (.slc true false) [(.v 2), (.v 3)])])] [], .ite (.prim .eq [(.v 5), (.k (.int 4))]) [.ret (.prim .add [(.prim (.slc false true) [(.v 2), (.v 3)]), (.prim .rev [(.prim (.slc true false) [(.v 2), (.v 3)])])])] [], .ret (.mv 2)]⟩
theorem atI_last {xs : List D} {d : D} (h : xs.getLast? = some d) : L2.atI xs (-1) = some d := by
  have hne : xs ≠ [] := by rintro rfl; cases h
  have hl : 0 < xs.length := List.length_pos_iff.mpr hne
  simp only [L2.atI, L2.ixN]
  rw [if_neg (by omega)]
  rw [List.getLast?_eq_getElem?] at h
  rw [if_pos (by omega)]
  simp only [Option.bind_some]
  rw [← h]
  congr 1
  omega
/-- a good event's time -/
def timed (d : D) : Prop := ∃ t r, d = .tup (.int t :: r) ∧ 0 ≤ t ∧ t.natAbs < 10 ^ 30
theorem evFine.val {d : D} (h : evFine d) : Mi.val d = true := fine_val h.2.1
theorem timed_of {b : Nat} {d : D} (h : evFine d) (h2 : eventB b d = true) : timed d := by
  obtain ⟨t, k, x, rfl, h3, _, _⟩ := eventB_form h2
  refine ⟨t, _, rfl, h3, ?_⟩
  have := fine_tup.mp h.2.1 (.int t) (by simp)
  simpa [fine, leafOk] using this
theorem wrongE_all {b : Nat} : ∀ {ds : List D} {i : Nat} {pre : Option D} {dn : List Int}, wrongE b i pre dn ds = .non → ∀ d ∈ ds, eventB b d = true
  | [], _, _, _, _, d, hd => by cases hd
  | e :: es, i, pre, dn, h, d, hd => by
    simp only [wrongE] at h
    cases h1 : eventB b e with
    | false => rw [h1] at h; cases h
    | true =>
      rw [h1] at h
      simp only [Bool.not_true, Bool.false_eq_true, if_false] at h
      split at h
      · cases h
      · split at h
        · cases h
        · rcases List.mem_cons.mp hd with rfl | hd
          · exact h1
          · exact wrongE_all h d hd
theorem p_addFO (a b : List D) (h : a.length + b.length ≤ big) : primF .add [.frz a, .own b] = some (.own (a ++ b)) := p_addL _ _ a b (.inr rfl) (.inl rfl) h
theorem bentEvents_ {fns : List Fn} {f h i j o : Nat} (gf : fns[f]? = some (fn_law_bent_events i o)) (go : fns[o]? = some (fn_law_odd_event h)) (hh : fns[h]? = some (fPick i)) (hi : fns[i]? = some (fTake j)) (hj : fns[j]? = some fMixed) (W n p N : Nat) (bs ds : List D) (s : Sto) (hs : Pu p N s) (hN : N < 2 ^ 88) (hb : 1 ≤ bs.length) (hb2 : bs.length ≤ 1000) (hl : ds.length ≤ 10000) (hf : ∀ d ∈ ds, evFine d) (ht : ∀ d ∈ ds, timed d) :
    ∃ x s', run fns W (n + 5) f [.ref p, .tup bs, .frz ds] s = .ok x s' ∧ (∃ ds', (x = .own ds' ∨ x = .frz ds') ∧ (∀ d ∈ ds', evFine d) ∧ ds'.length ≤ ds.length + 1) ∧ St p (N + 10) s s' := by
  refine run_ofJ (fun x s' => (∃ ds', (x = .own ds' ∨ x = .frz ds') ∧ (∀ d ∈ ds', evFine d) ∧ ds'.length ≤ ds.length + 1) ∧ St p (N + 10) s s') gf rfl fun K hK => ?_
  have hbig : big = 16777216 := rfl
  obtain ⟨a, s1, e1, a0, a1, st1⟩ := take_ hi hj W (n + 2) p N ((ds.length : Int) + 1) s hs (by omega) (by omega) (by omega)
  obtain ⟨m, s2, e2, m0, m1, st2⟩ := take_ hi hj W (n + 2) p (N + 1) 6 s1 st1.pu (by omega) (by omega) (by omega)
  have st12 := st1.trans st2
  obtain ⟨k, rfl⟩ := Int.eq_ofNat_of_zero_le a0
  have hkl : k ≤ ds.length := by omega
  obtain ⟨ki, hki⟩ : ∃ ki : Int, ki = (k : Int) := ⟨_, rfl⟩
  have b1 := p_addFO ds [.tup [.int 0, .int 0, .str ""]] (by simp; omega)
  have b2 := slc_take_o (ds ++ [.tup [.int 0, .int 0, .str ""]]) (k + 1)
  have b3 := slc_take_f ds k
  have b4 := slc_drop_f ds k
  have b5 := slc_drop_f ds (k + 1)
  have ft : ∀ d ∈ ds.take k, evFine d := fun d hd => hf d (List.mem_of_mem_take hd)
  have fd : ∀ d ∈ ds.drop k, evFine d := fun d hd => hf d (List.mem_of_mem_drop hd)
  have fd1 : ∀ d ∈ ds.drop (k + 1), evFine d := fun d hd => hf d (List.mem_of_mem_drop hd)
  have lt : (ds.take k).length = k := by simp; omega
  have ld : (ds.drop k).length = ds.length - k := by simp
  have ld1 : (ds.drop (k + 1)).length = ds.length - (k + 1) := by simp
  generalize hA : ds.take k = A at *
  generalize hB : ds.drop k = B at *
  generalize hC : ds.drop (k + 1) = C at *
  have b6 := p_addO A C (by omega)
  have b7 : ∀ x, primF .add [.own A, .own [x]] = some (.own (A ++ [x])) := fun x => p_addO A [x] (by simp; omega)
  have b8 : ∀ x, primF .add [.own (A ++ [x]), .own B] = some (.own (A ++ [x] ++ B)) := fun x => p_addO (A ++ [x]) B (by simp; omega)
  have b9 : primF .rev [.own B] = some (.own B.reverse) := rfl
  have b10 := p_addO A B.reverse (by simp; omega)
  have put : ∀ x, evFine x → ∀ d ∈ A ++ [x] ++ B, evFine d := fun x hx d hd => by
    simp only [List.mem_append, List.mem_singleton] at hd
    rcases hd with (hd | rfl) | hd
    · exact ft d hd
    · exact hx
    · exact fd d hd
  have putl : ∀ x, (A ++ [x] ++ B).length ≤ ds.length + 1 := fun x => by simp; omega
  rw [show ((k + 1 : Nat) : Int) = ki + 1 by omega] at b2 b5
  rw [← hki] at b3 b4 e1
  generalize hE : ds ++ [D.tup [.int 0, .int 0, .str ""]] = E at *
  have tE : ∀ d ∈ E.take (k + 1), timed d := fun d hd => by
    have := List.mem_of_mem_take hd
    rw [← hE] at this
    rcases List.mem_append.mp this with h | h
    · exact ht d h
    · rw [List.mem_singleton.mp h]; exact ⟨0, _, rfl, Int.le_refl _, by decide⟩
  have nE : E.take (k + 1) ≠ [] := by
    intro h
    have : (E.take (k + 1)).length = 0 := by rw [h]; rfl
    rw [List.length_take, ← hE] at this
    simp at this
  have lE : (E.take (k + 1)).length ≤ 10001 := by
    rw [List.length_take, ← hE]; simp; omega
  generalize E.take (k + 1) = F at *
  show wp (exSs _ W ((fn_law_bent_events i o).body.take 2 ++ (fn_law_bent_events i o).body.drop 2)) _ _ _
  rw [q_app]
  generalize hT : nextQ (run fns W (n + 4)) W ((fn_law_bent_events i o).body.drop 2) _ = T
  simp [fn_law_bent_events, e1, b1, b2]
  refine wp_lcP (fun _ => true) (fun d => match d with | .tup (x :: _) => x | _ => .non) (by omega) ?_ ?_
  · intro d hd
    obtain ⟨t, r, rfl, _, _⟩ := tE d hd
    simp
  obtain ⟨d0, hd0, hd1⟩ : ∃ d, F.getLast? = some d ∧ d ∈ F := by
    rw [List.getLast?_eq_some_getLast nE]
    exact ⟨_, rfl, List.getLast_mem nE⟩
  obtain ⟨t, r, rfl, t0, t1⟩ := tE d0 hd1
  have b11 : L2.atI (F.map fun d => match d with | .tup (x :: _) => x | _ => D.non) (-1) = some (.int t) := atI_last (by rw [List.getLast?_map, hd0]; rfl)
  have b12 : primF .neg [.int 1] = some (.int (-1)) := rfl
  simp [filter_true, b11, b12]
  rw [← hT]
  have hm : m = 0 ∨ m = 1 ∨ m = 2 ∨ m = 3 ∨ m = 4 ∨ m = 5 := by omega
  rcases hm with rfl | rfl | rfl | rfl | rfl | rfl
  · simp [fn_law_bent_events, e2, b3, b5, b6]
    refine hK _ _ ⟨⟨_, .inl rfl, ?_, by simp; omega⟩, st12.mono (by omega)⟩
    intro d hd
    rcases List.mem_append.mp hd with h | h
    · exact ft d h
    · exact fd1 d h
  · obtain ⟨x, s3, e3, hx, st3⟩ := oddEvent_ go hh hi hj W n p _ bs t s2 st12.pu (by omega) t1 hb2
    have vx := hx.val
    simp [fn_law_bent_events, e2, b3, b4, e3, vx, b7, b8, -List.append_assoc]
    exact hK _ _ ⟨⟨_, .inl rfl, put x hx, putl x⟩, (st12.trans st3).mono (by omega)⟩
  · obtain ⟨x, s3, e3, x0, x1, st3⟩ := take_ hi hj W (n + 2) p _ 3 s2 st12.pu (by omega) (by omega) (by omega)
    have b13 : primF .max2 [.int 0, .int (t - 1 - x)] = some (.int (if t - 1 - x > 0 then t - 1 - x else 0)) := rfl
    have hx : evFine (.tup [.int (if t - 1 - x > 0 then t - 1 - x else 0), .int 0, .str "down"]) := evFine_of _ _ _ (by split <;> omega) (by decide) (by decide +kernel) (by decide +kernel)
    generalize (if t - 1 - x > 0 then t - 1 - x else 0) = y at *
    simp [fn_law_bent_events, e2, b3, b4, e3, b13, b7, b8, -List.append_assoc]
    exact hK _ _ ⟨⟨_, .inl rfl, put _ hx, putl _⟩, (st12.trans st3).mono (by omega)⟩
  · obtain ⟨x, s3, e3, x0, x1, st3⟩ := take_ hi hj W (n + 2) p _ bs.length s2 st12.pu (by omega) (by omega) (by omega)
    obtain ⟨y, s4, e4, y0, y1, st4⟩ := take_ hi hj W (n + 2) p _ 2 s3 st3.pu (by omega) (by omega) (by omega)
    have hy : ∃ w : Str, primF .idx [.own [.str "down", .str "up"], .int y] = some (.str w) ∧ (w = "down" ∨ w = "up") := by
      have : y = 0 ∨ y = 1 := by omega
      rcases this with rfl | rfl
      · exact ⟨_, rfl, .inl rfl⟩
      · exact ⟨_, rfl, .inr rfl⟩
    obtain ⟨w, e5, hw⟩ := hy
    have hx : evFine (.tup [.int t, .int x, .str w]) := by
      refine evFine_of _ _ _ t1 (by omega) ?_ ?_ <;> rcases hw with rfl | rfl <;> decide +kernel
    rw [p_idx_o] at e5
    simp [fn_law_bent_events, e2, b3, b4, e3, e4, e5, b7, b8, -List.append_assoc]
    exact hK _ _ ⟨⟨_, .inl rfl, put _ hx, putl _⟩, ((st12.trans st3).trans st4).mono (by omega)⟩
  · simp [fn_law_bent_events, e2, b3, b4, b9, b10]
    refine hK _ _ ⟨⟨_, .inl rfl, ?_, by simp; omega⟩, st12.mono (by omega)⟩
    intro d hd
    rcases List.mem_append.mp hd with h | h
    · exact ft d h
    · exact fd d (List.mem_reverse.mp h)
  · simp [fn_law_bent_events, e2]
    exact hK _ _ ⟨⟨_, .inr rfl, hf, by omega⟩, st12.mono (by omega)⟩
end Mi
end
section
set_option Elab.async false
set_option maxRecDepth 100000
set_option linter.all false
namespace Mi
open PySem
/-- 0=_law_board 1=_law_what 2=_law_down 3=_law_k 4=_law_happening 5=_law_whole 6=_law_part -/
def fn_law_events_due : Fn := ⟨2, 7, [.ite (.not_ (.prim (.isi 3) [(.v 1)])) [.ret (.tup [(.k (.str "events"))])] [], .asg (.nm 2) (.lst []), .for_ (.tp [(.nm 3), (.nm 4)]) (.enum (.v 1)) [.ite (.or_ (.not_ (.prim (.isi 2) [(.v 4)])) (.or_ (.prim .ne [(.prim .len [(.v 4)]), (.k (.int 3))]) (.prim .notin [(.prim .idx [(.v 4), (.k (.int 2))]), (.tup [(.k (.str "down")), (.k (.str "up"))])]))) [.ret (.tup [(.k (.str "event")), (.v 3)])] [], .asg (.nm 5) (.lc [6] (.nm 6) (.seq (.prim (.slc false true) [(.v 4), (.k (.int 2))])) [(.and_ (.prim (.isi 0) [(.v 6)]) (.not_ (.prim (.isi 4) [(.v 6)])))] (.v 6)), .ite (.or_ (.prim .lt [(.prim .len [(.v 5)]), (.k (.int 2))]) (.or_ (.prim .lt [(.prim .min1 [(.v 5)]), (.k (.int 0))]) (.prim .ge [(.prim .idx [(.v 4), (.k (.int 1))]), (.prim .len [(.v 0)])]))) [.ret (.tup [(.k (.str "event")), (.v 3)])] [], .ite (.and_ (.prim .gt [(.v 3), (.k (.int 0))]) (.prim .lt [(.prim .idx [(.v 4), (.k (.int 0))]), (.prim .idx [(.prim .idx [(.v 1), (.prim .sub [(.v 3), (.k (.int 1))])]), (.k (.int 0))])])) [.ret (.tup [(.k (.str "time")), (.v 3)])] [], .ite (.prim .ne [(.prim .in_ [(.prim .idx [(.v 4), (.k (.int 1))]), (.v 2)]), (.prim .eq [(.prim .idx [(.v 4), (.k (.int 2))]), (.k (.str "up"))])]) [.ret (.tup [(.k (.str "key")), (.v 3)])] [], .ite (.prim .eq [(.prim .idx [(.v 4), (.k (.int 2))]), (.k (.str "up"))]) [.ex (.mut .remove (.v 2) [(.prim .idx [(.v 4), (.k (.int 1))])])] [.ex (.mut .append (.v 2) [(.prim .idx [(.v 4), (.k (.int 1))])])]], .ret (.k .non)]⟩
def isI : D → Bool
  | .int _ => true
  | _ => false
def isDU : D → Bool
  | .str x => [D.str "down", .str "up"].any fun z => D.eqv z (.str x)
  | _ => false
theorem eqv_str_off {a : Str} {d : D} (h : ∀ x, d ≠ .str x) (hr : val d = true) : D.eqv (.str a) d = false := by
  cases d <;> first | (exact absurd rfl (h _)) | (cases hr; done) | simp [D.eqv, D.py, PyData.eqv]
theorem isDU_any {d : D} (hr : val d = true) : ([D.str "down", .str "up"].any fun z => D.eqv z d) = isDU d := by
  cases d <;> first | rfl | (cases hr; done) | skip
  all_goals (simp only [List.any_cons, List.any_nil, isDU]; rw [eqv_str_off (by intro x h; cases h) rfl, eqv_str_off (by intro x h; cases h) rfl]; rfl)
theorem notin_DU {d : D} (h : fine 1 d = true) : primF .notin [d, .tup [.str "down", .str "up"]] = some (.bl (!isDU d)) := by
  have h1 : cmpOk d d = true := fine_cmp h (fine_plain h) (by decide)
  show pIn true d (.tup [.str "down", .str "up"]) = _
  have h2 : D.plains [.str "down", .str "up"] = true := rfl
  simp only [pIn, D.seq?, h1, h2, Bool.and_self, if_true, isDU_any (fine_val h), Bool.bne_true]
theorem eventB3 (b : Nat) (x y z : D) : eventB b (.tup [x, y, z]) = (isDU z && (wholeB 0 none x && wholeB 0 (some ((b : Int) - 1)) y)) := by
  cases z <;> simp [eventB, isDU]
  rw [Bool.and_comm (wholeB 0 none x), Bool.and_assoc, Bool.and_comm (wholeB 0 none x)]
  simp [Bool.and_comm, Bool.and_assoc, Bool.and_left_comm]
abbrev bodyD : List S := [.ite (.or_ (.not_ (.prim (.isi 2) [(.v 4)])) (.or_ (.prim .ne [(.prim .len [(.v 4)]), (.k (.int 3))]) (.prim .notin [(.prim .idx [(.v 4), (.k (.int 2))]), (.tup [(.k (.str "down")), (.k (.str "up"))])]))) [.ret (.tup [(.k (.str "event")), (.v 3)])] [], .asg (.nm 5) (.lc [6] (.nm 6) (.seq (.prim (.slc false true) [(.v 4), (.k (.int 2))])) [(.and_ (.prim (.isi 0) [(.v 6)]) (.not_ (.prim (.isi 4) [(.v 6)])))] (.v 6)), .ite (.or_ (.prim .lt [(.prim .len [(.v 5)]), (.k (.int 2))]) (.or_ (.prim .lt [(.prim .min1 [(.v 5)]), (.k (.int 0))]) (.prim .ge [(.prim .idx [(.v 4), (.k (.int 1))]), (.prim .len [(.v 0)])]))) [.ret (.tup [(.k (.str "event")), (.v 3)])] [], .ite (.and_ (.prim .gt [(.v 3), (.k (.int 0))]) (.prim .lt [(.prim .idx [(.v 4), (.k (.int 0))]), (.prim .idx [(.prim .idx [(.v 1), (.prim .sub [(.v 3), (.k (.int 1))])]), (.k (.int 0))])])) [.ret (.tup [(.k (.str "time")), (.v 3)])] [], .ite (.prim .ne [(.prim .in_ [(.prim .idx [(.v 4), (.k (.int 1))]), (.v 2)]), (.prim .eq [(.prim .idx [(.v 4), (.k (.int 2))]), (.k (.str "up"))])]) [.ret (.tup [(.k (.str "key")), (.v 3)])] [], .ite (.prim .eq [(.prim .idx [(.v 4), (.k (.int 2))]), (.k (.str "up"))]) [.ex (.mut .remove (.v 2) [(.prim .idx [(.v 4), (.k (.int 1))])])] [.ex (.mut .append (.v 2) [(.prim .idx [(.v 4), (.k (.int 1))])])]]
theorem slc2 (x y z : D) : primF (.slc false true) [.tup [x, y, z], .int 2] = some (.tup [x, y]) := slc_take_t [x, y, z] 2
theorem min2_ (a b : Int) : primF .min1 [.own [.int a, .int b]] = some (.int (min a b)) := rfl
/-- the parts that are ints -/
theorem lcInts {fns : List Fn} {W n : Nat} {s : Sto} {Q : List D → Env → Sto → Prop} (x y : D) (e0 e1 e2 e3 e4 : Option D) (e5 : Option D) (hx : val x = true) (hy : val y = true) (h : Q ([x, y].filter isI) [e0, e1, e2, e3, e4, e5, none] s) :
    wp (lcL [6] (fun d => (asgG (run fns W n) (.nm 6) d).calm) (tsts (run fns W n) [(.and_ (.prim (.isi 0) [(.v 6)]) (.not_ (.prim (.isi 4) [(.v 6)])))]).calm (ev2 (run fns W n) (.v 6)).1.calm [x, y] []) [e0, e1, e2, e3, e4, e5, none] s Q := by
  refine wp_lcP isI (fun d => d) (by show 2 ≤ big; decide) ?_ (by simpa using h)
  intro d hd
  have hv : val d = true := by
    simp only [List.mem_cons, List.not_mem_nil, or_false] at hd
    rcases hd with rfl | rfl
    · exact hx
    · exact hy
  cases d <;> first | (cases hv; done) | simp [isiD, isI]
theorem turnD {fns : List Fn} (W n i : Nat) (ii : Int) (hii : (i : Int) = ii) (ks ds : List D) (dn : List Int) (x5 : Option D) (e : D) (s : Sto) (Q : Flow → Env → Sto → Prop) (hk : ks.length ≤ 1000) (hz : ds.length < 1000000) (hd : evFine e) (hi : ds[i]? = some e) (hdl : dn.length ≤ i)
    (hpre : ∀ q, preE ds i = some q → ∃ t r, q = .tup (.int t :: r) ∧ evT q = t)
    (h1 : ∀ w en, wrongE ks.length i (preE ds i) dn (e :: ds.drop (i + 1)) = w → Q (.ret w) en s)
    (h2 : ∀ x5 dn', wrongE ks.length i (preE ds i) dn (e :: ds.drop (i + 1)) = wrongE ks.length (i + 1) (some e) dn' (ds.drop (i + 1)) → dn'.length ≤ i + 1 → eventB ks.length e = true → Q .next [some (.tup ks), some (.frz ds), some (.own (dn'.map D.int)), some (.int ii), some e, x5, none] s) :
    wp (exSs (run fns W n) W bodyD) [some (.tup ks), some (.frz ds), some (.own (dn.map D.int)), some (.int ii), some e, x5, none] s Q := by
  have bad : eventB ks.length e = false → wrongE ks.length i (preE ds i) dn (e :: ds.drop (i + 1)) = .tup [.str "event", .int ii] := fun hb => by simp [wrongE, hb, hii]
  have hbig : big = 16777216 := rfl
  have short : ∀ xs : List D, e = .tup xs → xs.length ≠ 3 → wp (exSs (run fns W n) W bodyD) [some (.tup ks), some (.frz ds), some (.own (dn.map D.int)), some (.int ii), some (.tup xs), x5, none] s Q := by
    rintro xs rfl h3
    have n3 : primF .ne [.int xs.length, .int 3] = some (.bl true) := by
      rw [p_neI]
      have : ((xs.length : Int) == 3) = false := by
        rw [beq_eq_false_iff_ne]
        omega
      rw [this]; rfl
    have t2 : primF (.isi 2) [.tup xs] = some (.bl true) := id rfl
    have l1 : primF .len [.tup xs] = some (.int xs.length) := id rfl
    have hb : eventB ks.length (.tup xs) = false := by
      match xs, h3 with
      | [], _ => rfl
      | [x], _ => rfl
      | [x, y], _ => rfl
      | [x, y, z], h3 => exact absurd rfl h3
      | x :: y :: z :: u :: r, _ => rfl
    simp [bodyD, l1, n3, t2]
    exact h1 _ _ (bad hb)
  have hd1 := hd.1
  cases e <;> first | (cases hd1; done) | skip
  case tup xs =>
    match xs, hd with
    | [x, y, z], hd =>
      have fx : fine 1 x = true := fine_tup.mp hd.2.1 x (by simp)
      have fy : fine 1 y = true := fine_tup.mp hd.2.1 y (by simp)
      have fz : fine 1 z = true := fine_tup.mp hd.2.1 z (by simp)
      have vx := fine_val fx
      have vy := fine_val fy
      have vz := fine_val fz
      have t2 : primF (.isi 2) [.tup [x, y, z]] = some (.bl true) := id rfl
      have l1 : primF .len [.tup [x, y, z]] = some (.int 3) := id rfl
      have n3 : primF .ne [.int 3, .int 3] = some (.bl false) := by kernel_rfl
      have i0 : primF .idx [.tup [x, y, z], .int 0] = some x := id rfl
      have i1 : primF .idx [.tup [x, y, z], .int 1] = some y := id rfl
      have i2 : primF .idx [.tup [x, y, z], .int 2] = some z := id rfl
      have nz := notin_DU fz
      have sl := slc2 x y z
      have l0 : primF .len [.tup ks] = some (.int ks.length) := id rfl
      have e3 := eventB3 ks.length x y z
      cases hz2 : isDU z with
      | false =>
        rw [hz2] at nz e3
        simp [bodyD, l1, n3, t2, i2, nz, vz]
        exact h1 _ _ (bad e3)
      | true =>
        rw [hz2] at nz e3
        show wp (exSs (run fns W n) W (bodyD.take 2 ++ bodyD.drop 2)) _ _ _
        rw [q_app]
        generalize hT : nextQ (run fns W n) W (bodyD.drop 2) Q = T
        simp [bodyD, l1, n3, t2, i2, nz, vz, sl]
        refine lcInts x y _ _ _ _ _ _ vx vy ?_
        simp
        rw [← hT]
        by_cases hxy : ∃ t k, x = .int t ∧ y = .int k
        · obtain ⟨t, k, rfl, rfl⟩ := hxy
          have mn := min2_ t k
          have fl : [D.int t, .int k].filter isI = [.int t, .int k] := rfl
          have l2 : primF .len [.own [D.int t, .int k]] = some (.int 2) := id rfl
          rw [fl]
          by_cases ht : 0 ≤ t
          · by_cases hk0 : 0 ≤ k
            · have hmin : ¬ (min t k < 0) := by omega
              by_cases hkb : (ks.length : Int) ≤ k
              · have hb : eventB ks.length (.tup [.int t, .int k, z]) = false := by
                  rw [e3]
                  have : decide (k ≤ (ks.length : Int) - 1) = false := by simp; omega
                  simp [wholeB, this]
                simp [bodyD, l2, mn, hmin, i1, l0, hkb]
                exact h1 _ _ (bad hb)
              · have hb : eventB ks.length (.tup [.int t, .int k, z]) = true := by
                  rw [e3]
                  have : decide (k ≤ (ks.length : Int) - 1) = true := by simp; omega
                  simp [wholeB, ht, hk0, this]
                obtain ⟨t', k', w, he, _, _, _⟩ := eventB_form hb
                simp only [D.tup.injEq, List.cons.injEq, D.int.injEq, and_true] at he
                obtain ⟨rfl, rfl, rfl⟩ := he
                have hw : w = "down" ∨ w = "up" := by
                  have : ([D.str "down", .str "up"].any fun z => D.eqv z (.str w)) = true := hz2
                  simp [eqv_s] at this
                  rcases this with h | h
                  · exact .inl h.symm
                  · exact .inr h.symm
                have k0' : evK (.tup [.int t, .int k, .str w]) = k := rfl
                have t0' : evT (.tup [.int t, .int k, .str w]) = t := rfl
                have d0' : evDown (.tup [.int t, .int k, .str w]) = !(w == ("up" : Str)) := by
                  rcases hw with rfl | rfl <;> rfl
                have hlt2 := get_lt hi
                generalize hE : D.tup [.int t, .int k, .str w] = E at *
                have ve : val E = true := by rw [← hE]; rfl
                have hwr : lateE E (preE ds i) = false → wrongE ks.length i (preE ds i) dn (E :: ds.drop (i + 1)) = if dn.contains k != (w == ("up" : Str)) then .tup [.str "key", .int ii] else wrongE ks.length (i + 1) (some E) (if (w == ("up" : Str)) then dn.erase k else dn ++ [k]) (ds.drop (i + 1)) := by
                  intro hT
                  simp only [wrongE, hb, hT, d0', k0', hii]
                  cases dn.contains k <;> cases (w == ("up" : Str)) <;> rfl
                have rest : lateE E (preE ds i) = false → ∀ x5, wp (exSs (run fns W n) W (bodyD.drop 4)) [some (.tup ks), some (.frz ds), some (.own (dn.map D.int)), some (.int ii), some E, x5, none] s Q := by
                  intro hL x5
                  replace hwr := hwr hL
                  have c1 := in_own dn k
                  have m1 := mu_rem dn k
                  have m2 := mu_app (dn.map D.int) (.int k) (by simp; omega)
                  cases hc : dn.contains k <;> cases hu : (w == ("up" : Str)) <;> rw [hc, hu] at hwr <;> rw [hc] at c1
                  · have nb : primF .ne [.bl false, .bl false] = some (.bl false) := by kernel_rfl
                    simp [bodyD, ve, i1, i2, c1, hu, nb, m2]
                    have := h2 x5 (dn ++ [k]) hwr (by simp; omega) hb
                    simpa using this
                  · have nb : primF .ne [.bl false, .bl true] = some (.bl true) := by kernel_rfl
                    simp [bodyD, ve, i1, i2, c1, hu, nb]
                    exact h1 _ _ hwr
                  · have nb : primF .ne [.bl true, .bl false] = some (.bl true) := by kernel_rfl
                    simp [bodyD, ve, i1, i2, c1, hu, nb]
                    exact h1 _ _ hwr
                  · have nb : primF .ne [.bl true, .bl true] = some (.bl false) := by kernel_rfl
                    simp [bodyD, ve, i1, i2, c1, hu, nb, m1 hc]
                    refine h2 x5 (dn.erase k) hwr ?_ hb
                    have := List.length_erase_le (a := k) (l := dn)
                    omega
                show wp (exSs (run fns W n) W ((bodyD.drop 2).take 2 ++ bodyD.drop 4)) _ _ _
                rw [q_app]
                generalize hT2 : nextQ (run fns W n) W (bodyD.drop 4) Q = T2
                by_cases h0 : i = 0
                · subst h0
                  have h0i : ¬ (0 < ii) := by omega
                  simp [bodyD, ve, l2, mn, hmin, i1, l0, hkb, h0i]
                  rw [← hT2]
                  exact rest rfl _
                · have hi0 : (0 : Int) < ii := by omega
                  obtain ⟨q, hq⟩ : ∃ q, ds[i - 1]? = some q := ⟨_, List.getElem?_eq_getElem (by omega)⟩
                  have hpq : preE ds i = some q := by simp [preE, h0, hq]
                  obtain ⟨t', r, rfl, ht'⟩ := hpre q hpq
                  have e5 : primF .idx [.frz ds, .int (ii - 1)] = some (.tup (.int t' :: r)) := by
                    have := idx_f hq
                    rwa [show ((i - 1 : Nat) : Int) = ii - 1 by omega] at this
                  have e6 : L2.atI (D.int t' :: r) 0 = some (.int t') := atI_nat (i := 0) rfl
                  by_cases hlt : t < t'
                  · have hw : wrongE ks.length i (preE ds i) dn (E :: ds.drop (i + 1)) = .tup [.str "time", .int ii] := by simp [wrongE, lateE, hb, hpq, ht', t0', hlt, hii]
                    simp [bodyD, ve, l2, mn, hmin, i1, i0, l0, hkb, hi0, e5, e6, hlt]
                    rw [← hT2]
                    exact h1 _ _ hw
                  · simp [bodyD, ve, l2, mn, hmin, i1, i0, l0, hkb, hi0, e5, e6, hlt]
                    rw [← hT2]
                    exact rest (by simp [lateE, hpq, ht', t0', hlt]) _
            · have hmin : min t k < 0 := by omega
              have hb : eventB ks.length (.tup [.int t, .int k, z]) = false := by
                rw [e3]
                have : decide (k < 0) = true := by simp; omega
                simp [wholeB, this]
              simp [bodyD, l2, mn, hmin]
              exact h1 _ _ (bad hb)
          · have hmin : min t k < 0 := by omega
            have hb : eventB ks.length (.tup [.int t, .int k, z]) = false := by
              rw [e3]
              have : decide (t < 0) = true := by simp; omega
              simp [wholeB, this]
            simp [bodyD, l2, mn, hmin]
            exact h1 _ _ (bad hb)
        · have hb : eventB ks.length (.tup [x, y, z]) = false := by
            rw [e3]
            cases x <;> first | rfl | skip
            cases y <;> first | simp [wholeB]; done | skip
            exact absurd ⟨_, _, rfl, rfl⟩ hxy
          have hlen : ∃ m : Int, primF .len [.own ([x, y].filter isI)] = some (.int m) ∧ m < 2 := by
            refine ⟨_, rfl, ?_⟩
            have hI : ∀ z, isI z = true → ∃ t, z = .int t := fun z h => by cases z <;> first | exact ⟨_, rfl⟩ | cases h
            cases gx : isI x <;> cases gy : isI y <;> simp only [List.filter, gx, gy, List.length_cons, List.length_nil] <;> first | omega | skip
            obtain ⟨t, rfl⟩ := hI x gx
            obtain ⟨k, rfl⟩ := hI y gy
            exact absurd ⟨_, _, rfl, rfl⟩ hxy
          obtain ⟨m, hl1, hl2⟩ := hlen
          generalize [x, y].filter isI = F at *
          simp [bodyD, hl1, hl2]
          exact h1 _ _ (bad hb)
    | [], _ => exact short [] rfl (by simp)
    | [x], _ => exact short [x] rfl (by simp)
    | [x, y], _ => exact short [x, y] rfl (by show (2 : Nat) ≠ 3; decide)
    | x :: y :: z :: u :: r, _ => exact short (x :: y :: z :: u :: r) rfl (by show r.length + 1 + 1 + 1 + 1 ≠ 3; omega)
  all_goals
    simp [bodyD, isiD]
    exact h1 _ _ (bad rfl)
theorem eventsDue_ {fns : List Fn} {f : Nat} (gf : fns[f]? = some fn_law_events_due) (W n : Nat) (ks ds : List D) (s : Sto) (hk : ks.length ≤ 1000) (hz : ds.length < 1000000) (hd : ∀ d ∈ ds, evFine d) :
    run fns W (n + 1) f [.tup ks, .frz ds] s = .ok (wrongE ks.length 0 none [] ds) s := by
  refine ans_eq (ans_ofJ gf rfl fun K hK => ?_)
  simp [fn_law_events_due, isiD]
  refine wp_forJ (fun i en s' => s' = s ∧ ∃ dn u3 u4 u5, en = [some (.tup ks), some (.frz ds), some (.own (dn.map D.int)), u3, u4, u5, none] ∧ dn.length ≤ i ∧ wrongE ks.length 0 none [] ds = wrongE ks.length i (preE ds i) dn (ds.drop i) ∧ (∀ q, preE ds i = some q → ∃ t r, q = .tup (.int t :: r) ∧ evT q = t))
    ⟨rfl, [], _, _, _, rfl, Nat.le_refl _, rfl, (by intro q hq; cases hq)⟩ ?_ ?_
  · rintro i d0 en s' J hi ⟨rfl, dn, u3, u4, u5, rfl, hl, hw, hp⟩ hJ
    rw [enum_get] at hi
    obtain ⟨e, he, rfl⟩ : ∃ e, ds[i]? = some e ∧ .tup [.int i, e] = d0 := by
      cases h : ds[i]? with
      | none => rw [h] at hi; cases hi
      | some d => rw [h] at hi; exact ⟨d, rfl, Option.some.inj hi⟩
    have hdr := drop_get he
    rw [hdr] at hw
    obtain ⟨ii, hii⟩ : ∃ ii : Int, (i : Int) = ii := ⟨_, rfl⟩
    rw [hii]
    have hl2 : [D.int ii, e].length = [G.nm 3, .nm 4].length := rfl
    simp only [wp_calm, q_tp, hl2, if_true, q_gs1, q_gs0, q_nm, List.set_cons_succ, List.set_cons_zero]
    refine turnD W n i ii hii ks ds dn u5 e _ _ hk hz (hd e (List.mem_of_getElem? he)) he hl hp ?_ ?_
    · intro w en hw2
      exact hK _ _ ⟨by rw [hw]; exact hw2.symm, rfl⟩
    · intro x5 dn2 h1 h2 h3
      have hpe : preE ds (i + 1) = some e := by simp [preE, he]
      refine hJ _ _ ⟨rfl, dn2, _, _, _, rfl, h2, ?_, ?_⟩
      · rw [hw, h1, hpe]
      · intro q hq
        rw [hpe] at hq
        obtain rfl := Option.some.inj hq
        obtain ⟨t, k, x, rfl, _⟩ := eventB_form h3
        exact ⟨_, _, rfl, rfl⟩
  · rintro en s' ⟨rfl, dn, u3, u4, u5, rfl, hl, hw, hp⟩
    rw [enum_len, List.drop_length] at hw
    simp
    exact hK _ _ ⟨by rw [hw]; rfl, rfl⟩
end Mi
end
section
set_option Elab.async false
set_option maxRecDepth 100000
set_option linter.all false
namespace Mi
open PySem
/-! ### events: what follows from there being no fault -/
/-- the keys that are down behind the first k events -/
def dnAt (ds : List D) (k : Nat) : List Int := dnE [] (ds.take k)
theorem dnE_append : ∀ (a b : List D) (dn : List Int), dnE dn (a ++ b) = dnE (dnE dn a) b
  | [], b, dn => rfl
  | e :: a, b, dn => by simp only [List.cons_append, dnE, dnE_append a b]
theorem dnAt_succ {ds : List D} {k : Nat} {e : D} (h : ds[k]? = some e) : dnAt ds (k + 1) = if evDown e then dnAt ds k ++ [evK e] else (dnAt ds k).erase (evK e) := by
  unfold dnAt
  rw [List.take_succ, h, dnE_append]
  rfl
theorem dnAt_over {ds : List D} {k : Nat} (h : ds.length ≤ k) : dnAt ds (k + 1) = dnAt ds k := by
  unfold dnAt
  rw [List.take_of_length_le h, List.take_of_length_le (by omega)]
theorem good_at {b : Nat} {ds : List D} (h : wrongE b 0 none [] ds = .non) : ∀ k, k ≤ ds.length → wrongE b k (preE ds k) (dnAt ds k) (ds.drop k) = .non ∧ (dnAt ds k).Nodup
  | 0, _ => ⟨h, List.nodup_nil⟩
  | k + 1, hk => by
    obtain ⟨h1, h2⟩ := good_at h k (by omega)
    obtain ⟨e, he⟩ : ∃ e, ds[k]? = some e := ⟨_, List.getElem?_eq_getElem (by omega)⟩
    rw [drop_get he] at h1
    simp only [wrongE] at h1
    split at h1
    · cases h1
    · split at h1
      · cases h1
      · split at h1
        · cases h1
        · rename_i c1 c2 c3
          have hp : preE ds (k + 1) = some e := by simp [preE, he]
          rw [dnAt_succ he, hp]
          refine ⟨h1, ?_⟩
          cases hd : evDown e with
          | true =>
            simp only [if_true]
            rw [hd] at c3
            have : evK e ∉ dnAt ds k := by simpa using c3
            rw [List.nodup_append]
            exact ⟨h2, by simp, fun a ha b hb => by simp at hb; subst hb; exact fun z => this (z ▸ ha)⟩
          | false => simpa using h2.erase _
theorem good_ev {b : Nat} {ds : List D} (h : wrongE b 0 none [] ds = .non) {k : Nat} {e : D} (he : ds[k]? = some e) : eventB b e = true ∧ lateE e (preE ds k) = false ∧ (dnAt ds k).contains (evK e) = !evDown e := by
  obtain ⟨h1, _⟩ := good_at h k (Nat.le_of_lt (get_lt he))
  rw [drop_get he] at h1
  simp only [wrongE] at h1
  split at h1
  · cases h1
  · split at h1
    · cases h1
    · split at h1
      · cases h1
      · rename_i c1 c2 c3
        refine ⟨by simpa using c1, by simpa using c2, ?_⟩
        clear h1
        revert c3
        generalize (dnAt ds k).contains (evK e) = u
        generalize evDown e = v
        intro c3
        cases u <;> cases v <;> first | rfl | exact absurd rfl c3
theorem good_nodup {b : Nat} {ds : List D} (h : wrongE b 0 none [] ds = .non) {k : Nat} (hk : k ≤ ds.length) : (dnAt ds k).Nodup := (good_at h k hk).2
/-- behind an event -/
theorem dn_hit {b : Nat} {ds : List D} (h : wrongE b 0 none [] ds = .non) {k : Nat} {e : D} (he : ds[k]? = some e) : (dnAt ds (k + 1)).contains (evK e) = evDown e := by
  have hn := good_nodup h (Nat.le_of_lt (get_lt he))
  rw [dnAt_succ he]
  cases hd : evDown e with
  | true => simp
  | false =>
    simp only [Bool.false_eq_true, if_false]
    have := hn.not_mem_erase (a := evK e)
    simpa using this
theorem dn_miss {ds : List D} {k : Nat} {e : D} (he : ds[k]? = some e) {x : Int} (hx : evK e ≠ x) : (dnAt ds (k + 1)).contains x = (dnAt ds k).contains x := by
  rw [dnAt_succ he]
  have hx' : x ≠ evK e := fun z => hx z.symm
  cases hd : evDown e with
  | true => simp [hx']
  | false =>
    simp only [Bool.false_eq_true, if_false]
    rw [Bool.eq_iff_iff]
    simp [List.mem_erase_of_ne hx']
theorem dn_stay {ds : List D} {x : Int} {i : Nat} : ∀ n, (∀ m, i ≤ m → m < i + n → ∀ e, ds[m]? = some e → evK e ≠ x) → (dnAt ds (i + n)).contains x = (dnAt ds i).contains x
  | 0, _ => rfl
  | n + 1, h => by
    rw [← dn_stay n fun m h1 h2 => h m h1 (by omega)]
    rw [← Nat.add_assoc]
    cases he : ds[i + n]? with
    | none => rw [dnAt_over (List.getElem?_eq_none_iff.mp he)]
    | some e => exact dn_miss he (h (i + n) (by omega) (by omega) e he)
/-- of one key an up and a down take turns -/
theorem ev_alt {b : Nat} {ds : List D} (h : wrongE b 0 none [] ds = .non) {i j : Nat} {ei ej : D} (hi : ds[i]? = some ei) (hj : ds[j]? = some ej) (hij : i < j) (hk : evK ej = evK ei) (hn : ∀ m, i < m → m < j → ∀ e, ds[m]? = some e → evK e ≠ evK ei) : evDown ej = !evDown ei := by
  have h1 := dn_hit h hi
  have h2 := dn_stay (ds := ds) (x := evK ei) (i := i + 1) (j - (i + 1)) fun m a c => hn m (by omega) (by omega)
  rw [show i + 1 + (j - (i + 1)) = j by omega, h1] at h2
  have h3 := (good_ev h hj).2.2
  rw [hk, h2] at h3
  rw [h3]; simp
/-- an up and its key's next event, at most so much behind -/
def Pr (ds : List D) (b : Int) (i j : Nat) : Prop := i < j ∧ ∃ ei ej, ds[i]? = some ei ∧ ds[j]? = some ej ∧ evK ej = evK ei ∧ evDown ei = false ∧ (∀ m, i < m → m < j → ∀ e, ds[m]? = some e → evK e ≠ evK ei) ∧ 0 < b ∧ evT ej - evT ei ≤ b
def Bar (ds : List D) (b : Int) (k : Nat) : Prop := ∃ i j, Pr ds b i j ∧ (k = i ∨ k = j)
/-- the last up of a key ahead of the k-th event -/
def LastUp (ds : List D) (k : Nat) (x : Int) (i : Nat) : Prop := i < k ∧ ∃ e, ds[i]? = some e ∧ evK e = x ∧ evDown e = false ∧ ∀ m, i < m → m < k → ∀ e', ds[m]? = some e' → evK e' = x → evDown e' = true
theorem LastUp.uniq {ds : List D} {k : Nat} {x : Int} {i j : Nat} (h1 : LastUp ds k x i) (h2 : LastUp ds k x j) : i = j := by
  obtain ⟨a1, e1, b1, c1, d1, f1⟩ := h1
  obtain ⟨a2, e2, b2, c2, d2, f2⟩ := h2
  rcases Nat.lt_trichotomy i j with h | h | h
  · have := f1 j h a2 e2 b2 c2; rw [d2] at this; cases this
  · exact h
  · have := f2 i h a1 e1 b1 c1; rw [d1] at this; cases this
/-- ahead of a down stands the last up, and nothing of the key between -/
theorem LastUp.none_between {b : Nat} {ds : List D} (h : wrongE b 0 none [] ds = .non) {k i : Nat} {ek : D} (hk : ds[k]? = some ek) (hd : evDown ek = true) (hl : LastUp ds k (evK ek) i) : ∀ m, i < m → m < k → ∀ e, ds[m]? = some e → evK e ≠ evK ek := by
  obtain ⟨hik, ei, hi, hki, hui, hlast⟩ := hl
  intro m
  induction m using Nat.strongRecOn with
  | ind m ih =>
    intro hm1 hm2 e he hke
    -- the first such: it is a down; the k-th event is a down, too: an up stands between
    have hdm := hlast m hm1 hm2 e he hke
    have h1 := dn_hit h he
    -- from m on to k no up of this key: it stays down
    have h2 : ∀ n, m + 1 + n ≤ k → (dnAt ds (m + 1 + n)).contains (evK ek) = true := by
      intro n
      induction n with
      | zero => intro _; rw [Nat.add_zero, ← hke, h1, hdm]
      | succ n ihn =>
        intro hn
        have g := ihn (by omega)
        rw [← Nat.add_assoc]
        cases hq : ds[m + 1 + n]? with
        | none => rw [dnAt_over (List.getElem?_eq_none_iff.mp hq)]; exact g
        | some q =>
          by_cases hqk : evK q = evK ek
          · have := hlast (m + 1 + n) (by omega) (by omega) q hq hqk
            have h3 := (good_ev h hq).2.2
            rw [hqk, g, this] at h3
            cases h3
          · rw [dn_miss hq hqk]; exact g
    have h4 := h2 (k - (m + 1)) (by omega)
    rw [show m + 1 + (k - (m + 1)) = k by omega] at h4
    have h5 := (good_ev h hk).2.2
    rw [h4, hd] at h5
    cases h5
theorem Pr.lastUp {ds : List D} {b : Int} {i j : Nat} (h : Pr ds b i j) : ∃ ej, ds[j]? = some ej ∧ LastUp ds j (evK ej) i := by
  obtain ⟨hij, ei, ej, hi, hj, hk, hu, hn, _⟩ := h
  exact ⟨ej, hj, hij, ei, hi, hk.symm, hu, fun m h1 h2 e he hke => absurd (hke.trans hk) (hn m h1 h2 e he)⟩
theorem Pr.down {c : Nat} {ds : List D} (h : wrongE c 0 none [] ds = .non) {b : Int} {i j : Nat} (hp : Pr ds b i j) {ej : D} (hj : ds[j]? = some ej) : evDown ej = true := by
  obtain ⟨hij, ei, ej', hi, hj', hk, hu, hn, _⟩ := hp
  rw [hj] at hj'
  obtain rfl := Option.some.inj hj'
  rw [ev_alt h hi hj hij hk hn, hu]; rfl
end Mi
end
section
set_option Elab.async false
set_option maxRecDepth 100000
set_option linter.all false
namespace Mi
open PySem
/-! ### dicts -/
theorem valD_put (kvs : List (Ky × D)) (k k' : Ky) (v : D) : valD (putD kvs k v) k' = if k' = k then some v else valD kvs k' := by
  unfold putD
  by_cases h : (kvs.any fun kv => decide (kv.1 = k)) = true
  · rw [if_pos h]
    unfold valD
    induction kvs with
    | nil => cases h
    | cons kv r ih =>
      simp only [List.map_cons, List.find?_cons]
      by_cases e : kv.1 = k
      · by_cases e2 : k' = k
        · subst e2; simp [e]
        · have e3 : ¬ kv.1 = k' := fun z => e2 (z.symm.trans e)
          rw [if_neg e2]
          simp only [e, if_true]
          rw [decide_eq_false (show ¬ k = k' from fun z => e2 z.symm)]
          simp only []
          by_cases hr : (r.any fun kv => decide (kv.1 = k)) = true
          · have := ih hr
            rw [if_neg e2] at this
            exact this
          · congr 1
            have hm : r.map (fun kv => if kv.1 = k then (kv.1, v) else kv) = r := by
              conv => rhs; rw [← List.map_id r]
              refine List.map_congr_left fun kv hkv => ?_
              have : ¬ kv.1 = k := fun z => hr (List.any_eq_true.mpr ⟨kv, hkv, by simpa using z⟩)
              rw [if_neg this]; rfl
            rw [hm]
      · have hr : (r.any fun kv => decide (kv.1 = k)) = true := by simpa [e] using h
        have i := ih hr
        simp only [e, if_false]
        by_cases e3 : kv.1 = k'
        · have e2 : ¬ k' = k := fun z => e (e3.trans z)
          simp [e3, e2]
        · rw [decide_eq_false e3]
          simp only []
          exact i
  · rw [if_neg h]
    unfold valD
    rw [List.find?_append]
    have hn : ∀ kv ∈ kvs, ¬ kv.1 = k := fun kv hkv z => h (List.any_eq_true.mpr ⟨kv, hkv, by simpa using z⟩)
    by_cases e2 : k' = k
    · subst e2
      have : kvs.find? (fun kv => decide (kv.1 = k')) = none := by
        rw [List.find?_eq_none]
        intro kv hkv
        simpa using hn kv hkv
      simp [this]
    · have : ¬ k = k' := fun z => e2 z.symm
      simp [this, e2]
theorem putD_len (kvs : List (Ky × D)) (k : Ky) (v : D) : (putD kvs k v).length ≤ kvs.length + 1 := by
  unfold putD
  split <;> simp
/-! ### the two last objects of a store -/
theorem two_get0 (s : Sto) (a b : O) : (s ++ [a, b])[s.length]? = some a := by simp
theorem two_get1 (s : Sto) (a b : O) : (s ++ [a, b])[s.length + 1]? = some b := by
  rw [List.getElem?_append_right (by omega)]; simp
theorem two_set0 (s : Sto) (a b x : O) : (s ++ [a, b]).set s.length x = s ++ [x, b] := by simp
theorem two_set1 (s : Sto) (a b x : O) : (s ++ [a, b]).set (s.length + 1) x = s ++ [a, x] := by
  rw [List.set_append_right _ _ (by omega)]; simp
theorem two_dic0 (s : Sto) (a : List (Ky × D)) (b : O) : dicAt (s ++ [.dic a, b]) (.ref s.length) = some (s.length, a) := dicAt_ref (two_get0 ..)
theorem two_dic1 (s : Sto) (a : O) (b : List (Ky × D)) : dicAt (s ++ [a, .dic b]) (.ref (s.length + 1)) = some (s.length + 1, b) := dicAt_ref (two_get1 ..)
/-- 0=events 1=bounce 2=found 3=ups 4=k 5=time 6=key 7=way -/
def fn_bounces : Fn := ⟨2, 8, [.asg (.nm 2) .dnew, .asg (.nm 3) .dnew, .for_ (.tp [(.nm 4), (.tp [(.nm 5), (.nm 6), (.nm 7)])]) (.enum (.v 0)) [.ite (.prim .eq [(.v 7), (.k (.str "up"))]) [.asg (.dsub (.v 3) (.v 6)) (.v 4)] [.ite (.and_ (.dhas false (.v 6) (.v 3)) (.and_ (.prim .gt [(.v 1), (.k (.int 0))]) (.prim .le [(.prim .sub [(.v 5), (.prim .idx [(.prim .idx [(.v 0), (.dget (.v 3) (.v 6))]), (.k (.int 0))])]), (.v 1)]))) [.asg (.dsub (.v 2) (.dget (.v 3) (.v 6))) (.k (.bl true)), .asg (.dsub (.v 2) (.v 4)) (.k (.bl true))] []]], .ret (.mv 2)]⟩
/-- 0=events 1=bounce 2=barred 3=k 4=event -/
def fn_clean (bounces_ : Nat) : Fn := ⟨2, 5, [.asg (.nm 2) (.call bounces_ [(.v 0), (.v 1)]), .ret (.lc [3, 4] (.tp [(.nm 3), (.nm 4)]) (.enum (.v 0)) [(.dhas true (.v 3) (.v 2))] (.v 4))]⟩
theorem lastUp_hit {ds : List D} {k : Nat} {e : D} (he : ds[k]? = some e) (hu : evDown e = false) (x : Int) (i : Nat) : LastUp ds (k + 1) x i ↔ if evK e = x then i = k else LastUp ds k x i := by
  constructor
  · rintro ⟨h1, ei, h2, h3, h4, h5⟩
    by_cases hx : evK e = x
    · rw [if_pos hx]
      by_cases hik : i = k
      · exact hik
      · have := h5 k (by omega) (by omega) e he hx
        rw [hu] at this; cases this
    · rw [if_neg hx]
      have hik : i ≠ k := by rintro rfl; rw [he] at h2; cases h2; exact hx h3
      exact ⟨by omega, ei, h2, h3, h4, fun m a b => h5 m a (by omega)⟩
  · intro h
    by_cases hx : evK e = x
    · rw [if_pos hx] at h
      subst h
      exact ⟨by omega, e, he, hx, hu, fun m a b => absurd a (by omega)⟩
    · rw [if_neg hx] at h
      obtain ⟨h1, ei, h2, h3, h4, h5⟩ := h
      refine ⟨by omega, ei, h2, h3, h4, fun m a b e' he' hke => ?_⟩
      by_cases hm : m = k
      · subst hm; rw [he] at he'; cases he'; exact absurd hke hx
      · exact h5 m a (by omega) e' he' hke
theorem lastUp_pass {ds : List D} {k : Nat} {e : D} (he : ds[k]? = some e) (hd : evDown e = true) (x : Int) (i : Nat) : LastUp ds (k + 1) x i ↔ LastUp ds k x i := by
  constructor
  · rintro ⟨h1, ei, h2, h3, h4, h5⟩
    have hik : i ≠ k := by rintro rfl; rw [he] at h2; cases h2; rw [hd] at h4; cases h4
    exact ⟨by omega, ei, h2, h3, h4, fun m a b => h5 m a (by omega)⟩
  · rintro ⟨h1, ei, h2, h3, h4, h5⟩
    refine ⟨by omega, ei, h2, h3, h4, fun m a b e' he' hke => ?_⟩
    by_cases hm : m = k
    · subst hm; rw [he] at he'; cases he'; exact hd
    · exact h5 m a (by omega) e' he' hke
def UpsOk (ds : List D) (k : Nat) (up : List (Ky × D)) : Prop := ∀ x v, valD up (.inl x) = some v ↔ ∃ i : Nat, v = .int i ∧ LastUp ds k x i
def FndOk (ds : List D) (b : Int) (k : Nat) (fd : List (Ky × D)) : Prop := ∀ m : Nat, (valD fd (.inl (m : Int))).isSome = true ↔ ∃ i j, Pr ds b i j ∧ j < k ∧ (m = i ∨ m = j)
theorem good_form {c : Nat} {e : D} (h : eventB c e = true) : ∃ t k w, e = .tup [.int t, .int k, .str w] ∧ evDown e = (w == ("down" : Str)) ∧ (w == ("up" : Str)) = !evDown e ∧ evK e = k ∧ evT e = t ∧ 0 ≤ t ∧ 0 ≤ k ∧ k < c := by
  obtain ⟨t, k, w, rfl, h1, h2, h3⟩ := eventB_form h
  refine ⟨t, k, w, rfl, rfl, ?_, rfl, rfl, h1, h2, h3⟩
  unfold eventB at h
  simp only [Bool.and_eq_true] at h
  have := h.2.2
  simp [eqv_s] at this
  rcases this with h | h <;> subst h <;> rfl
theorem bounces_ {fns : List Fn} {f : Nat} (gf : fns[f]? = some fn_bounces) (W n c : Nat) (ds : List D) (b : Int) (s : Sto) (hz : ds.length < 1000000) (hg : wrongE c 0 none [] ds = .non) :
    ∃ fd up, run fns W (n + 1) f [.frz ds, .int b] s = .ok (.ref s.length) (s ++ [.dic fd, .dic up]) ∧ FndOk ds b ds.length fd := by
  suffices key : ans fns W (n + 1) f [.frz ds, .int b] s fun r s' => r = .ref s.length ∧ ∃ fd up, s' = s ++ [.dic fd, .dic up] ∧ FndOk ds b ds.length fd by
    obtain ⟨r, s', e, rfl, fd, up, rfl, h⟩ := ans_run key
    exact ⟨fd, up, e, h⟩
  refine ans_ofJ gf rfl fun K hK => ?_
  have hbig : big = 16777216 := rfl
  simp [fn_bounces]
  refine wp_forJ (fun k en s' => ∃ fd up u4 u5 u6 u7, en = [some (.frz ds), some (.int b), some (.ref s.length), some (.ref (s.length + 1)), u4, u5, u6, u7] ∧ s' = s ++ [.dic fd, .dic up] ∧ UpsOk ds k up ∧ FndOk ds b k fd ∧ up.length ≤ k ∧ fd.length ≤ 2 * k)
    ⟨[], [], _, _, _, _, rfl, rfl, ?_, ?_, Nat.le_refl _, Nat.le_refl _⟩ ?_ ?_
  · intro x v
    constructor
    · intro h; cases h
    · rintro ⟨i, _, h, _⟩; exact absurd h (Nat.not_lt_zero _)
  · intro m
    constructor
    · intro h; cases h
    · rintro ⟨i, j, _, h, _⟩; exact absurd h (Nat.not_lt_zero _)
  · rintro k d0 en s' J hi ⟨fd, up, u4, u5, u6, u7, rfl, rfl, hU, hF, hl1, hl2⟩ hJ
    rw [enum_get] at hi
    obtain ⟨e, he, rfl⟩ : ∃ e, ds[k]? = some e ∧ .tup [.int k, e] = d0 := by
      cases h : ds[k]? with
      | none => rw [h] at hi; cases hi
      | some d => rw [h] at hi; exact ⟨d, rfl, Option.some.inj hi⟩
    have hlt := get_lt he
    obtain ⟨hev, _, _⟩ := good_ev hg he
    obtain ⟨t, x, w, rfl, hdw, huw, hK', hT', _, _, _⟩ := good_form hev
    have q0 := two_dic0 s fd (.dic up)
    have q1 := two_dic1 s (.dic fd) up
    obtain ⟨ki, hki⟩ : ∃ ki : Int, (k : Int) = ki := ⟨_, rfl⟩
    rw [hki]
    cases hd : evDown (.tup [.int t, .int x, .str w]) with
    | false =>
      rw [hd] at huw
      have hw : w = "up" := by simpa using huw
      subst hw
      simp [q1, two_set1]
      refine ⟨by omega, hJ _ _ ⟨fd, _, _, _, _, _, rfl, rfl, ?_, ?_, ?_, by omega⟩⟩
      · intro y v
        rw [valD_put]
        by_cases hy : y = x
        · subst hy
          rw [if_pos rfl]
          constructor
          · intro h
            cases h
            exact ⟨k, by rw [hki], (lastUp_hit he hd y k).mpr (by rw [if_pos hK'])⟩
          · rintro ⟨i, rfl, h⟩
            rw [lastUp_hit he hd, if_pos hK'] at h
            rw [h, hki]
        · rw [if_neg (by intro h; exact hy (Sum.inl.inj h)), hU y v]
          simp only [lastUp_hit he hd, hK', if_neg (fun z : x = y => hy z.symm)]
      · intro m
        rw [hF m]
        constructor
        · rintro ⟨i, j, h1, h2, h3⟩; exact ⟨i, j, h1, by omega, h3⟩
        · rintro ⟨i, j, h1, h2, h3⟩
          refine ⟨i, j, h1, ?_, h3⟩
          by_cases hj : j = k
          · subst hj
            have := h1.down hg he
            rw [hd] at this; cases this
          · omega
      · have := putD_len up (.inl x) (.int ki); omega
    | true =>
      rw [hd] at huw hdw
      have hw : w = "down" := by simpa using hdw.symm
      subst hw
      have hU2 : ∀ up', UpsOk ds k up' → UpsOk ds (k + 1) up' := fun up' h y v => by
        rw [h y v]
        simp only [lastUp_pass he hd]
      -- what pairs end here
      have hpair : ∀ i, Pr ds b i k ↔ LastUp ds k x i ∧ 0 < b ∧ ∃ ei, ds[i]? = some ei ∧ t - evT ei ≤ b := by
        intro i
        constructor
        · intro h
          obtain ⟨ej, h1, h2⟩ := h.lastUp
          rw [he] at h1
          cases h1
          obtain ⟨hij, ei, ej, hi', hj', hk', hu', hn', hb', ht'⟩ := h
          rw [he] at hj'
          cases hj'
          exact ⟨by rw [hK'] at h2; exact h2, hb', ei, hi', by rw [hT'] at ht'; exact ht'⟩
        · rintro ⟨h1, h2, ei, h3, h4⟩
          have hn' := h1
          rw [← hK'] at hn'
          have hnb := LastUp.none_between hg he hd hn'
          obtain ⟨g1, ei', g2, g3, g4, g5⟩ := h1
          rw [h3] at g2
          cases g2
          exact ⟨g1, ei, _, h3, he, by rw [hK', g3], g4, fun m a c e' he' => by rw [g3, ← hK']; exact hnb m a c e' he', h2, by rw [hT']; exact h4⟩
      cases hv : valD up (.inl x) with
      | none =>
        simp [q0, q1, hv]
        refine hJ _ _ ⟨fd, up, _, _, _, _, rfl, rfl, hU2 up hU, ?_, by omega, by omega⟩
        intro m
        rw [hF m]
        constructor
        · rintro ⟨i, j, h1, h2, h3⟩; exact ⟨i, j, h1, by omega, h3⟩
        · rintro ⟨i, j, h1, h2, h3⟩
          refine ⟨i, j, h1, ?_, h3⟩
          by_cases hj : j = k
          · subst hj
            have := (hU x (.int i)).mpr ⟨i, rfl, ((hpair i).mp h1).1⟩
            rw [hv] at this; cases this
          · omega
      | some v =>
        obtain ⟨i, rfl, hlu⟩ := (hU x v).mp hv
        have hlu' := hlu
        obtain ⟨hik, ei, hi', hki', _, _⟩ := hlu'
        obtain ⟨ti, xi, wi, rfl, _, _, _, hTi, _, _, _⟩ := good_form (good_ev hg hi').1
        have a1 := idx_f hi'
        have a2 : primF .idx [.tup [.int ti, .int xi, .str wi], .int 0] = some (.int ti) := id rfl
        have step : ∀ fd', (∀ m : Nat, (valD fd' (.inl (m : Int))).isSome = true ↔ (valD fd (.inl (m : Int))).isSome = true ∨ (Pr ds b i k ∧ (m = i ∨ m = k))) → FndOk ds b (k + 1) fd' := by
          intro fd' h m
          rw [h m, hF m]
          constructor
          · rintro (⟨i', j, h1, h2, h3⟩ | ⟨h1, h2⟩)
            · exact ⟨i', j, h1, by omega, h3⟩
            · exact ⟨i, k, h1, by omega, h2⟩
          · rintro ⟨i', j, h1, h2, h3⟩
            by_cases hj : j = k
            · subst hj
              have := ((hpair i').mp h1).1.uniq hlu
              subst this
              exact .inr ⟨h1, h3⟩
            · exact .inl ⟨i', j, h1, by omega, h3⟩
        by_cases hb : 0 < b
        · by_cases ht : t - ti ≤ b
          · have hPr : Pr ds b i k := (hpair i).mpr ⟨hlu, hb, _, hi', by rw [hTi]; exact ht⟩
            have q2 : ∀ fd', dicAt (s ++ [.dic fd', .dic up]) (.ref s.length) = some (s.length, fd') := fun fd' => two_dic0 s fd' (.dic up)
            have q3 : ∀ fd', dicAt (s ++ [.dic fd', .dic up]) (.ref (s.length + 1)) = some (s.length + 1, up) := fun fd' => two_dic1 s (.dic fd') up
            have p1 := putD_len fd (.inl (i : Int)) (.bl true)
            have p2 := putD_len (putD fd (.inl (i : Int)) (.bl true)) (.inl ki) (.bl true)
            obtain ⟨ii, hii⟩ : ∃ ii : Int, (i : Int) = ii := ⟨_, rfl⟩
            rw [hii] at a1 hv p1 p2
            rw [p_idx_f] at a1
            simp [q2, q3, hv, a1, a2, hb, ht, two_set0]
            refine ⟨by omega, by omega, hJ _ _ ⟨_, up, _, _, _, _, rfl, rfl, hU2 up hU, step _ ?_, by omega, by omega⟩⟩
            intro m
            rw [valD_put, valD_put]
            have e1 : ((Sum.inl (m : Int) : Ky) = .inl ki) ↔ m = k := ⟨fun h => by have := Sum.inl.inj h; omega, fun h => by rw [h, hki]⟩
            have e2 : ((Sum.inl (m : Int) : Ky) = .inl ii) ↔ m = i := ⟨fun h => by have := Sum.inl.inj h; omega, fun h => by rw [h, hii]⟩
            by_cases h1 : m = k
            · rw [if_pos (e1.mpr h1)]; simp [h1, hPr]
            · rw [if_neg (fun z => h1 (e1.mp z))]
              by_cases h2 : m = i
              · rw [if_pos (e2.mpr h2)]; simp [h2, hPr]
              · rw [if_neg (fun z => h2 (e2.mp z))]; simp [h1, h2]
          · have hno : ¬ Pr ds b i k := fun h => by
              obtain ⟨_, _, ei, g1, g2⟩ := (hpair i).mp h
              rw [hi'] at g1
              cases g1
              rw [hTi] at g2
              exact ht g2
            obtain ⟨ii, hii⟩ : ∃ ii : Int, (i : Int) = ii := ⟨_, rfl⟩
            rw [hii] at a1 hv
            rw [p_idx_f] at a1
            simp [q0, q1, hv, a1, a2, hb, ht]
            exact hJ _ _ ⟨fd, up, _, _, _, _, rfl, rfl, hU2 up hU, step _ (fun m => by simp [hno]), by omega, by omega⟩
        · have hno : ¬ Pr ds b i k := fun h => hb ((hpair i).mp h).2.1
          simp [q0, q1, hv, hb]
          exact hJ _ _ ⟨fd, up, _, _, _, _, rfl, rfl, hU2 up hU, step _ (fun m => by simp [hno]), by omega, by omega⟩
  · rintro en s' ⟨fd, up, u4, u5, u6, u7, rfl, rfl, hU, hF, hl1, hl2⟩
    rw [enum_len] at hF
    simp
    exact hK _ _ ⟨rfl, fd, up, rfl, hF⟩
end Mi
end
section
set_option Elab.async false
set_option maxRecDepth 100000
set_option linter.all false
namespace Mi
open PySem
/-! ### a list without the barred places -/
def keepFrom (q : Nat → Bool) : Nat → List D → List D
  | _, [] => []
  | k, d :: r => if q k then keepFrom q (k + 1) r else d :: keepFrom q (k + 1) r
def sndD : D → D
  | .tup [_, e] => e
  | _ => .non
def fstI : D → Int
  | .tup [.int i, _] => i
  | _ => 0
def intD : D → Int
  | .int i => i
  | _ => 0
theorem keep_enum (q : Nat → Bool) : ∀ (ds : List D) (k : Nat), ((enumD k ds).filter fun d => !q (fstI d).toNat).map sndD = keepFrom q k ds
  | [], k => rfl
  | d :: r, k => by
    have e1 : fstI (.tup [.int (k : Int), d]) = k := rfl
    have e2 : sndD (.tup [.int (k : Int), d]) = d := rfl
    cases hq : q k with
    | true =>
      simp only [enumD, List.filter_cons, e1, Int.toNat_natCast, keepFrom, hq, Bool.not_true, Bool.false_eq_true, if_false, if_true]
      exact keep_enum q r (k + 1)
    | false => simp only [enumD, List.filter_cons, e1, Int.toNat_natCast, keepFrom, hq, Bool.not_false, if_true, List.map_cons, Bool.false_eq_true, if_false, keep_enum q r (k + 1), e2]
theorem keep_rng (q : Nat → Bool) (ds : List D) : ∀ (r : List D) (k : Nat), ds.drop k = r → (((List.range' k r.length).map fun i : Nat => D.int (i : Int)).filter fun d => !q (intD d).toNat).map (fun d => ds.getD (intD d).toNat .non) = keepFrom q k r
  | [], k, _ => rfl
  | d :: r, k, h => by
    have hk : ds[k]? = some d := by
      have := List.getElem?_drop (xs := ds) (i := k) (j := 0)
      rw [h] at this
      simpa using this.symm
    have hr : ds.drop (k + 1) = r := by rw [← List.drop_drop, h]; rfl
    have i := keep_rng q ds r (k + 1) hr
    have e1 : intD (.int (k : Int)) = k := rfl
    have e2 : ds.getD k .non = d := by rw [List.getD_eq_getElem?_getD, hk]; rfl
    cases hq : q k with
    | true =>
      simp only [List.length_cons, List.range'_succ, List.map_cons, List.filter_cons, e1, Int.toNat_natCast, keepFrom, hq, Bool.not_true, Bool.false_eq_true, if_false, if_true]
      exact i
    | false => simp only [List.length_cons, List.range'_succ, List.map_cons, List.filter_cons, e1, Int.toNat_natCast, keepFrom, hq, Bool.not_false, if_true, Bool.false_eq_true, if_false, i, e2]
theorem rngD_range' (lo n : Nat) : rngD lo n = (List.range' lo n).map fun i : Nat => D.int (i : Int) := by
  unfold rngD
  rw [List.range'_eq_map_range, List.map_map]
  refine List.map_congr_left fun i _ => ?_
  simp
theorem keep_congr {q q' : Nat → Bool} : ∀ (ds : List D) (k : Nat), (∀ m, k ≤ m → m < k + ds.length → q m = q' m) → keepFrom q k ds = keepFrom q' k ds
  | [], _, _ => rfl
  | d :: r, k, h => by
    simp only [keepFrom]
    rw [h k (Nat.le_refl _) (by simp), keep_congr r (k + 1) fun m h1 h2 => h m (by omega) (by simp only [List.length_cons]; omega)]
theorem keep_mem {q : Nat → Bool} : ∀ {ds : List D} {k : Nat} {d : D}, d ∈ keepFrom q k ds → d ∈ ds
  | [], _, _, h => by cases h
  | e :: r, k, d, h => by
    simp only [keepFrom] at h
    split at h
    · exact List.mem_cons_of_mem _ (keep_mem h)
    · rcases List.mem_cons.mp h with rfl | h
      · exact List.mem_cons_self
      · exact List.mem_cons_of_mem _ (keep_mem h)
theorem keep_len {q : Nat → Bool} : ∀ (ds : List D) (k : Nat), (keepFrom q k ds).length ≤ ds.length
  | [], _ => Nat.le_refl _
  | e :: r, k => by
    have := keep_len (q := q) r (k + 1)
    simp only [keepFrom]
    split
    · simp only [List.length_cons]; omega
    · simp only [List.length_cons]; omega
theorem enum_mem {ds : List D} {d : D} (h : d ∈ enumD 0 ds) : ∃ i e, d = .tup [.int ((i : Nat) : Int), e] ∧ ds[i]? = some e := by
  obtain ⟨i, hi⟩ := List.getElem?_of_mem h
  rw [enum_get] at hi
  cases he : ds[i]? with
  | none => rw [he] at hi; cases hi
  | some e => rw [he] at hi; exact ⟨i, e, (Option.some.inj hi).symm, he⟩
theorem ev_val {c : Nat} {e : D} (h : eventB c e = true) : val e = true := by
  obtain ⟨_, _, _, rfl, _⟩ := eventB_form h; rfl
/-- 0=layout 1=events 2=bounce -/
def fn_cleaned (must_events_ is_whole_ clean_ : Nat) : Fn := ⟨3, 3, [.ex (.call must_events_ [(.v 0), (.v 1)]), .ite (.not_ (.call is_whole_ [(.v 2), (.k (.int 0)), (.k (.int 50))])) [.raise "NoCount" [] []] [], .ret (.call clean_ [(.v 1), (.v 2)])]⟩
/-- 0=layout 1=events 2=wrong -/
def fn_must_events (events_wrong_ : Nat) : Fn := ⟨2, 3, [.asg (.nm 2) (.call events_wrong_ [(.v 0), (.v 1)]), .ite (.prim .notN [(.v 2)]) [.raise "NoEvents" ["wrong"] [(.v 2)]] []]⟩
/-- 0=_law_happened 1=_law_ticks 2=_law_found 3=_law_at_here 4=_law_behind 5=_law_time 6=_law_key 7=_law_side 8=_law_k -/
def fn_law_bounces : Fn := ⟨2, 9, [.asg (.nm 2) (.lst []), .for_ (.tp [(.nm 3), (.tp [(.nm 5), (.nm 6), (.nm 7)])]) (.enum (.v 0)) [.asg (.nm 4) (.lc [8] (.nm 8) (.rng2 (.prim .add [(.v 3), (.k (.int 1))]) (.prim .len [(.v 0)])) [(.prim .eq [(.prim .idx [(.prim .idx [(.v 0), (.v 8)]), (.k (.int 1))]), (.v 6)])] (.v 8)), .ite (.and_ (.prim .eq [(.v 7), (.k (.str "up"))]) (.and_ (.prim .ne [(.v 4), (.lst [])]) (.and_ (.prim .gt [(.v 1), (.k (.int 0))]) (.prim .le [(.prim .sub [(.prim .idx [(.prim .idx [(.v 0), (.prim .idx [(.v 4), (.k (.int 0))])]), (.k (.int 0))]), (.v 5)]), (.v 1)])))) [.asg (.nm 2) (.prim .add [(.v 2), (.lst [(.v 3), (.prim .idx [(.v 4), (.k (.int 0))])])])] []], .ret (.mv 2)]⟩
/-- 0=_law_happened 1=_law_ticks 2=_law_barred 3=_law_k -/
def fn_law_calm (_law_bounces_ : Nat) : Fn := ⟨2, 4, [.asg (.nm 2) (.call _law_bounces_ [(.v 0), (.v 1)]), .ret (.lc [3] (.nm 3) (.rng1 (.prim .len [(.v 0)])) [(.prim .notin [(.v 3), (.v 2)])] (.prim .idx [(.v 0), (.v 3)]))]⟩
/-- the places of an event's kept ones, told -/
def BarQ (ds : List D) (b : Int) (q : Nat → Bool) : Prop := ∀ m, m < ds.length → (q m = true ↔ Bar ds b m)
theorem BarQ.keep {ds : List D} {b : Int} {q q' : Nat → Bool} (h : BarQ ds b q) (h' : BarQ ds b q') : keepFrom q 0 ds = keepFrom q' 0 ds :=
  keep_congr ds 0 fun m _ hm => by
    rw [Bool.eq_iff_iff, h m (by omega), h' m (by omega)]
theorem Pr.lt {ds : List D} {b : Int} {i j : Nat} (h : Pr ds b i j) : j < ds.length := by
  obtain ⟨_, _, _, _, h, _⟩ := h
  exact get_lt h
theorem clean_ {fns : List Fn} {f g : Nat} (gf : fns[f]? = some (fn_clean g)) (gg : fns[g]? = some fn_bounces) (W n c : Nat) (ds : List D) (b : Int) (s : Sto) (hz : ds.length < 1000000) (hg : wrongE c 0 none [] ds = .non) :
    ∃ q t, run fns W (n + 2) f [.frz ds, .int b] s = .ok (.own (keepFrom q 0 ds)) (s ++ t) ∧ BarQ ds b q := by
  obtain ⟨fd, up, e1, hF⟩ := bounces_ gg W n c ds b s hz hg
  suffices key : ans fns W (n + 2) f [.frz ds, .int b] s fun r s' => r = .own (keepFrom (fun m => (valD fd (.inl (m : Int))).isSome) 0 ds) ∧ ∃ t, s' = s ++ t by
    obtain ⟨r, s', e, rfl, t, rfl⟩ := ans_run key
    refine ⟨_, t, e, fun m hm => ?_⟩
    rw [hF m]
    constructor
    · rintro ⟨i, j, h1, _, h3⟩; exact ⟨i, j, h1, h3⟩
    · rintro ⟨i, j, h1, h3⟩; exact ⟨i, j, h1, h1.lt, h3⟩
  refine ans_ofJ gf rfl fun K hK => ?_
  have q0 := two_dic0 s fd (.dic up)
  have hall := wrongE_all hg
  generalize hS : s ++ [O.dic fd, .dic up] = S at *
  have hbig : big = 16777216 := rfl
  simp [fn_clean, e1]
  refine wp_lcP (fun d => !(valD fd (.inl (((fstI d).toNat : Nat) : Int))).isSome) sndD (by rw [enum_len]; omega) ?_ ?_
  · intro d hd
    obtain ⟨i, e, rfl, he⟩ := enum_mem hd
    have ve := ev_val (hall e (List.mem_of_getElem? he))
    obtain ⟨ii, hii⟩ : ∃ ii : Int, (i : Int) = ii := ⟨_, rfl⟩
    have h2 : (((fstI (.tup [.int ii, e])).toNat : Nat) : Int) = ii := by simp only [fstI]; omega
    rw [hii, h2]
    cases hv : (valD fd (.inl ii)).isSome <;> simp [q0, hv, ve, sndD]
  · rw [keep_enum fun m => (valD fd (.inl (m : Int))).isSome]
    simp
    exact hK _ _ ⟨rfl, _, hS.symm⟩
/-! ### the reference -/
def sameK (ds : List D) (x : Int) (j : Nat) : Bool := match ds[j]? with
  | some e => decide (evK e = x)
  | none => false
def jsOf (ds : List D) (i : Nat) (x : Int) : List Nat := (List.range' (i + 1) (ds.length - (i + 1))).filter (sameK ds x)
theorem js_none {ds : List D} {i : Nat} {x : Int} (h : jsOf ds i x = []) : ∀ m, i < m → ∀ e, ds[m]? = some e → evK e ≠ x := by
  intro m hm e he hx
  have hl := get_lt he
  have : m ∈ jsOf ds i x := by
    unfold jsOf
    rw [List.mem_filter]
    exact ⟨by rw [List.mem_range'_1]; omega, by simp [sameK, he, hx]⟩
  rw [h] at this
  cases this
theorem js_some {ds : List D} {i j : Nat} {r : List Nat} {x : Int} (h : jsOf ds i x = j :: r) : i < j ∧ (∃ e, ds[j]? = some e ∧ evK e = x) ∧ ∀ m, i < m → m < j → ∀ e, ds[m]? = some e → evK e ≠ x := by
  have h1 : (jsOf ds i x).head? = some j := by rw [h]; rfl
  unfold jsOf at h1
  rw [List.head?_filter, List.find?_range'_eq_some] at h1
  obtain ⟨h2, h3, h4⟩ := h1
  rw [List.mem_range'_1] at h3
  refine ⟨by omega, ?_, fun m a b e he hx => ?_⟩
  · unfold sameK at h2
    split at h2
    · rename_i e he; exact ⟨e, he, by simpa using h2⟩
    · cases h2
  · have := h4 m (by omega) b
    simp [sameK, he, hx] at this
theorem js_filter (ds : List D) (i : Nat) (x : Int) : (((rngD ((i : Int) + 1) (ds.length - (i + 1))).filter fun d => sameK ds x (intD d).toNat).map fun d => d) = (jsOf ds i x).map fun j : Nat => D.int (j : Int) := by
  have := rngD_range' (i + 1) (ds.length - (i + 1))
  rw [show ((i + 1 : Nat) : Int) = (i : Int) + 1 by omega] at this
  rw [this, List.map_id', List.filter_map]
  rfl
theorem lawBounces_ {fns : List Fn} {f : Nat} (gf : fns[f]? = some fn_law_bounces) (W n c : Nat) (ds : List D) (b : Int) (s : Sto) (hz : ds.length < 1000000) (hg : wrongE c 0 none [] ds = .non) :
    ∃ L : List Int, run fns W (n + 1) f [.frz ds, .int b] s = .ok (.own (L.map D.int)) s ∧ L.length ≤ 2 * ds.length ∧ BarQ ds b fun m => L.contains (m : Int) := by
  have hall := wrongE_all hg
  suffices key : ans fns W (n + 1) f [.frz ds, .int b] s fun r s' => ∃ L : List Int, r = .own (L.map D.int) ∧ s' = s ∧ L.length ≤ 2 * ds.length ∧ BarQ ds b fun m => L.contains (m : Int) by
    obtain ⟨r, s', e, L, rfl, rfl, h⟩ := ans_run key
    exact ⟨L, e, h⟩
  refine ans_ofJ gf rfl fun K hK => ?_
  have hbig : big = 16777216 := rfl
  simp [fn_law_bounces]
  refine wp_forJ (fun k en s' => s' = s ∧ ∃ (L : List Int) (u3 u4 u5 u6 u7 : Option D), en = [some (.frz ds), some (.int b), some (.own (L.map D.int)), u3, u4, u5, u6, u7, none] ∧ L.length ≤ 2 * k ∧ ∀ m : Nat, L.contains (m : Int) = true ↔ ∃ i j, Pr ds b i j ∧ i < k ∧ (m = i ∨ m = j))
    ⟨rfl, [], _, _, _, _, _, rfl, Nat.le_refl _, ?_⟩ ?_ ?_
  · intro m
    constructor
    · intro h; cases h
    · rintro ⟨i, j, _, h, _⟩; exact absurd h (Nat.not_lt_zero _)
  · rintro k d0 en s' J hi ⟨rfl, L, u3, u4, u5, u6, u7, rfl, hl, hF⟩ hJ
    rw [enum_get] at hi
    obtain ⟨e, he, rfl⟩ : ∃ e, ds[k]? = some e ∧ .tup [.int k, e] = d0 := by
      cases h : ds[k]? with
      | none => rw [h] at hi; cases hi
      | some d => rw [h] at hi; exact ⟨d, rfl, Option.some.inj hi⟩
    obtain ⟨ki, hki⟩ : ∃ ki : Int, (k : Int) = ki := ⟨_, rfl⟩
    rw [hki]
    clear hi
    have hlt := get_lt he
    obtain ⟨hev, _, _⟩ := good_ev hg he
    obtain ⟨t, x, w, rfl, hdw, huw, hK', hT', _, _, _⟩ := good_form hev
    -- what pairs begin here
    have hpair : ∀ j, Pr ds b k j ↔ evDown (.tup [.int t, .int x, .str w]) = false ∧ 0 < b ∧ ∃ r ej, jsOf ds k x = j :: r ∧ ds[j]? = some ej ∧ evT ej - t ≤ b := by
      intro j
      constructor
      · rintro ⟨hkj, ei, ej, h1, h2, h3, h4, h5, h6, h7⟩
        rw [he] at h1
        cases h1
        rw [hK'] at h3 h5
        rw [hT'] at h7
        refine ⟨h4, h6, ?_⟩
        cases hjs : jsOf ds k x with
        | nil => exact absurd h3 (js_none hjs j hkj ej h2)
        | cons j' r =>
          obtain ⟨g1, ⟨e', g2, g3⟩, g4⟩ := js_some hjs
          have : j' = j := by
            rcases Nat.lt_trichotomy j' j with h | h | h
            · exact absurd g3 (h5 j' g1 h e' g2)
            · exact h
            · exact absurd h3 (g4 j hkj h ej h2)
          subst this
          exact ⟨r, ej, rfl, h2, h7⟩
      · rintro ⟨h1, h2, r, ej, h3, h4, h5⟩
        obtain ⟨g1, ⟨e', g2, g3⟩, g4⟩ := js_some h3
        rw [h4] at g2
        cases g2
        exact ⟨g1, _, ej, he, h4, by rw [hK', g3], h1, fun m a c e' he' => by rw [hK']; exact g4 m a c e' he', h2, by rw [hT']; exact h5⟩
    have step : ∀ L' : List Int, (∀ m : Nat, L'.contains (m : Int) = true ↔ L.contains (m : Int) = true ∨ ∃ j, Pr ds b k j ∧ (m = k ∨ m = j)) → ∀ m : Nat, L'.contains (m : Int) = true ↔ ∃ i j, Pr ds b i j ∧ i < k + 1 ∧ (m = i ∨ m = j) := by
      intro L' h m
      rw [h m, hF m]
      constructor
      · rintro (⟨i, j, h1, h2, h3⟩ | ⟨j, h1, h2⟩)
        · exact ⟨i, j, h1, by omega, h3⟩
        · exact ⟨k, j, h1, by omega, h2⟩
      · rintro ⟨i, j, h1, h2, h3⟩
        by_cases hik : i = k
        · subst hik; exact .inr ⟨j, h1, h3⟩
        · exact .inl ⟨i, j, h1, by omega, h3⟩
    have hjf := js_filter ds k x
    have hjl : (jsOf ds k x).length ≤ ds.length := by
      unfold jsOf
      exact Nat.le_trans (List.length_filter_le _ _) (by simp)
    rw [hki] at hjf
    have r1 : fit62 (ki + 1) = true := fit_int (by omega) (by omega)
    have r2 : fit62 (ds.length : Int) = true := fit_int (by omega) (by omega)
    have rg := rngO2_i (ki + 1) ds.length r1 r2
    rw [show ((ds.length : Int) - (ki + 1)).toNat = ds.length - (k + 1) by omega] at rg
    show wp _ _ _ _
    simp [rg]
    refine wp_lcP (fun d => sameK ds x (intD d).toNat) (fun d => d) (by rw [rngD_len]; omega) ?_ ?_
    · intro d hd
      obtain ⟨m, hm⟩ := List.getElem?_of_mem hd
      rw [rngD_get] at hm
      split at hm
      · obtain rfl := (Option.some.inj hm).symm
        obtain ⟨e', he'⟩ : ∃ e', ds[k + 1 + m]? = some e' := ⟨_, List.getElem?_eq_getElem (by omega)⟩
        obtain ⟨t', x', w', rfl, _, _, hk2, _, _, _, _⟩ := good_form (hall e' (List.mem_of_getElem? he'))
        obtain ⟨mi, hmi⟩ : ∃ mi : Int, ((k + 1 + m : Nat) : Int) = mi := ⟨_, rfl⟩
        have a1 := idx_f he'
        rw [hmi] at a1
        rw [p_idx_f] at a1
        have hmi2 : ki + 1 + (m : Int) = mi := by omega
        have a2 : sameK ds x (intD (.int mi)).toNat = (x' == x) := by
          have : (intD (.int mi)).toNat = k + 1 + m := by simp only [intD]; omega
          rw [this]
          simp only [sameK, he', hk2]
          rfl
        rw [hmi2, a2]
        cases hxx : (x' == x) <;> simp [a1, hxx]
      · cases hm
    · rw [hjf]
      cases hjs : jsOf ds k x with
      | nil =>
        have c1 : primF .ne [.own [], .own []] = some (.bl false) := by kernel_rfl
        have hno : ∀ j, ¬ Pr ds b k j := fun j h => by
          obtain ⟨_, _, r, _, h3, _⟩ := (hpair j).mp h
          rw [hjs] at h3; cases h3
        cases hu : (w == ("up" : Str)) <;> simp [hu, c1]
        · exact hJ _ _ ⟨rfl, L, _, _, _, _, _, rfl, by omega, step L fun m => by simp [hno]⟩
        · exact hJ _ _ ⟨rfl, L, _, _, _, _, _, rfl, by omega, step L fun m => by simp [hno]⟩
      | cons j r =>
        obtain ⟨g1, ⟨ej, g2, g3⟩, g4⟩ := js_some hjs
        obtain ⟨tj, xj, wj, rfl, _, _, hkj, htj, _, _, _⟩ := good_form (hall ej (List.mem_of_getElem? g2))
        have c1 : primF .ne [.own ((j :: r).map fun j : Nat => D.int (j : Int)), .own []] = some (.bl true) := own_ne_nil _ (plains_of fun d hd => by
          obtain ⟨_, _, rfl⟩ := List.mem_map.mp hd; rfl)
        obtain ⟨ji, hji⟩ : ∃ ji : Int, (j : Int) = ji := ⟨_, rfl⟩
        have c2 : L2.atI ((j :: r).map fun j : Nat => D.int (j : Int)) 0 = some (.int ji) := by rw [← hji, List.map_cons]; exact at0 _ _
        have a1 := idx_f g2
        rw [hji, p_idx_f] at a1
        generalize hB : (j :: r).map (fun j : Nat => D.int (j : Int)) = B at *
        have hno1 : evDown (.tup [.int t, .int x, .str w]) = true → ∀ j, ¬ Pr ds b k j := fun h j h2 => by
          have := ((hpair j).mp h2).1
          rw [h] at this; cases this
        cases hu : (w == ("up" : Str)) with
        | false =>
          rw [hu] at huw
          have hd : evDown (.tup [.int t, .int x, .str w]) = true := by simpa using huw
          simp [hu]
          exact hJ _ _ ⟨rfl, L, _, _, _, _, _, rfl, by omega, step L fun m => by simp [hno1 hd]⟩
        | true =>
          rw [hu] at huw
          have hd : evDown (.tup [.int t, .int x, .str w]) = false := by simpa using huw
          by_cases hb : 0 < b
          · by_cases ht : tj - t ≤ b
            · have hPr : Pr ds b k j := (hpair j).mpr ⟨hd, hb, r, _, hjs, g2, by rw [htj]; exact ht⟩
              have hun : ∀ j', Pr ds b k j' → j' = j := fun j' h => by
                obtain ⟨_, _, r', _, h3, _⟩ := (hpair j').mp h
                rw [hjs] at h3
                exact (List.cons.inj h3).1.symm
              have c3 := p_addO (L.map D.int) [.int ki, .int ji] (by simp; omega)
              simp [hu, c1, c2, a1, hb, ht, c3]
              refine hJ _ _ ⟨rfl, L ++ [ki, ji], _, _, _, _, _, by rw [List.map_append]; rfl, by simp; omega, step _ fun m => ?_⟩
              rw [List.contains_eq_mem, List.contains_eq_mem]
              simp only [decide_eq_true_eq, List.mem_append, List.mem_cons, List.not_mem_nil, or_false]
              constructor
              · rintro (h | h | h)
                · exact .inl h
                · exact .inr ⟨j, hPr, .inl (by omega)⟩
                · exact .inr ⟨j, hPr, .inr (by omega)⟩
              · rintro (h | ⟨j', h1, h2⟩)
                · exact .inl h
                · have := hun j' h1
                  subst this
                  rcases h2 with h2 | h2
                  · exact .inr (.inl (by omega))
                  · exact .inr (.inr (by omega))
            · have hno : ∀ j', ¬ Pr ds b k j' := fun j' h => by
                obtain ⟨_, _, r', e', h3, h4, h5⟩ := (hpair j').mp h
                rw [hjs] at h3
                cases h3
                rw [g2] at h4
                cases h4
                rw [htj] at h5
                exact ht h5
              simp [hu, c1, c2, a1, hb, ht]
              exact hJ _ _ ⟨rfl, L, _, _, _, _, _, rfl, by omega, step L fun m => by simp [hno]⟩
          · have hno : ∀ j', ¬ Pr ds b k j' := fun j' h => hb ((hpair j').mp h).2.1
            simp [hu, c1, hb]
            exact hJ _ _ ⟨rfl, L, _, _, _, _, _, rfl, by omega, step L fun m => by simp [hno]⟩
  · rintro en s' ⟨rfl, L, u3, u4, u5, u6, u7, rfl, hl, hF⟩
    rw [enum_len] at hl hF
    simp
    refine hK _ _ ⟨L, rfl, rfl, hl, fun m hm => ?_⟩
    show L.contains (m : Int) = true ↔ _
    rw [hF m]
    constructor
    · rintro ⟨i, j, h1, _, h3⟩; exact ⟨i, j, h1, h3⟩
    · rintro ⟨i, j, h1, h3⟩; exact ⟨i, j, h1, by have := h1.lt; have := h1.1; omega, h3⟩
theorem notin_own (ns : List Int) (k : Int) : primF .notin [.int k, .own (ns.map D.int)] = some (.bl (!ns.contains k)) := by
  show pIn true (.int k) (.own (ns.map D.int)) = _
  simp only [pIn, D.seq?, cmpOk, D.plain, D.py, PyData.depth, plains_ints, any_ints]; simp
theorem calm_ {fns : List Fn} {f g : Nat} (gf : fns[f]? = some (fn_law_calm g)) (gg : fns[g]? = some fn_law_bounces) (W n c : Nat) (ds : List D) (b : Int) (s : Sto) (hz : ds.length < 1000000) (hg : wrongE c 0 none [] ds = .non) :
    ∃ q, run fns W (n + 2) f [.frz ds, .int b] s = .ok (.own (keepFrom q 0 ds)) s ∧ BarQ ds b q := by
  obtain ⟨L, e1, hl, hF⟩ := lawBounces_ gg W n c ds b s hz hg
  refine ⟨_, ans_eq (ans_ofJ gf rfl fun K hK => ?_), hF⟩
  have hall := wrongE_all hg
  have hbig : big = 16777216 := rfl
  have rg := rngO_i ds.length (fit_int (by omega) (by omega))
  rw [Int.toNat_natCast] at rg
  simp [fn_law_calm, e1, rg]
  refine wp_lcP (fun d => !L.contains (((intD d).toNat : Nat) : Int)) (fun d => ds.getD (intD d).toNat .non) (by rw [rngD_len]; omega) ?_ ?_
  · intro d hd
    obtain ⟨m, hm⟩ := List.getElem?_of_mem hd
    rw [rngD_get] at hm
    split at hm
    · obtain rfl := (Option.some.inj hm).symm
      obtain ⟨e', he'⟩ : ∃ e', ds[m]? = some e' := ⟨_, List.getElem?_eq_getElem (by omega)⟩
      have ve := ev_val (hall e' (List.mem_of_getElem? he'))
      obtain ⟨mi, hmi⟩ : ∃ mi : Int, (m : Int) = mi := ⟨_, rfl⟩
      have a1 := idx_f he'
      rw [hmi, p_idx_f] at a1
      have hmi2 : 0 + (m : Int) = mi := by omega
      have h2 : (((intD (.int mi)).toNat : Nat) : Int) = mi := by simp only [intD]; omega
      have h3 : (intD (.int mi)).toNat = m := by simp only [intD]; omega
      have h4 : ds.getD m .non = e' := by rw [List.getD_eq_getElem?_getD, he']; rfl
      have c1 := notin_own L mi
      rw [hmi2, h2, h3, h4]
      cases hc : L.contains mi <;> rw [hc] at c1 <;> simp [c1, a1, ve]
    · cases hm
  · have := keep_rng (fun m => L.contains (m : Int)) ds ds 0 rfl
    rw [← rngD_range' 0 ds.length] at this
    rw [show ((0 : Nat) : Int) = 0 from rfl] at this
    rw [this]
    generalize keepFrom (fun m => L.contains (m : Int)) 0 ds = R at *
    simp
    exact hK _ _ ⟨rfl, rfl⟩
end Mi
end
section
set_option Elab.async false
set_option maxRecDepth 100000
set_option linter.all false
namespace Mi
open PySem
/-- xs.extend(ys), ys this place's own -/
def extQ (en : Env) (s : Sto) (i : Nat) (d : D) (Q : D → Env → Sto → Prop) (u : U Q := .mk) : Prop := match en[i]?, d with
  | some (some (.own xs)), .own ys => xs.length + ys.length ≤ big ∧ Q .non (en.set i (some (.own (xs ++ ys)))) s
  | _, _ => False
section
variable (cf : Calls) (en : Env) (s : Sto)
theorem w0_deqM (x) (Q : D → Env → Sto → Prop) : W0.wp (deqM x) en s Q = W0.optQ (dicAt s x) fun p => Q (.bl p.2.isEmpty) en s := by
  unfold deqM W0.wp W0.optQ
  simp only []
  cases h1 : dicAt s x <;> rfl
theorem w0_dsortM (x) (Q : D → Env → Sto → Prop) : W0.wp (dsortM x) en s Q = W0.optQ (dicAt s x) fun p => W0.optQ (allI (fun kv : Ky × D => kyI kv.1) p.2) fun ns => ns.length < 64 ∧ Q (.own ((sortI ns).map .int)) en s := by
  unfold dsortM W0.wp W0.optQ
  simp only []
  cases h1 : dicAt s x with
  | none => rfl
  | some p =>
    simp only []
    cases h2 : allI (fun kv : Ky × D => kyI kv.1) p.2 with
    | none => rfl
    | some ns => by_cases h3 : ns.length < 64 <;> simp [h3]
theorem w0_deq0 (t) (Q : D → Env → Sto → Prop) : W0.wp (ev2 cf (.deq0 t)).1 en s Q = W0.wp (ev2 cf t).1 en s fun x en s => W0.optQ (dicAt s x) fun p => Q (.bl p.2.isEmpty) en s := by
  show W0.wp (M.bind _ _) en s Q = _
  simp only [W0.wp_bind, w0_deqM]
theorem w0_dsort (t) (Q : D → Env → Sto → Prop) : W0.wp (ev2 cf (.dsort t)).1 en s Q = W0.wp (ev2 cf t).1 en s fun x en s => W0.optQ (dicAt s x) fun p => W0.optQ (allI (fun kv : Ky × D => kyI kv.1) p.2) fun ns => ns.length < 64 ∧ Q (.own ((sortI ns).map .int)) en s := by
  show W0.wp (M.bind _ _) en s Q = _
  simp only [W0.wp_bind, w0_dsortM]
theorem w0_extM (i d) (Q : D → Env → Sto → Prop) : W0.wp (extM i d) en s Q = extQ en s i d Q := by
  unfold extM extQ W0.wp
  simp only []
  cases h : en[i]? with
  | none => rfl
  | some o =>
    cases o with
    | none => rfl
    | some x =>
      cases x <;> first | rfl | skip
      cases d <;> first | rfl | skip
      rename_i xs ys
      simp only []
      by_cases h3 : xs.length + ys.length ≤ big
      · rw [if_pos h3]
        exact propext ⟨fun h => ⟨h3, h⟩, fun h => h.2⟩
      · rw [if_neg h3]
        exact propext ⟨fun h => h.elim, fun h => h3 h.1⟩
theorem w0_ext (i x) (Q : D → Env → Sto → Prop) : W0.wp (ev2 cf (.ext i x)).1 en s Q = W0.getQ en[i]? fun d0 => W0.wp (lookL d0) en s fun _ en s => W0.wp (ev2 cf x).1 en s fun d en s => extQ en s i d Q := by
  show W0.wp (M.bind _ _) en s Q = _
  simp only [W0.wp_bind, W0.wp_get, w0_extM]
end
section
variable {cf : Calls} {W : Nat} {en : Env} {s : Sto}
@[simp ↓] theorem q_deq0 (t) (Q : D → Env → Sto → Prop) : wp (ev2 cf (.deq0 t)).1 en s Q = wp (ev2 cf t).1 en s fun x en s => optQ (dicAt s x) fun p => Q (.bl p.2.isEmpty) en s := w0_deq0 ..
@[simp ↓] theorem q_dsort (t) (Q : D → Env → Sto → Prop) : wp (ev2 cf (.dsort t)).1 en s Q = wp (ev2 cf t).1 en s fun x en s => optQ (dicAt s x) fun p => optQ (allI (fun kv : Ky × D => kyI kv.1) p.2) fun ns => ns.length < 64 ∧ Q (.own ((sortI ns).map .int)) en s := w0_dsort ..
@[simp ↓] theorem qt_deq0 (t) (Q : Bool → Env → Sto → Prop) : wp (ev2 cf (.deq0 t)).2 en s Q = wp (ev2 cf (.deq0 t)).1 en s fun d en s => optQ (truthy (derefD s d)) fun b => Q b en s := W0.qt_vt cf en s Q rfl
@[simp ↓] theorem o_dsort (a es) (Q : List D → Env → Sto → Prop) : wp (ops cf (.dsort a :: es)) en s Q = wp (ev2 cf (.dsort a)).1 en s fun d en s => wp (ops cf es) en s fun ds en s => Q (d :: ds) en s := W0.q_opB cf en s Q (.dsort a) _ es fun _ => rfl
@[simp ↓] theorem o_lkd (i x es) (Q : List D → Env → Sto → Prop) : wp (ops cf (.lkd i x :: es)) en s Q = wp (ev2 cf (.lkd i x)).1 en s fun d en s => wp (ops cf es) en s fun ds en s => Q (d :: ds) en s := W0.q_opB cf en s Q (.lkd i x) _ es fun _ => rfl
@[simp ↓] theorem o_deq0 (a es) (Q : List D → Env → Sto → Prop) : wp (ops cf (.deq0 a :: es)) en s Q = wp (ev2 cf (.deq0 a)).1 en s fun d en s => wp (ops cf es) en s fun ds en s => Q (d :: ds) en s := W0.q_opB cf en s Q (.deq0 a) _ es fun _ => rfl
@[simp ↓] theorem qt_lkd (i x) (Q : Bool → Env → Sto → Prop) : wp (ev2 cf (.lkd i x)).2 en s Q = wp (ev2 cf (.lkd i x)).1 en s fun d en s => optQ (truthy (derefD s d)) fun b => Q b en s := W0.qt_vt cf en s Q rfl
@[simp ↓] theorem q_ext (i x) (Q : D → Env → Sto → Prop) : wp (ev2 cf (.ext i x)).1 en s Q = getQ en[i]? fun d0 => wp (lookL d0) en s fun _ en s => wp (ev2 cf x).1 en s fun d en s => extQ en s i d Q := w0_ext ..
theorem extQ_own {i : Nat} {xs ys : List D} {Q : D → Env → Sto → Prop} (h : en[i]? = some (some (.own xs))) (hl : xs.length + ys.length ≤ big) (hq : Q .non (en.set i (some (.own (xs ++ ys)))) s) : extQ en s i (.own ys) Q := by
  unfold extQ
  rw [h]
  exact ⟨hl, hq⟩
end
/-! ### sorted ints -/
theorem srt_perm (ns : List Int) : (sortI ns).Perm ns := List.mergeSort_perm _ _
theorem srt_pair (ns : List Int) : (sortI ns).Pairwise (· ≤ ·) := by
  have h := List.pairwise_mergeSort (le := fun a b : Int => decide (a ≤ b)) (fun a b c h1 h2 => by simp only [decide_eq_true_eq] at *; omega) (fun a b => by simp only [Bool.or_eq_true, decide_eq_true_eq]; omega) ns
  exact h.imp (by simp)
theorem srt_one : ∀ {a b : List Int}, a.Perm b → a.Pairwise (· < ·) → b.Pairwise (· ≤ ·) → a = b
  | [], b, h, _, _ => (List.nil_perm.mp h).symm
  | x :: a, [], h, _, _ => absurd h (by simp)
  | x :: a, y :: b, h, ha, hb => by
    rw [List.pairwise_cons] at ha hb
    have e : x = y := by
      have h1 : x ∈ y :: b := h.mem_iff.mp List.mem_cons_self
      have h2 : y ∈ x :: a := h.mem_iff.mpr List.mem_cons_self
      rcases List.mem_cons.mp h1 with h1 | h1
      · exact h1
      · rcases List.mem_cons.mp h2 with h2 | h2
        · exact h2.symm
        · have := ha.1 y h2; have := hb.1 x h1; omega
    subst e
    rw [srt_one ((List.perm_cons x).mp h) ha.2 hb.2]
/-- a list that rises is its items sorted -/
theorem srt_eq {ns ks : List Int} (h : ns.Perm ks) (hk : ks.Pairwise (· < ·)) : sortI ns = ks :=
  (srt_one ((srt_perm ns).trans h).symm hk (srt_pair ns)).symm
end Mi
end
section
set_option Elab.async false
set_option maxRecDepth 100000
set_option linter.all false
namespace Mi
open PySem
/-! ### told_by: events told as rows pressed -/
/-- a dict that marks keys -/
def marks (ns : List Int) : List (Ky × D) := ns.map fun k => (.inl k, .bl true)
theorem marks_len (ns : List Int) : (marks ns).length = ns.length := by simp [marks]
theorem marks_empty (ns : List Int) : (marks ns).isEmpty = ns.isEmpty := by cases ns <;> rfl
theorem marks_keys (ns : List Int) : allI (fun kv : Ky × D => kyI kv.1) (marks ns) = some ns := by
  induction ns with
  | nil => rfl
  | cons n ns ih =>
    unfold marks at ih ⊢
    simp only [List.map_cons, allI, ih]
    rfl
theorem marks_any (ns : List Int) (k : Int) : ((marks ns).any fun kv => decide (kv.1 = .inl k)) = ns.contains k := by
  induction ns with
  | nil => rfl
  | cons x ns ih =>
    unfold marks at ih ⊢
    simp only [List.map_cons, List.any_cons, ih, List.contains_cons]
    refine congrArg (· || ns.contains k) ?_
    by_cases h : x = k
    · subst h; simp
    · have h2 : ¬ (Sum.inl x : Ky) = Sum.inl k := fun z => h (Sum.inl.inj z)
      have h3 : (k == x) = false := by simpa using fun z : k = x => h z.symm
      rw [h3]
      exact decide_eq_false h2
theorem marks_put (ns : List Int) (k : Int) : putD (marks ns) (.inl k) (.bl true) = marks (if ns.contains k then ns else ns ++ [k]) := by
  unfold putD
  rw [marks_any]
  by_cases h : ns.contains k = true
  · rw [if_pos h, if_pos h]
    unfold marks
    rw [List.map_map]
    refine List.map_congr_left fun x _ => ?_
    simp only [Function.comp]
    split <;> rfl
  · rw [if_neg h, if_neg h]
    simp [marks]
theorem marks_drop (ns : List Int) (h : ns.Nodup) (k : Int) : dropD (marks ns) (.inl k) = marks (ns.erase k) := by
  rw [h.erase_eq_filter]
  unfold dropD marks
  rw [List.filter_map]
  refine congrArg _ ?_
  refine List.filter_congr fun x _ => ?_
  by_cases h : x = k
  · subst h
    have : (x != x) = false := by simp
    rw [this]
    exact decide_eq_false fun z => z rfl
  · have h2 : ¬ (Sum.inl x : Ky) = Sum.inl k := fun z => h (Sum.inl.inj z)
    have : (x != k) = true := by simpa using h
    rw [this]
    exact decide_eq_true h2
theorem marks_val (ns : List Int) (k : Int) (h : ns.contains k = true) : valD (marks ns) (.inl k) = some (.bl true) := by
  unfold valD
  cases hf : (marks ns).find? fun kv => decide (kv.1 = .inl k) with
  | none =>
    rw [List.find?_eq_none] at hf
    have := marks_any ns k
    rw [h, List.any_eq_true] at this
    obtain ⟨x, hx, hk⟩ := this
    exact absurd hk (hf x hx)
  | some kv =>
    have := List.mem_of_find?_eq_some hf
    unfold marks at this
    obtain ⟨x, _, rfl⟩ := List.mem_map.mp this
    rfl
/-- ints of a range, no twins -/
theorem nodup_len : ∀ (b : Nat) (ns : List Int), ns.Nodup → (∀ k ∈ ns, 0 ≤ k ∧ k < b) → ns.length ≤ b
  | 0, [], _, _ => Nat.le_refl _
  | 0, k :: _, _, h => by have := h k List.mem_cons_self; omega
  | b + 1, ns, hn, h => by
    by_cases hb : (b : Int) ∈ ns
    · have h1 := nodup_len b (ns.erase b) (hn.erase _) fun k hk => by
        have h2 := h k (List.mem_of_mem_erase hk)
        have h3 : k ≠ b := fun z => hn.not_mem_erase (z ▸ hk)
        omega
      rw [List.length_erase_of_mem hb] at h1
      omega
    · have := nodup_len b ns hn fun k hk => by
        have h2 := h k hk
        have h3 : k ≠ b := fun z => hb (z ▸ hk)
        omega
      omega
def sortD (ns : List Int) : List D := (sortI ns).map .int
def addK (ns : List Int) (k : Int) : List Int := if ns.contains k then ns else ns ++ [k]
/-- the rows told: those found, the keys down, those down since, fresh -/
def tb (first : Bool) : List D → List Int → List Int → Bool → List D → List D
  | F, _, _, _, [] => F
  | F, dn, sn, fr, e :: es =>
    if evDown e then tb first F (dn ++ [evK e]) (addK sn (evK e)) true es
    else if first then tb first (if fr then F ++ [.tup [.int (evT e), .tup (sortD dn)]] else F) (dn.erase (evK e)) sn false es
    else if (dn.erase (evK e)).isEmpty then tb first (F ++ [.tup [.int (evT e), .tup (sortD sn)]]) (dn.erase (evK e)) [] fr es
    else tb first F (dn.erase (evK e)) sn fr es
/-- 0=events 1=rule 2=found 3=down 4=since 5=fresh 6=time 7=key 8=way -/
def fn_told_by : Fn := ⟨2, 9, [.asg (.nm 2) (.lst []), .asg (.nm 3) .dnew, .asg (.nm 4) .dnew, .asg (.nm 5) (.k (.bl false)), .for_ (.tp [(.nm 6), (.nm 7), (.nm 8)]) (.seq (.v 0)) [.ite (.prim .eq [(.v 8), (.k (.str "down"))]) [.asg (.dsub (.v 3) (.v 7)) (.k (.bl true)), .asg (.dsub (.v 4) (.v 7)) (.k (.bl true)), .asg (.nm 5) (.k (.bl true))] [.ite (.and_ (.prim .eq [(.v 1), (.k (.str "first"))]) (.v 5)) [.ex (.mut .append (.v 2) [(.tup [(.v 6), (.prim .tuple [(.dsort (.v 3))])])]), .asg (.nm 5) (.k (.bl false))] [], .ex (.dpop (.v 3) (.v 7)), .ite (.and_ (.prim .eq [(.v 1), (.k (.str "all"))]) (.deq0 (.v 3))) [.ex (.mut .append (.v 2) [(.tup [(.v 6), (.prim .tuple [(.dsort (.v 4))])])]), .asg (.nm 4) .dnew] []]], .ret (.mv 2)]⟩
/-- a store behind another one -/
def Ext (s s' : Sto) : Prop := ∃ t, s' = s ++ t
theorem Ext.refl (s : Sto) : Ext s s := ⟨[], (List.append_nil s).symm⟩
theorem Ext.app {s s' : Sto} (h : Ext s s') (t : Sto) : Ext s (s' ++ t) := by
  obtain ⟨u, rfl⟩ := h
  exact ⟨u ++ t, by rw [List.append_assoc]⟩
theorem Ext.put {s s' : Sto} (h : Ext s s') {n : Nat} (hn : s.length ≤ n) (o : O) : Ext s (s'.set n o) := by
  obtain ⟨u, rfl⟩ := h
  exact ⟨u.set (n - s.length) o, by rw [List.set_append_right _ _ hn]⟩
theorem dic_same {s : Sto} {n : Nat} (h : n < s.length) (kvs : List (Ky × D)) : dicAt (s.set n (.dic kvs)) (.ref n) = some (n, kvs) := dicAt_ref (by simp [h])
theorem dic_miss {s : Sto} {n m : Nat} (h : n ≠ m) (o : O) : dicAt (s.set n o) (.ref m) = dicAt s (.ref m) := by
  unfold dicAt
  simp only []
  rw [List.getElem?_set_ne h]
theorem sn_add {b : Nat} {sn : List Int} {k : Int} (hn : sn.Nodup) (hr : ∀ x ∈ sn, 0 ≤ x ∧ x < b) (h0 : 0 ≤ k) (h1 : k < b) : (addK sn k).Nodup ∧ ∀ x ∈ addK sn k, 0 ≤ x ∧ x < b := by
  unfold addK
  by_cases h : sn.contains k = true
  · rw [if_pos h]; exact ⟨hn, hr⟩
  · rw [if_neg h]
    have hk : k ∉ sn := by simpa using h
    refine ⟨?_, fun x hx => ?_⟩
    · rw [List.nodup_append]
      exact ⟨hn, by simp, fun a ha c hc => by simp at hc; subst hc; exact fun z => hk (z ▸ ha)⟩
    · rcases List.mem_append.mp hx with hx | hx
      · exact hr x hx
      · simp at hx; subst hx; exact ⟨h0, h1⟩
theorem dn_range {c : Nat} {ds : List D} (h : wrongE c 0 none [] ds = .non) : ∀ k, k ≤ ds.length → ∀ x ∈ dnAt ds k, 0 ≤ x ∧ x < c
  | 0, _, x, hx => by cases hx
  | k + 1, hk, x, hx => by
    obtain ⟨e, he⟩ : ∃ e, ds[k]? = some e := ⟨_, List.getElem?_eq_getElem (by omega)⟩
    rw [dnAt_succ he] at hx
    obtain ⟨t, y, w, rfl, _, _, hy, _, _, h0, h1⟩ := good_form (good_ev h he).1
    rw [hy] at hx
    split at hx
    · rcases List.mem_append.mp hx with hx | hx
      · exact dn_range h k (by omega) x hx
      · simp at hx; subst hx; exact ⟨h0, h1⟩
    · exact dn_range h k (by omega) x (List.mem_of_mem_erase hx)
theorem dn_len {c : Nat} {ds : List D} (h : wrongE c 0 none [] ds = .non) {k : Nat} (hk : k ≤ ds.length) : (dnAt ds k).length ≤ c := nodup_len c _ (good_nodup h hk) (dn_range h k hk)
def ruleS (first : Bool) : Str := if first then "first" else "all"
theorem told_by_ {fns : List Fn} {f : Nat} (gf : fns[f]? = some fn_told_by) (W n c : Nat) (ds : List D) (x0 : D) (hx0 : x0 = .own ds ∨ x0 = .frz ds) (first : Bool) (s : Sto) (hz : ds.length < 1000000) (hc : c < 64) (hg : wrongE c 0 none [] ds = .non) :
    ∃ t, run fns W (n + 1) f [x0, .str (ruleS first)] s = .ok (.own (tb first [] [] [] false ds)) (s ++ t) := by
  suffices key : ans fns W (n + 1) f [x0, .str (ruleS first)] s fun r s' => r = .own (tb first [] [] [] false ds) ∧ Ext s s' by
    obtain ⟨r, s', e, rfl, t, rfl⟩ := ans_run key
    exact ⟨t, e⟩
  rcases hx0 with rfl | rfl
  all_goals (
    refine ans_ofJ gf rfl fun K hK => ?_
    have hbig : big = 16777216 := rfl
    simp [fn_told_by]
    refine wp_forJ (fun k en s' => ∃ (F : List D) (sn : List Int) (fr : Bool) (m : Nat) (u6 u7 u8 : Option D), en = [some (.frz ds), some (.str (ruleS first)), some (.own F), some (.ref s.length), some (.ref m), some (.bl fr), u6, u7, u8] ∧ Ext s s' ∧
        dicAt s' (.ref s.length) = some (s.length, marks (dnAt ds k)) ∧ dicAt s' (.ref m) = some (m, marks sn) ∧ s.length < m ∧ m < s'.length ∧ F.length ≤ k ∧ sn.Nodup ∧ (∀ x ∈ sn, 0 ≤ x ∧ x < c) ∧ tb first [] [] [] false ds = tb first F (dnAt ds k) sn fr (ds.drop k))
      ⟨[], [], false, s.length + 1, _, _, _, rfl, ⟨_, rfl⟩, two_dic0 s [] (.dic []), two_dic1 s (.dic []) [], Nat.lt_succ_self _, by simp, Nat.le_refl _, List.nodup_nil, fun x hx => (by cases hx), rfl⟩ ?_ ?_
    · rintro k d0 en s' J hi ⟨F, sn, fr, m, u6, u7, u8, rfl, hE, q0, q1, hpm, hml, hF, hn, hr, ht⟩ hJ
      have hlt := get_lt hi
      obtain ⟨hev, _, hct⟩ := good_ev hg hi
      obtain ⟨t, x, w, rfl, hdw, huw, hK', hT', _, hxa, hx1⟩ := good_form hev
      have hdl := dn_len hg (Nat.le_of_lt hlt)
      have hnd := good_nodup hg (Nat.le_of_lt hlt)
      have hds := dnAt_succ hi
      have hdl2 := dn_len hg (k := k + 1) hlt
      rw [drop_get hi] at ht
      rw [hK'] at hct hds
      have hsl := nodup_len c sn hn hr
      have hpl : s.length < s'.length := Nat.lt_trans hpm hml
      have hpm' : s.length ≠ m := Nat.ne_of_lt hpm
      have q2 := fun X => dic_same (s := s') hpl X
      have q3 := fun o => dic_miss (s := s') hpm' o
      have key : ∀ (en : Env) (S : Sto) (F' : List D) (sn' : List Int) (fr' : Bool) (m' : Nat) (v6 v7 v8 : Option D), en = [some (.frz ds), some (.str (ruleS first)), some (.own F'), some (.ref s.length), some (.ref m'), some (.bl fr'), v6, v7, v8] → Ext s S → dicAt S (.ref s.length) = some (s.length, marks (dnAt ds (k + 1))) → dicAt S (.ref m') = some (m', marks sn') → s.length < m' → m' < S.length → F'.length ≤ k + 1 → sn'.Nodup → (∀ x ∈ sn', 0 ≤ x ∧ x < c) → tb first F (dnAt ds k) sn fr (.tup [.int t, .int x, .str w] :: ds.drop (k + 1)) = tb first F' (dnAt ds (k + 1)) sn' fr' (ds.drop (k + 1)) → J en S :=
        fun en S F' sn' fr' m' v6 v7 v8 h1 h2 h3 h4 h5 h6 h7 h8 h9 h10 => hJ en S ⟨F', sn', fr', m', v6, v7, v8, h1, h2, h3, h4, h5, h6, h7, h8, h9, ht.trans h10⟩
      clear hJ ht
      have hEp := fun o => hE.put (n := s.length) (Nat.le_refl _) o
      have hEm := fun (S : Sto) (h : Ext s S) o => h.put (n := m) (Nat.le_of_lt hpm) o
      have hlen : ∀ o, (s'.set s.length o).length = s'.length := fun o => by simp
      have hEa := fun (S : Sto) (h : Ext s S) u => h.app u
      generalize Ext s = E at *
      generalize hp : s.length = p at *
      cases hd : evDown (.tup [.int t, .int x, .str w]) with
      | true =>
        rw [hd] at hdw hct hds
        have hw : w = "down" := by simpa using hdw.symm
        subst hw
        have hx : x ∉ dnAt ds k := by simpa using hct
        have p1 := marks_put (dnAt ds k) x
        rw [hct] at p1
        simp only [Bool.not_true, Bool.false_eq_true, if_false, if_true] at p1 hds
        rw [← hds] at p1
        have p2 := marks_put sn x
        have p3 : putD (marks sn) (.inl x) (.bl true) = marks (addK sn x) := p2
        have l1 := marks_len (dnAt ds k)
        have l2 := marks_len sn
        simp [q0, q1, q2, q3, p1, p3]
        refine ⟨by omega, by omega, ?_⟩
        obtain ⟨g1, g2⟩ := sn_add hn hr hxa hx1
        refine key _ _ F (addK sn x) true m _ _ _ rfl (hEm _ (hEp _) _) ?_ ?_ hpm (by simp; exact hml) (by omega) g1 g2 ?_
        · rw [dic_miss (Ne.symm hpm')]; exact q2 _
        · exact dic_same (by simp; exact hml) _
        · simp only [tb, hd, if_true, hK', hds]
      | false =>
        rw [hd] at huw hct hds
        have hw : w = "up" := by simpa using huw
        subst hw
        have hx : (dnAt ds k).contains x = true := by simpa using hct
        simp only [Bool.false_eq_true, if_false] at hds
        have p1 := marks_drop (dnAt ds k) hnd x
        rw [← hds] at p1
        have p2 := marks_val (dnAt ds k) x hx
        have p4 := marks_keys (dnAt ds k)
        have p5 := marks_keys sn
        have p6 := marks_empty (dnAt ds (k + 1))
        have l1 := marks_len (dnAt ds k)
        have l2 := marks_len sn
        have d1 : (dnAt ds k).length < 64 := by omega
        have d2 : sn.length < 64 := by omega
        have m1 := fun d => mu_app F d (by omega)
        cases first with
        | true =>
          have fin : ∀ F', F'.length ≤ k + 1 → tb true F (dnAt ds k) sn fr (.tup [.int t, .int x, .str "up"] :: ds.drop (k + 1)) = tb true F' (dnAt ds (k + 1)) sn false (ds.drop (k + 1)) → J [some (.frz ds), some (.str "first"), some (.own F'), some (.ref p), some (.ref m), some (.bl false), some (.int t), some (.int x), some (.str "up")] (s'.set p (.dic (marks (dnAt ds (k + 1))))) := fun F' h1 h2 =>
            key _ _ F' sn false m _ _ _ rfl (hEp _) (q2 _) ((q3 _).trans q1) hpm (by simp; exact hml) h1 hn hr h2
          cases fr with
          | true =>
            simp [ruleS, q0, q1, q2, q3, p1, p2, p4, d1, m1]
            refine fin _ (by simp; exact hF) ?_
            simp [tb, hd, hK', hT', hds, sortD]
          | false =>
            simp [ruleS, q0, q1, q2, q3, p1, p2, p4, d1]
            refine fin _ (by omega) ?_
            simp [tb, hd, hK', hT', hds, sortD]
        | false =>
          cases hem : (dnAt ds (k + 1)).isEmpty with
          | true =>
            rw [hem] at p6
            simp [ruleS, q0, q1, q2, q3, p1, p2, p5, p6, d2, m1]
            refine key _ _ _ [] fr s'.length _ _ _ rfl (hEa _ (hEp _) _) ?_ ?_ (by omega) (by simp) (by simp; exact hF) List.nodup_nil (fun _ h => by cases h) ?_
            · exact dicAt_ref (by rw [List.getElem?_append_left (by simp; exact hpl)]; simp [hpl])
            · exact dicAt_ref (by rw [List.getElem?_append_right (by simp)]; simp [marks])
            · rw [hds] at hem
              simp [tb, hd, hK', hT', hds, sortD, hem]
          | false =>
            rw [hem] at p6
            simp [ruleS, q0, q1, q2, q3, p1, p2, p5, p6, d2]
            refine key _ _ F sn fr m _ _ _ rfl (hEp _) (q2 _) ((q3 _).trans q1) hpm (by simp; exact hml) (by omega) hn hr ?_
            rw [hds] at hem
            simp [tb, hd, hK', hT', hds, sortD, hem]
    · rintro en s' ⟨F, sn, fr, m, u6, u7, u8, rfl, hE, q0, q1, hpm, hml, hF, hn, hr, ht⟩
      simp
      refine hK _ _ ⟨?_, hE⟩
      rw [ht]
      simp [tb])
end Mi
end
section
set_option Elab.async false
set_option maxRecDepth 100000
set_option linter.all false
namespace Mi
open PySem
/-! ### layouts that are let by -/
def goodL (ds : List D) : Prop := (∀ d ∈ ds, isKeyB d = true) ∧ ds.Pairwise fun x y => ixB (bank x) ≤ ixB (bank y) ∧ bars (lab y) (bank y) x = false
instance (ds : List D) : Decidable (goodL ds) := by unfold goodL; infer_instance
theorem goodL_sub {a b : List D} (h : a.Sublist b) (hb : goodL b) : goodL a := ⟨fun d hd => hb.1 d (h.subset hd), hb.2.sublist h⟩
theorem pair_get {R : D → D → Prop} {ds : List D} (h : ds.Pairwise R) {i j : Nat} {x y : D} (hi : ds[i]? = some x) (hj : ds[j]? = some y) (hl : i < j) : R x y := by
  have h1 := get_lt hi
  have h2 := get_lt hj
  rw [List.getElem?_eq_getElem h1] at hi
  rw [List.getElem?_eq_getElem h2] at hj
  have := List.pairwise_iff_getElem.mp h i j h1 h2 hl
  rw [Option.some.inj hi, Option.some.inj hj] at this
  exact this
theorem good_wrong {ds : List D} (h : goodL ds) (k : Nat) (d : D) (hd : ds[k]? = some d) : wrongAt ds k d = none := by
  have hk := h.1 d (List.mem_of_getElem? hd)
  have hb : ¬ (0 < k ∧ ¬ (ixB (bank (ds.getD (k - 1) .non)) ≤ ixB (bank d))) := by
    rintro ⟨h0, h1⟩
    obtain ⟨p, hp⟩ : ∃ p, ds[k - 1]? = some p := ⟨_, List.getElem?_eq_getElem (by have := get_lt hd; omega)⟩
    have := (pair_get h.2 hp hd (by omega)).1
    rw [List.getD_eq_getElem?_getD, hp] at h1
    exact h1 this
  have ht : (ds.take k).any (bars (lab d) (bank d)) = false := by
    rw [List.any_eq_false]
    intro x hx
    obtain ⟨j, hj, e⟩ := List.getElem_of_mem hx
    have hj2 : j < k ∧ j < ds.length := by rw [List.length_take] at hj; omega
    rw [List.getElem_take] at e
    have := (pair_get h.2 (show ds[j]? = some x by rw [List.getElem?_eq_getElem hj2.2, e]) hd hj2.1).2
    simp [this]
  simp only [wrongAt, hk, ht]
  rw [if_neg (by decide), if_neg hb, if_neg (by decide)]
theorem good_non {ds : List D} (h : goodL ds) (h0 : ds ≠ []) (hl : ds.length ≤ 24) : wrongL (.tup ds) = .non := by
  have h1 : 1 ≤ ds.length := by cases ds with | nil => exact absurd rfl h0 | cons => simp
  have go : ∀ (r : List D) (k : Nat), ds.drop k = r → firstWL ds k r = .non := by
    intro r
    induction r with
    | nil => intro k _; rfl
    | cons d r ih =>
      intro k hk
      have hd : ds[k]? = some d := by
        have := List.getElem?_drop (xs := ds) (i := k) (j := 0)
        rw [hk] at this
        simpa using this.symm
      simp only [firstWL, good_wrong h k d hd]
      exact ih (k + 1) (by rw [← List.drop_drop, hk]; rfl)
  simp only [wrongL]
  rw [if_pos ⟨h1, hl⟩]
  exact go ds 0 rfl
theorem full_good : ∀ r, r < 14 → goodL (fullA r) := by decide +kernel
theorem full_len : ∀ r, r < 14 → (fullA r).length ≤ 24 := by decide +kernel
theorem full_fine : ∀ r, r < 14 → ((fullA r).all fun d => fine 1 d && decide (wt d ≤ 20)) = true := by decide +kernel
theorem wts_le {k : Nat} : ∀ {ds : List D}, (∀ d ∈ ds, wt d ≤ k) → wts ds ≤ k * ds.length
  | [], _ => by simp [wts]
  | d :: ds, h => by
    have h1 := h d (List.mem_cons_self ..)
    have h2 := wts_le fun x hx => h x (List.mem_cons_of_mem _ hx)
    simp only [wts, List.length_cons, Nat.mul_add]
    omega
/-! ### small data is looked at without ado -/
theorem wl_form (d : D) : wrongL d = .non ∨ (∃ x, wrongL d = .tup [.str x]) ∨ ∃ x k, wrongL d = .tup [.str x, .int k] := by
  have go : ∀ (ds r : List D) (k : Nat), firstWL ds k r = .non ∨ (∃ x, firstWL ds k r = .tup [.str x]) ∨ ∃ x j, firstWL ds k r = .tup [.str x, .int j] := by
    intro ds r
    induction r with
    | nil => intro k; exact .inl rfl
    | cons d r ih =>
      intro k
      simp only [firstWL]
      cases h : wrongAt ds k d with
      | none => exact ih (k + 1)
      | some w =>
        obtain ⟨x, rfl⟩ := wrong_hard ds k d w h
        exact .inr (.inr ⟨_, _, rfl⟩)
  cases d with
  | tup ds =>
    simp only [wrongL]
    split
    · exact go ds ds 0
    · exact .inr (.inl ⟨_, rfl⟩)
  | _ => exact .inr (.inl ⟨_, rfl⟩)
theorem wl_val (d : D) : val (wrongL d) = true := by
  rcases wl_form d with h | ⟨x, h⟩ | ⟨x, k, h⟩ <;> rw [h] <;> rfl
theorem wl_ne (d : D) : primF .ne [wrongL d, wrongL d] = some (.bl false) := by
  have h : cmpOk (wrongL d) (wrongL d) = true ∧ (wrongL d).py.plain = true := by
    rcases wl_form d with h | ⟨x, h⟩ | ⟨x, k, h⟩ <;> rw [h] <;> exact ⟨rfl, rfl⟩
  rw [p_ne _ _ h.1]
  have := PySem.SeqAt.eqv_refl_plain _ h.2
  simp only [D.eqv, this, Bool.not_true]
theorem rng_get {lo : Int} {n i : Nat} {d : D} (h : (rngD lo n)[i]? = some d) : d = .int (lo + i) ∧ i < n := by
  have := get_lt h
  simp only [rngD, List.length_map, List.length_range] at this
  simp only [rngD, List.getElem?_map, List.getElem?_range this, Option.map_some] at h
  exact ⟨(Option.some.inj h).symm, this⟩
theorem rng_len (lo : Int) (n : Nat) : (rngD lo n).length = n := by simp [rngD]
theorem fine_sOk {n : Nat} {d : D} (h : fine n d = true) : sOk d = true := by
  cases d with
  | str x =>
    have : leafOk (.str x) = true := by cases n <;> exact h
    simp only [leafOk, Bool.and_eq_true, decide_eq_true_eq] at this
    simp only [sOk, decide_eq_true_eq]
    have hb : big = 16777216 := rfl
    show x.cps.size ≤ big
    omega
  | ref => cases n <;> cases h
  | own => cases n <;> cases h
  | _ => rfl
theorem fine_kOk {n : Nat} {d : D} (h : fine (n + 1) d = true) : kOk d = true := by
  cases d with
  | tup ds => simp only [kOk, List.all_eq_true]; exact fun x hx => fine_sOk (fine_tup.mp h x hx)
  | _ => exact fine_sOk h
theorem fine_lOk {n : Nat} {d : D} (h : fine (n + 2) d = true) : lOk d = true := by
  cases d with
  | tup ds => simp only [lOk, List.all_eq_true]; exact fun x hx => fine_kOk (fine_tup.mp h x hx)
  | _ => exact fine_sOk h
end Mi
end
section
set_option Elab.async false
set_option maxRecDepth 100000
set_option linter.all false
namespace Mi
open PySem
/-! ### a loop that ends in an exception -/
theorem wx_for {bd : D → M Unit} {body : M Flow} {E : Ex → Env → Sto → Prop} {ds : List D} (I : Nat → Env → Sto → Prop) (n : Nat) (hn : n < ds.length)
    (step : ∀ i d en s (J : Env → Sto → Prop), i < n → ds[i]? = some d → I i en s → (∀ en s, I (i + 1) en s → J en s) → wp (bd d) en s fun _ en s => wp body en s (turnQ J fun _ _ _ => False))
    (last : ∀ d en s, ds[n]? = some d → I n en s → wp (bd d) en s fun _ en s => wx body en s E) : ∀ {en : Env} {s : Sto}, I 0 en s → wx (forL bd body ds) en s E := by
  have go : ∀ (m i : Nat) (r : List D) (en : Env) (s : Sto), i + m = n → ds.drop i = r → I i en s → wx (forL bd body r) en s E := by
    intro m
    induction m with
    | zero =>
      intro i r en s h1 h2 h3
      simp at h1
      subst h1
      have e : ds[i]? = some ds[i] := List.getElem?_eq_getElem hn
      rw [drop_get e] at h2
      subst h2
      unfold forL
      refine wx_then (wp_mono (last _ en s e h3) fun _ en s h => wx_first h)
    | succ m ih =>
      intro i r en s h1 h2 h3
      have hi : i < ds.length := by omega
      have e : ds[i]? = some ds[i] := List.getElem?_eq_getElem hi
      rw [drop_get e] at h2
      subst h2
      unfold forL
      refine wx_then (wp_mono (step i _ en s (I (i + 1)) (by omega) e h3 fun _ _ h => h) fun _ en s h => wx_then (wp_mono h fun fl en s h => ?_))
      cases fl with
      | next => exact ih (i + 1) _ en s (by omega) rfl h
      | cont => exact ih (i + 1) _ en s (by omega) rfl h
      | brk => exact h.elim
      | ret => exact h.elim
  intro en s h
  exact go n 0 ds en s (by omega) rfl h
/-! ### strokes -/
def riseB (b : Nat) : Int → List D → Bool
  | _, [] => true
  | l, d :: r => match d with
    | .int k => decide (l < k ∧ k < b) && riseB b k r
    | _ => false
def strokeB (b : Nat) : D → Bool
  | .tup ds => !ds.isEmpty && riseB b (-1) ds
  | _ => false
/-- what is_stroke may be asked of -/
def atomB : D → Bool
  | .int _ => true
  | .bl _ => true
  | .non => true
  | .str _ => true
  | _ => false
def thB : D → Bool
  | .tup ds => ds.all atomB
  | .ref _ => false
  | .own _ => false
  | _ => true
theorem thB_val {d : D} (h : thB d = true) : val d = true := by cases d <;> first | rfl | cases h
theorem atom_plain {ds : List D} (h : ds.all atomB = true) : D.plains ds = true := plains_of fun d hd => by
  have := List.all_eq_true.mp h d hd
  cases d <;> first | rfl | cases this
theorem tup_eq_nil (xs : List D) (h : D.plains xs = true) : primF .eq [.tup xs, .tup []] = some (.bl xs.isEmpty) := by
  have : cmpOk (.tup xs) (.tup []) = true := by
    simp [cmpOk, D.plain, D.plains, h, D.py, PyData.depth, D.pys, PyData.depthAll]
  rw [p_eq _ _ this]
  cases xs with
  | nil => simp [D.eqv, D.py, D.pys, PyData.eqv, PyData.eqvAll]
  | cons x xs => simp [D.eqv, D.py, D.pys, PyData.eqv, PyData.eqvAll]
/-- 0=layout 1=thing 2=last 3=key -/
def fn_is_stroke : Fn := ⟨2, 4, [.ite (.or_ (.not_ (.prim (.isi 2) [(.v 1)])) (.prim .eq [(.v 1), (.tup [])])) [.ret (.k (.bl false))] [], .asg (.nm 2) (.prim .neg [(.k (.int 1))]), .for_ (.nm 3) (.seq (.v 1)) [.ite (.or_ (.not_ (.prim (.isi 0) [(.v 3)])) (.or_ (.prim (.isi 4) [(.v 3)]) (.not_ (.chain .lt .lt (.v 2) (.v 3) (.prim .len [(.v 0)]))))) [.ret (.k (.bl false))] [], .asg (.nm 2) (.v 3)], .ret (.k (.bl true))]⟩
theorem stroke_ {fns : List Fn} {i : Nat} (gi : fns[i]? = some fn_is_stroke) (W n : Nat) (ks : List D) (d : D) (s : Sto) (hd : thB d = true) (hk : ks.length ≤ 1000) : run fns W (n + 1) i [.tup ks, d] s = .ok (.bl (strokeB ks.length d)) s := by
  refine ans_eq' (ans_ofJ gi rfl fun K hK => ?_)
  have fin : K (.bl (strokeB ks.length d)) s := hK _ _ ⟨rfl, rfl⟩
  clear hK
  cases d with
  | tup ds =>
    have hp := atom_plain (show ds.all atomB = true from hd)
    have e1 := tup_eq_nil ds hp
    cases he : ds.isEmpty with
    | true =>
      rw [he] at e1
      have : strokeB ks.length (.tup ds) = false := by simp [strokeB, he]
      rw [this] at fin
      simp [fn_is_stroke, primF, isiD, opB] at e1 ⊢
      simp [e1, fin]
    | false =>
      rw [he] at e1
      have hs : strokeB ks.length (.tup ds) = riseB ks.length (-1) ds := by simp [strokeB, he]
      rw [hs] at fin
      have ht : primF (.isi 2) [.tup ds] = some (.bl true) := id rfl
      have hng : primF .neg [.int 1] = some (.int (-1)) := id rfl
      simp [fn_is_stroke, e1, ht, hng]
      refine wp_forJ (fun k en s' => s' = s ∧ ∃ (l : Int) (u3 : Option D), en = [some (.tup ks), some (.tup ds), some (.int l), u3] ∧ riseB ks.length (-1) ds = riseB ks.length l (ds.drop k)) ⟨rfl, -1, _, rfl, rfl⟩ ?_ ?_
      · rintro k d0 en s' J hi ⟨rfl, l, u3, rfl, hr⟩ hJ
        rw [drop_get hi] at hr
        have ha := List.all_eq_true.mp (show ds.all atomB = true from hd) d0 (List.mem_of_getElem? hi)
        rw [hr] at fin
        have go : ∀ l' u, riseB ks.length l (d0 :: ds.drop (k + 1)) = riseB ks.length l' (ds.drop (k + 1)) → J [some (.tup ks), some (.tup ds), some (.int l'), u] s' := fun l' u h => hJ _ _ ⟨rfl, l', u, rfl, hr.trans h⟩
        clear hJ hr
        cases d0 <;> first | (cases ha; done) | skip
        case int x =>
          have h0 : primF (.isi 0) [.int x] = some (.bl true) := id rfl
          have h4 : primF (.isi 4) [.int x] = some (.bl false) := id rfl
          simp [h0, h4]
          by_cases h1 : l < x
          · by_cases h2 : (ks.length : Int) ≤ x
            · have : riseB ks.length l (.int x :: ds.drop (k + 1)) = false := by
                simp only [riseB]
                rw [decide_eq_false (by omega), Bool.false_and]
              rw [this] at fin
              rw [if_pos h1, if_pos h2]
              exact fin
            · rw [if_pos h1, if_neg h2]
              refine go x _ ?_
              simp only [riseB]
              rw [decide_eq_true (by omega), Bool.true_and]
          · have : riseB ks.length l (.int x :: ds.drop (k + 1)) = false := by
              simp only [riseB]
              rw [decide_eq_false (by omega), Bool.false_and]
            rw [this] at fin
            rw [if_neg h1]
            exact fin
        case bl x =>
          have h0 : primF (.isi 0) [.bl x] = some (.bl true) := id rfl
          have h4 : primF (.isi 4) [.bl x] = some (.bl true) := id rfl
          simp [h0, h4]
          exact fin
        all_goals (simp [primF, isiD]; exact fin)
      · rintro en s' ⟨rfl, l, u3, rfl, hr⟩
        rw [List.drop_length] at hr
        rw [hr] at fin
        simp
        exact fin
  | ref => cases hd
  | own => cases hd
  | _ => simp [fn_is_stroke, primF, isiD]; exact fin
/-- 0=layout 1=row 2=stroke -/
def fn_look_strokes (is_stroke_ : Nat) : Fn := ⟨2, 3, [.ite (.not_ (.prim (.isi 3) [(.v 1)])) [.raise "NoRow" [] []] [], .for_ (.nm 2) (.seq (.v 1)) [.ite (.not_ (.call is_stroke_ [(.v 0), (.v 2)])) [.raise "NoStroke" ["at"] [(.k .non)]] []]]⟩
abbrev noRow : Ex := ⟨"NoRow", []⟩
abbrev noStroke : Ex := ⟨"NoStroke", [("at", .non)]⟩
theorem lookS_ok {fns : List Fn} {i j : Nat} (gi : fns[i]? = some (fn_look_strokes j)) (gj : fns[j]? = some fn_is_stroke) (W n : Nat) (ks ds : List D) (s : Sto) (hd : ∀ d ∈ ds, thB d = true ∧ strokeB ks.length d = true) (hk : ks.length ≤ 1000) : run fns W (n + 2) i [.tup ks, .frz ds] s = .ok .non s := by
  refine ans_eq' (ans_ofJ gi rfl fun K hK => ?_)
  have fin : K .non s := hK _ _ ⟨rfl, rfl⟩
  clear hK
  have h3 : primF (.isi 3) [.frz ds] = some (.bl true) := id rfl
  simp [fn_look_strokes, h3]
  refine wp_forJ (fun k en s' => s' = s ∧ ∃ (u2 : Option D), en = [some (.tup ks), some (.frz ds), u2]) ⟨rfl, _, rfl⟩ ?_ ?_
  · rintro k d0 en s' J hi ⟨rfl, u2, rfl⟩ hJ
    obtain ⟨h1, h2⟩ := hd d0 (List.mem_of_getElem? hi)
    have e1 := stroke_ gj W n ks d0 s' h1 hk
    rw [h2] at e1
    have hv := thB_val h1
    simp [hv, e1]
    exact hJ _ _ ⟨rfl, _, rfl⟩
  · rintro en s' ⟨rfl, u2, rfl⟩
    simp
    exact fin
theorem look_row {fns : List Fn} {i j : Nat} (gi : fns[i]? = some (fn_look_strokes j)) (W n : Nat) (x : D) (ds : List D) (s : Sto) (hx : val x = true) : run fns W (n + 2) i [x, .tup ds] s = .exc noRow s := by
  refine run_exc gi rfl ?_
  have h3 : primF (.isi 3) [.tup ds] = some (.bl false) := id rfl
  refine wx_first (wx_then ?_)
  simp [fn_look_strokes, initE, h3]
  refine wx_first (wx_then ?_)
  simp
  exact wx_raise rfl ⟨rfl, rfl⟩
theorem look_bad {fns : List Fn} {i j : Nat} (gi : fns[i]? = some (fn_look_strokes j)) (gj : fns[j]? = some fn_is_stroke) (W n : Nat) (ks ds : List D) (b : D) (s : Sto) (hd : ∀ d ∈ ds, thB d = true ∧ strokeB ks.length d = true) (hb : thB b = true) (hb2 : strokeB ks.length b = false) (hk : ks.length ≤ 1000) : run fns W (n + 2) i [.tup ks, .frz (ds ++ [b])] s = .exc noStroke s := by
  refine run_exc gi rfl ?_
  have h3 : primF (.isi 3) [.frz (ds ++ [b])] = some (.bl true) := id rfl
  refine wx_then ?_
  simp [fn_look_strokes, initE, h3]
  refine wx_first (wx_then ?_)
  simp
  refine wx_for (fun k en s' => s' = s ∧ ∃ (u2 : Option D), en = [some (.tup ks), some (.frz (ds ++ [b])), u2]) ds.length (by simp) ?_ ?_ ⟨rfl, _, rfl⟩
  · rintro k d0 en s' J hk' hi ⟨rfl, u2, rfl⟩ hJ
    rw [List.getElem?_append_left hk'] at hi
    obtain ⟨h1, h2⟩ := hd d0 (List.mem_of_getElem? hi)
    have e1 := stroke_ gj W n ks d0 s' h1 hk
    rw [h2] at e1
    have hv := thB_val h1
    simp [hv, e1]
    exact hJ _ _ ⟨rfl, _, rfl⟩
  · rintro d0 en s' hi ⟨rfl, u2, rfl⟩
    rw [List.getElem?_append_right (Nat.le_refl _)] at hi
    simp at hi
    subst hi
    have e1 := stroke_ gj W n ks b s' hb hk
    rw [hb2] at e1
    have hv := thB_val hb
    simp
    refine wx_first (wx_then ?_)
    simp [hv, e1]
    refine wx_first (wx_then ?_)
    simp
    exact wx_raise rfl ⟨rfl, rfl⟩
end Mi
end
section
set_option Elab.async false
set_option maxRecDepth 100000
set_option linter.all false
namespace Mi
open PySem
/-! ### events refused; the program's cleaned -/
abbrev noEvents (w : D) : Ex := ⟨"NoEvents", [("wrong", w)]⟩
abbrev noCount : Ex := ⟨"NoCount", []⟩
def MustEvF (fns : List Fn) (m : Nat) : Prop := ∃ g, fns[m]? = some (fn_must_events g) ∧ EventsF fns g
theorem MustEvF.ok {fns : List Fn} {m : Nat} (h : MustEvF fns m) (W n : Nat) (ks ds : List D) (s : Sto) (hl : lOk (.tup ks) = true) (hw : wrongL (.tup ks) = .non) (hk : ks.length ≤ 1000) (hz : ds.length < 1000000) (hd : ∀ d ∈ ds, kOk d = true) (hg : wrongE ks.length 0 none [] ds = .non) :
    ∃ t, run fns W (n + 5) m [.tup ks, .frz ds] s = .ok .non (s ++ t) := by
  obtain ⟨g, gm, gg⟩ := h
  obtain ⟨kvs, e1⟩ := gg.lst W n ks ds s hl hw hk hz hd
  rw [hg] at e1
  refine ⟨[.dic kvs], ans_eq' (ans_of gm rfl ?_)⟩
  simp [fn_must_events, e1]
theorem MustEvF.exc {fns : List Fn} {m : Nat} (h : MustEvF fns m) (W n : Nat) (ks ds : List D) (w : D) (s : Sto) (hl : lOk (.tup ks) = true) (hw : wrongL (.tup ks) = .non) (hk : ks.length ≤ 1000) (hz : ds.length < 1000000) (hd : ∀ d ∈ ds, kOk d = true) (hg : wrongE ks.length 0 none [] ds = w) (hv : val w = true) (hn : w ≠ .non) :
    ∃ t, run fns W (n + 5) m [.tup ks, .frz ds] s = .exc (noEvents w) (s ++ t) := by
  obtain ⟨g, gm, gg⟩ := h
  obtain ⟨kvs, e1⟩ := gg.lst W n ks ds s hl hw hk hz hd
  rw [hg] at e1
  refine ⟨[.dic kvs], run_exc gm rfl ?_⟩
  refine wx_then ?_
  simp [fn_must_events, initE, e1]
  refine wx_first (wx_then ?_)
  have e2 : primF .notN [w] = some (.bl true) := by
    cases w <;> first | rfl | exact absurd rfl hn
  simp [e2, hv]
  refine wx_first (wx_then ?_)
  simp [hv]
  refine wx_raise rfl ⟨?_, rfl⟩
  simp [hv]
theorem MustEvF.lay {fns : List Fn} {m : Nat} (h : MustEvF fns m) (W n : Nat) (d e w : D) (s : Sto) (hd : lOk d = true) (he : val e = true) (hw : wrongL d = w) (hv : val w = true) (hn : w ≠ .non) :
    run fns W (n + 5) m [d, e] s = .exc (noLayout w) s := by
  obtain ⟨g, gm, gg⟩ := h
  refine run_exc gm rfl ?_
  refine wx_first (wx_first (wx_then ?_))
  simp [fn_must_events, initE, lOk_val hd, he]
  exact wx_call (gg.exc W n d e w s hd he hw hv hn) ⟨rfl, rfl⟩
def CleanedF (fns : List Fn) (f : Nat) : Prop := ∃ m i c b, fns[f]? = some (fn_cleaned m i c) ∧ MustEvF fns m ∧ fns[i]? = some fn_is_whole ∧ fns[c]? = some (fn_clean b) ∧ fns[b]? = some fn_bounces
theorem CleanedF.ok {fns : List Fn} {f : Nat} (h : CleanedF fns f) (W n : Nat) (ks ds : List D) (b : Int) (s : Sto) (hl : lOk (.tup ks) = true) (hw : wrongL (.tup ks) = .non) (hk : ks.length ≤ 1000) (hz : ds.length < 1000000) (hd : ∀ d ∈ ds, kOk d = true) (hg : wrongE ks.length 0 none [] ds = .non) (b0 : 0 ≤ b) (b1 : b ≤ 50) :
    ∃ q t, run fns W (n + 6) f [.tup ks, .frz ds, .int b] s = .ok (.own (keepFrom q 0 ds)) (s ++ t) ∧ BarQ ds b q := by
  obtain ⟨m, i, c, bo, gf, gm, gi, gc, gb⟩ := h
  obtain ⟨t1, e1⟩ := gm.ok W n ks ds s hl hw hk hz hd hg
  have e2 := whole_ gi W (n + 4) (.int b) 0 (some 50) (s ++ t1) rfl
  have e2' : wholeB 0 (some 50) (.int b) = true := by simp [wholeB, b0, b1]
  rw [e2'] at e2
  obtain ⟨q, t2, e3, hq⟩ := clean_ gc gb W (n + 3) ks.length ds b (s ++ t1) hz hg
  refine ⟨q, t1 ++ t2, ans_eq' (ans_of gf rfl ?_), hq⟩
  simp only [optD] at e2
  generalize keepFrom q 0 ds = R at *
  rw [← List.append_assoc]
  generalize s ++ t1 = s1 at *
  generalize s1 ++ t2 = s2 at *
  simp [fn_cleaned, e1, e2, e3]
theorem CleanedF.count {fns : List Fn} {f : Nat} (h : CleanedF fns f) (W n : Nat) (ks ds : List D) (x : D) (s : Sto) (hl : lOk (.tup ks) = true) (hw : wrongL (.tup ks) = .non) (hk : ks.length ≤ 1000) (hz : ds.length < 1000000) (hd : ∀ d ∈ ds, kOk d = true) (hg : wrongE ks.length 0 none [] ds = .non) (hx : sOk x = true) (hx2 : wholeB 0 (some 50) x = false) :
    ∃ t, run fns W (n + 6) f [.tup ks, .frz ds, x] s = .exc noCount (s ++ t) := by
  obtain ⟨m, i, c, bo, gf, gm, gi, gc, gb⟩ := h
  obtain ⟨t1, e1⟩ := gm.ok W n ks ds s hl hw hk hz hd hg
  have e2 := whole_ gi W (n + 4) x 0 (some 50) (s ++ t1) hx
  rw [hx2] at e2
  simp only [optD] at e2
  have vx : val x = true := by cases x <;> first | rfl | cases hx
  refine ⟨t1, run_exc gf rfl ?_⟩
  refine wx_then ?_
  simp [fn_cleaned, initE, e1]
  refine wx_first (wx_then ?_)
  simp [e2, vx]
  refine wx_first (wx_then ?_)
  simp
  exact wx_raise rfl ⟨rfl, rfl⟩
theorem CleanedF.events {fns : List Fn} {f : Nat} (h : CleanedF fns f) (W n : Nat) (ks ds : List D) (x w : D) (s : Sto) (hl : lOk (.tup ks) = true) (hw : wrongL (.tup ks) = .non) (hk : ks.length ≤ 1000) (hz : ds.length < 1000000) (hd : ∀ d ∈ ds, kOk d = true) (hg : wrongE ks.length 0 none [] ds = w) (hv : val w = true) (hn : w ≠ .non) :
    ∃ t, run fns W (n + 6) f [.tup ks, .frz ds, x] s = .exc (noEvents w) (s ++ t) := by
  obtain ⟨m, i, c, bo, gf, gm, gi, gc, gb⟩ := h
  obtain ⟨t1, e1⟩ := gm.exc W n ks ds w s hl hw hk hz hd hg hv hn
  refine ⟨t1, run_exc gf rfl ?_⟩
  refine wx_first (wx_first (wx_then ?_))
  simp [fn_cleaned, initE]
  exact wx_call e1 ⟨rfl, rfl⟩
theorem CleanedF.lay {fns : List Fn} {f : Nat} (h : CleanedF fns f) (W n : Nat) (d e x w : D) (s : Sto) (hd : lOk d = true) (he : val e = true) (hw : wrongL d = w) (hv : val w = true) (hn : w ≠ .non) :
    run fns W (n + 6) f [d, e, x] s = .exc (noLayout w) s := by
  obtain ⟨m, i, c, bo, gf, gm, gi, gc, gb⟩ := h
  refine run_exc gf rfl ?_
  refine wx_first (wx_first (wx_then ?_))
  simp [fn_cleaned, initE, lOk_val hd, he]
  exact wx_call (gm.lay W n d e w s hd he hw hv hn) ⟨rfl, rfl⟩
theorem wrongE_form (b : Nat) : ∀ (ds : List D) (i : Nat) (pre : Option D) (dn : List Int), wrongE b i pre dn ds = .non ∨ ∃ (a : Str) (k : Int), wrongE b i pre dn ds = .tup [.str a, .int k] ∧ leafOk (.str a) = true ∧ 0 ≤ k ∧ k < i + ds.length
  | [], _, _, _ => .inl rfl
  | e :: es, i, pre, dn => by
    simp only [wrongE, List.length_cons]
    split
    · exact .inr ⟨_, _, rfl, by decide +kernel, by omega, by omega⟩
    · split
      · exact .inr ⟨_, _, rfl, by decide +kernel, by omega, by omega⟩
      · split
        · exact .inr ⟨_, _, rfl, by decide +kernel, by omega, by omega⟩
        · rcases wrongE_form b es (i + 1) (some e) (if evDown e then dn ++ [evK e] else dn.erase (evK e)) with h | ⟨a, k, h1, h2, h3, h4⟩
          · exact .inl h
          · exact .inr ⟨a, k, h1, h2, h3, by omega⟩
theorem wrongE_fine (b : Nat) (ds : List D) (hl : ds.length ≤ 1000000) : fine 1 (wrongE b 0 none [] ds) = true := by
  rcases wrongE_form b ds 0 none [] with h | ⟨a, k, h1, h2, h3, h4⟩
  · rw [h]; rfl
  · rw [h1, fine_tup]
    intro d hd
    simp only [List.mem_cons, List.not_mem_nil, or_false] at hd
    rcases hd with rfl | rfl
    · exact h2
    · simp only [fine, leafOk, decide_eq_true_eq]; omega
theorem str_of (x : D) (ds : List D) (hx : x = .own ds ∨ x = .frz ds) (hf : ∀ d ∈ ds, evFine d) (hl : ds.length ≤ 60) : ∃ y, primF .str [x] = some (.str y) := by
  have h1 : fine 3 (.frz ds) = true := fine_frz.mpr fun d hd => (hf d hd).2.1
  have h2 : wt (.frz ds) ≤ 500000 := by
    have := wts_le (k := 5000) fun d hd => (hf d hd).2.2
    have : 5000 * ds.length ≤ 5000 * 60 := Nat.mul_le_mul_left _ hl
    simp only [wt]
    omega
  obtain ⟨y, hy⟩ := fine_pStr h1 (by decide) h2
  rcases hx with rfl | rfl
  · exact ⟨y, hy⟩
  · exact ⟨y, hy⟩
end Mi
end
section
set_option Elab.async false
set_option maxRecDepth 100000
set_option linter.all false
namespace Mi
open PySem
/-! ### chords told as events -/
def chD (c : List Int) : D := .tup (c.map .int)
def goodC (b : Nat) (c : List Int) : Prop := c ≠ [] ∧ c.Pairwise (· < ·) ∧ ∀ k ∈ c, 0 ≤ k ∧ k < b
theorem chord_rise {b : Nat} : ∀ {c : List Int} {l : Int}, c.Pairwise (· < ·) → (∀ k ∈ c, l < k ∧ k < b) → riseB b l (c.map .int) = true
  | [], _, _, _ => rfl
  | k :: c, l, hp, hr => by
    rw [List.pairwise_cons] at hp
    have h1 := hr k List.mem_cons_self
    simp only [List.map_cons, riseB]
    rw [decide_eq_true h1, Bool.true_and]
    exact chord_rise hp.2 fun x hx => ⟨hp.1 x hx, (hr x (List.mem_cons_of_mem _ hx)).2⟩
theorem chord_ok {b : Nat} {c : List Int} (h : goodC b c) : thB (chD c) = true ∧ strokeB b (chD c) = true := by
  obtain ⟨h1, h2, h3⟩ := h
  constructor
  · simp only [chD, thB, List.all_map, List.all_eq_true]
    exact fun x _ => rfl
  · simp only [chD, strokeB]
    rw [chord_rise h2 fun k hk => ⟨by have := (h3 k hk).1; omega, (h3 k hk).2⟩]
    cases c with
    | nil => exact absurd rfl h1
    | cons => rfl
def evs2 (t : Int) (w : Str) (c : List Int) : List D := c.map fun x => .tup [.int t, .int x, .str w]
def dueL (p : Int) : Nat → List (List Int) → List D
  | _, [] => []
  | k, c :: cs => evs2 (2 * k * p) "down" c ++ (evs2 (2 * k * p + p) "up" c ++ dueL p (k + 1) cs)
theorem ints_val {c : List Int} {d : D} (h : d ∈ c.map D.int) : ∃ x, d = .int x := by
  obtain ⟨x, _, rfl⟩ := List.mem_map.mp h
  exact ⟨x, rfl⟩
/-- 0=_law_chords 1=_law_pace 2=_law_found 3=_law_k 4=_law_chord 5=_law_key -/
def fn_law_due : Fn := ⟨2, 6, [.asg (.nm 2) (.lst []), .for_ (.tp [(.nm 3), (.nm 4)]) (.enum (.v 0)) [.asg (.nm 2) (.prim .add [(.v 2), (.lc [5] (.nm 5) (.seq (.v 4)) [] (.tup [(.prim .mul [(.prim .mul [(.k (.int 2)), (.v 3)]), (.v 1)]), (.v 5), (.k (.str "down"))]))]), .asg (.nm 2) (.prim .add [(.v 2), (.lc [5] (.nm 5) (.seq (.v 4)) [] (.tup [(.prim .mul [(.prim .add [(.prim .mul [(.k (.int 2)), (.v 3)]), (.k (.int 1))]), (.v 1)]), (.v 5), (.k (.str "up"))]))])], .ret (.mv 2)]⟩
/-- 0=layout 1=row 2=step 3=found 4=k 5=stroke 6=way 7=time 8=key -/
def fn_events_of (must_layout_ look_strokes_ is_whole_ : Nat) : Fn := ⟨3, 9, [.ex (.call must_layout_ [(.v 0)]), .ex (.call look_strokes_ [(.v 0), (.v 1)]), .ite (.not_ (.call is_whole_ [(.v 2), (.k (.int 1)), (.k (.int 1000))])) [.raise "NoCount" [] []] [], .asg (.nm 3) (.lst []), .for_ (.tp [(.nm 4), (.nm 5)]) (.enum (.v 1)) [.for_ (.tp [(.nm 6), (.nm 7)]) (.seq (.tup [(.tup [(.k (.str "down")), (.prim .mul [(.prim .mul [(.k (.int 2)), (.v 4)]), (.v 2)])]), (.tup [(.k (.str "up")), (.prim .add [(.prim .mul [(.prim .mul [(.k (.int 2)), (.v 4)]), (.v 2)]), (.v 2)])])])) [.ex (.ext 3 (.lc [8] (.nm 8) (.seq (.v 5)) [] (.tup [(.v 7), (.v 8), (.v 6)])))]], .ret (.mv 3)]⟩
theorem lc_evs (t : Int) (w : Str) (c : List Int) : ((c.map D.int).filter fun _ => true).map (fun d => D.tup [.int t, d, .str w]) = evs2 t w c := by
  rw [filter_true, List.map_map]; rfl
theorem due_mul (k p : Int) (h0 : 0 ≤ k) (h1 : k < 1000000) (p0 : 0 ≤ p) (p1 : p < 1000000) : primF .mul [.int 2, .int k] = some (.int (2 * k)) ∧ primF .mul [.int (2 * k), .int p] = some (.int (2 * k * p)) ∧ primF .mul [.int (2 * k + 1), .int p] = some (.int (2 * k * p + p)) := by
  refine ⟨p_mul2 _ _ (by omega) (by omega), p_mul2 _ _ (by omega) (by omega), ?_⟩
  rw [p_mul2 _ _ (by omega) (by omega), Int.add_mul, Int.one_mul]
theorem due_ {fns : List Fn} {i : Nat} (gi : fns[i]? = some fn_law_due) (W n : Nat) (cs : List (List Int)) (p : Int) (s : Sto) (hc : cs.length < 1000000) (hl : (dueL p 0 cs).length < 1000000) (p0 : 0 ≤ p) (p1 : p < 1000000) : run fns W (n + 1) i [.frz (cs.map chD), .int p] s = .ok (.own (dueL p 0 cs)) s := by
  refine ans_eq' (ans_ofJ gi rfl fun K hK => ?_)
  have fin : K (.own (dueL p 0 cs)) s := hK _ _ ⟨rfl, rfl⟩
  clear hK
  have hbig : big = 16777216 := rfl
  simp [fn_law_due]
  refine wp_forJ (fun k en s' => s' = s ∧ ∃ (F : List D) (u3 u4 : Option D), en = [some (.frz (cs.map chD)), some (.int p), some (.own F), u3, u4, none] ∧ dueL p 0 cs = F ++ dueL p k (cs.drop k)) ⟨rfl, [], _, _, rfl, rfl⟩ ?_ ?_
  · rintro k d0 en s' J hi ⟨rfl, F, u3, u4, rfl, hF⟩ hJ
    rw [enum_get, List.getElem?_map] at hi
    obtain ⟨c, he, rfl⟩ : ∃ c, cs[k]? = some c ∧ .tup [.int k, chD c] = d0 := by
      cases h : cs[k]? with
      | none => rw [h] at hi; cases hi
      | some d => rw [h] at hi; exact ⟨d, rfl, Option.some.inj hi⟩
    have hlt := get_lt he
    rw [drop_get he] at hF
    have hF' : dueL p 0 cs = F ++ (evs2 (2 * k * p) "down" c ++ (evs2 (2 * k * p + p) "up" c ++ dueL p (k + 1) (cs.drop (k + 1)))) := hF
    have hll := congrArg List.length hF'
    simp only [List.length_append] at hll
    have e1 : (evs2 (2 * (k : Int) * p) "down" c).length = c.length := by simp [evs2]
    have e2 : (evs2 (2 * (k : Int) * p + p) "up" c).length = c.length := by simp [evs2]
    have hJ' := hJ [some (.frz (cs.map chD)), some (.int p), some (.own (F ++ evs2 (2 * k * p) "down" c ++ evs2 (2 * k * p + p) "up" c)), some (.int k), some (chD c), none] s' ⟨rfl, _, _, _, rfl, by rw [hF', List.append_assoc, List.append_assoc]⟩
    obtain ⟨ki, hki⟩ : ∃ ki : Int, (k : Int) = ki := ⟨_, rfl⟩
    rw [hki] at hJ' e1 e2 hll ⊢
    obtain ⟨m1, m2, m3⟩ := due_mul ki p (by omega) (by omega) p0 p1
    clear hi hJ hF hF'
    simp [chD]
    refine wp_lcP (fun _ => true) (fun d => .tup [.int (2 * ki * p), d, .str "down"]) (by simp; omega) ?_ ?_
    · intro d hd
      obtain ⟨x, rfl⟩ := ints_val hd
      simp [m1, m2]
    · rw [lc_evs]
      generalize evs2 (2 * ki * p) "down" c = A at *
      have a1 := p_addO F A (by omega)
      simp [a1]
      refine wp_lcP (fun _ => true) (fun d => .tup [.int (2 * ki * p + p), d, .str "up"]) (by simp; omega) ?_ ?_
      · intro d hd
        obtain ⟨x, rfl⟩ := ints_val hd
        simp [m1, m3]
      · rw [lc_evs]
        generalize evs2 (2 * ki * p + p) "up" c = B at *
        have a2 := p_addO (F ++ A) B (by simp; omega)
        simp [a2]
        simp [chD] at hJ'
        exact hJ'
  · rintro en s' ⟨rfl, F, u3, u4, rfl, hF⟩
    rw [enum_len, List.length_map, List.drop_length] at hF
    simp only [dueL, List.append_nil] at hF
    rw [hF] at fin
    simp
    exact fin
theorem wp_forN {bd : D → M Unit} {body : M Flow} {Q : Flow → Env → Sto → Prop} {en : Env} {s : Sto} (h : Q .next en s) : wp (forL bd body []) en s Q := by
  unfold forL
  rw [wp_ret]
  exact h
theorem wp_forC {bd : D → M Unit} {body : M Flow} {Q : Flow → Env → Sto → Prop} {d : D} {ds : List D} {en : Env} {s : Sto} (h : ∀ J : Env → Sto → Prop, (∀ en s, wp (forL bd body ds) en s Q → J en s) → wp (bd d) en s fun _ en s => wp body en s (turnQ J Q)) : wp (forL bd body (d :: ds)) en s Q := by
  unfold forL
  rw [wp_bind]
  refine wp_mono (h _ fun _ _ h => h) fun _ en s h => ?_
  rw [wp_bind]
  refine wp_mono h fun fl en s h => ?_
  cases fl with
  | next => exact h
  | cont => exact h
  | brk => rw [wp_ret]; exact h
  | ret => rw [wp_ret]; exact h
/-- what events_of stands on -/
def EvOfF (fns : List Fn) (f : Nat) : Prop := ∃ m l i j, fns[f]? = some (fn_events_of m l i) ∧ MustF fns m ∧ fns[l]? = some (fn_look_strokes j) ∧ fns[j]? = some fn_is_stroke ∧ fns[i]? = some fn_is_whole
theorem EvOfF.ok {fns : List Fn} {f : Nat} (g : EvOfF fns f) (W n : Nat) (ks : List D) (cs : List (List Int)) (p : Int) (s : Sto) (hl : lOk (.tup ks) = true) (hw : wrongL (.tup ks) = .non) (hk : ks.length ≤ 1000) (hg : ∀ c ∈ cs, goodC ks.length c) (hc : cs.length < 1000000) (hn : (dueL p 0 cs).length < 1000000) (p0 : 1 ≤ p) (p1 : p ≤ 1000) :
    run fns W (n + 4) f [.tup ks, .frz (cs.map chD), .int p] s = .ok (.own (dueL p 0 cs)) s := by
  obtain ⟨m, l, i, j, gf, gm, gl, gj, gi⟩ := g
  have e1 := gm.ok W n (.tup ks) s hl hw
  have e2 := lookS_ok gl gj W (n + 1) ks (cs.map chD) s (fun d hd => by
    obtain ⟨c, hc, rfl⟩ := List.mem_map.mp hd
    exact chord_ok (hg c hc)) hk
  have e3 := whole_ gi W (n + 2) (.int p) 1 (some 1000) s rfl
  have e3' : wholeB 1 (some 1000) (.int p) = true := by simp [wholeB, p0, p1]
  rw [e3'] at e3
  simp only [optD] at e3
  refine ans_eq' (ans_ofJ gf rfl fun K hK => ?_)
  have fin : K (.own (dueL p 0 cs)) s := hK _ _ ⟨rfl, rfl⟩
  clear hK
  have hbig : big = 16777216 := rfl
  simp [fn_events_of, e1, e2, e3]
  refine wp_forJ (fun k en s' => s' = s ∧ ∃ (F : List D) (u4 u5 u6 u7 : Option D), en = [some (.tup ks), some (.frz (cs.map chD)), some (.int p), some (.own F), u4, u5, u6, u7, none] ∧ dueL p 0 cs = F ++ dueL p k (cs.drop k)) ⟨rfl, [], _, _, _, _, rfl, rfl⟩ ?_ ?_
  · rintro k d0 en s' J hi ⟨rfl, F, u4, u5, u6, u7, rfl, hF⟩ hJ
    rw [enum_get, List.getElem?_map] at hi
    obtain ⟨c, he, rfl⟩ : ∃ c, cs[k]? = some c ∧ .tup [.int k, chD c] = d0 := by
      cases h : cs[k]? with
      | none => rw [h] at hi; cases hi
      | some d => rw [h] at hi; exact ⟨d, rfl, Option.some.inj hi⟩
    have hlt := get_lt he
    rw [drop_get he] at hF
    have hF' : dueL p 0 cs = F ++ (evs2 (2 * k * p) "down" c ++ (evs2 (2 * k * p + p) "up" c ++ dueL p (k + 1) (cs.drop (k + 1)))) := hF
    have hll := congrArg List.length hF'
    simp only [List.length_append] at hll
    have l1 : (evs2 (2 * (k : Int) * p) "down" c).length = c.length := by simp [evs2]
    have l2 : (evs2 (2 * (k : Int) * p + p) "up" c).length = c.length := by simp [evs2]
    have hJ' := fun u6 u7 => hJ [some (.tup ks), some (.frz (cs.map chD)), some (.int p), some (.own (F ++ evs2 (2 * k * p) "down" c ++ evs2 (2 * k * p + p) "up" c)), some (.int k), some (chD c), u6, u7, none] s' ⟨rfl, _, _, _, u6, u7, rfl, by rw [hF', List.append_assoc, List.append_assoc]⟩
    obtain ⟨ki, hki⟩ : ∃ ki : Int, (k : Int) = ki := ⟨_, rfl⟩
    rw [hki] at hJ' l1 l2 hll ⊢
    obtain ⟨m1, m2, m3⟩ := due_mul ki p (by omega) (by omega) (by omega) (by omega)
    clear hi hJ hF hF'
    simp [chD, m1, m2]
    refine wp_forC fun J1 hJ1 => ?_
    simp
    refine wp_lcP (fun _ => true) (fun d => .tup [.int (2 * ki * p), d, .str "down"]) (by simp; omega) ?_ ?_
    · intro d hd
      obtain ⟨x, rfl⟩ := ints_val hd
      simp
    · rw [lc_evs]
      generalize evs2 (2 * ki * p) "down" c = A at *
      refine extQ_own rfl (by omega) ?_
      simp
      refine hJ1 _ _ (wp_forC fun J2 hJ2 => ?_)
      simp
      refine wp_lcP (fun _ => true) (fun d => .tup [.int (2 * ki * p + p), d, .str "up"]) (by simp; omega) ?_ ?_
      · intro d hd
        obtain ⟨x, rfl⟩ := ints_val hd
        simp
      · rw [lc_evs]
        generalize evs2 (2 * ki * p + p) "up" c = B at *
        refine extQ_own rfl (by simp; omega) ?_
        simp
        refine hJ2 _ _ (wp_forN ?_)
        simp [chD] at hJ' ⊢
        exact hJ' _ _
  · rintro en s' ⟨rfl, F, u4, u5, u6, u7, rfl, hF⟩
    rw [enum_len, List.length_map, List.drop_length] at hF
    simp only [dueL, List.append_nil] at hF
    rw [hF] at fin
    simp
    exact fin
theorem EvOfF.lay {fns : List Fn} {f : Nat} (g : EvOfF fns f) (W n : Nat) (d e x w : D) (s : Sto) (hd : lOk d = true) (he : val e = true) (hx : val x = true) (hw : wrongL d = w) (hv : val w = true) (hn : w ≠ .non) : run fns W (n + 4) f [d, e, x] s = .exc (noLayout w) s := by
  obtain ⟨m, l, i, j, gf, gm, gl, gj, gi⟩ := g
  refine run_exc gf rfl ?_
  refine wx_first (wx_first (wx_then ?_))
  simp [fn_events_of, initE, lOk_val hd, he, hx]
  exact wx_call (gm.exc W n d w s hd hw hv hn) ⟨rfl, rfl⟩
theorem EvOfF.row {fns : List Fn} {f : Nat} (g : EvOfF fns f) (W n : Nat) (ks ds : List D) (x : D) (s : Sto) (hl : lOk (.tup ks) = true) (hw : wrongL (.tup ks) = .non) (hx : val x = true) : run fns W (n + 4) f [.tup ks, .tup ds, x] s = .exc noRow s := by
  obtain ⟨m, l, i, j, gf, gm, gl, gj, gi⟩ := g
  have e1 := gm.ok W n (.tup ks) s hl hw
  refine run_exc gf rfl ?_
  refine wx_then ?_
  simp [fn_events_of, initE, e1, hx]
  refine wx_first (wx_first (wx_then ?_))
  simp [hx]
  exact wx_call (look_row gl W (n + 1) (.tup ks) ds s rfl) ⟨rfl, rfl⟩
theorem EvOfF.stroke {fns : List Fn} {f : Nat} (g : EvOfF fns f) (W n : Nat) (ks : List D) (cs : List (List Int)) (b x : D) (s : Sto) (hl : lOk (.tup ks) = true) (hw : wrongL (.tup ks) = .non) (hk : ks.length ≤ 1000) (hg : ∀ c ∈ cs, goodC ks.length c) (hb : thB b = true) (hb2 : strokeB ks.length b = false) (hx : val x = true) :
    run fns W (n + 4) f [.tup ks, .frz (cs.map chD ++ [b]), x] s = .exc noStroke s := by
  obtain ⟨m, l, i, j, gf, gm, gl, gj, gi⟩ := g
  have e1 := gm.ok W n (.tup ks) s hl hw
  have e2 := look_bad gl gj W (n + 1) ks (cs.map chD) b s (fun d hd => by
    obtain ⟨c, hc, rfl⟩ := List.mem_map.mp hd
    exact chord_ok (hg c hc)) hb hb2 hk
  refine run_exc gf rfl ?_
  refine wx_then ?_
  simp [fn_events_of, initE, e1, hx]
  refine wx_first (wx_first (wx_then ?_))
  simp [hx]
  exact wx_call e2 ⟨rfl, rfl⟩
theorem EvOfF.count {fns : List Fn} {f : Nat} (g : EvOfF fns f) (W n : Nat) (ks : List D) (cs : List (List Int)) (x : D) (s : Sto) (hl : lOk (.tup ks) = true) (hw : wrongL (.tup ks) = .non) (hk : ks.length ≤ 1000) (hg : ∀ c ∈ cs, goodC ks.length c) (hx : sOk x = true) (hx2 : wholeB 1 (some 1000) x = false) :
    run fns W (n + 4) f [.tup ks, .frz (cs.map chD), x] s = .exc noCount s := by
  obtain ⟨m, l, i, j, gf, gm, gl, gj, gi⟩ := g
  have e1 := gm.ok W n (.tup ks) s hl hw
  have e2 := lookS_ok gl gj W (n + 1) ks (cs.map chD) s (fun d hd => by
    obtain ⟨c, hc, rfl⟩ := List.mem_map.mp hd
    exact chord_ok (hg c hc)) hk
  have e3 := whole_ gi W (n + 2) x 1 (some 1000) s hx
  rw [hx2] at e3
  simp only [optD] at e3
  have vx : val x = true := by cases x <;> first | rfl | cases hx
  refine run_exc gf rfl ?_
  refine wx_then ?_
  simp [fn_events_of, initE, e1, vx]
  refine wx_then ?_
  simp [e2, vx]
  refine wx_first (wx_then ?_)
  simp [e3, vx]
  refine wx_first (wx_then ?_)
  simp
  exact wx_raise rfl ⟨rfl, rfl⟩
end Mi
end
section
set_option Elab.async false
set_option maxRecDepth 100000
set_option linter.all false
namespace Mi
open PySem
/-! ### the events of chords: no fault, and what is told of them -/
def PreLe (pre : Option D) (t : Int) : Prop := ∀ q, pre = some q → evT q ≤ t
theorem PreLe.late {pre : Option D} {t : Int} (h : PreLe pre t) (e : D) (he : evT e = t) : lateE e pre = false := by
  cases pre with
  | none => rfl
  | some q =>
    have := h q rfl
    simp only [lateE]
    rw [he]
    exact decide_eq_false (by omega)
abbrev evD (t x : Int) (w : Str) : D := .tup [.int t, .int x, .str w]
theorem ev_ok {b : Nat} {t x : Int} (ht : 0 ≤ t) (h0 : 0 ≤ x) (h1 : x < b) : eventB b (evD t x "down") = true ∧ eventB b (evD t x "up") = true := by
  have e1 : wholeB 0 none (.int t) = true := by simp [wholeB, ht]
  have e2 : wholeB 0 (some ((b : Int) - 1)) (.int x) = true := by
    simp [wholeB, h0]; omega
  constructor
  · simp only [eventB, e1, e2, Bool.true_and]
    simp [eqv_s]
  · simp only [eventB, e1, e2, Bool.true_and]
    simp [eqv_s]
theorem evD_down (t x : Int) : evDown (evD t x "down") = true := by simp [evDown]
theorem evD_up (t x : Int) : evDown (evD t x "up") = false := by simp [evDown]
theorem evs_cons (t : Int) (w : Str) (x : Int) (c : List Int) : evs2 t w (x :: c) = evD t x w :: evs2 t w c := rfl
theorem wrong_down {b : Nat} {t : Int} (ht : 0 ≤ t) (rest : List D) : ∀ (c : List Int) (i : Nat) (pre : Option D) (dn : List Int), PreLe pre t → c.Nodup → (∀ x ∈ c, x ∉ dn) → (∀ x ∈ c, 0 ≤ x ∧ x < b) →
    ∃ pre' i', PreLe pre' t ∧ wrongE b i pre dn (evs2 t "down" c ++ rest) = wrongE b i' pre' (dn ++ c) rest
  | [], i, pre, dn, hp, _, _, _ => ⟨pre, i, hp, by rw [List.append_nil]; rfl⟩
  | x :: c, i, pre, dn, hp, hn, hd, hr => by
    rw [List.nodup_cons] at hn
    obtain ⟨h0, h1⟩ := hr x List.mem_cons_self
    have hx := hd x List.mem_cons_self
    obtain ⟨pre', i', g1, g2⟩ := wrong_down ht rest c (i + 1) (some (evD t x "down")) (dn ++ [x]) (fun q hq => by cases hq; exact Int.le_refl _) hn.2
      (fun y hy hy' => by
        rcases List.mem_append.mp hy' with h | h
        · exact hd y (List.mem_cons_of_mem _ hy) h
        · simp at h; subst h; exact hn.1 hy) (fun y hy => hr y (List.mem_cons_of_mem _ hy))
    refine ⟨pre', i', g1, ?_⟩
    rw [show dn ++ x :: c = (dn ++ [x]) ++ c by simp, ← g2, evs_cons, List.cons_append]
    have e3 : (dn.contains (evK (evD t x "down"))) = false := by
      show dn.contains x = false
      simpa using hx
    rw [wrongE, (ev_ok ht h0 h1).1, hp.late _ rfl, evD_down, e3]
    rfl
theorem wrong_up {b : Nat} {t : Int} (ht : 0 ≤ t) (rest : List D) : ∀ (c : List Int) (i : Nat) (pre : Option D), PreLe pre t → (∀ x ∈ c, 0 ≤ x ∧ x < b) →
    ∃ pre' i', PreLe pre' t ∧ wrongE b i pre c (evs2 t "up" c ++ rest) = wrongE b i' pre' [] rest
  | [], i, pre, hp, _ => ⟨pre, i, hp, rfl⟩
  | x :: c, i, pre, hp, hr => by
    obtain ⟨h0, h1⟩ := hr x List.mem_cons_self
    obtain ⟨pre', i', g1, g2⟩ := wrong_up ht rest c (i + 1) (some (evD t x "up")) (fun q hq => by cases hq; exact Int.le_refl _) (fun y hy => hr y (List.mem_cons_of_mem _ hy))
    refine ⟨pre', i', g1, ?_⟩
    rw [← g2, evs_cons, List.cons_append]
    have e3 : ((x :: c).contains (evK (evD t x "up"))) = true := by
      show (x :: c).contains x = true
      simp
    have e4 : (x :: c).erase (evK (evD t x "up")) = c := by
      show (x :: c).erase x = c
      simp
    rw [wrongE, (ev_ok ht h0 h1).2, hp.late _ rfl, evD_up, e3, e4]
    rfl
theorem goodC.nodup {b : Nat} {c : List Int} (h : goodC b c) : c.Nodup := h.2.1.imp fun h => by omega
theorem due_good {b : Nat} {p : Int} (hp : 0 ≤ p) : ∀ (cs : List (List Int)) (k i : Nat) (pre : Option D), PreLe pre (2 * k * p) → (∀ c ∈ cs, goodC b c) → wrongE b i pre [] (dueL p k cs) = .non
  | [], _, _, _, _, _ => rfl
  | c :: cs, k, i, pre, h, hg => by
    have hc := hg c List.mem_cons_self
    have t0 : 0 ≤ 2 * (k : Int) * p := Int.mul_nonneg (by omega) hp
    obtain ⟨pre1, i1, g1, g2⟩ := wrong_down (b := b) t0 (evs2 (2 * k * p + p) "up" c ++ dueL p (k + 1) cs) c i pre [] h hc.nodup (fun _ _ h => by cases h) hc.2.2
    obtain ⟨pre2, i2, g3, g4⟩ := wrong_up (b := b) (t := 2 * k * p + p) (by omega) (dueL p (k + 1) cs) c i1 pre1 (fun q hq => by have := g1 q hq; omega) hc.2.2
    show wrongE b i pre [] (evs2 (2 * k * p) "down" c ++ (evs2 (2 * k * p + p) "up" c ++ dueL p (k + 1) cs)) = .non
    rw [g2, List.nil_append, g4]
    refine due_good hp cs (k + 1) i2 pre2 (fun q hq => ?_) fun c hc => hg c (List.mem_cons_of_mem _ hc)
    have h1 := g3 q hq
    have h2 : 2 * ((k + 1 : Nat) : Int) * p = 2 * k * p + 2 * p := by
      rw [show 2 * ((k + 1 : Nat) : Int) = 2 * k + 2 by omega, Int.add_mul]
    omega
/-! ### told -/
theorem add_fold : ∀ (c sn : List Int), c.Nodup → (∀ x ∈ c, x ∉ sn) → c.foldl addK sn = sn ++ c
  | [], sn, _, _ => (List.append_nil sn).symm
  | x :: c, sn, hn, hd => by
    rw [List.nodup_cons] at hn
    have hx : sn.contains x = false := by simpa using hd x List.mem_cons_self
    have e : addK sn x = sn ++ [x] := by
      unfold addK
      rw [hx]; rfl
    rw [List.foldl_cons, e, add_fold c (sn ++ [x]) hn.2 fun y hy hy' => ?_]
    · simp
    · rcases List.mem_append.mp hy' with h | h
      · exact hd y (List.mem_cons_of_mem _ hy) h
      · simp at h; subst h; exact hn.1 hy
theorem tb_down (first : Bool) (t : Int) (rest : List D) : ∀ (c : List Int) (F : List D) (dn sn : List Int) (fr : Bool), tb first F dn sn fr (evs2 t "down" c ++ rest) = tb first F (dn ++ c) (c.foldl addK sn) (fr || !c.isEmpty) rest
  | [], F, dn, sn, fr => by simp [evs2]
  | x :: c, F, dn, sn, fr => by
    rw [evs_cons, List.cons_append, tb, evD_down]
    simp only [if_true]
    rw [tb_down first t rest c]
    simp [evK]
theorem tb_quiet (t : Int) (rest : List D) : ∀ (c : List Int) (F : List D) (sn : List Int), tb true F c sn false (evs2 t "up" c ++ rest) = tb true F [] sn false rest
  | [], F, sn => rfl
  | x :: c, F, sn => by
    have e4 : (x :: c).erase (evK (evD t x "up")) = c := by
      show (x :: c).erase x = c
      simp
    rw [evs_cons, List.cons_append, tb, evD_up, e4]
    simp only [if_true, Bool.false_eq_true, if_false]
    exact tb_quiet t rest c F sn
theorem tb_first (t : Int) (rest : List D) (x : Int) (c : List Int) (F : List D) (sn : List Int) : tb true F (x :: c) sn true (evs2 t "up" (x :: c) ++ rest) = tb true (F ++ [.tup [.int t, .tup (sortD (x :: c))]]) [] sn false rest := by
  have e4 : (x :: c).erase (evK (evD t x "up")) = c := by
    show (x :: c).erase x = c
    simp
  rw [evs_cons, List.cons_append, tb, evD_up, e4]
  simp only [if_true, Bool.false_eq_true, if_false]
  exact tb_quiet t rest c _ sn
theorem tb_all (t : Int) (rest : List D) : ∀ (c : List Int) (x : Int) (F : List D) (sn : List Int) (fr : Bool), tb false F (x :: c) sn fr (evs2 t "up" (x :: c) ++ rest) = tb false (F ++ [.tup [.int t, .tup (sortD sn)]]) [] [] fr rest
  | [], x, F, sn, fr => by
    have e4 : [x].erase (evK (evD t x "up")) = [] := by
      show [x].erase x = []
      simp
    rw [evs_cons, List.cons_append, tb, evD_up, e4]
    rfl
  | y :: c, x, F, sn, fr => by
    have e4 : (x :: y :: c).erase (evK (evD t x "up")) = y :: c := by
      show (x :: y :: c).erase x = y :: c
      simp
    rw [evs_cons, List.cons_append, tb, evD_up, e4]
    simp only [Bool.false_eq_true, if_false, List.isEmpty_cons]
    exact tb_all t rest c y F sn fr
def rowsL (p : Int) : Nat → List (List Int) → List D
  | _, [] => []
  | k, c :: cs => .tup [.int (2 * k * p + p), chD c] :: rowsL p (k + 1) cs
theorem sort_good {b : Nat} {c : List Int} (h : goodC b c) : sortD c = c.map .int := by
  unfold sortD
  rw [srt_eq (List.Perm.refl c) h.2.1]
theorem tb_due {b : Nat} {p : Int} (first : Bool) : ∀ (cs : List (List Int)) (k : Nat) (F : List D) (sn : List Int) (fr : Bool), (first = false → sn = []) → (∀ c ∈ cs, goodC b c) → tb first F [] sn fr (dueL p k cs) = F ++ rowsL p k cs
  | [], k, F, sn, fr, _, _ => by simp [dueL, tb, rowsL]
  | c :: cs, k, F, sn, fr, hs, hg => by
    have hc := hg c List.mem_cons_self
    have hg' : ∀ c ∈ cs, goodC b c := fun c hc => hg c (List.mem_cons_of_mem _ hc)
    show tb first F [] sn fr (evs2 (2 * k * p) "down" c ++ (evs2 (2 * k * p + p) "up" c ++ dueL p (k + 1) cs)) = _
    rw [tb_down]
    have hf : (fr || !c.isEmpty) = true := by
      cases c with
      | nil => exact absurd rfl hc.1
      | cons => simp
    rw [hf, List.nil_append]
    have hsort := sort_good hc
    cases first with
    | true =>
      match c, hc, hsort with
      | x :: c, hc, hsort =>
        rw [tb_first, tb_due true cs (k + 1) _ _ _ (fun h => by cases h) hg', hsort]
        simp [rowsL, chD]
    | false =>
      have := hs rfl
      subst this
      rw [add_fold c [] hc.nodup (fun _ _ h => by cases h), List.nil_append]
      match c, hc, hsort with
      | x :: c, hc, hsort =>
        rw [tb_all, tb_due false cs (k + 1) _ _ _ (fun _ => rfl) hg', hsort]
        simp [rowsL, chD]
end Mi
end
section
set_option Elab.async false
set_option maxRecDepth 100000
set_option linter.all false
namespace Mi
open PySem
/-! ### strokes_of, where nothing bounces -/
theorem keep_all {q : Nat → Bool} : ∀ (ds : List D) (k : Nat), (∀ m, k ≤ m → m < k + ds.length → q m = false) → keepFrom q k ds = ds
  | [], _, _ => rfl
  | d :: r, k, h => by
    simp only [keepFrom]
    rw [h k (Nat.le_refl _) (by simp), keep_all r (k + 1) fun m h1 h2 => h m (by omega) (by simp only [List.length_cons]; omega)]
    rfl
theorem keep_zero {ds : List D} {q : Nat → Bool} (h : BarQ ds 0 q) : keepFrom q 0 ds = ds := by
  refine keep_all ds 0 fun m _ h2 => ?_
  have h3 := h m (by omega)
  cases hq : q m with
  | false => rfl
  | true =>
    obtain ⟨i, j, hp, _⟩ := h3.mp hq
    obtain ⟨_, _, _, _, _, _, _, _, h0, _⟩ := hp
    exact absurd h0 (by omega)
/-- 0=rule 1=bounce -/
def fn_must_rule (is_whole_ : Nat) : Fn := ⟨2, 2, [.ite (.or_ (.not_ (.prim (.isi 1) [(.v 0)])) (.prim .notin [(.v 0), (.k (.tup [(.str "all"), (.str "first")]))])) [.raise "NoRule" [] []] [], .ite (.not_ (.call is_whole_ [(.v 1), (.k (.int 0)), (.k (.int 50))])) [.raise "NoCount" [] []] []]⟩
theorem rule_in (first : Bool) : primF .notin [.str (ruleS first), .tup [.str "all", .str "first"]] = some (.bl false) := by
  cases first <;> kernel_rfl
theorem rule_ok {fns : List Fn} {f i : Nat} (gf : fns[f]? = some (fn_must_rule i)) (gi : fns[i]? = some fn_is_whole) (W n : Nat) (first : Bool) (b : Int) (s : Sto) (b0 : 0 ≤ b) (b1 : b ≤ 50) : run fns W (n + 2) f [.str (ruleS first), .int b] s = .ok .non s := by
  have e3 := whole_ gi W n (.int b) 0 (some 50) s rfl
  have e3' : wholeB 0 (some 50) (.int b) = true := by simp [wholeB, b0, b1]
  rw [e3'] at e3
  simp only [optD] at e3
  have e1 := rule_in first
  generalize ruleS first = r at *
  have e2 : primF (.isi 1) [.str r] = some (.bl true) := id rfl
  refine ans_eq' (ans_of gf rfl ?_)
  simp [fn_must_rule, e1, e2, e3]
/-- 0=layout 1=events 2=rule 3=bounce -/
def fn_strokes_of (must_events_ must_rule_ told_by_ clean_ : Nat) : Fn := ⟨4, 4, [.ex (.call must_events_ [(.v 0), (.v 1)]), .ex (.call must_rule_ [(.v 2), (.v 3)]), .ret (.call told_by_ [(.call clean_ [(.v 1), (.v 3)]), (.v 2)])]⟩
def StrF (fns : List Fn) (f : Nat) : Prop := ∃ m r t c b i, fns[f]? = some (fn_strokes_of m r t c) ∧ MustEvF fns m ∧ fns[r]? = some (fn_must_rule i) ∧ fns[i]? = some fn_is_whole ∧ fns[t]? = some fn_told_by ∧ fns[c]? = some (fn_clean b) ∧ fns[b]? = some fn_bounces
theorem StrF.zero {fns : List Fn} {f : Nat} (g : StrF fns f) (W n : Nat) (ks ds : List D) (first : Bool) (s : Sto) (hl : lOk (.tup ks) = true) (hw : wrongL (.tup ks) = .non) (hk : ks.length < 64) (hz : ds.length < 1000000) (hd : ∀ d ∈ ds, kOk d = true) (hg : wrongE ks.length 0 none [] ds = .non) :
    ∃ t, run fns W (n + 6) f [.tup ks, .frz ds, .str (ruleS first), .int 0] s = .ok (.own (tb first [] [] [] false ds)) (s ++ t) := by
  obtain ⟨m, r, t, c, b, i, gf, gm, gr, gi, gt, gc, gb⟩ := g
  obtain ⟨t1, e1⟩ := gm.ok W n ks ds s hl hw (by omega) hz hd hg
  have e2 := rule_ok gr gi W (n + 3) first 0 (s ++ t1) (by omega) (by omega)
  obtain ⟨q, t2, e3, hq⟩ := clean_ gc gb W (n + 3) ks.length ds 0 (s ++ t1) hz hg
  rw [keep_zero hq] at e3
  obtain ⟨t3, e4⟩ := told_by_ gt W (n + 4) ks.length ds (.own ds) (.inl rfl) first (s ++ t1 ++ t2) hz hk hg
  refine ⟨t1 ++ (t2 ++ t3), ans_eq' (ans_of gf rfl ?_)⟩
  rw [← List.append_assoc, ← List.append_assoc]
  generalize tb first [] [] [] false ds = R at *
  generalize s ++ t1 = s1 at *
  generalize s1 ++ t2 = s2 at *
  generalize s2 ++ t3 = s3 at *
  generalize ruleS first = ru at *
  simp [fn_strokes_of, e1, e2, e3, e4]
/-! ### a chord drawn -/
/-- 0=_law_purse_here 1=_law_board 2=_law_found 3=_law_k -/
def fn_law_stroke (_law_take_ : Nat) : Fn := ⟨2, 4, [.asg (.nm 2) (.prim .tuple [(.lc [3] (.nm 3) (.rng1 (.prim .len [(.v 1)])) [(.prim .eq [(.call _law_take_ [(.rf 0), (.k (.int 3))]), (.k (.int 0))])] (.v 3))]), .ret (.or_ (.v 2) (.tup [(.call _law_take_ [(.rf 0), (.prim .len [(.v 1)])])]))]⟩
theorem lawStroke_ {fns : List Fn} {f i j : Nat} (gf : fns[f]? = some (fn_law_stroke i)) (hi : fns[i]? = some (fTake j)) (hj : fns[j]? = some fMixed) (W n p N : Nat) (ks : List D) (s : Sto) (hs : Pu p N s) (hN : N + ks.length + 1 < 2 ^ 90) (h1 : ks ≠ []) (h2 : ks.length < 1000) :
    ∃ c s', run fns W (n + 3) f [.ref p, .tup ks] s = .ok (chD c) s' ∧ goodC ks.length c ∧ St p (N + ks.length + 1) s s' := by
  have key : ans fns W (n + 3) f [.ref p, .tup ks] s fun d s' => ∃ c, d = chD c ∧ goodC ks.length c ∧ St p (N + ks.length + 1) s s' := by
    refine ans_ofJ gf rfl fun K hK => ?_
    have hbig : big = 16777216 := rfl
    have rg := rngO_i ks.length (fit_int (by omega) (by omega))
    rw [Int.toNat_natCast] at rg
    simp [fn_law_stroke, rg]
    refine wp_lc (fun k acc en s' => en = [some (.ref p), some (.tup ks), none, none] ∧ (∃ c : List Int, acc = c.map D.int ∧ c.Pairwise (· < ·) ∧ ∀ x ∈ c, 0 ≤ x ∧ x < k) ∧ St p (N + k) s s' ∧ k ≤ ks.length ∧ acc.length ≤ k) ⟨rfl, ⟨[], rfl, List.Pairwise.nil, fun x hx => (by cases hx)⟩, St.refl hs, Nat.zero_le _, Nat.le_refl _⟩ (by rw [rngD_len]; omega) ?_ ?_ ?_
    · rintro k acc en s' ⟨rfl, _, _, _, h⟩
      exact h
    · rintro k d acc en s' hd ⟨rfl, ⟨c, rfl, hp, hr⟩, hst, hk, hal⟩
      obtain ⟨rfl, hlt⟩ := rng_get hd
      obtain ⟨g, s2, e, g0, g1, hst2⟩ := take_ hi hj W n p (N + k) 3 s' hst.pu (by omega) (by omega) (by omega)
      have st3 := hst.trans hst2
      have e0 : (0 : Int) + (k : Int) = k := by omega
      rw [e0]
      obtain ⟨kk, hkk⟩ : ∃ kk : Int, (k : Int) = kk := ⟨_, rfl⟩
      by_cases hg : g = 0
      · subst hg
        have hc : ∃ c' : List Int, c.map D.int ++ [.int kk] = c'.map D.int ∧ c'.Pairwise (· < ·) ∧ ∀ x ∈ c', 0 ≤ x ∧ x < ((k + 1 : Nat) : Int) := by
          refine ⟨c ++ [kk], by simp, ?_, ?_⟩
          · rw [List.pairwise_append]
            exact ⟨hp, by simp, fun a ha b hb => by simp at hb; subst hb; have := (hr a ha).2; omega⟩
          · intro x hx
            rcases List.mem_append.mp hx with hx | hx
            · have := hr x hx; omega
            · simp at hx; subst hx; omega
        rw [hkk]
        have hal' : (c.map D.int ++ [D.int kk]).length ≤ k + 1 := by simp at hal ⊢; exact hal
        simp [e]
        exact ⟨by simpa using hc, st3, hlt, by simpa using hal⟩
      · have hg' : (g == 0) = false := by simpa using hg
        have hc : ∃ c' : List Int, c.map D.int = c'.map D.int ∧ c'.Pairwise (· < ·) ∧ ∀ x ∈ c', 0 ≤ x ∧ x < ((k + 1 : Nat) : Int) := ⟨c, rfl, hp, fun x hx => by have := hr x hx; omega⟩
        generalize c.map D.int = B at *
        rw [hkk]
        simp [e, hg']
        exact ⟨hc, st3, hlt, by omega⟩
    · rintro acc en s' ⟨rfl, ⟨c, rfl, hp, hr⟩, hst, hk, hal⟩
      rw [rngD_len] at hr hst hk hal
      simp
      by_cases hc : c = []
      · rw [if_pos hc]
        have hkl : 1 ≤ ks.length := by cases ks with | nil => exact absurd rfl h1 | cons => simp
        obtain ⟨g, s2, e, g0, g1, hst2⟩ := take_ hi hj W n p (N + ks.length) ks.length s' hst.pu (by omega) (by omega) (by omega)
        simp [e]
        exact hK _ _ ⟨[g], rfl, ⟨by simp, by simp, fun x hx => by simp at hx; subst hx; exact ⟨g0, g1⟩⟩, hst.trans hst2⟩
      · rw [if_neg hc]
        exact hK _ _ ⟨c, rfl, ⟨hc, hp, hr⟩, hst.mono (by omega)⟩
  obtain ⟨d, s', e, c, rfl, h⟩ := ans_run key
  exact ⟨c, s', e, h⟩
end Mi
end
section
set_option Elab.async false
set_option maxRecDepth 100000
set_option linter.all false
namespace Mi
open PySem
/-! ### events without bounces are events -/
theorem time_mono {c : Nat} {ds : List D} (h : wrongE c 0 none [] ds = .non) {i : Nat} {ei : D} (hi : ds[i]? = some ei) : ∀ (n : Nat) {ej : D}, ds[i + n]? = some ej → evT ei ≤ evT ej
  | 0, ej, hj => by rw [Nat.add_zero, hi] at hj; cases hj; exact Int.le_refl _
  | n + 1, ej, hj => by
    have hlt := get_lt hj
    obtain ⟨em, hm⟩ : ∃ em, ds[i + n]? = some em := ⟨_, List.getElem?_eq_getElem (by omega)⟩
    have h1 := time_mono h hi n hm
    have h2 := (good_ev h hj).2.1
    have hp : preE ds (i + (n + 1)) = some em := by
      show (match i + (n + 1) with | 0 => none | k + 1 => ds[k]?) = _
      exact hm
    rw [hp] at h2
    simp only [lateE, decide_eq_false_iff_not] at h2
    omega
/-- the keys that are down of what is kept: those that are down, or up in a bounce -/
def KeptDn (ds : List D) (b : Int) (k : Nat) (dn : List Int) : Prop := dn.Nodup ∧ ∀ x, x ∈ dn ↔ x ∈ dnAt ds k ∨ ∃ i j e, Pr ds b i j ∧ i < k ∧ k ≤ j ∧ ds[i]? = some e ∧ evK e = x
theorem keep_wrong {c : Nat} {ds : List D} {b : Int} {q : Nat → Bool} (h : wrongE c 0 none [] ds = .non) (hq : BarQ ds b q) : ∀ (r : List D) (k : Nat), ds.drop k = r → ∀ (k' : Nat) (pre : Option D) (dn : List Int), (∀ p, pre = some p → ∃ i, i < k ∧ ds[i]? = some p) → KeptDn ds b k dn →
    wrongE c k' pre dn (keepFrom q k r) = .non
  | [], _, _, _, _, _, _, _ => rfl
  | e :: r, k, hr, k', pre, dn, hp, ⟨hn, hd⟩ => by
    have he : ds[k]? = some e := by
      have := congrArg (·[0]?) hr
      simpa using this
    have hr2 : ds.drop (k + 1) = r := by
      have := drop_get he
      rw [hr] at this
      exact (List.cons.inj this).2.symm
    have hlt := get_lt he
    obtain ⟨g1, g2, g3⟩ := good_ev h he
    have miss : ∀ x, evK e ≠ x → (x ∈ dn ↔ x ∈ dnAt ds (k + 1) ∨ ∃ i j e, Pr ds b i j ∧ i < k + 1 ∧ k + 1 ≤ j ∧ ds[i]? = some e ∧ evK e = x) := fun x hx => by
      have m1 := dn_miss he hx
      rw [Bool.eq_iff_iff] at m1
      simp only [List.contains_eq_mem, decide_eq_true_eq] at m1
      rw [hd x, m1]
      refine or_congr Iff.rfl ⟨?_, ?_⟩
      · rintro ⟨i, j, ei, z1, z2, z3, z4, z5⟩
        refine ⟨i, j, ei, z1, by omega, ?_, z4, z5⟩
        rcases Nat.lt_or_ge k j with w | w
        · omega
        · exfalso
          have : j = k := by omega
          subst this
          obtain ⟨_, ei', ej', y1, y2, y3, _⟩ := z1
          rw [z4] at y1; cases y1
          rw [he] at y2; cases y2
          exact hx (y3.trans z5)
      · rintro ⟨i, j, ei, z1, z2, z3, z4, z5⟩
        refine ⟨i, j, ei, z1, ?_, by omega, z4, z5⟩
        rcases Nat.lt_or_ge i k with w | w
        · exact w
        · exfalso
          have : i = k := by omega
          subst this
          rw [he] at z4; cases z4
          exact hx z5
    have keyIn := g3
    have hit := dn_hit h he
    cases hqk : q k with
    | true =>
      have eq1 : keepFrom q k (e :: r) = keepFrom q (k + 1) r := by simp [keepFrom, hqk]
      rw [eq1]
      refine keep_wrong h hq r (k + 1) hr2 k' pre dn (fun p hp' => by obtain ⟨i, z1, z2⟩ := hp p hp'; exact ⟨i, by omega, z2⟩) ⟨hn, fun x => ?_⟩
      by_cases hx : evK e = x
      · subst hx
        obtain ⟨i, j, z, hk⟩ := (hq k hlt).mp hqk
        have z' := z
        obtain ⟨hij, ei, ej, y1, y2, y3, y4, y5, _⟩ := z
        rcases hk with rfl | rfl
        · rw [he] at y1; cases y1
          rw [y4] at keyIn
          have k1 : evK e ∈ dnAt ds k := by simpa using keyIn
          exact ⟨fun _ => .inr ⟨k, j, e, z', Nat.lt_succ_self _, hij, he, rfl⟩, fun _ => (hd _).mpr (.inl k1)⟩
        · rw [he] at y2; cases y2
          have dd := z'.down h he
          rw [dd] at hit
          have k1 : evK e ∈ dnAt ds (k + 1) := by simpa using hit
          exact ⟨fun _ => .inl k1, fun _ => (hd _).mpr (.inr ⟨i, k, ei, z', hij, Nat.le_refl _, y1, y3.symm⟩)⟩
      · exact miss x hx
    | false =>
      have eq1 : keepFrom q k (e :: r) = e :: keepFrom q (k + 1) r := by simp [keepFrom, hqk]
      have nob : ¬ Bar ds b k := fun z => by rw [(hq k hlt).mpr z] at hqk; cases hqk
      have npair : ∀ i j ei, Pr ds b i j → i < k + 1 → k ≤ j → ds[i]? = some ei → evK ei = evK e → False := fun i j ei z h1 h2 h3 h4 => by
        rcases Nat.lt_or_ge i k with w | w
        · rcases Nat.lt_or_ge k j with w2 | w2
          · obtain ⟨_, ei', ej', y1, y2, y3, y4, y5, _⟩ := z
            rw [h3] at y1; cases y1
            exact y5 k w w2 e he h4.symm
          · exact nob ⟨i, j, z, .inr (by omega)⟩
        · exact nob ⟨i, j, z, .inl (by omega)⟩
      have kd : evK e ∈ dn ↔ evK e ∈ dnAt ds k := by
        rw [hd]
        exact ⟨fun z => z.resolve_right fun ⟨i, j, ei, z1, z2, z3, z4, z5⟩ => npair i j ei z1 (by omega) z3 z4 z5, .inl⟩
      have late : lateE e pre = false := by
        cases pre with
        | none => rfl
        | some p =>
          obtain ⟨i, z1, z2⟩ := hp p rfl
          have := time_mono h z2 (k - i) (ej := e) (by rw [show i + (k - i) = k by omega]; exact he)
          simp only [lateE, decide_eq_false_iff_not]
          omega
      have eqd : (evDown e == dn.contains (evK e)) = false := by
        have : dn.contains (evK e) = !evDown e := by
          rw [← g3, Bool.eq_iff_iff]
          simpa using kd
        rw [this]
        cases evDown e <;> rfl
      rw [eq1]
      simp only [wrongE, g1, late, eqd, Bool.not_true, Bool.false_eq_true, if_false]
      refine keep_wrong h hq r (k + 1) hr2 (k' + 1) (some e) _ (fun p hp' => by cases hp'; exact ⟨k, Nat.lt_succ_self _, he⟩) ⟨?_, fun x => ?_⟩
      · cases hdn : evDown e with
        | true =>
          rw [hdn] at g3
          have k1 : evK e ∉ dn := fun z => by have := kd.mp z; simp at g3; exact g3 this
          simp only [if_true]
          rw [List.nodup_append]
          exact ⟨hn, by simp, fun a ha c hc => by simp at hc; subst hc; exact fun z => k1 (z ▸ ha)⟩
        | false => simpa using hn.erase _
      · by_cases hx : evK e = x
        · subst hx
          rw [Bool.eq_iff_iff] at hit
          simp only [List.contains_eq_mem, decide_eq_true_eq] at hit
          rw [hit]
          have np : ¬ ∃ i j e_1, Pr ds b i j ∧ i < k + 1 ∧ k + 1 ≤ j ∧ ds[i]? = some e_1 ∧ evK e_1 = evK e := fun ⟨i, j, ei, z1, z2, z3, z4, z5⟩ => npair i j ei z1 z2 (by omega) z4 z5
          cases hdn : evDown e with
          | true => simp
          | false =>
            simp only [Bool.false_eq_true, if_false, false_or]
            exact ⟨fun z => absurd z hn.not_mem_erase, fun z => absurd z np⟩
        · rw [← miss x hx]
          have hx' : x ≠ evK e := fun z => hx z.symm
          cases hdn : evDown e with
          | true => simp [hx']
          | false => simp [List.mem_erase_of_ne hx']
theorem keep_good {c : Nat} {ds : List D} {b : Int} {q : Nat → Bool} (h : wrongE c 0 none [] ds = .non) (hq : BarQ ds b q) : wrongE c 0 none [] (keepFrom q 0 ds) = .non :=
  keep_wrong h hq ds 0 rfl 0 none [] (fun p hp => by cases hp) ⟨List.nodup_nil, fun x => by
    constructor
    · intro z; cases z
    · rintro (z | ⟨_, _, _, _, z, _⟩)
      · cases z
      · exact absurd z (Nat.not_lt_zero _)⟩
/-! ### strokes_of, with a bounce -/
theorem StrF.ok {fns : List Fn} {f : Nat} (g : StrF fns f) (W n : Nat) (ks ds : List D) (first : Bool) (b : Int) (s : Sto) (hl : lOk (.tup ks) = true) (hw : wrongL (.tup ks) = .non) (hk : ks.length < 64) (hz : ds.length < 1000000) (hd : ∀ d ∈ ds, kOk d = true) (hg : wrongE ks.length 0 none [] ds = .non) (b0 : 0 ≤ b) (b1 : b ≤ 50) :
    ∃ q t, run fns W (n + 6) f [.tup ks, .frz ds, .str (ruleS first), .int b] s = .ok (.own (tb first [] [] [] false (keepFrom q 0 ds))) (s ++ t) ∧ BarQ ds b q := by
  obtain ⟨m, r, t, c, bo, i, gf, gm, gr, gi, gt, gc, gb⟩ := g
  obtain ⟨t1, e1⟩ := gm.ok W n ks ds s hl hw (by omega) hz hd hg
  have e2 := rule_ok gr gi W (n + 3) first b (s ++ t1) b0 b1
  obtain ⟨q, t2, e3, hq⟩ := clean_ gc gb W (n + 3) ks.length ds b (s ++ t1) hz hg
  have hgk := keep_good hg hq
  have hkl := keep_len (q := q) ds 0
  obtain ⟨t3, e4⟩ := told_by_ gt W (n + 4) ks.length (keepFrom q 0 ds) (.own (keepFrom q 0 ds)) (.inl rfl) first (s ++ t1 ++ t2) (by omega) hk hgk
  refine ⟨q, t1 ++ (t2 ++ t3), ans_eq' (ans_of gf rfl ?_), hq⟩
  rw [← List.append_assoc, ← List.append_assoc]
  generalize tb first [] [] [] false (keepFrom q 0 ds) = R at *
  generalize keepFrom q 0 ds = kk at *
  generalize s ++ t1 = s1 at *
  generalize s1 ++ t2 = s2 at *
  generalize s2 ++ t3 = s3 at *
  generalize ruleS first = ru at *
  simp [fn_strokes_of, e1, e2, e3, e4]
end Mi
end
section
set_option Elab.async false
set_option maxRecDepth 100000
set_option linter.all false
namespace Mi
open PySem
/-! ### keys_down -/
theorem perm_of {a b : List Int} (ha : a.Nodup) (hb : b.Nodup) (h : ∀ x, x ∈ a ↔ x ∈ b) : a.Perm b := by
  rw [List.perm_iff_count]
  intro k
  rw [ha.count, hb.count]
  simp only [h]
theorem sort_perm {a b : List Int} (h : a.Perm b) : sortI a = sortI b := by
  refine List.Perm.eq_of_pairwise (le := fun x y : Int => x ≤ y) (fun x y _ _ h1 h2 => by omega) ?_ ?_ ?_
  · exact srt_pair a
  · exact srt_pair b
  · exact (srt_perm a).trans (h.trans (srt_perm b).symm)
/-- a dict of truths: the keys in their order, those down -/
def tru (ks dn : List Int) : List (Ky × D) := ks.map fun k => (.inl k, .bl (dn.contains k))
theorem tru_any (ks dn : List Int) (k : Int) : ((tru ks dn).any fun kv => decide (kv.1 = .inl k)) = ks.contains k := by
  rw [Bool.eq_iff_iff]
  simp only [tru, List.any_map, List.any_eq_true, Function.comp, decide_eq_true_eq, List.contains_eq_mem]
  constructor
  · rintro ⟨x, h, e⟩
    cases e; exact h
  · intro h; exact ⟨k, h, rfl⟩
theorem tru_put (ks dn dn' : List Int) (k : Int) (v : Bool) (hv : dn'.contains k = v) (ho : ∀ x, x ≠ k → dn'.contains x = dn.contains x) : putD (tru ks dn) (.inl k) (.bl v) = tru (addK ks k) dn' := by
  unfold putD addK
  rw [tru_any]
  by_cases h : ks.contains k = true
  · rw [if_pos h, if_pos h]
    unfold tru
    rw [List.map_map]
    refine List.map_congr_left fun x hx => ?_
    simp only [Function.comp]
    by_cases hk : x = k
    · subst hk; simp only [if_true, hv]
    · have h2 : ¬ (Sum.inl x : Ky) = Sum.inl k := fun z => hk (Sum.inl.inj z)
      rw [if_neg h2, ho x hk]
  · rw [if_neg h, if_neg h]
    unfold tru
    rw [List.map_append]
    have hk : k ∉ ks := by simpa using h
    congr 1
    · refine List.map_congr_left fun x hx => ?_
      have : x ≠ k := fun z => hk (z ▸ hx)
      rw [ho x this]
    · simp only [List.map_cons, List.map_nil, hv]
theorem tru_val (ks dn : List Int) (k : Int) (h : k ∈ ks) : valD (tru ks dn) (.inl k) = some (.bl (dn.contains k)) := by
  unfold valD
  cases hf : (tru ks dn).find? fun kv => decide (kv.1 = .inl k) with
  | none =>
    rw [List.find?_eq_none] at hf
    have h1 : ((.inl k, .bl (dn.contains k)) : Ky × D) ∈ tru ks dn := List.mem_map.mpr ⟨k, h, rfl⟩
    exact absurd (decide_eq_true rfl) (hf _ h1)
  | some kv =>
    have h1 := List.mem_of_find?_eq_some hf
    have h2 := List.find?_some hf
    obtain ⟨x, _, rfl⟩ := List.mem_map.mp h1
    have h3 : (Sum.inl x : Ky) = Sum.inl k := of_decide_eq_true h2
    cases h3
    rfl
theorem tru_len (ks dn : List Int) : (tru ks dn).length = ks.length := by simp [tru]
theorem tru_keys (ks dn : List Int) : ((tru ks dn).map fun kv => kyD kv.1) = ks.map D.int := by
  unfold tru
  rw [List.map_map]
  exact List.map_congr_left fun x _ => rfl
theorem eqv_ss (a b : Str) : cmpOk (.str a) (.str b) = true := rfl
/-- 0=events 1=down 2=time 3=key 4=way -/
def fn_keys_down : Fn := ⟨1, 5, [.asg (.nm 1) .dnew, .for_ (.tp [(.nm 2), (.nm 3), (.nm 4)]) (.seq (.v 0)) [.asg (.dsub (.v 1) (.v 3)) (.prim .eq [(.v 4), (.k (.str "down"))])], .ret (.prim .tuple [(.prim .sort1 [(.lkd 1 (.lc [3] (.nm 3) (.keys (.v 1)) [(.dget (.v 1) (.v 3))] (.v 3)))])])]⟩
theorem sort1_own (ns : List Int) : primF .sort1 [.own (ns.map D.int)] = some (.own ((sortI ns).map .int)) := by
  show ((D.own (ns.map D.int)).lst?.bind fun ds => (allI D.int? ds).map fun ns => D.own ((sortI ns).map .int)) = _
  simp only [D.lst?, Option.bind_some, allI_ints, Option.map_some]
theorem ldicAt_set {s : Sto} {n : Nat} {kvs : List (Ky × D)} (h : n < s.length) : ldicAt (s.set n (.ldic n kvs)) (.ref n) = some (n, kvs) := by
  simp [ldicAt, h]
theorem dicAt_lk {s : Sto} {n : Nat} {kvs : List (Ky × D)} (h : n < s.length) : dicAt (s.set n (.ldic n kvs)) (.ref n) = none := by
  simp [dicAt, h]
theorem keysDown_ {fns : List Fn} {f : Nat} (gf : fns[f]? = some fn_keys_down) (W n c : Nat) (ds : List D) (s : Sto) (hz : ds.length < 1000000) (hc : c < 64) (hg : wrongE c 0 none [] ds = .non) :
    ∃ t, run fns W (n + 1) f [.frz ds] s = .ok (.tup (sortD (dnAt ds ds.length))) (s ++ t) := by
  suffices key : ans fns W (n + 1) f [.frz ds] s fun r s' => r = .tup (sortD (dnAt ds ds.length)) ∧ ∃ kvs, s' = s ++ [.dic kvs] by
    obtain ⟨r, s', e, rfl, kvs, rfl⟩ := ans_run key
    exact ⟨_, e⟩
  refine ans_ofJ gf rfl fun K hK => ?_
  have hbig : big = 16777216 := rfl
  simp [fn_keys_down]
  refine wp_forJ (fun k en s' => ∃ (ks : List Int) (u2 u3 u4 : Option D), en = [some (.frz ds), some (.ref s.length), u2, u3, u4] ∧ s' = s ++ [.dic (tru ks (dnAt ds k))] ∧ ks.Nodup ∧ (∀ x ∈ ks, 0 ≤ x ∧ x < c) ∧ ∀ x ∈ dnAt ds k, x ∈ ks)
    ⟨[], _, _, _, rfl, rfl, List.nodup_nil, fun x hx => (by cases hx), fun x hx => (by cases hx)⟩ ?_ ?_
  · rintro k d0 en s' J hi ⟨ks, u2, u3, u4, rfl, rfl, hn, hr, hs⟩ hJ
    have hlt := get_lt hi
    obtain ⟨hev, _, hct⟩ := good_ev hg hi
    obtain ⟨t, x, w, rfl, hdw, huw, hK', hT', _, hxa, hx1⟩ := good_form hev
    have hit := dn_hit hg hi
    rw [hK'] at hit
    have ho : ∀ y, y ≠ x → (dnAt ds (k + 1)).contains y = (dnAt ds k).contains y := fun y hy => dn_miss hi (by rw [hK']; exact fun z => hy z.symm)
    have p1 := tru_put ks (dnAt ds k) (dnAt ds (k + 1)) x _ hit ho
    obtain ⟨g1, g2⟩ := sn_add hn hr hxa hx1
    have hsl := nodup_len c ks hn hr
    have l1 := tru_len ks (dnAt ds k)
    have q0 : dicAt (s ++ [O.dic (tru ks (dnAt ds k))]) (.ref s.length) = some (s.length, tru ks (dnAt ds k)) := dicAt_ref (by simp)
    have q1 : (s ++ [O.dic (tru ks (dnAt ds k))]).set s.length (.dic (tru (addK ks x) (dnAt ds (k + 1)))) = s ++ [O.dic (tru (addK ks x) (dnAt ds (k + 1)))] := by simp
    have q2 : primF .eq [.str w, .str "down"] = some (.bl (evDown (.tup [.int t, .int x, .str w]))) := by
      rw [p_eq _ _ rfl, eqv_s, hdw]
    have hsub : ∀ y ∈ dnAt ds (k + 1), y ∈ addK ks x := fun y hy => by
      unfold addK
      by_cases hyx : y = x
      · subst hyx
        split
        · rename_i h; simpa using h
        · simp
      · have h2 : y ∈ dnAt ds k := by
          have := ho y hyx
          rw [Bool.eq_iff_iff] at this
          simpa using this.mp (by simpa using hy)
        have := hs y h2
        split
        · exact this
        · exact List.mem_append_left _ this
    generalize hdb : evDown (.tup [.int t, .int x, .str w]) = db at *
    have fin := hJ [some (.frz ds), some (.ref s.length), some (.int t), some (.int x), some (.str w)] _ ⟨addK ks x, _, _, _, rfl, rfl, g1, g2, hsub⟩
    clear hJ hct huw hdw hs ho hi hev
    generalize tru ks (dnAt ds k) = kv0 at *
    generalize tru (addK ks x) (dnAt ds (k + 1)) = kv1 at *
    generalize hp : s.length = p at *
    generalize s ++ [O.dic kv0] = s0 at *
    simp [q2, q0, p1, q1]
    exact ⟨by omega, fin⟩
  · rintro en s' ⟨ks, u2, u3, u4, rfl, rfl, hn, hr, hs⟩
    have hsl := nodup_len c ks hn hr
    have l1 := tru_len ks (dnAt ds ds.length)
    have kk := tru_keys ks (dnAt ds ds.length)
    have q0 : dicAt (s ++ [O.dic (tru ks (dnAt ds ds.length))]) (.ref s.length) = some (s.length, tru ks (dnAt ds ds.length)) := dicAt_ref (by simp)
    have q1 : ldicAt ((s ++ [O.dic (tru ks (dnAt ds ds.length))]).set s.length (.ldic s.length (tru ks (dnAt ds ds.length)))) (.ref s.length) = some (s.length, tru ks (dnAt ds ds.length)) := ldicAt_set (by simp)
    have q2 : dicAt ((s ++ [O.dic (tru ks (dnAt ds ds.length))]).set s.length (.ldic s.length (tru ks (dnAt ds ds.length)))) (.ref s.length) = none := dicAt_lk (by simp)
    have q3 : ((s ++ [O.dic (tru ks (dnAt ds ds.length))]).set s.length (.ldic s.length (tru ks (dnAt ds ds.length)))).set s.length (.dic (tru ks (dnAt ds ds.length))) = s ++ [O.dic (tru ks (dnAt ds ds.length))] := by simp
    have hv := fun x hx => tru_val ks (dnAt ds ds.length) x hx
    have fin := hK (.tup (sortD (dnAt ds ds.length))) (s ++ [O.dic (tru ks (dnAt ds ds.length))]) ⟨rfl, _, rfl⟩
    have hsort : sortI (ks.filter fun x => (dnAt ds ds.length).contains x) = sortI (dnAt ds ds.length) := sort_perm (perm_of (hn.filter _) (good_nodup hg (Nat.le_refl _)) fun x => by
      simp only [List.mem_filter, List.contains_eq_mem, decide_eq_true_eq]
      exact ⟨fun h => h.2, fun h => ⟨hs x h, h⟩⟩)
    have s1 := sort1_own (ks.filter fun x => (dnAt ds ds.length).contains x)
    rw [hsort] at s1
    clear hK
    generalize dnAt ds ds.length = dn at *
    generalize tru ks dn = kv0 at *
    generalize hp : s.length = p at *
    generalize s ++ [O.dic kv0] = s0 at *
    simp [q0, q1, kk]
    refine wp_lcP (fun d => match d with | .int x => dn.contains x | _ => false) (fun d => d) ?_ ?_ ?_
    · rw [List.length_map]; omega
    · intro d hd
      obtain ⟨x, hx, rfl⟩ := List.mem_map.mp hd
      have v := hv x hx
      cases hc2 : dn.contains x
      · have hc3 : x ∉ dn := by simpa using hc2
        rw [hc2] at v
        simp [q1, q2, v, hc3]
      · have hc3 : x ∈ dn := by simpa using hc2
        rw [hc2] at v
        simp [q1, q2, v, hc3]
    · have e1 : ((ks.map D.int).filter fun d => match d with | .int x => dn.contains x | _ => false) = (ks.filter fun x => dn.contains x).map D.int := by
        rw [List.filter_map]; rfl
      rw [e1, List.map_id']
      clear e1 hsort
      generalize ((ks.filter fun x => dn.contains x).map D.int) = fl at *
      simp [q1, q3, s1]
      exact fin
end Mi
end
section
set_option Elab.async false
set_option maxRecDepth 100000
set_option linter.all false
namespace Mi
open PySem
/-! ### doors that ask events, a rule, a bounce -/
abbrev noRule : Ex := ⟨"NoRule", []⟩
/-- what a rule is not -/
def badRule (d : D) : Prop := val d = true ∧ (isiD 1 d = some false ∨ ∃ x, d = .str x ∧ primF .notin [.str x, .tup [.str "all", .str "first"]] = some (.bl true))
theorem rule_bad {fns : List Fn} {f i : Nat} (gf : fns[f]? = some (fn_must_rule i)) (W n : Nat) (d x : D) (s : Sto) (hd : badRule d) (hx : val x = true) : run fns W (n + 2) f [d, x] s = .exc noRule s := by
  obtain ⟨hv, h⟩ := hd
  refine run_exc gf rfl ?_
  refine wx_first (wx_then ?_)
  rcases h with h | ⟨y, rfl, h⟩
  · have e1 : primF (.isi 1) [d] = some (.bl false) := by
      show (isiD 1 d).map D.bl = _
      rw [h]; rfl
    simp [fn_must_rule, initE, hv, hx, e1]
    exact wx_first (wx_then (by simp; exact wx_raise rfl ⟨rfl, rfl⟩))
  · have e1 : primF (.isi 1) [.str y] = some (.bl true) := id rfl
    simp [fn_must_rule, initE, hv, hx, e1, h]
    exact wx_first (wx_then (by simp; exact wx_raise rfl ⟨rfl, rfl⟩))
theorem rule_cnt {fns : List Fn} {f i : Nat} (gf : fns[f]? = some (fn_must_rule i)) (gi : fns[i]? = some fn_is_whole) (W n : Nat) (first : Bool) (x : D) (s : Sto) (hx : sOk x = true) (hx2 : wholeB 0 (some 50) x = false) : run fns W (n + 2) f [.str (ruleS first), x] s = .exc noCount s := by
  have e3 := whole_ gi W n x 0 (some 50) s hx
  rw [hx2] at e3
  simp only [optD] at e3
  have vx : val x = true := by cases x <;> first | rfl | cases hx
  have e1 := rule_in first
  generalize ruleS first = r at *
  have e2 : primF (.isi 1) [.str r] = some (.bl true) := id rfl
  refine run_exc gf rfl ?_
  refine wx_then ?_
  simp [fn_must_rule, initE, e1, e2, vx]
  refine wx_first (wx_then ?_)
  simp [e3, vx]
  exact wx_first (wx_then (by simp; exact wx_raise rfl ⟨rfl, rfl⟩))
def fn_two (m r : Nat) (e : E) : Fn := ⟨4, 4, [.ex (.call m [(.v 0), (.v 1)]), .ex (.call r [(.v 2), (.v 3)]), .ret e]⟩
def TwoF (fns : List Fn) (f : Nat) : Prop := ∃ m r i e, fns[f]? = some (fn_two m r e) ∧ MustEvF fns m ∧ fns[r]? = some (fn_must_rule i) ∧ fns[i]? = some fn_is_whole
section
variable {fns : List Fn} {f : Nat}
theorem TwoF.lay (h : TwoF fns f) (W n : Nat) (d e r x w : D) (s : Sto) (hd : lOk d = true) (he : val e = true) (hr : val r = true) (hx : val x = true) (hw : wrongL d = w) (hv : val w = true) (hn : w ≠ .non) :
    run fns W (n + 6) f [d, e, r, x] s = .exc (noLayout w) s := by
  obtain ⟨m, rr, i, en, gf, gm, gr, gi⟩ := h
  refine run_exc gf rfl ?_
  refine wx_first (wx_first (wx_then ?_))
  simp [fn_two, initE, lOk_val hd, he, hr, hx]
  exact wx_call (gm.lay W n d e w s hd he hw hv hn) ⟨rfl, rfl⟩
theorem TwoF.events (h : TwoF fns f) (W n : Nat) (ks ds : List D) (r x w : D) (s : Sto) (hr : val r = true) (hx : val x = true) (hl : lOk (.tup ks) = true) (hw : wrongL (.tup ks) = .non) (hk : ks.length ≤ 1000) (hz : ds.length < 1000000) (hd : ∀ d ∈ ds, kOk d = true) (hg : wrongE ks.length 0 none [] ds = w) (hv : val w = true) (hn : w ≠ .non) :
    ∃ t, run fns W (n + 6) f [.tup ks, .frz ds, r, x] s = .exc (noEvents w) (s ++ t) := by
  obtain ⟨m, rr, i, en, gf, gm, gr, gi⟩ := h
  obtain ⟨t1, e1⟩ := gm.exc W n ks ds w s hl hw hk hz hd hg hv hn
  refine ⟨t1, run_exc gf rfl ?_⟩
  refine wx_first (wx_first (wx_then ?_))
  simp [fn_two, initE, hr, hx]
  exact wx_call e1 ⟨rfl, rfl⟩
theorem TwoF.rule (h : TwoF fns f) (W n : Nat) (ks ds : List D) (r x : D) (s : Sto) (hr : badRule r) (hx : val x = true) (hl : lOk (.tup ks) = true) (hw : wrongL (.tup ks) = .non) (hk : ks.length ≤ 1000) (hz : ds.length < 1000000) (hd : ∀ d ∈ ds, kOk d = true) (hg : wrongE ks.length 0 none [] ds = .non) :
    ∃ t, run fns W (n + 6) f [.tup ks, .frz ds, r, x] s = .exc noRule (s ++ t) := by
  obtain ⟨m, rr, i, en, gf, gm, gr, gi⟩ := h
  obtain ⟨t1, e1⟩ := gm.ok W n ks ds s hl hw hk hz hd hg
  have vr := hr.1
  refine ⟨t1, run_exc gf rfl ?_⟩
  refine wx_then ?_
  simp [fn_two, initE, e1, vr, hx]
  refine wx_first (wx_first (wx_then ?_))
  simp [vr, hx]
  exact wx_call (rule_bad gr W (n + 3) r x (s ++ t1) hr hx) ⟨rfl, rfl⟩
theorem TwoF.count (h : TwoF fns f) (W n : Nat) (ks ds : List D) (first : Bool) (x : D) (s : Sto) (hx : sOk x = true) (hx2 : wholeB 0 (some 50) x = false) (hl : lOk (.tup ks) = true) (hw : wrongL (.tup ks) = .non) (hk : ks.length ≤ 1000) (hz : ds.length < 1000000) (hd : ∀ d ∈ ds, kOk d = true) (hg : wrongE ks.length 0 none [] ds = .non) :
    ∃ t, run fns W (n + 6) f [.tup ks, .frz ds, .str (ruleS first), x] s = .exc noCount (s ++ t) := by
  obtain ⟨m, rr, i, en, gf, gm, gr, gi⟩ := h
  obtain ⟨t1, e1⟩ := gm.ok W n ks ds s hl hw hk hz hd hg
  have vx : val x = true := by cases x <;> first | rfl | cases hx
  have e2 := rule_cnt gr gi W (n + 3) first x (s ++ t1) hx hx2
  generalize ruleS first = r at *
  refine ⟨t1, run_exc gf rfl ?_⟩
  refine wx_then ?_
  simp [fn_two, initE, e1, vx]
  refine wx_first (wx_first (wx_then ?_))
  simp [vx]
  exact wx_call e2 ⟨rfl, rfl⟩
theorem StrF.two (h : StrF fns f) : TwoF fns f := by
  obtain ⟨m, r, t, c, b, i, gf, gm, gr, gi, _⟩ := h
  exact ⟨m, r, i, _, gf, gm, gr, gi⟩
end
/-- 0=layout 1=events 2=rule 3=bounce -/
def fn_held (must_events_ must_rule_ keys_down_ : Nat) : Fn := ⟨4, 4, [.ex (.call must_events_ [(.v 0), (.v 1)]), .ex (.call must_rule_ [(.v 2), (.v 3)]), .ret (.call keys_down_ [(.v 1)])]⟩
def HeldF (fns : List Fn) (f : Nat) : Prop := ∃ m r k i, fns[f]? = some (fn_held m r k) ∧ MustEvF fns m ∧ fns[r]? = some (fn_must_rule i) ∧ fns[i]? = some fn_is_whole ∧ fns[k]? = some fn_keys_down
theorem HeldF.two {fns : List Fn} {f : Nat} (h : HeldF fns f) : TwoF fns f := by
  obtain ⟨m, r, k, i, gf, gm, gr, gi, _⟩ := h
  exact ⟨m, r, i, _, gf, gm, gr, gi⟩
theorem HeldF.ok {fns : List Fn} {f : Nat} (g : HeldF fns f) (W n : Nat) (ks ds : List D) (first : Bool) (b : Int) (s : Sto) (hl : lOk (.tup ks) = true) (hw : wrongL (.tup ks) = .non) (hk : ks.length < 64) (hz : ds.length < 1000000) (hd : ∀ d ∈ ds, kOk d = true) (hg : wrongE ks.length 0 none [] ds = .non) (b0 : 0 ≤ b) (b1 : b ≤ 50) :
    ∃ t, run fns W (n + 6) f [.tup ks, .frz ds, .str (ruleS first), .int b] s = .ok (.tup (sortD (dnAt ds ds.length))) (s ++ t) := by
  obtain ⟨m, r, k, i, gf, gm, gr, gi, gk⟩ := g
  obtain ⟨t1, e1⟩ := gm.ok W n ks ds s hl hw (by omega) hz hd hg
  have e2 := rule_ok gr gi W (n + 3) first b (s ++ t1) b0 b1
  obtain ⟨t2, e3⟩ := keysDown_ gk W (n + 4) ks.length ds (s ++ t1) hz hk hg
  refine ⟨t1 ++ t2, ans_eq' (ans_of gf rfl ?_)⟩
  rw [← List.append_assoc]
  generalize sortD (dnAt ds ds.length) = R at *
  generalize s ++ t1 = s1 at *
  generalize s1 ++ t2 = s2 at *
  generalize ruleS first = ru at *
  simp [fn_held, e1, e2, e3]
end Mi
end
section
set_option Elab.async false
set_option maxRecDepth 100000
set_option linter.all false
namespace Mi
open PySem
/-! ### the reference: keys down behind events -/
theorem wrong_left {b : Nat} : ∀ (a r : List D) (i : Nat) (pre : Option D) (dn : List Int), wrongE b i pre dn (a ++ r) = .non → wrongE b i pre dn a = .non
  | [], _, _, _, _, _ => rfl
  | e :: a, r, i, pre, dn, h => by
    simp only [List.cons_append, wrongE] at h ⊢
    split at h
    · cases h
    · split at h
      · cases h
      · split at h
        · cases h
        · rename_i c1 c2 c3
          rw [if_neg c1, if_neg c2, if_neg c3]
          exact wrong_left a r _ _ _ h
theorem good_take {c : Nat} {ds : List D} (h : wrongE c 0 none [] ds = .non) (k : Nat) : wrongE c 0 none [] (ds.take k) = .non := by
  refine wrong_left (ds.take k) (ds.drop k) 0 none [] ?_
  rw [List.take_append_drop]; exact h
theorem dnAt_take (ds : List D) (k : Nat) : dnAt (ds.take k) (ds.take k).length = dnAt ds k := by
  unfold dnAt
  rw [List.take_length]
def ups (ds : List D) : List Int := (ds.filter fun e => !evDown e).map evK
def downs (ds : List D) : List Int := (ds.filter evDown).map evK
theorem cnt_dn {c : Nat} (x : Int) : ∀ (ds : List D) (i : Nat) (pre : Option D) (dn : List Int), wrongE c i pre dn ds = .non → (downs ds).count x + dn.count x = (ups ds).count x + (dnE dn ds).count x
  | [], _, _, _, _ => rfl
  | e :: ds, i, pre, dn, h => by
    simp only [wrongE] at h
    split at h
    · cases h
    · split at h
      · cases h
      · split at h
        · cases h
        · rename_i c1 c2 c3
          have ih := cnt_dn x ds _ _ _ h
          have e1 : dnE dn (e :: ds) = dnE (if evDown e then dn ++ [evK e] else dn.erase (evK e)) ds := rfl
          rw [e1]
          cases hd : evDown e with
          | true =>
            rw [hd] at ih
            simp only [if_true, List.count_append] at ih ⊢
            have d1 : downs (e :: ds) = evK e :: downs ds := by simp [downs, hd]
            have d2 : ups (e :: ds) = ups ds := by simp [ups, hd]
            rw [d1, d2, List.count_cons]
            rw [List.count_singleton] at ih
            omega
          | false =>
            rw [hd] at ih c3
            simp only [Bool.false_eq_true, if_false] at ih ⊢
            have d1 : downs (e :: ds) = downs ds := by simp [downs, hd]
            have d2 : ups (e :: ds) = evK e :: ups ds := by simp [ups, hd]
            have hm : evK e ∈ dn := by simpa using c3
            rw [d1, d2, List.count_cons]
            by_cases hx : evK e = x
            · subst hx
              rw [List.count_erase_self] at ih
              have := List.count_pos_iff.mpr hm
              simp
              omega
            · have hx' : x ≠ evK e := fun z => hx z.symm
              rw [List.count_erase_of_ne hx'] at ih
              have : (evK e == x) = false := by simpa using hx
              rw [this]
              simp
              omega
theorem cnt_own (ns : List Int) (k : Int) : primF (.m 2) [.own (ns.map D.int), .int k] = some (.int (ns.count k : Nat)) := by
  show (D.lst? (.own (ns.map D.int))).bind (fun ds => pCount ds (.int k)) = _
  have e : ((ns.map D.int).countP fun z => D.eqv z (.int k)) = ns.count k := by
    rw [List.countP_map]
    unfold List.count
    refine congrArg (fun f => List.countP f ns) (funext fun x => ?_)
    simp only [Function.comp, v_int]
  simp only [D.lst?, Option.bind_some, pCount, c_int, plains_ints, Bool.and_self, if_true, e]
theorem nub_mem' (k : Int) (ns : List Int) : k ∈ nubI ns ↔ k ∈ ns := by
  induction ns with
  | nil => exact Iff.rfl
  | cons n ns ih =>
    unfold nubI
    split
    · rename_i h
      rw [ih, List.mem_cons]
      refine ⟨.inr, fun h2 => ?_⟩
      rcases h2 with rfl | h2
      · exact ih.mp (by simpa using h)
      · exact h2
    · rw [List.mem_cons, List.mem_cons, ih]
theorem nub_nodup' (ns : List Int) : (nubI ns).Nodup := by
  induction ns with
  | nil => exact List.nodup_nil
  | cons n ns ih =>
    unfold nubI
    split
    · exact ih
    · rename_i h
      rw [List.nodup_cons]
      exact ⟨by simpa using h, ih⟩
theorem nub_len (ns : List Int) : (nubI ns).length ≤ ns.length := by
  induction ns with
  | nil => exact Nat.le_refl _
  | cons n ns ih =>
    unfold nubI
    split <;> simp only [List.length_cons] <;> omega
theorem sset_own (ns : List Int) (h : ns.length < 64) : primF .sset1 [.own (ns.map D.int)] = some (.own ((sortI (nubI ns)).map .int)) := by
  show ((D.own (ns.map D.int)).seq?.bind fun ds => (allI D.int? ds).bind fun ns => if ns.length < 64 then some (D.own ((sortI (nubI ns)).map .int)) else none) = _
  simp only [D.seq?, Option.bind_some, allI_ints, if_pos h]
theorem sort_filter (p : Int → Bool) {a b : List Int} (ha : a.Nodup) (hb : b.Nodup) (h : ∀ x, x ∈ b ↔ x ∈ a ∧ p x = true) : (sortI a).filter p = sortI b := by
  have pm : ((sortI a).filter p).Perm b := perm_of ((((srt_perm a).nodup_iff).mpr ha).filter _) hb fun x => by
    rw [List.mem_filter, (srt_perm a).mem_iff, h]
  refine List.Perm.eq_of_pairwise (le := fun x y : Int => x ≤ y) (fun x y _ _ h1 h2 => by omega) ((srt_pair a).filter _) (srt_pair b) (pm.trans (srt_perm b).symm)
/-- 0=_law_happened 1=_law_ups 2=_law_downs 3=_law_key 4=_law_time 5=_law_side -/
def fn_law_down_behind : Fn := ⟨1, 6, [.asg (.nm 1) (.lc [4, 3, 5] (.tp [(.nm 4), (.nm 3), (.nm 5)]) (.seq (.v 0)) [(.prim .eq [(.v 5), (.k (.str "up"))])] (.v 3)), .asg (.nm 2) (.lc [4, 3, 5] (.tp [(.nm 4), (.nm 3), (.nm 5)]) (.seq (.v 0)) [(.prim .eq [(.v 5), (.k (.str "down"))])] (.v 3)), .ret (.lc [3] (.nm 3) (.seq (.prim .sset1 [(.v 2)])) [(.prim .gt [(.meth (.m 2) (.v 2) [(.v 3)]), (.meth (.m 2) (.v 1) [(.v 3)])])] (.v 3))]⟩
theorem lc_ev {cf : Calls} {c : Nat} (w0 : Str) (hw : w0 = "up" ∨ w0 = "down") {ds : List D} (hg : ∀ e ∈ ds, eventB c e = true) (hz : ds.length ≤ big) {x0 x1 x2 : Option D} {s : Sto} {Q : List D → Env → Sto → Prop}
    (fin : Q ((if w0 = "up" then ups ds else downs ds).map D.int) [x0, x1, x2, none, none, none] s) :
    wp (lcL [4, 3, 5] (fun d => (asgG cf (.tp [(.nm 4), (.nm 3), (.nm 5)]) d).calm) (tsts cf [(.prim .eq [(.v 5), (.k (.str w0))])]).calm (ev2 cf (.v 3)).1.calm ds []) [x0, x1, x2, none, none, none] s Q := by
  refine wp_lcP (fun e => if w0 = "up" then !evDown e else evDown e) (fun e => .int (evK e)) hz ?_ ?_
  · intro e he
    obtain ⟨t, k, w, rfl, h1, h2, h3, _⟩ := good_form (hg e he)
    have q1 : primF .eq [.str w, .str "up"] = some (.bl (!evDown (.tup [.int t, .int k, .str w]))) := by rw [p_eq _ _ rfl, eqv_s, h2]
    have q2 : primF .eq [.str w, .str "down"] = some (.bl (evDown (.tup [.int t, .int k, .str w]))) := by rw [p_eq _ _ rfl, eqv_s, h1]
    rw [h3]
    clear h1 h2 h3 he
    generalize evDown (.tup [.int t, .int k, .str w]) = db at *
    rcases hw with rfl | rfl
    · cases db <;> simp [q1]
    · cases db <;> simp [q2]
  · have e1 : ((ds.filter fun e => if w0 = "up" then !evDown e else evDown e).map fun e => D.int (evK e)) = (if w0 = "up" then ups ds else downs ds).map D.int := by
      split
      · simp only [ups, List.map_map]; rfl
      · simp only [downs, List.map_map]; rfl
    rw [e1]
    exact fin
theorem downBehind_ {fns : List Fn} {f : Nat} (gf : fns[f]? = some fn_law_down_behind) (W n c : Nat) (ds : List D) (x0 : D) (hx0 : x0 = .own ds ∨ x0 = .frz ds) (s : Sto) (hz : ds.length < 64) (hg : wrongE c 0 none [] ds = .non) :
    run fns W (n + 1) f [x0] s = .ok (.own (sortD (dnAt ds ds.length))) s := by
  have hall := wrongE_all hg
  have hbig : big = 16777216 := rfl
  have hdl : (downs ds).length < 64 := by
    have := List.length_filter_le evDown ds
    simp only [downs, List.length_map]; omega
  have s1 := sset_own (downs ds) hdl
  have cn := fun x => cnt_dn (c := c) x ds 0 none [] hg
  have hnd := good_nodup hg (Nat.le_refl _)
  have e0 : dnAt ds ds.length = dnE [] ds := by unfold dnAt; rw [List.take_length]
  have cu := cnt_own (ups ds)
  have cd := cnt_own (downs ds)
  have fl : (sortI (nubI (downs ds))).filter (fun x => decide ((ups ds).count x < (downs ds).count x)) = sortI (dnAt ds ds.length) := sort_filter _ (nub_nodup' _) hnd fun x => by
    have := cn x
    rw [e0, nub_mem']
    simp only [List.count_nil, Nat.add_zero, decide_eq_true_eq] at this ⊢
    have hp := List.count_pos_iff (a := x) (l := dnE [] ds)
    have hq := List.count_pos_iff (a := x) (l := downs ds)
    constructor
    · intro h
      have := hp.mpr h
      exact ⟨hq.mp (by omega), by omega⟩
    · rintro ⟨_, h⟩
      exact hp.mp (by omega)
  refine ans_eq (ans_ofJ gf rfl fun K hK => ?_)
  have fin := hK (.own (sortD (dnAt ds ds.length))) s ⟨rfl, rfl⟩
  clear hK
  have last : ∀ (y0 : D), wp (lcL [3] (fun d => (asgG (run fns W n) (.nm 3) d).calm) (tsts (run fns W n) [(.prim .gt [(.meth (.m 2) (.v 2) [(.v 3)]), (.meth (.m 2) (.v 1) [(.v 3)])])]).calm (ev2 (run fns W n) (.v 3)).1.calm ((sortI (nubI (downs ds))).map .int) []) [some y0, some (.own ((ups ds).map D.int)), some (.own ((downs ds).map D.int)), none, none, none] s fun r en s' => K (.own r) s' := fun y0 => by
    refine wp_lcP (fun d => match d with | .int x => decide ((ups ds).count x < (downs ds).count x) | _ => false) (fun d => d) ?_ ?_ ?_
    · rw [List.length_map, (srt_perm _).length_eq]
      have := nub_len (downs ds)
      omega
    · intro d hd
      obtain ⟨x, _, rfl⟩ := List.mem_map.mp hd
      have c1 := cu x
      have c2 := cd x
      have g1 : primF .gt [.int ((downs ds).count x : Nat), .int ((ups ds).count x : Nat)] = some (.bl (decide ((ups ds).count x < (downs ds).count x))) := by
        show some (D.bl (decide (((ups ds).count x : Int) < ((downs ds).count x : Int)))) = _
        simp only [Int.ofNat_lt]
      obtain ⟨ii, hii⟩ : ∃ ii : Int, ((ups ds).count x : Int) = ii := ⟨_, rfl⟩
      obtain ⟨jj, hjj⟩ : ∃ jj : Int, ((downs ds).count x : Int) = jj := ⟨_, rfl⟩
      rw [hii] at c1 g1
      rw [hjj] at c2 g1
      generalize (ups ds).map D.int = u1 at *
      generalize (downs ds).map D.int = u2 at *
      cases hb : decide ((ups ds).count x < (downs ds).count x) <;> rw [hb] at g1 <;> simp [c1, c2, g1] <;> simpa using hb
    · have e1 : ((sortI (nubI (downs ds))).map D.int).filter (fun d => match d with | .int x => decide ((ups ds).count x < (downs ds).count x) | _ => false) = ((sortI (nubI (downs ds))).filter fun x => decide ((ups ds).count x < (downs ds).count x)).map D.int := by
        rw [List.filter_map]; rfl
      rw [e1, List.map_id', fl]
      exact fin
  rcases hx0 with rfl | rfl
  all_goals (
    simp [fn_law_down_behind]
    refine lc_ev "up" (.inl rfl) hall (by omega) ?_
    simp
    refine lc_ev "down" (.inr rfl) hall (by omega) ?_
    try simp only [if_true]
    try rw [if_neg (by simp)]
    generalize hu1 : (ups ds).map D.int = u1 at *
    generalize hu2 : (downs ds).map D.int = u2 at *
    generalize hu3 : (sortI (nubI (downs ds))).map D.int = u3 at *
    simp [s1]
    exact last _)
end Mi
end
section
set_option Elab.async false
set_option maxRecDepth 100000
set_option linter.all false
namespace Mi
open PySem
/-! ### the reference: strokes told by events -/
/-- 0=_law_happened 1=_law_pick_here 2=_law_found 3=_law_begun 4=_law_at_here 5=_law_ahead 6=_law_time 7=_law_key 8=_law_side 9=_law_happening -/
def fn_law_told_strokes (_law_down_behind_ : Nat) : Fn := ⟨2, 10, [.asg (.nm 2) (.lst []), .asg (.nm 3) (.k (.int 0)), .for_ (.tp [(.nm 4), (.tp [(.nm 6), (.nm 7), (.nm 8)])]) (.enum (.v 0)) [.asg (.nm 5) (.lc [9] (.nm 9) (.seq (.prim (.slc true true) [(.v 0), (.v 3), (.v 4)])) [(.prim .eq [(.prim .idx [(.v 9), (.k (.int 2))]), (.k (.str "down"))])] (.v 9)), .ite (.and_ (.prim .eq [(.v 8), (.k (.str "up"))]) (.and_ (.prim .eq [(.v 1), (.k (.str "first"))]) (.prim .ne [(.v 5), (.lst [])]))) [.ex (.mut .append (.v 2) [(.tup [(.v 6), (.prim .tuple [(.call _law_down_behind_ [(.prim (.slc false true) [(.v 0), (.v 4)])])])])]), .asg (.nm 3) (.v 4)] [], .ite (.and_ (.prim .eq [(.v 8), (.k (.str "up"))]) (.and_ (.prim .eq [(.v 1), (.k (.str "all"))]) (.prim .eq [(.call _law_down_behind_ [(.prim (.slc false true) [(.v 0), (.prim .add [(.v 4), (.k (.int 1))])])]), (.lst [])]))) [.ex (.mut .append (.v 2) [(.tup [(.v 6), (.prim .tuple [(.prim .sset1 [(.lc [9] (.nm 9) (.seq (.v 5)) [] (.prim .idx [(.v 9), (.k (.int 1))]))])])])]), .asg (.nm 3) (.v 4)] []], .ret (.mv 2)]⟩
theorem slc_mid_f (ds : List D) (i j : Nat) (h : i ≤ j) (hj : j ≤ ds.length) : primF (.slc true true) [.frz ds, .int i, .int j] = some (.own ((ds.drop i).take (j - i))) := by
  show some (D.own (cutD ds (some (i : Int)) (some (j : Int)))) = _
  rw [cut_mid ds i j h hj]
/-- the downs of the events from b on, ahead of k -/
def seg (ds : List D) (b k : Nat) : List D := (ds.drop b).take (k - b)
def ahd (ds : List D) (b k : Nat) : List D := (seg ds b k).filter evDown
theorem seg_succ {ds : List D} {b k : Nat} {e : D} (h : b ≤ k) (he : ds[k]? = some e) : seg ds b (k + 1) = seg ds b k ++ [e] := by
  unfold seg
  rw [show k + 1 - b = (k - b) + 1 by omega, List.take_succ, List.getElem?_drop, show b + (k - b) = k by omega, he]
  rfl
theorem seg_nil (ds : List D) (k : Nat) : seg ds k k = [] := by simp [seg]
theorem ahd_succ {ds : List D} {b k : Nat} {e : D} (h : b ≤ k) (he : ds[k]? = some e) : ahd ds b (k + 1) = if evDown e then ahd ds b k ++ [e] else ahd ds b k := by
  unfold ahd
  rw [seg_succ h he, List.filter_append]
  cases hd : evDown e <;> simp [hd]
theorem ahd_cut {ds : List D} {k : Nat} {e : D} (he : ds[k]? = some e) (hd : evDown e = false) : ahd ds k (k + 1) = [] := by
  rw [ahd_succ (Nat.le_refl _) he, hd]
  simp [ahd, seg_nil]
theorem seg_mem {ds : List D} {b k : Nat} {d : D} (h : d ∈ seg ds b k) : d ∈ ds := List.mem_of_mem_drop (List.mem_of_mem_take h)
theorem seg_len (ds : List D) (b k : Nat) : (seg ds b k).length ≤ ds.length := by
  unfold seg
  rw [List.length_take, List.length_drop]; omega
theorem ev_plain {c : Nat} {e : D} (h : eventB c e = true) : D.plain e = true := by
  obtain ⟨t, k, w, rfl, _⟩ := good_form h
  rfl
theorem lc_ahd {cf : Calls} {c : Nat} {L : List D} (hg : ∀ e ∈ L, eventB c e = true) (hz : L.length ≤ big) {x0 x1 x2 x3 x4 x5 x6 x7 x8 : Option D} {s : Sto} {Q : List D → Env → Sto → Prop}
    (fin : Q (L.filter evDown) [x0, x1, x2, x3, x4, x5, x6, x7, x8, none] s) :
    wp (lcL [9] (fun d => (asgG cf (.nm 9) d).calm) (tsts cf [(.prim .eq [(.prim .idx [(.v 9), (.k (.int 2))]), (.k (.str "down"))])]).calm (ev2 cf (.v 9)).1.calm L []) [x0, x1, x2, x3, x4, x5, x6, x7, x8, none] s Q := by
  refine wp_lcP evDown (fun d => d) hz ?_ ?_
  · intro e he
    obtain ⟨t, k, w, rfl, h1, h2, h3, _⟩ := good_form (hg e he)
    have q2 : primF .eq [.str w, .str "down"] = some (.bl (evDown (.tup [.int t, .int k, .str w]))) := by rw [p_eq _ _ rfl, eqv_s, h1]
    have q1 : L2.atI [D.int t, .int k, .str w] 2 = some (.str w) := rfl
    cases hb : evDown (.tup [.int t, .int k, .str w]) <;> rw [hb] at q2 <;> simp [q1, q2]
  · rw [List.map_id']; exact fin
theorem lc_keys {cf : Calls} {c : Nat} {L : List D} (hg : ∀ e ∈ L, eventB c e = true) (hz : L.length ≤ big) {x0 x1 x2 x3 x4 x5 x6 x7 x8 : Option D} {s : Sto} {Q : List D → Env → Sto → Prop}
    (fin : Q ((L.map evK).map D.int) [x0, x1, x2, x3, x4, x5, x6, x7, x8, none] s) :
    wp (lcL [9] (fun d => (asgG cf (.nm 9) d).calm) (tsts cf []).calm (ev2 cf (.prim .idx [(.v 9), (.k (.int 1))])).1.calm L []) [x0, x1, x2, x3, x4, x5, x6, x7, x8, none] s Q := by
  refine wp_lcP (fun _ => true) (fun e => .int (evK e)) hz ?_ ?_
  · intro e he
    obtain ⟨t, k, w, rfl, h1, h2, h3, _⟩ := good_form (hg e he)
    have q1 : L2.atI [D.int t, .int k, .str w] 1 = some (.int k) := rfl
    have h4 : evK (.tup [.int t, .int k, .str w]) = k := rfl
    simp [q1, h4]
  · rw [List.map_map] at fin
    rw [filter_true]
    exact fin
theorem sn_sort {A : List D} {sn : List Int} (hn : sn.Nodup) (h : ∀ x, x ∈ sn ↔ x ∈ A.map evK) : sortI (nubI (A.map evK)) = sortI sn :=
  sort_perm (perm_of (nub_nodup' _) hn fun x => by rw [nub_mem', h])
theorem addK_mem (sn : List Int) (k x : Int) : x ∈ addK sn k ↔ x ∈ sn ∨ x = k := by
  unfold addK
  split
  · rename_i h
    have : k ∈ sn := by simpa using h
    exact ⟨.inl, fun z => z.elim id fun e => e ▸ this⟩
  · simp
theorem addK_nodup {sn : List Int} (h : sn.Nodup) (k : Int) : (addK sn k).Nodup := by
  unfold addK
  split
  · exact h
  · rename_i hk
    have hk' : k ∉ sn := by simpa using hk
    rw [List.nodup_append]
    exact ⟨h, by simp, fun a ha b hb => by simp at hb; subst hb; exact fun z => hk' (z ▸ ha)⟩
abbrev bodyT (g : Nat) : List S := [.asg (.nm 5) (.lc [9] (.nm 9) (.seq (.prim (.slc true true) [(.v 0), (.v 3), (.v 4)])) [(.prim .eq [(.prim .idx [(.v 9), (.k (.int 2))]), (.k (.str "down"))])] (.v 9)), .ite (.and_ (.prim .eq [(.v 8), (.k (.str "up"))]) (.and_ (.prim .eq [(.v 1), (.k (.str "first"))]) (.prim .ne [(.v 5), (.lst [])]))) [.ex (.mut .append (.v 2) [(.tup [(.v 6), (.prim .tuple [(.call g [(.prim (.slc false true) [(.v 0), (.v 4)])])])])]), .asg (.nm 3) (.v 4)] [], .ite (.and_ (.prim .eq [(.v 8), (.k (.str "up"))]) (.and_ (.prim .eq [(.v 1), (.k (.str "all"))]) (.prim .eq [(.call g [(.prim (.slc false true) [(.v 0), (.prim .add [(.v 4), (.k (.int 1))])])]), (.lst [])]))) [.ex (.mut .append (.v 2) [(.tup [(.v 6), (.prim .tuple [(.prim .sset1 [(.lc [9] (.nm 9) (.seq (.v 5)) [] (.prim .idx [(.v 9), (.k (.int 1))]))])])])]), .asg (.nm 3) (.v 4)] []]
theorem turnT {fns : List Fn} {g : Nat} (gg : fns[g]? = some fn_law_down_behind) (W n c k b : Nat) (ds : List D) (first : Bool) (s : Sto) (hz : ds.length < 64) (hg : wrongE c 0 none [] ds = .non) (F : List D) (hF : F.length ≤ k) (t x : Int) (w : Str) (he : ds[k]? = some (.tup [.int t, .int x, .str w])) (hb : b ≤ k) (sn : List Int) (hn : sn.Nodup) (hs : first = false → ∀ y, y ∈ sn ↔ y ∈ (ahd ds b k).map evK)
    (u5 : Option D) (Q : Flow → Env → Sto → Prop)
    (h : ∀ (F' : List D) (b' : Nat) (bq : Int) (sn' : List Int) (fr' : Bool) (u5' : Option D), bq = (b' : Int) → F'.length ≤ k + 1 → b' ≤ k + 1 → sn'.Nodup → (first = false → ∀ y, y ∈ sn' ↔ y ∈ (ahd ds b' (k + 1)).map evK) → (first = true → fr' = !(ahd ds b' (k + 1)).isEmpty) →
      (∀ fr, (first = true → fr = !(ahd ds b k).isEmpty) → ∃ fr'', (first = true → fr'' = fr') ∧ tb first F (dnAt ds k) sn fr (.tup [.int t, .int x, .str w] :: ds.drop (k + 1)) = tb first F' (dnAt ds (k + 1)) sn' fr'' (ds.drop (k + 1))) →
      Q .next [some (.frz ds), some (.str (ruleS first)), some (.own F'), some (.int bq), some (.int k), u5', some (.int t), some (.int x), some (.str w), none] s) :
    wp (exSs (run fns W (n + 1)) W (bodyT g)) [some (.frz ds), some (.str (ruleS first)), some (.own F), some (.int b), some (.int k), u5, some (.int t), some (.int x), some (.str w), none] s Q := by
  have hbig : big = 16777216 := rfl
  have hlt := get_lt he
  have hall := wrongE_all hg
  obtain ⟨hev, _, hct⟩ := good_ev hg he
  obtain ⟨_, _, _, e0, hdw, huw, hK', hT', _⟩ := good_form hev
  cases e0
  have hds := dnAt_succ he
  have q_slc := slc_mid_f ds b k hb (Nat.le_of_lt hlt)
  have q_tk := slc_take_f ds k
  have q_tk1 := slc_take_f ds (k + 1)
  rw [show ((k + 1 : Nat) : Int) = (k : Int) + 1 by omega] at q_tk1
  have c1 := downBehind_ gg W n c (ds.take k) _ (.inl rfl) s (by rw [List.length_take]; omega) (good_take hg k)
  have c2 := downBehind_ gg W n c (ds.take (k + 1)) _ (.inl rfl) s (by rw [List.length_take]; omega) (good_take hg (k + 1))
  rw [dnAt_take] at c1 c2
  have hsl := seg_len ds b k
  have hA : ∀ e ∈ seg ds b k, eventB c e = true := fun e h => hall e (seg_mem h)
  have hA2 : ∀ e ∈ ahd ds b k, eventB c e = true := fun e h => hA e (List.mem_filter.mp h).1
  have hAl : (ahd ds b k).length ≤ ds.length := Nat.le_trans (List.length_filter_le _ _) hsl
  have q_ne := own_ne_nil (ahd ds b k) (plains_of fun d hd => ev_plain (hA2 d hd))
  have q_eq := own_eq_nil (sortD (dnAt ds (k + 1))) (plains_of fun d hd => by obtain ⟨z, _, rfl⟩ := List.mem_map.mp hd; rfl)
  have q_emp : (sortD (dnAt ds (k + 1))).isEmpty = (dnAt ds (k + 1)).isEmpty := by
    unfold sortD
    have := (srt_perm (dnAt ds (k + 1))).length_eq
    cases h1 : sortI (dnAt ds (k + 1)) <;> cases h2 : dnAt ds (k + 1) <;> rw [h1, h2] at this <;> first | rfl | (simp at this)
  rw [q_emp] at q_eq
  have q_up : primF .eq [.str w, .str "up"] = some (.bl (!evDown (.tup [.int t, .int x, .str w]))) := by rw [p_eq _ _ rfl, eqv_s, huw]
  have m1 := fun d => mu_app F d (by omega)
  have a1 := ahd_succ hb he
  have ss := sset_own ((ahd ds b k).map evK) (by rw [List.length_map]; omega)
  have hseg : (ds.drop b).take (k - b) = seg ds b k := rfl
  have hahd : (seg ds b k).filter evDown = ahd ds b k := rfl
  rw [hseg] at q_slc
  obtain ⟨ki, hki⟩ : ∃ ki : Int, (k : Int) = ki := ⟨_, rfl⟩
  obtain ⟨bi, hbi⟩ : ∃ bi : Int, (b : Int) = bi := ⟨_, rfl⟩
  rw [hki] at q_slc q_tk q_tk1 h ⊢
  rw [hbi] at q_slc ⊢
  have tbD := fun fr => (rfl : tb first F (dnAt ds k) sn fr (.tup [.int t, .int x, .str w] :: ds.drop (k + 1)) = _)
  cases hd : evDown (.tup [.int t, .int x, .str w]) with
  | true =>
    rw [hd] at q_up a1 hds
    simp only [if_true] at a1 hds
    simp [q_slc]
    refine lc_ahd hA (by omega) ?_
    rw [hahd]
    simp [q_up]
    refine h F b bi (addK sn x) true _ hbi.symm (by omega) (by omega) (addK_nodup hn x) (fun hf y => ?_) (fun _ => ?_) (fun fr hfr => ?_)
    · rw [addK_mem, hs hf, a1]; simp [hK']
    · rw [a1]; simp
    · exact ⟨true, fun _ => rfl, by simp only [tb, hd, if_true, hK', hds]⟩
  | false =>
    rw [hd] at q_up a1 hds
    simp only [Bool.false_eq_true, if_false] at a1 hds
    have ac := ahd_cut he hd
    cases first with
    | true =>
      have r1 : ruleS true = "first" := rfl
      rw [r1] at h ⊢
      cases hem : (ahd ds b k).isEmpty with
      | true =>
        rw [hem] at q_ne
        simp [q_slc]
        refine lc_ahd hA (by omega) ?_
        rw [hahd]
        generalize ahd ds b k = A at *
        simp [q_up, q_ne]
        refine h F b bi sn false _ hbi.symm (by omega) (by omega) hn (fun hf => by cases hf) (fun _ => ?_) (fun fr hfr => ?_)
        · rw [a1, hem]; rfl
        · rw [hfr rfl, hem]
          exact ⟨false, fun _ => rfl, by simp [tb, hd, hK', hds]⟩
      | false =>
        rw [hem] at q_ne
        simp [q_slc]
        refine lc_ahd hA (by omega) ?_
        rw [hahd]
        generalize ahd ds b k = A at *
        generalize hSD : sortD (dnAt ds k) = SD at *
        simp [q_up, q_ne, q_tk, c1, m1]
        refine h (F ++ [.tup [.int t, .tup SD]]) k ki sn false _ hki.symm (by simp; exact hF) (by omega) hn (fun hf => by cases hf) (fun _ => ?_) (fun fr hfr => ?_)
        · rw [ac]; rfl
        · rw [hfr rfl, hem]
          exact ⟨false, fun _ => rfl, by simp [tb, hd, hK', hT', hds, ← hSD]⟩
    | false =>
      have r1 : ruleS false = "all" := rfl
      rw [r1] at h ⊢
      cases hem : (dnAt ds (k + 1)).isEmpty with
      | true =>
        rw [hem] at q_eq
        rw [sn_sort hn (hs rfl)] at ss
        simp [q_slc]
        refine lc_ahd hA (by omega) ?_
        rw [hahd]
        generalize ahd ds b k = A at *
        generalize hSD : sortD (dnAt ds (k + 1)) = SD at *
        simp [q_up, q_tk1, c2, q_eq]
        refine lc_keys hA2 (by omega) ?_
        have hSS : (sortI sn).map D.int = sortD sn := rfl
        rw [hSS] at ss
        generalize (A.map evK).map D.int = AK at *
        generalize hSN : sortD sn = SN at *
        simp [ss, m1]
        refine h (F ++ [.tup [.int t, .tup SN]]) k ki [] false _ hki.symm (by simp; exact hF) (by omega) List.nodup_nil (fun hf y => ?_) (fun hf => by cases hf) (fun fr hfr => ?_)
        · rw [ac]; simp
        · rw [hds, hK'] at hem
          exact ⟨fr, fun hf => (by cases hf), by simp only [tb, hd, hK', hT', hds, ← hSN, hem, Bool.false_eq_true, if_false, if_true]⟩
      | false =>
        rw [hem] at q_eq
        simp [q_slc]
        refine lc_ahd hA (by omega) ?_
        rw [hahd]
        generalize ahd ds b k = A at *
        generalize hSD : sortD (dnAt ds (k + 1)) = SD at *
        simp [q_up, q_tk1, c2, q_eq]
        refine h F b bi sn false _ hbi.symm (by omega) (by omega) hn (fun hf y => ?_) (fun hf => by cases hf) (fun fr hfr => ?_)
        · rw [a1]; exact hs rfl y
        · rw [hds, hK'] at hem
          exact ⟨fr, fun hf => (by cases hf), by simp only [tb, hd, hK', hds, hem, Bool.false_eq_true, if_false]⟩
theorem toldS_ {fns : List Fn} {f g : Nat} (gf : fns[f]? = some (fn_law_told_strokes g)) (gg : fns[g]? = some fn_law_down_behind) (W n c : Nat) (ds : List D) (x0 : D) (hx0 : x0 = .own ds ∨ x0 = .frz ds) (first : Bool) (s : Sto) (hz : ds.length < 64) (hg : wrongE c 0 none [] ds = .non) :
    run fns W (n + 2) f [x0, .str (ruleS first)] s = .ok (.own (tb first [] [] [] false ds)) s := by
  refine ans_eq (ans_ofJ gf rfl fun K hK => ?_)
  have fin := hK _ s ⟨rfl, rfl⟩
  clear hK
  have main : ∀ Q : Flow → Env → Sto → Prop, (∀ u4 u5 u6 u7 u8 b, Q .next [some (.frz ds), some (.str (ruleS first)), some (.own (tb first [] [] [] false ds)), some (.int b), u4, u5, u6, u7, u8, none] s) →
      wp (forL (fun d => (asgG (run fns W (n + 1)) (.tp [(.nm 4), (.tp [(.nm 6), (.nm 7), (.nm 8)])]) d).calm) (exSs (run fns W (n + 1)) W (bodyT g)) (enumD 0 ds)) [some (.frz ds), some (.str (ruleS first)), some (.own []), some (.int 0), none, none, none, none, none, none] s Q := fun Q hQ => by
    refine wp_forJ (fun k en s' => s' = s ∧ ∃ (F : List D) (b : Nat) (sn : List Int) (fr : Bool) (u4 u5 u6 u7 u8 : Option D), en = [some (.frz ds), some (.str (ruleS first)), some (.own F), some (.int b), u4, u5, u6, u7, u8, none] ∧ F.length ≤ k ∧ b ≤ k ∧ sn.Nodup ∧ (first = false → ∀ y, y ∈ sn ↔ y ∈ (ahd ds b k).map evK) ∧ (first = true → fr = !(ahd ds b k).isEmpty) ∧ tb first [] [] [] false ds = tb first F (dnAt ds k) sn fr (ds.drop k))
      ⟨rfl, [], 0, [], false, _, _, _, _, _, rfl, Nat.le_refl _, Nat.le_refl _, List.nodup_nil, fun _ y => by simp [ahd, seg_nil], fun _ => by simp [ahd, seg_nil], rfl⟩ ?_ ?_
    · intro k d0 en s' J hi hI hJ
      obtain ⟨rfl, F, b, sn, fr, u4, u5, u6, u7, u8, h1, hF, hb, hn, hs, hf, ht⟩ := hI
      rw [enum_get] at hi
      obtain ⟨e, he, rfl⟩ := Option.map_eq_some_iff.mp hi
      obtain ⟨hev, _, _⟩ := good_ev hg he
      obtain ⟨t, x, w, rfl, _⟩ := good_form hev
      rw [drop_get he] at ht
      rw [h1]
      have T := turnT gg W n c k b ds first s' hz hg F hF t x w he hb sn hn hs u5 (turnQ J Q) fun F' b' bq sn' fr' u5' g0 g1 g2 g3 g4 g5 g6 => by
        subst g0
        obtain ⟨fr'', g7, g8⟩ := g6 fr hf
        rw [turnQ_next]
        exact hJ _ _ ⟨rfl, F', b', sn', fr'', _, _, _, _, _, rfl, g1, g2, g3, g4, fun hh => (g7 hh).trans (g5 hh), ht.trans g8⟩
      generalize bodyT g = B at *
      obtain ⟨ki, hki⟩ : ∃ ki : Int, (k : Int) = ki := ⟨_, rfl⟩
      rw [hki] at T ⊢
      simp
      exact T
    · intro en s' hI
      obtain ⟨rfl, F, b, sn, fr, u4, u5, u6, u7, u8, h1, hF, hb, hn, hs, hf, ht⟩ := hI
      rw [h1]
      rw [enum_len, List.drop_length] at ht
      have : tb first [] [] [] false ds = F := ht
      rw [← this]
      exact hQ _ _ _ _ _ _
  rcases hx0 with rfl | rfl
  all_goals (
    simp [fn_law_told_strokes]
    refine main _ fun u4 u5 u6 u7 u8 b => ?_
    generalize tb first [] [] [] false ds = R at *
    simp
    exact fin)
end Mi
end
section
set_option Elab.async false
set_option maxRecDepth 100000
set_option linter.all false
namespace Mi.L11
open PySem Lk
theorem gLay : LayF fns 3 := ⟨0, 1, 2, rfl, rfl, rfl, rfl⟩
theorem gMust : MustF fns 4 := ⟨3, rfl, gLay⟩
theorem gEv : EventsF fns 8 := ⟨4, 7, 6, 5, rfl, gMust, rfl, rfl, rfl⟩
theorem gME : MustEvF fns 9 := ⟨8, rfl, gEv⟩
theorem gStr : StrF fns 14 := ⟨9, 10, 13, 12, 11, 5, rfl, gME, rfl, rfl, rfl, rfl, rfl⟩
theorem gHeld : HeldF fns 16 := ⟨9, 10, 15, 5, rfl, gME, rfl, rfl, rfl⟩
abbrev wLay : D := .tup [.str "layout"]
theorem g_add (a b c d e : Bool) : primF .add [.own [.bl a, .bl b, .bl c], .own [.bl d, .bl e]] = some (.own [.bl a, .bl b, .bl c, .bl d, .bl e]) := id rfl
abbrev gA : List D := [.bl true, .bl false, .bl false, .bl false, .bl false]
abbrev gB : List D := [.bl false, .bl true, .bl false, .bl false, .bl false]
abbrev gR : List D := [.bl false, .bl false, .bl true, .bl false, .bl false]
abbrev gC : List D := [.bl false, .bl false, .bl false, .bl true, .bl false]
theorem cA : primF (.m 2) [.own gA, .bl true] = some (.int 1) := by kernel_rfl
theorem cB : primF (.m 2) [.own gB, .bl true] = some (.int 1) := by kernel_rfl
theorem cR : primF (.m 2) [.own gR, .bl true] = some (.int 1) := by kernel_rfl
theorem cC : primF (.m 2) [.own gC, .bl true] = some (.int 1) := by kernel_rfl
theorem iR : primF (.m 0) [.own gR, .bl true] = some (.int 2) := by kernel_rfl
theorem iC : primF (.m 0) [.own gC, .bl true] = some (.int 3) := by kernel_rfl
theorem g_ne : primF .ne [.int 1, .int 1] = some (.bl false) := by kernel_rfl
theorem g_i1 : primF .int [.bl true] = some (.int 1) := id rfl
theorem g_i0 : primF .int [.bl false] = some (.int 0) := id rfl
theorem class_lay (W n c k : Nat) (w : D) (s : Sto) (hw : val w = true) (hc : s[c]? = some (.exn "NoLayout" (some k))) (hk : s[k]? = some (.xdt [("wrong", w)])) : run fns W (n + 1) 29 [.ref c] s = .ok (.own [.str "NoLayout", w]) s := by
  have dr : derefD s (.ref c) = .ref c := by simp [derefD, hc]
  have x1 : primF .idx [.own gA, .int 0] = some (.bl true) := id rfl
  have x2 : primF .idx [.own [.str "NoEvents", .str "NoLayout"], .int 1] = some (.str "NoLayout") := id rfl
  refine ans_eq (ans_of (fn := f29) rfl rfl ?_)
  simp [f29, b29, initE, isxF, xfldF, hc, hk, exnOk, g_add, cA, g_ne, g_i1, x1, x2, dr, opB, List.lookup, hw]
theorem class_ev (W n c k : Nat) (w : D) (s : Sto) (hw : val w = true) (hc : s[c]? = some (.exn "NoEvents" (some k))) (hk : s[k]? = some (.xdt [("wrong", w)])) : run fns W (n + 1) 29 [.ref c] s = .ok (.own [.str "NoEvents", w]) s := by
  have dr : derefD s (.ref c) = .ref c := by simp [derefD, hc]
  have x0 : primF .idx [.own gB, .int 0] = some (.bl false) := id rfl
  have x1 : primF .idx [.own gB, .int 1] = some (.bl true) := id rfl
  have x2 : primF .idx [.own [.str "NoEvents", .str "NoLayout"], .int 0] = some (.str "NoEvents") := id rfl
  refine ans_eq (ans_of (fn := f29) rfl rfl ?_)
  simp [f29, b29, initE, isxF, xfldF, hc, hk, exnOk, g_add, cB, g_ne, g_i0, x0, x1, x2, dr, opB, List.lookup, hw]
theorem class_rule (W n c : Nat) (s : Sto) (hc : s[c]? = some (.exn "NoRule" none)) : run fns W (n + 1) 29 [.ref c] s = .ok (.own [.str "NoRule"]) s := by
  have dr : derefD s (.ref c) = .ref c := by simp [derefD, hc]
  have x0 : primF .idx [.own gR, .int 0] = some (.bl false) := id rfl
  have x1 : primF .idx [.own gR, .int 1] = some (.bl false) := id rfl
  have x2 : primF .idx [.own [.str "", .str "", .str "NoRule", .str "NoCount", .str "Ended"], .int 2] = some (.str "NoRule") := id rfl
  refine ans_eq (ans_of (fn := f29) rfl rfl ?_)
  simp [f29, b29, initE, isxF, xfldF, hc, exnOk, g_add, cR, iR, g_ne, x0, x1, x2, dr, opB]
theorem class_cnt (W n c : Nat) (s : Sto) (hc : s[c]? = some (.exn "NoCount" none)) : run fns W (n + 1) 29 [.ref c] s = .ok (.own [.str "NoCount"]) s := by
  have dr : derefD s (.ref c) = .ref c := by simp [derefD, hc]
  have x0 : primF .idx [.own gC, .int 0] = some (.bl false) := id rfl
  have x1 : primF .idx [.own gC, .int 1] = some (.bl false) := id rfl
  have x2 : primF .idx [.own [.str "", .str "", .str "NoRule", .str "NoCount", .str "Ended"], .int 3] = some (.str "NoCount") := id rfl
  refine ans_eq (ans_of (fn := f29) rfl rfl ?_)
  simp [f29, b29, initE, isxF, xfldF, hc, exnOk, g_add, cC, iC, g_ne, x0, x1, x2, dr, opB]
def door (i : Int) : Nat := if i = 0 then 14 else 16
theorem gDoor (i : Int) : TwoF fns (door i) := by
  unfold door
  split
  · exact gStr.two
  · exact gHeld.two
theorem told_exc (W n : Nat) (i : Int) (hi : i = 0 ∨ i = 1) (d0 d e r x res : D) (X : Ex) (s s1 s2 : Sto) (h0 : used d0 d) (he : val e = true) (hr : val r = true) (hx : val x = true) (h : run fns W (n + 1) (door i) [d, e, r, x] s = .exc X s1) (hX : X.cls = "NoLayout" ∨ X.cls = "NoEvents" ∨ X.cls = "NoRule" ∨ X.cls = "NoCount")
    (hc : run fns W (n + 1) 29 [.ref (keepX X s1).1] (keepX X s1).2 = .ok res s2) : run fns W (n + 2) 32 [.int i, d0, e, r, x] s = .ok res s2 := by
  refine ans_eq' (ans_of (fn := f32) rfl rfl ?_)
  have ar : arrange [.inl 0, .inl 1, .inl 2, .inl 3] [d.hard, e.hard, r.hard, x.hard] = [d.hard, e.hard, r.hard, x.hard] := rfl
  have hd : d.hard = d := by
    rcases h0 with ⟨rfl, hv⟩ | ⟨ds, rfl, rfl⟩
    · exact hard_val _ hv
    · rfl
  have tr : wp (exS (run fns W (n + 1)) W (.tryK [.ite (.prim .eq [(.v 0), (.k (.int 0))]) [.asg (.nm 6) (.callA 14 [(.v 1), (.v 2)] [(.v 3), (.v 4)] [.inl 0, .inl 1, .inl 2, .inl 3])] [.asg (.nm 6) (.callA 16 [(.v 1), (.v 2)] [(.v 3), (.v 4)] [.inl 0, .inl 1, .inl 2, .inl 3])]] "ChordError" ["NoLayout", "NoEvents", "NoRule", "NoCount"] 7 5)) [some (.int i), some d0, some e, some r, some x, some .non, some .non, none] s fun fl en s' => fl = .next ∧ (∃ y, en = [some (.int i), y, some e, some r, some x, some (.ref (keepX X s1).1), some .non, none]) ∧ s' = (keepX X s1).2 := by
    refine wp_tryX (wx_first ?_)
    have fin : ∀ y : Option D, (X.cls = "NoLayout" ∨ X.cls = "NoEvents" ∨ X.cls = "NoRule" ∨ X.cls = "NoCount") ∧ (∃ y', (([some (D.int i), y, some e, some r, some x, some D.non, some D.non, none].set 7 (some (D.ref (keepX X s1).fst))).set 5 (some (D.ref (keepX X s1).fst))).set 7 none = [some (D.int i), y', some e, some r, some x, some (D.ref (keepX X s1).fst), some D.non, none]) ∧ (keepX X s1).snd = (keepX X s1).snd := fun y =>
      ⟨hX, ⟨y, rfl⟩, rfl⟩
    rcases hi with rfl | rfl
    · have h' : run fns W (n + 1) 14 [d, e, r, x] s = .exc X s1 := h
      refine wx_then ?_
      simp
      refine wx_first (wx_first (wx_then ?_))
      rcases h0 with ⟨rfl, hv⟩ | ⟨ds, rfl, rfl⟩
      · simp [hv, he, hr, hx]
        refine wx_then ?_
        simp [he, hr, hx, hv]
        exact wx_call h' (fin _)
      · simp [he, hr, hx]
        refine wx_then ?_
        simp [he, hr, hx]
        exact wx_call h' (fin _)
    · have h' : run fns W (n + 1) 16 [d, e, r, x] s = .exc X s1 := h
      refine wx_then ?_
      simp
      refine wx_first (wx_first (wx_then ?_))
      rcases h0 with ⟨rfl, hv⟩ | ⟨ds, rfl, rfl⟩
      · simp [hv, he, hr, hx]
        refine wx_then ?_
        simp [he, hr, hx, hv]
        exact wx_call h' (fin _)
      · simp [he, hr, hx]
        refine wx_then ?_
        simp [he, hr, hx]
        exact wx_call h' (fin _)
  simp [f32, b32, initE]
  refine wp_mono tr fun fl en s' hh => ?_
  obtain ⟨rfl, ⟨y, rfl⟩, rfl⟩ := hh
  have dr : primF .isN [derefD (keepX X s1).2 (.ref (keepX X s1).1)] = some (.bl false) := by
    generalize (keepX X s1).2 = S
    generalize (keepX X s1).1 = m
    unfold derefD
    split
    · rename_i hq; cases hq; split <;> rfl
    · rename_i hq; exact absurd rfl (hq _)
  simp [dr, hc]
theorem told_lay (W n : Nat) (i : Int) (hi : i = 0 ∨ i = 1) (d0 d e r x : D) (s : Sto) (h0 : used d0 d) (hd : lOk d = true) (he : val e = true) (hr : val r = true) (hx : val x = true) (h : wrongL d = wLay) : ∃ s2, run fns W (n + 7) 32 [.int i, d0, e, r, x] s = .ok (.own [.str "NoLayout", wLay]) s2 :=
  ⟨_, told_exc W (n + 5) i hi d0 d e r x _ (noLayout wLay) s s _ h0 he hr hx ((gDoor i).lay W n d e r x wLay s hd he hr hx h rfl (by intro h; cases h)) (.inl rfl) (class_lay W (n + 5) (s.length + 1) s.length wLay _ rfl (by simp [keepX]) (by simp [keepX]))⟩
theorem told_ev (W n : Nat) (i : Int) (hi : i = 0 ∨ i = 1) (ks ds : List D) (r x w : D) (s : Sto) (hr : val r = true) (hx : val x = true) (hl : lOk (.tup ks) = true) (hw : wrongL (.tup ks) = .non) (hk : ks.length ≤ 1000) (hz : ds.length < 1000000) (hd : ∀ d ∈ ds, kOk d = true) (hg : wrongE ks.length 0 none [] ds = w) (hv : val w = true) (hn : w ≠ .non) : ∃ s2, run fns W (n + 7) 32 [.int i, .tup ks, .frz ds, r, x] s = .ok (.own [.str "NoEvents", w]) s2 := by
  obtain ⟨t, e1⟩ := (gDoor i).events W n ks ds r x w s hr hx hl hw hk hz hd hg hv hn
  refine ⟨(keepX (noEvents w) (s ++ t)).2, told_exc W (n + 5) i hi (.tup ks) (.tup ks) (.frz ds) r x _ (noEvents w) s (s ++ t) _ (used_val rfl) rfl hr hx e1 (.inr (.inl rfl)) ?_⟩
  exact class_ev W (n + 5) ((s ++ t).length + 1) (s ++ t).length w _ hv (by show ((s ++ t) ++ _)[_]? = _; rw [List.getElem?_append_right (by omega)]; simp) (by show ((s ++ t) ++ _)[_]? = _; rw [List.getElem?_append_right (by omega)]; simp)
theorem told_rule (W n : Nat) (i : Int) (hi : i = 0 ∨ i = 1) (ks ds : List D) (r x : D) (s : Sto) (hr : badRule r) (hx : val x = true) (hl : lOk (.tup ks) = true) (hw : wrongL (.tup ks) = .non) (hk : ks.length ≤ 1000) (hz : ds.length < 1000000) (hd : ∀ d ∈ ds, kOk d = true) (hg : wrongE ks.length 0 none [] ds = .non) : ∃ s2, run fns W (n + 7) 32 [.int i, .tup ks, .frz ds, r, x] s = .ok (.own [.str "NoRule"]) s2 := by
  obtain ⟨t, e1⟩ := (gDoor i).rule W n ks ds r x s hr hx hl hw hk hz hd hg
  refine ⟨(keepX (noRule) (s ++ t)).2, told_exc W (n + 5) i hi (.tup ks) (.tup ks) (.frz ds) r x _ noRule s (s ++ t) _ (used_val rfl) rfl hr.1 hx e1 (.inr (.inr (.inl rfl))) ?_⟩
  exact class_rule W (n + 5) (s ++ t).length _ (by show ((s ++ t) ++ _)[_]? = _; rw [List.getElem?_append_right (by omega)]; simp)
theorem told_cnt (W n : Nat) (i : Int) (hi : i = 0 ∨ i = 1) (ks ds : List D) (first : Bool) (x : D) (s : Sto) (hl : lOk (.tup ks) = true) (hw : wrongL (.tup ks) = .non) (hk : ks.length ≤ 1000) (hz : ds.length < 1000000) (hd : ∀ d ∈ ds, kOk d = true) (hg : wrongE ks.length 0 none [] ds = .non) (hx : sOk x = true) (hx2 : wholeB 0 (some 50) x = false) : ∃ s2, run fns W (n + 7) 32 [.int i, .tup ks, .frz ds, .str (ruleS first), x] s = .ok (.own [.str "NoCount"]) s2 := by
  obtain ⟨t, e1⟩ := (gDoor i).count W n ks ds first x s hx hx2 hl hw hk hz hd hg
  have vx : val x = true := by cases x <;> first | rfl | cases hx
  refine ⟨(keepX (noCount) (s ++ t)).2, told_exc W (n + 5) i hi (.tup ks) (.tup ks) (.frz ds) (.str (ruleS first)) x _ noCount s (s ++ t) _ (used_val rfl) rfl rfl vx e1 (.inr (.inr (.inr rfl))) ?_⟩
  exact class_cnt W (n + 5) (s ++ t).length _ (by show ((s ++ t) ++ _)[_]? = _; rw [List.getElem?_append_right (by omega)]; simp)
end Mi.L11
end
section
set_option Elab.async false
set_option maxRecDepth 100000
set_option linter.all false
namespace Mi
open PySem
/-! ### may be asked whether it equals another -/
def okQ (n : Nat) (d : D) : Prop := D.plain d = true ∧ d.py.depth ≤ n
theorem okQ_int (n : Nat) (x : Int) : okQ (n + 1) (.int x) := ⟨rfl, by simp [D.py, PyData.depth]⟩
theorem okQ_str (n : Nat) (x : Str) : okQ (n + 1) (.str x) := ⟨rfl, by simp [D.py, PyData.depth]⟩
theorem okQ_non (n : Nat) : okQ (n + 1) .non := ⟨rfl, by simp [D.py, PyData.depth]⟩
theorem okQ_bl (n : Nat) (b : Bool) : okQ (n + 1) (.bl b) := ⟨rfl, by simp [D.py, PyData.depth]⟩
theorem okQ_le {n m : Nat} {d : D} (h : okQ n d) (k : n ≤ m) : okQ m d := ⟨h.1, Nat.le_trans h.2 k⟩
theorem okQ_tup {n : Nat} {ds : List D} (h : ∀ d ∈ ds, okQ n d) : okQ (n + 1) (.tup ds) := ⟨plains_of fun d hd => (h d hd).1, by
  simp only [D.py, PyData.depth]
  have := pys_depth (n := n) (ds := ds) fun x hx => (h x hx).2
  omega⟩
theorem okQ_own {n : Nat} {ds : List D} (h : ∀ d ∈ ds, okQ n d) : okQ (n + 1) (.own ds) := ⟨plains_of fun d hd => (h d hd).1, by
  simp only [D.py, PyData.depth]
  have := pys_depth (n := n) (ds := ds) fun x hx => (h x hx).2
  omega⟩
theorem okQ_frz {n : Nat} {ds : List D} (h : ∀ d ∈ ds, okQ n d) : okQ (n + 1) (.frz ds) := ⟨plains_of fun d hd => (h d hd).1, by
  simp only [D.py, PyData.depth]
  have := pys_depth (n := n) (ds := ds) fun x hx => (h x hx).2
  omega⟩
theorem okQ_ints (ns : List Int) : okQ 2 (.tup (ns.map .int)) := okQ_tup fun d hd => by
  obtain ⟨x, _, rfl⟩ := List.mem_map.mp hd
  exact okQ_int 0 x
theorem ne_okQ {n : Nat} {x y : D} (hx : okQ n x) (hy : okQ n y) (hn : n ≤ 60) (e : x.py = y.py) : primF .ne [x, y] = some (.bl false) := ne_same hx.1 hy.1 (Nat.le_trans hx.2 hn) e
theorem eq_okQ {n : Nat} {x y : D} (hx : okQ n x) (hy : okQ n y) (hn : n ≤ 60) (e : x.py = y.py) : primF .eq [x, y] = some (.bl true) := eq_same hx.1 hy.1 (Nat.le_trans hx.2 hn) e
theorem tb_form (first : Bool) : ∀ (ds F : List D) (dn sn : List Int) (fr : Bool), ∀ d ∈ tb first F dn sn fr ds, d ∈ F ∨ ∃ t ns, d = .tup [.int t, .tup (sortD ns)]
  | [], F, _, _, _, d, h => .inl h
  | e :: ds, F, dn, sn, fr, d, h => by
    simp only [tb] at h
    have app : ∀ {G : List D} {t : Int} {ns : List Int}, d ∈ G ++ [.tup [.int t, .tup (sortD ns)]] → d ∈ G ∨ ∃ t ns, d = .tup [.int t, .tup (sortD ns)] := fun {G t ns} h => by
      rcases List.mem_append.mp h with h | h
      · exact .inl h
      · simp at h; exact .inr ⟨_, _, h⟩
    split at h
    · exact tb_form first ds _ _ _ _ d h
    · split at h
      · rcases tb_form first ds _ _ _ _ d h with h | h
        · split at h
          · exact app h
          · exact .inl h
        · exact .inr h
      · split at h
        · rcases tb_form first ds _ _ _ _ d h with h | h
          · exact app h
          · exact .inr h
        · exact tb_form first ds _ _ _ _ d h
theorem tb_len (first : Bool) : ∀ (ds F : List D) (dn sn : List Int) (fr : Bool), (tb first F dn sn fr ds).length ≤ F.length + ds.length
  | [], F, _, _, _ => Nat.le_refl _
  | e :: ds, F, dn, sn, fr => by
    simp only [tb, List.length_cons]
    split
    · have := tb_len first ds F (dn ++ [evK e]) (addK sn (evK e)) true; omega
    · split
      · split
        · have := tb_len first ds (F ++ [.tup [.int (evT e), .tup (sortD dn)]]) (dn.erase (evK e)) sn false
          simp only [List.length_append, List.length_singleton] at this; omega
        · have := tb_len first ds F (dn.erase (evK e)) sn false; omega
      · split
        · have := tb_len first ds (F ++ [.tup [.int (evT e), .tup (sortD sn)]]) (dn.erase (evK e)) [] fr
          simp only [List.length_append, List.length_singleton] at this; omega
        · have := tb_len first ds F (dn.erase (evK e)) sn fr; omega
theorem tb_okQ (first : Bool) (ds : List D) : okQ 4 (.own (tb first [] [] [] false ds)) := okQ_own fun d hd => by
  rcases tb_form first ds [] [] [] false d hd with h | ⟨t, ns, rfl⟩
  · cases h
  · refine okQ_tup fun d hd => ?_
    simp only [List.mem_cons, List.not_mem_nil, or_false] at hd
    rcases hd with rfl | rfl
    · exact okQ_int 1 _
    · exact okQ_ints _
end Mi
end
section
set_option Elab.async false
set_option maxRecDepth 100000
set_option linter.all false
namespace Mi.L11
open PySem Lk
abbrev turnS : List S := [.asg (.nm 7) (.callA 14 [(.v 0), (.v 1)] [(.v 2), (.v 3)] [.inl 0, .inl 1, .inl 2, .inl 3]), .ite (.prim .eq [(.v 6), (.k (.int 1))]) [.asg (.nm 7) (.callA 14 [] [(.v 3), (.v 2), (.v 1), (.v 0)] [.inl 3, .inl 2, .inl 1, .inl 0])] [], .ite (.or_ (.not_ (.prim (.isi 3) [(.v 7)])) (.prim .ne [(.v 7), (.v 4)])) [.ret (.k (.bl false))] [], .ex (.mut .append (.v 7) [(.k (.int 0))])]
theorem turn_ (W n : Nat) (bs ds R T : List D) (first : Bool) (b : Int) (i : Int) (hi : i = 0 ∨ i = 1) (s : Sto) (hlk : lOk (.tup bs) = true) (hwl : wrongL (.tup bs) = .non) (hb2 : bs.length < 64) (hl : ds.length < 64) (hk : ∀ d ∈ ds, kOk d = true) (hg : wrongE bs.length 0 none [] ds = .non) (b0 : 0 ≤ b) (b1 : b ≤ 50)
    (hR : ∀ q, BarQ ds b q → tb first [] [] [] false (keepFrom q 0 ds) = R) (hRo : okQ 4 (.own R)) (hRl : R.length < 1000) (e7 : Option D) (Q : Flow → Env → Sto → Prop)
    (h : ∀ y7 t, Q .next [some (.tup bs), some (.frz ds), some (.str (ruleS first)), some (.int b), some (.own R), some (.tup T), some (.int i), y7] (s ++ t)) :
    wp (exSs (run fns W (n + 6)) W turnS) [some (.tup bs), some (.frz ds), some (.str (ruleS first)), some (.int b), some (.own R), some (.tup T), some (.int i), e7] s Q := by
  have hbig : big = 16777216 := rfl
  obtain ⟨q1, t1, c1, hq1⟩ := gStr.ok W n bs ds first b s hlk hwl hb2 (by omega) hk hg b0 b1
  rw [hR q1 hq1] at c1
  obtain ⟨q2, t2, c2, hq2⟩ := gStr.ok W n bs ds first b (s ++ t1) hlk hwl hb2 (by omega) hk hg b0 b1
  rw [hR q2 hq2] at c2
  have h1 := fun y7 => h y7 t1
  have h2 := fun y7 => h y7 (t1 ++ t2)
  simp only [← List.append_assoc] at h2
  clear h
  have a1 : primF (.isi 3) [.own R] = some (.bl true) := id rfl
  have a2 : primF .ne [.own R, .own R] = some (.bl false) := ne_okQ hRo hRo (by decide) rfl
  have a3 := mu_app R (.int 0) (by omega)
  generalize ruleS first = ru at *
  have a4 : arrange [.inl 3, .inl 2, .inl 1, .inl 0] [.int b, .str ru, .frz ds, .tup bs] = [.tup bs, .frz ds, .str ru, .int b] := rfl
  have a5 : arrange [.inl 0, .inl 1, .inl 2, .inl 3] [.tup bs, .frz ds, .str ru, .int b] = [.tup bs, .frz ds, .str ru, .int b] := rfl
  generalize s ++ t1 = s1 at *
  generalize s1 ++ t2 = s2 at *
  rcases hi with rfl | rfl
  · simp [turnS, c1, a5, a1, a2, a3]
    exact h1 _
  · simp [turnS, c1, c2, a4, a5, a1, a2, a3]
    exact h2 _
theorem right_ (W n : Nat) (bs ds : List D) (first : Bool) (b : Int) (s : Sto) (hlk : lOk (.tup bs) = true) (hwl : wrongL (.tup bs) = .non) (hb2 : bs.length < 64) (hl : ds.length < 64) (hk : ∀ d ∈ ds, kOk d = true) (hg : wrongE bs.length 0 none [] ds = .non) (b0 : 0 ≤ b) (b1 : b ≤ 50) :
    ∃ t, run fns W (n + 7) 33 [.tup bs, .frz ds, .str (ruleS first), .int b] s = .ok (.bl true) (s ++ t) := by
  suffices key : ans fns W (n + 7) 33 [.tup bs, .frz ds, .str (ruleS first), .int b] s fun r s' => r = .bl true ∧ ∃ t, s' = s ++ t by
    obtain ⟨r, s', e, rfl, t, rfl⟩ := ans_run key
    exact ⟨t, e⟩
  refine ans_ofJ (fn := f33) rfl rfl fun K hK => ?_
  obtain ⟨q, e1, hq⟩ := calm_ (fns := fns) (f := 26) (g := 25) rfl rfl W (n + 4) bs.length ds b s (by omega) hg
  have hkl := keep_len (q := q) ds 0
  have e2 := toldS_ (fns := fns) (f := 28) (g := 27) rfl rfl W (n + 4) bs.length (keepFrom q 0 ds) _ (.inl rfl) first s (by omega) (keep_good hg hq)
  have hR : ∀ q', BarQ ds b q' → tb first [] [] [] false (keepFrom q' 0 ds) = tb first [] [] [] false (keepFrom q 0 ds) := fun q' h => by rw [h.keep hq]
  have hRo := tb_okQ first (keepFrom q 0 ds)
  have hRl := tb_len first (keepFrom q 0 ds) [] [] [] false
  simp only [List.length_nil, Nat.zero_add] at hRl
  have e3 := downBehind_ (fns := fns) (f := 27) rfl W (n + 5) bs.length ds _ (.inr rfl) s (by omega) hg
  generalize hRR : tb first [] [] [] false (keepFrom q 0 ds) = R at *
  generalize keepFrom q 0 ds = kk at *
  have e4 := rngO_i 2 (by decide)
  have T := fun i hi s u7 Q => turn_ W n bs ds R (sortD (dnAt ds ds.length)) first b i hi s hlk hwl hb2 hl hk hg b0 b1 hR hRo (by omega) u7 Q
  have hT2 : okQ 2 (.tup (sortD (dnAt ds ds.length))) := okQ_ints _
  have H1 := fun s => gHeld.ok W n bs ds first b s hlk hwl hb2 (by omega) hk hg b0 b1
  have H2 := fun s => gHeld.ok W n bs ds false 0 s hlk hwl hb2 (by omega) hk hg (by omega) (by omega)
  have H3 := fun s => gStr.zero W n bs ds false s hlk hwl hb2 (by omega) hk hg
  have H4 := fun s => toldS_ (fns := fns) (f := 28) (g := 27) rfl rfl W (n + 4) bs.length ds _ (.inr rfl) false s (by omega) hg
  have hRo2 := tb_okQ false ds
  generalize tb false [] [] [] false ds = R2 at *
  generalize sortD (dnAt ds ds.length) = SD at *
  have rr : ruleS false = "all" := rfl
  rw [rr] at H2 H3 H4
  generalize ruleS first = ru at *
  have a1 : primF .ne [.tup SD, .tup SD] = some (.bl false) := ne_okQ hT2 hT2 (by decide) rfl
  have a2 : primF .eq [.own R2, .own R2] = some (.bl true) := eq_okQ hRo2 hRo2 (by decide) rfl
  have a3 : arrange [.inl 0, .inl 1, .inl 3, .inl 2] [.tup bs, .frz ds, .int b, .str ru] = [.tup bs, .frz ds, .str ru, .int b] := rfl
  have a4 : arrange [.inl 0, .inl 1, .inr (.str "all"), .inr (.int 0)] [.tup bs, .frz ds] = [.tup bs, .frz ds, .str "all", .int 0] := rfl
  have a5 : primF .tuple [.own SD] = some (.tup SD) := rfl
  clear hR hRo hRl hq hkl hRo2 hT2
  simp [f33, b33, e1, e2, e3, e4]
  refine wp_forJ (fun k en s' => ∃ u6 u7 t, en = [some (.tup bs), some (.frz ds), some (.str ru), some (.int b), some (.own R), some (.tup SD), u6, u7] ∧ s' = s ++ t) ⟨_, _, [], rfl, (List.append_nil s).symm⟩ ?_ ?_
  · intro k d en s' J hd hI hJ
    obtain ⟨u6, u7, t, h1, h2⟩ := hI
    have q1 := rng_get hd
    have hdi : ∃ jj : Int, d = .int jj ∧ (jj = 0 ∨ jj = 1) := by
      obtain ⟨q1, q2⟩ := q1
      have : k < 2 := q2
      refine ⟨_, q1, ?_⟩
      omega
    obtain ⟨jj, hdi, hjj⟩ := hdi
    rw [h1, hdi]
    simp only [wp_calm, q_nm, List.set_cons_succ, List.set_cons_zero]
    refine T jj hjj s' u7 _ fun y7 t2 => ?_
    exact hJ _ _ ⟨_, _, t ++ t2, rfl, by rw [h2, List.append_assoc]⟩
  · intro en s' hI
    obtain ⟨u6, u7, t, h1, h2⟩ := hI
    obtain ⟨t1, c1⟩ := H1 s'
    obtain ⟨t2, c2⟩ := H2 (s' ++ t1)
    obtain ⟨t3, c3⟩ := H3 (s' ++ t1 ++ t2)
    have c4 := H4 (s' ++ t1 ++ t2 ++ t3)
    have fin := hK (.bl true) (s' ++ t1 ++ t2 ++ t3) ⟨rfl, t ++ (t1 ++ (t2 ++ t3)), by rw [h2]; simp only [List.append_assoc]⟩
    rw [h1]
    clear h1 h2 hK T H1 H2 H3 H4
    generalize s' ++ t1 = s1 at *
    generalize s1 ++ t2 = s2 at *
    generalize s2 ++ t3 = s3 at *
    simp [a3, c1, a1, a4, c2, c3, c4, a2]
    exact fin
end Mi.L11
end
section
set_option Elab.async false
set_option maxRecDepth 100000
set_option linter.all false
namespace Mi.L11
open PySem Lk
abbrev doorS : List S := [.asg (.nm 13) (.lc [6] (.nm 6) (.seq (.tup [(.k (.str "first")), (.v 8)])) [] (.call 32 [(.v 11), (.v 3), (.v 4), (.v 6), (.v 7)])), .ite (.prim .ne [(.v 13), (.lst [(.lst [(.k (.str "NoCount"))]), (.lst [(.k (.str "NoRule"))])])]) [.ret (.k (.bl false))] [], .asg (.nm 13) (.call 32 [(.v 11), (.v 3), (.v 9), (.v 8), (.v 7)]), .ite (.and_ (.prim .notN [(.v 10)]) (.prim .ne [(.v 13), (.lst [(.k (.str "NoEvents")), (.v 10)])])) [.ret (.k (.bl false))] [], .asg (.nm 13) (.call 32 [(.v 11), (.prim .list [(.v 3)]), (.v 9), (.v 8), (.v 7)]), .ite (.prim .ne [(.v 13), (.lst [(.k (.str "NoLayout")), (.tup [(.k (.str "layout"))])])]) [.ret (.k (.bl false))] []]
theorem door_ (W n : Nat) (bs ds es : List D) (x r w : D) (i : Int) (hi : i = 0 ∨ i = 1) (s : Sto) (hlk : lOk (.tup bs) = true) (hwl : wrongL (.tup bs) = .non) (hb2 : bs.length ≤ 1000) (hl : ds.length ≤ 60) (hk : ∀ d ∈ ds, kOk d = true) (hg : wrongE bs.length 0 none [] ds = .non) (hle : es.length ≤ 100) (hke : ∀ d ∈ es, kOk d = true) (hw : wrongE bs.length 0 none [] es = w)
    (hx : sOk x = true) (hx2 : wholeB 0 (some 50) x = false) (hr : badRule r) (e0 e1 e2 e5 e6 e12 e13 : Option D) (Q : Flow → Env → Sto → Prop)
    (h : ∀ y6 y13 s', Q .next [e0, e1, e2, some (.tup bs), some (.frz ds), e5, y6, some x, some r, some (.frz es), some w, some (.int i), e12, y13] s') :
    wp (exSs (run fns W (n + 7)) W doorS) [e0, e1, e2, some (.tup bs), some (.frz ds), e5, e6, some x, some r, some (.frz es), some w, some (.int i), e12, e13] s Q := by
  have hbig : big = 16777216 := rfl
  have vx : val x = true := by cases x <;> first | rfl | cases hx
  have vr := hr.1
  have hv : val w = true ∧ fine 1 w = true := by
    have := wrongE_fine bs.length es (by omega)
    rw [hw] at this
    exact ⟨fine_val this, this⟩
  have vw := hv.1
  obtain ⟨s1, c1⟩ := told_cnt W n i hi bs ds true x s hlk hwl hb2 (by omega) hk hg hx hx2
  obtain ⟨s2, c2⟩ := told_rule W n i hi bs ds r x s1 hr vx hlk hwl hb2 (by omega) hk hg
  have lay : ∀ s, ∃ s2, run fns W (n + 7) 32 [.int i, .own bs, .frz es, r, x] s = .ok (.own [.str "NoLayout", wLay]) s2 := fun s => told_lay W n i hi (.own bs) (.frz bs) (.frz es) r x s (used_own bs) rfl rfl vr vx rfl
  have a1 : primF .ne [.own [.frz [.str "NoCount"], .frz [.str "NoRule"]], .own [.frz [.str "NoCount"], .frz [.str "NoRule"]]] = some (.bl false) := by kernel_rfl
  have a5 : primF .ne [.own [.str "NoLayout", wLay], .own [.str "NoLayout", wLay]] = some (.bl false) := by kernel_rfl
  have a6 : primF .list [.tup bs] = some (.own bs) := rfl
  have rr : ruleS true = "first" := rfl
  rw [rr] at c1
  have lcS : ∀ Q : List D → Env → Sto → Prop, Q [.frz [.str "NoCount"], .frz [.str "NoRule"]] [e0, e1, e2, some (.tup bs), some (.frz ds), e5, none, some x, some r, some (.frz es), some w, some (.int i), e12, e13] s2 → wp (lcL [6] (fun d => (asgG (run fns W (n + 7)) (.nm 6) d).calm) (tsts (run fns W (n + 7)) []).calm (ev2 (run fns W (n + 7)) (.call 32 [(.v 11), (.v 3), (.v 4), (.v 6), (.v 7)])).1.calm [.str "first", r] []) [e0, e1, e2, some (.tup bs), some (.frz ds), e5, none, some x, some r, some (.frz es), some w, some (.int i), e12, e13] s Q := fun Q hQ => by
    refine wp_lc (fun k acc en s' => en = [e0, e1, e2, some (.tup bs), some (.frz ds), e5, none, some x, some r, some (.frz es), some w, some (.int i), e12, e13] ∧ ((k = 0 ∧ acc = [] ∧ s' = s) ∨ (k = 1 ∧ acc = [.frz [.str "NoCount"]] ∧ s' = s1) ∨ (k = 2 ∧ acc = [.frz [.str "NoCount"], .frz [.str "NoRule"]] ∧ s' = s2))) ⟨rfl, .inl ⟨rfl, rfl, rfl⟩⟩ (by show 2 ≤ big; omega) ?_ ?_ ?_
    · rintro k acc en s' ⟨_, ⟨rfl, rfl, _⟩ | ⟨rfl, rfl, _⟩ | ⟨rfl, rfl, _⟩⟩ <;> simp
    · rintro k d acc en s' hd ⟨rfl, ⟨rfl, rfl, rfl⟩ | ⟨rfl, rfl, rfl⟩ | ⟨rfl, rfl, rfl⟩⟩
      · cases hd
        simp [vx, c1]
      · cases hd
        simp [vx, vr, c2]
      · cases hd
    · rintro acc en s' ⟨rfl, ⟨h0, _⟩ | ⟨h0, _⟩ | ⟨_, rfl, rfl⟩⟩
      · cases h0
      · cases h0
      · exact hQ
  by_cases hn : w = .non
  · subst hn
    obtain ⟨s3, c3⟩ := told_rule W n i hi bs es r x s2 hr vx hlk hwl hb2 (by omega) hke hw
    obtain ⟨s4, c4⟩ := lay s3
    simp [doorS, vr]
    refine lcS _ ?_
    simp [a1, vr, vx, c3, a6, c4, a5]
    exact h _ _ _
  · obtain ⟨s3, c3⟩ := told_ev W n i hi bs es r x w s2 vr vx hlk hwl hb2 (by omega) hke hw vw hn
    obtain ⟨s4, c4⟩ := lay s3
    have a8 : primF .notN [w] = some (.bl true) := by cases w <;> first | rfl | exact absurd rfl hn
    have fo : ∀ d ∈ [D.str "NoEvents", w], fine 1 d = true := fun d hd => by
      simp only [List.mem_cons, List.not_mem_nil, or_false] at hd
      rcases hd with rfl | rfl
      · exact fine_leaf (by decide +kernel) 1
      · exact hv.2
    have a7 : primF .ne [.own [.str "NoEvents", w], .own [.str "NoEvents", w]] = some (.bl false) := ne_same (own_plain fo) (own_plain fo) (Nat.le_trans (own_depth fo) (by decide)) rfl
    simp [doorS, vr]
    refine lcS _ ?_
    simp [a1, vr, vx, vw, c3, a8, a7, a6, c4, a5]
    exact h _ _ _
abbrev restS : List S := [.asg (.nm 7) (.call 21 [(.rf 2), (.lst [(.prim .neg [(.k (.int 1))]), (.k (.int 51)), (.k .non), (.k (.bl true)), (.k (.str "1"))])]), .asg (.nm 8) (.call 21 [(.rf 2), (.lst [(.k (.str "")), (.k (.str "All")), (.k .non), (.k (.int 0)), (.k (.str "none")), (.tup [(.k (.str "all"))])])]), .asg (.nm 9) (.call 31 [(.rf 2), (.v 3), (.v 4)]), .asg (.nm 10) (.call 8 [(.v 3), (.v 9)]), .for_ (.nm 11) (.seq (.tup [(.k (.int 0)), (.k (.int 1))])) doorS]
theorem rest_ (W n p N : Nat) (bs ds : List D) (s : Sto) (hlk : lOk (.tup bs) = true) (hwl : wrongL (.tup bs) = .non) (hb : 1 ≤ bs.length) (hb2 : bs.length ≤ 1000) (hl : ds.length ≤ 60) (hf : ∀ d ∈ ds, evFine d) (hg : wrongE bs.length 0 none [] ds = .non) (hs : Pu p N s) (hN : N < 2 ^ 87)
    (e0 e1 e5 e6 e7 e8 e9 e10 e11 e12 e13 : Option D) (Q : Flow → Env → Sto → Prop)
    (h : ∀ y6 y7 y8 y9 y10 y11 y13 s', Q .next [e0, e1, some (.ref p), some (.tup bs), some (.frz ds), e5, y6, y7, y8, y9, y10, y11, e12, y13] s') :
    wp (exSs (run fns W (n + 7)) W restS) [e0, e1, some (.ref p), some (.tup bs), some (.frz ds), e5, e6, e7, e8, e9, e10, e11, e12, e13] s Q := by
  have hk : ∀ d ∈ ds, kOk d = true := fun d hd => (hf d hd).1
  have hbig : big = 16777216 := rfl
  have a0 : primF .neg [.int 1] = some (.int (-1)) := rfl
  obtain ⟨x, s1, c1, hx, st1⟩ := pick_ (fns := fns) (h := 21) (i := 19) (j := 17) rfl rfl rfl W (n + 4) p N [.int (-1), .int 51, .non, .bl true, .str "1"] s hs (by omega) (by simp) (by simp)
  have hx2 : sOk x = true ∧ wholeB 0 (some 50) x = false := by
    simp only [List.mem_cons, List.not_mem_nil, or_false] at hx
    rcases hx with rfl | rfl | rfl | rfl | rfl <;> decide +kernel
  have vx : val x = true := by have := hx2.1; cases x <;> first | rfl | cases this
  obtain ⟨r, s2, c2, hr, st2⟩ := pick_ (fns := fns) (h := 21) (i := 19) (j := 17) rfl rfl rfl W (n + 4) p _ [.str "", .str "All", .non, .int 0, .str "none", .tup [.str "all"]] s1 st1.pu (by omega) (by simp) (by simp)
  have hr2 : badRule r := by
    simp only [List.mem_cons, List.not_mem_nil, or_false] at hr
    rcases hr with rfl | rfl | rfl | rfl | rfl | rfl
    · exact ⟨rfl, .inr ⟨_, rfl, by kernel_rfl⟩⟩
    · exact ⟨rfl, .inr ⟨_, rfl, by kernel_rfl⟩⟩
    · exact ⟨rfl, .inl rfl⟩
    · exact ⟨rfl, .inl rfl⟩
    · exact ⟨rfl, .inr ⟨_, rfl, by kernel_rfl⟩⟩
    · exact ⟨rfl, .inl rfl⟩
  have vr := hr2.1
  obtain ⟨y, s3, c3, ⟨es, hy, hfe, hle⟩, st3⟩ := bentEvents_ (fns := fns) (f := 31) (h := 21) (i := 19) (j := 17) (o := 30) rfl rfl rfl rfl rfl W (n + 2) p _ bs ds s2 st2.pu (by omega) hb hb2 (by omega) hf fun d hd => timed_of (hf d hd) (wrongE_all hg d hd)
  have hke : ∀ d ∈ es, kOk d = true := fun d hd => (hfe d hd).1
  obtain ⟨kvs, c4⟩ := gEv.lst W (n + 3) bs es s3 hlk hwl hb2 (by omega) hke
  generalize s3 ++ [O.dic kvs] = s4 at *
  generalize hw : wrongE bs.length 0 none [] es = w at *
  have vw : val w = true := by
    have := wrongE_fine bs.length es (by omega)
    rw [hw] at this
    exact fine_val this
  have loop : ∀ Q : Flow → Env → Sto → Prop, (∀ y6 y11 y13 s', Q .next [e0, e1, some (.ref p), some (.tup bs), some (.frz ds), e5, y6, some x, some r, some (.frz es), some w, y11, e12, y13] s') → wp (forL (fun d => (asgG (run fns W (n + 7)) (.nm 11) d).calm) (exSs (run fns W (n + 7)) W doorS) [.int 0, .int 1]) [e0, e1, some (.ref p), some (.tup bs), some (.frz ds), e5, e6, some x, some r, some (.frz es), some w, e11, e12, e13] s4 Q := fun Q hQ => by
    refine wp_forJ (fun k en s' => ∃ y6 y11 y13, en = [e0, e1, some (.ref p), some (.tup bs), some (.frz ds), e5, y6, some x, some r, some (.frz es), some w, y11, e12, y13]) ⟨_, _, _, rfl⟩ ?_ ?_
    · intro k d en s' J hd hI hJ
      obtain ⟨y6, y11, y13, h1⟩ := hI
      have hdi : ∃ jj : Int, d = .int jj ∧ (jj = 0 ∨ jj = 1) := by
        match k, hd with
        | 0, hd => cases hd; exact ⟨0, rfl, .inl rfl⟩
        | 1, hd => cases hd; exact ⟨1, rfl, .inr rfl⟩
      obtain ⟨jj, hdi, hjj⟩ := hdi
      rw [h1, hdi]
      simp only [wp_calm, q_nm, List.set_cons_succ, List.set_cons_zero]
      refine door_ W n bs ds es x r w jj hjj s' hlk hwl hb2 hl hk hg (by omega) hke hw hx2.1 hx2.2 hr2 _ _ _ _ _ _ _ _ fun z6 z13 s5 => ?_
      exact hJ _ _ ⟨_, _, _, rfl⟩
    · rintro en s' ⟨y6, y11, y13, rfl⟩
      exact hQ _ _ _ _
  rcases hy with rfl | rfl
  · simp [restS, a0, c1, vx, c2, vr, c3, c4, vw]
    refine loop _ fun y6 y11 y13 s' => ?_
    simp
    exact h _ _ _ _ _ _ _ _
  · simp [restS, a0, c1, vx, c2, vr, c3, c4, vw]
    refine loop _ fun y6 y11 y13 s' => ?_
    simp
    exact h _ _ _ _ _ _ _ _
abbrev pickS : List S := [.asg (.nm 12) (.call 21 [(.rf 2), (.lst [(.k (.int 0)), (.k (.int 1)), (.k (.int 2)), (.k (.int 3)), (.k (.int 9)), (.k (.int 50))])]), .ite (.or_ (.not_ (.call 33 [(.v 3), (.v 4), (.v 6), (.v 12)])) (.prim .ne [(.prim .str [(.v 4)]), (.v 5)])) [.ret (.k (.bl false))] []]
theorem pickT (W n p N : Nat) (bs ds : List D) (y : Str) (first : Bool) (s : Sto) (hlk : lOk (.tup bs) = true) (hwl : wrongL (.tup bs) = .non) (hb2 : bs.length < 64) (hl : ds.length < 60) (hf : ∀ d ∈ ds, evFine d) (hg : wrongE bs.length 0 none [] ds = .non) (hs : Pu p N s) (hN : N < 2 ^ 87) (hy : primF .str [.frz ds] = some (.str y))
    (d4 : D) (h4 : d4 = .own ds ∨ d4 = .frz ds) (e0 e1 e7 e8 e9 e10 e11 e12 e13 : Option D) (Q : Flow → Env → Sto → Prop)
    (h : ∀ y12 s', Pu p (N + 1) s' → Q .next [e0, e1, some (.ref p), some (.tup bs), some (.frz ds), some (.str y), some (.str (ruleS first)), e7, e8, e9, e10, e11, y12, e13] s') :
    wp (exSs (run fns W (n + 7)) W pickS) [e0, e1, some (.ref p), some (.tup bs), some d4, some (.str y), some (.str (ruleS first)), e7, e8, e9, e10, e11, e12, e13] s Q := by
  have hk : ∀ d ∈ ds, kOk d = true := fun d hd => (hf d hd).1
  obtain ⟨z, s4, e8', hz, st4⟩ := pick_ (fns := fns) (h := 21) (i := 19) (j := 17) rfl rfl rfl W (n + 4) p _ [.int 0, .int 1, .int 2, .int 3, .int 9, .int 50] s hs (by omega) (by simp) (by simp)
  obtain ⟨b, rfl, b0, b1⟩ : ∃ b : Int, z = .int b ∧ 0 ≤ b ∧ b ≤ 50 := by
    simp at hz
    rcases hz with rfl | rfl | rfl | rfl | rfl | rfl <;> exact ⟨_, rfl, by omega, by omega⟩
  obtain ⟨t, c1⟩ := right_ W n bs ds first b s4 hlk hwl hb2 (by omega) hk hg b0 b1
  have pu := st4.pu.app t
  have a1 : primF .ne [.str y, .str y] = some (.bl false) := ne_same rfl rfl (by simp [D.py, PyData.depth]) rfl
  generalize s4 ++ t = s5 at *
  generalize ruleS first = ru at *
  rcases h4 with rfl | rfl
  · simp [pickS, e8', c1, hy, a1]
    exact h _ _ pu
  · simp [pickS, e8', c1, hy, a1]
    exact h _ _ pu
theorem law_ (W n : Nat) (ns : List Int) (s : Sto) (hn : ns.length ≤ 63) : ans fns W (n + 8) 34 [.frz (ns.map D.int)] s fun d s' => d = .bl true := by
  refine ans_ofJ (fn := f34) rfl rfl fun K hK => ?_
  obtain ⟨t, e0, t0, t1⟩ := min_cells ns.length 5 (by decide)
  have e1 := rngO_i (2 + t) (fit_int (by omega) (by omega))
  simp [f34, b34, e0, e1]
  refine wp_forJ (fun i en s' => ∃ x1 x2 x3 x4 x5 x6 x7 x8 x9 x10 x11 x12 x13, en = [some (.frz (ns.map D.int)), x1, x2, x3, x4, x5, x6, x7, x8, x9, x10, x11, x12, x13]) ⟨_, _, _, _, _, _, _, _, _, _, _, _, _, rfl⟩ ?_ ?_
  · rintro i d en s' J hd ⟨x1, x2, x3, x4, x5, x6, x7, x8, x9, x10, x11, x12, x13, rfl⟩ hJ
    obtain ⟨rfl, hi⟩ := rng_get hd
    rw [show (0 : Int) + i = i by omega]
    obtain ⟨c, e2⟩ := at_ (fns := fns) (i := 20) rfl W (n + 6) ns i s' (by omega)
    obtain ⟨v, e3, pv⟩ := purse_ (fns := fns) (i := 18) (j := 17) rfl rfl W (n + 5) c i s' (by omega) (by omega)
    have pu : Pu s'.length 0 (s' ++ [.lst v]) := ⟨v, by simp, pv⟩
    obtain ⟨bs, s1, r, e4, hr, hsub, hne, st1⟩ := layoutA_ (fns := fns) (g := 23) (h := 22) (i := 19) (j := 17) rfl rfl rfl rfl W (n + 3) s'.length 0 _ pu (by decide)
    have hlen : bs.length ≤ 24 := Nat.le_trans hsub.length_le (full_len r hr)
    have hb1 : 1 ≤ bs.length := by cases bs with | nil => exact absurd rfl hne | cons => simp
    have hwl := good_non (goodL_sub hsub (full_good r hr)) hne hlen
    have hfd : ∀ d ∈ bs, fine 1 d = true := fun d hd => by
      have := List.all_eq_true.mp (full_fine r hr) d (hsub.subset hd)
      simp only [Bool.and_eq_true] at this
      exact this.1
    have hlk : lOk (.tup bs) = true := fine_lOk (n := 0) (fine_tup.mpr hfd)
    obtain ⟨g, s2, e5, g0, g1, st2⟩ := take_ (fns := fns) (i := 19) (j := 17) rfl rfl W (n + 5) s'.length _ 4 s1 st1.pu (by decide) (by decide) (by decide)
    obtain ⟨gn, hgn⟩ : ∃ gn : Nat, ((gn : Int)) = 1 + g := ⟨(1 + g).toNat, by omega⟩
    have e6 := slc_take_t bs gn
    rw [hgn] at e6
    have hbl : (bs.take gn).length = min gn bs.length := List.length_take
    obtain ⟨ds, s3, e7, hdl, hdf, hdw, st3⟩ := events_ (fns := fns) (f := 24) (h := 21) (i := 19) (j := 17) rfl rfl rfl rfl W (n + 3) s'.length _ 26 (bs.take gn) s2 st2.pu (by decide) (by decide) (by decide) (by omega) (by omega)
    rw [show ((26 : Nat) : Int) = 26 from rfl] at e7
    have hg := hdw bs.length (by omega)
    obtain ⟨y, e10⟩ := str_of (.frz ds) ds (.inr rfl) hdf (by omega)
    obtain ⟨y', e10'⟩ := str_of (.own ds) ds (.inl rfl) hdf (by omega)
    have hyy : y' = y := by
      have : primF .str [.own ds] = primF .str [.frz ds] := rfl
      rw [this, e10] at e10'
      cases e10'; rfl
    rw [hyy] at e10'
    have pu3 : Pu s'.length 1000 s3 := st3.pu.mono (by omega)
    generalize hp : s'.length = p at *
    obtain ⟨ii, hii⟩ : ∃ ii : Int, (i : Int) = ii := ⟨_, rfl⟩
    rw [hii] at e2 e3 ⊢
    have loop : ∀ Q : Flow → Env → Sto → Prop, (∀ y6 y12 s', Pu p 2000 s' → Q .next [some (.frz (ns.map D.int)), some (.int ii), some (.ref p), some (.tup bs), some (.frz ds), some (.str y), y6, x7, x8, x9, x10, x11, y12, x13] s') →
        wp (forL (fun d => (asgG (run fns W (n + 7)) (.nm 6) d).calm) (exSs (run fns W (n + 7)) W pickS) [.str "all", .str "first"]) [some (.frz (ns.map D.int)), some (.int ii), some (.ref p), some (.tup bs), some (.own ds), some (.str y), x6, x7, x8, x9, x10, x11, x12, x13] s3 Q := fun Q hQ => by
      refine wp_forJ (fun k en s' => ∃ d4 y6 y12, en = [some (.frz (ns.map D.int)), some (.int ii), some (.ref p), some (.tup bs), some d4, some (.str y), y6, x7, x8, x9, x10, x11, y12, x13] ∧ ((k = 0 ∧ d4 = .own ds) ∨ (0 < k ∧ d4 = .frz ds)) ∧ Pu p (1000 + k) s') ⟨_, _, _, rfl, .inl ⟨rfl, rfl⟩, pu3⟩ ?_ ?_
      · intro k d en s5 J2 hdj hI hJ2
        obtain ⟨d4, y6, y12, h1, h4, pu5⟩ := hI
        have hdv : ∃ first, d = .str (ruleS first) ∧ k < 2 := by
          match k, hdj with
          | 0, hdj => exact ⟨false, (Option.some.inj hdj).symm, by omega⟩
          | 1, hdj => exact ⟨true, (Option.some.inj hdj).symm, by omega⟩
        obtain ⟨first, hdv, hk2⟩ := hdv
        have h5 : d4 = .own ds ∨ d4 = .frz ds := by
          rcases h4 with ⟨_, h⟩ | ⟨_, h⟩
          · exact .inl h
          · exact .inr h
        rw [h1, hdv]
        simp only [wp_calm, q_nm, List.set_cons_succ, List.set_cons_zero]
        refine pickT W n p _ bs ds y first s5 hlk hwl (by omega) (by omega) hdf hg pu5 (by omega) e10 d4 h5 _ _ _ _ _ _ _ _ _ _ fun z12 s6 pu6 => ?_
        exact hJ2 _ _ ⟨_, _, _, rfl, .inr ⟨Nat.succ_pos _, rfl⟩, pu6⟩
      · intro en s5 hI
        obtain ⟨d4, y6, y12, h1, h4, pu5⟩ := hI
        have h4' : d4 = .frz ds := by
          rcases h4 with ⟨h, _⟩ | ⟨_, h⟩
          · cases h
          · exact h
        rw [h1, h4']
        exact hQ _ _ _ (pu5.mono (by show 1000 + 2 ≤ 2000; omega))
    simp [hp, e2, e3, e4, e5, e6, e7, e10']
    refine loop _ fun y6 y12 s5 pu5 => ?_
    simp only [nextQ_next]
    refine rest_ W n p _ bs ds s5 hlk hwl hb1 (by omega) (by omega) hdf hg pu5 (by decide) _ _ _ _ _ _ _ _ _ _ _ _ ?_
    intro z6 z7 z8 z9 z10 z11 z13 s6
    exact hJ _ _ ⟨_, _, _, _, _, _, _, _, _, _, _, _, _, rfl⟩
  · rintro en s' ⟨x1, x2, x3, x4, x5, x6, x7, x8, x9, x10, x11, x12, x13, rfl⟩
    simp
    exact hK _ _ rfl
end Mi.L11
end
section
set_option Elab.async false
set_option maxRecDepth 100000
set_option linter.all false
namespace Mi
open PySem PySem.Spec PyProof.Rows L2

/-- the written part, and what the module's names hold -/
structure KC where
  k : PySem.W.Frag
  mg : Str → Option Value
  pn : Nat → Option (Addr × Obj × HO)
/-- no dict is walked -/
def noPn : Nat → Option (Addr × Obj × HO) := fun _ => none
instance : Coe KC PySem.W.Frag := ⟨KC.k⟩
abbrev KX (X : Cx) (pn : Nat → Option (Addr × Obj × HO) := noPn) : KC := ⟨X.K, X.mg, pn⟩
/-- a list among the module's own objects -/
def KL (K : KC) (a : Addr) (vs : List V) : Prop := ∃ (its : List Value) (n : Nat), K.k.lookup a = some { cls := .type "list", dict := none, data := .seq its.toArray n, slots := #[] } ∧ its.length ≤ sizeLine ∧ Vals vs its
mutual
def RepS (K : KC) (ρ Z : List Addr) (H : Hp) : D → V → Prop
  | .non, v => v = .non
  | .bl b, v => v = .bl b
  | .int i, v => v = .int i
  | .str x, v => v = .str x
  | .tup ds, v => ∃ a vs, v = .ref a ∧ SqT K H a vs ∧ RepSs K ρ Z H ds vs
  | .frz ds, v => ∃ a vs, v = .ref a ∧ ((a ∈ Z ∧ H a = some (.lst vs)) ∨ (∃ o, H a = some (.frz o (.lst vs))) ∨ KL K a vs) ∧ RepSs K ρ Z H ds vs
  | .own _, _ => False
  | .ref n, v => ∃ a, v = .ref a ∧ ρ[n]? = some a
def RepSs (K : KC) (ρ Z : List Addr) (H : Hp) : List D → List V → Prop
  | [], vs => vs = []
  | d :: ds, vs => ∃ v r, vs = v :: r ∧ RepS K ρ Z H d v ∧ RepSs K ρ Z H ds r
end
def Rep (K : KC) (ρ Z : List Addr) (H : Hp) (d : D) (v : V) : Prop := match d with
  | .own ds => ∃ a vs, v = .ref a ∧ H a = some (.lst vs) ∧ RepSs K ρ Z H ds vs
  | d => RepS K ρ Z H d v
/-- an exception's object of the class cls, its dict d, at a -/
def excAt (cls : Value) (d : Option Addr) (a : Addr) : HO := .ext fun h => ∃ (oe : Obj) (vs : Array Value), h.get? a = some oe ∧ Zc cls d oe ∧ oe.data = .fields vs
def RepO (K : KC) (ρ Z : List Addr) (H : Hp) (o : O) (a : Addr) : Prop := match o with
  | .lst ds => ∃ vs, H a = some (.lst vs) ∧ RepSs K ρ Z H ds vs
  | .dic kvs => ∃ vs, H a = some (.dK ((kvs.map (·.1)).zip vs)) ∧ RepSs K ρ Z H (kvs.map (·.2)) vs
  | .exn cls k => ∃ cv d, K.mg cls = some cv ∧ H a = some (excAt cv d a) ∧ (match k with
    | none => d = none
    | some n => ∃ da, ρ[n]? = some da ∧ d = some da)
  | .xdt fs => ∃ us, H a = some (.xd ((fs.map (·.1)).zip us)) ∧ RepSs K ρ Z H (fs.map (·.2)) us
  | .ins _ _ => False
  | .ldic t kvs => ∃ ob vs, H a = some (.frz ob (.dK ((kvs.map (·.1)).zip vs))) ∧ K.pn t = some (a, ob, .dK ((kvs.map (·.1)).zip vs)) ∧ RepSs K ρ Z H (kvs.map (·.2)) vs

/-- what the frozen things lean on stays -/
structure Stb (K : KC) (Z : List Addr) (H H' : Hp) : Prop where
  tup : ∀ a vs, SqT K H a vs → SqT K H' a vs
  frz : ∀ a o vs, H a = some (.frz o (.lst vs)) → H' a = some (.frz o (.lst vs))
  zed : ∀ a ∈ Z, H' a = H a
section
variable {K : KC} {ρ ρ' Z Z' : List Addr} {H H' : Hp}
mutual
theorem RepS.stb (st : Stb K Z H H') (hr : ∀ (n : Nat) (a : Addr), ρ[n]? = some a → ρ'[n]? = some a) (hz : ∀ a ∈ Z, a ∈ Z') : ∀ (d : D) (v : V), RepS K ρ Z H d v → RepS K ρ' Z' H' d v
  | .non, _, h => h
  | .bl _, _, h => h
  | .int _, _, h => h
  | .str _, _, h => h
  | .own _, _, h => h
  | .ref _, _, h => by
    obtain ⟨a, e, q⟩ := h
    exact ⟨a, e, hr _ _ q⟩
  | .tup ds, _, h => by
    obtain ⟨a, vs, e, q, r⟩ := h
    exact ⟨a, vs, e, st.tup _ _ q, RepSs.stb st hr hz ds vs r⟩
  | .frz ds, _, h => by
    obtain ⟨a, vs, e, q, r⟩ := h
    refine ⟨a, vs, e, ?_, RepSs.stb st hr hz ds vs r⟩
    rcases q with ⟨q1, q2⟩ | ⟨o, q⟩ | q
    · exact .inl ⟨hz _ q1, (st.zed a q1).trans q2⟩
    · exact .inr (.inl ⟨o, st.frz _ _ _ q⟩)
    · exact .inr (.inr q)
theorem RepSs.stb (st : Stb K Z H H') (hr : ∀ (n : Nat) (a : Addr), ρ[n]? = some a → ρ'[n]? = some a) (hz : ∀ a ∈ Z, a ∈ Z') : ∀ (ds : List D) (vs : List V), RepSs K ρ Z H ds vs → RepSs K ρ' Z' H' ds vs
  | [], _, h => h
  | d :: ds, _, h => by
    obtain ⟨v, r, e, h1, h2⟩ := h
    exact ⟨v, r, e, RepS.stb st hr hz d v h1, RepSs.stb st hr hz ds r h2⟩
end
theorem Stb.refl : Stb K Z H H := ⟨fun _ _ h => h, fun _ _ _ h => h, fun _ _ => rfl⟩
/-- a new object -/
theorem Stb.new {p : Addr} {o : HO} (hp : H p = none) (hz : ∀ a ∈ Z, a ≠ p) : Stb K Z H (upd H p o) := by
  refine ⟨fun a vs h => ?_, fun a o' u h => ?_, fun a ha => upd_ne (hz a ha)⟩
  · rcases h with (h | ⟨ob, h⟩) | h
    · exact .inl (.inl (by rw [upd_ne (ne_of_none h hp)]; exact h))
    · exact .inl (.inr ⟨ob, by rw [upd_ne (ne_of_none h hp)]; exact h⟩)
    · exact .inr h
  · rw [upd_ne (ne_of_none h hp)]; exact h
/-- an object that is no tuple and not locked changes -/
theorem Stb.set' {p : Addr} {o0 o : HO} (hp : H p = some o0) (h1 : ∀ xs, o0 ≠ .tup xs) (h2 : ∀ ob u, o0 ≠ .frz ob u) (hz : ∀ a ∈ Z, a ≠ p) : Stb K Z H (upd H p o) := by
  refine ⟨fun a vs h => ?_, fun a o' u h => ?_, fun a ha => upd_ne (hz a ha)⟩
  · rcases h with (h | ⟨ob, h⟩) | h
    · exact .inl (.inl (by rw [upd_ne (ne_of h hp (fun z => h1 _ z.symm))]; exact h))
    · exact .inl (.inr ⟨ob, by rw [upd_ne (ne_of h hp (fun z => h2 _ _ z.symm))]; exact h⟩)
    · exact .inr h
  · rw [upd_ne (ne_of h hp (fun z => h2 _ _ z.symm))]; exact h
theorem Stb.setG {p : Addr} {o0 o : HO} (hp : H p = some o0) (h1 : ∀ xs, o0 ≠ .tup xs) (h2 : ∀ ob xs, o0 ≠ .frz ob (.tup xs)) (h3 : ∀ ob xs, o0 ≠ .frz ob (.lst xs)) (hz : ∀ a ∈ Z, a ≠ p) : Stb K Z H (upd H p o) := by
  refine ⟨fun a vs h => ?_, fun a o' u h => ?_, fun a ha => upd_ne (hz a ha)⟩
  · rcases h with (h | ⟨ob, h⟩) | h
    · exact .inl (.inl (by rw [upd_ne (ne_of h hp (fun z => h1 _ z.symm))]; exact h))
    · exact .inl (.inr ⟨ob, by rw [upd_ne (ne_of h hp (fun z => h2 _ _ z.symm))]; exact h⟩)
    · exact .inr h
  · rw [upd_ne (ne_of h hp (fun z => h3 _ _ z.symm))]; exact h
/-- a list changes -/
theorem Stb.set {p : Addr} {xs : List V} {o : HO} (hp : H p = some (.lst xs)) (hz : ∀ a ∈ Z, a ≠ p) : Stb K Z H (upd H p o) := Stb.set' hp (fun _ h => by cases h) (fun _ _ h => by cases h) hz

theorem RepSs.length : ∀ {ds : List D} {vs : List V}, RepSs K ρ Z H ds vs → vs.length = ds.length
  | [], _, h => by cases (show _ = [] from h); rfl
  | d :: ds, _, h => by
    obtain ⟨v, r, e, _, h2⟩ := h
    subst e
    simp [RepSs.length h2]
theorem RepSs.get : ∀ {ds : List D} {vs : List V} {i : Nat} {d : D}, RepSs K ρ Z H ds vs → ds[i]? = some d → ∃ v, vs[i]? = some v ∧ RepS K ρ Z H d v
  | [], _, _, _, _, e => by simp at e
  | d :: ds, _, 0, _, h, e => by
    obtain ⟨v, r, rfl, h1, h2⟩ := h
    simp at e; subst e
    exact ⟨v, rfl, h1⟩
  | d :: ds, _, i + 1, _, h, e => by
    obtain ⟨v, r, rfl, h1, h2⟩ := h
    simpa using RepSs.get h2 (by simpa using e)
theorem RepSs.append : ∀ {ds es : List D} {vs ws : List V}, RepSs K ρ Z H ds vs → RepSs K ρ Z H es ws → RepSs K ρ Z H (ds ++ es) (vs ++ ws)
  | [], _, _, _, h, k => by cases (show _ = [] from h); exact k
  | d :: ds, _, _, _, h, k => by
    obtain ⟨v, r, rfl, h1, h2⟩ := h
    exact ⟨v, _, rfl, h1, RepSs.append h2 k⟩
theorem RepSs.take : ∀ {ds : List D} {vs : List V} (n : Nat), RepSs K ρ Z H ds vs → RepSs K ρ Z H (ds.take n) (vs.take n)
  | [], _, n, h => by cases (show _ = [] from h); simp [RepSs]
  | d :: ds, _, 0, h => by simp [RepSs]
  | d :: ds, _, n + 1, h => by
    obtain ⟨v, r, rfl, h1, h2⟩ := h
    exact ⟨v, _, rfl, h1, RepSs.take n h2⟩
theorem RepSs.drop : ∀ {ds : List D} {vs : List V} (n : Nat), RepSs K ρ Z H ds vs → RepSs K ρ Z H (ds.drop n) (vs.drop n)
  | [], _, n, h => by cases (show _ = [] from h); simp [RepSs]
  | d :: ds, _, 0, h => by simpa using h
  | d :: ds, _, n + 1, h => by
    obtain ⟨v, r, rfl, h1, h2⟩ := h
    simpa using RepSs.drop n h2
theorem RepSs.set : ∀ {ds : List D} {vs : List V} (i : Nat) {d : D} {v : V}, RepSs K ρ Z H ds vs → RepS K ρ Z H d v → RepSs K ρ Z H (ds.set i d) (vs.set i v)
  | [], _, n, _, _, h, _ => by cases (show _ = [] from h); simp [RepSs]
  | d :: ds, _, 0, _, _, h, k => by
    obtain ⟨v, r, rfl, h1, h2⟩ := h
    exact ⟨_, _, rfl, k, h2⟩
  | d :: ds, _, n + 1, _, _, h, k => by
    obtain ⟨v, r, rfl, h1, h2⟩ := h
    exact ⟨_, _, rfl, h1, RepSs.set n h2 k⟩
theorem RepSs.erase : ∀ {ds : List D} {vs : List V} (i : Nat), RepSs K ρ Z H ds vs → RepSs K ρ Z H (ds.eraseIdx i) (vs.eraseIdx i)
  | [], _, n, h => by cases (show _ = [] from h); simp [RepSs]
  | d :: ds, _, 0, h => by
    obtain ⟨v, r, rfl, h1, h2⟩ := h
    simpa using h2
  | d :: ds, _, n + 1, h => by
    obtain ⟨v, r, rfl, h1, h2⟩ := h
    exact ⟨_, _, rfl, h1, RepSs.erase n h2⟩
theorem RepSs.dropLast {ds : List D} {vs : List V} (h : RepSs K ρ Z H ds vs) : RepSs K ρ Z H ds.dropLast vs.dropLast := by
  rw [List.dropLast_eq_take, List.dropLast_eq_take, h.length]
  exact h.take _
theorem RepSs.one {d : D} {v : V} (h : RepS K ρ Z H d v) : RepSs K ρ Z H [d] [v] := ⟨v, [], rfl, h, rfl⟩
theorem RepSs.cons {d : D} {v : V} {ds : List D} {vs : List V} (h : RepS K ρ Z H d v) (k : RepSs K ρ Z H ds vs) : RepSs K ρ Z H (d :: ds) (v :: vs) := ⟨v, vs, rfl, h, k⟩
theorem RepS.rep {d : D} {v : V} (h : RepS K ρ Z H d v) : Rep K ρ Z H d v := by
  cases d <;> first | exact h | exact h.elim
/-- lists of either kind are read -/
theorem Rep.rd {d : D} {v : V} {ds : List D} (h : Rep K ρ Z H d v) (e : d.lst? = some ds) : ∃ a vs, v = .ref a ∧ (Rd H a (.lst vs) ∨ KL K a vs) ∧ RepSs K ρ Z H ds vs := by
  cases d with
  | own xs =>
    simp only [D.lst?, Option.some.injEq] at e
    subst e
    obtain ⟨a, vs, e, q, r⟩ := h
    exact ⟨a, vs, e, .inl (.inl q), r⟩
  | frz xs =>
    simp only [D.lst?, Option.some.injEq] at e
    subst e
    obtain ⟨a, vs, e, q, r⟩ := (show RepS K ρ Z H (.frz xs) v from h)
    rcases q with ⟨_, q⟩ | ⟨o, q⟩ | q
    · exact ⟨a, vs, e, .inl (.inl q), r⟩
    · exact ⟨a, vs, e, .inl (.inr ⟨o, q⟩), r⟩
    · exact ⟨a, vs, e, .inr q, r⟩
  | _ => cases e
theorem Rep.sql {d : D} {v : V} {ds : List D} (h : Rep K ρ Z H d v) (e : d.lst? = some ds) : ∃ a vs, v = .ref a ∧ SqL K H a vs ∧ RepSs K ρ Z H ds vs := by
  obtain ⟨a, vs, h1, h2, h3⟩ := h.rd e
  refine ⟨a, vs, h1, ?_, h3⟩
  rcases h2 with h2 | ⟨its, n, q1, q2, q3⟩
  · exact .inl h2
  · exact .inr ⟨_, its.toArray, n, q1, rfl, rfl, rfl, by simpa using q2, by simpa using q3⟩
/-- a list or a tuple -/
theorem Rep.seq {d : D} {v : V} {ds : List D} (h : Rep K ρ Z H d v) (e : d.seq? = some ds) : ∃ a vs, v = .ref a ∧ (SqL K H a vs ∨ SqT K H a vs) ∧ RepSs K ρ Z H ds vs := by
  cases d with
  | own xs =>
    obtain ⟨a, vs, h1, h2, h3⟩ := h.sql (ds := ds) e
    exact ⟨a, vs, h1, .inl h2, h3⟩
  | frz xs =>
    obtain ⟨a, vs, h1, h2, h3⟩ := h.sql (ds := ds) e
    exact ⟨a, vs, h1, .inl h2, h3⟩
  | tup xs =>
    simp only [D.seq?, Option.some.injEq] at e
    subst e
    obtain ⟨a, vs, h1, h2, h3⟩ := (show RepS K ρ Z H (.tup xs) v from h)
    exact ⟨a, vs, h1, .inr h2, h3⟩
  | _ => cases e
theorem Rep.sqt {v : V} {ds : List D} (h : Rep K ρ Z H (.tup ds) v) : ∃ a vs, v = .ref a ∧ SqT K H a vs ∧ RepSs K ρ Z H ds vs := h
end

/-! ### who holds what alone -/
def ownA (p : V × D) (a : Addr) : Nat := match p with
  | (.ref b, .own _) => if a = b then 1 else 0
  | _ => 0
def cF (a : Addr) : List (V × D) → Nat
  | [] => 0
  | p :: ps => ownA p a + cF a ps
theorem cF_append (a : Addr) : ∀ (l m : List (V × D)), cF a (l ++ m) = cF a l + cF a m
  | [], m => by simp [cF]
  | p :: l, m => by simp [cF, cF_append a l m]; omega
theorem cF_mem {a : Addr} {ds : List D} : ∀ {l : List (V × D)}, ((V.ref a, D.own ds) ∈ l) → 1 ≤ cF a l
  | p :: l, h => by
    rcases List.mem_cons.mp h with h | h
    · subst h; simp [cF, ownA]
    · have := cF_mem h; simp [cF]; omega
structure Le (F' F : List (V × D)) : Prop where
  mem : ∀ p ∈ F', p ∈ F
  cnt : ∀ a, cF a F' ≤ cF a F
theorem Le.refl (F : List (V × D)) : Le F F := ⟨fun _ h => h, fun _ => Nat.le_refl _⟩

structure Rel (K : KC) (ρ Z : List Addr) (S : Sto) (F : List (V × D)) (H : Hp) : Prop where
  sl : ρ.length = S.length
  so : ∀ (n : Nat) (o : O) (a : Addr), S[n]? = some o → ρ[n]? = some a → RepO K ρ Z H o a
  fr : ∀ p ∈ F, Rep K ρ Z H p.2 p.1
  ct : ∀ a, ρ.count a + cF a F ≤ 1
  zz : ∀ a ∈ Z, ρ.count a + cF a F = 0 ∧ ∃ vs, H a = some (.lst vs)
  pn : ∀ t x, K.pn t = some x → ∃ kvs, S[t]? = some (.ldic t kvs)
section
variable {K : KC} {ρ ρ' Z Z' : List Addr} {H H' : Hp} {S : Sto} {F F' : List (V × D)}
theorem Rel.le (r : Rel K ρ Z S F H) (l : Le F' F) : Rel K ρ Z S F' H :=
  ⟨r.sl, r.so, fun p h => r.fr p (l.mem p h), fun a => Nat.le_trans (Nat.add_le_add_left (l.cnt a) _) (r.ct a), fun a h => ⟨Nat.le_antisymm (Nat.le_trans (Nat.add_le_add_left (l.cnt a) _) (Nat.le_of_eq (r.zz a h).1)) (Nat.zero_le _), (r.zz a h).2⟩, r.pn⟩
theorem Rel.zne (r : Rel K ρ Z S F H) {p : Addr} (hp : H p = none) : ∀ a ∈ Z, a ≠ p := fun a h => by
  obtain ⟨_, vs, q⟩ := r.zz a h
  exact ne_of_none q hp
theorem Rep.stb (st : Stb K Z H H') (hr : ∀ (n : Nat) (a : Addr), ρ[n]? = some a → ρ'[n]? = some a) (hz : ∀ a ∈ Z, a ∈ Z') {d : D} {v : V} (ho : ∀ a ds, d = .own ds → v = .ref a → H' a = H a) (h : Rep K ρ Z H d v) : Rep K ρ' Z' H' d v := by
  cases d with
  | own ds =>
    obtain ⟨a, vs, e, q, r⟩ := h
    exact ⟨a, vs, e, (ho a ds rfl e).trans q, RepSs.stb st hr hz _ _ r⟩
  | _ => exact RepS.stb st hr hz _ _ (show RepS K ρ Z H _ v from h)
theorem RepO.stb (st : Stb K Z H H') (hr : ∀ (n : Nat) (a : Addr), ρ[n]? = some a → ρ'[n]? = some a) (hz : ∀ a ∈ Z, a ∈ Z') {o : O} {a : Addr} (ho : H' a = H a) (h : RepO K ρ Z H o a) : RepO K ρ' Z' H' o a := by
  cases o with
  | lst ds =>
    obtain ⟨vs, q, r⟩ := h
    exact ⟨vs, ho.trans q, RepSs.stb st hr hz _ _ r⟩
  | dic kvs =>
    obtain ⟨vs, q, r⟩ := h
    exact ⟨vs, ho.trans q, RepSs.stb st hr hz _ _ r⟩
  | xdt fs =>
    obtain ⟨vs, q, r⟩ := h
    exact ⟨vs, ho.trans q, RepSs.stb st hr hz _ _ r⟩
  | exn cls k =>
    obtain ⟨cv, d, q1, q2, q3⟩ := h
    refine ⟨cv, d, q1, ho.trans q2, ?_⟩
    cases k with
    | none => exact q3
    | some n =>
      obtain ⟨da, z1, z2⟩ := q3
      exact ⟨da, hr _ _ z1, z2⟩
  | ins _ _ => exact h
  | ldic t kvs =>
    obtain ⟨ob, vs, q, q2, r⟩ := h
    exact ⟨ob, vs, ho.trans q, q2, RepSs.stb st hr hz _ _ r⟩
theorem RepO.there {o : O} {a : Addr} (h : RepO K ρ Z H o a) : ∃ u, H a = some u := by
  cases o with
  | lst ds =>
    obtain ⟨vs, q, r⟩ := h
    exact ⟨_, q⟩
  | dic kvs =>
    obtain ⟨vs, q, r⟩ := h
    exact ⟨_, q⟩
  | xdt fs =>
    obtain ⟨vs, q, r⟩ := h
    exact ⟨_, q⟩
  | exn cls k =>
    obtain ⟨cv, d, q1, q2, q3⟩ := h
    exact ⟨_, q2⟩
  | ins _ _ => exact h.elim
  | ldic t kvs =>
    obtain ⟨ob, vs, q, q2, r⟩ := h
    exact ⟨_, q⟩
/-- a store with one more object keeps its walked dicts -/
theorem pn_app {S : Sto} (h : ∀ t x, K.pn t = some x → ∃ kvs, S[t]? = some (.ldic t kvs)) (o : O) : ∀ t x, K.pn t = some x → ∃ kvs, (S ++ [o])[t]? = some (.ldic t kvs) := fun t x e => by
  obtain ⟨kvs, q⟩ := h t x e
  exact ⟨kvs, by rw [List.getElem?_append_left (List.getElem?_eq_some_iff.mp q).1]; exact q⟩
theorem count_pos {a : Addr} {n : Nat} (h : ρ[n]? = some a) : 1 ≤ ρ.count a := List.count_pos_iff.mpr (List.mem_of_getElem? h)
/-- a new object beside all -/
theorem Rel.grow (r : Rel K ρ Z S F H) {p : Addr} {o : HO} (hp : H p = none) : Rel K ρ Z S F (upd H p o) := by
  have st : Stb K Z H (upd H p o) := Stb.new hp (r.zne hp)
  refine ⟨r.sl, fun n ob a h1 h2 => ?_, fun q hq => ?_, r.ct, fun a h => ?_, r.pn⟩
  · have x := r.so n ob a h1 h2
    obtain ⟨u, e⟩ := x.there
    exact x.stb st (fun _ _ h => h) (fun _ h => h) (upd_ne (ne_of_none e hp))
  · refine (r.fr q hq).stb st (fun _ _ h => h) (fun _ h => h) fun a ds e1 e2 => ?_
    have x := r.fr q hq
    rw [e1] at x
    obtain ⟨b, vs, e, y, _⟩ := x
    rw [e2] at e; cases e
    exact upd_ne (ne_of_none y hp)
  · obtain ⟨h1, vs, h2⟩ := r.zz a h
    exact ⟨h1, vs, by rw [upd_ne (ne_of_none h2 hp)]; exact h2⟩
/-- a value beside all that nobody holds alone -/
theorem Rel.push (r : Rel K ρ Z S F H) {d : D} {v : V} (h : RepS K ρ Z H d v) : Rel K ρ Z S ((v, d) :: F) H := by
  have e : ∀ a, ownA (v, d) a = 0 := fun a => by
    unfold ownA
    cases v <;> cases d <;> first | rfl | exact h.elim
  refine ⟨r.sl, r.so, fun p hp => ?_, fun a => by simp only [cF, e a]; have := r.ct a; omega, fun a h => by simp only [cF, e a]; have := (r.zz a h).1; exact ⟨by omega, (r.zz a h).2⟩, r.pn⟩
  rcases List.mem_cons.mp hp with hp | hp
  · subst hp; exact h.rep
  · exact r.fr p hp
/-- a new list that this place alone holds -/
theorem Rel.pushOwn (r : Rel K ρ Z S F H) {p : Addr} {ds : List D} {vs : List V} (hp : H p = none) (h : RepSs K ρ Z H ds vs) : Rel K ρ Z S ((.ref p, .own ds) :: F) (upd H p (.lst vs)) := by
  have g := r.grow (o := .lst vs) hp
  have st : Stb K Z H (upd H p (.lst vs)) := Stb.new hp (r.zne hp)
  have c0 : ρ.count p + cF p F = 0 := by
    have h1 : ρ.count p = 0 := by
      rw [List.count_eq_zero]
      intro hm
      obtain ⟨n, hn, e⟩ := List.getElem_of_mem hm
      have e1 : ρ[n]? = some p := by rw [List.getElem?_eq_getElem hn, e]
      have hn2 : n < S.length := by rw [← r.sl]; exact hn
      obtain ⟨u, e2⟩ := (r.so n S[n] p (List.getElem?_eq_getElem hn2) e1).there
      rw [hp] at e2; cases e2
    have h2 : cF p F = 0 := by
      have go : ∀ l : List (V × D), (∀ q ∈ l, Rep K ρ Z H q.2 q.1) → cF p l = 0 := by
        intro l
        induction l with
        | nil => intro _; rfl
        | cons q l ih =>
          intro hl
          have hq := hl q List.mem_cons_self
          have e0 : ownA q p = 0 := by
            obtain ⟨v, d⟩ := q
            unfold ownA
            split
            · rename_i b ds' heq
              cases heq
              obtain ⟨a, vs', e, y, _⟩ := hq
              cases e
              rw [if_neg]
              rintro rfl
              rw [hp] at y; cases y
            · rfl
          simp only [cF, e0, ih fun q hq => hl q (List.mem_cons_of_mem _ hq)]
      exact go F r.fr
    omega
  refine ⟨g.sl, g.so, fun q hq => ?_, fun a => ?_, fun a h => ?_, g.pn⟩
  · rcases List.mem_cons.mp hq with hq | hq
    · subst hq
      exact ⟨p, vs, rfl, upd_same, RepSs.stb st (fun _ _ h => h) (fun _ h => h) _ _ h⟩
    · exact g.fr q hq
  · have := g.ct a
    simp only [cF, ownA]
    split
    · rename_i e; subst e; omega
    · omega
  · have h1 := (g.zz a h)
    have : a ≠ p := r.zne hp a h
    simp only [cF, ownA, if_neg this]
    exact ⟨by omega, h1.2⟩
end
def V.int? : V → Option Int
  | .int i => some i
  | _ => none
theorem allI_D : ∀ {ds : List D} {ns : List Int}, allI D.int? ds = some ns → ds = ns.map D.int
  | [], ns, h => by cases h; rfl
  | d :: ds, ns, h => by
    unfold allI at h
    split at h
    · rename_i i l h1 h2
      cases h
      cases d <;> simp only [D.int?] at h1 <;> first | (cases h1; done) | skip
      cases h1
      rw [List.map_cons, ← allI_D h2]
    · cases h
theorem allI_V : ∀ ns : List Int, allI V.int? (ns.map V.int) = some ns
  | [] => rfl
  | n :: ns => by
    simp only [List.map_cons, allI, V.int?, allI_V ns]
theorem allI_VV : ∀ {vs : List V} {ns : List Int}, allI V.int? vs = some ns → vs = ns.map V.int
  | [], ns, h => by cases h; rfl
  | d :: ds, ns, h => by
    unfold allI at h
    split at h
    · rename_i i l h1 h2
      cases h
      cases d <;> simp only [V.int?] at h1 <;> first | (cases h1; done) | skip
      cases h1
      rw [List.map_cons, ← allI_VV h2]
    · cases h
theorem RepSs.reverse {K : KC} {ρ Z : List Addr} {H : Hp} : ∀ {ds : List D} {vs : List V}, RepSs K ρ Z H ds vs → RepSs K ρ Z H ds.reverse vs.reverse
  | [], vs, h => by
    cases (show vs = [] from h)
    rfl
  | d :: ds, vs, h => by
    obtain ⟨v, r, rfl, h1, h2⟩ := h
    rw [List.reverse_cons, List.reverse_cons]
    exact (RepSs.reverse h2).append (.one h1)
theorem ints_rep {K : KC} {ρ Z : List Addr} {H : Hp} : ∀ {ns : List Int} {vs : List V}, RepSs K ρ Z H (ns.map D.int) vs → vs = ns.map V.int
  | [], vs, h => h
  | n :: ns, vs, h => by
    obtain ⟨v, r, rfl, h1, h2⟩ := h
    cases (show v = _ from h1)
    rw [ints_rep h2]
    rfl
end Mi
end
section
set_option Elab.async false
set_option maxRecDepth 100000
set_option linter.all false
namespace Mi
open PySem PySem.Spec PyProof.Rows L2

/-! ### the frame's own names -/
def pairs : L2.St → Env → List (V × D)
  | some v :: σ, some d :: en => (v, d) :: pairs σ en
  | _ :: σ, _ :: en => pairs σ en
  | _, _ => []
structure EnvOk (σ : L2.St) (en : Env) : Prop where
  len : σ.length = en.length
  def_ : ∀ (i : Nat) (d : D), en[i]? = some (some d) → ∃ v, σ[i]? = some (some v)
theorem pairs_get : ∀ {σ : L2.St} {en : Env} {i : Nat} {v : V} {d : D}, σ[i]? = some (some v) → en[i]? = some (some d) → (v, d) ∈ pairs σ en
  | [], _, _, _, _, h, _ => by simp at h
  | _ :: _, [], _, _, _, _, h => by simp at h
  | s :: σ, x :: en, 0, v, d, h, k => by
    simp at h k; subst h; subst k
    exact List.mem_cons_self
  | s :: σ, x :: en, i + 1, v, d, h, k => by
    have ih := pairs_get (σ := σ) (en := en) (i := i) (by simpa using h) (by simpa using k)
    cases s <;> cases x <;> first | exact ih | exact List.mem_cons_of_mem _ ih
/-- a place of the environment is stored: the slots' value too, or as it was -/
theorem pairs_set_mem : ∀ {σ : L2.St} {en : Env} {i : Nat} {v : V} {d : D} {p : V × D}, p ∈ pairs (σ.set i (some v)) (en.set i (some d)) → p = (v, d) ∨ p ∈ pairs σ en
  | [], _, _, _, _, _, h => by simp [pairs] at h
  | _ :: _, [], i, _, _, _, h => by cases i <;> simp [pairs] at h
  | s :: σ, x :: en, 0, v, d, p, h => by
    simp only [List.set_cons_zero, pairs] at h
    rcases List.mem_cons.mp h with h | h
    · exact .inl h
    · refine .inr ?_
      cases s <;> cases x <;> first | exact h | exact List.mem_cons_of_mem _ h
  | s :: σ, x :: en, i + 1, v, d, p, h => by
    simp only [List.set_cons_succ] at h
    cases s <;> cases x <;> simp only [pairs] at h ⊢
    all_goals first
      | exact pairs_set_mem h
      | (rcases List.mem_cons.mp h with h | h
         · exact .inr (by rw [h]; exact List.mem_cons_self)
         · rcases pairs_set_mem h with h | h
           · exact .inl h
           · exact .inr (List.mem_cons_of_mem _ h))
def own2 (a : Addr) : Option V → Option D → Nat
  | some v, some d => ownA (v, d) a
  | _, _ => 0
theorem pairs_cons_cnt (a : Addr) (s : Option V) (x : Option D) (σ : L2.St) (en : Env) : cF a (pairs (s :: σ) (x :: en)) = own2 a s x + cF a (pairs σ en) := by
  cases s <;> cases x <;> simp [pairs, cF, own2]
theorem pairs_set_cnt (a : Addr) : ∀ {σ : L2.St} {en : Env} {i : Nat} {s : Option V} {x : Option D}, i < σ.length → i < en.length →
    cF a (pairs (σ.set i s) (en.set i x)) + own2 a (σ.getD i none) (en.getD i none) = own2 a s x + cF a (pairs σ en)
  | [], _, _, _, _, h, _ => by simp at h
  | _ :: _, [], _, _, _, _, h => by simp at h
  | t :: σ, y :: en, 0, s, x, _, _ => by
    simp only [List.set_cons_zero, pairs_cons_cnt, List.getD_cons_zero]; omega
  | t :: σ, y :: en, i + 1, s, x, h, k => by
    have ih := pairs_set_cnt a (σ := σ) (en := en) (i := i) (s := s) (x := x) (by simpa using h) (by simpa using k)
    simp only [List.set_cons_succ, pairs_cons_cnt, List.getD_cons_succ]; omega
theorem set_self {α : Type} : ∀ {l : List α} {i : Nat} {a : α}, l[i]? = some a → l.set i a = l
  | [], _, _, h => by simp at h
  | x :: l, 0, a, h => by simp at h; subst h; rfl
  | x :: l, i + 1, a, h => by simp only [List.set_cons_succ, set_self (l := l) (i := i) (by simpa using h)]
theorem lt_of_get? {α : Type} {l : List α} {i : Nat} {a : α} (h : l[i]? = some a) : i < l.length := (List.getElem?_eq_some_iff.mp h).1
theorem getD_of {α : Type} {l : List (Option α)} {i : Nat} {a : Option α} (h : l[i]? = some a) : l.getD i none = a := by rw [List.getD_eq_getElem?_getD, h]; rfl
theorem EnvOk.set {σ : L2.St} {en : Env} (k : EnvOk σ en) (i : Nat) (v : V) (x : Option D) : EnvOk (σ.set i (some v)) (en.set i x) := by
  refine ⟨by simp [k.len], fun j d h => ?_⟩
  by_cases e : i = j
  · subst e
    have hi : i < en.length := by have := lt_of_get? h; simpa using this
    exact ⟨v, by rw [List.getElem?_set_self (by rw [k.len]; exact hi)]⟩
  · rw [List.getElem?_set_ne e] at h ⊢
    exact k.def_ j d h
/-- the name's value is told otherwise -/
theorem EnvOk.re {σ : L2.St} {en : Env} (k : EnvOk σ en) {i : Nat} {d0 : D} (h0 : en[i]? = some (some d0)) (x : Option D) : EnvOk σ (en.set i x) := by
  obtain ⟨v, hv⟩ := k.def_ i d0 h0
  have := k.set i v x
  rwa [set_self hv] at this
theorem EnvOk.wipe {σ : L2.St} {en : Env} (k : EnvOk σ en) (i : Nat) : EnvOk σ (en.set i none) := by
  refine ⟨by simp [k.len], fun j d h => ?_⟩
  by_cases e : i = j
  · subst e
    have hi : i < en.length := by have := lt_of_get? h; simpa using this
    rw [List.getElem?_set_self hi] at h; cases h
  · rw [List.getElem?_set_ne e] at h
    exact k.def_ j d h

section
variable {K : KC} {ρ ρ' Z Z' : List Addr} {H H' : Hp} {S : Sto} {F F' : List (V × D)} {σ : L2.St} {en : Env} {i : Nat} {d : D} {v : V}
/-- ⊑ by count and members: the name's pair leaves, another comes -/
theorem le_set (k : EnvOk σ en) (hi : en[i]? = some (some d)) {v' : V} {d' : D} {G : List (V × D)} :
    Le (pairs (σ.set i (some v')) (en.set i (some d')) ++ G) ((v', d') :: (pairs σ en ++ G)) := by
  have hl := lt_of_get? hi
  have hl' : i < σ.length := by rw [k.len]; exact hl
  refine ⟨fun p h => ?_, fun a => ?_⟩
  · rcases List.mem_append.mp h with h | h
    · rcases pairs_set_mem h with h | h
      · rw [h]; exact List.mem_cons_self
      · exact List.mem_cons_of_mem _ (List.mem_append_left _ h)
    · exact List.mem_cons_of_mem _ (List.mem_append_right _ h)
  · have := pairs_set_cnt a (σ := σ) (en := en) (i := i) (s := some v') (x := some d') hl' hl
    simp only [cF_append, cF, own2] at this ⊢
    omega
theorem le_setAny (hl : i < en.length) (hl' : i < σ.length) {v' : V} {d' : D} {G : List (V × D)} :
    Le (pairs (σ.set i (some v')) (en.set i (some d')) ++ G) ((v', d') :: (pairs σ en ++ G)) := by
  refine ⟨fun p h => ?_, fun a => ?_⟩
  · rcases List.mem_append.mp h with h | h
    · rcases pairs_set_mem h with h | h
      · rw [h]; exact List.mem_cons_self
      · exact List.mem_cons_of_mem _ (List.mem_append_left _ h)
    · exact List.mem_cons_of_mem _ (List.mem_append_right _ h)
  · have := pairs_set_cnt a (σ := σ) (en := en) (i := i) (s := some v') (x := some d') hl' hl
    simp only [cF_append, cF, own2] at this ⊢
    omega
theorem pairs_wipe_mem : ∀ {σ : L2.St} {en : Env} {i : Nat} {p : V × D}, p ∈ pairs σ (en.set i none) → p ∈ pairs σ en
  | [], _, _, _, h => by simp [pairs] at h
  | _ :: _, [], i, _, h => by cases i <;> simp [pairs] at h
  | s :: σ, x :: en, 0, p, h => by
    simp only [List.set_cons_zero] at h
    cases s <;> cases x <;> simp only [pairs] at h ⊢ <;> first | exact h | exact List.mem_cons_of_mem _ h
  | s :: σ, x :: en, i + 1, p, h => by
    simp only [List.set_cons_succ] at h
    cases s <;> cases x <;> simp only [pairs] at h ⊢
    all_goals first
      | exact pairs_wipe_mem h
      | (rcases List.mem_cons.mp h with h | h
         · rw [h]; exact List.mem_cons_self
         · exact List.mem_cons_of_mem _ (pairs_wipe_mem h))
theorem pairs_wipe_cnt (a : Addr) : ∀ {σ : L2.St} {en : Env} {i : Nat}, cF a (pairs σ (en.set i none)) ≤ cF a (pairs σ en)
  | [], _, _ => by simp [pairs, cF]
  | _ :: _, [], i => by cases i <;> simp [pairs, cF]
  | s :: σ, x :: en, 0 => by
    simp only [List.set_cons_zero, pairs_cons_cnt]
    cases s <;> cases x <;> simp [own2]
  | s :: σ, x :: en, i + 1 => by
    have := pairs_wipe_cnt a (σ := σ) (en := en) (i := i)
    simp only [List.set_cons_succ, pairs_cons_cnt]; omega
theorem le_wipe {G : List (V × D)} : Le (pairs σ (en.set i none) ++ G) (pairs σ en ++ G) :=
  ⟨fun p h => by
    rcases List.mem_append.mp h with h | h
    · exact List.mem_append_left _ (pairs_wipe_mem h)
    · exact List.mem_append_right _ h, fun a => by simp only [cF_append]; have := pairs_wipe_cnt a (σ := σ) (en := en) (i := i); omega⟩
/-- the name's own value moves away -/
theorem le_move (k : EnvOk σ en) (hi : en[i]? = some (some d)) (hv : σ[i]? = some (some v)) {G : List (V × D)} :
    Le ((v, d) :: (pairs σ (en.set i none) ++ G)) (pairs σ en ++ G) := by
  have hl := lt_of_get? hi
  have hl' : i < σ.length := by rw [k.len]; exact hl
  refine ⟨fun p h => ?_, fun a => ?_⟩
  · rcases List.mem_cons.mp h with h | h
    · rw [h]; exact List.mem_append_left _ (pairs_get hv hi)
    · exact (le_wipe (G := G)).mem p h
  · have := pairs_set_cnt a (σ := σ) (en := en) (i := i) (s := some v) (x := none) hl' hl
    rw [set_self hv, getD_of hv, getD_of hi] at this
    simp only [cF_append, cF, own2] at this ⊢
    omega
theorem le_back (k : EnvOk σ en) (hi : i < en.length) (hv : σ[i]? = some (some v)) {G : List (V × D)} :
    Le (pairs σ (en.set i (some d)) ++ G) ((v, d) :: (pairs σ en ++ G)) := by
  have := le_setAny (σ := σ) (en := en) (i := i) (v' := v) (d' := d) (G := G) hi (by rw [k.len]; exact hi)
  rwa [set_self hv] at this
theorem le_drop {p : V × D} {G : List (V × D)} : Le G (p :: G) := ⟨fun _ h => List.mem_cons_of_mem _ h, fun a => by simp only [cF]; omega⟩
theorem le_swap {p : V × D} {A G : List (V × D)} : Le (A ++ p :: G) (p :: (A ++ G)) := by
  refine ⟨fun q h => ?_, fun a => by simp only [cF_append, cF]; omega⟩
  rcases List.mem_append.mp h with h | h
  · exact List.mem_cons_of_mem _ (List.mem_append_left _ h)
  · rcases List.mem_cons.mp h with h | h
    · rw [h]; exact List.mem_cons_self
    · exact List.mem_cons_of_mem _ (List.mem_append_right _ h)
theorem le_swap' {p : V × D} {A G : List (V × D)} : Le (p :: (A ++ G)) (A ++ p :: G) := by
  refine ⟨fun q h => ?_, fun a => by simp only [cF_append, cF]; omega⟩
  rcases List.mem_cons.mp h with h | h
  · rw [h]; exact List.mem_append_right _ List.mem_cons_self
  · rcases List.mem_append.mp h with h | h
    · exact List.mem_append_left _ h
    · exact List.mem_append_right _ (List.mem_cons_of_mem _ h)
theorem le_mid {A B G : List (V × D)} : Le (A ++ G) (A ++ (B ++ G)) := by
  refine ⟨fun q h => ?_, fun a => by simp only [cF_append]; omega⟩
  rcases List.mem_append.mp h with h | h
  · exact List.mem_append_left _ h
  · exact List.mem_append_right _ (List.mem_append_right _ h)
theorem Le.trans {A B C : List (V × D)} (h : Le A B) (k : Le B C) : Le A C := ⟨fun p q => k.mem p (h.mem p q), fun a => Nat.le_trans (h.cnt a) (k.cnt a)⟩
theorem Le.cons {A B : List (V × D)} (h : Le A B) (p : V × D) : Le (p :: A) (p :: B) := by
  refine ⟨fun q k => ?_, fun a => by simp only [cF]; have := h.cnt a; omega⟩
  rcases List.mem_cons.mp k with k | k
  · rw [k]; exact List.mem_cons_self
  · exact List.mem_cons_of_mem _ (h.mem q k)

/-- a list that one place held is shared from now on -/
theorem Rel.freeze {ds : List D} (r : Rel K ρ Z S ((v, .own ds) :: F) H) : ∃ a, v = .ref a ∧ Rel K ρ (a :: Z) S ((v, .frz ds) :: F) H := by
  obtain ⟨a, vs, e, q, y⟩ := r.fr _ List.mem_cons_self
  replace e : v = .ref a := e
  subst e
  have hz : ∀ b ∈ Z, b ∈ a :: Z := fun b h => List.mem_cons_of_mem _ h
  have c1 := r.ct a
  have e1 : ownA (V.ref a, D.own ds) a = 1 := by simp [ownA]
  have e2 : ∀ b, ownA (V.ref a, D.frz ds) b = 0 := fun b => rfl
  simp only [cF, e1] at c1
  refine ⟨a, rfl, r.sl, fun n o b h1 h2 => (r.so n o b h1 h2).stb Stb.refl (fun _ _ h => h) hz rfl, fun p hp => ?_, fun b => ?_, fun b hb => ?_, r.pn⟩
  · rcases List.mem_cons.mp hp with hp | hp
    · subst hp
      exact ⟨a, vs, rfl, .inl ⟨List.mem_cons_self, q⟩, RepSs.stb Stb.refl (fun _ _ h => h) hz _ _ y⟩
    · exact (r.fr p (List.mem_cons_of_mem _ hp)).stb Stb.refl (fun _ _ h => h) hz fun _ _ _ _ => rfl
  · have := r.ct b
    simp only [cF, e2] at this ⊢
    omega
  · simp only [cF, e2]
    rcases List.mem_cons.mp hb with hb | hb
    · subst hb
      exact ⟨by omega, vs, q⟩
    · have h0 := r.zz b hb
      simp only [cF] at h0
      exact ⟨by omega, h0.2⟩
/-- a list that one place held becomes an object of the store -/
theorem Rel.shelve {ds : List D} (r : Rel K ρ Z S ((v, .own ds) :: F) H) : ∃ a, v = .ref a ∧ Rel K (ρ ++ [a]) Z (S ++ [.lst ds]) ((v, .ref S.length) :: F) H := by
  obtain ⟨a, vs, e, q, y⟩ := r.fr _ List.mem_cons_self
  replace e : v = .ref a := e
  subst e
  have hr : ∀ (n : Nat) (b : Addr), ρ[n]? = some b → (ρ ++ [a])[n]? = some b := fun n b h => by rw [List.getElem?_append_left (lt_of_get? h)]; exact h
  have c1 := r.ct a
  have e1 : ownA (V.ref a, D.own ds) a = 1 := by simp [ownA]
  have e2 : ∀ b, ownA (V.ref a, D.ref S.length) b = 0 := fun b => rfl
  have e3 : ∀ b, ownA (V.ref a, D.own ds) b = if b = a then 1 else 0 := fun b => rfl
  have e4 : ∀ b : Addr, ([a] : List Addr).count b = if b = a then 1 else 0 := fun b => by
    by_cases h : b = a
    · subst h; simp
    · rw [if_neg h, List.count_eq_zero]; simpa using h
  simp only [cF, e1] at c1
  refine ⟨a, rfl, by simp [r.sl], fun n o b h1 h2 => ?_, fun p hp => ?_, fun b => ?_, fun b hb => ?_, pn_app r.pn _⟩
  · by_cases hn : n < S.length
    · rw [List.getElem?_append_left hn] at h1
      rw [List.getElem?_append_left (by rw [r.sl]; exact hn)] at h2
      exact (r.so n o b h1 h2).stb Stb.refl hr (fun _ h => h) rfl
    · have hn2 : n = S.length := by
        have := lt_of_get? h1
        simp only [List.length_append, List.length_singleton] at this
        omega
      subst hn2
      rw [List.getElem?_append_right (Nat.le_refl _)] at h1
      rw [← r.sl, List.getElem?_append_right (Nat.le_refl _)] at h2
      simp at h1 h2
      subst h1; subst h2
      exact ⟨vs, q, RepSs.stb Stb.refl hr (fun _ h => h) _ _ y⟩
  · rcases List.mem_cons.mp hp with hp | hp
    · subst hp
      refine ⟨a, rfl, ?_⟩
      rw [← r.sl, List.getElem?_append_right (Nat.le_refl _)]
      simp
    · exact (r.fr p (List.mem_cons_of_mem _ hp)).stb Stb.refl hr (fun _ h => h) fun _ _ _ _ => rfl
  · have := r.ct b
    simp only [cF, e2, e3, List.count_append, e4] at this ⊢
    omega
  · have h0 := r.zz b hb
    simp only [cF, e2, e3, List.count_append, e4] at h0 ⊢
    exact ⟨by omega, h0.2⟩
/-- the list at a place that holds it alone changes -/
theorem Rel.changeOwn {a : Addr} {ds ds' : List D} {vs' : List V} (r : Rel K ρ Z S ((.ref a, .own ds) :: F) H) (y : RepSs K ρ Z H ds' vs') : Rel K ρ Z S ((.ref a, .own ds') :: F) (upd H a (.lst vs')) := by
  obtain ⟨a', vs, e, q, _⟩ := r.fr _ List.mem_cons_self
  cases e
  have c1 := r.ct a
  have e1 : ∀ ds : List D, ownA (V.ref a, D.own ds) a = 1 := fun ds => by simp [ownA]
  have e3 : ∀ (ds : List D) (b : Addr), ownA (V.ref a, D.own ds) b = if b = a then 1 else 0 := fun ds b => rfl
  simp only [cF, e1] at c1
  have hza : ∀ b ∈ Z, b ≠ a := fun b hb e => by
    subst e
    have := (r.zz b hb).1
    simp only [cF, e1] at this
    omega
  have st : Stb K Z H (upd H a (.lst vs')) := Stb.set q hza
  refine ⟨r.sl, fun n o b h1 h2 => ?_, fun p hp => ?_, fun b => ?_, fun b hb => ?_, r.pn⟩
  · refine (r.so n o b h1 h2).stb st (fun _ _ h => h) (fun _ h => h) (upd_ne ?_)
    rintro rfl
    have := count_pos h2
    omega
  · rcases List.mem_cons.mp hp with hp2 | hp2
    · subst hp2
      exact ⟨a, vs', rfl, upd_same, RepSs.stb st (fun _ _ h => h) (fun _ h => h) _ _ y⟩
    · refine (r.fr p (List.mem_cons_of_mem _ hp2)).stb st (fun _ _ h => h) (fun _ h => h) fun b es e1 e2 => upd_ne ?_
      rintro rfl
      obtain ⟨v, d⟩ := p
      replace e1 : d = _ := e1
      replace e2 : v = _ := e2
      subst e1; subst e2
      have := cF_mem hp2
      omega
  · have := r.ct b
    simp only [cF, e3] at this ⊢
    exact this
  · have h0 := r.zz b hb
    simp only [cF, e3] at h0 ⊢
    refine ⟨h0.1, ?_⟩
    obtain ⟨_, ws, h⟩ := h0
    exact ⟨ws, by rw [upd_ne (hza b hb)]; exact h⟩
/-- an object of the store changes -/
theorem Rel.changeO {a : Addr} {n : Nat} {o0 o : O} {ob0 ob : HO} (r : Rel K ρ Z S F H) (hS : S[n]? = some o0) (hr : ρ[n]? = some a) (q : H a = some ob0) (n1 : ∀ xs, ob0 ≠ .tup xs) (n2 : ∀ x u, ob0 ≠ .frz x u) (y : Stb K Z H (upd H a ob) → RepO K ρ Z (upd H a ob) o a) : Rel K ρ Z (S.set n o) F (upd H a ob) := by
  have c1 := r.ct a
  have c2 := count_pos hr
  have hza : ∀ b ∈ Z, b ≠ a := fun b hb e => by
    subst e
    have := (r.zz b hb).1
    omega
  have st : Stb K Z H (upd H a ob) := Stb.set' q n1 n2 hza
  have inj : ∀ m, ρ[m]? = some a → m = n := fun m hm => by
    have hm2 := lt_of_get? hm
    have hn2 := lt_of_get? hr
    have nd : ρ.Nodup := by
      rw [List.nodup_iff_count]
      intro b
      have := r.ct b
      omega
    exact (List.getElem_inj nd).mp (Option.some.inj (by rw [← List.getElem?_eq_getElem hm2, ← List.getElem?_eq_getElem hn2, hm, hr]))
  have pn' : ∀ t x, K.pn t = some x → ∃ kvs, (S.set n o)[t]? = some (.ldic t kvs) := fun t x e => by
    obtain ⟨kvs, z⟩ := r.pn t x e
    refine ⟨kvs, ?_⟩
    rw [List.getElem?_set_ne]
    · exact z
    · rintro rfl
      obtain ⟨ob', vs, z1, _⟩ := r.so _ _ a z hr
      rw [q] at z1
      exact n2 _ _ (Option.some.inj z1)
  refine ⟨by simp [r.sl], fun m o' b h1 h2 => ?_, fun p hp => ?_, r.ct, fun b hb => ?_, pn'⟩
  · by_cases hm : n = m
    · subst hm
      rw [hr] at h2; cases h2
      rw [List.getElem?_set_self (lt_of_get? hS)] at h1
      cases h1
      exact y st
    · rw [List.getElem?_set_ne hm] at h1
      refine (r.so m o' b h1 h2).stb st (fun _ _ h => h) (fun _ h => h) (upd_ne ?_)
      rintro rfl
      exact hm (inj m h2).symm
  · refine (r.fr p hp).stb st (fun _ _ h => h) (fun _ h => h) fun b es e1 e2 => upd_ne ?_
    rintro rfl
    obtain ⟨v, d⟩ := p
    replace e1 : d = _ := e1
    replace e2 : v = _ := e2
    subst e1; subst e2
    have := cF_mem hp
    omega
  · obtain ⟨h0, ws, h⟩ := r.zz b hb
    exact ⟨h0, ws, by rw [upd_ne (hza b hb)]; exact h⟩
/-- a list of the store changes -/
theorem Rel.changeRef {a : Addr} {n : Nat} {ds ds' : List D} {vs' : List V} (r : Rel K ρ Z S F H) (hS : S[n]? = some (.lst ds)) (hr : ρ[n]? = some a) (y : RepSs K ρ Z H ds' vs') : Rel K ρ Z (S.set n (.lst ds')) F (upd H a (.lst vs')) := by
  obtain ⟨vs, q, _⟩ := r.so n _ a hS hr
  exact r.changeO hS hr q (fun _ h => by cases h) (fun _ _ h => by cases h) fun st => ⟨vs', upd_same, RepSs.stb st (fun _ _ h => h) (fun _ h => h) _ _ y⟩
/-- a dict of the store changes -/
theorem Rel.changeDic {a : Addr} {n : Nat} {kvs kvs' : List (Ky × D)} {vs' : List V} (r : Rel K ρ Z S F H) (hS : S[n]? = some (.dic kvs)) (hr : ρ[n]? = some a) (y : RepSs K ρ Z H (kvs'.map (·.2)) vs') : Rel K ρ Z (S.set n (.dic kvs')) F (upd H a (.dK ((kvs'.map (·.1)).zip vs'))) := by
  obtain ⟨vs, q, _⟩ := r.so n _ a hS hr
  exact r.changeO hS hr q (fun _ h => by cases h) (fun _ _ h => by cases h) fun st => ⟨vs', upd_same, RepSs.stb st (fun _ _ h => h) (fun _ h => h) _ _ y⟩
/-- a new object of the store -/
theorem Rel.newO {p : Addr} {o : O} {ob : HO} (r : Rel K ρ Z S F H) (hp : H p = none) (y : RepO K (ρ ++ [p]) Z (upd H p ob) o p) : Rel K (ρ ++ [p]) Z (S ++ [o]) ((.ref p, .ref S.length) :: F) (upd H p ob) := by
  have g := r.grow (o := ob) hp
  have hr : ∀ (n : Nat) (b : Addr), ρ[n]? = some b → (ρ ++ [p])[n]? = some b := fun n b h => by rw [List.getElem?_append_left (lt_of_get? h)]; exact h
  have e2 : ∀ b, ownA (V.ref p, D.ref S.length) b = 0 := fun b => rfl
  have e4 : ∀ b : Addr, ([p] : List Addr).count b = if b = p then 1 else 0 := fun b => by
    by_cases h : b = p
    · subst h; simp
    · rw [if_neg h, List.count_eq_zero]; simpa using h
  have c0 : ρ.count p + cF p F = 0 := by
    have h1 : ρ.count p = 0 := by
      rw [List.count_eq_zero]
      intro hm
      obtain ⟨n, hn, e⟩ := List.getElem_of_mem hm
      have e1 : ρ[n]? = some p := by rw [List.getElem?_eq_getElem hn, e]
      have hn2 : n < S.length := by rw [← r.sl]; exact hn
      obtain ⟨u, e2⟩ := (r.so n S[n] p (List.getElem?_eq_getElem hn2) e1).there
      rw [hp] at e2; cases e2
    have h2 : cF p F = 0 := by
      have go : ∀ l : List (V × D), (∀ q ∈ l, Rep K ρ Z H q.2 q.1) → cF p l = 0 := by
        intro l
        induction l with
        | nil => intro _; rfl
        | cons q l ih =>
          intro hl
          have hq := hl q List.mem_cons_self
          have e0 : ownA q p = 0 := by
            obtain ⟨v, d⟩ := q
            unfold ownA
            split
            · rename_i b ds' heq
              cases heq
              obtain ⟨a, vs', e, y, _⟩ := hq
              cases e
              rw [if_neg]
              rintro rfl
              rw [hp] at y; cases y
            · rfl
          simp only [cF, e0, ih fun q hq => hl q (List.mem_cons_of_mem _ hq)]
      exact go F r.fr
    omega
  refine ⟨by simp [r.sl], fun n o' b h1 h2 => ?_, fun q hq => ?_, fun b => ?_, fun b hb => ?_, pn_app r.pn _⟩
  · by_cases hn : n < S.length
    · rw [List.getElem?_append_left hn] at h1
      rw [List.getElem?_append_left (by rw [r.sl]; exact hn)] at h2
      exact (g.so n o' b h1 h2).stb Stb.refl hr (fun _ h => h) rfl
    · have hn2 : n = S.length := by
        have := lt_of_get? h1
        simp only [List.length_append, List.length_singleton] at this
        omega
      subst hn2
      rw [List.getElem?_append_right (Nat.le_refl _)] at h1
      rw [← r.sl, List.getElem?_append_right (Nat.le_refl _)] at h2
      simp at h1 h2
      subst h1; subst h2
      exact y
  · rcases List.mem_cons.mp hq with hq | hq
    · subst hq
      refine ⟨p, rfl, ?_⟩
      rw [← r.sl, List.getElem?_append_right (Nat.le_refl _)]
      simp
    · exact (g.fr q hq).stb Stb.refl hr (fun _ h => h) fun _ _ _ _ => rfl
  · have := r.ct b
    simp only [cF, e2, List.count_append, e4]
    split
    · rename_i h; subst h; omega
    · omega
  · have h0 := g.zz b hb
    simp only [cF, e2, List.count_append, e4]
    split
    · rename_i h; subst h
      obtain ⟨_, vs, z⟩ := r.zz b hb
      rw [hp] at z; cases z
    · exact ⟨by omega, h0.2⟩
end

/-! ### what the code does is what the evaluator tells -/
/-- an exception of the evaluator's and one of the code -/
def ExR (mg : Str → Option Value) (K : KC) (ρ Z : List Addr) (H : Hp) (x : Ex) (cls : Value) (dx : Option Addr) : Prop :=
  mg x.cls = some cls ∧ ((x.fs = [] ∧ dx = none) ∨ ∃ d f v u, x.fs = [(f, v)] ∧ dx = some d ∧ d ∉ ρ ∧ H d = some (.xd [(f, u)]) ∧ RepS K ρ Z H v u)
/-- what is wanted where an exception comes, and the module's names -/
structure MW where
  w : WX
  mg : Str → Option Value
/-- what is wanted of an exception -/
def XC (K : KC) (W : MW) (σ : L2.St) (F : List (V × D)) (x : Ex) (en : Env) (S : Sto) : Prop :=
  ∀ (ρ Z : List Addr) (H : Hp) (cls : Value) (dx : Option Addr), EnvOk σ en → Rel K ρ Z S (pairs σ en ++ F) H → ExR W.mg K ρ Z H x cls dx → W.w cls dx σ H
def Post {α : Type} (K : KC) (W : MW) (σ : L2.St) (F : List (V × D)) (good : α → Env → Sto → Prop) : R α → Prop
  | .ok a en S => good a en S
  | .exc x en S => XC K W σ F x en S
  | .stuck => False
structure At (K : KC) (ρ Z : List Addr) (S : Sto) (σ : L2.St) (en : Env) (F : List (V × D)) (H : Hp) : Prop where
  k : EnvOk σ en
  r : Rel K ρ Z S (pairs σ en ++ F) H
def Sim {α : Type} (K : KC) (W : MW) (m : M α) (good : L2.St → List (V × D) → α → Env → Sto → Prop) (σ : L2.St) (H : Hp) : Prop :=
  ∃ (ρ Z : List Addr) (S : Sto) (en : Env) (F : List (V × D)), At K ρ Z S σ en F H ∧ Post K W σ F (good σ F) (m en S)
def simE (K : KC) (W : MW) (m : M D) : TE := fun σ H Q => Sim K W m (fun σ F d en S => ∀ (ρ Z : List Addr) (v : V) (H : Hp), EnvOk σ en → Rel K ρ Z S ((v, d) :: (pairs σ en ++ F)) H → Q v H) σ H
def simT (K : KC) (W : MW) (m : M Bool) : TT := fun σ H Q => Sim K W m (fun σ F b en S => ∀ (ρ Z : List Addr) (H : Hp), EnvOk σ en → Rel K ρ Z S (pairs σ en ++ F) H → Q b H) σ H
/-- borrowed operands -/
def simOs (K : KC) (W : MW) (m : M (List D)) : TA := fun σ H Q => Sim K W m (fun σ F ds en S => ∀ (ρ Z : List Addr) (vs : List V) (H : Hp), EnvOk σ en → Rel K ρ Z S (pairs σ en ++ F) H → Paired (fun d v => Rep K ρ Z H d v) ds vs → Q vs H) σ H
/-- arguments that are handed on -/
def simAs (K : KC) (W : MW) (m : M (List D)) : TA := fun σ H Q => Sim K W m (fun σ F ds en S => ∀ (ρ Z : List Addr) (vs : List V) (H : Hp), EnvOk σ en → vs.length = ds.length → Rel K ρ Z S (vs.zip ds ++ (pairs σ en ++ F)) H → Q vs H) σ H
theorem PE.by {X : Cx} {e : Expr} {t t' : TE} (h : PE X e t) (k : ∀ σ H Q, t' σ H Q → t σ H Q) : PE X e t' := ⟨fun pins s σ H Q I q => h.run pins s σ H Q I (k σ H Q q)⟩
theorem PT.by {X : Cx} {e : Expr} {t t' : TT} (h : PT X e t) (k : ∀ σ H Q, t' σ H Q → t σ H Q) : PT X e t' := ⟨fun pins s σ H Q I q => h.run pins s σ H Q I (k σ H Q q)⟩
theorem PA.by {X : Cx} {e : List Expr} {t t' : TA} (h : PA X e t) (k : ∀ σ H Q, t' σ H Q → t σ H Q) : PA X e t' := ⟨fun pos pins s σ H Q I q => h.run pos pins s σ H Q I (k σ H Q q)⟩

section
variable {K : KC} {W : MW} {i : Nat}
/-- what stands in a name's slot -/
theorem slot_v {σ : L2.St} {en : Env} (k : EnvOk σ en) {d : D} (h : en[i]? = some (some d)) : ∃ v, σ[i]? = some (some v) ∧ (v, d) ∈ pairs σ en := by
  obtain ⟨v, hv⟩ := k.def_ i d h
  exact ⟨v, hv, pairs_get hv h⟩
theorem sim_use : ∀ σ H Q, simE K W (useV i) σ H Q → tVar i σ H Q := fun σ H Q ⟨ρ, Z, S, en, F, ⟨k, r⟩, h⟩ => by
  cases e : en[i]? with
  | none => (simp only [useV, e] at h; exact h.elim)
  | some o =>
    cases o with
    | none => (simp only [useV, e] at h; exact h.elim)
    | some d =>
      obtain ⟨v, hv, hm⟩ := slot_v k e
      refine ⟨v, hv, ?_⟩
      have dflt : (∀ xs, d ≠ .own xs) → Q v H := fun hd => by
        have h' : ∀ (ρ' Z' : List Addr) (v : V) (H' : Hp), EnvOk σ en → Rel K ρ' Z' S ((v, d) :: (pairs σ en ++ F)) H' → Q v H' := by
          cases d with
          | own xs => exact (hd xs rfl).elim
          | _ => simp only [useV, e] at h; exact h
        refine h' ρ Z v H k (r.push ?_)
        have := r.fr _ (List.mem_append_left _ hm)
        cases d with
        | own xs => exact (hd xs rfl).elim
        | _ => exact this
      cases d with
      | own xs =>
        simp only [useV, e] at h
        have r2 := r.le (le_move (G := F) k e hv)
        obtain ⟨a, ea, r3⟩ := r2.freeze
        subst ea
        have rs : RepS K ρ (a :: Z) H (.frz xs) (.ref a) := r3.fr _ List.mem_cons_self
        refine h ρ (a :: Z) _ H (k.re e _) ((r3.le ?_).push rs)
        have := le_back (σ := σ) (en := en.set i none) (i := i) (v := .ref a) (d := .frz xs) (G := F) (k.wipe i) (by simpa using lt_of_get? e) hv
        simpa using this
      | _ => exact dflt (fun xs z => by cases z)
theorem sim_move : ∀ σ H Q, simE K W (moveV i) σ H Q → tVar i σ H Q := fun σ H Q ⟨ρ, Z, S, en, F, ⟨k, r⟩, h⟩ => by
  cases e : en[i]? with
  | none => (simp only [moveV, e] at h; exact h.elim)
  | some o =>
    cases o with
    | none => (simp only [moveV, e] at h; exact h.elim)
    | some d =>
      obtain ⟨v, hv, hm⟩ := slot_v k e
      refine ⟨v, hv, ?_⟩
      simp only [moveV, e] at h
      exact h ρ Z v H (k.re e _) (r.le (le_move k e hv))
theorem sim_ref : ∀ σ H Q, simE K W (refV i) σ H Q → tVar i σ H Q := fun σ H Q ⟨ρ, Z, S, en, F, ⟨k, r⟩, h⟩ => by
  cases e : en[i]? with
  | none => (simp only [refV, e] at h; exact h.elim)
  | some o =>
    cases o with
    | none => (simp only [refV, e] at h; exact h.elim)
    | some d =>
      obtain ⟨v, hv, hm⟩ := slot_v k e
      refine ⟨v, hv, ?_⟩
      have dflt : (∀ xs, d ≠ .own xs) → Q v H := fun hd => by
        have h' : ∀ (ρ' Z' : List Addr) (v : V) (H' : Hp), EnvOk σ en → Rel K ρ' Z' S ((v, d) :: (pairs σ en ++ F)) H' → Q v H' := by
          cases d with
          | own xs => exact (hd xs rfl).elim
          | _ => simp only [refV, e] at h; exact h
        refine h' ρ Z v H k (r.push ?_)
        have := r.fr _ (List.mem_append_left _ hm)
        cases d with
        | own xs => exact (hd xs rfl).elim
        | _ => exact this
      cases d with
      | own xs =>
        simp only [refV, e] at h
        have r2 := r.le (le_move (G := F) k e hv)
        obtain ⟨a, ea, r3⟩ := r2.shelve
        subst ea
        have rs : RepS K (ρ ++ [a]) Z H (.ref S.length) (.ref a) := r3.fr _ List.mem_cons_self
        refine h (ρ ++ [a]) Z _ H (k.re e _) ((r3.le ?_).push rs)
        have := le_back (σ := σ) (en := en.set i none) (i := i) (v := .ref a) (d := .ref S.length) (G := F) (k.wipe i) (by simpa using lt_of_get? e) hv
        simpa using this
      | _ => exact dflt (fun xs z => by cases z)
end
end Mi
end
section
set_option Elab.async false
set_option maxRecDepth 100000
set_option linter.all false
namespace Mi
open PySem PySem.Spec PyProof.Rows L2
variable {pn : Nat → Option (Addr × Obj × HO)}

/-- what comes out of a pure thing: a value that stands already, or a new tuple, a new list -/
inductive Out (K : KC) (ρ Z : List Addr) : Hp → D → V → Hp → Prop where
  | more {H : Hp} {q : Addr} {o : HO} {d : D} {v : V} {H' : Hp} (hq : H q = none) (h : Out K ρ Z (upd H q o) d v H') : Out K ρ Z H d v H'
  | old {H : Hp} {d : D} {v : V} (h : RepS K ρ Z H d v) : Out K ρ Z H d v H
  | tup {H : Hp} {p : Addr} {ds : List D} {vs : List V} (hp : H p = none) (h : RepSs K ρ Z H ds vs) : Out K ρ Z H (.tup ds) (.ref p) (upd H p (.tup vs))
  | lst {H : Hp} {p : Addr} {ds : List D} {vs : List V} (hp : H p = none) (h : RepSs K ρ Z H ds vs) : Out K ρ Z H (.own ds) (.ref p) (upd H p (.lst vs))
theorem Out.rel {K : KC} {ρ Z : List Addr} {S : Sto} {F : List (V × D)} {H H' : Hp} {d : D} {v : V} (o : Out K ρ Z H d v H') (r : Rel K ρ Z S F H) : Rel K ρ Z S ((v, d) :: F) H' := by
  induction o with
  | more hq h ih => exact ih (r.grow hq)
  | old h => exact r.push h
  | @tup H p ds vs hp h => exact (r.grow (o := .tup vs) hp).push ⟨_, vs, rfl, .of upd_same, RepSs.stb (Stb.new hp (r.zne hp)) (fun _ _ h => h) (fun _ h => h) _ _ h⟩
  | lst hp h => exact r.pushOwn hp h
theorem Out.bl {K : KC} {ρ Z : List Addr} {H H' : Hp} {b : Bool} {v : V} (o : Out K ρ Z H (.bl b) v H') : v = .bl b ∧ ∀ {S : Sto} {F : List (V × D)}, Rel K ρ Z S F H → Rel K ρ Z S F H' := by
  generalize hd : D.bl b = d at o
  induction o with
  | more hq h ih => exact ⟨(ih hd).1, fun r => (ih hd).2 (r.grow hq)⟩
  | old h => subst hd; exact ⟨h, fun r => r⟩
  | tup hp h => cases hd
  | lst hp h => cases hd

abbrev Args (K : KC) (ρ Z : List Addr) (H : Hp) (ds : List D) (vs : List V) : Prop := Paired (fun d v => Rep K ρ Z H d v) ds vs
/-- the reading of a pure thing -/
def rP (K : KC) (p : P) (vs : List V) (H : Hp) (Q : VK) : Prop := ∃ (ρ Z : List Addr) (ds : List D) (d : D), primF p ds = some d ∧ Args K ρ Z H ds vs ∧ ∀ v H', Out K ρ Z H d v H' → Q v H'
def rP2 (K : KC) (p : P) : R2 := fun x y H Q => rP K p [x, y] H Q
theorem paired1 {R : D → V → Prop} {ds : List D} {x : V} (h : Paired R ds [x]) : ∃ a, ds = [a] ∧ R a x := by
  cases h with | cons h t => cases t; exact ⟨_, rfl, h⟩
theorem paired2 {R : D → V → Prop} {ds : List D} {x y : V} (h : Paired R ds [x, y]) : ∃ a b, ds = [a, b] ∧ R a x ∧ R b y := by
  cases h with | cons h t => cases t with | cons k t => cases t; exact ⟨_, _, rfl, h, k⟩
theorem big_eq : (sizeLine : Nat) = big := sizeLine_eq
section
variable {K : KC} {ρ Z : List Addr} {H : Hp} {x y : V}
theorem Rep.int {i : Int} (h : Rep K ρ Z H (.int i) x) : x = .int i := h
theorem Rep.str {z : Str} (h : Rep K ρ Z H (.str z) x) : x = .str z := h
theorem Rep.bl {b : Bool} (h : Rep K ρ Z H (.bl b) x) : x = .bl b := h
theorem Rep.non (h : Rep K ρ Z H .non x) : x = .non := h
/-! ### data -/
mutual
theorem RepS.dp : ∀ (d : D) (v : V), d.plain = true → RepS K ρ Z H d v → Dp K H v d.py
  | .non, _, _, h => by cases (show _ = _ from h); exact .non
  | .bl b, _, _, h => by cases (show _ = _ from h); exact .bl b
  | .int i, _, _, h => by cases (show _ = _ from h); exact .int i
  | .str x, _, _, h => by cases (show _ = _ from h); exact .str x
  | .own _, _, _, h => h.elim
  | .ref _, _, p, _ => by cases p
  | .tup ds, _, p, h => by
    obtain ⟨a, vs, rfl, q, r⟩ := h
    exact .tup q (RepSs.dp ds vs p r)
  | .frz ds, _, p, h => by
    obtain ⟨a, vs, rfl, q, r⟩ := h
    refine .lst ?_ (RepSs.dp ds vs p r)
    rcases q with ⟨_, q⟩ | ⟨o, q⟩ | ⟨its, n, q1, q2, q3⟩
    · exact .of q
    · exact .inl (.inr ⟨o, q⟩)
    · exact .inr ⟨_, its.toArray, n, q1, rfl, rfl, rfl, by simpa using q2, by simpa using q3⟩
theorem RepSs.dp : ∀ (ds : List D) (vs : List V), D.plains ds = true → RepSs K ρ Z H ds vs → DpAll K H vs (D.pys ds)
  | [], _, _, h => by cases (show _ = [] from h); exact .nil
  | d :: ds, _, p, h => by
    obtain ⟨v, r, rfl, h1, h2⟩ := h
    have p' : d.plain = true ∧ D.plains ds = true := Bool.and_eq_true_iff.mp p
    exact .cons (RepS.dp d v p'.1 h1) (RepSs.dp ds r p'.2 h2)
end
theorem Rep.dp {d : D} {v : V} (p : d.plain = true) (h : Rep K ρ Z H d v) : Dp K H v d.py := by
  cases d with
  | own ds =>
    obtain ⟨a, vs, rfl, q, r⟩ := h
    exact .lst (.of q) (RepSs.dp ds vs p r)
  | _ => exact RepS.dp (ρ := ρ) (Z := Z) _ _ p h
mutual
theorem plain_py : ∀ d : D, d.plain = true → d.py.plain = true
  | .non, _ => rfl
  | .bl _, _ => rfl
  | .int _, _ => rfl
  | .str _, _ => rfl
  | .ref _, h => nomatch h
  | .tup ds, h => plains_py ds h
  | .frz ds, h => plains_py ds h
  | .own ds, h => plains_py ds h
theorem plains_py : ∀ ds : List D, D.plains ds = true → PyData.plainAll (D.pys ds) = true
  | [], _ => rfl
  | d :: ds, h => by
    have p' : d.plain = true ∧ D.plains ds = true := Bool.and_eq_true_iff.mp h
    simp only [D.pys, PyData.plainAll, plain_py d p'.1, plains_py ds p'.2, Bool.and_self]
end
end

section
variable {X : Cx}
theorem list_at {pins : List (Addr × Obj)} {σ : L2.St} {H : Hp} {s : Shared} {a : Addr} {vs : List V} (I : Inv X pins σ H s) (h : Rd H a (.lst vs) ∨ KL (KX X pn) a vs) : vs.length ≤ sizeLine ∧ ∃ (its : List Value) (n : Nat), Vals vs its ∧ IsL s.heap a its.toArray n := by
  rcases h with h | ⟨its, n, q1, q2, q3⟩
  · obtain ⟨hz, its, n, rv, e1⟩ := h.ok I.hok
    exact ⟨hz, its, n, rv, e1⟩
  · exact ⟨by rw [q3.length]; exact q2, its, n, q3, I.kIn a _ q1⟩
theorem op_add_P : OpR X (binaryOp .Add) (rP2 (KX X pn) .add) := by
  intro pins s σ H x y v u Q I rx ry h
  obtain ⟨ρ, Z, ds, d, e, ar, hQ⟩ := h
  obtain ⟨a, b, rfl, ha, hb⟩ := paired2 ar
  have e' : pAdd a b = some d := e
  have cat : ∀ xs ys, a.lst? = some xs → b.lst? = some ys → xs.length + ys.length ≤ big → d = .own (xs ++ ys) → wpAny (model X.prog X.w) X.A (binaryOp .Add v u) (EP X pins σ Q) X.xe s := by
    intro xs ys h1 h2 h3 hd
    subst hd
    obtain ⟨l, vs, rfl, q1, r1⟩ := ha.rd h1
    obtain ⟨m, ws, rfl, q2, r2⟩ := hb.rd h2
    cases rx; cases ry
    obtain ⟨hz, its, n, rv, e1⟩ := list_at I q1
    obtain ⟨hz2, its2, n2, rv2, e2⟩ := list_at I q2
    have l1 := rv.length
    have l2 := rv2.length
    have l3 := r1.length
    have l4 := r2.length
    have hbig := big_eq
    refine PySem.P.add_list e1 e2 ?_ (by rw [List.size_toArray, List.size_toArray]; omega)
    have ea : its.toArray ++ its2.toArray = (its ++ its2).toArray := by simp
    rw [ea]
    exact ⟨.ref _, _, I.lnew (t' := s.toks) (rv.append rv2) (by rw [List.length_append]; omega), rfl, hQ _ _ (.lst I.fresh (r1.append r2))⟩
  cases a with
  | int i =>
    cases b with
    | int j =>
      simp only [pAdd, Option.some.injEq] at e'
      subst e'
      exact op_add pins s σ H x y v u Q I rx ry ⟨i, j, ha, hb, hQ _ _ (.old rfl)⟩
    | _ => simp [pAdd, D.lst?] at e'
  | str i =>
    cases b with
    | str j =>
      simp only [pAdd] at e'
      split at e'
      · rename_i hl
        cases e'
        exact op_add_str pins s σ H x y v u Q I rx ry ⟨i, j, ha, hb, by rw [big_eq]; exact hl, hQ _ _ (.old rfl)⟩
      · cases e'
    | _ => simp [pAdd, D.lst?] at e'
  | tup xs =>
    cases b with
    | tup ys =>
      simp only [pAdd] at e'
      split at e'
      · rename_i hl
        cases e'
        obtain ⟨l, vs, rfl, q1, r1⟩ := ha.sqt
        obtain ⟨m, ws, rfl, q2, r2⟩ := hb.sqt
        have l3 := r1.length
        have l4 := r2.length
        refine op_catA pins s σ H _ _ v u Q I rx ry ⟨l, m, vs, ws, rfl, rfl, q1, q2, by rw [big_eq]; omega, fun hn => ?_, fun _ hn => ?_, fun _ _ p hp => ?_⟩
        · refine hQ _ _ (.old ?_)
          subst hn
          have : xs = [] := by cases xs with | nil => rfl | cons => simp at l3
          subst this
          exact ⟨m, ws, rfl, q2, r2⟩
        · refine hQ _ _ (.old ?_)
          subst hn
          have : ys = [] := by cases ys with | nil => rfl | cons => simp at l4
          subst this
          rw [List.append_nil]
          exact ⟨l, vs, rfl, q1, r1⟩
        · exact hQ _ _ (.tup hp (r1.append r2))
      · cases e'
    | _ => simp [pAdd, D.lst?] at e'
  | own xs =>
    cases b <;> simp only [pAdd, D.lst?] at e' <;> first
      | (cases e'; done)
      | (split at e'
         · rename_i hl
           cases e'
           exact cat _ _ rfl rfl hl rfl
         · cases e')
  | frz xs =>
    cases b <;> simp only [pAdd, D.lst?] at e' <;> first
      | (cases e'; done)
      | (split at e'
         · rename_i hl
           cases e'
           exact cat _ _ rfl rfl hl rfl
         · cases e')
  | _ => cases b <;> simp [pAdd, D.lst?] at e'
end
end Mi
end
section
set_option Elab.async false
set_option maxRecDepth 100000
set_option linter.all false
namespace Mi
open PySem PySem.Spec PyProof.Rows L2
variable {pn : Nat → Option (Addr × Obj × HO)}
section
variable {X : Cx}
/-- two ints -/
theorem op_ii {f : Value → Value → Sem Value} {p : P} (h : ∀ (pins : List (Addr × Obj)) (s : Shared) (σ : L2.St) (H : Hp) (v u : Value) (Q : VK) (i j : Int) (d : D), Inv X pins σ H s → RelV (.int i) v → RelV (.int j) u → primF p [.int i, .int j] = some d →
      (∀ (z : V), (∀ K ρ Z, RepS K ρ Z H d z) → Q z H) → wpAny (model X.prog X.w) X.A (f v u) (EP X pins σ Q) X.xe s)
    (k : ∀ a b d, primF p [a, b] = some d → ∃ i j, a = .int i ∧ b = .int j) : OpR X f (rP2 (KX X pn) p) := by
  intro pins s σ H x y v u Q I rx ry hh
  obtain ⟨ρ, Z, ds, d, e, ar, hQ⟩ := hh
  obtain ⟨a, b, rfl, ha, hb⟩ := paired2 ar
  obtain ⟨i, j, rfl, rfl⟩ := k a b d e
  cases ha.int
  cases hb.int
  exact h pins s σ H v u Q i j d I rx ry e fun z hz => hQ z H (.old (hz _ _ _))
theorem op_sub_P : OpR X (binaryOp .Sub) (rP2 (KX X pn) .sub) := by
  refine op_ii (fun pins s σ H v u Q i j d I rx ry e hz => ?_) (fun a b d e => ?_)
  · simp only [primF, Option.some.injEq] at e
    subst e
    exact op_sub pins s σ H _ _ v u Q I rx ry ⟨i, j, rfl, rfl, hz _ fun _ _ _ => rfl⟩
  · unfold primF at e; split at e <;> simp_all
theorem rep_flat {K : KC} {ρ Z : List Addr} {H : Hp} {xs : List D} {vs : List V} (h : RepSs K ρ Z H xs vs) : ∀ n : Nat, RepSs K ρ Z H (List.replicate n xs).flatten (List.replicate n vs).flatten
  | 0 => rfl
  | n + 1 => by
    rw [List.replicate_succ, List.replicate_succ, List.flatten_cons, List.flatten_cons]
    exact h.append (rep_flat h n)
theorem op_mul_P : OpR X (binaryOp .Mult) (rP2 (KX X pn) .mul) := by
  intro pins s σ H x y v u Q I rx ry h
  obtain ⟨ρ, Z, ds, d, e, ar, hQ⟩ := h
  obtain ⟨a, b, rfl, ha, hb⟩ := paired2 ar
  have e' : pMul a b = some d := e
  cases a with
  | int i =>
    cases b with
    | int j =>
      simp only [pMul] at e'
      split at e'
      · cases e'
        cases ha.int
        cases hb.int
        exact op_mulW pins s σ H _ _ v u Q I rx ry ⟨i, j, rfl, rfl, by assumption, hQ _ _ (.old rfl)⟩
      · cases e'
    | _ => simp [pMul] at e'
  | tup xs =>
    cases b with
    | int k =>
      simp only [pMul] at e'
      split at e'
      · rename_i hc
        cases e'
        obtain ⟨h1, h2, h3, h4⟩ := hc
        cases hb.int
        obtain ⟨l, vs, rfl, q1, r1⟩ := ha.sqt
        have hl := r1.length
        refine op_repT pins s σ H _ _ v u Q I rx ry ⟨l, k, vs, rfl, rfl, q1, ?_, h2, h3, by omega, fun p hp => hQ _ _ (.tup hp (rep_flat r1 _))⟩
        intro z
        subst z
        exact h1 (List.eq_nil_of_length_eq_zero (by simpa using hl.symm))
      · cases e'
    | _ => simp [pMul] at e'
  | _ => simp [pMul] at e'
theorem op_mod_P : OpR X (binaryOp .Mod) (rP2 (KX X pn) .mod) := by
  refine op_ii (fun pins s σ H v u Q i j d I rx ry e hz => ?_) (fun a b d e => ?_)
  · simp only [primF, pMod] at e
    split at e
    · cases e
      exact op_modN pins s σ H _ _ v u Q I rx ry ⟨i, j, rfl, rfl, by assumption, hz _ fun _ _ _ => rfl⟩
    · cases e
  · simp only [primF] at e; cases a <;> cases b <;> simp [pMod] at e <;> exact ⟨_, _, rfl, rfl⟩
theorem op_fdiv_P : OpR X (binaryOp .FloorDiv) (rP2 (KX X pn) .fdiv) := by
  refine op_ii (fun pins s σ H v u Q i j d I rx ry e hz => ?_) (fun a b d e => ?_)
  · simp only [primF, pFdiv] at e
    split at e
    · cases e
      exact op_fdivN pins s σ H _ _ v u Q I rx ry ⟨i, j, rfl, rfl, by assumption, hz _ fun _ _ _ => rfl⟩
    · cases e
  · simp only [primF] at e; cases a <;> cases b <;> simp [pFdiv] at e <;> exact ⟨_, _, rfl, rfl⟩
theorem op_pow_P : OpR X (binaryOp .Pow) (rP2 (KX X pn) .pow) := by
  refine op_ii (fun pins s σ H v u Q i j d I rx ry e hz => ?_) (fun a b d e => ?_)
  · simp only [primF, pPow] at e
    split at e
    · rename_i hc
      cases e
      obtain ⟨t, rfl⟩ := rx
      obtain ⟨t', rfl⟩ := ry
      exact pow_int hc.1 (by have := hc.2; omega) ⟨.int _, H, I.tok _, ⟨_, rfl⟩, hz _ fun _ _ _ => rfl⟩
    · cases e
  · simp only [primF] at e; cases a <;> cases b <;> simp [pPow] at e <;> exact ⟨_, _, rfl, rfl⟩
/-! ### == and != -/
theorem op_eq_P (hu : X.A.units + 64 < cLine) : OpR X (compareOp .Eq) (rP2 (KX X pn) .eq) := by
  intro pins s σ H x y v u Q I rx ry h
  obtain ⟨ρ, Z, ds, d, e, ar, hQ⟩ := h
  obtain ⟨a, b, rfl, ha, hb⟩ := paired2 ar
  simp only [primF, pEq] at e
  split at e
  · rename_i hc
    cases e
    simp only [cmpOk, Bool.and_eq_true, decide_eq_true_eq] at hc
    obtain ⟨⟨pa, pb⟩, hd⟩ := hc
    obtain ⟨as, r1⟩ := Dp.reads I _ _ _ (ha.dp pa) rx
    obtain ⟨bs, r2⟩ := Dp.reads I _ _ _ (hb.dp pb) ry
    refine SeqAt.eq_plain r1 r2 (plain_py _ pa) (plain_py _ pb) (by omega) ⟨.bl (D.eqv a b), H, I, rfl, ?_⟩
    have := hQ (.bl (D.eqv a b != false)) H (.old rfl)
    rwa [Bool.bne_false] at this
  · cases e
theorem op_ne_P (hu : X.A.units + 64 < cLine) : OpR X (compareOp .NotEq) (rP2 (KX X pn) .ne) := by
  intro pins s σ H x y v u Q I rx ry h
  obtain ⟨ρ, Z, ds, d, e, ar, hQ⟩ := h
  obtain ⟨a, b, rfl, ha, hb⟩ := paired2 ar
  simp only [primF, pEq] at e
  split at e
  · rename_i hc
    cases e
    simp only [cmpOk, Bool.and_eq_true, decide_eq_true_eq] at hc
    obtain ⟨⟨pa, pb⟩, hd⟩ := hc
    obtain ⟨as, r1⟩ := Dp.reads I _ _ _ (ha.dp pa) rx
    obtain ⟨bs, r2⟩ := Dp.reads I _ _ _ (hb.dp pb) ry
    refine SeqAt.ne_plain r1 r2 (plain_py _ pa) (plain_py _ pb) (by omega) ⟨.bl (!D.eqv a b), H, I, rfl, ?_⟩
    have := hQ (.bl (D.eqv a b != true)) H (.old rfl)
    rwa [Bool.bne_true] at this
  · cases e
/-! ### the order of ints and texts -/
theorem op_cmp {f : Value → Value → Sem Value} {p : P} {fi : Int → Int → Bool} {fs : List Nat → List Nat → Bool} (hp : ∀ a b, primF p [a, b] = pCmp fi fs a b)
    (h1 : OpR X f (rI0 fun i j => .bl (fi i j))) (h2 : OpR X f (fun x y H Q => ∃ i j, x = .str i ∧ y = .str j ∧ Q (.bl (fs i.cps.toList j.cps.toList)) H)) : OpR X f (rP2 (KX X pn) p) := by
  intro pins s σ H x y v u Q I rx ry h
  obtain ⟨ρ, Z, ds, d, e, ar, hQ⟩ := h
  obtain ⟨a, b, rfl, ha, hb⟩ := paired2 ar
  rw [hp] at e
  cases a with
  | int i =>
    cases b <;> simp only [pCmp, Option.some.injEq] at e <;> first | (cases e; done) | skip
    subst e
    exact h1 pins s σ H x y v u Q I rx ry ⟨_, _, ha, hb, hQ _ _ (.old rfl)⟩
  | str i =>
    cases b <;> simp only [pCmp, Option.some.injEq] at e <;> first | (cases e; done) | skip
    subst e
    exact h2 pins s σ H x y v u Q I rx ry ⟨_, _, ha, hb, hQ _ _ (.old rfl)⟩
  | _ => cases b <;> simp [pCmp] at e
theorem op_lt_P : OpR X (compareOp .Lt) (rP2 (KX X pn) .lt) := op_cmp (fi := fun i j => decide (i < j)) (fs := fun i j => decide (i < j)) (fun _ _ => rfl) op_lt op_lt_str
theorem op_le_P : OpR X (compareOp .LtE) (rP2 (KX X pn) .le) := op_cmp (fi := fun i j => decide (i ≤ j)) (fs := fun i j => !decide (j < i)) (fun _ _ => rfl) op_le op_le_str
theorem op_gt_P : OpR X (compareOp .Gt) (rP2 (KX X pn) .gt) := op_cmp (fi := fun i j => decide (j < i)) (fs := fun i j => decide (j < i)) (fun _ _ => rfl) op_gt op_gt_str
theorem op_ge_P : OpR X (compareOp .GtE) (rP2 (KX X pn) .ge) := op_cmp (fi := fun i j => decide (j ≤ i)) (fs := fun i j => !decide (i < j)) (fun _ _ => rfl) op_ge op_ge_str
/-! ### in, not in -/
theorem pys_any (x : D) : ∀ ds : List D, (D.pys ds).any (fun z => PyData.eqv z x.py) = ds.any fun z => D.eqv z x
  | [] => rfl
  | d :: ds => by simp only [D.pys, List.any_cons, pys_any x ds]; rfl
theorem depthAll_min (m : Nat) (x : PyData) (xs : List PyData) (h : min x.depth x.depth ≤ m) : min (PyData.depthAll xs) x.depth ≤ m := by omega
theorem in_data {n : Bool} {x y : V} {a b : D} {ds : List D} {ρ Z : List Addr} {H : Hp} {pins : List (Addr × Obj)} {s : Shared} {σ : L2.St} {v u : Value} {Q : VK} (hu : X.A.units + 64 < cLine) (I : Inv X pins σ H s) (rx : RelV x v) (ry : RelV y u)
    (ha : Rep (KX X pn) ρ Z H a x) (hb : Rep (KX X pn) ρ Z H b y) (hs : b.seq? = some ds) (hc : (cmpOk a a && D.plains ds) = true) (q : Q (.bl ((ds.any fun z => D.eqv z a) != n)) H) :
    wpAny (model X.prog X.w) X.A (compareOp (if n then .NotIn else .In) v u) (EP X pins σ Q) X.xe s := by
  simp only [cmpOk, Bool.and_eq_true, decide_eq_true_eq] at hc
  obtain ⟨⟨⟨pa, _⟩, hd⟩, pb⟩ := hc
  obtain ⟨as, r1⟩ := Dp.reads I _ _ _ (ha.dp pa) rx
  have hdep : X.A.units + 1 + min (PyData.depthAll (D.pys ds)) a.py.depth < cLine := by
    have := depthAll_min 60 a.py (D.pys ds) hd
    omega
  have pp := plains_py ds pb
  have e1 := pys_any a ds
  cases b with
  | own xs =>
    simp only [D.seq?, Option.some.injEq] at hs
    subst hs
    obtain ⟨bs, r2⟩ := Dp.reads I _ _ _ (hb.dp (d := .own xs) pb) ry
    cases n with
    | false => exact SeqAt.in_list_data r2 r1 pp (plain_py _ pa) hdep ⟨.bl _, H, I, rfl, by rw [e1]; simpa using q⟩
    | true => exact SeqAt.notIn_list_data r2 r1 pp (plain_py _ pa) hdep ⟨.bl _, H, I, rfl, by rw [e1]; simpa using q⟩
  | frz xs =>
    simp only [D.seq?, Option.some.injEq] at hs
    subst hs
    obtain ⟨bs, r2⟩ := Dp.reads I _ _ _ (hb.dp (d := .frz xs) pb) ry
    cases n with
    | false => exact SeqAt.in_list_data r2 r1 pp (plain_py _ pa) hdep ⟨.bl _, H, I, rfl, by rw [e1]; simpa using q⟩
    | true => exact SeqAt.notIn_list_data r2 r1 pp (plain_py _ pa) hdep ⟨.bl _, H, I, rfl, by rw [e1]; simpa using q⟩
  | tup xs =>
    simp only [D.seq?, Option.some.injEq] at hs
    subst hs
    obtain ⟨bs, r2⟩ := Dp.reads I _ _ _ (hb.dp (d := .tup xs) pb) ry
    cases n with
    | false => exact SeqAt.in_tuple_data r2 r1 pp (plain_py _ pa) hdep ⟨.bl _, H, I, rfl, by rw [e1]; simpa using q⟩
    | true => exact SeqAt.notIn_tuple_data r2 r1 pp (plain_py _ pa) hdep ⟨.bl _, H, I, rfl, by rw [e1]; simpa using q⟩
  | _ => cases hs
theorem op_in_P (hu : X.A.units + 64 < cLine) : OpR X (compareOp .In) (rP2 (KX X pn) .in_) := by
  intro pins s σ H x y v u Q I rx ry h
  obtain ⟨ρ, Z, ds, d, e, ar, hQ⟩ := h
  obtain ⟨a, b, rfl, ha, hb⟩ := paired2 ar
  simp only [primF] at e
  have dat : ∀ ds, b.seq? = some ds → pIn false a b = (if cmpOk a a && D.plains ds then some (.bl ((ds.any fun z => D.eqv z a) != false)) else none) → wpAny (model X.prog X.w) X.A (compareOp .In v u) (EP X pins σ Q) X.xe s := by
    intro ds hs hp
    rw [hp] at e
    split at e
    · rename_i hc
      cases e
      exact in_data (n := false) hu I rx ry ha hb hs hc (hQ _ _ (.old rfl))
    · cases e
  cases b with
  | str z =>
    cases a <;> simp only [pIn, Option.some.injEq] at e <;> first | (cases e; done) | skip
    subst e
    exact op_in_str pins s σ H x y v u Q I rx ry ⟨_, _, ha, hb, by have := hQ _ _ (.old rfl); rwa [Bool.bne_false] at this⟩
  | own xs => exact dat xs rfl rfl
  | frz xs => exact dat xs rfl rfl
  | tup xs => exact dat xs rfl rfl
  | _ => simp [pIn, D.seq?] at e
theorem op_notin_P (hu : X.A.units + 64 < cLine) : OpR X (compareOp .NotIn) (rP2 (KX X pn) .notin) := by
  intro pins s σ H x y v u Q I rx ry h
  obtain ⟨ρ, Z, ds, d, e, ar, hQ⟩ := h
  obtain ⟨a, b, rfl, ha, hb⟩ := paired2 ar
  simp only [primF] at e
  have dat : ∀ ds, b.seq? = some ds → pIn true a b = (if cmpOk a a && D.plains ds then some (.bl ((ds.any fun z => D.eqv z a) != true)) else none) → wpAny (model X.prog X.w) X.A (compareOp .NotIn v u) (EP X pins σ Q) X.xe s := by
    intro ds hs hp
    rw [hp] at e
    split at e
    · rename_i hc
      cases e
      exact in_data (n := true) hu I rx ry ha hb hs hc (hQ _ _ (.old rfl))
    · cases e
  cases b with
  | str z =>
    cases a <;> simp only [pIn, Option.some.injEq] at e <;> first | (cases e; done) | skip
    subst e
    exact op_notin_str pins s σ H x y v u Q I rx ry ⟨_, _, ha, hb, by have := hQ _ _ (.old rfl); rwa [Bool.bne_true] at this⟩
  | own xs => exact dat xs rfl rfl
  | frz xs => exact dat xs rfl rfl
  | tup xs => exact dat xs rfl rfl
  | _ => simp [pIn, D.seq?] at e
/-! ### items -/
theorem atI_rep {K : KC} {ρ Z : List Addr} {H : Hp} {ds : List D} {vs : List V} {i : Int} {d : D} (r : RepSs K ρ Z H ds vs) (e : atI ds i = some d) : ∃ v, atI vs i = some v ∧ RepS K ρ Z H d v := by
  unfold atI at e ⊢
  rw [r.length]
  cases h : ixN ds.length i with
  | none => rw [h] at e; cases e
  | some j =>
    rw [h] at e
    exact r.get e
theorem ix_P : IxR X (rP2 (KX X pn) .idx) := by
  intro value slice pins s σ H x y v u Q I rx ry h hs
  obtain ⟨ρ, Z, ds, d, e, ar, hQ⟩ := h
  obtain ⟨a, b, rfl, ha, hb⟩ := paired2 ar
  simp only [primF] at e
  have dat : ∀ ds, a.seq? = some ds → pIdx a b = (match b with | .int i => atI ds i | _ => none) → wpAny (model X.prog X.w) X.A (subscriptTail value slice v u) (EP X pins σ Q) X.xe s := by
    intro ds hq hp
    rw [hp] at e
    cases b <;> simp only at e <;> first | (cases e; done) | skip
    obtain ⟨p, vs, rfl, q1, r1⟩ := ha.seq hq
    obtain ⟨z, ez, rz⟩ := atI_rep r1 e
    refine ix_seq value slice pins s σ H _ _ v u Q I rx ry ?_ hs
    rcases q1 with q1 | q1
    · exact .inl ⟨p, vs, _, z, rfl, hb, q1, ez, hQ _ _ (.old rz)⟩
    · exact .inr (.inl ⟨p, vs, _, z, rfl, hb, q1, ez, hQ _ _ (.old rz)⟩)
  cases a with
  | str z =>
    cases b <;> simp only [pIdx] at e <;> first | (cases e; done) | skip
    · split at e
      · rename_i i _ hl
        cases hc : atI z.cps.toList i with
        | none => rw [hc] at e; cases e
        | some c =>
          rw [hc] at e
          cases e
          exact ix_seq value slice pins s σ H _ _ v u Q I rx ry (.inr (.inr ⟨z, i, c, ha, hb, by rw [big_eq]; exact hl, hc, hQ _ _ (.old rfl)⟩)) hs
      · cases e
    all_goals (simp [D.seq?] at e)
  | own xs => exact dat xs rfl (by cases b <;> rfl)
  | frz xs => exact dat xs rfl (by cases b <;> rfl)
  | tup xs => exact dat xs rfl (by cases b <;> rfl)
  | _ => cases b <;> simp [pIdx, D.seq?] at e
end
end Mi
end
section
set_option Elab.async false
set_option maxRecDepth 100000
set_option linter.all false
namespace Mi
open PySem PySem.Spec PyProof.Rows L2
variable {pn : Nat → Option (Addr × Obj × HO)}
section
variable {X : Cx}
theorem un_neg_P : UnR X (unaryOp .USub) (fun x H Q => rP (KX X pn) .neg [x] H Q) := by
  intro pins s σ H x v Q I rx h
  obtain ⟨ρ, Z, ds, d, e, ar, hQ⟩ := h
  obtain ⟨a, rfl, ha⟩ := paired1 ar
  cases a <;> simp only [primF, Option.some.injEq] at e <;> first | (cases e; done) | skip
  subst e
  exact un_neg pins s σ H x v Q I rx ⟨_, ha, hQ _ _ (.old rfl)⟩
theorem call_len_P : CallR X (.builtin "len") (rP (KX X pn) .len) := by
  intro pins s σ H xs us Q I r h
  obtain ⟨ρ, Z, ds, d, e, ar, hQ⟩ := h
  have dat : ∀ a ds' v, ds = [a] → xs = [v] → Rep (KX X pn) ρ Z H a v → a.seq? = some ds' → pLen a = some (.int ds'.length) → wpAny (model X.prog X.w) X.A (call (.builtin "len") us) (EP X pins σ Q) X.xe s := by
    intro a ds' v h1 h2 ha hq hp
    subst h1
    simp only [primF] at e
    rw [hp] at e
    cases e
    obtain ⟨p, vs, rfl, q1, r1⟩ := ha.seq hq
    exact call_len_seq pins s σ H xs us Q I r ⟨p, vs, h2, q1, by rw [r1.length]; exact hQ _ _ (.old rfl)⟩
  cases ar with
  | nil => cases e
  | cons ha t =>
    rename_i a v as vs
    cases t with
    | cons => simp [primF] at e
    | nil =>
      cases a with
      | str z =>
        simp only [primF, pLen] at e
        split at e
        · rename_i hl
          cases e
          cases ha.str
          exact call_len_str pins s σ H _ us Q I r ⟨z, rfl, by rw [big_eq]; exact hl, hQ _ _ (.old rfl)⟩
        · cases e
      | own xs => exact dat _ xs _ rfl rfl ha rfl rfl
      | frz xs => exact dat _ xs _ rfl rfl ha rfl rfl
      | tup xs => exact dat _ xs _ rfl rfl ha rfl rfl
      | _ => simp [primF, pLen, D.seq?] at e
theorem chars_rep {K : KC} {ρ Z : List Addr} {H : Hp} : ∀ cs : List Nat, RepSs K ρ Z H (cs.map fun c => D.str ⟨#[c]⟩) (cs.map fun c => V.str ⟨#[c]⟩)
  | [] => rfl
  | c :: cs => ⟨_, _, rfl, rfl, chars_rep cs⟩
theorem chars_vals : ∀ (x : Str) (its : List Value), its.length = x.cps.size → (∀ (j : Nat) (v : Value), its[j]? = some v → ∃ (c : Nat) (u : Tok), x.cps[j]? = some c ∧ v = Value.str ⟨#[c]⟩ u) → Vals (x.cps.toList.map fun c => V.str ⟨#[c]⟩) its := by
  intro x its hl hv
  have go : ∀ (cs : List Nat) (its : List Value), its.length = cs.length → (∀ (j : Nat) (v : Value), its[j]? = some v → ∃ (c : Nat) (u : Tok), cs[j]? = some c ∧ v = Value.str ⟨#[c]⟩ u) → Vals (cs.map fun c => V.str ⟨#[c]⟩) its := by
    intro cs
    induction cs with
    | nil =>
      intro its hl _
      cases its with
      | nil => exact .nil
      | cons => simp at hl
    | cons c cs ih =>
      intro its hl hv
      cases its with
      | nil => simp at hl
      | cons v its =>
        obtain ⟨c', u, h1, rfl⟩ := hv 0 v rfl
        simp at h1
        subst h1
        exact .cons ⟨u, rfl⟩ (ih its (by simpa using hl) fun j v h => by simpa using hv (j + 1) v (by simpa using h))
  exact go _ its (by simpa using hl) fun j v h => by
    obtain ⟨c, u, h1, h2⟩ := hv j v h
    exact ⟨c, u, by simpa using h1, h2⟩
theorem call_list_P (hc : X.calm = true) : CallR X (.type "list") (rP (KX X pn) .list) := by
  intro pins s σ H xs us Q I r h
  obtain ⟨ρ, Z, ds, d, e, ar, hQ⟩ := h
  cases ar with
  | nil => cases e
  | cons ha t =>
    rename_i a v as vs
    cases t with
    | cons => cases a <;> simp [primF] at e
    | nil =>
      replace e : pList a = some d := e
      have sq : ∀ ds', a.seq? = some ds' → pList a = some (.own ds') → wpAny (model X.prog X.w) X.A (call (.type "list") us) (EP X pins σ Q) X.xe s := by
        intro ds' hq hp
        rw [hp] at e
        cases e
        obtain ⟨p, vs, rfl, q1, r1⟩ := ha.seq hq
        exact call_list_of pins s σ H _ us Q I r ⟨p, vs, rfl, q1, fun l hl => hQ _ _ (.lst hl r1)⟩
      cases a with
      | own ds' => exact sq ds' rfl rfl
      | frz ds' => exact sq ds' rfl rfl
      | tup ds' => exact sq ds' rfl rfl
      | str x =>
        simp only [pList] at e
        split at e
        · rename_i hz
          cases e
          cases ha.str
          obtain ⟨u, rfl, ru⟩ := r.one
          obtain ⟨t, rfl⟩ := ru
          refine call_list_str (I.ok.hd hc) x t (hn := by rw [big_eq]; exact hz) fun h' tk acc' c' hk hS' hacc => ?_
          have rv : Vals (x.cps.toList.map fun c => V.str ⟨#[c]⟩) acc'.toList := chars_vals x acc'.toList (by simpa using hacc.1) fun j v hv => by
            obtain ⟨c, u, h1, h2⟩ := hacc.2 j v (by simpa using hv)
            exact ⟨c, u, h1, h2⟩
          have new : ObjOk X.prog X.w (upd H s.heap.objs.size (.lst (x.cps.toList.map fun c => V.str ⟨#[c]⟩))) h' s.heap.objs.size (.lst (x.cps.toList.map fun c => V.str ⟨#[c]⟩)) :=
            ⟨by have hbe := big_eq; simp; omega, acc'.toList, c', rv, by simpa using hS'⟩
          refine ⟨.ref s.heap.objs.size, upd H s.heap.objs.size (.lst (x.cps.toList.map fun c => V.str ⟨#[c]⟩)), I.laid (t' := tk) hk (Nat.le_refl _) new, rfl, hQ _ _ (.lst I.fresh (chars_rep _))⟩
        · cases e
      | _ => cases e
theorem call_tuple_P : CallR X (.type "tuple") (rP (KX X pn) .tuple) := by
  intro pins s σ H xs us Q I r h
  obtain ⟨ρ, Z, ds, d, e, ar, hQ⟩ := h
  cases ar with
  | nil => cases e
  | cons ha t =>
    rename_i a v as vs
    cases t with
    | cons => simp [primF] at e
    | nil =>
      simp only [primF] at e
      cases hq : a.seq? with
      | none => rw [hq] at e; cases e
      | some ds' =>
        rw [hq] at e
        cases e
        obtain ⟨p, vs, rfl, q1, r1⟩ := ha.seq hq
        refine call_tuple_of pins s σ H _ us Q I r ⟨p, vs, rfl, ?_⟩
        rcases q1 with q1 | q1
        · exact .inl ⟨q1, fun l hl => hQ _ _ (.tup hl r1)⟩
        · exact .inr ⟨q1, hQ _ _ (.old ⟨p, vs, rfl, q1, r1⟩)⟩
theorem args2 {K : KC} {ρ Z : List Addr} {H : Hp} {a b : D} {vs : List V} (h : Args K ρ Z H [a, b] vs) : ∃ x y, vs = [x, y] ∧ Rep K ρ Z H a x ∧ Rep K ρ Z H b y := by
  cases h with | cons h t => cases t with | cons k t => cases t; exact ⟨_, _, rfl, h, k⟩
theorem args1 {K : KC} {ρ Z : List Addr} {H : Hp} {a : D} {vs : List V} (h : Args K ρ Z H [a] vs) : ∃ x, vs = [x] ∧ Rep K ρ Z H a x := by
  cases h with | cons h t => cases t; exact ⟨_, rfl, h⟩
theorem ints_of {K : KC} {ρ Z : List Addr} {H : Hp} {a : D} {v : V} {ds : List D} {ns : List Int} (h : Rep K ρ Z H a v) (hl : a.lst? = some ds) (hn : allI D.int? ds = some ns) : ∃ p, v = .ref p ∧ SqL K.k H p (ns.map V.int) := by
  obtain ⟨p, vs, rfl, q, r⟩ := h.sql hl
  have e := allI_D hn
  subst e
  rw [ints_rep r] at q
  exact ⟨p, rfl, q⟩
theorem call_min1_P (hc : X.calm = true) : CallR X (.builtin "min") (rP (KX X pn) .min1) := by
  intro pins s σ H xs us Q I r h
  obtain ⟨ρ, Z, ds, d, e, ar, hQ⟩ := h
  match ds, e with
  | [a], e =>
    obtain ⟨x, rfl, ha⟩ := args1 ar
    replace e : (a.lst?.bind fun ds => (allI D.int? ds).bind fun ns => ns.min?.map D.int) = some d := e
    cases h1 : a.lst? with
    | none => rw [h1] at e; cases e
    | some l =>
      rw [h1] at e
      simp only [Option.bind_some] at e
      cases h2 : allI D.int? l with
      | none => rw [h2] at e; cases e
      | some ns =>
        rw [h2] at e
        simp only [Option.bind_some] at e
        cases h3 : ns.min? with
        | none => rw [h3] at e; cases e
        | some m =>
          rw [h3] at e
          cases e
          obtain ⟨p, rfl, q⟩ := ints_of ha h1 h2
          obtain ⟨m1, m2⟩ := List.min?_eq_some_iff.mp h3
          refine cr_min hc pins s σ H _ us Q I r ⟨p, ns, rfl, q, List.length_pos_of_mem m1, fun k k1 k2 => ?_⟩
          have e1 : k = m := Int.le_antisymm (k2 m m1) (m2 k k1)
          subst e1
          exact hQ _ _ (.old rfl)
theorem call_max1_P (hc : X.calm = true) : CallR X (.builtin "max") (rP (KX X pn) .max1) := by
  intro pins s σ H xs us Q I r h
  obtain ⟨ρ, Z, ds, d, e, ar, hQ⟩ := h
  match ds, e with
  | [a], e =>
    obtain ⟨x, rfl, ha⟩ := args1 ar
    replace e : (a.lst?.bind fun ds => (allI D.int? ds).bind fun ns => ns.max?.map D.int) = some d := e
    cases h1 : a.lst? with
    | none => rw [h1] at e; cases e
    | some l =>
      rw [h1] at e
      simp only [Option.bind_some] at e
      cases h2 : allI D.int? l with
      | none => rw [h2] at e; cases e
      | some ns =>
        rw [h2] at e
        simp only [Option.bind_some] at e
        cases h3 : ns.max? with
        | none => rw [h3] at e; cases e
        | some m =>
          rw [h3] at e
          cases e
          obtain ⟨p, rfl, q⟩ := ints_of ha h1 h2
          obtain ⟨m1, m2⟩ := List.max?_eq_some_iff.mp h3
          refine cr_max hc pins s σ H _ us Q I r ⟨p, ns, rfl, q, List.length_pos_of_mem m1, fun k k1 k2 => ?_⟩
          have e1 : k = m := Int.le_antisymm (m2 k k1) (k2 m m1)
          subst e1
          exact hQ _ _ (.old rfl)
theorem bls_rep {K : KC} {ρ Z : List Addr} {H : Hp} : ∀ {ds : List D} {vs : List V} {bs : List Bool}, RepSs K ρ Z H ds vs → allB ds = some bs → vs = bs.map V.bl
  | [], _, _, r, h => by cases h; exact r
  | d :: ds, _, bs, ⟨v, vs, rfl, r1, r2⟩, h => by
    unfold allB at h
    split at h
    · rename_i b l h2
      cases h
      rw [bls_rep r2 h2]
      have : v = .bl b := r1
      rw [this]; rfl
    · cases h
theorem call_all1_P (hc : X.calm = true) : CallR X (.builtin "all") (rP (KX X pn) .all1) := by
  intro pins s σ H xs us Q I r h
  obtain ⟨ρ, Z, ds, d, e, ar, hQ⟩ := h
  match ds, e with
  | [a], e =>
    obtain ⟨x, rfl, ha⟩ := args1 ar
    replace e : (a.lst?.bind fun ds => (allB ds).map fun bs => D.bl (bs.all id)) = some d := e
    cases h1 : a.lst? with
    | none => rw [h1] at e; cases e
    | some l =>
      rw [h1] at e
      simp only [Option.bind_some] at e
      cases h2 : allB l with
      | none => rw [h2] at e; cases e
      | some bs =>
        rw [h2] at e
        cases e
        obtain ⟨p, vs, rfl, q, r1⟩ := ha.sql h1
        rw [bls_rep r1 h2] at q
        exact cr_all hc pins s σ H _ us Q I r ⟨p, bs, rfl, q, hQ _ _ (.old rfl)⟩
theorem call_any1_P (hc : X.calm = true) : CallR X (.builtin "any") (rP (KX X pn) .any1) := by
  intro pins s σ H xs us Q I r h
  obtain ⟨ρ, Z, ds, d, e, ar, hQ⟩ := h
  match ds, e with
  | [a], e =>
    obtain ⟨x, rfl, ha⟩ := args1 ar
    replace e : (a.lst?.bind fun ds => (allB ds).map fun bs => D.bl (bs.any id)) = some d := e
    cases h1 : a.lst? with
    | none => rw [h1] at e; cases e
    | some l =>
      rw [h1] at e
      simp only [Option.bind_some] at e
      cases h2 : allB l with
      | none => rw [h2] at e; cases e
      | some bs =>
        rw [h2] at e
        cases e
        obtain ⟨p, vs, rfl, q, r1⟩ := ha.sql h1
        rw [bls_rep r1 h2] at q
        exact cr_any hc pins s σ H _ us Q I r ⟨p, bs, rfl, q, hQ _ _ (.old rfl)⟩
theorem ints_new {K : KC} {ρ Z : List Addr} {H : Hp} : ∀ (ns : List Int), RepSs K ρ Z H (ns.map D.int) (ns.map V.int)
  | [] => rfl
  | n :: ns => ⟨_, _, rfl, rfl, ints_new ns⟩
theorem sorts_one {a b : List Int} (h : a.Perm b) (ha : a.Pairwise (· ≤ ·)) (hb : b.Pairwise (· ≤ ·)) : a = b :=
  h.eq_of_pairwise (fun x y _ _ h1 h2 => by omega) ha hb
theorem sorts_pair (ns : List Int) : (sortI ns).Pairwise (· ≤ ·) := by
  have := List.pairwise_mergeSort (le := fun a b : Int => decide (a ≤ b)) (fun a b c h1 h2 => by simp only [decide_eq_true_eq] at *; omega) (fun a b => by simp only [Bool.or_eq_true, decide_eq_true_eq]; omega) ns
  exact this.imp fun h => by simpa using h
theorem call_sort1_P : CallR X (.builtin "sorted") (rP (KX X pn) .sort1) := by
  intro pins s σ H xs us Q I r h
  obtain ⟨ρ, Z, ds, d, e, ar, hQ⟩ := h
  match ds, e with
  | [a], e =>
    obtain ⟨x, rfl, ha⟩ := args1 ar
    replace e : (a.lst?.bind fun ds => (allI D.int? ds).map fun ns => D.own ((sortI ns).map .int)) = some d := e
    cases h1 : a.lst? with
    | none => rw [h1] at e; cases e
    | some l =>
      rw [h1] at e
      simp only [Option.bind_some] at e
      cases h2 : allI D.int? l with
      | none => rw [h2] at e; cases e
      | some ns =>
        rw [h2] at e
        cases e
        obtain ⟨p, rfl, q⟩ := ints_of ha h1 h2
        refine cr_sortedI pins s σ H _ us Q I r ⟨p, ns, rfl, q, fun ns' p' hp hs hn => ?_⟩
        rw [sorts_one (hp.trans (List.mergeSort_perm ns _).symm) hs (sorts_pair ns)]
        exact hQ _ _ (.lst hn (ints_new _))
theorem call_min2_P (hc : X.calm = true) : CallR X (.builtin "min") (rP (KX X pn) .min2) := by
  intro pins s σ H xs us Q I r h
  obtain ⟨ρ, Z, ds, d, e, ar, hQ⟩ := h
  unfold primF at e
  split at e <;> first | (cases e; done) | (rename_i h; cases h; done) | skip
  cases e
  obtain ⟨x, y, rfl, ha, hb⟩ := args2 ar
  cases ha.int; cases hb.int
  exact call_min2 hc pins s σ H _ us Q I r ⟨_, _, rfl, hQ _ _ (.old rfl)⟩
theorem call_max2_P (hc : X.calm = true) : CallR X (.builtin "max") (rP (KX X pn) .max2) := by
  intro pins s σ H xs us Q I r h
  obtain ⟨ρ, Z, ds, d, e, ar, hQ⟩ := h
  unfold primF at e
  split at e <;> first | (cases e; done) | (rename_i h; cases h; done) | skip
  cases e
  obtain ⟨x, y, rfl, ha, hb⟩ := args2 ar
  cases ha.int; cases hb.int
  exact call_max2 hc pins s σ H _ us Q I r ⟨_, _, rfl, hQ _ _ (.old rfl)⟩
theorem call_int_P : CallR X (.type "int") (rP (KX X pn) .int) := by
  intro pins s σ H xs us Q I r h
  obtain ⟨ρ, Z, ds, d, e, ar, hQ⟩ := h
  unfold primF at e
  split at e <;> first | (cases e; done) | (rename_i h; cases h; done) | skip
  · cases e
    obtain ⟨x, rfl, ha⟩ := args1 ar
    cases ha.int
    exact call_int1 pins s σ H _ us Q I r (.inl ⟨_, rfl, hQ _ _ (.old rfl)⟩)
  · cases e
    obtain ⟨x, rfl, ha⟩ := args1 ar
    cases ha.bl
    exact call_int1 pins s σ H _ us Q I r (.inr ⟨_, rfl, hQ _ _ (.old rfl)⟩)
/-! ### slices -/
theorem cut_rep {K : KC} {ρ Z : List Addr} {H : Hp} {ds : List D} {vs : List V} {lo hi : Option Int} (r : RepSs K ρ Z H ds vs) : RepSs K ρ Z H (cutD ds lo hi) (cutV vs lo hi) := by
  unfold cutV
  rw [r.length]
  exact (r.drop _).take _
theorem cutD_all {ds : List D} {lo hi : Option Int} (h : HT.sIx ds.length 0 lo = 0 ∧ HT.sIx ds.length ds.length hi = ds.length) : cutD ds lo hi = ds := by
  unfold cutD
  rw [h.1, h.2]
  simp
def rSlP (K : KC) : V → Option Int → Option Int → Hp → VK → Prop := fun x lo hi H Q => ∃ (ρ Z : List Addr) (a d : D), pSlc a lo hi = some d ∧ Rep K ρ Z H a x ∧ ∀ v H', Out K ρ Z H d v H' → Q v H'
theorem sl_P : SlR X (rSlP (KX X pn)) := by
  intro pins s σ H x v vl vu lo hi sl Q I rx hs pl pu h
  obtain ⟨ρ, Z, a, d, e, ha, hQ⟩ := h
  have lst : ∀ ds, a.lst? = some ds → pSlc a lo hi = some (.own (cutD ds lo hi)) → ∃ T id, typeLookup (.type T) "__getitem__" = pure (some (.builtin id)) ∧ s.TypeIs v T ∧ wpAny (model X.prog X.w) X.A (getItem v (.ref sl)) (EP X pins σ Q) X.xe s := by
    intro ds hq hp
    rw [hp] at e
    cases e
    obtain ⟨p, vs, rfl, q1, r1⟩ := ha.sql hq
    exact sl_list pins s σ H _ v vl vu lo hi sl Q I rx hs pl pu ⟨p, vs, rfl, q1, fun l hl => hQ _ _ (.lst hl (cut_rep r1))⟩
  cases a with
  | tup ds =>
    simp only [pSlc, Option.some.injEq] at e
    subst e
    obtain ⟨p, vs, rfl, q1, r1⟩ := ha.sqt
    refine sl_tupA pins s σ H _ v vl vu lo hi sl Q I rx hs pl pu ⟨p, vs, rfl, q1, fun hw => ?_, fun _ l hl => hQ _ _ (.tup hl (cut_rep r1))⟩
    rw [r1.length] at hw
    refine hQ _ _ (.old ?_)
    rw [cutD_all hw]
    exact ⟨p, vs, rfl, q1, r1⟩
  | own ds => exact lst ds rfl rfl
  | frz ds => exact lst ds rfl rfl
  | _ => simp [pSlc, D.lst?] at e
/-! ### is None -/
theorem op_isN_P : OpR X (compareOp .Is) (fun x y H Q => y = .non ∧ rP (KX X pn) .isN [x] H Q) := by
  intro pins s σ H x y v u Q I rx ry h
  obtain ⟨hy, ρ, Z, ds, d, e, ar, hQ⟩ := h
  obtain ⟨a, rfl, ha⟩ := paired1 ar
  simp only [primF, Option.some.injEq] at e
  subst e
  refine op_isN pins s σ H x y v u Q I rx ry ⟨hy, ?_⟩
  have := hQ _ _ (.old rfl)
  cases a with
  | non => cases ha.non; exact this
  | bl b => cases ha.bl; exact this
  | int b => cases ha.int; exact this
  | str b => cases ha.str; exact this
  | tup b => obtain ⟨_, _, rfl, _⟩ := ha.sqt; exact this
  | own b => obtain ⟨_, _, rfl, _⟩ := ha.rd (ds := b) rfl; exact this
  | frz b => obtain ⟨_, _, rfl, _⟩ := ha.rd (ds := b) rfl; exact this
  | ref n => obtain ⟨_, rfl, _⟩ := (show RepS (KX X pn) ρ Z H (.ref n) x from ha); exact this
theorem op_notN_P : OpR X (compareOp .IsNot) (fun x y H Q => y = .non ∧ rP (KX X pn) .notN [x] H Q) := by
  intro pins s σ H x y v u Q I rx ry h
  obtain ⟨hy, ρ, Z, ds, d, e, ar, hQ⟩ := h
  obtain ⟨a, rfl, ha⟩ := paired1 ar
  simp only [primF, Option.some.injEq] at e
  subst e
  refine op_notN pins s σ H x y v u Q I rx ry ⟨hy, ?_⟩
  have := hQ _ _ (.old rfl)
  cases a with
  | non => cases ha.non; exact this
  | bl b => cases ha.bl; exact this
  | int b => cases ha.int; exact this
  | str b => cases ha.str; exact this
  | tup b => obtain ⟨_, _, rfl, _⟩ := ha.sqt; exact this
  | own b => obtain ⟨_, _, rfl, _⟩ := ha.rd (ds := b) rfl; exact this
  | frz b => obtain ⟨_, _, rfl, _⟩ := ha.rd (ds := b) rfl; exact this
  | ref n => obtain ⟨_, rfl, _⟩ := (show RepS (KX X pn) ρ Z H (.ref n) x from ha); exact this
/-! ### isinstance -/
def isiN : Nat → String
  | 0 => "int" | 1 => "str" | 2 => "tuple" | 3 => "list" | 4 => "bool" | _ => ""
theorem tyx_sqt {K : KC} {H : Hp} {a : Addr} {vs : List V} (h : SqT K H a vs) : TyX K H (.ref a) (.type "tuple") := by
  rcases h with (h | ⟨o, h⟩) | ⟨o, its, n, h1, h2, _⟩
  · exact .base (.tup h)
  · exact .fTuple h
  · exact .kTuple h1 h2
theorem tyx_rd {K : KC} {H : Hp} {a : Addr} {vs : List V} (h : Rd H a (.lst vs) ∨ KL K a vs) : TyX K H (.ref a) (.type "list") := by
  rcases h with (h | ⟨o, h⟩) | ⟨its, n, h, _⟩
  · exact .base (.lst h)
  · exact .base (.frz h)
  · exact .kList h rfl
theorem call_isi_P {t : Nat} (ht : t ≤ 4) : CallR X (.builtin "isinstance") (fun xs H Q => ∃ x, xs = [x, .ty (isiN t)] ∧ rP (KX X pn) (.isi t) [x] H Q) := by
  intro pins s σ H xs us Q I r h
  obtain ⟨x, rfl, ρ, Z, ds, d, e, ar, hQ⟩ := h
  obtain ⟨a, rfl, ha⟩ := paired1 ar
  simp only [primF] at e
  have fin : ∀ (T : String) (b : Bool), TyX (KX X pn) H x (.type T) → isiD t a = some b → PySem.W.kitOne (KX X pn) (.type T) (.type (isiN t)) = some b → wpAny (model X.prog X.w) X.A (call (.builtin "isinstance") us) (EP X pins σ Q) X.xe s := by
    intro T b ty hb hk
    rw [hb] at e
    cases e
    exact call_isi pins s σ H _ us Q I r ⟨x, .ty (isiN t), .type T, .type (isiN t), b, rfl, .ty _, ty, hk, hQ _ _ (.old rfl)⟩
  have ht' : t = 0 ∨ t = 1 ∨ t = 2 ∨ t = 3 ∨ t = 4 := by omega
  cases a with
  | non => cases ha.non; rcases ht' with h | h | h | h | h <;> subst h <;> exact fin "NoneType" _ (.base .non) rfl (kit_ty (by decide +kernel))
  | bl b => cases ha.bl; rcases ht' with h | h | h | h | h <;> subst h <;> exact fin "bool" _ (.base (.bl _)) rfl (kit_ty (by decide +kernel))
  | int b => cases ha.int; rcases ht' with h | h | h | h | h <;> subst h <;> exact fin "int" _ (.base (.int _)) rfl (kit_ty (by decide +kernel))
  | str b => cases ha.str; rcases ht' with h | h | h | h | h <;> subst h <;> exact fin "str" _ (.base (.str _)) rfl (kit_ty (by decide +kernel))
  | tup b => obtain ⟨_, _, rfl, q, _⟩ := ha.sqt; rcases ht' with h | h | h | h | h <;> subst h <;> exact fin "tuple" _ (tyx_sqt q) rfl (kit_ty (by decide +kernel))
  | own b => obtain ⟨_, _, rfl, q, _⟩ := ha.rd (ds := b) rfl; rcases ht' with h | h | h | h | h <;> subst h <;> exact fin "list" _ (tyx_rd q) rfl (kit_ty (by decide +kernel))
  | frz b => obtain ⟨_, _, rfl, q, _⟩ := ha.rd (ds := b) rfl; rcases ht' with h | h | h | h | h <;> subst h <;> exact fin "list" _ (tyx_rd q) rfl (kit_ty (by decide +kernel))
  | ref n => rcases ht' with h | h | h | h | h <;> subst h <;> cases e
end
end Mi
end
section
set_option Elab.async false
set_option maxRecDepth 100000
set_option linter.all false
namespace Mi
open PySem PySem.Spec PyProof.Rows L2

section
variable {K : KC} {W : MW} {σ : L2.St} {H : Hp} {α β : Type}
theorem XC.le {F F' : List (V × D)} {x : Ex} {en : Env} {S : Sto} (l : Le F F') (h : XC K W σ F x en S) : XC K W σ F' x en S := fun ρ Z H cls dx k r e =>
  h ρ Z H cls dx k (r.le ⟨fun p hp => by
    rcases List.mem_append.mp hp with hp | hp
    · exact List.mem_append_left _ hp
    · exact List.mem_append_right _ (l.mem p hp), fun a => by simp only [cF_append]; have := l.cnt a; omega⟩) e
theorem Post.bind {F : List (V × D)} {good : β → Env → Sto → Prop} {m : M α} {f : α → M β} {en : Env} {S : Sto} (h : Post K W σ F good (M.bind m f en S)) :
    Post K W σ F (fun a en1 S1 => Post K W σ F good (f a en1 S1)) (m en S) := by
  unfold M.bind R.bind at h
  cases e : m en S with
  | ok a en1 S1 => rw [e] at h; exact h
  | exc x en1 S1 => rw [e] at h; exact h
  | stuck => rw [e] at h; exact h
theorem Post.imp {F F' : List (V × D)} {good good' : α → Env → Sto → Prop} {r : R α} (l : Le F F') (h : Post K W σ F good r) (k : ∀ a en S, good a en S → good' a en S) : Post K W σ F' good' r := by
  cases r with
  | ok a en S => exact k a en S h
  | exc x en S => exact XC.le l h
  | stuck => exact h
theorem Post.ok {F : List (V × D)} {good : α → Env → Sto → Prop} {a : α} {en : Env} {S : Sto} (h : Post K W σ F good (M.ret a en S)) : good a en S := h
theorem Post.opt {F : List (V × D)} {good : α → Env → Sto → Prop} {o : Option α} {en : Env} {S : Sto} (h : Post K W σ F good (M.opt o en S)) : ∃ a, o = some a ∧ good a en S := by
  cases o with
  | none => exact h.elim
  | some a => exact ⟨a, rfl, h⟩
theorem app_le {A F F' : List (V × D)} (l : Le F F') : Le (A ++ F) (A ++ F') := ⟨fun p hp => by
    rcases List.mem_append.mp hp with hp | hp
    · exact List.mem_append_left _ hp
    · exact List.mem_append_right _ (l.mem p hp), fun a => by simp only [cF_append]; have := l.cnt a; omega⟩
/-- THE MOVE: a part of what the evaluator does; its end is wanted in the frame F' (what is under way beside it) -/
theorem Sim.start {m : M α} {good : L2.St → List (V × D) → α → Env → Sto → Prop} {ρ Z : List Addr} {S : Sto} {en : Env} {F F' : List (V × D)} (k : EnvOk σ en) (r : Rel K ρ Z S (pairs σ en ++ F') H) (l : Le F F') {g : α → Env → Sto → Prop}
    (h : Post K W σ F g (m en S)) (w : ∀ a en S, g a en S → good σ F' a en S) : Sim K W m good σ H := ⟨ρ, Z, S, en, F', ⟨k, r⟩, h.imp l w⟩

/-! ### operands -/
theorem os_nil {Q : List V → Hp → Prop} (h : simOs K W (.ret []) σ H Q) : tNil σ H Q := by
  obtain ⟨ρ, Z, S, en, F, ⟨k, r⟩, h⟩ := h
  exact h ρ Z [] H k r .nil
theorem os_cons {te : TE} {tr : TA} {m : M D} {ms : M (List D)} (ha : ∀ σ H Q, simE K W m σ H Q → te σ H Q) (hr : ∀ σ H Q, simOs K W ms σ H Q → tr σ H Q) {Q : List V → Hp → Prop}
    (h : simOs K W (m.bind fun d => ms.bind fun ds => .ret (d :: ds)) σ H Q) : tCons te tr σ H Q := by
  obtain ⟨ρ, Z, S, en, F, ⟨k, r⟩, h⟩ := h
  refine ha σ H _ (Sim.start k r (Le.refl F) h.bind fun d en1 S1 q ρ1 Z1 v H1 k1 r1 => ?_)
  refine hr σ H1 _ (Sim.start k1 (F' := (v, d) :: F) (r1.le le_swap) le_drop q.bind fun ds en2 S2 q2 ρ2 Z2 vs H2 k2 r2 ar => ?_)
  exact q2 ρ2 Z2 (v :: vs) H2 k2 (r2.le (app_le le_drop)) (.cons (r2.fr (v, d) (List.mem_append_right _ List.mem_cons_self)) ar)
theorem getV_ok {i : Nat} {F : List (V × D)} {good : D → Env → Sto → Prop} {en : Env} {S : Sto} (h : Post K W σ F good (getV i en S)) : ∃ d, en[i]? = some (some d) ∧ good d en S := by
  unfold getV at h
  split at h
  · rename_i d e
    exact ⟨d, e, h⟩
  · exact h.elim
theorem os_var {i : Nat} {tr : TA} {ms : M (List D)} (hr : ∀ σ H Q, simOs K W ms σ H Q → tr σ H Q) {Q : List V → Hp → Prop}
    (h : simOs K W ((getV i).bind fun _ => ms.bind fun ds => (getV i).bind fun d => .ret (d :: ds)) σ H Q) : tCons (tVar i) tr σ H Q := by
  obtain ⟨ρ, Z, S, en, F, ⟨k, r⟩, h⟩ := h
  obtain ⟨d0, e0, h⟩ := getV_ok h.bind
  obtain ⟨v, hv, hm⟩ := slot_v k e0
  refine ⟨v, hv, ?_⟩
  refine hr σ H _ (Sim.start k r (Le.refl F) h.bind fun ds en2 S2 q2 ρ2 Z2 vs H2 k2 r2 ar => ?_)
  obtain ⟨d, e, q⟩ := getV_ok q2.bind
  obtain ⟨v', hv', hm'⟩ := slot_v k2 e
  rw [hv] at hv'; cases hv'
  exact q ρ2 Z2 (v :: vs) H2 k2 r2 (.cons (r2.fr (v, d) (List.mem_append_left _ hm')) ar)
theorem deref_rep {ρ Z : List Addr} {S : Sto} {F : List (V × D)} {d : D} {v : V} (r : Rel K ρ Z S F H) (h : Rep K ρ Z H d v) : Rep K ρ Z H (derefD S d) v := by
  cases d with
  | ref n =>
    unfold derefD
    simp only
    split
    · rename_i ds hS
      obtain ⟨a, rfl, hr⟩ := (show RepS K ρ Z H (.ref n) v from h)
      obtain ⟨vs, q, y⟩ := r.so n _ a hS hr
      exact ⟨a, vs, rfl, q, y⟩
    · exact h
  | _ => exact h
theorem deref_all {ρ Z : List Addr} {S : Sto} {F : List (V × D)} (r : Rel K ρ Z S F H) : ∀ {ds : List D} {vs : List V}, Paired (fun d v => Rep K ρ Z H d v) ds vs → Paired (fun d v => Rep K ρ Z H d v) (ds.map (derefD S)) vs
  | _, _, .nil => .nil
  | _, _, .cons h t => .cons (deref_rep r h) (deref_all r t)
theorem Post.prim {F : List (V × D)} {good : D → Env → Sto → Prop} {p : P} {ds : List D} {en : Env} {S : Sto} (h : Post K W σ F good (primM p ds en S)) : ∃ d, primF p (ds.map (derefD S)) = some d ∧ good d en S := Post.opt h
theorem Post.tru {F : List (V × D)} {good : Bool → Env → Sto → Prop} {d : D} {en : Env} {S : Sto} (h : Post K W σ F good (truM d en S)) : ∃ b, truthy (derefD S d) = some b ∧ good b en S := Post.opt h
/-- a pure thing of operands -/
theorem prim_of {p : P} {ms : M (List D)} {Q : VK} (h : simE K W (ms.bind fun ds => primM p ds) σ H Q) : simOs K W ms σ H fun vs H' => rP K p vs H' Q := by
  obtain ⟨ρ, Z, S, en, F, ⟨k, r⟩, h⟩ := h
  refine Sim.start k r (Le.refl F) h.bind fun ds en1 S1 q ρ1 Z1 vs H1 k1 r1 ar => ?_
  obtain ⟨d, e, q⟩ := q.prim
  exact ⟨ρ1, Z1, _, d, e, deref_all r1 ar, fun v H' o => q ρ1 Z1 v H' k1 (o.rel r1)⟩
/-- a comparison as a test -/
theorem primT_of {p : P} (hp : ∀ ds d, primF p ds = some d → ∃ b, d = .bl b) {ms : M (List D)} {Q : Bool → Hp → Prop} (h : simT K W ((ms.bind fun ds => primM p ds).bind fun d => truM d) σ H Q) :
    simOs K W ms σ H fun vs H' => rP K p vs H' fun v H2 => ∃ k, v = .bl k ∧ Q k H2 := by
  obtain ⟨ρ, Z, S, en, F, ⟨k, r⟩, h⟩ := h
  refine Sim.start k r (Le.refl F) h.bind.bind fun ds en1 S1 q ρ1 Z1 vs H1 k1 r1 ar => ?_
  obtain ⟨d, e, q⟩ := q.opt
  obtain ⟨b, rfl⟩ := hp _ d e
  refine ⟨ρ1, Z1, _, .bl b, e, deref_all r1 ar, fun v H' o => ?_⟩
  obtain ⟨rfl, g⟩ := o.bl
  exact ⟨b, rfl, q.ok ρ1 Z1 H' k1 (g r1)⟩
/-- a chain of two comparisons -/
theorem chain_of {p q : P} (hp : ∀ ds d, primF p ds = some d → ∃ b, d = .bl b) {a b c : M D} {tA tB tC : TE} (ha : ∀ σ H Q, simE K W a σ H Q → tA σ H Q) (hb : ∀ σ H Q, simE K W b σ H Q → tB σ H Q) (hc : ∀ σ H Q, simE K W c σ H Q → tC σ H Q) {Q : VK}
    (h : simE K W (a.bind fun x => b.bind fun y => (primM p [x, y]).bind fun z => (match z with
      | .bl k => if k then c.bind fun w => primM q [y, w] else .ret (.bl false)
      | _ => .stuck)) σ H Q) : tChain (rP2 K p) (rP2 K q) tA tB tC σ H Q := by
  obtain ⟨ρ, Z, S, en, F, ⟨k, r⟩, h⟩ := h
  refine ha σ H _ (Sim.start k r (Le.refl F) h.bind fun x en1 S1 q1 ρ1 Z1 vx H1 k1 r1 => ?_)
  refine hb σ H1 _ (Sim.start k1 (F' := (vx, x) :: F) (r1.le le_swap) le_drop q1.bind fun y en2 S2 q2 ρ2 Z2 vy H2 k2 r2 => ?_)
  obtain ⟨z, e, q3⟩ := q2.bind.opt
  obtain ⟨kk, rfl⟩ := hp _ _ e
  have rx := r2.fr (vx, x) (List.mem_cons_of_mem _ (List.mem_append_right _ List.mem_cons_self))
  have ry := r2.fr (vy, y) List.mem_cons_self
  refine ⟨ρ2, Z2, [derefD S2 x, derefD S2 y], .bl kk, e, .cons (deref_rep r2 rx) (.cons (deref_rep r2 ry) .nil), fun v H' o => ?_⟩
  obtain ⟨rfl, g⟩ := o.bl
  · refine ⟨kk, rfl, ?_⟩
    have r3 : Rel K ρ2 Z2 S2 ((vy, y) :: (pairs σ en2 ++ F)) H' := g (r2.le (Le.cons (app_le le_drop) _))
    cases kk with
    | false => exact q3.ok ρ2 Z2 (.bl false) H' k2 ((r3.le le_drop).push rfl)
    | true =>
      refine hc σ H' _ (Sim.start k2 (F' := (vy, y) :: F) (r3.le le_swap) le_drop (Post.bind q3) fun w en3 S3 q4 ρ3 Z3 vw H3 k3 r4 => ?_)
      obtain ⟨d, e2, q5⟩ := q4.opt
      have rw' := r4.fr (vw, w) List.mem_cons_self
      have ry' := r4.fr (vy, y) (List.mem_cons_of_mem _ (List.mem_append_right _ List.mem_cons_self))
      exact ⟨ρ3, Z3, [derefD S3 y, derefD S3 w], d, e2, .cons (deref_rep r4 ry') (.cons (deref_rep r4 rw') .nil), fun v H' o => q5 ρ3 Z3 v H' k3 (o.rel ((r4.le le_drop).le (app_le le_drop)))⟩
/-! ### arguments -/
theorem as_nil {Q : List V → Hp → Prop} (h : simAs K W (.ret []) σ H Q) : tNil σ H Q := by
  obtain ⟨ρ, Z, S, en, F, ⟨k, r⟩, h⟩ := h
  exact h ρ Z [] H k rfl r
theorem as_cons {te : TE} {tr : TA} {m : M D} {ms : M (List D)} (ha : ∀ σ H Q, simE K W m σ H Q → te σ H Q) (hr : ∀ σ H Q, simAs K W ms σ H Q → tr σ H Q) {Q : List V → Hp → Prop}
    (h : simAs K W (m.bind fun d => ms.bind fun ds => .ret (d :: ds)) σ H Q) : tCons te tr σ H Q := by
  obtain ⟨ρ, Z, S, en, F, ⟨k, r⟩, h⟩ := h
  refine ha σ H _ (Sim.start k r (Le.refl F) h.bind fun d en1 S1 q ρ1 Z1 v H1 k1 r1 => ?_)
  refine hr σ H1 _ (Sim.start k1 (F' := (v, d) :: F) (r1.le le_swap) le_drop q.bind fun ds en2 S2 q2 ρ2 Z2 vs H2 k2 hl r2 => ?_)
  refine q2 ρ2 Z2 (v :: vs) H2 k2 (by simp [hl]) (r2.le ⟨fun p hp => ?_, fun a => ?_⟩)
  · simp only [List.zip_cons_cons, List.cons_append, List.mem_cons, List.mem_append] at hp ⊢
    rcases hp with h | h | h | h
    · exact .inr (.inr (.inl h))
    · exact .inl h
    · exact .inr (.inl h)
    · exact .inr (.inr (.inr h))
  · simp only [List.zip_cons_cons, List.cons_append, cF, cF_append]
    omega
/-- what is made hard: a list that nobody else holds is shared -/
theorem hardens : ∀ {vs : List V} {ds : List D} {ρ Z : List Addr} {S : Sto} {F : List (V × D)} {H : Hp}, vs.length = ds.length → Rel K ρ Z S (vs.zip ds ++ F) H →
    ∃ Z', Rel K ρ Z' S F H ∧ RepSs K ρ Z' H (ds.map D.hard) vs ∧ ∀ a ∈ Z, a ∈ Z'
  | [], [], ρ, Z, S, F, H, _, r => ⟨Z, r, rfl, fun _ h => h⟩
  | [], _ :: _, _, _, _, _, _, h, _ => by simp at h
  | _ :: _, [], _, _, _, _, _, h, _ => by simp at h
  | v :: vs, d :: ds, ρ, Z, S, F, H, hl, r => by
    have r0 : Rel K ρ Z S ((v, d) :: (vs.zip ds ++ F)) H := r
    have one : ∃ Z1, Rel K ρ Z1 S ((v, d.hard) :: (vs.zip ds ++ F)) H ∧ RepS K ρ Z1 H d.hard v ∧ ∀ a ∈ Z, a ∈ Z1 := by
      cases d with
      | own xs =>
        obtain ⟨a, rfl, r1⟩ := r0.freeze
        exact ⟨a :: Z, r1, r1.fr _ List.mem_cons_self, fun _ h => List.mem_cons_of_mem _ h⟩
      | _ => exact ⟨Z, r0, r0.fr _ List.mem_cons_self, fun _ h => h⟩
    obtain ⟨Z1, r1, h1, z1⟩ := one
    obtain ⟨Z2, r2, h2, z2⟩ := hardens (vs := vs) (ds := ds) (F := F) (by simpa using hl) (r1.le le_drop)
    exact ⟨Z2, r2, ⟨v, vs, rfl, RepS.stb Stb.refl (fun _ _ h => h) z2 _ _ h1, h2⟩, fun a h => z2 a (z1 a h)⟩
theorem tup_of {ms : M (List D)} {Q : VK} (h : simE K W (ms.bind fun ds => if ds.length ≤ big then .ret (.tup (ds.map D.hard)) else .stuck) σ H Q) :
    simAs K W ms σ H fun vs H1 => vs.length ≤ sizeLine ∧ ∀ p, H1 p = none → Q (.ref p) (upd H1 p (.tup vs)) := by
  obtain ⟨ρ, Z, S, en, F, ⟨k, r⟩, h⟩ := h
  refine Sim.start k r (Le.refl F) h.bind fun ds en1 S1 q ρ1 Z1 vs H1 k1 hl r1 => ?_
  split at q
  · rename_i hb
    obtain ⟨Z2, r2, h2, _⟩ := hardens hl r1
    exact ⟨by rw [big_eq, hl]; exact hb, fun p hp => q.ok ρ1 Z2 _ _ k1 ((Out.tup hp h2).rel r2)⟩
  · exact q.elim
theorem lst_of {ms : M (List D)} {Q : VK} (h : simE K W (ms.bind fun ds => if ds.length ≤ big then .ret (.own (ds.map D.hard)) else .stuck) σ H Q) :
    simAs K W ms σ H fun vs H1 => vs.length ≤ sizeLine ∧ ∀ p, H1 p = none → Q (.ref p) (upd H1 p (.lst vs)) := by
  obtain ⟨ρ, Z, S, en, F, ⟨k, r⟩, h⟩ := h
  refine Sim.start k r (Le.refl F) h.bind fun ds en1 S1 q ρ1 Z1 vs H1 k1 hl r1 => ?_
  split at q
  · rename_i hb
    obtain ⟨Z2, r2, h2, _⟩ := hardens hl r1
    exact ⟨by rw [big_eq, hl]; exact hb, fun p hp => q.ok ρ1 Z2 _ _ k1 ((Out.lst hp h2).rel r2)⟩
  · exact q.elim
/-! ### truth -/
theorem truV {ρ Z : List Addr} {d : D} {v : V} {b : Bool} (h : Rep K ρ Z H d v) (e : truthy d = some b) : TruV K v H b := by
  have nil : ∀ {ds : List D} {vs : List V}, RepSs K ρ Z H ds vs → (!ds.isEmpty) = (!vs.isEmpty) := fun {ds vs} r => by
    have := r.length
    cases ds <;> cases vs <;> simp_all
  cases d with
  | non => cases h.non; simpa [TruV, truthy] using e.symm
  | bl x => cases h.bl; simpa [TruV, truthy] using e.symm
  | int x => cases h.int; simpa [TruV, truthy] using e.symm
  | str x =>
    cases h.str
    simp only [truthy] at e
    split at e
    · rename_i hl
      cases e
      refine ⟨by rw [big_eq]; exact hl, ?_⟩
      by_cases hx : x.length = 0
      · rw [hx]; rfl
      · have h1 : (x.length != 0) = true := by simpa using hx
        have h2 : ((x.length : Int) != 0) = true := by
          simp only [bne_iff_ne, ne_eq]
          omega
        rw [h1, h2]
    · cases e
  | tup xs =>
    obtain ⟨a, vs, rfl, q, r⟩ := h.sqt
    simp only [truthy, Option.some.injEq] at e
    exact .inr (.inl ⟨vs, q, by rw [← e, nil r]⟩)
  | own xs =>
    obtain ⟨a, vs, rfl, q, r⟩ := h.sql (ds := xs) rfl
    simp only [truthy, Option.some.injEq] at e
    exact .inl ⟨vs, q, by rw [← e, nil r]⟩
  | frz xs =>
    obtain ⟨a, vs, rfl, q, r⟩ := h.sql (ds := xs) rfl
    simp only [truthy, Option.some.injEq] at e
    exact .inl ⟨vs, q, by rw [← e, nil r]⟩
  | ref n => cases e
/-- a value's truth as a test -/
theorem tru_of {m : M D} {te : TE} (ha : ∀ σ H Q, simE K W m σ H Q → te σ H Q) {Q : Bool → Hp → Prop} (h : simT K W (m.bind fun d => truM d) σ H Q) :
    te σ H fun x H' => ∃ k, TruV K x H' k ∧ Q k H' := by
  obtain ⟨ρ, Z, S, en, F, ⟨k, r⟩, h⟩ := h
  refine ha σ H _ (Sim.start k r (Le.refl F) h.bind fun d en1 S1 q ρ1 Z1 v H1 k1 r1 => ?_)
  obtain ⟨b, e, q⟩ := q.opt
  exact ⟨b, truV (deref_rep r1 (r1.fr (v, d) List.mem_cons_self)) e, q ρ1 Z1 H1 k1 (r1.le le_drop)⟩
theorem tru_var {i : Nat} {Q : Bool → Hp → Prop} (h : simT K W ((getV i).bind fun d => truM d) σ H Q) : tVar i σ H fun x H' => ∃ k, TruV K x H' k ∧ Q k H' := by
  obtain ⟨ρ, Z, S, en, F, ⟨k, r⟩, h⟩ := h
  obtain ⟨d, e, h⟩ := getV_ok h.bind
  obtain ⟨v, hv, hm⟩ := slot_v k e
  obtain ⟨b, eb, q⟩ := h.opt
  exact ⟨v, hv, b, truV (deref_rep r (r.fr (v, d) (List.mem_append_left _ hm))) eb, q ρ Z H k r⟩
theorem and_of {a b : M Bool} {tA tB : TT} (ha : ∀ σ H Q, simT K W a σ H Q → tA σ H Q) (hb : ∀ σ H Q, simT K W b σ H Q → tB σ H Q) {Q : Bool → Hp → Prop}
    (h : simT K W (a.bind fun t => if t then b else .ret false) σ H Q) : tAnd tA tB σ H Q := by
  obtain ⟨ρ, Z, S, en, F, ⟨k, r⟩, h⟩ := h
  refine ha σ H _ (Sim.start k r (Le.refl F) h.bind fun c en1 S1 q ρ1 Z1 H1 k1 r1 => ?_)
  cases c with
  | true => exact hb σ H1 _ (Sim.start k1 r1 (Le.refl F) q fun _ _ _ h => h)
  | false => exact q.ok ρ1 Z1 H1 k1 r1
theorem or_of {a b : M Bool} {tA tB : TT} (ha : ∀ σ H Q, simT K W a σ H Q → tA σ H Q) (hb : ∀ σ H Q, simT K W b σ H Q → tB σ H Q) {Q : Bool → Hp → Prop}
    (h : simT K W (a.bind fun t => if t then .ret true else b) σ H Q) : tOr tA tB σ H Q := by
  obtain ⟨ρ, Z, S, en, F, ⟨k, r⟩, h⟩ := h
  refine ha σ H _ (Sim.start k r (Le.refl F) h.bind fun c en1 S1 q ρ1 Z1 H1 k1 r1 => ?_)
  cases c with
  | true => exact q.ok ρ1 Z1 H1 k1 r1
  | false => exact hb σ H1 _ (Sim.start k1 r1 (Le.refl F) q fun _ _ _ h => h)
theorem not_of {a : M Bool} {tA : TT} (ha : ∀ σ H Q, simT K W a σ H Q → tA σ H Q) {Q : Bool → Hp → Prop} (h : simT K W (a.bind fun t => .ret (!t)) σ H Q) : tNot tA σ H Q := by
  obtain ⟨ρ, Z, S, en, F, ⟨k, r⟩, h⟩ := h
  exact ha σ H _ (Sim.start k r (Le.refl F) h.bind fun c en1 S1 q ρ1 Z1 H1 k1 r1 => q.ok ρ1 Z1 H1 k1 r1)
theorem notV_of {a : M D} {tA : TE} (ha : ∀ σ H Q, simE K W a σ H Q → tA σ H Q) {Q : VK} (h : simE K W (a.bind fun d => (truM d).bind fun b => .ret (.bl (!b))) σ H Q) : tNotT K tA σ H Q := by
  obtain ⟨ρ, Z, S, en, F, ⟨k, r⟩, h⟩ := h
  refine ha σ H _ (Sim.start k r (Le.refl F) h.bind fun d en1 S1 q ρ1 Z1 v H1 k1 r1 => ?_)
  obtain ⟨c, e, q⟩ := q.bind.opt
  exact ⟨c, truV (deref_rep r1 (r1.fr (v, d) List.mem_cons_self)) e, q.ok ρ1 Z1 (.bl (!c)) H1 k1 ((r1.le le_drop).push rfl)⟩
theorem cond_of {c : M Bool} {a b : M D} {tC : TT} {tA tB : TE} (hc : ∀ σ H Q, simT K W c σ H Q → tC σ H Q) (ha : ∀ σ H Q, simE K W a σ H Q → tA σ H Q) (hb : ∀ σ H Q, simE K W b σ H Q → tB σ H Q) {Q : VK}
    (h : simE K W (c.bind fun t => if t then a else b) σ H Q) : tIf tC tA tB σ H Q := by
  obtain ⟨ρ, Z, S, en, F, ⟨k, r⟩, h⟩ := h
  refine hc σ H _ (Sim.start k r (Le.refl F) h.bind fun c en1 S1 q ρ1 Z1 H1 k1 r1 => ?_)
  cases c with
  | true => exact ha σ H1 _ (Sim.start k1 r1 (Le.refl F) q fun _ _ _ h => h)
  | false => exact hb σ H1 _ (Sim.start k1 r1 (Le.refl F) q fun _ _ _ h => h)
theorem orT_of {a b : M D} {tA tB : TE} (ha : ∀ σ H Q, simE K W a σ H Q → tA σ H Q) (hb : ∀ σ H Q, simE K W b σ H Q → tB σ H Q) {Q : VK}
    (h : simE K W (a.bind fun d => (truM d).bind fun t => if t then .ret d else b) σ H Q) : tOrT K tA tB σ H Q := by
  obtain ⟨ρ, Z, S, en, F, ⟨k, r⟩, h⟩ := h
  refine ha σ H _ (Sim.start k r (Le.refl F) h.bind fun d en1 S1 q ρ1 Z1 v H1 k1 r1 => ?_)
  obtain ⟨b, e, q⟩ := q.bind.opt
  refine ⟨b, truV (deref_rep r1 (r1.fr (v, d) List.mem_cons_self)) e, ?_⟩
  cases b with
  | true => exact q.ok ρ1 Z1 v H1 k1 r1
  | false => exact hb σ H1 _ (Sim.start k1 (r1.le le_drop) (Le.refl F) q fun _ _ _ h => h)
theorem andT_of {a b : M D} {tA tB : TE} (ha : ∀ σ H Q, simE K W a σ H Q → tA σ H Q) (hb : ∀ σ H Q, simE K W b σ H Q → tB σ H Q) {Q : VK}
    (h : simE K W (a.bind fun d => (truM d).bind fun t => if t then b else .ret d) σ H Q) : tAndT K tA tB σ H Q := by
  obtain ⟨ρ, Z, S, en, F, ⟨k, r⟩, h⟩ := h
  refine ha σ H _ (Sim.start k r (Le.refl F) h.bind fun d en1 S1 q ρ1 Z1 v H1 k1 r1 => ?_)
  obtain ⟨b, e, q⟩ := q.bind.opt
  refine ⟨b, truV (deref_rep r1 (r1.fr (v, d) List.mem_cons_self)) e, ?_⟩
  cases b with
  | false => exact q.ok ρ1 Z1 v H1 k1 r1
  | true => exact hb σ H1 _ (Sim.start k1 (r1.le le_drop) (Le.refl F) q fun _ _ _ h => h)
end
end Mi
end
section
set_option Elab.async false
set_option maxRecDepth 100000
set_option linter.all false
namespace Mi
open PySem PySem.Spec PyProof.Rows L2

/-! ### calls -/
/-- what the f-th def promises, by the evaluator -/
def spF (K : KC) (mg : Str → Option Value) (cf : Calls) (np f : Nat) : Sp := fun vs H Q E => vs.length = np ∧ ∃ (ρ Z : List Addr) (S : Sto) (F : List (V × D)) (ds : List D), ds.length = vs.length ∧ Rel K ρ Z S (vs.zip ds ++ F) H ∧
  match cf f ds S with
  | .ok d S' => ∀ (ρ' Z' : List Addr) (v : V) (H' : Hp), Rel K ρ' Z' S' ((v, d) :: F) H' → Q v H'
  | .exc x S' => ∀ (ρ' Z' : List Addr) (H' : Hp) (cls : Value) (dx : Option Addr), Rel K ρ' Z' S' F H' → ExR mg K ρ' Z' H' x cls dx → E cls dx H'
  | .stuck => False
section
variable {K : KC} {W : MW} {σ : L2.St} {H : Hp} {α β : Type} {en : Env}
theorem call_of {cf : Calls} {np f : Nat} (hn : ∀ ds s, ds.length ≠ np → cf f ds s = .stuck) {ms : M (List D)} {Q : VK} (h : simE K W (ms.bind fun ds => callM cf f ds) σ H Q) :
    simAs K W ms σ H fun vs H1 => spF K W.mg cf np f vs H1 Q (WE W.w σ) := by
  obtain ⟨ρ, Z, S, en, F, ⟨k, r⟩, h⟩ := h
  refine Sim.start k r (Le.refl F) h.bind fun ds en1 S1 q ρ1 Z1 vs H1 k1 hl r1 => ?_
  have hnp : ds.length = np := by
    by_cases e : ds.length = np
    · exact e
    · simp only [callM, hn ds S1 e] at q
      exact q.elim
  refine ⟨hl.trans hnp, ρ1, Z1, S1, pairs σ en1 ++ F, ds, hl.symm, r1, ?_⟩
  unfold callM at q
  cases e : cf f ds S1 with
  | ok d S2 =>
    rw [e] at q
    exact fun ρ2 Z2 v H2 r2 => q ρ2 Z2 v H2 k1 r2
  | exc x S2 =>
    rw [e] at q
    exact fun ρ2 Z2 H2 cls dx r2 ex => q ρ2 Z2 H2 cls dx k1 r2 ex
  | stuck =>
    rw [e] at q
    exact q.elim

/-! ### a list changes -/
def muV : Mu → List V → List V → Option (List V × V) := muG .non V.int?
theorem int_rep {ρ Z : List Addr} {d : D} {v : V} {i : Int} (h : RepS K ρ Z H d v) (e : d.int? = some i) : V.int? v = some i := by
  cases d <;> simp only [D.int?, Option.some.injEq] at e <;> first | (cases e; done) | skip
  subst e
  cases (show v = _ from h)
  rfl
theorem mu_rep {m : Mu} {ρ Z : List Addr} {ds as ds' : List D} {vs ws : List V} {d : D} (h : RepSs K ρ Z H ds vs) (k : RepSs K ρ Z H as ws) (e : muF m ds as = some (ds', d)) :
    ∃ vs' v, muV m vs ws = some (vs', v) ∧ RepSs K ρ Z H ds' vs' ∧ RepS K ρ Z H d v := by
  have hl := h.length
  unfold muF muG at e
  split at e
  · obtain ⟨w, r, rfl, k1, k2⟩ := k
    cases (show r = [] from k2)
    split at e
    · cases e
      rename_i hb
      exact ⟨_, _, by simp only [muV, muG]; rw [if_pos (by rw [hl]; exact hb)], h.append (.one k1), rfl⟩
    · cases e
  · cases (show ws = [] from k)
    cases hx : ds[ds.length - 1]? with
    | none => rw [hx] at e; cases e
    | some x =>
      rw [hx] at e
      cases e
      obtain ⟨v, hv, rv⟩ := h.get hx
      exact ⟨_, v, by simp only [muV, muG]; rw [hl, hv]; rfl, h.dropLast, rv⟩
  · obtain ⟨w, r, rfl, k1, k2⟩ := k
    cases (show r = [] from k2)
    rename_i kk
    cases hi : kk.int? with
    | none => rw [hi] at e; cases e
    | some i =>
      rw [hi] at e
      cases hj : ixN ds.length i with
      | none => simp only [Option.bind_some, hj] at e; cases e
      | some j =>
        simp only [Option.bind_some, hj] at e
        cases hx : ds[j]? with
        | none => rw [hx] at e; cases e
        | some x =>
          rw [hx] at e
          cases e
          obtain ⟨v, hv, rv⟩ := h.get hx
          exact ⟨_, v, by simp only [muV, muG, int_rep k1 hi, Option.bind_some, hl, hj, hv], h.erase j, rv⟩
  · obtain ⟨w, r, rfl, k1, w2, r2, rfl, k2, k3⟩ := k
    cases (show r2 = [] from k3)
    rename_i kk dd
    cases hi : kk.int? with
    | none => rw [hi] at e; cases e
    | some i =>
      rw [hi] at e
      cases hj : ixN ds.length i with
      | none => simp only [Option.bind_some, hj] at e; cases e
      | some j =>
        simp only [Option.bind_some, hj] at e
        cases e
        exact ⟨_, _, by simp only [muV, muG, int_rep k1 hi, Option.bind_some, hl, hj]; rfl, h.set j k2, rfl⟩
  · obtain ⟨w, r, rfl, k1, w2, r2, rfl, k2, k3⟩ := k
    cases (show r2 = [] from k3)
    rename_i kk dd
    cases hi : kk.int? with
    | none => rw [hi] at e; cases e
    | some i =>
      rw [hi] at e
      simp only [Option.bind_some] at e
      split at e
      · rename_i hc
        cases e
        exact ⟨_, _, by simp only [muV, muG, int_rep k1 hi, Option.bind_some, hl]; rw [if_pos hc], (h.take _).append (.cons k2 (h.drop _)), rfl⟩
      · cases e
  · obtain ⟨w, r, rfl, k1, k2⟩ := k
    cases (show r = [] from k2)
    rename_i kk
    cases hi : kk.int? with
    | none => rw [hi] at e; cases e
    | some i =>
      rw [hi] at e
      cases hn : allI D.int? ds with
      | none => simp only [Option.bind_some, hn] at e; cases e
      | some ns =>
        simp only [Option.bind_some, hn] at e
        split at e
        · rename_i hc
          cases e
          have ed := allI_D hn
          subst ed
          have ev := ints_rep h
          subst ev
          exact ⟨_, _, by simp only [muV, muG, int_rep k1 hi, Option.bind_some, allI_V]; rw [if_pos hc], h.erase _, rfl⟩
        · cases e
  · cases e
/-- the reading of a change -/
def rMu (m : Mu) (x : V) (ws : List V) (H : Hp) (Q : VK) : Prop := ∃ (a : Addr) (vs vs' : List V) (v : V), x = .ref a ∧ H a = some (.lst vs) ∧ muV m vs ws = some (vs', v) ∧ Q v (upd H a (.lst vs'))
theorem Rel.stbOwn {ρ Z : List Addr} {S : Sto} {F : List (V × D)} {a : Addr} {ds : List D} {o : HO} (r : Rel K ρ Z S ((.ref a, .own ds) :: F) H) : Stb K Z H (upd H a o) := by
  obtain ⟨a', vs, e, q, _⟩ := r.fr _ List.mem_cons_self
  cases e
  refine Stb.set q fun b hb e => ?_
  subst e
  have := (r.zz b hb).1
  simp [cF, ownA] at this
theorem Rel.stbRef {ρ Z : List Addr} {S : Sto} {F : List (V × D)} {a : Addr} {n : Nat} {ds : List D} {o : HO} (r : Rel K ρ Z S F H) (hS : S[n]? = some (.lst ds)) (hr : ρ[n]? = some a) : Stb K Z H (upd H a o) := by
  obtain ⟨vs, q, _⟩ := r.so n _ a hS hr
  refine Stb.set q fun b hb e => ?_
  subst e
  have := (r.zz b hb).1
  have := count_pos hr
  omega
/-- a change of the list at a place -/
theorem mutM_of {m : Mu} {ρ Z : List Addr} {S : Sto} {en : Env} {F : List (V × D)} {good : D → Env → Sto → Prop} {d0 : D} {slot : Option Nat} {as : List D} {ws : List V} {v0 : V} (k : EnvOk σ en) (r : Rel K ρ Z S (pairs σ en ++ F) H)
    (ha : RepSs K ρ Z H as ws) (hs : ∀ i, slot = some i → en[i]? = some (some d0) ∧ σ[i]? = some (some v0)) (h0 : Rep K ρ Z H d0 v0) (h : Post K W σ F good (mutM m d0 slot as en S)) {Q : VK}
    (hQ : ∀ d en' S', good d en' S' → ∀ (v : V) (H' : Hp), EnvOk σ en' → Rel K ρ Z S' ((v, d) :: (pairs σ en' ++ F)) H' → Q v H') : rMu m v0 ws H Q := by
  unfold mutM at h
  split at h
  · rename_i ds
    split at h
    · rename_i i ds' d hm
      obtain ⟨e1, e2⟩ := hs i rfl
      obtain ⟨a, vs, rfl, q, y⟩ := h0
      obtain ⟨vs', v, hv, y', rv⟩ := mu_rep y ha hm
      have r1 := r.le (le_move (G := F) k e1 e2)
      have st := r1.stbOwn (o := .lst vs')
      have r2 := r1.changeOwn y'
      have r3 := r2.le (le_back (σ := σ) (en := en.set i none) (i := i) (v := .ref a) (d := .own ds') (G := F) (k.wipe i) (by simpa using lt_of_get? e1) e2)
      refine ⟨a, vs, vs', v, rfl, q, hv, hQ d _ _ h v _ (k.re e1 _) ?_⟩
      have r4 := r3.push (RepS.stb st (fun _ _ h => h) (fun _ h => h) _ _ rv)
      simpa using r4
    · exact h.elim
  · rename_i n
    split at h
    · rename_i ds hS
      split at h
      · rename_i ds' d hm
        obtain ⟨a, rfl, hr⟩ := (show RepS K ρ Z H (.ref n) v0 from h0)
        obtain ⟨vs, q, y⟩ := r.so n _ a hS hr
        obtain ⟨vs', v, hv, y', rv⟩ := mu_rep y ha hm
        have st := r.stbRef (o := .lst vs') hS hr
        exact ⟨a, vs, vs', v, rfl, q, hv, hQ d _ _ h v _ k ((r.changeRef hS hr y').push (RepS.stb st (fun _ _ h => h) (fun _ h => h) _ _ rv))⟩
      · exact h.elim
    · exact h.elim
  · exact h.elim
theorem look_ok {d : D} {v : V} {ρ Z : List Addr} {S : Sto} {en : Env} {F G : List (V × D)} {good : Unit → Env → Sto → Prop} (r : Rel K ρ Z S G H) (h : Rep K ρ Z H d v) (q : Post K W σ F good (lookL d en S)) : tyV K "list" v H ∧ good () en S := by
  unfold lookL at q
  split at q
  · obtain ⟨a, vs, rfl, k, _⟩ := h
    exact ⟨.inl ⟨rfl, vs, .of k⟩, q⟩
  · rename_i n
    split at q
    · rename_i ds hS
      obtain ⟨a, rfl, hr⟩ := (show RepS K ρ Z H (.ref n) v from h)
      obtain ⟨vs, k, _⟩ := r.so n _ a hS hr
      exact ⟨.inl ⟨rfl, vs, .of k⟩, q⟩
    · exact q.elim
  · exact q.elim
/-- o.m(..): the place is a name -/
theorem mut_var {m : Mu} {i : Nat} {ms : M (List D)} {ta : TA} (ha : ∀ σ H Q, simAs K W ms σ H Q → ta σ H Q) {Q : VK}
    (h : simE K W (((getV i).bind fun _ => .ret (none : Option D)).bind fun r => (lookP (some i) r).bind fun _ => ms.bind fun as => (match r with
      | none => (match some i with
        | some i => (getV i).bind fun d0 => mutM m d0 (some i) (as.map D.hard)
        | none => .stuck)
      | some d0 => mutM m d0 none (as.map D.hard))) σ H Q) : tVar i σ H fun x H1 => tyV K "list" x H1 ∧ ta σ H1 fun ws H2 => rMu m x ws H2 Q := by
  obtain ⟨ρ, Z, S, en, F, ⟨k, r⟩, h⟩ := h
  obtain ⟨d0, e0, h⟩ := getV_ok h.bind.bind
  obtain ⟨v, hv, hm⟩ := slot_v k e0
  obtain ⟨d0', e0', h⟩ := getV_ok (Post.bind (Post.bind h.ok))
  rw [e0] at e0'; cases e0'
  obtain ⟨ht, h⟩ := look_ok r (r.fr (v, d0) (List.mem_append_left _ hm)) h
  refine ⟨v, hv, ht, ?_⟩
  refine ha σ H _ (Sim.start k r (Le.refl F) (Post.bind h) fun ds en1 S1 q ρ1 Z1 vs H1 k1 hl r1 => ?_)
  obtain ⟨Z2, r2, h2, _⟩ := hardens hl r1
  obtain ⟨d, e, q⟩ := getV_ok q.bind
  obtain ⟨v', hv', hm'⟩ := slot_v k1 e
  rw [hv] at hv'; cases hv'
  exact mutM_of k1 r2 h2 (fun j hj => by cases hj; exact ⟨e, hv⟩) (r2.fr (v, d) (List.mem_append_left _ hm')) q fun d en' S' g v H' k' r' => g _ _ v H' k' r'
theorem mut_exp {m : Mu} {m0 : M D} {t0 : TE} {slot : Option Nat} {ms : M (List D)} {ta : TA} (h0 : ∀ σ H Q, simE K W m0 σ H Q → t0 σ H Q) (ha : ∀ σ H Q, simAs K W ms σ H Q → ta σ H Q) {Q : VK}
    (h : simE K W ((m0.bind fun d => .ret (some d)).bind fun r => (lookP slot r).bind fun _ => ms.bind fun as => (match r with
      | none => (match slot with
        | some i => (getV i).bind fun d0 => mutM m d0 (some i) (as.map D.hard)
        | none => .stuck)
      | some d0 => mutM m d0 none (as.map D.hard))) σ H Q) : t0 σ H fun x H1 => tyV K "list" x H1 ∧ ta σ H1 fun ws H2 => rMu m x ws H2 Q := by
  obtain ⟨ρ, Z, S, en, F, ⟨k, r⟩, h⟩ := h
  refine h0 σ H _ (Sim.start k r (Le.refl F) h.bind.bind fun d0 en0 S0 q0 ρ0 Z0 v0 H0 k0 r0 => ?_)
  obtain ⟨ht, q0⟩ := look_ok r0 (r0.fr (v0, d0) List.mem_cons_self) (Post.bind q0.ok)
  refine ⟨ht, ha σ H0 _ (Sim.start k0 (F' := (v0, d0) :: F) (r0.le le_swap) le_drop (Post.bind q0) fun ds en1 S1 q ρ1 Z1 vs H1 k1 hl r1 => ?_)⟩
  obtain ⟨Z2, r2, h2, _⟩ := hardens hl r1
  have r3 := r2.le (app_le le_drop)
  exact mutM_of k1 r3 h2 (fun j hj => by cases hj) (r2.fr (v0, d0) (List.mem_append_right _ List.mem_cons_self)) q fun d en' S' g v H' k' r' => g _ _ v H' k' r'

/-! ### targets -/
/-- it ends well, and so -/
def OkP {α : Type} (good : α → Env → Sto → Prop) : R α → Prop
  | .ok a en S => good a en S
  | .exc _ _ _ => False
  | .stuck => False
theorem OkP.bind {good : β → Env → Sto → Prop} {m : M α} {f : α → M β} {en : Env} {S : Sto} (h : OkP good (M.bind m f en S)) : OkP (fun a en1 S1 => OkP good (f a en1 S1)) (m en S) := by
  unfold M.bind R.bind at h
  cases e : m en S with
  | ok a en1 S1 => rw [e] at h; exact h
  | exc x en1 S1 => rw [e] at h; exact h
  | stuck => rw [e] at h; exact h
/-- a part that may not raise -/
theorem OkP.calm {m : M α} {good : α → Env → Sto → Prop} {en : Env} {S : Sto} (h : OkP good (m.calm en S)) {F : List (V × D)} : Post K W σ F good (m en S) := by
  unfold M.calm at h
  cases e : m en S with
  | ok a en1 S1 => rw [e] at h; exact h
  | exc x en1 S1 => rw [e] at h; exact h.elim
  | stuck => rw [e] at h; exact h.elim
theorem OkP.post {good : α → Env → Sto → Prop} {r : R α} (h : OkP good r) {F : List (V × D)} : Post K W σ F good r := by
  cases r with
  | ok a en1 S1 => exact h
  | exc x en1 S1 => exact h.elim
  | stuck => exact h.elim
def simG (K : KC) (m : D → M Unit) : TG := fun v σ H Q => ∃ (ρ Z : List Addr) (S : Sto) (en : Env) (F : List (V × D)) (d : D), EnvOk σ en ∧ Rel K ρ Z S ((v, d) :: (pairs σ en ++ F)) H ∧
  OkP (fun _ en' S' => ∀ (ρ' Z' : List Addr) (σ' : L2.St) (H' : Hp), EnvOk σ' en' → σ'.length = σ.length → Rel K ρ' Z' S' (pairs σ' en' ++ F) H' → Q σ' H') (m d en S)
def simGs (K : KC) (m : List D → M Unit) : TGs := fun vs σ H Q => ∃ (ρ Z : List Addr) (S : Sto) (en : Env) (F : List (V × D)) (ds : List D), EnvOk σ en ∧ Rel K ρ Z S (pairs σ en ++ F) H ∧ RepSs K ρ Z H ds vs ∧
  OkP (fun _ en' S' => ∀ (ρ' Z' : List Addr) (σ' : L2.St) (H' : Hp), EnvOk σ' en' → σ'.length = σ.length → Rel K ρ' Z' S' (pairs σ' en' ++ F) H' → Q σ' H') (m ds en S)
theorem le_setAll (k : EnvOk σ en) {i : Nat} {v' : V} {d' : D} {G : List (V × D)} : Le (pairs (σ.set i (some v')) (en.set i (some d')) ++ G) ((v', d') :: (pairs σ en ++ G)) := by
  by_cases hi : i < en.length
  · exact le_setAny hi (by rw [k.len]; exact hi)
  · rw [List.set_eq_of_length_le (by rw [k.len]; omega), List.set_eq_of_length_le (by omega)]
    exact le_drop
theorem g_name {i : Nat} {v : V} {Q : L2.St → Hp → Prop} (h : simG K (fun d => setV i d) v σ H Q) : gName i v σ H Q := by
  obtain ⟨ρ, Z, S, en, F, d, k, r, h⟩ := h
  exact h ρ Z _ H (k.set i v (some d)) (by simp) (r.le (le_setAll k))
theorem g_nil {vs : List V} {Q : L2.St → Hp → Prop} (h : simGs K (fun ds => match ds with | [] => .ret () | _ :: _ => .stuck) vs σ H Q) : gNil vs σ H Q := by
  obtain ⟨ρ, Z, S, en, F, ds, k, r, y, h⟩ := h
  cases ds with
  | nil => exact ⟨y, h ρ Z σ H k rfl r⟩
  | cons => exact h.elim
theorem Rel.pushes : ∀ {ds : List D} {vs : List V} {ρ Z : List Addr} {S : Sto} {F : List (V × D)} {H : Hp}, Rel K ρ Z S F H → RepSs K ρ Z H ds vs → Rel K ρ Z S (vs.zip ds ++ F) H
  | [], _, _, _, _, _, _, r, h => by cases (show _ = [] from h); exact r
  | d :: ds, _, _, _, _, _, _, r, h => by
    obtain ⟨v, q, rfl, h1, h2⟩ := h
    exact (r.pushes h2).push h1
theorem RepSs.again : ∀ {ds : List D} {vs : List V} {ρ Z ρ' Z' : List Addr} {H H' : Hp}, RepSs K ρ Z H ds vs → (∀ p ∈ vs.zip ds, Rep K ρ' Z' H' p.2 p.1) → RepSs K ρ' Z' H' ds vs
  | [], _, _, _, _, _, _, _, h, _ => h
  | d :: ds, _, _, _, _, _, _, _, h, k => by
    obtain ⟨v, q, rfl, h1, h2⟩ := h
    refine ⟨v, q, rfl, ?_, h2.again fun p hp => k p (List.mem_cons_of_mem _ hp)⟩
    have := k (v, d) List.mem_cons_self
    cases d with
    | own xs => exact h1.elim
    | _ => exact this
theorem g_cons {t : TG} {u : TGs} {m : D → M Unit} {ms : List D → M Unit} (ht : ∀ v σ H Q, simG K m v σ H Q → t v σ H Q) (hu : ∀ vs σ H Q, simGs K ms vs σ H Q → u vs σ H Q) {vs : List V} {Q : L2.St → Hp → Prop}
    (h : simGs K (fun ds => match ds with | d :: ds => (m d).bind fun _ => ms ds | [] => .stuck) vs σ H Q) : gCons t u vs σ H Q := by
  obtain ⟨ρ, Z, S, en, F, ds, k, r, y, h⟩ := h
  cases ds with
  | nil => exact h.elim
  | cons d ds =>
    obtain ⟨v, vr, rfl, y1, y2⟩ := y
    refine ⟨v, vr, rfl, ht v σ H _ ⟨ρ, Z, S, en, vr.zip ds ++ F, d, k, ?_, ?_⟩⟩
    · refine ((r.pushes y2).push y1).le (Le.cons ⟨fun p hp => ?_, fun a => by simp only [cF_append]; omega⟩ _)
      simp only [List.mem_append] at hp ⊢
      rcases hp with h | h | h
      · exact .inr (.inl h)
      · exact .inl h
      · exact .inr (.inr h)
    · have h1 := OkP.bind h
      generalize m d en S = res at h1
      cases res with
      | ok x en1 S1 =>
        intro ρ1 Z1 σ1 H1 k1 l1 r1
        refine hu vr σ1 H1 _ ⟨ρ1, Z1, S1, en1, F, ds, k1, r1.le le_mid, y2.again fun p hp => r1.fr p (List.mem_append_right _ (List.mem_append_left _ hp)), ?_⟩
        rw [l1]
        exact h1
      | exc x en1 S1 => exact h1.elim
      | stuck => exact h1.elim
theorem g_tup {n : Nat} {u : TGs} {ms : List D → M Unit} (hu : ∀ vs σ H Q, simGs K ms vs σ H Q → u vs σ H Q) {v : V} {Q : L2.St → Hp → Prop}
    (h : simG K (fun d => match d with | .tup ds => if ds.length = n then ms ds else .stuck | _ => .stuck) v σ H Q) : gTup K n u v σ H Q := by
  obtain ⟨ρ, Z, S, en, F, d, k, r, h⟩ := h
  cases d with
  | tup ds =>
    replace h : OkP _ ((if ds.length = n then ms ds else M.stuck) en S) := h
    by_cases hl : ds.length = n
    · rw [if_pos hl] at h
      obtain ⟨a, vs, rfl, q, y⟩ := (r.fr _ List.mem_cons_self : Rep K ρ Z H (.tup ds) v).sqt
      exact ⟨a, vs, rfl, q, y.length.trans hl, hu vs σ H Q ⟨ρ, Z, S, en, F, ds, k, r.le le_drop, y, h⟩⟩
    · rw [if_neg hl] at h
      exact h.elim
  | _ => exact h.elim
/-- o[i] = v -/
theorem set_of {x i v : V} {H : Hp} {Q : Hp → Prop} (h : rMu .set x [i, v] H fun _ H' => Q H') : rSetL x i v H Q := by
  obtain ⟨a, vs, vs', z, rfl, q, e, hq⟩ := h
  simp only [muV, muG] at e
  cases hi : V.int? i with
  | none => rw [hi] at e; cases e
  | some k =>
    rw [hi] at e
    simp only [Option.bind_some] at e
    cases hj : ixN vs.length k with
    | none => rw [hj] at e; cases e
    | some j =>
      rw [hj] at e
      cases e
      cases i <;> simp only [V.int?, Option.some.injEq] at hi <;> first | (cases hi; done) | skip
      subst hi
      exact ⟨a, vs, _, j, rfl, rfl, q, hj, hq⟩
theorem g_subV {n : Nat} {mi : M D} {ti : TE} (hi : ∀ σ H Q, simE K W mi σ H Q → ti σ H Q) {v : V} {Q : L2.St → Hp → Prop}
    (h : simG K (fun d => ((getV n).bind fun _ => .ret (none : Option D)).calm.bind fun r => mi.calm.bind fun j => (match r with
      | none => (match some n with
        | some n => (getV n).bind fun d0 => (mutM .set d0 (some n) [j.hard, d.hard]).bind fun _ => .ret ()
        | none => .stuck)
      | some d0 => (mutM .set d0 none [j.hard, d.hard]).bind fun _ => .ret ())) v σ H Q) : gSub (tVar n) ti rSetL v σ H Q := by
  obtain ⟨ρ, Z, S, en, F, d, k, r, h⟩ := h
  have h1 := OkP.calm (K := K) (W := W) (σ := σ) (F := (v, d) :: F) h.bind
  obtain ⟨d0, e0, h2⟩ := getV_ok h1.bind
  obtain ⟨v0, hv, hm⟩ := slot_v k e0
  refine ⟨v0, hv, ?_⟩
  have h3 := OkP.calm (K := K) (W := W) (σ := σ) (F := (v, d) :: F) (OkP.bind h2.ok)
  refine hi σ H _ (Sim.start k (F' := (v, d) :: F) (r.le le_swap) (Le.refl _) h3 fun j en1 S1 q ρ1 Z1 vj H1 k1 r1 => set_of ?_)
  have q := OkP.post (K := K) (W := W) (σ := σ) (F := F) q
  obtain ⟨d1, e1, q⟩ := getV_ok q.bind
  obtain ⟨v1, hv1, hm1⟩ := slot_v k1 e1
  rw [hv] at hv1; cases hv1
  obtain ⟨Z2, r2, h2, _⟩ := hardens (vs := [vj, v]) (ds := [j, d]) (F := pairs σ en1 ++ F) rfl (r1.le (show Le ((vj, j) :: (v, d) :: (pairs σ en1 ++ F)) _ from Le.cons le_swap' _))
  exact mutM_of k1 r2 h2 (fun m hm => by cases hm; exact ⟨e1, hv⟩) (r2.fr (v0, d1) (List.mem_append_left _ hm1)) q.bind fun d' en' S' g v' H' k' r' => g ρ1 Z2 σ H' k' rfl (r'.le le_drop)
theorem g_subE {slot : Option Nat} {m0 mi : M D} {t0 ti : TE} (h0 : ∀ σ H Q, simE K W m0 σ H Q → t0 σ H Q) (hi : ∀ σ H Q, simE K W mi σ H Q → ti σ H Q) {v : V} {Q : L2.St → Hp → Prop}
    (h : simG K (fun d => (m0.bind fun d => .ret (some d)).calm.bind fun r => mi.calm.bind fun j => (match r with
      | none => (match slot with
        | some n => (getV n).bind fun d0 => (mutM .set d0 (some n) [j.hard, d.hard]).bind fun _ => .ret ()
        | none => .stuck)
      | some d0 => (mutM .set d0 none [j.hard, d.hard]).bind fun _ => .ret ())) v σ H Q) : gSub t0 ti rSetL v σ H Q := by
  obtain ⟨ρ, Z, S, en, F, d, k, r, h⟩ := h
  have h1 := OkP.calm (K := K) (W := W) (σ := σ) (F := (v, d) :: F) h.bind
  refine h0 σ H _ (Sim.start k (F' := (v, d) :: F) (r.le le_swap) (Le.refl _) h1.bind fun d0 en0 S0 q0 ρ0 Z0 v0 H0 k0 r0 => ?_)
  have h3 := OkP.calm (K := K) (W := W) (σ := σ) (F := (v0, d0) :: (v, d) :: F) (OkP.bind q0.ok)
  refine hi σ H0 _ (Sim.start k0 (F' := (v0, d0) :: (v, d) :: F) (r0.le le_swap) (Le.refl _) h3 fun j en1 S1 q ρ1 Z1 vj H1 k1 r1 => set_of ?_)
  have q := OkP.post (K := K) (W := W) (σ := σ) (F := F) q
  obtain ⟨Z2, r2, h2, _⟩ := hardens (vs := [vj, v]) (ds := [j, d]) (F := pairs σ en1 ++ (v0, d0) :: F) rfl (r1.le (show Le ((vj, j) :: (v, d) :: (pairs σ en1 ++ (v0, d0) :: F)) _ from Le.cons ⟨fun p hp => by
    simp only [List.mem_cons, List.mem_append] at hp ⊢
    rcases hp with h | h | h | h
    · exact .inr (.inr (.inl h))
    · exact .inl h
    · exact .inr (.inl h)
    · exact .inr (.inr (.inr h)), fun a => by simp only [cF, cF_append]; omega⟩ _))
  exact mutM_of k1 (r2.le (app_le le_drop)) h2 (fun m hm => by cases hm) (r2.fr (v0, d0) (List.mem_append_right _ List.mem_cons_self)) q.bind fun d' en' S' g v' H' k' r' => g ρ1 Z2 σ H' k' rfl (r'.le le_drop)
end
end Mi
end
section
set_option Elab.async false
set_option maxRecDepth 100000
set_option linter.all false
namespace Mi
open PySem PySem.Spec PyProof.Rows L2
section
variable {K : KC} {W : MW} {σ : L2.St} {H : Hp} {α β : Type} {en : Env}
/-- an iterator draws these values, whatever stands beside -/
structure ItOk (K : KC) (J : It) (held : List (V × D)) (ds : List D) : Prop where
  go : ∀ (ρ Z : List Addr) (S : Sto) (F : List (V × D)) (H : Hp) (i : Nat) (d : D), Rel K ρ Z S (held ++ F) H → ds[i]? = some d → J.go i H ∧ ∀ x H', J.yld i H x H' → Rel K ρ Z S (held ++ F) H' ∧ RepS K ρ Z H' d x
  stop : ∀ (ρ Z : List Addr) (S : Sto) (F : List (V × D)) (H : Hp), Rel K ρ Z S (held ++ F) H → J.stop ds.length H
def simI (K : KC) (W : MW) (m : M (List D)) : TI := fun σ H R => Sim K W m (fun σ F ds en S => ∀ (ρ Z : List Addr) (H : Hp) (J : It) (held : List (V × D)), EnvOk σ en → Rel K ρ Z S (held ++ (pairs σ en ++ F)) H → ItOk K J held ds → R J H) σ H
theorem it_list {v : V} {d : D} {ds : List D} (hd : d.lst? = some ds) {a : Addr} (hv : v = .ref a) : ItOk K (Itl K a) [(v, d)] ds := by
  subst hv
  refine ⟨fun ρ Z S F H i d' r hi => ?_, fun ρ Z S F H r => ?_⟩
  · obtain ⟨a', vs, e, q, y⟩ := (r.fr _ List.mem_cons_self : Rep K ρ Z H d (.ref a)).sql hd
    cases e
    obtain ⟨x, hx, rx⟩ := y.get hi
    refine ⟨⟨vs, x, q, hx⟩, fun x' H' hy => ?_⟩
    obtain ⟨rfl, h⟩ := hy
    have := h vs q
    rw [hx] at this; cases this
    exact ⟨r, rx⟩
  · obtain ⟨a', vs, e, q, y⟩ := (r.fr _ List.mem_cons_self : Rep K ρ Z H d (.ref a)).sql hd
    cases e
    exact ⟨vs, q, Nat.le_of_eq y.length⟩
theorem sqt_inj {ρ Z : List Addr} {a : Addr} {vs ws : List V} {ds : List D} (h : SqT K H a vs) (k : SqT K H a ws) (r : RepSs K ρ Z H ds vs) : vs = ws ∨ True := .inr trivial
theorem it_tup {v : V} {ds : List D} {a : Addr} (hv : v = .ref a) : ItOk K (Itt K a) [(v, .tup ds)] ds := by
  subst hv
  refine ⟨fun ρ Z S F H i d' r hi => ?_, fun ρ Z S F H r => ?_⟩
  · obtain ⟨a', vs, e, q, y⟩ := (r.fr _ List.mem_cons_self : Rep K ρ Z H (.tup ds) (.ref a)).sqt
    cases e
    obtain ⟨x, hx, rx⟩ := y.get hi
    refine ⟨⟨vs, x, q, hx⟩, fun x' H' hy => ?_⟩
    obtain ⟨rfl, h⟩ := hy
    have := h vs q
    rw [hx] at this; cases this
    exact ⟨r, rx⟩
  · obtain ⟨a', vs, e, q, y⟩ := (r.fr _ List.mem_cons_self : Rep K ρ Z H (.tup ds) (.ref a)).sqt
    cases e
    exact ⟨vs, q, Nat.le_of_eq y.length⟩
theorem it_str {x : Str} {held : List (V × D)} : ItOk K (Its x) held (x.cps.toList.map fun c => .str ⟨#[c]⟩) := by
  refine ⟨fun ρ Z S F H i d' r hi => ?_, fun ρ Z S F H r => ?_⟩
  · rw [List.getElem?_map, Array.getElem?_toList] at hi
    cases e : x.cps[i]? with
    | none => rw [e] at hi; cases hi
    | some c =>
      rw [e] at hi
      cases hi
      refine ⟨(Array.getElem?_eq_some_iff.mp e).1, fun x' H' hy => ?_⟩
      obtain ⟨rfl, c', e', rfl⟩ := hy
      rw [e] at e'; cases e'
      exact ⟨r, rfl⟩
  · show x.cps.size ≤ _
    simp
theorem it_rng {lo : Int} {n : Nat} {held : List (V × D)} : ItOk K (Itr lo n) held (rngD lo n) := by
  refine ⟨fun ρ Z S F H i d' r hi => ?_, fun ρ Z S F H r => ?_⟩
  · have hn : i < n := by have := lt_of_get? hi; simpa [rngD] using this
    unfold rngD at hi
    rw [List.getElem?_map, List.getElem?_range hn] at hi
    cases hi
    refine ⟨hn, fun x' H' hy => ?_⟩
    obtain ⟨rfl, rfl⟩ := hy
    exact ⟨r, rfl⟩
  · show n ≤ _
    simp [rngD]
theorem enumD_get : ∀ {ds : List D} {k i : Nat} {d : D}, (enumD k ds)[i]? = some d → ∃ d', ds[i]? = some d' ∧ d = .tup [.int ((k + i : Nat) : Int), d']
  | [], k, i, d, h => by simp [enumD] at h
  | x :: ds, k, 0, d, h => by
    simp only [enumD, List.getElem?_cons_zero, Option.some.injEq] at h
    exact ⟨x, rfl, by rw [← h]; rfl⟩
  | x :: ds, k, i + 1, d, h => by
    simp only [enumD, List.getElem?_cons_succ] at h
    obtain ⟨d', h1, h2⟩ := enumD_get h
    exact ⟨d', by simpa using h1, by rw [h2, Nat.add_right_comm k 1 i, Nat.add_assoc k i 1]⟩
theorem enumD_len : ∀ (ds : List D) (k : Nat), (enumD k ds).length = ds.length
  | [], _ => rfl
  | _ :: ds, k => by simp [enumD, enumD_len ds]
theorem it_enum {v : V} {d : D} {ds : List D} (hd : d.lst? = some ds) {a : Addr} (hv : v = .ref a) : ItOk K (Ite K a) [(v, d)] (enumD 0 ds) := by
  subst hv
  refine ⟨fun ρ Z S F H i d' r hi => ?_, fun ρ Z S F H r => ?_⟩
  · obtain ⟨a', vs, e, q, y⟩ := (r.fr _ List.mem_cons_self : Rep K ρ Z H d (.ref a)).sql hd
    cases e
    obtain ⟨d1, h1, rfl⟩ := enumD_get hi
    obtain ⟨x, hx, rx⟩ := y.get h1
    refine ⟨⟨vs, x, q, hx⟩, fun x' H' hy => ?_⟩
    obtain ⟨T, x1, rfl, hT, rfl, h⟩ := hy
    have := h vs q
    rw [hx] at this; cases this
    have st : Stb K Z H (upd H T (.tup [.int (i : Nat), x])) := Stb.new hT (r.zne hT)
    refine ⟨r.grow hT, T, _, rfl, .of upd_same, .cons ?_ (.one (RepS.stb st (fun _ _ h => h) (fun _ h => h) _ _ rx))⟩
    show _ = _
    rw [Nat.zero_add]
  · obtain ⟨a', vs, e, q, y⟩ := (r.fr _ List.mem_cons_self : Rep K ρ Z H d (.ref a)).sql hd
    cases e
    exact ⟨vs, q, Nat.le_of_eq (by rw [enumD_len]; exact y.length)⟩

/-- what is walked: a list, a tuple, a text -/
theorem seq_of {m : M D} {te : TE} (ha : ∀ σ H Q, simE K W m σ H Q → te σ H Q) {R : It → Hp → Prop} (h : simI K W (m.bind fun d => M.opt (seqItems d)) σ H R) :
    iList K te σ H R ∨ iTup K te σ H R ∨ iStr te σ H R := by
  obtain ⟨ρ, Z, S, en, F, ⟨k, r⟩, h⟩ := h
  have h0 := h.bind
  have go : ∀ {P : V → Hp → Prop}, (∀ d en1 S1, Post K W σ F (fun ds en S => ∀ (ρ Z : List Addr) (H : Hp) (J : It) (held : List (V × D)), EnvOk σ en → Rel K ρ Z S (held ++ (pairs σ en ++ F)) H → ItOk K J held ds → R J H) (M.opt (seqItems d) en1 S1) → m en S = .ok d en1 S1 →
      ∀ ρ1 Z1 v H1, EnvOk σ en1 → Rel K ρ1 Z1 S1 ((v, d) :: (pairs σ en1 ++ F)) H1 → P v H1) → te σ H P := by
    intro P hP
    refine ha σ H _ ⟨ρ, Z, S, en, F, ⟨k, r⟩, ?_⟩
    generalize hm : m en S = res at h0
    cases res with
    | ok d en1 S1 => exact fun ρ1 Z1 v H1 k1 r1 => hP d en1 S1 h0 hm ρ1 Z1 v H1 k1 r1
    | exc x en1 S1 => exact h0
    | stuck => exact h0
  cases hm : m en S with
  | ok d en1 S1 =>
    rw [hm] at h0
    cases d with
    | tup ds =>
      refine .inr (.inl (go fun d' en' S' q e' ρ1 Z1 v H1 k1 r1 => ?_))
      rw [hm] at e'; cases e'
      obtain ⟨a, vs, rfl, q1, y⟩ := (r1.fr _ List.mem_cons_self : Rep K ρ1 Z1 H1 (.tup ds) v).sqt
      exact ⟨a, rfl, ⟨vs, q1⟩, q ρ1 Z1 H1 _ [(.ref a, .tup ds)] k1 r1 (it_tup rfl)⟩
    | own ds =>
      refine .inl (go fun d' en' S' q e' ρ1 Z1 v H1 k1 r1 => ?_)
      rw [hm] at e'; cases e'
      obtain ⟨a, vs, rfl, q1, y⟩ := (r1.fr _ List.mem_cons_self : Rep K ρ1 Z1 H1 (.own ds) v).sql (ds := ds) rfl
      exact ⟨a, rfl, ⟨vs, q1⟩, q ρ1 Z1 H1 _ [(.ref a, .own ds)] k1 r1 (it_list rfl rfl)⟩
    | frz ds =>
      refine .inl (go fun d' en' S' q e' ρ1 Z1 v H1 k1 r1 => ?_)
      rw [hm] at e'; cases e'
      obtain ⟨a, vs, rfl, q1, y⟩ := (r1.fr _ List.mem_cons_self : Rep K ρ1 Z1 H1 (.frz ds) v).sql (ds := ds) rfl
      exact ⟨a, rfl, ⟨vs, q1⟩, q ρ1 Z1 H1 _ [(.ref a, .frz ds)] k1 r1 (it_list rfl rfl)⟩
    | str x =>
      refine .inr (.inr (go fun d' en' S' q e' ρ1 Z1 v H1 k1 r1 => ?_))
      rw [hm] at e'; cases e'
      cases (r1.fr _ List.mem_cons_self : Rep K ρ1 Z1 H1 (.str x) v).str
      exact ⟨x, rfl, q ρ1 Z1 H1 _ [] k1 (r1.le le_drop) it_str⟩
    | _ => exact h0.elim
  | exc x en1 S1 =>
    refine .inl (go fun d' en' S' q e' => ?_)
    rw [hm] at e'; cases e'
  | stuck =>
    rw [hm] at h0
    exact h0.elim
theorem rng1_of {m : M D} {te : TE} (ha : ∀ σ H Q, simE K W m σ H Q → te σ H Q) {R : It → Hp → Prop} (h : simI K W (m.bind fun d => M.opt (match d with | .int n => if fit62 n then some (rngD 0 n.toNat) else none | _ => none)) σ H R) :
    iRng1 (tCons te tNil) σ H R := by
  obtain ⟨ρ, Z, S, en, F, ⟨k, r⟩, h⟩ := h
  refine ha σ H _ (Sim.start k r (Le.refl F) h.bind fun d en1 S1 q ρ1 Z1 v H1 k1 r1 => ?_)
  obtain ⟨ds, e, q⟩ := q.opt
  cases d <;> simp only at e <;> first | (cases e; done) | skip
  rename_i n
  split at e
  · rename_i hf
    cases e
    cases (r1.fr _ List.mem_cons_self : Rep K ρ1 Z1 H1 (.int n) v).int
    have := of_decide_eq_true hf
    exact ⟨n, rfl, this.1, this.2, q ρ1 Z1 H1 _ [] k1 (r1.le le_drop) it_rng⟩
  · cases e
theorem rng2_of {m m2 : M D} {te te2 : TE} (ha : ∀ σ H Q, simE K W m σ H Q → te σ H Q) (hb : ∀ σ H Q, simE K W m2 σ H Q → te2 σ H Q) {R : It → Hp → Prop}
    (h : simI K W (m.bind fun d => m2.bind fun f => M.opt (match d, f with | .int l, .int h => if fit62 l && fit62 h then some (rngD l (h - l).toNat) else none | _, _ => none)) σ H R) :
    iRng2 (tCons te (tCons te2 tNil)) σ H R := by
  obtain ⟨ρ, Z, S, en, F, ⟨k, r⟩, h⟩ := h
  refine ha σ H _ (Sim.start k r (Le.refl F) h.bind fun d en1 S1 q ρ1 Z1 v H1 k1 r1 => ?_)
  refine hb σ H1 _ (Sim.start k1 (F' := (v, d) :: F) (r1.le le_swap) le_drop q.bind fun f en2 S2 q2 ρ2 Z2 u H2 k2 r2 => ?_)
  obtain ⟨ds, e, q2⟩ := q2.opt
  have rd := r2.fr (v, d) (List.mem_cons_of_mem _ (List.mem_append_right _ List.mem_cons_self))
  have rf := r2.fr (u, f) List.mem_cons_self
  cases d <;> cases f <;> simp only at e <;> first | (cases e; done) | skip
  rename_i l hh
  split at e
  · rename_i hf
    cases e
    cases rd.int
    cases rf.int
    have hf' := Bool.and_eq_true_iff.mp hf
    have h1 := of_decide_eq_true hf'.1
    have h2 := of_decide_eq_true hf'.2
    exact ⟨l, hh, rfl, ⟨h1.1, h1.2, h2.1, h2.2⟩, q2 ρ2 Z2 H2 _ [] k2 ((r2.le le_drop).le (show Le (pairs σ en2 ++ F) (pairs σ en2 ++ _ :: F) from app_le le_drop)) it_rng⟩
  · cases e
theorem enum_of {m : M D} {te : TE} (ha : ∀ σ H Q, simE K W m σ H Q → te σ H Q) {R : It → Hp → Prop} (hl : ∀ en S d en1 S1, m en S = .ok d en1 S1 → ∃ ds, d.lst? = some ds)
    (h : simI K W (m.bind fun d => M.opt ((seqItems d).map (enumD 0))) σ H R) : iEnum K (tCons te tNil) σ H R := by
  obtain ⟨ρ, Z, S, en, F, ⟨k, r⟩, h⟩ := h
  have h0 := h.bind
  refine ha σ H _ ⟨ρ, Z, S, en, F, ⟨k, r⟩, ?_⟩
  generalize hm : m en S = res at h0
  cases res with
  | ok d en1 S1 =>
    intro ρ1 Z1 v H1 k1 r1
    obtain ⟨ds, hd⟩ := hl _ _ _ _ _ hm
    obtain ⟨a, vs, rfl, q1, y⟩ := (r1.fr _ List.mem_cons_self : Rep K ρ1 Z1 H1 d v).sql hd
    obtain ⟨es, e, q⟩ := h0.opt
    have : es = enumD 0 ds := by cases d <;> simp_all [D.lst?, seqItems]
    subst this
    exact ⟨a, vs, rfl, q1, q ρ1 Z1 H1 _ [(.ref a, d)] k1 r1 (it_enum hd rfl)⟩
  | exc x en1 S1 => exact h0
  | stuck => exact h0

/-! ### statements -/
def PostS (K : KC) (W : MW) (F : List (V × D)) (D' : Ends) : R Flow → Prop
  | .ok f en S => (match f with
    | .next => ∀ (ρ Z : List Addr) (σ : L2.St) (H : Hp), EnvOk σ en → Rel K ρ Z S (pairs σ en ++ F) H → D'.nx σ H
    | .brk => ∀ (ρ Z : List Addr) (σ : L2.St) (H : Hp), EnvOk σ en → Rel K ρ Z S (pairs σ en ++ F) H → D'.bk σ H
    | .cont => ∀ (ρ Z : List Addr) (σ : L2.St) (H : Hp), EnvOk σ en → Rel K ρ Z S (pairs σ en ++ F) H → D'.ct σ H
    | .ret d => ∀ (ρ Z : List Addr) (σ : L2.St) (v : V) (H : Hp), EnvOk σ en → Rel K ρ Z S ((v, d) :: (pairs σ en ++ F)) H → D'.rt v H)
  | .exc x en S => ∀ (ρ Z : List Addr) (σ : L2.St) (H : Hp) (cls : Value) (dx : Option Addr), EnvOk σ en → Rel K ρ Z S (pairs σ en ++ F) H → ExR W.mg K ρ Z H x cls dx → W.w cls dx σ H
  | .stuck => False
def simS (K : KC) (W : MW) (m : M Flow) : TS := fun D' σ H => ∃ (ρ Z : List Addr) (S : Sto) (en : Env) (F : List (V × D)), EnvOk σ en ∧ Rel K ρ Z S (pairs σ en ++ F) H ∧ PostS K W F D' (m en S)
theorem PostS.part {m : M α} {f : α → M Flow} {F : List (V × D)} {D' : Ends} {S : Sto} (h : PostS K W F D' (M.bind m f en S)) (σ : L2.St) : Post K W σ F (fun a en1 S1 => PostS K W F D' (f a en1 S1)) (m en S) := by
  unfold M.bind R.bind at h
  cases e : m en S with
  | ok a en1 S1 => rw [e] at h; exact h
  | exc x en1 S1 => rw [e] at h; exact fun ρ Z H cls dx => h ρ Z σ H cls dx
  | stuck => rw [e] at h; exact h
theorem PostS.grow {F F' : List (V × D)} {D' : Ends} {r : R Flow} (l : Le F F') (h : PostS K W F D' r) : PostS K W F' D' r := by
  cases r with
  | ok f en S =>
    cases f with
    | next => exact fun ρ Z σ H k r => h ρ Z σ H k (r.le (app_le l))
    | brk => exact fun ρ Z σ H k r => h ρ Z σ H k (r.le (app_le l))
    | cont => exact fun ρ Z σ H k r => h ρ Z σ H k (r.le (app_le l))
    | ret d => exact fun ρ Z σ v H k r => h ρ Z σ v H k (r.le (Le.cons (app_le l) _))
  | exc x en S => exact fun ρ Z σ H cls dx k r => h ρ Z σ H cls dx k (r.le (app_le l))
  | stuck => exact h
variable {D' : Ends}
theorem s_next (h : simS K W (.ret .next) D' σ H) : tNext D' σ H := by
  obtain ⟨ρ, Z, S, en, F, k, r, h⟩ := h
  exact h ρ Z σ H k r
theorem s_brk (h : simS K W (.ret .brk) D' σ H) : tBreak D' σ H := by
  obtain ⟨ρ, Z, S, en, F, k, r, h⟩ := h
  exact h ρ Z σ H k r
theorem s_cont (h : simS K W (.ret .cont) D' σ H) : tCont D' σ H := by
  obtain ⟨ρ, Z, S, en, F, k, r, h⟩ := h
  exact h ρ Z σ H k r
theorem s_ret {m : M D} {te : TE} (ha : ∀ σ H Q, simE K W m σ H Q → te σ H Q) (h : simS K W (m.bind fun d => .ret (.ret d)) D' σ H) : tRet te D' σ H := by
  obtain ⟨ρ, Z, S, en, F, k, r, h⟩ := h
  exact ha σ H _ (Sim.start k r (Le.refl F) (h.part σ) fun d en1 S1 q ρ1 Z1 v H1 k1 r1 => q ρ1 Z1 σ v H1 k1 r1)
theorem s_ex {m : M D} {te : TE} (ha : ∀ σ H Q, simE K W m σ H Q → te σ H Q) (h : simS K W (m.bind fun _ => .ret .next) D' σ H) : tDrop te D' σ H := by
  obtain ⟨ρ, Z, S, en, F, k, r, h⟩ := h
  exact ha σ H _ (Sim.start k r (Le.refl F) (h.part σ) fun d en1 S1 q ρ1 Z1 v H1 k1 r1 => q ρ1 Z1 σ H1 k1 (r1.le le_drop))
/-- a target's end, within a statement -/
theorem part_g {g : D → M Unit} {d : D} {F : List (V × D)} {S : Sto} (h : PostS K W F D' (M.bind (g d).calm (fun _ => .ret .next) en S)) :
    OkP (fun _ en' S' => ∀ (ρ' Z' : List Addr) (σ' : L2.St) (H' : Hp), EnvOk σ' en' → Rel K ρ' Z' S' (pairs σ' en' ++ F) H' → D'.nx σ' H') (g d en S) := by
  unfold M.bind R.bind M.calm at h
  cases e : g d en S with
  | ok a en1 S1 => rw [e] at h; exact h
  | exc x en1 S1 => rw [e] at h; exact h.elim
  | stuck => rw [e] at h; exact h.elim
theorem s_asg {m : M D} {g : D → M Unit} {te : TE} {tg : TG} (ha : ∀ σ H Q, simE K W m σ H Q → te σ H Q) (hg : ∀ v σ H Q, simG K g v σ H Q → tg v σ H Q) (h : simS K W (m.bind fun d => (g d).calm.bind fun _ => .ret .next) D' σ H) : tAsg te tg D' σ H := by
  obtain ⟨ρ, Z, S, en, F, k, r, h⟩ := h
  refine ha σ H _ (Sim.start k r (Le.refl F) (h.part σ) fun d en1 S1 q ρ1 Z1 v H1 k1 r1 => ?_)
  refine hg v σ H1 _ ⟨ρ1, Z1, S1, en1, F, d, k1, r1, ?_⟩
  have := part_g q
  generalize g d en1 S1 = res at this
  cases res with
  | ok a en2 S2 => exact fun ρ' Z' σ' H' k' _ r' => this ρ' Z' σ' H' k' r'
  | exc x en2 S2 => exact this
  | stuck => exact this
theorem s_if {c : M Bool} {a b : M Flow} {tc : TT} {ta tb : TS} (hc : ∀ σ H Q, simT K W c σ H Q → tc σ H Q) (ha : ∀ D' σ H, simS K W a D' σ H → ta D' σ H) (hb : ∀ D' σ H, simS K W b D' σ H → tb D' σ H)
    (h : simS K W (c.bind fun t => if t then a else b) D' σ H) : tIfS tc ta tb D' σ H := by
  obtain ⟨ρ, Z, S, en, F, k, r, h⟩ := h
  refine hc σ H _ (Sim.start k r (Le.refl F) (h.part σ) fun t en1 S1 q ρ1 Z1 H1 k1 r1 => ?_)
  cases t with
  | true => exact ha D' σ H1 ⟨ρ1, Z1, S1, en1, F, k1, r1, q⟩
  | false => exact hb D' σ H1 ⟨ρ1, Z1, S1, en1, F, k1, r1, q⟩
theorem PostS.seq {a b : M Flow} {F : List (V × D)} {S : Sto} {tb : TS} (hb : ∀ D' σ H, simS K W b D' σ H → tb D' σ H) (h : PostS K W F D' (M.bind a (fun f => match f with | .next => b | f => .ret f) en S)) : PostS K W F { D' with nx := tb D' } (a en S) := by
  unfold M.bind R.bind at h
  cases e : a en S with
  | ok f en1 S1 =>
    rw [e] at h
    cases f with
    | next => exact fun ρ Z σ H k r => hb D' σ H ⟨ρ, Z, S1, en1, F, k, r, h⟩
    | brk => exact h
    | cont => exact h
    | ret d => exact h
  | exc x en1 S1 => rw [e] at h; exact h
  | stuck => rw [e] at h; exact h
theorem s_seq {a b : M Flow} {ta tb : TS} (ha : ∀ D' σ H, simS K W a D' σ H → ta D' σ H) (hb : ∀ D' σ H, simS K W b D' σ H → tb D' σ H)
    (h : simS K W (a.bind fun f => match f with | .next => b | f => .ret f) D' σ H) : tSeq ta tb D' σ H := by
  obtain ⟨ρ, Z, S, en, F, k, r, h⟩ := h
  exact ha _ σ H ⟨ρ, Z, S, en, F, k, r, h.seq hb⟩
/-! ### loops -/
theorem s_while {c : M Bool} {b : M Flow} {n : Nat} {tc : TT} {tb : TS} (hc : ∀ σ H Q, simT K W c σ H Q → tc σ H Q) (hb : ∀ D' σ H, simS K W b D' σ H → tb D' σ H) (h : simS K W (whileL c b n) D' σ H) : tWhile tc tb D' σ H := by
  refine ⟨fun m σ H => simS K W (whileL c b m) D' σ H, ⟨n, h⟩, fun m σ H w => ?_⟩
  obtain ⟨ρ, Z, S, en, F, k, r, h⟩ := w
  cases m with
  | zero => exact h.elim
  | succ m =>
    refine hc σ H _ (Sim.start k r (Le.refl F) ((show PostS K W F D' (M.bind c _ en S) from h).part σ) fun t en1 S1 q ρ1 Z1 H1 k1 r1 => ?_)
    cases t with
    | false => exact q ρ1 Z1 σ H1 k1 r1
    | true =>
      refine ⟨fun σ' H' => simS K W (whileL c b m) D' σ' H', fun σ' H' w => ⟨m, Nat.lt_succ_self _, w⟩, ?_⟩
      refine hb _ σ H1 ⟨ρ1, Z1, S1, en1, F, k1, r1, ?_⟩
      replace q : PostS K W F D' (M.bind b (fun f => match f with | .next => whileL c b m | .cont => whileL c b m | .brk => .ret .next | .ret d => .ret (.ret d)) en1 S1) := q
      unfold M.bind R.bind at q
      cases e : b en1 S1 with
      | ok f en2 S2 =>
        rw [e] at q
        cases f with
        | next => exact fun ρ Z σ H k r => ⟨ρ, Z, S2, en2, F, k, r, q⟩
        | cont => exact fun ρ Z σ H k r => ⟨ρ, Z, S2, en2, F, k, r, q⟩
        | brk => exact q
        | ret d => exact q
      | exc x en2 S2 => rw [e] at q; exact q
      | stuck => rw [e] at q; exact q
theorem s_for {it : M (List D)} {g : D → M Unit} {b : M Flow} {wi : TI} {tg : TG} {tb : TS} (hi : ∀ σ H R, simI K W it σ H R → wi σ H R) (hg : ∀ v σ H Q, simG K g v σ H Q → tg v σ H Q) (hb : ∀ D' σ H, simS K W b D' σ H → tb D' σ H)
    (h : simS K W (it.bind fun ds => forL (fun d => (g d).calm) b ds) D' σ H) : tFor wi tg tb D' σ H := by
  obtain ⟨ρ, Z, S, en, F, k, r, h⟩ := h
  refine hi σ H _ (Sim.start k r (Le.refl F) (h.part σ) fun ds en1 S1 q ρ1 Z1 H1 J held k1 r1 ok => ?_)
  refine ⟨fun i m σ H => i ≤ ds.length ∧ m = ds.length - i ∧ ∃ (ρ Z : List Addr) (S : Sto) (en : Env), EnvOk σ en ∧ Rel K ρ Z S (held ++ (pairs σ en ++ F)) H ∧ PostS K W F D' (forL (fun d => (g d).calm) b (ds.drop i) en S),
    ⟨ds.length, Nat.zero_le _, by simp, ρ1, Z1, S1, en1, k1, r1, q⟩, ?_⟩
  rintro i m σ H ⟨hi, rfl, ρ, Z, S, en, k, r, q⟩
  by_cases hlt : i < ds.length
  · obtain ⟨go, yl⟩ := ok.go ρ Z S _ H i ds[i] r (List.getElem?_eq_getElem hlt)
    refine .inr ⟨go, fun σ' H' => ∃ (ρ Z : List Addr) (S : Sto) (en : Env), EnvOk σ' en ∧ Rel K ρ Z S (held ++ (pairs σ' en ++ F)) H' ∧ PostS K W F D' (forL (fun d => (g d).calm) b (ds.drop (i + 1)) en S), fun σ' H' w => ⟨ds.length - (i + 1), by omega, hlt, rfl, w⟩, fun x H' y => ?_⟩
    obtain ⟨r', rx⟩ := yl x H' y
    rw [List.drop_eq_getElem_cons hlt] at q
    have mv : ∀ {A B : List (V × D)}, Le (A ++ (B ++ F)) (B ++ (A ++ F)) := fun {A B} => ⟨fun p hp => by
      simp only [List.mem_append] at hp ⊢
      rcases hp with h | h | h
      · exact .inr (.inl h)
      · exact .inl h
      · exact .inr (.inr h), fun a => by simp only [cF_append]; omega⟩
    refine hg x σ H' _ ⟨ρ, Z, S, en, held ++ F, ds[i], k, (r'.push rx).le (Le.cons mv _), ?_⟩
    replace q : PostS K W F D' (M.bind (g ds[i]).calm (fun _ => M.bind b (fun f => match f with | .next => forL (fun d => (g d).calm) b (ds.drop (i + 1)) | .cont => forL (fun d => (g d).calm) b (ds.drop (i + 1)) | .brk => .ret .next | .ret d => .ret (.ret d))) en S) := q
    unfold M.bind R.bind M.calm at q
    cases e : g ds[i] en S with
    | ok u en2 S2 =>
      rw [e] at q
      intro ρ2 Z2 σ2 H2 k2 _ r2
      refine hb _ σ2 H2 ⟨ρ2, Z2, S2, en2, held ++ F, k2, r2, ?_⟩
      simp only at q
      cases e2 : b en2 S2 with
      | ok f en3 S3 =>
        rw [e2] at q
        have l1 : ∀ σ en, Le (pairs σ en ++ F) (pairs σ en ++ (held ++ F)) := fun σ en => le_mid
        cases f with
        | next => exact fun ρ Z σ H k r => ⟨ρ, Z, S3, en3, k, r.le mv, q⟩
        | cont => exact fun ρ Z σ H k r => ⟨ρ, Z, S3, en3, k, r.le mv, q⟩
        | brk => exact fun ρ Z σ H k r => q ρ Z σ H k (r.le (l1 _ _))
        | ret d => exact fun ρ Z σ v H k r => q ρ Z σ v H k (r.le (Le.cons (l1 _ _) _))
      | exc x en3 S3 =>
        rw [e2] at q
        exact fun ρ Z σ H cls dx k r => q ρ Z σ H cls dx k (r.le le_mid)
      | stuck => rw [e2] at q; exact q.elim
    | exc x en2 S2 => rw [e] at q; exact q.elim
    | stuck => rw [e] at q; exact q.elim
  · have hi' : i = ds.length := by omega
    subst hi'
    refine .inl ⟨ok.stop ρ Z S _ H r, ?_⟩
    rw [List.drop_length] at q
    exact q ρ Z σ H k (r.le ⟨fun p hp => List.mem_append_right _ hp, fun a => by simp only [cF_append]; omega⟩)
end
end Mi
end
section
set_option Elab.async false
set_option maxRecDepth 100000
set_option linter.all false
namespace Mi
open PySem PySem.Spec PyProof.Rows L2
/-! ### dicts of the store -/
section
variable {K : KC} {W : MW} {σ : L2.St} {H : Hp} {ρ Z : List Addr} {S : Sto} {F : List (V × D)}
theorem keyD_rep {x : D} {k : Ky} {v : V} (e : keyD x = some k) (h : Rep K ρ Z H x v) : v = kV k := by
  cases x <;> first | (cases e; done) | skip
  · simp only [keyD, Option.some.injEq] at e; subst e; exact h.int
  · simp only [keyD, Option.some.injEq] at e; subst e; exact h.str
theorem valD_rel : ∀ {kvs : List (Ky × D)} {vs : List V} {k : Ky}, RepSs K ρ Z H (kvs.map (·.2)) vs →
    (valD kvs k = none → valV ((kvs.map (·.1)).zip vs) k = none) ∧ ∀ d, valD kvs k = some d → ∃ v, valV ((kvs.map (·.1)).zip vs) k = some v ∧ RepS K ρ Z H d v
  | [], vs, k, h => by
    cases (show vs = [] from h)
    exact ⟨fun _ => rfl, fun d e => by simp [valD] at e⟩
  | (k', d') :: kvs, vs, k, h => by
    obtain ⟨v, r, rfl, h1, h2⟩ := h
    obtain ⟨a, b⟩ := valD_rel (kvs := kvs) (k := k) h2
    by_cases hk : k' = k
    · subst hk
      have e1 : valD ((k', d') :: kvs) k' = some d' := by simp [valD]
      have e2 : valV ((((k', d') :: kvs).map (·.1)).zip (v :: r)) k' = some v := valV_pos (p := (k', v)) rfl
      exact ⟨fun e => (by rw [e1] at e; cases e), fun d e => ⟨v, e2, (by rw [e1] at e; cases e; exact h1)⟩⟩
    · have e1 : valD ((k', d') :: kvs) k = valD kvs k := by simp [valD, hk]
      have e2 : valV ((((k', d') :: kvs).map (·.1)).zip (v :: r)) k = valV ((kvs.map (·.1)).zip r) k := valV_neg (p := (k', v)) hk
      rw [e1, e2]
      exact ⟨a, b⟩
theorem dropD_rel : ∀ {kvs : List (Ky × D)} {vs : List V} {k : Ky}, RepSs K ρ Z H (kvs.map (·.2)) vs →
    ∃ ws, RepSs K ρ Z H ((dropD kvs k).map (·.2)) ws ∧ dropK ((kvs.map (·.1)).zip vs) k = ((dropD kvs k).map (·.1)).zip ws
  | [], vs, k, h => by
    cases (show vs = [] from h)
    exact ⟨[], rfl, rfl⟩
  | (k', d') :: kvs, vs, k, h => by
    obtain ⟨v, r, rfl, h1, h2⟩ := h
    obtain ⟨ws, a, b⟩ := dropD_rel (kvs := kvs) (k := k) h2
    by_cases hk : k' = k
    · refine ⟨ws, by simpa [dropD, hk] using a, ?_⟩
      simpa [dropK, dropD, hk] using b
    · refine ⟨v :: ws, ?_, ?_⟩
      · have : dropD ((k', d') :: kvs) k = (k', d') :: dropD kvs k := by simp [dropD, hk]
        rw [this]
        exact ⟨v, ws, rfl, h1, a⟩
      · have e1 : dropD ((k', d') :: kvs) k = (k', d') :: dropD kvs k := by simp [dropD, hk]
        have e2 : dropK ((((k', d') :: kvs).map (·.1)).zip (v :: r)) k = (k', v) :: dropK ((kvs.map (·.1)).zip r) k := by simp [dropK, hk]
        rw [e1, e2, b]
        rfl
theorem putD_rel {kvs : List (Ky × D)} {vs : List V} {k : Ky} {d : D} {v : V} (h : RepSs K ρ Z H (kvs.map (·.2)) vs) (hd : RepS K ρ Z H d v) :
    ∃ ws, RepSs K ρ Z H ((putD kvs k d).map (·.2)) ws ∧ putK ((kvs.map (·.1)).zip vs) k v = ((putD kvs k d).map (·.1)).zip ws := by
  have hany : (((kvs.map (·.1)).zip vs).any fun kv => decide (kv.1 = k)) = (kvs.any fun kv => decide (kv.1 = k)) := by
    have : ∀ {kvs : List (Ky × D)} {vs : List V}, RepSs K ρ Z H (kvs.map (·.2)) vs → (((kvs.map (·.1)).zip vs).any fun kv => decide (kv.1 = k)) = (kvs.any fun kv => decide (kv.1 = k)) := by
      intro kvs
      induction kvs with
      | nil => intro vs h; rfl
      | cons p kvs ih =>
        intro vs h
        obtain ⟨v, r, rfl, h1, h2⟩ := h
        simp only [List.map_cons, List.zip_cons_cons, List.any_cons, ih h2]
    exact this h
  unfold putD putK
  rw [hany]
  split
  · have : ∀ {kvs : List (Ky × D)} {vs : List V}, RepSs K ρ Z H (kvs.map (·.2)) vs → ∃ ws, RepSs K ρ Z H ((kvs.map fun kv => if kv.1 = k then (kv.1, d) else kv).map (·.2)) ws ∧ (((kvs.map (·.1)).zip vs).map fun kv => if kv.1 = k then (kv.1, v) else kv) = ((kvs.map fun kv => if kv.1 = k then (kv.1, d) else kv).map (·.1)).zip ws := by
      intro kvs
      induction kvs with
      | nil => intro vs h; cases (show vs = [] from h); exact ⟨[], rfl, rfl⟩
      | cons p kvs ih =>
        intro vs h
        obtain ⟨w, r, rfl, h1, h2⟩ := h
        obtain ⟨ws, a, b⟩ := ih h2
        by_cases hk : p.1 = k
        · refine ⟨v :: ws, ?_, ?_⟩
          · simp only [List.map_cons, if_pos hk]
            exact ⟨v, ws, rfl, hd, a⟩
          · simp only [List.map_cons, List.zip_cons_cons, if_pos hk, b]
        · refine ⟨w :: ws, ?_, ?_⟩
          · simp only [List.map_cons, if_neg hk]
            exact ⟨w, ws, rfl, h1, a⟩
          · simp only [List.map_cons, List.zip_cons_cons, if_neg hk, b]
    exact this h
  · refine ⟨vs ++ [v], ?_, ?_⟩
    · rw [List.map_append]
      exact h.append (RepSs.one hd)
    · have hl := h.length
      rw [List.map_append, List.zip_append (by simpa using hl.symm)]
      rfl
/-- where a dict stands -/
theorem dic_rd {x : D} {v : V} {n : Nat} {kvs : List (Ky × D)} (r : Rel K ρ Z S F H) (h : Rep K ρ Z H x v) (e : dicAt S x = some (n, kvs)) : ∃ a vs, v = .ref a ∧ S[n]? = some (.dic kvs) ∧ ρ[n]? = some a ∧ H a = some (.dK ((kvs.map (·.1)).zip vs)) ∧ RepSs K ρ Z H (kvs.map (·.2)) vs := by
  cases x <;> first | (cases e; done) | skip
  rename_i m
  unfold dicAt at e
  simp only at e
  split at e
  · rename_i q
    cases e
    obtain ⟨a, rfl, hr⟩ := (show RepS K ρ Z H (.ref n) v from h)
    obtain ⟨vs, y1, y2⟩ := r.so n _ a q hr
    exact ⟨a, vs, rfl, q, hr, y1, y2⟩
  · cases e
theorem dnew_of {Q : VK} (h : simE K W dnewM σ H Q) : tDNewK σ H Q := by
  obtain ⟨ρ, Z, S, en, F, ⟨k, r⟩, h⟩ := h
  intro p hp
  exact h (ρ ++ [p]) Z (.ref p) _ k (r.newO hp ⟨[], upd_same, rfl⟩)
theorem ldic_at {s : Sto} {d : D} {n : Nat} {kvs : List (Ky × D)} (h : ldicAt s d = some (n, kvs)) : d = .ref n ∧ s[n]? = some (.ldic n kvs) := by
  unfold ldicAt at h
  split at h
  · rename_i m
    split at h
    · rename_i t kvs' e
      split at h
      · rename_i ht
        subst ht
        cases h
        exact ⟨rfl, e⟩
      · cases h
    · cases h
  · cases h
/-- .. walked or not: it can be read -/
theorem rd_rd {x : D} {v : V} {n : Nat} {kvs : List (Ky × D)} (r : Rel K ρ Z S F H) (h : Rep K ρ Z H x v) (e : rdAt S x = some (n, kvs)) : ∃ a vs, v = .ref a ∧ Rd H a (.dK ((kvs.map (·.1)).zip vs)) ∧ RepSs K ρ Z H (kvs.map (·.2)) vs := by
  unfold rdAt at e
  cases e1 : dicAt S x with
  | some q =>
    rw [e1] at e
    cases e
    obtain ⟨a, vs, h1, _, _, h2, h3⟩ := dic_rd r h e1
    exact ⟨a, vs, h1, .inl h2, h3⟩
  | none =>
    rw [e1] at e
    replace e : ldicAt S x = some (n, kvs) := e
    obtain ⟨rfl, q⟩ := ldic_at e
    obtain ⟨a, rfl, hr⟩ := (show RepS K ρ Z H (.ref n) v from h)
    obtain ⟨ob, vs, z1, _, z2⟩ := r.so n _ a q hr
    exact ⟨a, vs, rfl, .inr ⟨ob, z1⟩, z2⟩
theorem drM_ok {o : Dr} {x y : D} {en : Env} {good : D → Env → Sto → Prop} (h : Post K W σ F good (drM o x y en S)) : ∃ n kvs k d, rdAt S x = some (n, kvs) ∧ keyD y = some k ∧ drF o kvs k = some d ∧ good d en S := by
  unfold drM at h
  split at h
  · rename_i n kvs k e1 e2
    obtain ⟨d, e3, g⟩ := Post.opt h
    exact ⟨n, kvs, k, d, e1, e2, e3, g⟩
  · exact h.elim
theorem dget_of {m0 m1 : M D} {t0 t1 : TE} (h0 : ∀ σ H Q, simE K W m0 σ H Q → t0 σ H Q) (h1 : ∀ σ H Q, simE K W m1 σ H Q → t1 σ H Q) {Q : VK}
    (h : simE K W (m0.bind fun x => m1.bind fun y => drM .get x y) σ H Q) : tDGet t0 t1 σ H Q := by
  obtain ⟨ρ, Z, S, en, F, ⟨k, r⟩, h⟩ := h
  refine h0 σ H _ (Sim.start k r (Le.refl F) h.bind fun x en1 S1 q1 ρ1 Z1 vx H1 k1 r1 => ?_)
  refine h1 σ H1 _ (Sim.start k1 (F' := (vx, x) :: F) (r1.le le_swap) le_drop q1.bind fun y en2 S2 q2 ρ2 Z2 vy H2 k2 r2 => ?_)
  obtain ⟨n, kvs, ky, d, e1, e2, e3, q3⟩ := drM_ok q2
  have rx : Rep K ρ2 Z2 H2 x vx := r2.fr (vx, x) (List.mem_cons_of_mem _ (List.mem_append_right _ List.mem_cons_self))
  have ry : Rep K ρ2 Z2 H2 y vy := r2.fr (vy, y) List.mem_cons_self
  obtain ⟨a, vs, rfl, z3, z4⟩ := rd_rd r2 rx e1
  obtain ⟨v, w1, w2⟩ := (valD_rel z4).2 d e3
  refine ⟨a, v, rfl, ?_, q3 ρ2 Z2 v H2 k2 (((r2.le le_drop).le (app_le le_drop)).push w2)⟩
  rw [keyD_rep e2 ry, ← w1]
  exact .inl ⟨_, _, z3, rfl, rfl⟩
theorem dhas_of {neg : Bool} {m0 m1 : M D} {t0 t1 : TE} (h0 : ∀ σ H Q, simE K W m0 σ H Q → t0 σ H Q) (h1 : ∀ σ H Q, simE K W m1 σ H Q → t1 σ H Q) {Q : VK}
    (h : simE K W (m0.bind fun y => m1.bind fun x => drM (if neg then .hasnt else .has) x y) σ H Q) : t0 σ H fun y H1 => t1 σ H1 fun x H2 => ∃ a o, x = .ref a ∧ DGet H2 a y o ∧ Q (.bl (if neg then !o.isSome else o.isSome)) H2 := by
  obtain ⟨ρ, Z, S, en, F, ⟨k, r⟩, h⟩ := h
  refine h0 σ H _ (Sim.start k r (Le.refl F) h.bind fun y en1 S1 q1 ρ1 Z1 vy H1 k1 r1 => ?_)
  refine h1 σ H1 _ (Sim.start k1 (F' := (vy, y) :: F) (r1.le le_swap) le_drop q1.bind fun x en2 S2 q2 ρ2 Z2 vx H2 k2 r2 => ?_)
  obtain ⟨n, kvs, ky, d, e1, e2, e3, q3⟩ := drM_ok q2
  have ry : Rep K ρ2 Z2 H2 y vy := r2.fr (vy, y) (List.mem_cons_of_mem _ (List.mem_append_right _ List.mem_cons_self))
  have rx : Rep K ρ2 Z2 H2 x vx := r2.fr (vx, x) List.mem_cons_self
  obtain ⟨a, vs, rfl, z3, z4⟩ := rd_rd r2 rx e1
  have vr := valD_rel (k := ky) z4
  have hs : (valV ((kvs.map (·.1)).zip vs) ky).isSome = (valD kvs ky).isSome := by
    cases e : valD kvs ky with
    | none => rw [vr.1 e]; rfl
    | some d' => obtain ⟨v', w, _⟩ := vr.2 d' e; rw [w]; rfl
  refine ⟨a, valV ((kvs.map (·.1)).zip vs) ky, rfl, ?_, ?_⟩
  · rw [keyD_rep e2 ry]
    exact .inl ⟨_, _, z3, rfl, rfl⟩
  · rw [hs]
    have r3 := (r2.le le_drop).le (app_le (A := pairs σ en2) (le_drop (p := (vy, y)) (G := F)))
    cases neg with
    | false =>
      cases e3
      exact q3 ρ2 Z2 _ H2 k2 (r3.push rfl)
    | true =>
      cases e3
      exact q3 ρ2 Z2 _ H2 k2 (r3.push rfl)
/-- .. as a test -/
theorem dhasT_of {neg : Bool} {m0 m1 : M D} {t0 t1 : TE} (h0 : ∀ σ H Q, simE K W m0 σ H Q → t0 σ H Q) (h1 : ∀ σ H Q, simE K W m1 σ H Q → t1 σ H Q) {Q : Bool → Hp → Prop}
    (h : simT K W ((m0.bind fun y => m1.bind fun x => drM (if neg then .hasnt else .has) x y).bind fun d => truM d) σ H Q) : t0 σ H fun y H1 => t1 σ H1 fun x H2 => ∃ a o, x = .ref a ∧ DGet H2 a y o ∧ ∃ c, V.bl (if neg then !o.isSome else o.isSome) = .bl c ∧ Q c H2 := by
  refine dhas_of (Q := fun v H2 => ∃ c, v = .bl c ∧ Q c H2) h0 h1 ?_
  obtain ⟨ρ, Z, S, en, F, k, h⟩ := h
  refine ⟨ρ, Z, S, en, F, k, ?_⟩
  have h1 := Post.bind h
  generalize hm : (m0.bind fun y => m1.bind fun x => drM (if neg then .hasnt else .has) x y) en S = res at h1
  cases res with
  | ok d en1 S1 =>
    have vb : ∃ b, d = .bl b := by
      unfold M.bind R.bind at hm
      cases e1 : m0 en S with
      | ok y en2 S2 =>
        rw [e1] at hm
        simp only at hm
        cases e2 : m1 en2 S2 with
        | ok x en3 S3 =>
          rw [e2] at hm
          simp only at hm
          unfold drM at hm
          split at hm
          · cases neg with
            | false => cases hm; exact ⟨_, rfl⟩
            | true => cases hm; exact ⟨_, rfl⟩
          · cases hm
        | exc => rw [e2] at hm; cases hm
        | stuck => rw [e2] at hm; cases hm
      | exc => rw [e1] at hm; cases hm
      | stuck => rw [e1] at hm; cases hm
    obtain ⟨b, rfl⟩ := vb
    exact fun ρ1 Z1 v H1 k1 r1 => ⟨b, (r1.fr _ List.mem_cons_self : Rep K ρ1 Z1 H1 (.bl b) v).bl, h1.ok ρ1 Z1 H1 k1 (r1.le le_drop)⟩
  | exc x en1 S1 => exact h1
  | stuck => exact h1
theorem dpop_of {m0 m1 : M D} {t0 t1 : TE} (h0 : ∀ σ H Q, simE K W m0 σ H Q → t0 σ H Q) (h1 : ∀ σ H Q, simE K W m1 σ H Q → t1 σ H Q) {Q : VK}
    (h : simE K W (m0.bind fun x => (lookD x).bind fun _ => m1.bind fun y => dpopM x y) σ H Q) : tDPop1 t0 t1 σ H Q := by
  obtain ⟨ρ, Z, S, en, F, ⟨k, r⟩, h⟩ := h
  refine h0 σ H _ (Sim.start k r (Le.refl F) h.bind fun x en1 S1 q1 ρ1 Z1 vx H1 k1 r1 => ?_)
  have q1 := q1.bind
  unfold lookD at q1
  cases e0 : dicAt S1 x with
  | none => rw [e0] at q1; exact q1.elim
  | some p =>
    rw [e0] at q1
    obtain ⟨n0, kvs0⟩ := p
    have rx0 : Rep K ρ1 Z1 H1 x vx := r1.fr (vx, x) List.mem_cons_self
    obtain ⟨a, vs0, rfl, y1, y2, y3, y4⟩ := dic_rd r1 rx0 e0
    refine ⟨a, rfl, .inl ⟨_, .inl y3⟩, ?_⟩
    refine h1 σ H1 _ (Sim.start k1 (F' := (V.ref a, x) :: F) (r1.le le_swap) le_drop (Post.bind q1) fun y en2 S2 q2 ρ2 Z2 vy H2 k2 r2 => ?_)
    unfold dpopM at q2
    split at q2
    · rename_i n kvs ky e1 e2
      split at q2
      · rename_i d e3
        have rx : Rep K ρ2 Z2 H2 x (.ref a) := r2.fr (V.ref a, x) (List.mem_cons_of_mem _ (List.mem_append_right _ List.mem_cons_self))
        have ry : Rep K ρ2 Z2 H2 y vy := r2.fr (vy, y) List.mem_cons_self
        obtain ⟨a', vs, e, z1, z2, z3, z4⟩ := dic_rd r2 rx e1
        cases e
        obtain ⟨v, w1, w2⟩ := (valD_rel z4).2 d e3
        obtain ⟨ws, w3, w4⟩ := dropD_rel (k := ky) z4
        refine ⟨_, ky, v, z3, keyD_rep e2 ry, w1, ?_⟩
        have r3 := ((r2.le le_drop).le (app_le (A := pairs σ en2) (le_drop (p := (V.ref a, x)) (G := F)))).push w2
        rw [w4]
        exact q2 ρ2 Z2 v _ k2 (r3.changeDic z1 z2 w3)
      · exact q2.elim
    · exact q2.elim
/-- d[k] = v -/
theorem g_dsub {m0 mi : M D} {t0 ti : TE} (h0 : ∀ σ H Q, simE K W m0 σ H Q → t0 σ H Q) (hi : ∀ σ H Q, simE K W mi σ H Q → ti σ H Q) {v : V} {Q : L2.St → Hp → Prop}
    (h : simG K (fun d => m0.calm.bind fun x => mi.calm.bind fun k => dputM x k d.hard) v σ H Q) : gSub t0 ti rSetD v σ H Q := by
  obtain ⟨ρ, Z, S, en, F, d, k, r, h⟩ := h
  have h1 := OkP.calm (K := K) (W := W) (σ := σ) (F := (v, d) :: F) h.bind
  refine h0 σ H _ (Sim.start k (F' := (v, d) :: F) (r.le le_swap) (Le.refl _) h1 fun x en0 S0 q0 ρ0 Z0 vx H0 k0 r0 => ?_)
  have h3 := OkP.calm (K := K) (W := W) (σ := σ) (F := (vx, x) :: (v, d) :: F) (OkP.bind q0)
  refine hi σ H0 _ (Sim.start k0 (F' := (vx, x) :: (v, d) :: F) (r0.le le_swap) (Le.refl _) h3 fun y en1 S1 q ρ1 Z1 vy H1 k1 r1 => ?_)
  have rx : Rep K ρ1 Z1 H1 x vx := r1.fr (vx, x) (List.mem_cons_of_mem _ (List.mem_append_right _ List.mem_cons_self))
  have ry : Rep K ρ1 Z1 H1 y vy := r1.fr (vy, y) List.mem_cons_self
  obtain ⟨Z2, r2, h2, _⟩ := hardens (vs := [v]) (ds := [d]) (F := pairs σ en1 ++ F) rfl (r1.le (show Le ((v, d) :: (pairs σ en1 ++ F)) ((vy, y) :: (pairs σ en1 ++ (vx, x) :: (v, d) :: F)) from ⟨fun p hp => by
    simp only [List.mem_cons, List.mem_append] at hp ⊢
    rcases hp with h | h | h
    · exact .inr (.inr (.inr (.inl h)))
    · exact .inr (.inl h)
    · exact .inr (.inr (.inr (.inr h))), fun a => by simp only [cF, cF_append]; omega⟩))
  obtain ⟨w, r', ew, hd, _⟩ := h2
  simp only [List.cons.injEq] at ew
  obtain ⟨rfl, rfl⟩ := ew
  unfold dputM at q
  split at q
  · rename_i n kvs ky e1 e2
    split at q
    · rename_i hb
      have rx2 : Rep K ρ1 Z2 H1 x vx := by
        have e0 : dicAt S1 x = some (n, kvs) := e1
        cases x <;> first | (cases e0; done) | skip
        exact rx
      obtain ⟨a, vs, rfl, z1, z2, z3, z4⟩ := dic_rd r2 rx2 e1
      obtain ⟨ws, w3, w4⟩ := putD_rel (k := ky) z4 hd
      have hl := z4.length
      have ey := keyD_rep e2 ry
      subst ey
      refine ⟨a, _, rfl, DPut.k z3 ?_, ?_⟩
      · rw [List.length_zip, big_eq]
        simp only [List.length_map] at hl ⊢
        omega
      · rw [w4]
        exact q ρ1 Z2 σ _ k1 rfl (r2.changeDic z1 z2 w3)
    · exact q.elim
  · exact q.elim
end
end Mi
end
section
set_option Elab.async false
set_option maxRecDepth 100000
set_option linter.all false
namespace Mi
open PySem PySem.Spec PyProof.Rows L2
/-! ### an exception that is caught and kept -/
section
variable {X : Cx} {pins : List (Addr × Obj)} {σ : L2.St} {H : Hp} {s : Shared}
/-- an object of nobody's that was made since the entry is tracked from now on -/
theorem track {a : Addr} {oe : Obj} {φ : Heap → Prop} (I : Inv X ((a, oe) :: pins) σ H s) (n0 : X.s_0.heap.get? a = none) (hp : ∀ p ∈ X.pn ++ pins, p.1 ≠ a) (h : φ s.heap) (mono : ∀ h1 h2 : Heap, φ h1 → (∀ o, h1.get? a = some o → h2.get? a = some o) → φ h2) :
    Inv X pins σ (upd H a (.ext φ)) s := by
  obtain ⟨ea, na, nL, nF, nC⟩ := I.pin (a, oe) (List.mem_append_right _ List.mem_cons_self)
  have ne0 : ∀ b o, X.s_0.heap.get? b = some o → b ≠ a := fun b o e z => by rw [z, n0] at e; cases e
  refine ⟨I.ok, I.os, I.bare, ⟨I.base.keep, I.base.slot, fun b o e n hx => ?_, I.base.there, fun b xs e => ?_, fun b o u e => ?_, fun b ps e => ?_⟩, I.loc, I.cell, ?_, fun x c e => ?_, fun p hp' => ?_, fun b u e => ?_, I.len⟩
  · rw [upd_ne (ne0 b o e)]; exact I.base.free b o e n hx
  · have q := I.base.tups b xs e
    rw [upd_ne (ne_of_none q na)]; exact q
  · have q := I.base.frzs b o u e
    rw [upd_ne (ne_of_none q na)]; exact q
  · obtain ⟨m, q⟩ := I.base.tbls b ps e
    exact ⟨m, by rw [upd_ne (ne_of_none q na)]; exact q⟩
  · rw [upd_ne (Ne.symm nL)]; exact I.free
  · obtain ⟨v, o, ho, hd⟩ := I.cell x c e
    have : c ≠ a := fun z => by
      subst z
      replace ea : s.heap.get? c = some oe := ea
      rw [ea] at ho
      cases ho
      exact nC v hd
    rw [upd_ne this]; exact I.freeC x c e
  · obtain ⟨e1, e2, e3, e4, e5⟩ := I.pin p (by
      rcases List.mem_append.mp hp' with z | z
      · exact List.mem_append_left _ z
      · exact List.mem_append_right _ (List.mem_cons_of_mem _ z))
    exact ⟨e1, by rw [upd_ne (hp p hp')]; exact e2, e3, e4, e5⟩
  · by_cases hb : b = a
    · subst hb
      rw [upd_same] at e
      cases e
      exact ⟨h, ⟨oe, ea⟩, mono⟩
    · rw [upd_ne hb] at e
      exact (I.hok b u e).stay (fun c v hc q => q) (fun c q => by rw [upd_ne (ne_of_none q na)]; exact q) fun c xs q => by rw [upd_ne (ne_of_none q na)]; exact q
end
/-- what 'except x as n: y = n' wishes of an exception of the body, which must be one of the clause's: slot i is n's, slot j y's -/
def wKeep (K : PySem.W.Frag) (c : Value) (i j : Nat) (nx : L2.St → Hp → Prop) : WX := fun cls d τ G =>
  PySem.W.exmOne K cls c = some true ∧ ∀ a, G a = none → nx ((τ.set i (some (.ref a)) |>.set j (some (.ref a))).set i none) (upd G a (excAt cls d a))
/-- an exception that has come to this frame: the state behind it, and that it is nobody's yet -/
structure Come (X : Cx) (pins : List (Addr × Obj)) (τ : L2.St) (G : Hp) (a : Addr) (cls : Value) (d : Option Addr) (B : Heap) (was now : Shared) : Prop where
  inv : Inv X pins τ G was
  gnd : ∀ q u, was.heap.get? q = some u → q ∉ frs X.stack → B.get? q = some u
  fly : HandSPX.FlyingZ B (X.env :: X.outer) a (Zc cls d) now.heap
  ups : was.heap.UpToSlots now.heap
  sos : now.os = was.os
  bar : AllBare now.gens
  own : G a = none
section
variable {X : Cx} {pins : List (Addr × Obj)} {τ : L2.St} {G : Hp} {a : Addr} {cls : Value} {d : Option Addr} {B : Heap} {was now : Shared}
theorem Come.here (m : Come X pins τ G a cls d B was now) : Inv X pins τ G now := m.inv.landed m.gnd m.fly.1 m.ups m.sos m.bar
theorem Come.on (m : Come X pins τ G a cls d B was now) {h : Heap} (f : HandSPX.FlyingZ B (X.env :: X.outer) a (Zc cls d) h) (u : now.heap.UpToSlots h) : Come X pins τ G a cls d B was { now with heap := h } :=
  ⟨m.inv, m.gnd, f, m.ups.trans u, m.sos, m.bar, m.own⟩
theorem Come.obj (m : Come X pins τ G a cls d B was now) : ∃ ob us, now.heap.get? a = some ob ∧ Zc cls d ob ∧ ob.data = .fields us := m.fly.there
theorem Come.noFrame (m : Come X pins τ G a cls d B was now) : a ∉ frs (X.env :: X.outer) := by
  intro hm
  obtain ⟨ob, us, e1, _, e2⟩ := m.obj
  obtain ⟨_, ob', e3, e4⟩ := m.fly.2.2.1.mem hm
  rw [e1] at e3
  cases e3
  exact e4 _ e2
theorem Come.young (m : Come X pins τ G a cls d B was now) (hs : X.stack = X.env :: X.outer) : was.heap.get? a = none := by
  rcases e : was.heap.get? a with _ | u
  · rfl
  · have z := m.gnd a u e (by rw [hs]; exact m.noFrame)
    rw [m.fly.2.1] at z
    cases z
theorem Come.first (m : Come X pins τ G a cls d B was now) (hs : X.stack = X.env :: X.outer) (hex : X.ex = []) : X.s_0.heap.get? a = none := by
  rcases e : X.s_0.heap.get? a with _ | u
  · rfl
  · obtain ⟨u', z⟩ := m.inv.base.there a u e (by rw [hex]; intro z; cases z)
    rw [m.young hs] at z
    cases z
theorem Come.apart (m : Come X pins τ G a cls d B was now) (hs : X.stack = X.env :: X.outer) (p : Addr × Obj) (hp : p ∈ X.pn ++ pins) : p.1 ≠ a := by
  rintro rfl
  have z := (m.inv.pin p hp).1
  rw [m.young hs] at z
  cases z
/-- as it stands while the clause runs -/
theorem Come.suite (m : Come X pins τ G a cls d B was now) (hf : X.env.frame = some X.env.locals) : ∃ ob us, now.heap.get? a = some ob ∧ Zc cls d ob ∧ ob.data = .fields us ∧ Inv (X.suite a ((a, ob) :: (X.pn ++ pins))) [] τ G now := by
  obtain ⟨ob, us, e1, e2, e3⟩ := m.obj
  refine ⟨ob, us, e1, e2, e3, m.here.suite e1 e3 m.own (fun z => m.noFrame ?_) fun hm => m.noFrame ?_⟩
  · rw [z]
    exact List.mem_filterMap.mpr ⟨X.env, List.mem_cons_self, hf⟩
  · obtain ⟨v, hv, q⟩ := List.mem_filterMap.mp hm
    exact List.mem_filterMap.mpr ⟨v, List.mem_cons_of_mem _ hv, q⟩
/-- .. and behind it: the exception's object stays a pinned one -/
theorem unsuited {ob : Obj} {s : Shared} {τ' : L2.St} {G' : Hp} (I : Inv (X.suite a ((a, ob) :: (X.pn ++ pins))) [] τ' G' s) (ok : X.Ok) : Inv X ((a, ob) :: pins) τ' G' s where
  ok := ok
  os := I.os
  bare := I.bare
  base := I.base
  loc := I.loc
  cell := I.cell
  free := I.free
  freeC := I.freeC
  pin := fun p hp => I.pin p (by
    simp only [List.append_nil, List.mem_cons, List.mem_append] at hp ⊢
    rcases hp with z | z | z
    · exact .inr (.inl z)
    · exact .inl z
    · exact .inr (.inr z))
  hok := I.hok
  len := I.len
end
section
variable {X : Cx} {x n y : Str} {c : Value} {i j : Nat} {body : List Stmt} {np pos pos' yp np2 ap : Pos} {tb : WX → TS}
/-- the clause's one row -/
theorem keep_row {a : Addr} {pn : List (Addr × Obj)} (hN : X.N.Nodup) (hi : X.N[i]? = some n) (hj : X.N[j]? = some y) (hln : X.env.kindOf n = some .local) (hly : X.env.kindOf y = some .local) (hnd : (n == ("__debug__" : Str)) = false) (hnc : (n == ("__classdict__" : Str)) = false) :
    PSs (X.suite a pn) [.Assign [.Name y yp] (.Name n np2) ap] (tAsg (tVar i) (gName j)) :=
  pss_one (ps_asg (pe_var (X := X.suite a pn) hi (.inl hln) hnd hnc) (pg_name (X := X.suite a pn) hN hj (.inl hly) (.inr hly)) rfl rfl rfl)
theorem ps_try_keep (hs : X.stack = X.env :: X.outer) (hf : X.env.frame = some X.env.locals) (hex : X.ex = []) (hN : X.N.Nodup) (hi : X.N[i]? = some n) (hj : X.N[j]? = some y) (hln : X.env.kindOf n = some .local) (hly : X.env.kindOf y = some .local) (hnd : (n == ("__debug__" : Str)) = false) (hnc : (n == ("__classdict__" : Str)) = false) (hc : Names X x c)
    (hb : ∀ (W : WX) (pn : List (Addr × Obj)) (xe : Value → Shared → Prop), Takes (X.tr pn xe) W → PassesOwn (model X.prog X.w) X.A X.env xe → PSs (X.tr pn xe) body (tb W)) :
    PS X (.Try body [.ExceptHandler (some (.Name x np)) (some n) [.Assign [.Name y yp] (.Name n np2) ap] pos'] [] [] pos) (fun D σ H => tb (wKeep X.K c i j D.nx) D σ H) where
  run := fun pins s σ H D I h => by
    have frames : X.A.frames = some (X.env :: X.outer) := I.ok.frames.trans (by rw [hs])
    let back : Value → Shared → Prop := fun e s1 => wpAny (model X.prog X.w) X.A (noteFrame e X.env) (fun _ s2 => wpAny (model X.prog X.w) X.A (setFlight e none) (fun _ s3 =>
      wpAny (model X.prog X.w) X.A (handleBy e X.env [.ExceptHandler (some (.Name x np)) (some n) [.Assign [.Name y yp] (.Name n np2) ap] pos']) (SP X pins D) X.xe s3) X.xe s2) X.xe s1
    have clause : ∀ {τ G a cls d B was now}, Come X pins τ G a cls d B was now → wKeep X.K c i j D.nx cls d τ G → wpAny (model X.prog X.w) X.A (handleBy (.ref a) X.env [.ExceptHandler (some (.Name x np)) (some n) [.Assign [.Name y yp] (.Name n np2) ap] pos']) (SP X pins D) X.xe now := by
      intro τ G a cls d B was now m w
      obtain ⟨ob, us, o1, o2, o3, S⟩ := m.suite hf
      have ty : PySem.W.Looks (model X.prog X.w) now.heap (typeOf (.ref a)) cls := fun _ _ _ _ k q => wpAny_typeOf_ref (k _ _ o1) (by rw [o2.1]; exact q)
      have yes := PySem.W.exm_one (M := model X.prog X.w) m.here.kIn ty w.1
      refine wpAny_handleBy_cons (codeAny_handlers_test ?_) (fun z => by cases z)
      have name : ∀ {Q : Value → Shared → Prop} {E : Value → Shared → Prop}, Q c now → wpAny (model X.prog X.w) (X.A.mark (some (.ref a))) (eval (.Name x np) X.env) Q E now := by
        intro Q E q
        obtain ⟨g1, g2, g3⟩ := hc
        rcases g3 with g3 | ⟨g3, g4, g5⟩
        · exact ld_glob S g1 g3 q g2
        · exact ld_blt S g1 g3 g4 q g5 g2
      refine name (yes.here (codeAny_handlers_suite_as (HandSPX.lands_againZ m.fly fun h4 f4 u4 => ?_)))
      have m4 := m.on f4 u4
      obtain ⟨ob4, us4, p1, p2, p3, S4⟩ := m4.suite hf
      refine store_ok (v := .ref a) (X := X.suite a ((a, ob4) :: (X.pn ++ pins))) S4 hN hi (.inl hln) rfl (fun s5 S5 => ?_) (.inr hln)
      have long : i < τ.length := by
        have := (List.getElem?_eq_some_iff.mp hi).1
        rw [m.here.len]
        exact this
      have row := (keep_row (ap := ap) (yp := yp) (np2 := np2) (a := a) (pn := (a, ob4) :: (X.pn ++ pins)) hN hi hj hln hly hnd hnc).run [] s5 (τ.set i (some (.ref a))) G
        { nx := fun τ6 G6 => τ6 = (τ.set i (some (.ref a))).set j (some (.ref a)) ∧ G6 = G, rt := fun _ _ => False, bk := fun _ _ => False, ct := fun _ _ => False } S5 ⟨.ref a, List.getElem?_set_self long, rfl, rfl⟩
      refine wpAny_mono row (fun f s6 e6 => ?_) fun _ _ z => z.elim
      cases f with
      | next =>
        obtain ⟨_, _, S6, rfl, rfl⟩ := e6
        refine gone_ok (unsuited S6 I.ok) hN hi hln fun s7 J7 => ⟨_, _, ?_, w.2 a m.own⟩
        have pa := (J7.pin (a, ob4) (List.mem_append_right _ List.mem_cons_self)).1
        exact track J7 (m.first hs hex) (fun p hp => m.apart hs p hp) (φ := fun h => ∃ (oe : Obj) (vs : Array Value), h.get? a = some oe ∧ Zc cls d oe ∧ oe.data = .fields vs) ⟨ob4, us4, pa, p2, p3⟩ fun h1 h2 ⟨o, v, q1, q2, q3⟩ k => ⟨o, v, k o q1, q2, q3⟩
      | ret u => obtain ⟨_, _, _, _, _, z⟩ := e6; exact z.elim
      | brk => obtain ⟨_, _, _, z⟩ := e6; exact z.elim
      | cont => obtain ⟨_, _, _, z⟩ := e6; exact z.elim
    have caught : Takes (X.tr (X.pn ++ pins) back) (wKeep X.K c i j D.nx) := by
      rintro u s1 ⟨a, B, was, pins', τ, G, cls, d, rfl, J, nb, up, sky, na, os, ag, w⟩
      refine Sky.land Zc.steady frames hf (show Sky B (X.env :: X.outer) a (Zc cls d) X.env.locals s1.heap from hs ▸ sky) fun h3 f3 u3 => ?_
      exact clause ⟨J.ofTry I.ok, nb, f3, up.trans u3, os, ag, na⟩ w
    refine wpAny_Try_except (wpAny_mono ((hb _ (X.pn ++ pins) back caught PassesOwn.looking).run [] s σ H D (I.toTry _) h) (fun f s1 e1 => ?_) fun _ _ e => e)
    cases f with
    | next =>
      obtain ⟨τ, G, J, q⟩ := e1
      exact wpAny_execs_nil ⟨τ, G, J.ofTry I.ok, q⟩
    | ret u =>
      obtain ⟨v, τ, G, J, r, q⟩ := e1
      exact ⟨v, τ, G, J.ofTry I.ok, r, q⟩
    | brk =>
      obtain ⟨τ, G, J, q⟩ := e1
      exact ⟨τ, G, J.ofTry I.ok, q⟩
    | cont =>
      obtain ⟨τ, G, J, q⟩ := e1
      exact ⟨τ, G, J.ofTry I.ok, q⟩
end
end Mi
end
section
set_option Elab.async false
set_option maxRecDepth 100000
set_option linter.all false
namespace Mi
open PySem PySem.Spec PyProof.Rows L2
/-! ### a dict that is walked: locked, read, unlocked -/
section
variable {k : PySem.W.Frag} {mg : Str → Option Value} {p p' : Nat → Option (Addr × Obj × HO)} {ρ Z : List Addr} {H H' : Hp} {S : Sto} {F : List (V × D)}
mutual
theorem RepS.pin : ∀ (d : D) (v : V), RepS ⟨k, mg, p⟩ ρ Z H d v → RepS ⟨k, mg, p'⟩ ρ Z H d v
  | .non, _, h => h
  | .bl _, _, h => h
  | .int _, _, h => h
  | .str _, _, h => h
  | .own _, _, h => h
  | .ref _, _, h => h
  | .tup ds, _, h => by
    obtain ⟨a, vs, e, q, r⟩ := h
    exact ⟨a, vs, e, q, RepSs.pin ds vs r⟩
  | .frz ds, _, h => by
    obtain ⟨a, vs, e, q, r⟩ := h
    exact ⟨a, vs, e, q, RepSs.pin ds vs r⟩
theorem RepSs.pin : ∀ (ds : List D) (vs : List V), RepSs ⟨k, mg, p⟩ ρ Z H ds vs → RepSs ⟨k, mg, p'⟩ ρ Z H ds vs
  | [], _, h => h
  | d :: ds, _, h => by
    obtain ⟨v, r, e, h1, h2⟩ := h
    exact ⟨v, r, e, RepS.pin d v h1, RepSs.pin ds r h2⟩
end
theorem Rep.pin {d : D} {v : V} (h : Rep ⟨k, mg, p⟩ ρ Z H d v) : Rep ⟨k, mg, p'⟩ ρ Z H d v := by
  cases d with
  | own ds =>
    obtain ⟨a, vs, e, q, r⟩ := h
    exact ⟨a, vs, e, q, RepSs.pin _ _ r⟩
  | _ => exact RepS.pin _ _ (show RepS ⟨k, mg, p⟩ ρ Z H _ v from h)
theorem RepO.pin {o : O} {a : Addr} (hp : ∀ t kvs, o = .ldic t kvs → p' t = p t) (h : RepO ⟨k, mg, p⟩ ρ Z H o a) : RepO ⟨k, mg, p'⟩ ρ Z H o a := by
  cases o with
  | lst ds =>
    obtain ⟨vs, q, r⟩ := h
    exact ⟨vs, q, RepSs.pin _ _ r⟩
  | dic kvs =>
    obtain ⟨vs, q, r⟩ := h
    exact ⟨vs, q, RepSs.pin _ _ r⟩
  | xdt fs =>
    obtain ⟨vs, q, r⟩ := h
    exact ⟨vs, q, RepSs.pin _ _ r⟩
  | exn cls k => exact h
  | ins _ _ => exact h.elim
  | ldic t kvs =>
    obtain ⟨ob, vs, q, q2, r⟩ := h
    exact ⟨ob, vs, q, (hp t kvs rfl).trans q2, RepSs.pin _ _ r⟩
/-- an object of the store changes, and what is walked -/
theorem Rel.changeP {a : Addr} {n : Nat} {o0 o : O} {ob0 ob : HO} (r : Rel ⟨k, mg, p⟩ ρ Z S F H) (hS : S[n]? = some o0) (hr : ρ[n]? = some a) (q : H a = some ob0)
    (n1 : ∀ xs, ob0 ≠ .tup xs) (n2 : ∀ ob xs, ob0 ≠ .frz ob (.tup xs)) (n3 : ∀ ob xs, ob0 ≠ .frz ob (.lst xs))
    (hp : ∀ m t kvs, m ≠ n → S[m]? = some (.ldic t kvs) → p' t = p t) (hpn : ∀ t x, p' t = some x → ∃ kvs, (S.set n o)[t]? = some (.ldic t kvs))
    (y : Stb ⟨k, mg, p'⟩ Z H (upd H a ob) → RepO ⟨k, mg, p'⟩ ρ Z (upd H a ob) o a) : Rel ⟨k, mg, p'⟩ ρ Z (S.set n o) F (upd H a ob) := by
  have c1 := r.ct a
  have c2 := count_pos hr
  have hza : ∀ b ∈ Z, b ≠ a := fun b hb e => by
    subst e
    have := (r.zz b hb).1
    omega
  have st : Stb ⟨k, mg, p'⟩ Z H (upd H a ob) := Stb.setG q n1 n2 n3 hza
  have inj : ∀ m, ρ[m]? = some a → m = n := fun m hm => by
    have hm2 := lt_of_get? hm
    have hn2 := lt_of_get? hr
    have nd : ρ.Nodup := by
      rw [List.nodup_iff_count]
      intro b
      have := r.ct b
      omega
    exact (List.getElem_inj nd).mp (Option.some.inj (by rw [← List.getElem?_eq_getElem hm2, ← List.getElem?_eq_getElem hn2, hm, hr]))
  refine ⟨by simp [r.sl], fun m o' b h1 h2 => ?_, fun x hx => ?_, r.ct, fun b hb => ?_, hpn⟩
  · by_cases hm : n = m
    · subst hm
      rw [hr] at h2; cases h2
      rw [List.getElem?_set_self (lt_of_get? hS)] at h1
      cases h1
      exact y st
    · rw [List.getElem?_set_ne hm] at h1
      refine RepO.stb st (fun _ _ h => h) (fun _ h => h) (upd_ne ?_) (RepO.pin (fun t kvs e => ?_) (r.so m o' b h1 h2))
      · rintro rfl
        exact hm (inj m h2).symm
      · subst e
        exact hp m t kvs (fun z => hm z.symm) h1
  · refine Rep.stb st (fun _ _ h => h) (fun _ h => h) (fun b es e1 e2 => upd_ne ?_) (Rep.pin (r.fr x hx))
    rintro rfl
    obtain ⟨v, d⟩ := x
    replace e1 : d = _ := e1
    replace e2 : v = _ := e2
    subst e1; subst e2
    have := cF_mem hx
    omega
  · obtain ⟨h0, ws, h⟩ := r.zz b hb
    exact ⟨h0, ws, by rw [upd_ne (hza b hb)]; exact h⟩
/-- the dict n is walked from here on -/
def pinOf (p : Nat → Option (Addr × Obj × HO)) (n : Nat) (x : Addr × Obj × HO) : Nat → Option (Addr × Obj × HO) := fun t => if t = n then some x else p t
theorem Rel.lock {a : Addr} {n : Nat} {kvs : List (Ky × D)} {vs : List V} (od : Obj) (r : Rel ⟨k, mg, p⟩ ρ Z S F H) (hS : S[n]? = some (.dic kvs)) (hr : ρ[n]? = some a) (q : H a = some (.dK ((kvs.map (·.1)).zip vs))) (h : RepSs ⟨k, mg, p⟩ ρ Z H (kvs.map (·.2)) vs) :
    Rel ⟨k, mg, pinOf p n (a, od, .dK ((kvs.map (·.1)).zip vs))⟩ ρ Z (S.set n (.ldic n kvs)) F (upd H a (.frz od (.dK ((kvs.map (·.1)).zip vs)))) := by
  have hn : ∀ t x, p t = some x → t ≠ n := fun t x e z => by
    subst z
    obtain ⟨kvs', z⟩ := r.pn t x e
    rw [hS] at z; cases z
  refine r.changeP hS hr q (fun _ h => by cases h) (fun _ _ h => by cases h) (fun _ _ h => by cases h) (fun m t kvs' hm hm2 => ?_) (fun t x e => ?_) fun st => ?_
  · have hm3 := lt_of_get? hm2
    obtain ⟨b, hb⟩ : ∃ b, ρ[m]? = some b := ⟨_, List.getElem?_eq_getElem (by rw [r.sl]; exact hm3)⟩
    obtain ⟨_, _, _, z, _⟩ := r.so m _ b hm2 hb
    exact if_neg (hn t _ z)
  · unfold pinOf at e
    split at e
    · rename_i ht
      subst ht
      exact ⟨kvs, List.getElem?_set_self (lt_of_get? hS)⟩
    · rename_i ht
      obtain ⟨kvs', z⟩ := r.pn t x e
      exact ⟨kvs', by rw [List.getElem?_set_ne (fun z => ht z.symm)]; exact z⟩
  · exact ⟨od, vs, upd_same, if_pos rfl, RepSs.stb st (fun _ _ h => h) (fun _ h => h) _ _ (RepSs.pin _ _ h)⟩
/-- .. and no more -/
theorem Rel.unlock {a : Addr} {n : Nat} {od : Obj} {u : HO} {kvs : List (Ky × D)} (hn : p n = none) (r : Rel ⟨k, mg, pinOf p n (a, od, u)⟩ ρ Z S F H) (hS : S[n]? = some (.ldic n kvs)) :
    ∃ vs, H a = some (.frz od (.dK ((kvs.map (·.1)).zip vs))) ∧ Rel ⟨k, mg, p⟩ ρ Z (S.set n (.dic kvs)) F (upd H a (.dK ((kvs.map (·.1)).zip vs))) := by
  have hlt := lt_of_get? hS
  obtain ⟨b, hb⟩ : ∃ b, ρ[n]? = some b := ⟨_, List.getElem?_eq_getElem (by rw [r.sl]; exact hlt)⟩
  obtain ⟨ob, vs, q1, q2, q3⟩ := r.so n _ b hS hb
  have e : some (a, od, u) = some (b, ob, HO.dK ((kvs.map (·.1)).zip vs)) := (if_pos rfl : pinOf p n (a, od, u) n = some (a, od, u)).symm.trans q2
  cases e
  refine ⟨vs, q1, r.changeP hS hb q1 (fun _ h => by cases h) (fun _ _ h => by cases h) (fun _ _ h => by cases h) (fun m t kvs' hm hm2 => ?_) (fun t x e => ?_) fun st => ?_⟩
  · have hm3 := lt_of_get? hm2
    obtain ⟨c, hc⟩ : ∃ c, ρ[m]? = some c := ⟨_, List.getElem?_eq_getElem (by rw [r.sl]; exact hm3)⟩
    obtain ⟨ob', vs', z1, z2, _⟩ := r.so m _ c hm2 hc
    by_cases ht : t = n
    · subst ht
      have e2 := (if_pos rfl : pinOf p t (a, od, HO.dK ((kvs.map (·.1)).zip vs)) t = _).symm.trans z2
      have e3 := (Prod.mk.inj (Option.some.inj e2)).1
      subst e3
      exfalso
      refine hm ?_
      have nd : ρ.Nodup := by
        rw [List.nodup_iff_count]
        intro b
        have := r.ct b
        omega
      have hm4 := lt_of_get? hc
      have hn4 := lt_of_get? hb
      exact (List.getElem_inj nd).mp (Option.some.inj (by rw [← List.getElem?_eq_getElem hm4, ← List.getElem?_eq_getElem hn4, hc, hb]))
    · exact (if_neg ht : pinOf p n (a, od, HO.dK ((kvs.map (·.1)).zip vs)) t = p t).symm
  · have ht : t ≠ n := fun z => by rw [z, hn] at e; cases e
    obtain ⟨kvs', z⟩ := r.pn t x ((if_neg ht).trans e)
    exact ⟨kvs', by rw [List.getElem?_set_ne (fun z => ht z.symm)]; exact z⟩
  · exact ⟨vs, upd_same, RepSs.stb st (fun _ _ h => h) (fun _ h => h) _ _ (RepSs.pin _ _ q3)⟩
end
/-! ### the reading of an expression while a dict is locked -/
def tLockX (t : TE) : TE := fun σ H Q => ∃ d u, H d = some u ∧ Mut (some u) ∧ ∀ od, t σ (upd H d (.frz od u)) fun v H' => ∃ od' u', H' d = some (.frz od' u') ∧ Q v (upd H' d u')
theorem pe_lockX {X : Cx} {e : Expr} {t : TE} (h : PE X e t) : PE X e (tLockX t) := by
  refine ⟨fun pins s σ H Q I hw => ?_⟩
  obtain ⟨d, u, hd, mu, hw⟩ := hw
  obtain ⟨od, I1⟩ := I.lock hd mu
  refine thn (h.run pins s σ _ _ I1 (hw od)) fun v s1 ⟨x, H1, I2, r, od', u', e2, q⟩ => ?_
  exact ⟨x, _, I2.unlock e2 (I.nofrz hd mu), r, q⟩
end Mi
end
section
set_option Elab.async false
set_option maxRecDepth 100000
set_option linter.all false
namespace Mi
open PySem PySem.Spec PyProof.Rows L2
section
variable {k : PySem.W.Frag} {mg : Str → Option Value} {p : Nat → Option (Addr × Obj × HO)} {W : MW} {σ : L2.St} {H : Hp} {i : Nat}
theorem calm_e {K : KC} {m : M D} {Q : VK} (h : simE K W m.calm σ H Q) : simE K W m σ H Q := by
  obtain ⟨ρ, Z, S, en, F, a, h⟩ := h
  refine ⟨ρ, Z, S, en, F, a, ?_⟩
  unfold M.calm at h
  cases e : m en S with
  | ok d en1 S1 => rw [e] at h; exact h
  | exc x en1 S1 => rw [e] at h; exact h.elim
  | stuck => rw [e] at h; exact h.elim
theorem lkd_of {m : M D} {Q : VK} (h : simE ⟨k, mg, p⟩ W ((getV i).bind fun d => (lockM d).bind fun n => m.calm.bind fun r => unlockM n r) σ H Q) : tLockX (fun σ H Q => ∃ p', simE ⟨k, mg, p'⟩ W m.calm σ H Q) σ H Q := by
  obtain ⟨ρ, Z, S, en, F, ⟨ke, r⟩, h⟩ := h
  obtain ⟨d0, e0, h⟩ := getV_ok h.bind
  obtain ⟨v0, hv0, hm0⟩ := slot_v ke e0
  have h := h.bind
  unfold lockM at h
  cases e1 : dicAt S d0 with
  | none => rw [e1] at h; exact h.elim
  | some q =>
    rw [e1] at h
    obtain ⟨n, kvs⟩ := q
    obtain ⟨a, vs, rfl, hS, hr, hH, hR⟩ := dic_rd r (r.fr (v0, d0) (List.mem_append_left _ hm0)) e1
    have hn : p n = none := by
      cases e : p n with
      | none => rfl
      | some x =>
        obtain ⟨kvs', z⟩ := r.pn n x e
        rw [hS] at z; cases z
    refine ⟨a, _, hH, trivial, fun od => ⟨_, ρ, Z, S.set n (.ldic n kvs), en, F, ⟨ke, r.lock od hS hr hH hR⟩, ?_⟩⟩
    replace h := Post.bind (show Post _ W σ F _ ((m.calm.bind fun r => unlockM n r) en (S.set n (.ldic n kvs))) from h)
    cases e2 : m.calm en (S.set n (.ldic n kvs)) with
    | ok d en1 S1 =>
      rw [e2] at h
      replace h : Post _ W σ F _ (unlockM n d en1 S1) := h
      unfold unlockM at h
      cases e3 : ldicAt S1 (.ref n) with
      | none => rw [e3] at h; exact h.elim
      | some q2 =>
        rw [e3] at h
        obtain ⟨n2, kvs2⟩ := q2
        obtain ⟨h4, h5⟩ := ldic_at e3
        cases h4
        intro ρ1 Z1 v H1 k1 r1
        obtain ⟨vs2, w1, w2⟩ := r1.unlock hn h5
        exact ⟨od, _, w1, h ρ1 Z1 v _ k1 w2⟩
    | exc x en1 S1 =>
      unfold M.calm at e2
      cases e4 : m en (S.set n (.ldic n kvs)) with
      | ok => rw [e4] at e2; cases e2
      | exc => rw [e4] at e2; cases e2
      | stuck => rw [e4] at e2; cases e2
    | stuck => rw [e2] at h; exact h.elim
/-! ### the keys, one after another -/
theorem ky_rep {K : KC} {ρ Z : List Addr} {H : Hp} (x : Ky) : RepS K ρ Z H (kyD x) (kV x) := by cases x <;> rfl
theorem it_keys {d : D} {a : Addr} {n : Nat} {ob : Obj} {kvs : List (Ky × D)} {vs : List V} (hp : p n = some (a, ob, .dK ((kvs.map (·.1)).zip vs))) (hl : vs.length = kvs.length) : ItOk ⟨k, mg, p⟩ (Itk a ob ((kvs.map (·.1)).zip vs)) [] (kvs.map fun kv => kyD kv.1) := by
  have hH : ∀ {ρ Z : List Addr} {S : Sto} {F : List (V × D)} {H : Hp}, Rel ⟨k, mg, p⟩ ρ Z S F H → H a = some (.frz ob (.dK ((kvs.map (·.1)).zip vs))) := fun {ρ Z S F H} r => by
    obtain ⟨kvs', z⟩ := r.pn n _ hp
    obtain ⟨b, hb⟩ : ∃ b, ρ[n]? = some b := ⟨_, List.getElem?_eq_getElem (by rw [r.sl]; exact lt_of_get? z)⟩
    obtain ⟨ob', vs', q1, q2, _⟩ := r.so n _ b z hb
    have e := hp.symm.trans q2
    have e1 := Prod.mk.inj (Option.some.inj e)
    have e2 := Prod.mk.inj e1.2
    rw [e1.1, e2.1, e2.2]
    exact q1
  have hz : ((kvs.map (·.1)).zip vs).length = kvs.length := by simp [hl]
  refine ⟨fun ρ Z S F H i d' r hi => ?_, fun ρ Z S F H r => ?_⟩
  · have hi2 : i < kvs.length := by have := lt_of_get? hi; simpa using this
    refine ⟨⟨hH r, by rw [hz]; exact hi2⟩, fun x' H' hy => ?_⟩
    obtain ⟨rfl, ky, v, z1, rfl⟩ := hy
    refine ⟨r, ?_⟩
    rw [List.getElem?_map, List.getElem?_eq_getElem hi2] at hi
    cases hi
    have z2 : ky = (kvs[i]).1 := by
      rw [List.getElem?_zip_eq_some] at z1
      have := z1.1
      rw [List.getElem?_map, List.getElem?_eq_getElem hi2] at this
      exact (Option.some.inj this).symm
    subst z2
    exact ky_rep _
  · exact ⟨hH r, by rw [hz, List.length_map]; exact Nat.le_refl _⟩
theorem keys_of {m : M D} {te : TE} (ha : ∀ σ H Q, simE ⟨k, mg, p⟩ W m σ H Q → te σ H Q) {R : It → Hp → Prop} (h : simI ⟨k, mg, p⟩ W (m.bind fun d => keysM d) σ H R) : iKeys te σ H R := by
  obtain ⟨ρ, Z, S, en, F, ⟨ke, r⟩, h⟩ := h
  refine ha σ H _ (Sim.start ke r (Le.refl F) h.bind fun d en1 S1 q ρ1 Z1 v H1 k1 r1 => ?_)
  unfold keysM at q
  cases e1 : ldicAt S1 d with
  | none => rw [e1] at q; exact q.elim
  | some x =>
    rw [e1] at q
    obtain ⟨n, kvs⟩ := x
    obtain ⟨rfl, hS⟩ := ldic_at e1
    obtain ⟨a, rfl, hr⟩ := (r1.fr _ List.mem_cons_self : Rep ⟨k, mg, p⟩ ρ1 Z1 H1 (.ref n) v)
    obtain ⟨ob, vs, w1, w2, w3⟩ := r1.so n _ a hS hr
    have hl := w3.length
    rw [List.length_map] at hl
    exact ⟨a, ob, rfl, .inl ⟨_, w1, q ρ1 Z1 H1 _ [] k1 (r1.le le_drop) (it_keys (d := .ref n) w2 hl)⟩⟩
end
end Mi
end
section
set_option Elab.async false
set_option maxRecDepth 100000
set_option linter.all false
namespace Mi
open PySem PySem.Spec PyProof.Rows L2
/-! ### exceptions: raised, caught and kept -/
section
variable {K : KC} {W : MW} {σ : L2.St} {H : Hp} {ρ Z : List Addr} {S : Sto} {F : List (V × D)} {en : Env}
theorem raise0_of {c : Str} {cls : Value} {D' : Ends} (hm : W.mg c = some cls) (h : simS K W (raiseM c [] []) D' σ H) : W.w cls none σ H := by
  obtain ⟨ρ, Z, S, en, F, k, r, h⟩ := h
  exact h ρ Z σ H cls none k r ⟨hm, .inl ⟨rfl, rfl⟩⟩
theorem raise1_of {c f : Str} {cls : Value} {D' : Ends} {m : M (List D)} (hm : W.mg c = some cls) (h : simS K W (m.bind fun ds => raiseM c [f] ds) D' σ H) :
    simAs K W m σ H fun vs H1 => ∃ v, vs = [v] ∧ ∀ d, H1 d = none → W.w cls (some d) σ (upd H1 d (.xd [(f, v)])) := by
  obtain ⟨ρ, Z, S, en, F, k, r, h⟩ := h
  refine Sim.start k r (Le.refl F) (h.part σ) fun ds en1 S1 q ρ1 Z1 vs H1 k1 hl r1 => ?_
  unfold raiseM at q
  split at q
  · rename_i hd
    match ds, vs, hl, hd with
    | [x], [v], hl, hd =>
      obtain ⟨Z2, r2, h2, _⟩ := hardens (vs := [v]) (ds := [x]) rfl r1
      obtain ⟨w, r', ew, hx, _⟩ := h2
      simp only [List.cons.injEq] at ew
      obtain ⟨rfl, _⟩ := ew
      refine ⟨v, rfl, fun d hn => ?_⟩
      have nd : d ∉ ρ1 := fun hm' => by
        obtain ⟨n, hn', e⟩ := List.getElem_of_mem hm'
        have e1 : ρ1[n]? = some d := by rw [List.getElem?_eq_getElem hn', e]
        have hn2 : n < S1.length := by rw [← r2.sl]; exact hn'
        obtain ⟨u, e2⟩ := (r2.so n S1[n] d (List.getElem?_eq_getElem hn2) e1).there
        rw [hn] at e2; cases e2
      refine q ρ1 Z2 σ _ cls (some d) k1 (r2.grow hn) ⟨hm, .inr ⟨d, f, _, v, rfl, rfl, nd, upd_same, RepS.stb (Stb.new hn (r2.zne hn)) (fun _ _ h => h) (fun _ h => h) _ _ hx⟩⟩
  · exact q.elim
theorem raiseN_of {c f : Str} {cls : Value} {D' : Ends} (hm : W.mg c = some cls) (h : simS K W (raiseM c [f] [.non]) D' σ H) : ∀ d, H d = none → W.w cls (some d) σ (upd H d (.xd [(f, .non)])) := by
  obtain ⟨ρ, Z, S, en, F, k, r, h⟩ := h
  intro d hn
  have nd : d ∉ ρ := fun hm' => by
    obtain ⟨n, hn', e⟩ := List.getElem_of_mem hm'
    have e1 : ρ[n]? = some d := by rw [List.getElem?_eq_getElem hn', e]
    have hn2 : n < S.length := by rw [← r.sl]; exact hn'
    obtain ⟨u, e2⟩ := (r.so n S[n] d (List.getElem?_eq_getElem hn2) e1).there
    rw [hn] at e2; cases e2
  exact h ρ Z σ _ cls (some d) k (r.grow hn) ⟨hm, .inr ⟨d, f, _, .non, rfl, rfl, nd, upd_same, show V.non = V.non from rfl⟩⟩
/-- an object that is tracked, but nobody's yet, comes to the store -/
theorem Rel.addO {p : Addr} {o : O} {ob : HO} (r : Rel K ρ Z S F H) (hn : p ∉ ρ) (hH : H p = some ob) (hl : ∀ xs, ob ≠ .lst xs) (y : RepO K (ρ ++ [p]) Z H o p) : Rel K (ρ ++ [p]) Z (S ++ [o]) F H := by
  have hr : ∀ (n : Nat) (b : Addr), ρ[n]? = some b → (ρ ++ [p])[n]? = some b := fun n b h => by rw [List.getElem?_append_left (lt_of_get? h)]; exact h
  have e4 : ∀ b : Addr, ([p] : List Addr).count b = if b = p then 1 else 0 := fun b => by
    by_cases h : b = p
    · subst h; simp
    · rw [if_neg h, List.count_eq_zero]; simpa using h
  have h1 : ρ.count p = 0 := List.count_eq_zero.mpr hn
  have h2 : cF p F = 0 := by
    have go : ∀ l : List (V × D), (∀ q ∈ l, Rep K ρ Z H q.2 q.1) → cF p l = 0 := by
      intro l
      induction l with
      | nil => intro _; rfl
      | cons q l ih =>
        intro hl'
        have hq := hl' q List.mem_cons_self
        have e0 : ownA q p = 0 := by
          obtain ⟨v, d⟩ := q
          unfold ownA
          split
          · rename_i b ds' heq
            cases heq
            obtain ⟨a, vs', e, y', _⟩ := hq
            cases e
            rw [if_neg]
            rintro rfl
            rw [hH] at y'
            exact hl _ (Option.some.inj y')
          · rfl
        simp only [cF, e0, ih fun q hq => hl' q (List.mem_cons_of_mem _ hq)]
    exact go F r.fr
  refine ⟨by simp [r.sl], fun n o' b g1 g2 => ?_, fun q hq => (r.fr q hq).stb Stb.refl hr (fun _ h => h) fun _ _ _ _ => rfl, fun b => ?_, fun b hb => ?_, pn_app r.pn _⟩
  · by_cases hlt : n < S.length
    · rw [List.getElem?_append_left hlt] at g1
      rw [List.getElem?_append_left (by rw [r.sl]; exact hlt)] at g2
      exact (r.so n o' b g1 g2).stb Stb.refl hr (fun _ h => h) rfl
    · have hn2 : n = S.length := by
        have := lt_of_get? g1
        simp only [List.length_append, List.length_singleton] at this
        omega
      subst hn2
      rw [List.getElem?_append_right (Nat.le_refl _)] at g1
      rw [← r.sl, List.getElem?_append_right (Nat.le_refl _)] at g2
      simp at g1 g2
      subst g1; subst g2
      exact y
  · have := r.ct b
    simp only [List.count_append, e4]
    split
    · rename_i h; subst h; omega
    · omega
  · have h0 := r.zz b hb
    simp only [List.count_append, e4]
    split
    · rename_i h; subst h
      obtain ⟨_, vs, z⟩ := r.zz b hb
      rw [hH] at z
      exact absurd (Option.some.inj z) (hl _)
    · exact ⟨by omega, h0.2⟩
theorem EnvOk.gone {σ : L2.St} {en : Env} (k : EnvOk σ en) (i : Nat) : EnvOk (σ.set i none) (en.set i none) := by
  refine ⟨by simp [k.len], fun j d h => ?_⟩
  by_cases e : i = j
  · subst e
    have hi : i < en.length := by have := lt_of_get? h; simpa using this
    rw [List.getElem?_set_self hi] at h; cases h
  · rw [List.getElem?_set_ne e] at h ⊢
    exact k.def_ j d h
theorem pairs_gone_mem : ∀ {σ : L2.St} {en : Env} {i : Nat} {p : V × D}, p ∈ pairs (σ.set i none) (en.set i none) → p ∈ pairs σ en
  | [], _, _, _, h => by simp [pairs] at h
  | _ :: _, [], i, _, h => by cases i <;> simp [pairs] at h
  | s :: σ, x :: en, 0, p, h => by
    simp only [List.set_cons_zero, pairs] at h
    cases s <;> cases x <;> first | exact h | exact List.mem_cons_of_mem _ h
  | s :: σ, x :: en, i + 1, p, h => by
    simp only [List.set_cons_succ] at h
    cases s <;> cases x <;> simp only [pairs] at h ⊢
    all_goals first
      | exact pairs_gone_mem h
      | (rcases List.mem_cons.mp h with h | h
         · rw [h]; exact List.mem_cons_self
         · exact List.mem_cons_of_mem _ (pairs_gone_mem h))
theorem le_gone (k : EnvOk σ en) {i : Nat} {G : List (V × D)} : Le (pairs (σ.set i none) (en.set i none) ++ G) (pairs σ en ++ G) := by
  by_cases hi : i < en.length
  · refine ⟨fun p hp => ?_, fun a => ?_⟩
    · rcases List.mem_append.mp hp with h | h
      · exact List.mem_append_left _ (pairs_gone_mem h)
      · exact List.mem_append_right _ h
    · have := pairs_set_cnt a (σ := σ) (en := en) (i := i) (s := none) (x := none) (by rw [k.len]; exact hi) hi
      simp only [cF_append]
      simp only [own2] at this
      omega
  · rw [List.set_eq_of_length_le (by rw [k.len]; omega), List.set_eq_of_length_le (by omega)]
    exact Le.refl _
theorem le_ref {v : V} {n : Nat} {G : List (V × D)} : Le ((v, .ref n) :: (v, .ref n) :: G) ((v, .ref n) :: G) := by
  refine ⟨fun p hp => ?_, fun a => ?_⟩
  · rcases List.mem_cons.mp hp with h | h
    · rw [h]; exact List.mem_cons_self
    · exact h
  · have : ownA (v, D.ref n) a = 0 := by cases v <;> rfl
    simp only [cF, this]
    omega
/-- the names behind a clause -/
theorem kept_names (k : EnvOk σ en) {a : Addr} {n i j : Nat} : EnvOk (((σ.set i (some (.ref a))).set j (some (.ref a))).set i none) (((en.set i (some (.ref n))).set j (some (.ref n))).set i none) ∧
    Le (pairs (((σ.set i (some (.ref a))).set j (some (.ref a))).set i none) (((en.set i (some (.ref n))).set j (some (.ref n))).set i none) ++ F) ((.ref a, .ref n) :: (pairs σ en ++ F)) := by
  have k1 := k.set i (.ref a) (some (.ref n))
  have k2 := k1.set j (.ref a) (some (.ref n))
  refine ⟨k2.gone i, (le_gone k2).trans ((le_setAll k1).trans ((Le.cons (le_setAll k) _).trans le_ref))⟩
theorem try_of {cs : List Str} {i j : Nat} {m : M Flow} {D' : Ends} {cv : Value} (hK : K.mg = W.mg) (hsub : ∀ c ∈ cs, ∃ v, W.mg c = some v ∧ PySem.W.exmOne K.k v cv = some true)
    (h : simS K W (tryM cs i j m) D' σ H) : simS K ⟨wKeep K.k cv i j D'.nx, W.mg⟩ m D' σ H := by
  obtain ⟨ρ, Z, S, en, F, k, r, h⟩ := h
  refine ⟨ρ, Z, S, en, F, k, r, ?_⟩
  unfold tryM at h
  generalize m en S = res at h
  cases res with
  | ok f en1 S1 => exact h
  | stuck => exact h
  | exc x en1 S1 =>
    simp only at h
    split at h
    · rename_i hc
      intro ρ1 Z1 σ1 H1 cls dx k1 r1 ex
      obtain ⟨hm, hx⟩ := ex
      obtain ⟨v, hv, hs⟩ := hsub x.cls (List.contains_iff_mem.mp hc)
      rw [hm] at hv
      cases hv
      refine ⟨hs, fun a ha => ?_⟩
      rcases hx with ⟨hf, rfl⟩ | ⟨d, f, v, u, hf, rfl, nd, hd, hv⟩
      · have e : keepX x S1 = (S1.length, S1 ++ [.exn x.cls none]) := by unfold keepX; rw [hf]
        rw [e] at h
        have g := r1.newO (o := .exn x.cls none) (ob := excAt cls none a) ha ⟨cls, none, by rw [hK]; exact hm, upd_same, rfl⟩
        obtain ⟨kn, ln⟩ := kept_names (F := F) k1 (a := a) (n := S1.length) (i := i) (j := j)
        exact h _ Z1 _ _ kn (g.le ln)
      · have e : keepX x S1 = (S1.length + 1, S1 ++ [.xdt [(f, v)], .exn x.cls (some S1.length)]) := by unfold keepX; rw [hf]
        rw [e] at h
        have g0 := r1.addO (o := .xdt [(f, v)]) nd hd (fun xs z => by cases z) ⟨[u], hd, RepSs.one (RepS.stb Stb.refl (fun n b h => by rw [List.getElem?_append_left (lt_of_get? h)]; exact h) (fun _ h => h) _ _ hv)⟩
        have hidx : (ρ1 ++ [d])[S1.length]? = some d := by
          rw [← r1.sl, List.getElem?_append_right (Nat.le_refl _)]; simp
        have g := g0.newO (o := .exn x.cls (some S1.length)) (ob := excAt cls (some d) a) ha ⟨cls, some d, by rw [hK]; exact hm, upd_same, d, by
          rw [List.getElem?_append_left (lt_of_get? hidx)]; exact hidx, rfl⟩
        have e2 : (S1 ++ [O.xdt [(f, v)]]).length = S1.length + 1 := by simp
        have e3 : S1 ++ [O.xdt [(f, v)]] ++ [O.exn x.cls (some S1.length)] = S1 ++ [O.xdt [(f, v)], O.exn x.cls (some S1.length)] := by simp
        rw [e2, e3] at g
        obtain ⟨kn, ln⟩ := kept_names (F := F) k1 (a := a) (n := S1.length + 1) (i := i) (j := j)
        exact h _ Z1 _ _ kn (g.le ln)
    · exact h.elim
end
/-! ### what a kept exception is, what it tells -/
/-- what is asked of an error class, that a kept error of it may be looked at -/
structure ErrC (K : PySem.W.Frag) (C : Addr) : Prop where
  cl : (PySem.W.clsIn K C).isSome = true
  ga : PySem.W.findIn K (.ref C) "__getattribute__" = some (some (.builtin "BaseException.__getattribute__"))
  gg : PySem.W.findIn K (.ref C) "__getattr__" = some none
  be : PySem.W.subIn K (.ref C) (.type "BaseException") = some true
  gc : PySem.W.findIn K (.ref C) "__class__" = some (some (.builtin "object.__class__"))
  sp : PySem.W.specialIn K (.builtin "object.__class__") "__get__" = some (some (.builtin "getset_descriptor.__get__"))
  tk : PySem.W.takesIn K (.builtin "object.__class__") = some true
  mr : PySem.W.mroIn K C (.type "object") = some true
  hd : PySem.W.hasDictIn K C = true
def errB (K : PySem.W.Frag) (C : Addr) : Bool := (PySem.W.clsIn K C).isSome && (decide (PySem.W.findIn K (.ref C) "__getattribute__" = some (some (.builtin "BaseException.__getattribute__"))) && (decide (PySem.W.findIn K (.ref C) "__getattr__" = some none) &&
  (decide (PySem.W.subIn K (.ref C) (.type "BaseException") = some true) && (decide (PySem.W.findIn K (.ref C) "__class__" = some (some (.builtin "object.__class__"))) && (decide (PySem.W.specialIn K (.builtin "object.__class__") "__get__" = some (some (.builtin "getset_descriptor.__get__"))) &&
  (decide (PySem.W.takesIn K (.builtin "object.__class__") = some true) && (decide (PySem.W.mroIn K C (.type "object") = some true) && PySem.W.hasDictIn K C)))))))
theorem errB_ok {K : PySem.W.Frag} {C : Addr} (h : errB K C = true) : ErrC K C := by
  simp only [errB, Bool.and_eq_true, decide_eq_true_eq] at h
  obtain ⟨h1, h2, h3, h4, h5, h6, h7, h8, h9⟩ := h
  exact ⟨h1, h2, h3, h4, h5, h6, h7, h8, h9⟩
section
variable {X : Cx} {pins : List (Addr × Obj)} {σ : L2.St} {H : Hp} {s : Shared}
/-- a kept error as it stands -/
theorem kept_at {a C : Addr} {d : Option Addr} {fs : List (Str × V)} (I : Inv X pins σ H s) (h : H a = some (excAt (.ref C) d a)) (hd : d = none ∨ ∃ dd, d = some dd ∧ H dd = some (.xd fs)) :
    ∃ oe od, PySem.W.InstAt s.heap a oe C od ∧ (d = none → od = none) ∧ ∀ dd, d = some dd → ∃ o, od = some o ∧ s.heap.get? dd = some o := by
  have ok : ObjOk X.prog X.w H s.heap a (excAt (.ref C) d a) := I.hok a _ h
  obtain ⟨⟨oe, vs, e1, e2, e3⟩, _, _⟩ := ok
  have no : PySem.W.notCls oe = true := by unfold PySem.W.notCls; rw [e3] <;> rfl
  rcases hd with rfl | ⟨dd, rfl, hd⟩
  · refine ⟨oe, none, ⟨e1, e2.1, no, ?_⟩, fun _ => rfl, (fun _ z => nomatch z)⟩
    rw [e2.2]; trivial
  · have okd : ObjOk X.prog X.w H s.heap dd (.xd fs) := I.hok dd _ hd
    obtain ⟨mA, hns, _⟩ := okd
    obtain ⟨od, ho, _⟩ := lookIn_ns hns
    refine ⟨oe, some od, ⟨e1, e2.1, no, ?_⟩, (fun z => nomatch z), fun b z => ?_⟩
    · rw [e2.2]; exact ho
    · cases z
      exact ⟨od, rfl, ho⟩
/-- isinstance(e, C), e None or a kept error -/
def rIsx (K : PySem.W.Frag) : List V → Hp → VK → Prop := fun xs H Q => ∃ (x c : V) (u : Value) (b : Bool), xs = [x, c] ∧ ClsV c u ∧
  ((∃ t, TyX K H x t ∧ PySem.W.kitOne K t u = some b) ∨ ∃ a C d fs, x = .ref a ∧ H a = some (excAt (.ref C) d a) ∧ (d = none ∨ ∃ dd, d = some dd ∧ H dd = some (.xd fs)) ∧ ErrC K C ∧ PySem.W.kitOne K (.ref C) u = some b) ∧ Q (.bl b) H
theorem call_isx : CallR X (.builtin "isinstance") (rIsx X.K) := by
  intro pins s σ H xs us Q I rv h
  obtain ⟨x, c, u, b, rfl, hc, hx, q⟩ := h
  rcases hx with ⟨t, ht, hk⟩ | ⟨a, C, d, fs, rfl, ha, hd, ec, hk⟩
  · exact call_isi pins s σ H _ us Q I rv ⟨x, c, t, u, b, rfl, hc, ht, hk, q⟩
  · cases rv with
    | cons r1 rv =>
      cases rv with
      | cons r2 rv =>
        cases rv
        cases (show _ = Value.ref a from r1)
        cases hc.eq r2
        obtain ⟨oe, od, J, _, _⟩ := kept_at I ha hd
        obtain ⟨hp, g, dr, tk, os⟩ := s
        exact PySem.W.kia_one (PySem.W.kitx_exc ec.cl ec.ga ec.gg ec.be ec.gc ec.sp ec.tk ec.mr) I.kIn J hk (fun z => by cases z) fun tk' => ⟨.bl b, H, I.tok tk', rfl, q⟩
/-- e.f of a kept error -/
def tXfld (K : PySem.W.Frag) (f : Str) (te : TE) : TE := fun σ H Q => te σ H fun x H1 => ∃ a C dd fs v, x = .ref a ∧ H1 a = some (excAt (.ref C) (some dd) a) ∧ H1 dd = some (.xd fs) ∧ ErrC K C ∧ PySem.W.findIn K (.ref C) f = some none ∧ fs.lookup f = some v ∧ Q v H1
theorem pe_xfld {e : Expr} {te : TE} {f : Str} {pos : Pos} (he : PE X e te) (hb : attributeBase e f X.env (eval e X.env) = eval e X.env) : PE X (.Attribute e f pos) (tXfld X.K f te) := by
  refine ⟨fun pins s σ H Q I h => attr_of hb (thn (he.run pins s σ H _ I h) fun u s1 hh => ?_)⟩
  obtain ⟨x, H1, I1, rx, a, C, dd, fs, v, rfl, ha, hd, ec, hno, hl, q⟩ := hh
  cases (show u = Value.ref a from rx)
  obtain ⟨oe, od, J, _, jd⟩ := kept_at I1 ha (.inr ⟨dd, rfl, hd⟩)
  obtain ⟨o, rfl, ho⟩ := jd dd rfl
  have okd : ObjOk X.prog X.w H1 s1.heap dd (.xd fs) := I1.hok dd _ hd
  obtain ⟨mA, hns, hr⟩ := okd
  obtain ⟨od', ho', hl'⟩ := lookIn_ns hns
  rw [ho] at ho'
  cases ho'
  obtain ⟨u, hu, ru⟩ := RelO.some_of (v := v) (o := mA f) (by rw [← hl]; exact hr f)
  exact HandSPX.exc_get I1.kIn J ec.ga ec.gg ec.be (PySem.W.findObj_own ec.hd hno rfl (by rw [hl', hu])) (handed_of ru) ⟨v, H1, I1.tok _, ru, q⟩
end
end Mi
end
section
set_option Elab.async false
set_option maxRecDepth 100000
set_option linter.all false
namespace Mi
open PySem PySem.Spec PyProof.Rows L2
section
variable {K : KC} {W W' : MW} {σ : L2.St} {H : Hp} {α β : Type} {en : Env}
theorem wipeE_len : ∀ (vs : List Nat) (en : Env), (wipeE vs en).length = en.length
  | [], _ => rfl
  | i :: vs, en => by simp [wipeE, wipeE_len vs en]
theorem wipeE_none : ∀ {vs : List Nat} {en : Env} {i : Nat}, i ∈ vs → (wipeE vs en).getD i none = none
  | j :: vs, en, i, h => by
    simp only [wipeE, List.getD_eq_getElem?_getD]
    by_cases e : j = i
    · subst e
      by_cases hl : j < (wipeE vs en).length
      · rw [List.getElem?_set_self hl]; rfl
      · rw [List.getElem?_eq_none (by simpa using hl)]; rfl
    · rw [List.getElem?_set_ne e]
      have := wipeE_none (vs := vs) (en := en) (i := i) ((List.mem_cons.mp h).resolve_left (Ne.symm e))
      rwa [List.getD_eq_getElem?_getD] at this
theorem pairs_hole : ∀ {σ : L2.St} {en : Env} {i : Nat} (s : Option V), en.getD i none = none → pairs (σ.set i s) en = pairs σ en
  | [], _, _, _, _ => rfl
  | _ :: _, [], i, _, _ => by cases i <;> simp [pairs]
  | x :: σ, y :: en, 0, s, h => by
    simp at h; subst h
    cases s <;> cases x <;> rfl
  | x :: σ, y :: en, i + 1, s, h => by
    have ih := pairs_hole (σ := σ) (en := en) (i := i) s (by simpa using h)
    simp only [List.set_cons_succ]
    cases x <;> cases y <;> simp only [pairs, ih]
theorem pairs_wiped : ∀ {vs : List Nat} {σ : L2.St} {en : Env}, (∀ i ∈ vs, en.getD i none = none) → pairs (L2.wipe σ vs) en = pairs σ en
  | [], _, _, _ => rfl
  | i :: vs, σ, en, h => by
    show pairs ((L2.wipe σ vs).set i none) en = _
    rw [pairs_hole none (h i List.mem_cons_self), pairs_wiped fun j hj => h j (List.mem_cons_of_mem _ hj)]
theorem EnvOk.wipes (k : EnvOk σ en) : ∀ vs : List Nat, EnvOk σ (wipeE vs en)
  | [] => k
  | i :: vs => (k.wipes vs).wipe i
theorem EnvOk.wipeS (k : EnvOk σ en) (vs : List Nat) (h : ∀ i ∈ vs, en.getD i none = none) : EnvOk (L2.wipe σ vs) en := by
  induction vs with
  | nil => exact k
  | cons i vs ih =>
    have ih := ih fun j hj => h j (List.mem_cons_of_mem _ hj)
    refine ⟨by show ((L2.wipe σ vs).set i none).length = _; simp [ih.len], fun j d hj => ?_⟩
    show ∃ v, ((L2.wipe σ vs).set i none)[j]? = some (some v)
    by_cases e : i = j
    · subst e
      have := h i List.mem_cons_self
      rw [getD_of hj] at this; cases this
    · rw [List.getElem?_set_ne e]
      exact ih.def_ j d hj
theorem EnvOk.unwipe {vs : List Nat} (k : EnvOk (L2.wipe σ vs) en) : EnvOk σ en := ⟨by rw [← k.len, wipe_length], fun i d h => by
  obtain ⟨v, hv⟩ := k.def_ i d h
  exact ⟨v, (wipe_some hv).1⟩⟩
theorem le_wipes {G : List (V × D)} : ∀ {vs : List Nat}, Le (pairs σ (wipeE vs en) ++ G) (pairs σ en ++ G)
  | [] => Le.refl _
  | i :: vs => (le_wipe (en := wipeE vs en)).trans le_wipes
theorem wipe_get : ∀ (vs : List Nat) (σ : L2.St) (j : Nat), (L2.wipe σ vs)[j]? = if j ∈ vs then (if j < σ.length then some none else none) else σ[j]?
  | [], σ, j => by simp [L2.wipe]
  | i :: vs, σ, j => by
    show ((L2.wipe σ vs).set i none)[j]? = _
    by_cases e : i = j
    · subst e
      rw [if_pos List.mem_cons_self]
      by_cases h : i < σ.length
      · rw [List.getElem?_set_self (by rw [L2.wipe_length]; exact h), if_pos h]
      · rw [List.getElem?_eq_none (by simp [L2.wipe_length]; omega), if_neg h]
    · rw [List.getElem?_set_ne e, wipe_get vs σ j]
      have : (j ∈ i :: vs) ↔ j ∈ vs := by simp [Ne.symm e]
      simp only [this]
theorem wipe_idem (vs : List Nat) (σ : L2.St) : L2.wipe (L2.wipe σ vs) vs = L2.wipe σ vs := by
  apply List.ext_getElem?
  intro j
  rw [wipe_get vs (L2.wipe σ vs) j, wipe_get vs σ j, L2.wipe_length]
  split <;> rfl
/-- a target that stores names of the block alone -/
def Keeps (vs : List Nat) (g : TG) : Prop := ∀ v σ H (Q : L2.St → Hp → Prop), g v σ H (fun σ' H' => L2.wipe σ' vs = L2.wipe σ vs → Q σ' H') → g v σ H fun σ' H' => wipe σ' vs = wipe σ vs ∧ Q σ' H'
def Keepss (vs : List Nat) (g : TGs) : Prop := ∀ v σ H (Q : L2.St → Hp → Prop), g v σ H (fun σ' H' => L2.wipe σ' vs = L2.wipe σ vs → Q σ' H') → g v σ H fun σ' H' => wipe σ' vs = wipe σ vs ∧ Q σ' H'
theorem wipe_set {x : Option V} : ∀ {vs : List Nat} {i : Nat} {σ : L2.St}, i ∈ vs → wipe (σ.set i x) vs = wipe σ vs
  | j :: vs, i, σ, h => by
    show (wipe (σ.set i x) vs).set j none = (wipe σ vs).set j none
    by_cases hm : i ∈ vs
    · rw [wipe_set hm]
    · have e : i = j := (List.mem_cons.mp h).resolve_right hm
      subst e
      have : ∀ ws : List Nat, i ∉ ws → wipe (σ.set i x) ws = (wipe σ ws).set i x := by
        intro ws
        induction ws with
        | nil => intro _; rfl
        | cons k ws ih =>
          intro hk
          show (wipe (σ.set i x) ws).set k none = ((wipe σ ws).set k none).set i x
          rw [ih fun z => hk (List.mem_cons_of_mem _ z), List.set_comm]
          rintro rfl
          exact hk List.mem_cons_self
      rw [this vs hm, List.set_set]
theorem keeps_name {vs : List Nat} {i : Nat} (h : i ∈ vs) : Keeps vs (gName i) := fun v σ H Q q => ⟨wipe_set h, q (wipe_set h)⟩
theorem keeps_nil {vs : List Nat} : Keepss vs gNil := fun v σ H Q ⟨e, q⟩ => ⟨e, rfl, q rfl⟩
/-- targets go along with what is wanted -/
def MonoG (g : TG) : Prop := ∀ v σ H (Q Q' : L2.St → Hp → Prop), (∀ σ H, Q σ H → Q' σ H) → g v σ H Q → g v σ H Q'
def MonoGs (g : TGs) : Prop := ∀ v σ H (Q Q' : L2.St → Hp → Prop), (∀ σ H, Q σ H → Q' σ H) → g v σ H Q → g v σ H Q'
theorem mono_name {i : Nat} : MonoG (gName i) := fun _ _ _ _ _ h q => h _ _ q
theorem mono_nil : MonoGs gNil := fun _ _ _ _ _ h ⟨e, q⟩ => ⟨e, h _ _ q⟩
theorem mono_cons {t : TG} {u : TGs} (ht : MonoG t) (hu : MonoGs u) : MonoGs (gCons t u) := fun _ _ _ _ _ h ⟨v, r, e, q⟩ => ⟨v, r, e, ht _ _ _ _ _ (fun _ _ q => hu _ _ _ _ _ h q) q⟩
theorem mono_tup {n : Nat} {u : TGs} (hu : MonoGs u) : MonoG (gTup K n u) := fun _ _ _ _ _ h ⟨a, xs, e1, e2, e3, q⟩ => ⟨a, xs, e1, e2, e3, hu _ _ _ _ _ h q⟩
theorem keeps_cons {vs : List Nat} {t : TG} {u : TGs} (ht : Keeps vs t) (mt : MonoG t) (hu : Keepss vs u) (mu : MonoGs u) : Keepss vs (gCons t u) := fun w σ H Q ⟨v, r, e, q⟩ =>
  ⟨v, r, e, mt _ _ _ _ _ (fun σ1 H1 ⟨w1, q1⟩ => mu _ _ _ _ _ (fun σ2 H2 ⟨w2, q2⟩ => ⟨w2.trans w1, q2⟩) (hu r σ1 H1 Q (mu _ _ _ _ _ (fun σ2 H2 q2 w2 => q2 (w2.trans w1)) q1))) (ht v σ H _ (mt _ _ _ _ _ (fun _ _ q _ => q) q))⟩
theorem keeps_tup {vs : List Nat} {n : Nat} {u : TGs} (hu : Keepss vs u) : Keeps vs (gTup K n u) := fun w σ H Q ⟨a, xs, e1, e2, e3, q⟩ => ⟨a, xs, e1, e2, e3, hu _ _ _ _ q⟩
theorem Post.calmOk {m : M α} {good : β → Env → Sto → Prop} {S : Sto} {f : α → M β} {F : List (V × D)} (h : Post K W σ F good (M.bind m.calm f en S)) : OkP (fun a en1 S1 => Post K W σ F good (f a en1 S1)) (m en S) := by
  unfold M.bind R.bind M.calm at h
  cases e : m en S with
  | ok a en1 S1 => rw [e] at h; exact h
  | exc x en1 S1 => rw [e] at h; exact h.elim
  | stuck => rw [e] at h; exact h.elim
theorem OkP.imp {good good' : α → Env → Sto → Prop} {r : R α} (h : OkP good r) (k : ∀ a en S, good a en S → good' a en S) : OkP good' r := by
  cases r with
  | ok a en S => exact k _ _ _ h
  | exc x en S => exact h
  | stuck => exact h
theorem bind_assoc {γ : Type} (m : M α) (f : α → M β) (g : β → M γ) : M.bind (M.bind m f) g = M.bind m fun a => M.bind (f a) g := by
  funext en S
  unfold M.bind R.bind
  cases m en S <;> rfl
/-- the rest of a comprehension, and its end -/
def LcEnd (K : KC) (W : MW) (σ : L2.St) (F : List (V × D)) (Q : VK) (m : M (List D)) (en : Env) (S : Sto) : Prop :=
  Post K W σ F (fun d en S => ∀ (ρ Z : List Addr) (v : V) (H : Hp), EnvOk σ en → Rel K ρ Z S ((v, d) :: (pairs σ en ++ F)) H → Q v H) (M.bind m (fun ds => .ret (.own ds)) en S)
theorem lc_of {vs : List Nat} {it : M (List D)} {g : D → M Unit} {t : M Bool} {e : M D} {wi : TI} {tg : TG} {tt : TT} {te : TE} (hi : ∀ σ H R, simI K W it σ H R → wi σ H R) (hg : ∀ v σ H Q, simG K g v σ H Q → tg v σ H Q) (kg : Keeps vs tg)
    (ht : ∀ σ H Q, simT K W' t σ H Q → tt σ H Q) (he : ∀ σ H Q, simE K W' e σ H Q → te σ H Q) {Q : VK}
    (h : simE K W (it.bind fun p => (wipeV vs).bind fun _ => (lcL vs (fun d => (g d).calm) t.calm e.calm p []).bind fun ds => .ret (.own ds)) σ H Q) : tLc wi tg tt te vs σ H Q := by
  obtain ⟨ρ, Z, S, en, F, ⟨k, r⟩, h⟩ := h
  refine hi σ H _ (Sim.start k r (Le.refl F) h.bind fun ds en1 S1 q ρ1 Z1 H1 J held k1 r1 ok A hA => ?_)
  replace q : LcEnd K W σ F Q (lcL vs (fun d => (g d).calm) t.calm e.calm ds []) (wipeE vs en1) S1 := q
  have mv1 : ∀ {A B : List (V × D)} {p : V × D}, Le (A ++ p :: (B ++ F)) (p :: (A ++ (B ++ F))) := fun {A B p} => le_swap
  refine ⟨fun i m H => i ≤ ds.length ∧ m = ds.length - i ∧ ∃ (ρ Z : List Addr) (S : Sto) (en : Env) (acc : List D), EnvOk (L2.wipe σ vs) en ∧ (∀ i ∈ vs, en.getD i none = none) ∧ Rel K ρ Z S (held ++ ((V.ref A, .own acc) :: (pairs (L2.wipe σ vs) en ++ F))) H ∧
    LcEnd K W σ F Q (lcL vs (fun d => (g d).calm) t.calm e.calm (ds.drop i) acc) en S,
    ⟨ds.length, Nat.zero_le _, by simp, ρ1, Z1, S1, wipeE vs en1, [], (k1.wipes vs).wipeS vs fun i => wipeE_none, fun i => wipeE_none, ?_, q⟩, ?_⟩
  · rw [pairs_wiped fun i => wipeE_none]
    have r2 := (r1.le (app_le (le_wipes (vs := vs)))).pushOwn hA (ds := []) (vs := []) rfl
    exact r2.le mv1
  rintro i m H ⟨hi, rfl, ρ, Z, S, en, acc, k, nn, r, q⟩
  by_cases hlt : i < ds.length
  · obtain ⟨go, yl⟩ := ok.go ρ Z S _ H i ds[i] r (List.getElem?_eq_getElem hlt)
    refine .inr ⟨go, fun H' => ∃ (ρ Z : List Addr) (S : Sto) (en : Env) (acc : List D), EnvOk (L2.wipe σ vs) en ∧ (∀ i ∈ vs, en.getD i none = none) ∧ Rel K ρ Z S (held ++ ((V.ref A, .own acc) :: (pairs (L2.wipe σ vs) en ++ F))) H' ∧
      LcEnd K W σ F Q (lcL vs (fun d => (g d).calm) t.calm e.calm (ds.drop (i + 1)) acc) en S, fun H' w => ⟨ds.length - (i + 1), by omega, hlt, rfl, w⟩, fun x H' y => ?_⟩
    obtain ⟨r', rx⟩ := yl x H' y
    rw [List.drop_eq_getElem_cons hlt] at q
    unfold LcEnd at q
    unfold lcL at q
    rw [bind_assoc] at q
    have G2 : ∀ {A B : List (V × D)} {p : V × D}, Le (A ++ p :: (B ++ F)) (B ++ (p :: (A ++ F))) := fun {A B p} => ⟨fun z hp => by
      simp only [List.mem_append, List.mem_cons] at hp ⊢
      rcases hp with h | h | h | h
      · exact .inr (.inr (.inl h))
      · exact .inr (.inl h)
      · exact .inl h
      · exact .inr (.inr (.inr h)), fun a => by simp only [cF, cF_append]; omega⟩
    have G3 : ∀ {A B : List (V × D)} {p : V × D}, Le (B ++ (p :: (A ++ F))) (A ++ p :: (B ++ F)) := fun {A B p} => ⟨fun z hp => by
      simp only [List.mem_append, List.mem_cons] at hp ⊢
      rcases hp with h | h | h | h
      · exact .inr (.inr (.inl h))
      · exact .inr (.inl h)
      · exact .inl h
      · exact .inr (.inr (.inr h)), fun a => by simp only [cF, cF_append]; omega⟩
    have kg' := kg x (L2.wipe σ vs) H'
    rw [wipe_idem] at kg'
    refine kg' _ (hg x (L2.wipe σ vs) H' _ ⟨ρ, Z, S, en, (V.ref A, .own acc) :: (held ++ F), ds[i], k, (r'.push rx).le (Le.cons G3 _), q.calmOk.imp fun _ en2 S2 q2 ρ2 Z2 σ2 H2 k2 _ r2 hw => ?_⟩)
    rw [bind_assoc] at q2
    refine ht σ2 H2 _ (Sim.start k2 r2 (Le.refl _) q2.calmOk.post fun b en3 S3 q3 ρ3 Z3 H3 k3 r3 => ?_)
    have fin : ∀ {ρ4 Z4 : List Addr} {S4 : Sto} {en4 : Env} {H4 : Hp} {acc' : List D}, EnvOk σ2 en4 → Rel K ρ4 Z4 S4 (held ++ ((V.ref A, .own acc') :: (pairs σ2 en4 ++ F))) H4 → Post K W σ F (fun d en S => ∀ (ρ Z : List Addr) (v : V) (H : Hp), EnvOk σ en → Rel K ρ Z S ((v, d) :: (pairs σ en ++ F)) H → Q v H)
        (M.bind (M.bind (wipeV vs) fun _ => lcL vs (fun d => (g d).calm) t.calm e.calm (ds.drop (i + 1)) acc') (fun ds => .ret (.own ds)) en4 S4) →
        ∃ (ρ Z : List Addr) (S : Sto) (en : Env) (acc : List D), EnvOk (L2.wipe σ vs) en ∧ (∀ i ∈ vs, en.getD i none = none) ∧ Rel K ρ Z S (held ++ ((V.ref A, .own acc) :: (pairs (L2.wipe σ vs) en ++ F))) H4 ∧
          LcEnd K W σ F Q (lcL vs (fun d => (g d).calm) t.calm e.calm (ds.drop (i + 1)) acc) en S := by
      intro ρ4 Z4 S4 en4 H4 acc' k4 r4 q4
      rw [bind_assoc] at q4
      refine ⟨ρ4, Z4, S4, wipeE vs en4, acc', ?_, fun i => wipeE_none, ?_, q4⟩
      · have := (k4.wipes vs).wipeS vs fun i => wipeE_none
        rw [hw] at this
        exact this
      · have h3 : pairs (L2.wipe σ vs) (wipeE vs en4) = pairs σ2 (wipeE vs en4) := by
          rw [← hw]
          exact pairs_wiped fun i => wipeE_none
        rw [h3]
        exact r4.le (app_le (Le.cons le_wipes _))
    cases b with
    | false => exact fin k3 (r3.le G2) q3
    | true =>
      rw [if_pos rfl, bind_assoc] at q3
      refine he σ2 H3 _ (Sim.start k3 r3 (Le.refl _) q3.calmOk.post fun y en4 S4 q4 ρ4 Z4 vy H4 k4 r4 => ?_)
      split at q4
      · rename_i hb
        obtain ⟨Z5, r5, h5, _⟩ := hardens (vs := [vy]) (ds := [y]) (F := pairs σ2 en4 ++ ((V.ref A, .own acc) :: (held ++ F))) rfl r4
        have r6 := r5.le (le_swap' (A := pairs σ2 en4) (p := (V.ref A, .own acc)) (G := held ++ F))
        obtain ⟨A', vs', e', hA', y'⟩ := r6.fr _ List.mem_cons_self
        cases e'
        have r7 := r6.changeOwn (y'.append h5)
        refine ⟨vs', hA', by rw [big_eq, y'.length]; exact hb, fin k4 (r7.le ⟨fun z hp => ?_, fun a => ?_⟩) q4⟩
        · simp only [List.mem_append, List.mem_cons] at hp ⊢
          rcases hp with h | h | h | h
          · exact .inr (.inr (.inl h))
          · exact .inl h
          · exact .inr (.inl h)
          · exact .inr (.inr (.inr h))
        · simp only [cF, cF_append, List.map_cons, List.map_nil]; omega
      · exact q4.elim
  · have hi' : i = ds.length := by omega
    subst hi'
    refine .inl ⟨ok.stop ρ Z S _ H r, ?_⟩
    rw [List.drop_length] at q
    rw [pairs_wiped nn] at r
    exact q ρ Z (.ref A) H k.unwipe (r.le ⟨fun p hp => List.mem_append_right _ hp, fun a => by simp only [cF_append]; omega⟩)
end
end Mi
end
section
set_option Elab.async false
set_option maxRecDepth 100000
set_option linter.all false
namespace Mi
open PySem PySem.Spec PyProof.Rows L2
variable {pn : Nat → Option (Addr × Obj × HO)}
open Sem (wp)
open AutoSeq1 (wpAny_loadPart')
/-! ### enumerate of a tuple -/
theorem meets_enumerate_newT (l : Addr) (items : Array Value) (n : Nat) (dct : Option Addr) (sl : Array (Option Value)) :
    Meets (Builtin.«enumerate.__new__» ⟨[.type "enumerate", .ref l], []⟩) (fun _ R s => s.heap.get? l = some { cls := .type "tuple", dict := dct, data := .seq items n, slots := sl } ∧
      R (.ok (.ret (.ref (s.heap.push { cls := .type "tuple_iterator", data := .fields #[.ref l, .int 0 0] }).objs.size)))
        { s with heap := (s.heap.push { cls := .type "tuple_iterator", data := .fields #[.ref l, .int 0 0] }).push { cls := .type "enumerate", data := .fields #[.none, .bool false, .ref s.heap.objs.size, rawInt 0, .none, .none] } }) :=
  .of_wp fun prog w A R s h => by
    obtain ⟨hp, g, d, tk, os⟩ := s; obtain ⟨hl, h⟩ := h
    have hsub := sub_enumerate
    have hL : Heap.IsTuple (Shared.heap ⟨hp, g, d, tk, os⟩) l items := ⟨_, hl, rfl, n, rfl⟩
    wp_walk using wpAny_loadPart' hl
    refine wpAny_stack_any fun st => wpAny_pure ?_
    split
    · rename_i c _ _ _ _ _
      cases (c == Value.type "enumerate")
      · wp_walk using wpAny_loadPart' hl, wpAny_pyIter_tuple hL
        exact ⟨_, rfl, h⟩
      · wp_walk using wpAny_loadPart' hl, wpAny_pyIter_tuple hL
        exact ⟨_, rfl, h⟩
    · wp_walk using wpAny_loadPart' hl, wpAny_pyIter_tuple hL
      exact ⟨_, rfl, h⟩
section
variable {prog : Program} {w : World} {A : Around} {E : Value → Shared → Prop} {s : Shared}
theorem call_enumerate_tuple {l : Addr} {items : Array Value} {Q : Value → Shared → Prop} (hL : s.heap.IsTuple l items)
    (h : ∀ h', IsEnum h' (s.heap.objs.size + 1) s.heap.objs.size 0 .none → h'.IsTupleIter s.heap.objs.size l 0 → h'.objs.size = s.heap.objs.size + 2 →
      (∀ b o, s.heap.get? b = some o → h'.get? b = some o) → Q (.ref (s.heap.objs.size + 1)) { s with heap := h' }) :
    wpAny (model prog w) A (call (.type "enumerate") [.ref l]) Q E s := by
  obtain ⟨⟨c, dct, dt, sl⟩, hl, hc, n, hd⟩ := hL
  replace hc : c = .type "tuple" := hc
  replace hd : dt = .seq items n := hd
  subst hc hd
  refine callType_new F.called_enumerate (by decide) (F.typeCall_enumerate_1 _) (F.newCall_enumerate_1 _) (fun obj => F.args_object_init_2 obj _) F.entry_enumerate_new
    (meets_enumerate_newT l items n dct sl) ⟨hl, ?_⟩
  have hz : (s.heap.push { cls := .type "tuple_iterator", data := .fields #[.ref l, .int 0 0] }).objs.size = s.heap.objs.size + 1 := Heap.size_push ..
  show _ ∧ _
  rw [hz]
  have he : IsEnum ((s.heap.push { cls := .type "tuple_iterator", data := .fields #[.ref l, .int 0 0] }).push
      { cls := .type "enumerate", data := .fields #[.none, .bool false, .ref s.heap.objs.size, rawInt 0, .none, .none] }) (s.heap.objs.size + 1) s.heap.objs.size 0 .none := by
    have := Heap.get?_push_size (s.heap.push { cls := .type "tuple_iterator", data := .fields #[.ref l, .int 0 0] })
      (o := { cls := .type "enumerate", data := .fields #[.none, .bool false, .ref s.heap.objs.size, rawInt 0, .none, .none] }) rfl
    rw [hz] at this; exact this
  refine ⟨⟨_, he, rfl⟩, h _ he ⟨_, Heap.get?_push_of_some _ (Heap.get?_push_size _ rfl), rfl, rfl⟩ (by rw [Heap.size_push, hz]) fun b o x => Heap.get?_push_of_some _ (Heap.get?_push_of_some _ x)⟩
end
def IteT (K : PySem.W.Frag) (a : Addr) : It :=
  ⟨fun i H => ∃ (xs : List V) (x : V), SqT K H a xs ∧ xs[i]? = some x, fun i H v H' => ∃ T x, v = .ref T ∧ H T = none ∧ H' = upd H T (.tup [.int (i : Nat), x]) ∧ ∀ xs, SqT K H a xs → xs[i]? = some x, fun i H => ∃ xs : List V, SqT K H a xs ∧ xs.length = i⟩
theorem turn_enumT {P : Program} {w : World} {K : PySem.W.Frag} {elts : List Expr} {kk : Nat} {tpos : Pos} (a e it : Addr) (hai : a ≠ it) :
    Turn P w K (.Tuple elts kk tpos) (IteT K a) [e, it] e (fun i h => (∃ old, IsEnum h e it ((i : Nat) : Int) old) ∧ h.IsTupleIter it a i ∧ e ≠ it) where
  mem := by simp
  obj := fun i h st b hb => by
    obtain ⟨⟨old, he⟩, ⟨o, ho, hc, hd⟩, _⟩ := st
    have e' : b = e ∨ b = it := by simpa using hb
    rcases e' with z | z
    · rw [z]; exact ⟨_, he, fun v q => nomatch q⟩
    · rw [z]; exact ⟨o, ho, fun v q => by rw [hd] at q; cases q⟩
  keep := fun i h h' st k => let ⟨⟨old, he⟩, hi, hne⟩ := st; ⟨⟨old, k e (by simp) _ he⟩, hi.at fun o q => k it (by simp) o q, hne⟩
  item := by
    intro X hP hw hK hc i pins s σ H E I hf st hg
    subst hP hw hK
    obtain ⟨⟨old, he⟩, hit, hne⟩ := st
    obtain ⟨xs, x, hq, hx⟩ := hg
    obtain ⟨its, rv, p, hz⟩ := I.tuple hq
    obtain ⟨u, hu, ru⟩ := rv.get hx
    have hel : e < s.heap.objs.size := Heap.lt_size he
    have hil : it < s.heap.objs.size := by obtain ⟨_, q, _⟩ := hit; exact Heap.lt_size q
    have p' : s.heap.IsTuple a its.toArray := p
    have hei : e ∉ [it, a] := fun hm => by
      rcases List.mem_cons.mp hm with z | z
      · exact hne z
      · obtain ⟨o, ho, hco, _⟩ := p'
        have z' : e = a := by simpa using z
        subst z'
        rw [he] at ho; cases ho
        exact absurd hco (by simp)
    have lt : i < its.toArray.size := by
      have : u ∈ its := List.mem_of_getElem? hu
      have h2 : i < its.length := by
        rcases Nat.lt_or_ge i its.length with q | q
        · exact q
        · rw [List.getElem?_eq_none q] at hu; cases hu
      simpa using h2
    refine wpAny_pyNext_enum_itemD (Draws.tuple (A := X.A.in1) (I.ok.hd hc) it a hai its.toArray) he ⟨hit, p'⟩ lt hne hei fun x0 h' tk hx0 ho hst hT hsz hk => ?_
    have ex : x0 = u := by
      have : its[i]? = some x0 := by simpa using hx0
      rw [hu] at this; cases this; rfl
    subst ex
    refine ⟨_, rfl, wpAny_letOwnedTupleGo_enum (s := { s with heap := h', toks := tk + 1 }) ho fun h'' he' sb => ?_⟩
    have hT2 : h''.get? s.heap.objs.size = some { cls := .type "tuple", data := .seq #[.int i tk, x0] } := (sb.2 _ (Nat.ne_of_gt hel)).trans hT
    have new : ObjOk X.prog X.w (upd H s.heap.objs.size (.tup [.int (i : Nat), x])) h'' s.heap.objs.size (.tup [.int (i : Nat), x]) :=
      ⟨by show 2 ≤ sizeLine; decide, [.int i tk, x0], .cons ⟨_, rfl⟩ (.cons ru .nil), ⟨_, hT2, rfl, _, rfl⟩⟩
    have I1 : Inv X pins σ (upd H s.heap.objs.size (.tup [.int (i : Nat), x])) { s with heap := h'', toks := tk + 1 } :=
      I.turnedNew (ch := [e, it]) (fun b ob hb q => (sb.2 b (fun z => hb (by simp [z]))).trans (hk b ob (fun z => hb (by simp [z])) (fun z => hb (by simp [z])) q)) hf (Nat.le_refl _) new
    refine ⟨.ref s.heap.objs.size, _, I1, rfl, ⟨_, x, rfl, I.hok.fresh (Nat.le_refl _), rfl, fun ys hy => by rw [I.tuple_inj hy hq]; exact hx⟩, ⟨⟨x0, ?_⟩, hst.1.at fun o q => (sb.2 it (Ne.symm hne)).trans q, hne⟩, fun b hb => ?_⟩
    · have e1 : ((i + 1 : Nat) : Int) = (i : Int) + 1 := by omega
      rw [e1]; exact he'
    · have hb' : b < s.heap.objs.size := by
        have e' : b = e ∨ b = it := by simpa using hb
        rcases e' with z | z
        · rw [z]; exact hel
        · rw [z]; exact hil
      rw [upd_ne (Nat.ne_of_lt hb')]; exact (hf b hb).1
  done := by
    intro X hP hw hK hc i pins s σ H E I hf st hg
    subst hP hw hK
    obtain ⟨⟨old, he⟩, hit, hne⟩ := st
    obtain ⟨xs, hq, hx⟩ := hg
    obtain ⟨its, rv, p, hz⟩ := I.tuple hq
    obtain ⟨f0, f1, f2, f3, f4, f5⟩ := hf it (by simp)
    have hl := rv.length
    have p' : s.heap.IsTuple a its.toArray := p
    have hi : i = its.toArray.size := by simp; omega
    subst hi
    exact wpAny_pyNext_enum_endD (Draws.tuple (A := X.A.in1) (I.ok.hd hc) it a hai its.toArray) he ⟨hit, p'⟩ fun h' eb => ⟨rfl, I.turned (t' := s.toks) (fun b o hb q => eb b o hb q) f0 f1 f3 f4 f5⟩
  self := fun A i s Q E st h => let ⟨⟨_, he⟩, _⟩ := st; wpAny_pyIter_enum he h
def iEnumT (K : PySem.W.Frag) (ta : TA) : TI := fun σ H R => ta σ H fun vs H1 => ∃ a xs, vs = [.ref a] ∧ SqT K H1 a xs ∧ R (IteT K a) H1
theorem pi_enumT {X : Cx} {e : Expr} {ta : TA} {p pos tpos : Pos} {elts : List Expr} {kk : Nat} (hg : Gl X "enumerate") (hm : X.mg "enumerate" = none) (ha : PA X [e] ta) (hs : starEach [e] X.env = [(false, eval e X.env)] := by rfl) :
    PI X (.Tuple elts kk tpos) (.Call (.Name "enumerate" p) [e] [] pos) (iEnumT X.K ta) := by
  refine ⟨fun pins s σ H R I h => ?_⟩
  refine Call_ (ld_blt I hg hm boot_enumerate (PyProof.Rows.callWith_type1 (thn (ha.run pos pins s σ H _ I h) fun us s1 ⟨vs, H1, I1, r1, q1⟩ => ?_) hs rfl))
  obtain ⟨a, xs, ex, hq, q⟩ := q1
  subst ex
  cases r1 with
  | cons r rr =>
    cases rr
    cases r
    obtain ⟨its, rv, p', hz⟩ := I1.tuple hq
    have p2 : s1.heap.IsTuple a its.toArray := p'
    have hai : a ≠ s1.heap.objs.size := by
      obtain ⟨o, ho, _⟩ := p2
      exact Nat.ne_of_lt (Heap.lt_size ho)
    refine call_enumerate_tuple p2 fun h' he hit hsz hk => wpAny_pyIter_enum he ?_
    have I2 : Inv X pins σ H1 { s1 with heap := h' } := I1.kept (t' := s1.toks) hk
    refine ⟨s1.heap.objs.size + 1, [s1.heap.objs.size + 1, s1.heap.objs.size], _, _, H1, rfl, I2, turn_enumT a (s1.heap.objs.size + 1) s1.heap.objs.size hai, ⟨⟨.none, he⟩, hit, Nat.succ_ne_self _⟩, fun b hb => ?_, q⟩
    have e' : b = s1.heap.objs.size + 1 ∨ b = s1.heap.objs.size := by simpa using hb
    have hle : s1.heap.objs.size ≤ b := by
      rcases e' with z | z
      · rw [z]; exact Nat.le_add_right _ _
      · rw [z]; exact Nat.le_refl _
    exact I1.fpOk hle (I1.hok.fresh hle)
section
variable {K : KC} {W : MW} {σ : L2.St} {H : Hp}
theorem it_enumT {v : V} {ds : List D} {a : Addr} (hv : v = .ref a) : ItOk K (IteT K a) [(v, .tup ds)] (enumD 0 ds) := by
  subst hv
  refine ⟨fun ρ Z S F H i d' r hi => ?_, fun ρ Z S F H r => ?_⟩
  · obtain ⟨a', vs, e, q, y⟩ := (r.fr _ List.mem_cons_self : Rep K ρ Z H (.tup ds) (.ref a)).sqt
    cases e
    obtain ⟨d1, h1, rfl⟩ := enumD_get hi
    obtain ⟨x, hx, rx⟩ := y.get h1
    refine ⟨⟨vs, x, q, hx⟩, fun x' H' hy => ?_⟩
    obtain ⟨T, x1, rfl, hT, rfl, h⟩ := hy
    have := h vs q
    rw [hx] at this; cases this
    have st : Stb K Z H (upd H T (.tup [.int (i : Nat), x])) := Stb.new hT (r.zne hT)
    refine ⟨r.grow hT, T, _, rfl, .of upd_same, .cons ?_ (.one (RepS.stb st (fun _ _ h => h) (fun _ h => h) _ _ rx))⟩
    show _ = _
    rw [Nat.zero_add]
  · obtain ⟨a', vs, e, q, y⟩ := (r.fr _ List.mem_cons_self : Rep K ρ Z H (.tup ds) (.ref a)).sqt
    cases e
    exact ⟨vs, q, by rw [enumD_len]; exact y.length⟩
theorem enum2_of {m : M D} {te : TE} (ha : ∀ σ H Q, simE K W m σ H Q → te σ H Q) {R : It → Hp → Prop}
    (h : simI K W (m.bind fun d => M.opt ((match d with | .str _ => none | d => seqItems d).map (enumD 0))) σ H R) : iEnum K (tCons te tNil) σ H R ∨ iEnumT K (tCons te tNil) σ H R := by
  obtain ⟨ρ, Z, S, en, F, ⟨k, r⟩, h⟩ := h
  have h0 := h.bind
  have go : ∀ {P : V → Hp → Prop}, (∀ d en1 S1, Post K W σ F (fun ds en S => ∀ (ρ Z : List Addr) (H : Hp) (J : It) (held : List (V × D)), EnvOk σ en → Rel K ρ Z S (held ++ (pairs σ en ++ F)) H → ItOk K J held ds → R J H) (M.opt ((match d with | .str _ => none | d => seqItems d).map (enumD 0)) en1 S1) → m en S = .ok d en1 S1 →
      ∀ ρ1 Z1 v H1, EnvOk σ en1 → Rel K ρ1 Z1 S1 ((v, d) :: (pairs σ en1 ++ F)) H1 → P v H1) → te σ H P := by
    intro P hP
    refine ha σ H _ ⟨ρ, Z, S, en, F, ⟨k, r⟩, ?_⟩
    generalize hm : m en S = res at h0
    cases res with
    | ok d en1 S1 => exact fun ρ1 Z1 v H1 k1 r1 => hP d en1 S1 h0 hm ρ1 Z1 v H1 k1 r1
    | exc x en1 S1 => exact h0
    | stuck => exact h0
  cases hm : m en S with
  | ok d en1 S1 =>
    rw [hm] at h0
    cases d with
    | tup ds =>
      refine .inr (go fun d' en' S' q e' ρ1 Z1 v H1 k1 r1 => ?_)
      rw [hm] at e'; cases e'
      obtain ⟨a, vs, rfl, q1, y⟩ := (r1.fr _ List.mem_cons_self : Rep K ρ1 Z1 H1 (.tup ds) v).sqt
      exact ⟨a, vs, rfl, q1, q ρ1 Z1 H1 _ [(.ref a, .tup ds)] k1 r1 (it_enumT rfl)⟩
    | own ds =>
      refine .inl (go fun d' en' S' q e' ρ1 Z1 v H1 k1 r1 => ?_)
      rw [hm] at e'; cases e'
      obtain ⟨a, vs, rfl, q1, y⟩ := (r1.fr _ List.mem_cons_self : Rep K ρ1 Z1 H1 (.own ds) v).sql (ds := ds) rfl
      exact ⟨a, vs, rfl, q1, q ρ1 Z1 H1 _ [(.ref a, .own ds)] k1 r1 (it_enum rfl rfl)⟩
    | frz ds =>
      refine .inl (go fun d' en' S' q e' ρ1 Z1 v H1 k1 r1 => ?_)
      rw [hm] at e'; cases e'
      obtain ⟨a, vs, rfl, q1, y⟩ := (r1.fr _ List.mem_cons_self : Rep K ρ1 Z1 H1 (.frz ds) v).sql (ds := ds) rfl
      exact ⟨a, vs, rfl, q1, q ρ1 Z1 H1 _ [(.ref a, .frz ds)] k1 r1 (it_enum rfl rfl)⟩
    | _ => exact h0.elim
  | exc x en1 S1 =>
    refine .inl (go fun d' en' S' q e' => ?_)
    rw [hm] at e'; cases e'
  | stuck =>
    rw [hm] at h0
    exact h0.elim
theorem pi_enum2 {X : Cx} {W : MW} {e : Expr} {m : M D} {p pos tpos : Pos} {elts : List Expr} {kk : Nat} (hg : Gl X "enumerate") (hm : X.mg "enumerate" = none) (h : PA X [e] (tCons (simE (KX X pn) W m) tNil)) (hs : starEach [e] X.env = [(false, eval e X.env)]) :
    PI X (.Tuple elts kk tpos) (.Call (.Name "enumerate" p) [e] [] pos) (simI (KX X pn) W (m.bind fun d => M.opt ((match d with | .str _ => none | d => seqItems d).map (enumD 0)))) := ⟨fun pins s σ H R I q => by
  rcases enum2_of (fun _ _ _ q => q) q with q | q
  · exact (pi_enum hg hm h hs).run pins s σ H R I q
  · exact (pi_enumT hg hm h hs).run pins s σ H R I q⟩
end
end Mi
end
section
set_option Elab.async false
set_option maxRecDepth 100000
set_option linter.all false
namespace Mi
open PySem PySem.Spec PyProof.Rows L2
variable {pn : Nat → Option (Addr × Obj × HO)}
section
variable {X : Cx}
/-! ### index -/
theorem items_eq {A : Around} {s : Shared} {vs : List Value} {xs : List PyData} {as bs : List Addr} {x : Value} {d : PyData} (rs : ReadsAll s.heap vs xs as) (rx : Reads s.heap x d bs) (hxs : PyData.plainAll xs = true) (hd : d.plain = true)
    (hu : A.units + 1 + min (PyData.depthAll xs) d.depth < cLine) : SeqAt.ItemsEq A.in1 s vs (xs.map fun y => PyData.eqv y d) x true := by
  have e1 : xs.map (fun y => PyData.eqv y d) = vs.map fun y => PyData.eqv (SeqAt.readOf s.heap y) d := by
    rw [← SeqAt.readsAll_map_plain xs _ _ hxs rs, List.map_map]; rfl
  rw [e1]
  refine ⟨by simp, fun j h1 h2 => ?_⟩
  have := SeqAt.items_plain (A := A) (vs := vs.toArray) (by simpa using rs) rx hxs hd hu vs[j] (by simp)
  simpa using this
theorem pys_map (x : D) : ∀ ds : List D, (D.pys ds).map (fun z => PyData.eqv z x.py) = ds.map fun z => D.eqv z x
  | [] => rfl
  | d :: ds => by simp only [D.pys, List.map_cons, pys_map x ds]; rfl
theorem idx_data {y x : V} {a : D} {b : D} {ds : List D} {d : D} {ρ Z : List Addr} {H : Hp} {pins : List (Addr × Obj)} {s : Shared} {σ : L2.St} {v u : Value} {Q : VK} {T : String} (hu : X.A.units + 64 < cLine) (I : Inv X pins σ H s) (ry : RelV y v) (rx : RelV x u)
    (hb : Rep (KX X pn) ρ Z H b y) (ha : Rep (KX X pn) ρ Z H a x) (hs : b.seq? = some ds) (hT : T = (match b with | .tup _ => "tuple.index" | _ => "list.index")) (e : pIndex ds a = some d) (hQ : ∀ v H', Out (KX X pn) ρ Z H d v H' → Q v H') :
    wpAny (model X.prog X.w) X.A (call (.builtin T) [v, u]) (EP X pins σ Q) X.xe s := by
  unfold pIndex at e
  split at e
  · rename_i hc
    simp only [cmpOk, Bool.and_eq_true, decide_eq_true_eq] at hc
    obtain ⟨⟨⟨pa, _⟩, hd⟩, pb⟩ := hc
    split at e
    · rename_i hm
      cases e
      obtain ⟨as, r1⟩ := Dp.reads I _ _ _ (ha.dp pa) rx
      have hdep : X.A.units + 1 + min (PyData.depthAll (D.pys ds)) a.py.depth < cLine := by
        have := depthAll_min 60 a.py (D.pys ds) hd
        omega
      have pp := plains_py ds pb
      have hm' : true ∈ (D.pys ds).map fun z => PyData.eqv z a.py := by rw [pys_map]; simpa using hm
      have fin : ∀ tk : Nat, EP X pins σ Q (.int (((D.pys ds).map fun z => PyData.eqv z a.py).idxOf true : Nat) tk) { s with toks := s.toks + 1 } := fun tk =>
        ⟨.int ((((D.pys ds).map fun z => PyData.eqv z a.py).idxOf true : Nat) : Int), H, I.kept (t' := s.toks + 1) fun _ _ e => e, ⟨_, rfl⟩, by rw [pys_map]; exact hQ _ _ (.old rfl)⟩
      have lst : ∀ {bs}, ds.length ≤ sizeLine → Reads s.heap v (.list (D.pys ds)) bs → T = "list.index" → wpAny (model X.prog X.w) X.A (call (.builtin T) [v, u]) (EP X pins σ Q) X.xe s := by
        intro bs hz r2 hT
        subst hT
        cases r2 with
        | list h1 h2 h3 h4 =>
          refine SeqAt.call_list_index ⟨_, h1, h2, _, by simpa using h3⟩ (items_eq h4 r1 pp (plain_py _ pa) hdep) (by rw [pys_map]; simpa using hz) hm' (fin _)
      have len : ∀ {xs : List D}, b.lst? = some xs → xs.length ≤ sizeLine := by
        intro xs hl
        obtain ⟨p, ws, rfl, q, r⟩ := hb.sql hl
        obtain ⟨_, _, _, hz⟩ := I.list q
        rw [← r.length]; exact hz
      cases b with
      | own xs =>
        simp only [D.seq?, Option.some.injEq] at hs
        subst hs
        obtain ⟨bs, r2⟩ := Dp.reads I _ _ _ (hb.dp (d := .own xs) pb) ry
        exact lst (len rfl) r2 hT
      | frz xs =>
        simp only [D.seq?, Option.some.injEq] at hs
        subst hs
        obtain ⟨bs, r2⟩ := Dp.reads I _ _ _ (hb.dp (d := .frz xs) pb) ry
        exact lst (len rfl) r2 hT
      | tup xs =>
        simp only [D.seq?, Option.some.injEq] at hs
        subst hs
        obtain ⟨bs, r2⟩ := Dp.reads I _ _ _ (hb.dp (d := .tup xs) pb) ry
        subst hT
        cases r2 with
        | tuple h1 h2 h3 h4 => exact SeqAt.call_tuple_index ⟨_, h1, h2, _, by simpa using h3⟩ (items_eq h4 r1 pp (plain_py _ pa) hdep) hm' (fin _)
      | _ => cases hs
    · cases e
  · cases e
theorem mt_index_P (hu : X.A.units + 64 < cLine) : MtR X "list.index" (fun x ws H Q => rP (KX X pn) (.m 0) (x :: ws) H Q) := by
  intro pins s σ H x ws v us Q I rx rs h
  obtain ⟨ρ, Z, ds, d, e, ar, hQ⟩ := h
  match ds, e with
  | [b, a], e =>
    cases ar with
    | cons hb ar =>
      obtain ⟨y, rfl, ha⟩ : ∃ y, ws = [y] ∧ Rep (KX X pn) ρ Z H a y := by
        cases ar with | cons h t => cases t; exact ⟨_, rfl, h⟩
      obtain ⟨u, rfl, ru⟩ := rs.one
      cases b <;> simp only [primF, D.lst?, Option.bind_some, Option.bind_none] at e <;> first | (cases e; done) | skip
      · exact idx_data hu I rx ru hb ha rfl rfl e hQ
      · exact idx_data hu I rx ru hb ha rfl rfl e hQ
theorem mt_tindex_P (hu : X.A.units + 64 < cLine) : MtR X "tuple.index" (fun x ws H Q => rP (KX X pn) (.m 1) (x :: ws) H Q) := by
  intro pins s σ H x ws v us Q I rx rs h
  obtain ⟨ρ, Z, ds, d, e, ar, hQ⟩ := h
  match ds, e with
  | [.tup b, a], e =>
    cases ar with
    | cons hb ar =>
      obtain ⟨y, rfl, ha⟩ : ∃ y, ws = [y] ∧ Rep (KX X pn) ρ Z H a y := by
        cases ar with | cons h t => cases t; exact ⟨_, rfl, h⟩
      obtain ⟨u, rfl, ru⟩ := rs.one
      exact idx_data hu I rx ru hb ha rfl rfl e hQ
/-! ### count -/
theorem mt_count_P (hu : X.A.units + 64 < cLine) : MtR X "list.count" (fun x ws H Q => rP (KX X pn) (.m 2) (x :: ws) H Q) := by
  intro pins s σ H x ws v us Q I rx rs h
  obtain ⟨ρ, Z, ds, d, e, ar, hQ⟩ := h
  match ds, e with
  | [b, a], e =>
    cases ar with
    | cons hb ar =>
      obtain ⟨y, rfl, ha⟩ : ∃ y, ws = [y] ∧ Rep (KX X pn) ρ Z H a y := by
        cases ar with | cons h t => cases t; exact ⟨_, rfl, h⟩
      obtain ⟨u, rfl, ru⟩ := rs.one
      have fin : ∀ xs : List D, b.lst? = some xs → pCount xs a = some d → (∃ bs, Reads s.heap v (.list (D.pys xs)) bs) ∨ D.plains xs = false → wpAny (model X.prog X.w) X.A (call (.builtin "list.count") [v, u]) (EP X pins σ Q) X.xe s := by
        intro xs hl e hr
        unfold pCount at e
        split at e
        · rename_i hc
          simp only [cmpOk, Bool.and_eq_true, decide_eq_true_eq] at hc
          obtain ⟨⟨⟨pa, _⟩, hd⟩, pb⟩ := hc
          cases e
          rcases hr with ⟨bs, r2⟩ | z
          · obtain ⟨as, r1⟩ := Dp.reads I _ _ _ (ha.dp pa) ru
            have hdep : X.A.units + 1 + min (PyData.depthAll (D.pys xs)) a.py.depth < cLine := by
              have := depthAll_min 60 a.py (D.pys xs) hd
              omega
            have pp := plains_py xs pb
            cases r2 with
            | list h1 h2 h3 h4 =>
              rename_i l o vs n as2
              obtain ⟨cls, dd, data, sl⟩ := o
              simp only at h2 h3
              subst h2 h3
              have ie := SeqAt.items_plain (A := X.A) (vs := vs) h4 r1 pp (plain_py _ pa) hdep
              refine call_meets PySem.F.slot_list_count ⟨_, h1, rfl⟩ PySem.F.entry_list_count (PySem.F.args_list_count_2 _ _)
                (SeqAt.list_countAt _ _ _ dd sl u (fun y => PyData.eqv (SeqAt.readOf s.heap y) a.py)) ⟨h1, fun y hy => ie y hy, ?_⟩
              have ec : vs.toList.countP (fun y => PyData.eqv (SeqAt.readOf s.heap y) a.py) = xs.countP fun z => D.eqv z a := by
                have e1 := SeqAt.readsAll_map_plain (D.pys xs) _ _ pp h4
                have e2 : vs.toList.countP (fun y => PyData.eqv (SeqAt.readOf s.heap y) a.py) = ((vs.toList.map fun y => SeqAt.readOf s.heap y).map fun y => PyData.eqv y a.py).count true := by
                  rw [List.count, List.countP_map, List.countP_map]
                  congr 1
                  funext y
                  simp
                rw [e2, e1, pys_map, List.count, List.countP_map]
                congr 1
                funext y
                simp
              refine ⟨.int (xs.countP (fun z => D.eqv z a) : Nat), H, I.tok _, ⟨s.toks, ?_⟩, hQ _ _ (.old rfl)⟩
              show Value.int ((vs.toList.countP _ : Nat) : Int) s.toks = _
              rw [ec]
          · rw [z] at pb; cases pb
        · cases e
      have rd : ∀ xs : List D, b.lst? = some xs → b.plain = D.plains xs → b.py = .list (D.pys xs) → (∃ bs, Reads s.heap v (.list (D.pys xs)) bs) ∨ D.plains xs = false := by
        intro xs hl hp hpy
        cases hpl : D.plains xs with
        | false => exact .inr rfl
        | true =>
          obtain ⟨bs, r2⟩ := Dp.reads I _ _ _ (hb.dp (by rw [hp]; exact hpl)) rx
          rw [hpy] at r2
          exact .inl ⟨bs, r2⟩
      replace e : (b.lst?.bind fun ds => pCount ds a) = some d := e
      cases b <;> simp only [D.lst?, Option.bind_some, Option.bind_none] at e <;> first | (cases e; done) | skip
      · exact fin _ rfl e (rd _ rfl rfl rfl)
      · exact fin _ rfl e (rd _ rfl rfl rfl)
/-! ### str(x) -/
mutual
theorem noDict_py : ∀ d : D, d.py.hasDict = false
  | .non => rfl
  | .bl _ => rfl
  | .int _ => rfl
  | .str _ => rfl
  | .ref _ => rfl
  | .tup ds => noDict_pys ds
  | .frz ds => noDict_pys ds
  | .own ds => noDict_pys ds
theorem noDict_pys : ∀ ds : List D, PyData.hasDictAll (D.pys ds) = false
  | [] => rfl
  | d :: ds => by
    show (d.py.hasDict || PyData.hasDictAll (D.pys ds)) = false
    rw [noDict_py d, noDict_pys ds]; rfl
end
theorem call_str_P (hu : X.A.units + 64 < cLine) (hg : X.A.guards = some []) : CallR X (.type "str") (rP (KX X pn) .str) := by
  intro pins s σ H xs us Q I r h
  obtain ⟨ρ, Z, ds, d, e, ar, hQ⟩ := h
  match ds, e with
  | [a], e =>
    obtain ⟨x, rfl, ha⟩ : ∃ x, xs = [x] ∧ Rep (KX X pn) ρ Z H a x := by
      cases ar with | cons h t => cases t; exact ⟨_, rfl, h⟩
    obtain ⟨u, rfl, ru⟩ := r.one
    replace e : pStr a = some d := e
    have big' := big_eq
    have gen : (∀ z, a ≠ .str z) → (if D.plain a && a.py.showable && decide (a.py.depth ≤ 60) && decide (a.py.shown.length ≤ big) then some (D.str a.py.shown) else none) = some d → wpAny (model X.prog X.w) X.A (call (.type "str") [u]) (EP X pins σ Q) X.xe s := by
      intro hs e
      split at e
      · rename_i hc
        cases e
        simp only [Bool.and_eq_true, decide_eq_true_eq] at hc
        obtain ⟨⟨⟨h1, h2⟩, h3⟩, h4⟩ := hc
        have fin : ∀ (h' : Heap) (tk : Tok) (n : Nat), (∀ b o, s.heap.get? b = some o → h'.get? b = some o) → EP X pins σ Q (.str a.py.shown tk) { s with heap := h', toks := n } := fun h' tk n hk =>
          ⟨.str a.py.shown, H, I.kept (t' := n) hk, ⟨_, rfl⟩, hQ _ _ (.old rfl)⟩
        have one : ∀ (tk : Tok) (n : Nat), EP X pins σ Q (.str a.py.shown tk) { s with toks := n } := fun tk n => fin s.heap tk n fun _ _ e => e
        have rd : ∀ {p : Addr}, u = .ref p → wpAny (model X.prog X.w) X.A (call (.type "str") [u]) (EP X pins σ Q) X.xe s := by
          intro p hp
          subst hp
          obtain ⟨as, r1⟩ := Dp.reads I _ _ _ (ha.dp h1) ru
          exact str_of_reads r1 h2 (PyData.noDict_hsm (noDict_py a)) hg (by omega) (fun _ _ e => e) (fun h' u tk hk => fin h' u tk hk) (by omega)
        cases a with
        | non => cases ha.non; cases (show u = Value.none from ru); exact PySem.P.str_of_none (one _ _)
        | bl b => cases ha.bl; cases (show u = Value.bool b from ru); exact PySem.P.str_of_bool (by cases b <;> exact one _ _)
        | int i =>
          cases ha.int
          obtain ⟨t, rfl⟩ := ru
          exact PySem.P.str_of_int (by simpa [D.py, PyData.showable] using h2) (one _ _)
        | str z => exact absurd rfl (hs z)
        | tup b => obtain ⟨p, _, rfl, _⟩ := ha.sqt; exact rd ru
        | own b => obtain ⟨p, _, rfl, _⟩ := ha.rd (ds := b) rfl; exact rd ru
        | frz b => obtain ⟨p, _, rfl, _⟩ := ha.rd (ds := b) rfl; exact rd ru
        | ref n => cases h1
      · cases e
    cases a with
    | str z =>
      cases e
      cases ha.str
      obtain ⟨t, rfl⟩ := ru
      exact PySem.P.str_of_str ⟨.str z, H, I, ⟨_, rfl⟩, hQ _ _ (.old rfl)⟩
    | _ => exact gen (fun z h => by cases h) e
end
end Mi
end
section
set_option Elab.async false
set_option maxRecDepth 100000
set_option linter.all false
namespace Mi
open PySem PySem.Spec PyProof.Rows L2
variable {pn : Nat → Option (Addr × Obj × HO)}
/-! ### a def's promise, where no repr is under way -/
structure FnG (P : Program) (w : World) (K : PySem.W.Frag) (mg : Str → Option Value) (base : Heap) (k : Nat) (f : Addr) (fd : FuncData) (ps : List Str) (sp : Sp) : Prop where
  len : ∀ vs H Q E, sp vs H Q E → vs.length = ps.length
  run : ∀ (A : Around) (outer : List PySem.Env) (s : Shared) (H : Hp) (args : PySem.Args) (us : List Value) (vs : List V) (Q : VK) (E : XK), Room k A → A.guards = some [] → Env0 P w K mg base A outer s H → BindsTo s fd args (ps.zip us) → Vals vs us → sp vs H Q E →
    codeAny (model P w) A (.call (.ref f) args) (CR (L2.CX P w) outer P w H s Q E) s
section
variable {P : Program} {w : World} {K : PySem.W.Frag} {mg : Str → Option Value} {base : Heap}
/-- from the body's rules -/
theorem fnG_of {x qual : Str} {params : Arguments} {body : List Stmt} {scope : Scope} {dvs : List V} {kws : List (Str × V)} {f : Addr} {fd : FuncData} {N ps : List Str} {k : Nat} {sp : Sp} (F : FunD K x qual params body scope dvs kws f fd) (S : FnScope N ps scope)
    (len : ∀ vs H Q E, sp vs H Q E → vs.length = ps.length)
    (hbody : ∀ (cdv : Value) (A : Around) (outer : List PySem.Env) (s : Shared) (H : Hp) (vs : List V) (Q : VK) (E : XK), Room k (A.deeper (envOfC qual scope s.heap.objs.size f cdv)) → (A.deeper (envOfC qual scope s.heap.objs.size f cdv)).guards = some [] → sp vs H Q E →
      ∃ t, PSs (cxOf (L2.CX P w) P w K mg base N qual scope f cdv A outer s H E) body t ∧ t { nx := fun _ H' => Q .non H', rt := Q } (L2.start N vs) H) : FnG P w K mg base (k + 1) f fd ps sp := by
  obtain ⟨oc, od, dV, kV, doc, pm, an, cdv, ct, osl, rfl, lk, hcd, _, _⟩ := F.ex
  refine ⟨len, fun A outer s H args us vs Q E room gd env0 bind rel prom => ?_⟩
  have kin : K.In s.heap := env0.mod.kin.keeps fun b o e => (env0.bs b o e).1
  have nolim : s.heap.NoLimit := env0.mod.nolimit.keeps fun b o e => (env0.bs b o e).1
  have par : ∀ y ∈ ps.zip us, scope.names.lookup y.1 = some .local ∨ (scope.names.lookup y.1 = some .cell ∧ ((cellsFrom (s.heap.objs.size + 1) scope.names []).lookup y.1).isSome = true) := by
    rintro ⟨n, v⟩ hy
    have := S.par n (List.of_mem_zip hy).1
    exact this.imp id fun q => ⟨q, PySem.W.cellsFrom_some _ _ _ (.inl q)⟩
  refine codeAny_call_function room.depth (kin _ _ lk) rfl S.co S.gen rfl (PySem.W.codeRec_of kin hcd) (bind _ _ _ _ (wpAny_newFunctionEnv_cells S.kind par fun env he s1 x => ?_))
  subst he
  refine ⟨nolim.keeps x.toInCall.keep, codeAny_func ?_⟩
  obtain ⟨t, ht, ready⟩ := hbody cdv A outer s H vs Q E (room.deeper _) gd prom
  have I := inv_start (CX := L2.CX P w) (E := E) S room.hd env0 (len _ _ _ _ prom) rel x
  refine wpAny_mono (ht.run [] s1 (L2.start N vs) H _ I ready) (fun fl s' out => ?_) fun _ _ z => z
  cases fl with
  | ret u =>
    obtain ⟨v, σ', H', J, rv, q⟩ := out
    exact ⟨v, H', J.os, J.bare, J.base, J.hok, rv, q⟩
  | next =>
    obtain ⟨σ', H', J, q⟩ := out
    exact ⟨V.non, H', J.os, J.bare, J.base, J.hok, rfl, q⟩
  | brk => obtain ⟨_, _, _, q⟩ := out; exact q.elim
  | cont => obtain ⟨_, _, _, q⟩ := out; exact q.elim
end
section
variable {X : Cx} {k : Nat} {f : Addr} {fd : FuncData} {ps : List Str} {sp : Sp} {E : L2.St → XK} {pins : List (Addr × Obj)} {σ : L2.St} {H : Hp} {s : Shared} {Q : VK}
theorem run_G (F : FnG X.prog X.w X.K X.mg X.base k f fd ps sp) (room : Room k X.A) (gd : X.A.guards = some []) (hx : PassesAt (L2.CX X.prog X.w) X σ (E σ)) (I : Inv X pins σ H s) {us : List Value} {kw : List (Str × Value)} {us' : List Value} {vs' : List V}
    (b : BindsTo s fd ⟨us, kw⟩ (ps.zip us')) (r : Vals vs' us') (h : sp vs' H Q (E σ)) : wpAny (model X.prog X.w) X.A (call (.ref f) us kw) (EP X pins σ Q) X.xe s := by
  refine wpAny_call (codeAny_mono (F.run X.A X.stack s H ⟨us, kw⟩ us' vs' Q (E σ) room gd I.env0 b r h) fun r s' hq => ?_)
  cases r with
  | error e => exact hx pins H s e s' I hq
  | ok fl =>
    cases fl with
    | ret u => exact I.after hq
    | next => exact hq.elim
    | brk => exact hq.elim
    | cont => exact hq.elim
/-- how a call's arguments come to the parameters -/
def BindA (K : KC) (fd : FuncData) (ps : List Str) (n : Nat) (ks : List Str) (arr : List (Nat ⊕ D)) : Prop := ∀ (s : Shared) (us ws : List Value), K.k.In s.heap → us.length = n → ws.length = ks.length →
  ∃ us', BindsTo s fd ⟨us, ks.zip ws⟩ (ps.zip us') ∧ ∀ vs, Vals vs (us ++ ws) → ∃ vs', Vals vs' us' ∧ ∀ ρ Z H ds, RepSs K ρ Z H ds vs → RepSs K ρ Z H (arrange arr ds) vs'
def spA (K : KC) (arr : List (Nat ⊕ D)) (n m : Nat) (sp : Sp) (vs zs : List V) (H : Hp) (Q : VK) (E : XK) : Prop := vs.length = n ∧ zs.length = m ∧ ∀ vs', (∀ ρ Z H ds, RepSs K ρ Z H ds (vs ++ zs) → RepSs K ρ Z H (arrange arr ds) vs') → sp vs' H Q E
variable {x : Str} {p pos : Pos} {es : List Expr} {kws : List Keyword} {t tk : TA} {n : Nat} {ks : List Str} {arr : List (Nat ⊕ D)}
theorem kw_some {kws : List Keyword} {pos : Pos} {env : PySem.Env} (hall : (backToKw pos (keywordEach kws env)).all (·.1.isSome) = true) : (backToKw pos (keywordEach kws env)).any (·.1.isNone) = false := by
  rw [List.any_eq_false]
  rw [List.all_eq_true] at hall
  intro y hy
  have := hall y hy
  cases h : y.1 <;> simp_all
theorem last_G (F : FnG X.prog X.w X.K X.mg X.base k f fd ps sp) (room : Room k X.A) (gd : X.A.guards = some []) (hb : BindA (KX X pn) fd ps n ks arr) (hx : PassesAt (L2.CX X.prog X.w) X σ (E σ)) {us ws : List Value} {vs zs : List V} (I : Inv X pins σ H s) (r : Vals vs us) (rz : Vals zs ws)
    (q : spA (KX X pn) arr n ks.length sp vs zs H Q (E σ)) : wpAny (model X.prog X.w) X.A (call (.ref f) us (ks.zip ws)) (EP X pins σ Q) X.xe s := by
  obtain ⟨l1, l2, q⟩ := q
  obtain ⟨us', b, hv⟩ := hb s us ws I.kIn (by rw [← r.length]; exact l1) (by rw [← rz.length]; exact l2)
  obtain ⟨vs', r', hd⟩ := hv (vs ++ zs) (r.append rz)
  exact run_G F room gd hx I b r' (q vs' hd)
/-- f(.., k = ..) -/
theorem pe_callG (F : FnG X.prog X.w X.K X.mg X.base k f fd ps sp) (room : Room k X.A) (gd : X.A.guards = some []) (hg : Gl X x) (hdb : (x == ("__debug__" : Str)) = false) (hm : X.mg x = some (.ref f)) (hk : PySem.W.keepIn X.K (.ref f) = true) (hb : BindA (KX X pn) fd ps n ks arr)
    (hx : ∀ σ, PassesAt (L2.CX X.prog X.w) X σ (E σ)) {e : Expr} (ha : PA X (e :: es) t) (hkw : PK X kws tk) (hall : (backToKw pos (keywordEach kws X.env)).all (·.1.isSome) = true) (hks : (backToKw pos (keywordEach kws X.env)).filterMap (·.1) = ks)
    (hs : (backTo pos (starEach (e :: es) X.env)).any (·.1) = false) (hse : starEach (e :: es) X.env = (false, eval e X.env) :: starEach es X.env) :
    PE X (.Call (.Name x p) (e :: es) kws pos) (fun σ H Q => t σ H fun vs H1 => tk σ H1 fun zs H2 => spA (KX X pn) arr n ks.length sp vs zs H2 Q (E σ)) := by
  refine ⟨fun pins s σ H Q I h => wpAny_Call_Name_kw (ld_glob I hg hm ?_ hdb)⟩
  refine PySem.W.callWith_KW (h₀ := X.base) I.ok.mod.kin hk hall (thn (ha.run pos pins s σ H _ I h) fun us s1 ⟨vs, H1, I1, r, q⟩ => ?_) (by rw [hs, kw_some hall]; rfl) hse
  refine thn (hkw.run pos pins s1 σ H1 _ I1 q) fun ws s2 ⟨zs, H2, I2, rz, q2⟩ => ⟨I2.kIn, ?_⟩
  rw [hks]
  exact last_G F room gd hb (hx σ) I2 r rz q2
theorem pe_callG0 (F : FnG X.prog X.w X.K X.mg X.base k f fd ps sp) (room : Room k X.A) (gd : X.A.guards = some []) (hg : Gl X x) (hdb : (x == ("__debug__" : Str)) = false) (hm : X.mg x = some (.ref f)) (hk : PySem.W.keepIn X.K (.ref f) = true) (hb : BindA (KX X pn) fd ps n ks arr)
    (hx : ∀ σ, PassesAt (L2.CX X.prog X.w) X σ (E σ)) (hkw : PK X kws tk) (hall : (backToKw pos (keywordEach kws X.env)).all (·.1.isSome) = true) (hks : (backToKw pos (keywordEach kws X.env)).filterMap (·.1) = ks) :
    PE X (.Call (.Name x p) [] kws pos) (fun σ H Q => tk σ H fun zs H2 => spA (KX X pn) arr n ks.length sp [] zs H2 Q (E σ)) := by
  refine ⟨fun pins s σ H Q I h => wpAny_Call_Name_kw (ld_glob I hg hm ?_ hdb)⟩
  refine PySem.W.callWith_KW0 (h₀ := X.base) I.ok.mod.kin hk hall (thn (hkw.run pos pins s σ H _ I h) fun ws s2 ⟨zs, H2, I2, rz, q2⟩ => ⟨I2.kIn, ?_⟩) (by rw [kw_some hall]; rfl)
  rw [hks]
  exact last_G F room gd hb (hx σ) I2 .nil rz q2
end
section
variable {K : KC} {W : MW} {σ : L2.St} {H : Hp}
theorem callA_of {cf : Calls} {np f n m : Nat} {arr : List (Nat ⊕ D)} (hn : ∀ ds s, ds.length ≠ np → cf f ds s = .stuck) {ms mz : M (List D)} {Q : VK} (h : simE K W (ms.bind fun ds => mz.bind fun zs => if ds.length = n ∧ zs.length = m then callM cf f (arrange arr ((ds ++ zs).map D.hard)) else .stuck) σ H Q) :
    simAs K W ms σ H fun vs H1 => simAs K W mz σ H1 fun zs H2 => spA K arr n m (spF K W.mg cf np f) vs zs H2 Q (WE W.w σ) := by
  obtain ⟨ρ, Z, S, en, F, ⟨k, r⟩, h⟩ := h
  refine Sim.start k r (Le.refl F) h.bind fun ds en1 S1 q ρ1 Z1 vs H1 k1 hl r1 => ?_
  have e0 : ∀ {A B G : List (V × D)}, Le (A ++ (B ++ G)) (B ++ (A ++ G)) := fun {A B G} => ⟨fun p hp => by
    simp only [List.mem_append] at hp ⊢
    rcases hp with h | h | h
    · exact .inr (.inl h)
    · exact .inl h
    · exact .inr (.inr h), fun a => by simp only [cF_append]; omega⟩
  refine Sim.start k1 (F' := vs.zip ds ++ F) (r1.le e0) ⟨fun p hp => List.mem_append_right _ hp, fun a => by simp only [cF_append]; omega⟩ (Post.bind q) fun zd en2 S2 q2 ρ2 Z2 zs H2 k2 hl2 r2 => ?_
  obtain ⟨Z3, r3, h3, z3⟩ := hardens hl2 r2
  obtain ⟨Z4, r4, h4, z4⟩ := hardens (F := pairs σ en2 ++ F) hl (r3.le e0)
  by_cases hc : ds.length = n ∧ zd.length = m
  · rw [if_pos hc] at q2
    have rs : RepSs K ρ2 Z4 H2 ((ds ++ zd).map D.hard) (vs ++ zs) := by
      rw [List.map_append]
      exact h4.append (RepSs.stb Stb.refl (fun _ _ h => h) z4 _ _ h3)
    refine ⟨hl.trans hc.1, hl2.trans hc.2, fun vs' hv => ?_⟩
    have ra := hv ρ2 Z4 H2 _ rs
    generalize hds : arrange arr ((ds ++ zd).map D.hard) = da at q2 ra
    have hnp : da.length = np := by
      by_cases e : da.length = np
      · exact e
      · simp only [callM, hn da S2 e] at q2
        exact q2.elim
    refine ⟨ra.length.trans hnp, ρ2, Z4, S2, pairs σ en2 ++ F, da, ra.length.symm, r4.pushes ra, ?_⟩
    unfold callM at q2
    cases e : cf f da S2 with
    | ok d S3 =>
      rw [e] at q2
      exact fun ρ' Z' v H' r' => q2 ρ' Z' v H' k2 r'
    | exc x S3 =>
      rw [e] at q2
      exact fun ρ' Z' H' cls dx r' ex => q2 ρ' Z' H' cls dx k2 r' ex
    | stuck =>
      rw [e] at q2
      exact q2.elim
  · rw [if_neg hc] at q2
    exact q2.elim
/-! ### methods that change nothing -/
/-- whose method it is -/
def mTy : P → String
  | .m 0 => "list"
  | .m 1 => "tuple"
  | .m 2 => "list"
  | _ => "str"
theorem kind_ty {p : P} {d : D} {v : V} {ρ Z : List Addr} (hp : p ≠ .m 1) (h : Rep K ρ Z H d v) (k : kindM p d = true) : tyV K (mTy p) v H := by
  unfold kindM at k
  split at k <;> first | (cases k; done) | skip
  · obtain ⟨a, vs, rfl, q, _⟩ := h.sql rfl
    exact .inl ⟨rfl, vs, q⟩
  · obtain ⟨a, vs, rfl, q, _⟩ := h.sql rfl
    exact .inl ⟨rfl, vs, q⟩
  · exact absurd rfl hp
  · obtain ⟨a, vs, rfl, q, _⟩ := h.sql rfl
    exact .inl ⟨rfl, vs, q⟩
  · obtain ⟨a, vs, rfl, q, _⟩ := h.sql rfl
    exact .inl ⟨rfl, vs, q⟩
  · rename_i n x hn
    cases n with
    | zero => exact absurd rfl hn
    | succ m => cases h.str; rfl
theorem meth_var {p : P} {i : Nat} (hp : p ≠ .m 1) {ms : M (List D)} {ta : TA} (ha : ∀ σ H Q, simOs K W ms σ H Q → ta σ H Q) {Q : VK}
    (h : simE K W (((getV i).bind fun _ => .ret (none : Option D)).bind fun r => (lookM p (some i) r).bind fun _ => ms.bind fun ds => (fin1 (some i) r).bind fun d => primM p (d :: ds)) σ H Q) :
    tVar i σ H fun x H1 => tyV K (mTy p) x H1 ∧ ta σ H1 fun ws H2 => rP K p (x :: ws) H2 Q := by
  obtain ⟨ρ, Z, S, en, F, ⟨k, r⟩, h⟩ := h
  obtain ⟨d0, e0, h⟩ := getV_ok h.bind.bind
  obtain ⟨v, hv, hm⟩ := slot_v k e0
  obtain ⟨d0', e0', h⟩ := getV_ok (Post.bind (Post.bind h.ok))
  rw [e0] at e0'; cases e0'
  cases hk : kindM p d0 with
  | false => rw [hk] at h; exact h.elim
  | true =>
    rw [hk] at h
    refine ⟨v, hv, kind_ty hp (r.fr (v, d0) (List.mem_append_left _ hm)) hk, ?_⟩
    refine ha σ H _ (Sim.start k r (Le.refl F) (Post.bind (Post.ok h)) fun ds en1 S1 q ρ1 Z1 vs H1 k1 r1 ar => ?_)
    obtain ⟨d, e, q⟩ := getV_ok (Post.bind q)
    obtain ⟨v', hv', hm'⟩ := slot_v k1 e
    rw [hv] at hv'; cases hv'
    obtain ⟨d', e', q⟩ := q.prim
    exact ⟨ρ1, Z1, _, d', e', deref_all r1 (.cons (r1.fr (v, d) (List.mem_append_left _ hm')) ar), fun v H' o => q ρ1 Z1 v H' k1 (o.rel r1)⟩
theorem meth_exp {p : P} {m0 : M D} {t0 : TE} {slot : Option Nat} (hp : p ≠ .m 1) {ms : M (List D)} {ta : TA} (h0 : ∀ σ H Q, simE K W m0 σ H Q → t0 σ H Q) (ha : ∀ σ H Q, simOs K W ms σ H Q → ta σ H Q) {Q : VK}
    (h : simE K W ((m0.bind fun d => .ret (some d)).bind fun r => (lookM p slot r).bind fun _ => ms.bind fun ds => (fin1 slot r).bind fun d => primM p (d :: ds)) σ H Q) :
    t0 σ H fun x H1 => tyV K (mTy p) x H1 ∧ ta σ H1 fun ws H2 => rP K p (x :: ws) H2 Q := by
  obtain ⟨ρ, Z, S, en, F, ⟨k, r⟩, h⟩ := h
  refine h0 σ H _ (Sim.start k r (Le.refl F) h.bind.bind fun d0 en0 S0 q0 ρ0 Z0 v0 H0 k0 r0 => ?_)
  have q1 := Post.bind (Post.bind q0.ok)
  replace q1 := q1.ok
  cases hk : kindM p d0 with
  | false => rw [hk] at q1; exact q1.elim
  | true =>
    rw [hk] at q1
    refine ⟨kind_ty hp (r0.fr (v0, d0) List.mem_cons_self) hk, ha σ H0 _ (Sim.start k0 (F' := (v0, d0) :: F) (r0.le le_swap) le_drop (Post.bind (Post.ok q1)) fun ds en1 S1 q ρ1 Z1 vs H1 k1 r1 ar => ?_)⟩
    obtain ⟨d', e', q⟩ := Post.prim (Post.bind q).ok
    exact ⟨ρ1, Z1, _, d', e', deref_all r1 (.cons (r1.fr (v0, d0) (List.mem_append_right _ List.mem_cons_self)) ar), fun v H' o => q ρ1 Z1 v H' k1 (o.rel (r1.le (app_le le_drop)))⟩
/-- of a tuple among the module's objects -/
theorem meth_const {p : P} {d0 : D} {v0 : V} (hr : ∀ ρ Z H, RepS K ρ Z H d0 v0) {ms : M (List D)} {ta : TA} (ha : ∀ σ H Q, simOs K W ms σ H Q → ta σ H Q) {Q : VK} {slot : Option Nat}
    (h : simE K W (((M.ret d0).bind fun d => .ret (some d)).bind fun r => (lookM p slot r).bind fun _ => ms.bind fun ds => (fin1 slot r).bind fun d => primM p (d :: ds)) σ H Q) :
    ta σ H fun ws H2 => rP K p (v0 :: ws) H2 Q := by
  obtain ⟨ρ, Z, S, en, F, ⟨k, r⟩, h⟩ := h
  have q0 := Post.bind (Post.bind h)
  replace q0 := (Post.bind q0.ok.ok)
  replace q0 := Post.bind q0
  replace q0 := q0.ok
  cases hk : kindM p d0 with
  | false => rw [hk] at q0; exact q0.elim
  | true =>
    rw [hk] at q0
    refine ha σ H _ (Sim.start k r (Le.refl F) (Post.bind (Post.ok q0)) fun ds en1 S1 q ρ1 Z1 vs H1 k1 r1 ar => ?_)
    obtain ⟨d', e', q⟩ := Post.prim (Post.bind q).ok
    exact ⟨ρ1, Z1, _, d', e', deref_all r1 (.cons (hr ρ1 Z1 H1).rep ar), fun v H' o => q ρ1 Z1 v H' k1 (o.rel r1)⟩
end
end Mi
end
section
set_option Elab.async false
set_option maxRecDepth 100000
set_option linter.all false
/-! Mi: which text is told by which term (a look by program), and that the look is right -/
namespace Mi
open PySem PySem.Spec PyProof.Rows L2
variable {pn : Nat → Option (Addr × Obj × HO)}

mutual
theorem D.beq_eq : ∀ (a b : D), D.beq a b = true → a = b
  | .non, b, h => by cases b <;> first | rfl | cases h
  | .bl x, b, h => by cases b <;> first | (simp only [D.beq, beq_iff_eq] at h; rw [h]) | cases h
  | .int x, b, h => by cases b <;> first | (simp only [D.beq, beq_iff_eq] at h; rw [h]) | cases h
  | .str x, b, h => by cases b <;> first | (simp only [D.beq, beq_iff_eq] at h; rw [h]) | cases h
  | .ref x, b, h => by cases b <;> first | (simp only [D.beq, beq_iff_eq] at h; rw [h]) | cases h
  | .tup x, b, h => by cases b <;> first | (rw [D.beqs_eq _ _ h]) | cases h
  | .frz x, b, h => by cases b <;> first | (rw [D.beqs_eq _ _ h]) | cases h
  | .own x, b, h => by cases b <;> first | (rw [D.beqs_eq _ _ h]) | cases h
theorem D.beqs_eq : ∀ (a b : List D), D.beqs a b = true → a = b
  | [], b, h => by cases b <;> first | rfl | cases h
  | x :: a, b, h => by
    cases b with
    | nil => cases h
    | cons y b =>
      have h' := Bool.and_eq_true_iff.mp (show (D.beq x y && D.beqs a b) = true from h)
      rw [D.beq_eq _ _ h'.1, D.beqs_eq _ _ h'.2]
end

/-! ### the look -/
structure FnT where
  name : Str
  ix : Nat
  np : Nat
/-- calls by keywords, or with defaults -/
structure KwT where
  name : Str
  ix : Nat
  np : Nat
  n : Nat
  ks : List Str
  arr : List (Nat ⊕ D)
/-- error classes: name, the field that its maker stores; who is of which class; which classes are asked for -/
structure ErrT where
  errs : List (Str × Option Str) := []
  errs0 : List (Str × Str) := []
  subs : List (Str × Str × Bool) := []
  asks : List Str := []
def isLkd : E → Bool
  | .lkd _ _ => true
  | _ => false
def onlyNone : List E → Bool
  | [.k .non] => true
  | _ => false
structure Tab where
  frees : List Str
  fns : List FnT
  consts : List (Str × D)
  kws : List KwT
  er : ErrT := {}
def arrB : List (Nat ⊕ D) → List (Nat ⊕ D) → Bool
  | [], [] => true
  | .inl i :: a, .inl j :: b => i == j && arrB a b
  | .inr d :: a, .inr e :: b => D.beq d e && arrB a b
  | _, _ => false
theorem arrB_eq : ∀ {a b : List (Nat ⊕ D)}, arrB a b = true → a = b
  | [], [], _ => rfl
  | [], .inl _ :: _, h => by cases h
  | [], .inr _ :: _, h => by cases h
  | .inl _ :: _, [], h => by cases h
  | .inr _ :: _, [], h => by cases h
  | .inl _ :: _, .inr _ :: _, h => by cases h
  | .inr _ :: _, .inl _ :: _, h => by cases h
  | .inl i :: a, .inl j :: b, h => by
    have h' := Bool.and_eq_true_iff.mp (show (i == j && arrB a b) = true from h)
    rw [arrB_eq h'.2, beq_iff_eq.mp h'.1]
  | .inr d :: a, .inr e :: b, h => by
    have h' := Bool.and_eq_true_iff.mp (show (D.beq d e && arrB a b) = true from h)
    rw [arrB_eq h'.2, D.beq_eq _ _ h'.1]
/-- a method's name -/
def mName : P → Str
  | .m 0 => "index"
  | .m 1 => "index"
  | .m 2 => "count"
  | _ => ""
def isM1 : P → Bool
  | .m 1 => true
  | _ => false
def mAr : P → Nat
  | .m 0 => 1
  | .m 1 => 1
  | .m 2 => 1
  | _ => 0
structure LC where
  N : List Str
  sc : Scope
  blk : Option Scope
def isGl (L : LC) (x : Str) : Bool := decide (L.sc.names.lookup x = some .globalImplicit) && !(x == ("__debug__" : Str))
def isVis (L : LC) (x : Str) : Bool := match L.sc.names.lookup x with
  | some .local => true
  | some .cell => true
  | some .free => true
  | _ => false
/-- a name that may be stored here: of the def's own, or of the block's own -/
def isLoc (L : LC) (x : Str) : Bool := match L.sc.names.lookup x with
  | some .local => true
  | some .cell => (match L.blk with
    | none => true
    | some sc => sc.names.lookup x == some .cell)
  | _ => false
def okN (L : LC) (i : Nat) : Expr → Bool
  | .Name x _ => decide (L.N[i]? = some x) && isVis L x && !(x == ("__debug__" : Str)) && !(x == ("__classdict__" : Str))
  | _ => false
def okK (T : Tab) (L : LC) (d : D) : Expr → Bool
  | .Constant (.int j) _ _ => (match d with | .int i => i == j | _ => false)
  | .Constant (.bool j) _ _ => (match d with | .bl i => i == j | _ => false)
  | .Constant (.str j) _ _ => (match d with | .str i => i == j | _ => false)
  | .Constant .none _ _ => (match d with | .non => true | _ => false)
  | .Name x _ => isGl L x && T.consts.any fun p => p.1 == x && D.beq p.2 d
  | _ => false
def isStar : Expr → Bool
  | .Starred _ _ => true
  | _ => false
/-- a built-in's name, called -/
def okB (T : Tab) (L : LC) (x y : Str) : Bool := x == y && isGl L x && T.frees.contains x
/-- no test of its own kind -/
def isPlainE : Expr → Bool
  | .UnaryOp .Not _ _ => false
  | .BoolOp _ _ _ => false
  | .IfExp _ _ _ _ => false
  | .Compare _ _ _ _ => false
  | _ => true
def isBoxE : Expr → Bool
  | .ListComp _ _ _ _ => false
  | e => isPlainE e
theorem isBoxE_plain {e : Expr} (h : isBoxE e = true) : isPlainE e = true := by
  cases e <;> first | exact h | cases h
def isSlc : Expr → Bool
  | .Slice _ _ _ _ => true
  | _ => false
/-- the step -1 -/
def isM1e : Expr → Bool
  | .UnaryOp .USub (.Constant (.int i) _ _) _ => decide (i = 1)
  | _ => false
theorem isM1e_of {e : Expr} (h : isM1e e = true) : ∃ k p1 p2, e = .UnaryOp .USub (.Constant (.int 1) k p1) p2 := by
  unfold isM1e at h
  split at h
  · have := of_decide_eq_true h
    subst this
    exact ⟨_, _, _, rfl⟩
  · cases h
def okP (T : Tab) (L : LC) (p : P) (e : Expr) (k : List Expr → Bool) : Bool := match p, e with
  | .add, .BinOp a .Add b _ => k [a, b]
  | .sub, .BinOp a .Sub b _ => k [a, b]
  | .mul, .BinOp a .Mult b _ => k [a, b]
  | .mod, .BinOp a .Mod b _ => k [a, b]
  | .fdiv, .BinOp a .FloorDiv b _ => k [a, b]
  | .pow, .BinOp a .Pow b _ => k [a, b]
  | .eq, .Compare a [.Eq] [b] _ => k [a, b]
  | .ne, .Compare a [.NotEq] [b] _ => k [a, b]
  | .lt, .Compare a [.Lt] [b] _ => k [a, b]
  | .le, .Compare a [.LtE] [b] _ => k [a, b]
  | .gt, .Compare a [.Gt] [b] _ => k [a, b]
  | .ge, .Compare a [.GtE] [b] _ => k [a, b]
  | .in_, .Compare a [.In] [b] _ => !behindInMarks .In b && k [a, b]
  | .notin, .Compare a [.NotIn] [b] _ => !behindInMarks .NotIn b && k [a, b]
  | .isN, .Compare a [.Is] [.Constant .none _ _] _ => k [a]
  | .notN, .Compare a [.IsNot] [.Constant .none _ _] _ => k [a]
  | .neg, .UnaryOp .USub a _ => k [a]
  | .idx, .Subscript a b _ => !isSlc b && k [a, b]
  | .len, .Call (.Name x _) [a] [] _ => okB T L x "len" && k [a]
  | .str, .Call (.Name x _) [a] [] _ => okB T L x "str" && k [a]
  | .list, .Call (.Name x _) [a] [] _ => okB T L x "list" && k [a]
  | .tuple, .Call (.Name x _) [a] [] _ => okB T L x "tuple" && k [a]
  | .int, .Call (.Name x _) [a] [] _ => okB T L x "int" && k [a]
  | .min2, .Call (.Name x _) [a, b] [] _ => okB T L x "min" && k [a, b]
  | .max2, .Call (.Name x _) [a, b] [] _ => okB T L x "max" && k [a, b]
  | .isi t, .Call (.Name x _) [a, .Name y _] [] _ => okB T L x "isinstance" && decide (t ≤ 4) && okB T L y (Str.ofString (isiN t)) && k [a]
  | .slc false false, .Subscript a (.Slice none none none _) _ => k [a]
  | .slc true false, .Subscript a (.Slice (some l) none none _) _ => k [a, l]
  | .slc false true, .Subscript a (.Slice none (some h) none _) _ => k [a, h]
  | .slc true true, .Subscript a (.Slice (some l) (some h) none _) _ => k [a, l, h]
  | .rev, .Subscript a (.Slice none none (some st) _) _ => isM1e st && k [a]
  | .min1, .Call (.Name x _) [a] [] _ => okB T L x "min" && k [a]
  | .max1, .Call (.Name x _) [a] [] _ => okB T L x "max" && k [a]
  | .all1, .Call (.Name x _) [a] [] _ => okB T L x "all" && k [a]
  | .any1, .Call (.Name x _) [a] [] _ => okB T L x "any" && k [a]
  | .sort1, .Call (.Name x _) [a] [] _ => okB T L x "sorted" && k [a]
  | .sset1, .Call (.Name x _) [.Call (.Name y _) [a] [] _] [] _ => okB T L x "sorted" && (okB T L y "set" && k [a])
  | .lrng1, .Call (.Name x _) [.Call (.Name y _) [a] [] _] [] _ => okB T L x "list" && (okB T L y "range" && k [a])
  | _, _ => false
def cmpOp : P → Option CmpOp
  | .eq => some .Eq | .ne => some .NotEq | .lt => some .Lt | .le => some .LtE | .gt => some .Gt | .ge => some .GtE
  | _ => none
def isSet : Expr → Bool
  | .Set _ _ _ => true
  | _ => false
def okG0 (L : LC) (vs : List Nat) : G → Expr → Bool
  | .nm i, .Name x _ => decide (L.N[i]? = some x) && isLoc L x && vs.contains i
  | _, _ => false
def okG0s (L : LC) (vs : List Nat) : List G → List Expr → Bool
  | [], [] => true
  | g :: gs, e :: es => okG0 L vs g e && okG0s L vs gs es
  | _, _ => false
/-- the targets of a comprehension -/
def okGc (L : LC) (vs : List Nat) : G → Expr → Bool
  | .tp gs, .Tuple es _ _ => okG0s L vs gs es
  | g, e => okG0 L vs g e
def blkL (L : LC) (scope : Scope) : LC := ⟨L.N, relS scope L.sc, some scope⟩
def meOf : Mu → Str
  | .append => "append" | .pop => "pop" | .popAt => "pop" | .insert => "insert" | .extend => "extend" | .set => "" | .remove => "remove"
/-- as many arguments as the change asks -/
def okMu (m : Mu) (n : Nat) : Bool := match m with
  | .pop => n == 0
  | .append => n == 1
  | .popAt => n == 1
  | .insert => n == 2
  | .remove => n == 1
  | _ => false
def isCall0 : Expr → Bool
  | .Call (.Name _ _) [] [] _ => true
  | _ => false
/-- one for, not async -/
def okLc (k : Expr → Expr → List Expr → Bool) : List Comprehension → Bool
  | [⟨t, i, fs, n⟩] => (match n with
    | .ofNat 0 => k t i fs
    | _ => false)
  | _ => false
theorem okLc_of {k : Expr → Expr → List Expr → Bool} {gs : List Comprehension} (h : okLc k gs = true) : ∃ t i fs, gs = [⟨t, i, fs, 0⟩] ∧ k t i fs = true := by
  unfold okLc at h
  split at h
  · split at h
    · exact ⟨_, _, _, rfl, h⟩
    · cases h
  · cases h
/-- a tuple of the module's own, by its name -/
def okKT (T : Tab) (L : LC) : E → Expr → Bool
  | .k (.tup ds), .Name x _ => isGl L x && T.consts.any fun p => p.1 == x && D.beq p.2 (.tup ds)
  | _, _ => false
/-- a module's or a built-in name -/
def okNm (L : LC) (c : Str) : Expr → Bool
  | .Name y _ => (y == c) && isGl L y
  | _ => false
mutual
def okE (T : Tab) (L : LC) : E → Bool → Expr → Bool
  | .v i, _, e => okN L i e
  | .mv i, _, e => okN L i e
  | .rf i, _, e => okN L i e
  | .box x, _, e => isBoxE e && okE T L x false e
  | .k d, _, e => okK T L d e
  | .prim p es, _, e => okP T L p e (okEs T L es)
  | .chain p q a b c, _, e => (match e with
    | .Compare x [o1, o2] [y, z] _ => decide (cmpOp p = some o1) && decide (cmpOp q = some o2) && okE T L a false x && okE T L b false y && okE T L c false z
    | _ => false)
  | .tup es, _, e => (match e with
    | .Tuple l _ _ => okEs T L es l
    | _ => false)
  | .lst es, _, e => (match e with
    | .List l _ => okEs T L es l
    | _ => false)
  | .call f es, _, e => (match e with
    | .Call (.Name x _) l [] _ => isGl L x && !l.isEmpty && (T.fns.any fun p => p.name == x && p.ix == f) && okEs T L es l
    | _ => false)
  | .and_ a b, t, e => (match e with
    | .BoolOp .And (x :: y :: r) pos => okE T L a t x && okE T L b t (if r.isEmpty then y else .BoolOp .And (y :: r) pos)
    | _ => false)
  | .or_ a b, t, e => (match e with
    | .BoolOp .Or (x :: y :: r) pos => okE T L a t x && okE T L b t (if r.isEmpty then y else .BoolOp .Or (y :: r) pos)
    | _ => false)
  | .not_ a, t, e => (match e with
    | .UnaryOp .Not x _ => okE T L a t x
    | _ => false)
  | .cond c a b, t, e => !t && (match e with
    | .IfExp x y z _ => okE T L c true x && okE T L a false y && okE T L b false z
    | _ => false)
  | .mut m tgt es, _, e => (match e with
    | .Call (.Attribute o n apos) l [] cpos => n == meOf m && okMu m l.length && (apos.endLine == cpos.line) && !isCall0 o && okE T L tgt false o && okEs T L es l
    | _ => false)
  | .meth p tgt es, _, e => (match e with
    | .Call (.Attribute o n apos) l [] cpos => n == mName p && l.length == mAr p && l.length != 0 && (apos.endLine == cpos.line) && !isCall0 o && (if isM1 p then okKT T L tgt o else okE T L tgt false o) && okEs T L es l
    | _ => false)
  | .callA f es ks arr, _, e => (match e with
    | .Call (.Name x _) l kw _ => isGl L x && (T.kws.any fun q => q.name == x && q.ix == f && q.n == l.length && decide (kw.map (·.arg) = q.ks.map some) && arrB q.arr arr) && okEs T L es l && okEs T L ks (kw.map (·.value))
    | _ => false)
  | .isx ys ns c x, _, e => (match e with
    | .Call (.Name f _) [a, b] [] _ => okB T L f "isinstance" && okNm L c b && T.er.asks.contains c && (ys.all fun z => T.er.subs.contains (z, c, true) && T.er.errs.any fun p => p.1 == z) && (ns.all fun z => T.er.subs.contains (z, c, false) && T.er.errs.any fun p => p.1 == z) && okE T L x false a && !isStar a
    | _ => false)
  | .xfld cs x f, _, e => (match e with
    | .Attribute a n _ => (n == f) && !isCall0 a && (cs.all fun z => T.er.errs.contains (z, some f)) && okE T L x false a
    | _ => false)
  | .lkd _ x, _, e => (match e with
    | .ListComp _ _ _ _ => okE T L x false e
    | _ => false)
  | .deq0 tgt, _, e => (match e with
    | .Compare a [.Eq] [.Dict [] [] _] _ => okE T L tgt false a
    | _ => false)
  | .dsort tgt, _, e => (match e with
    | .Call (.Name x _) [a] [] _ => okB T L x "sorted" && !isStar a && okE T L tgt false a
    | _ => false)
  | .ext i x, _, e => (match e with
    | .Call (.Attribute o n apos) [a] [] cpos => n == ("extend" : Str) && (apos.endLine == cpos.line) && !isCall0 o && !isStar a && okN L i o && okE T L x false a
    | _ => false)
  | .dnew, _, e => (match e with
    | .Dict [] [] _ => true
    | _ => false)
  | .dget tgt k, _, e => (match e with
    | .Subscript a b _ => okE T L tgt false a && okE T L k false b && !isSlc b
    | _ => false)
  | .dhas neg k tgt, _, e => (match e with
    | .Compare a [o] [b] _ => decide (o = (if neg then CmpOp.NotIn else CmpOp.In)) && !behindInMarks o b && okE T L k false a && okE T L tgt false b
    | _ => false)
  | .dpop tgt k, _, e => (match e with
    | .Call (.Attribute o n apos) [a] [] cpos => n == ("pop" : Str) && (apos.endLine == cpos.line) && !isCall0 o && !isStar a && okE T L tgt false o && okE T L k false a
    | _ => false)
  | .lc own g it ifs elt, _, e => (match e with
    | .ListComp x gs scope _ => okLc (fun t i fs => blkC L.N L.sc scope (own.map fun j => (L.N.getD j Str.empty, j)) && okI T L it t i && okGc (blkL L scope) own g t && okTs T (blkL L scope) ifs fs && okE T (blkL L scope) elt false x && !isSet i) gs
    | _ => false)
def okEs (T : Tab) (L : LC) : List E → List Expr → Bool
  | [], l => l.isEmpty
  | E :: Es, l => (match l with
    | e :: es => okE T L E false e && !isStar e && okEs T L Es es
    | [] => false)
def okTs (T : Tab) (L : LC) : List E → List Expr → Bool
  | [], l => l.isEmpty
  | E :: Es, l => Es.isEmpty && (match l with
    | [e] => okE T L E true e
    | _ => false)
def okI (T : Tab) (L : LC) : I → Expr → Expr → Bool
  | .seq E, _, e => okE T L E false e
  | .rng1 A, _, e => (match e with
    | .Call (.Name x _) [a] [] _ => okB T L x "range" && okE T L A false a && !isStar a
    | _ => false)
  | .rng2 A B, _, e => (match e with
    | .Call (.Name x _) [a, b] [] _ => okB T L x "range" && okE T L A false a && okE T L B false b && !isStar a && !isStar b
    | _ => false)
  | .keys E, _, e => okE T L E false e
  | .enum E, t, e => (match t, e with
    | .Tuple _ _ _, .Call (.Name x _) [a] [] _ => okB T L x "enumerate" && okE T L E false a && !isStar a
    | _, _ => false)
end
mutual
def okG (T : Tab) (L : LC) : G → Expr → Bool
  | .nm i, e => (match e with
    | .Name x _ => decide (L.N[i]? = some x) && isLoc L x
    | _ => false)
  | .tp gs, e => (match e with
    | .Tuple es _ _ => okGs T L gs es
    | _ => false)
  | .sub o i, e => (match e with
    | .Subscript x y _ => okE T L o false x && okE T L i false y && !isSlc y
    | _ => false)
  | .att _ _, _ => false
  | .dsub o i, e => (match e with
    | .Subscript x y _ => okE T L o false x && okE T L i false y && !isSlc y
    | _ => false)
def okGs (T : Tab) (L : LC) : List G → List Expr → Bool
  | [], l => l.isEmpty
  | g :: gs, l => (match l with
    | e :: es => okG T L g e && !isStar e && okGs T L gs es
    | [] => false)
end
def isTupE : Expr → Bool
  | .Tuple _ _ _ => true
  | .List _ _ => true
  | _ => false
def isCompE : Expr → Bool
  | .ListComp _ _ _ _ => true
  | .SetComp _ _ _ _ => true
  | .DictComp _ _ _ _ _ => true
  | _ => false
def isCompE2 : Expr → Bool
  | .SetComp _ _ _ _ => true
  | .DictComp _ _ _ _ _ => true
  | _ => false
def isNameE : Expr → Bool
  | .Name _ _ => true
  | _ => false
/-- a comprehension that is stored within its own frame -/
def swB (L : LC) (t : Expr) (e : Expr) : Bool := match t, e with
  | .Name y py, .ListComp _ _ scope pos => decide (L.sc.names.lookup y = some .local) && (py.line == pos.line) && !(scope.names.any fun (n, k) => n == y && (k == .local || k == .cell))
  | _, _ => false
mutual
def okS (T : Tab) (L : LC) : S → Stmt → Bool
  | .asg g E, s => (match s with
    | .Assign [t] e _ => okG T L g t && okE T L E false e && !isStar t && !(isTupE t && isTupE e) && !isCompE2 e && !isLkd E
    | _ => false)
  | .ex E, s => (match s with
    | .Expr e _ => okE T L E false e && !isCompE e
    | _ => false)
  | .ret E, s => (match s with
    | .Return (some e) _ => okE T L E false e
    | _ => false)
  | .ite c a b, s => (match s with
    | .If t x y _ => okE T L c true t && okSs T L a x && okSs T L b y
    | _ => false)
  | .for_ g it b, s => (match s with
    | .For t i x [] _ => okG T L g t && okI T L it t i && okSs T L b x && !isSet i && !isStar t
    | _ => false)
  | .while_ c b, s => (match s with
    | .While t x [] _ => okE T L c true t && okSs T L b x
    | _ => false)
  | .brk, s => (match s with
    | .Break _ => true
    | _ => false)
  | .cont, s => (match s with
    | .Continue _ => true
    | _ => false)
  | .pass, s => (match s with
    | .Pass _ => true
    | _ => false)
  | .bad, _ => true
  | .raise c fs es, s => (match s with
    | .Raise (some (.Call (.Name x _) l [] _)) none _ => (x == c) && isGl L x && (match fs, l with
      | [], [] => T.er.errs.contains (c, none) && es.isEmpty
      | [f], [_] => T.er.errs.contains (c, some f) && okEs T L es l
      | [f], [] => T.er.errs0.contains (c, f) && onlyNone es
      | _, _ => false)
    | _ => false)
  | .tryK body c cs i j, s => (match s with
    | .Try b [.ExceptHandler (some (.Name x _)) (some n) [.Assign [.Name y _] (.Name n2 _) _] _] [] [] _ => (x == c) && isGl L x && (n2 == n) && decide (L.N[i]? = some n) && decide (L.N[j]? = some y) && L.blk.isNone && decide (L.sc.names.lookup n = some .local) && decide (L.sc.names.lookup y = some .local) && !(n == ("__debug__" : Str)) && !(n == ("__classdict__" : Str)) && T.er.asks.contains c && (cs.all fun z => T.er.subs.contains (z, c, true)) && okSs T L body b
    | _ => false)
def okSs (T : Tab) (L : LC) : List S → List Stmt → Bool
  | [], l => l.isEmpty
  | S :: Ss, l => (match l with
    | s :: ss => okS T L S s && okSs T L Ss ss
    | [] => false)
end

/-! ### what is known where the code runs -/
/-- an error is made -/
def MkErr (K : KC) (cn : Str) (C : Addr) : Option Str → Prop
  | none => ∀ (X : Cx) (p pos : Pos), KX X = K → Gl X cn → (cn == ("__debug__" : Str)) = false → PMk X (.Call (.Name cn p) [] [] pos) (fun _ H Q => Q (.ref C) none H)
  | some f => ∀ (X : Cx) (a : Expr) (ta : TA) (p pos : Pos), KX X = K → Room 0 X.A → PA X [a] ta → Gl X cn → (cn == ("__debug__" : Str)) = false → starEach [a] X.env = [(false, eval a X.env)] →
      PMk X (.Call (.Name cn p) [a] [] pos) (fun σ H Q => ta σ H fun vs H1 => ∃ v, vs = [v] ∧ ∀ d, H1 d = none → Q (.ref C) (some d) (upd H1 d (.xd [(f, v)])))
/-- an error with one field is made by its default None -/
def MkErr0 (K : KC) (cn : Str) (C : Addr) (f : Str) : Prop := ∀ (X : Cx) (p pos : Pos), KX X = K → Room 0 X.A → Gl X cn → (cn == ("__debug__" : Str)) = false →
  PMk X (.Call (.Name cn p) [] [] pos) (fun _ H Q => ∀ d, H d = none → Q (.ref C) (some d) (upd H d (.xd [(f, .non)])))
/-- a class that is asked for -/
def AskV (mg : Str → Option Value) (c : Str) (u : Value) : Prop := (mg c = some u ∧ ∃ C, u = .ref C) ∨ (mg c = none ∧ bootBuiltins c = some u ∧ c ≠ "__name__" ∧ ∃ n, u = .type n)
structure ErrOk (K : KC) (E : ErrT) : Prop where
  e0 : ∀ p ∈ E.errs0, ∃ C, K.mg p.1 = some (.ref C) ∧ MkErr0 K p.1 C p.2
  er : ∀ p ∈ E.errs, ∃ C, K.mg p.1 = some (.ref C) ∧ ErrC K.k C ∧ MkErr K p.1 C p.2 ∧ ∀ f, p.2 = some f → PySem.W.findIn K.k (.ref C) f = some none
  sb : ∀ q ∈ E.subs, ∃ u a, K.mg q.1 = some u ∧ AskV K.mg q.2.1 a ∧ PySem.W.exmOne K.k u a = some q.2.2 ∧ PySem.W.kitOne K.k u a = some q.2.2
  ak : ∀ c ∈ E.asks, ∃ a, AskV K.mg c a ∧ PySem.W.kitOne K.k (.type "NoneType") a = some false
theorem AskV.one {mg : Str → Option Value} {c : Str} {u v : Value} (h : AskV mg c u) (k : AskV mg c v) : u = v := by
  rcases h with ⟨h, _⟩ | ⟨h1, h2, _⟩ <;> rcases k with ⟨k, _⟩ | ⟨k1, k2, _⟩
  · rw [h] at k; exact Option.some.inj k
  · rw [h] at k1; cases k1
  · rw [k] at h1; cases h1
  · rw [h2] at k2; exact Option.some.inj k2
structure CtxOk (T : Tab) (cf : Calls) (L : LC) (X : Cx) (W : MW) : Prop where
  N : X.N = L.N
  nd : X.N.Nodup
  sc : X.env.scope = L.sc
  kind : L.sc.kind = .function
  calm : X.calm = true
  hu : X.A.units + 64 < cLine
  free : ∀ x ∈ T.frees, X.mg x = none
  con : ∀ p ∈ T.consts, ∃ (u : Value) (v : V), X.mg p.1 = some u ∧ RelV v u ∧ (∀ pn ρ Z H, RepS (KX X pn) ρ Z H p.2 v) ∧ ∀ ds, p.2 = .tup ds → ∃ a o, v = .ref a ∧ X.K.lookup a = some o ∧ o.cls = .type "tuple" ∧ o.dict = none
  gd : X.A.guards = some []
  kw : ∀ q ∈ T.kws, ∃ (fa : Addr) (fd : FuncData) (ps : List Str) (k : Nat), X.mg q.name = some (.ref fa) ∧ PySem.W.keepIn X.K (.ref fa) = true ∧ (∀ pn, BindA (KX X pn) fd ps q.n q.ks q.arr) ∧ Room k X.A ∧
    (∀ pn, FnG X.prog X.w X.K X.mg X.base k fa fd ps (spF (KX X pn) X.mg cf q.np q.ix)) ∧ ∀ ds s, ds.length ≠ q.np → cf q.ix ds s = .stuck
  fn : ∀ p ∈ T.fns, ∃ (fa : Addr) (fd : FuncData) (ps : List Str) (k : Nat), X.mg p.name = some (.ref fa) ∧ PySem.W.keepIn X.K (.ref fa) = true ∧ Binds X.K fd ps [] ∧ Room k X.A ∧
    (∀ pn, FnG X.prog X.w X.K X.mg X.base k fa fd ps (spF (KX X pn) X.mg cf p.np p.ix)) ∧ ∀ ds s, ds.length ≠ p.np → cf p.ix ds s = .stuck
  pass : ∀ σ, PassesAt (L2.CX X.prog X.w) X σ (WE W.w σ)
  wm : W.mg = X.mg
  tk : Takes X W.w
  er : ErrOk (KX X) T.er
  rm : Room 0 X.A
  fr : L.blk = none → X.stack = X.env :: X.outer ∧ X.env.frame = some X.env.locals ∧ X.ex = []
  own : PassesOwn (model X.prog X.w) X.A X.env X.xe
  sto : (L.blk = none ∧ ∀ x, X.fn x = true) ∨ ∃ sc, L.blk = some sc ∧ ∀ x, X.fn x = (sc.names.lookup x == some .cell)
/-- no exception is wanted -/
abbrev W0 (mg : Str → Option Value) : MW := ⟨fun _ _ _ _ => False, mg⟩
theorem CtxOk.blk {T : Tab} {cf : Calls} {L : LC} {X : Cx} {W : MW} (c : CtxOk T cf L X W) (s : Shared) (H : Hp) (scope : Scope) (C : Addr) (cl : List (Str × Addr)) (fp : List Addr) (hk : scope.kind = .function) :
    CtxOk T cf (blkL L scope) (X.blk s H scope (compEnvC scope cl C X.env) fp) (W0 X.mg) := by
  have hsc : (compEnvC scope cl C X.env).scope = relS scope L.sc := by
    show relabel scope X.env = _
    unfold relabel relS Env.kindOf
    rw [c.sc]
  exact ⟨c.N, c.nd, hsc, hk, c.calm, c.hu, c.free, c.con, c.gd, c.kw, c.fn, fun σ pins H' s' e s'' I h => by
    obtain ⟨_, _, _, _, _, _, _, _, _, _, _, _, z⟩ := h
    exact z.elim, rfl, (fun u s' z => by
      obtain ⟨_, _, _, _, _, _, _, _, _, _, _, _, _, _, _, _, z⟩ := z
      exact z.elim), c.er, c.rm, (fun z => nomatch z), PassesOwn.never, .inr ⟨scope, rfl, fun x => rfl⟩⟩
section
variable {T : Tab} {cf : Calls} {L : LC} {X : Cx} {W : MW}
theorem CtxOk.vis (c : CtxOk T cf L X W) {x : Str} (h : isVis L x = true) : Vis X.env.scope x := by
  rw [c.sc]
  unfold isVis at h
  split at h
  · exact .inl (by assumption)
  · exact .inr (.inl (by assumption))
  · exact .inr (.inr (by assumption))
  · cases h
theorem CtxOk.loc (c : CtxOk T cf L X W) {x : Str} (h : isLoc L x = true) : Loc X.env.scope x ∧ (X.fn x = true ∨ X.env.scope.names.lookup x = some .local) := by
  rw [c.sc]
  unfold isLoc at h
  split at h
  · rename_i e
    exact ⟨.inl e, .inr e⟩
  · rename_i e
    refine ⟨.inr e, .inl ?_⟩
    rcases c.sto with ⟨h1, h2⟩ | ⟨sc, h1, h2⟩
    · exact h2 x
    · rw [h1] at h
      rw [h2]; exact h
  · cases h
theorem CtxOk.gl (c : CtxOk T cf L X W) {x : Str} (h : isGl L x = true) : Gl X x ∧ (x == ("__debug__" : Str)) = false := by
  have h' := Bool.and_eq_true_iff.mp h
  refine ⟨?_, by simpa using h'.2⟩
  show X.env.scope.names.lookup x = _
  rw [c.sc]
  exact of_decide_eq_true h'.1
theorem CtxOk.blt (c : CtxOk T cf L X W) {x y : Str} (h : okB T L x y = true) : x = y ∧ Gl X x ∧ X.mg x = none := by
  have h' := Bool.and_eq_true_iff.mp h
  have h2 := Bool.and_eq_true_iff.mp h'.1
  exact ⟨by simpa using h2.1, (c.gl h2.2).1, c.free x (List.contains_iff_mem.mp h'.2)⟩
theorem CtxOk.name (c : CtxOk T cf L X W) {i : Nat} {e : Expr} (h : okN L i e = true) : PE X e (tVar i) := by
  cases e <;> first | (cases h; done) | skip
  rename_i x pos
  simp only [okN, Bool.and_eq_true] at h
  obtain ⟨⟨⟨h1, h2⟩, h3⟩, h4⟩ := h
  exact pe_var (by rw [c.N]; exact of_decide_eq_true h1) (c.vis h2) (by simpa using h3) (by simpa using h4)
theorem star_of {e : Expr} (h : isStar e = false) (es : List Expr) (env : PySem.Env) : starEach (e :: es) env = (false, eval e env) :: starEach es env := by
  cases e <;> first | rfl | cases h
theorem const_rep {K : KC} {d : D} {v : V} (h : ∀ ρ Z H, RepS K ρ Z H d v) {σ : L2.St} {H : Hp} {Q : VK} (q : simE K W (.ret d) σ H Q) : tC v σ H Q := by
  obtain ⟨ρ, Z, S, en, F, ⟨k, r⟩, h1⟩ := q
  exact h1 ρ Z v H k (r.push (h ρ Z H))
theorem CtxOk.const (c : CtxOk T cf L X W) {d : D} {e : Expr} (h : okK T L d e = true) : PE X e (simE (KX X pn) W (.ret d)) := by
  cases e <;> first | (cases h; done) | skip
  · rename_i v k pos
    cases v <;> first | (cases h; done) | skip
    · cases d <;> first | (cases h; done) | skip
      exact PE.by pe_non fun σ H Q q => const_rep (d := .non) (fun _ _ _ => rfl) q
    · cases d <;> first | (cases h; done) | skip
      simp only [okK, beq_iff_eq] at h
      subst h
      exact PE.by pe_bl fun σ H Q q => const_rep (d := .bl _) (fun _ _ _ => rfl) q
    · cases d <;> first | (cases h; done) | skip
      simp only [okK, beq_iff_eq] at h
      subst h
      exact PE.by pe_int fun σ H Q q => const_rep (d := .int _) (fun _ _ _ => rfl) q
    · cases d <;> first | (cases h; done) | skip
      simp only [okK, beq_iff_eq] at h
      subst h
      exact PE.by pe_str fun σ H Q q => const_rep (d := .str _) (fun _ _ _ => rfl) q
  · rename_i x pos
    simp only [okK, Bool.and_eq_true, List.any_eq_true, beq_iff_eq] at h
    obtain ⟨h1, p, hp, h2, h3⟩ := h
    obtain ⟨u, v, hm, hr, hd, _⟩ := c.con p hp
    rw [D.beq_eq _ _ h3] at hd
    rw [h2] at hm
    exact PE.by (pe_glob (c.gl h1).1 hm hr (c.gl h1).2) fun σ H Q q => const_rep (hd _) q
/-- readings of several expressions, one after another -/
def tAll : List TE → TA
  | [] => tNil
  | t :: ts => tCons t (tAll ts)
abbrev Reads' (X : Cx) (es : List Expr) (ts : List TE) : Prop := Paired (fun e t => PE X e t) es ts
theorem rd1 {a : Expr} {ts : List TE} (h : Reads' X [a] ts) : ∃ t, ts = [t] ∧ PE X a t := by
  cases h with | cons h t => cases t; exact ⟨_, rfl, h⟩
theorem rd2 {a b : Expr} {ts : List TE} (h : Reads' X [a, b] ts) : ∃ t u, ts = [t, u] ∧ PE X a t ∧ PE X b u := by
  cases h with | cons h t => cases t with | cons k t => cases t; exact ⟨_, _, rfl, h, k⟩
theorem rd3 {a b d : Expr} {ts : List TE} (h : Reads' X [a, b, d] ts) : ∃ t u w, ts = [t, u, w] ∧ PE X a t ∧ PE X b u ∧ PE X d w := by
  cases h with | cons h t => cases t with | cons k t => cases t with | cons l t => cases t; exact ⟨_, _, _, rfl, h, k, l⟩
theorem bin_P {p : P} {op : Operator} {a b : Expr} {pos : Pos} {ta tb : TE} (ho : OpR X (binaryOp op) (rP2 (KX X pn) p)) (ha : PE X a ta) (hb : PE X b tb) : PE X (.BinOp a op b pos) (fun σ H Q => tAll [ta, tb] σ H fun vs H' => rP (KX X pn) p vs H' Q) :=
  PE.by (pe_op ho ha hb) fun _ _ _ q => q
end
end Mi
end
section
set_option Elab.async false
set_option maxRecDepth 100000
set_option linter.all false
/-! set(xs), xs a list of ints: its members, and that it can be walked -/
namespace Mi
open PySem PySem.Spec PyProof.Rows L2
/-- a set that was just begun -/
abbrev emptySet (w : World) : Obj := ⟨.type "set", none, .set #[] 0 (.fresh 0 0 (!w.params.followText "set-order")), #[]⟩
section
variable {P : Program} {w : World} {A : Around} {E : Value → Shared → Prop} {s : Shared}
/-- what is so behind the set's making -/
structure SetMade (w : World) (s : Shared) (ns : List Int) (g : Heap) : Prop where
  mem : ∃ c, c ≤ ns.length ∧ SetR w g s.heap.objs.size (fun j => decide (j ∈ ns)) c
  keep : ∀ b o, s.heap.get? b = some o → g.get? b = some o
set_option maxHeartbeats 3200000 in
theorem set_init_list {l : Addr} {items : Array Value} (ns : List Int) (hh : A.handled = none) (hl : s.heap.IsList l items) (hi : IntsAre items.toList ns) (hb : ns.length + 1 < scanBound) :
    codeAny (model P w) A (.call (.builtin "set.__init__") ⟨[.ref s.heap.objs.size, .ref l], []⟩) (wants (fun r s₂ => r = .none ∧ ∃ g tk, s₂ = { s with heap := g, toks := tk } ∧ SetMade w s ns g) E) { s with heap := s.heap.push (emptySet w) } := by
  have get0 : (s.heap.push (emptySet w)).get? s.heap.objs.size = some (emptySet w) := Heap.get?_push_size _ rfl
  have ty0 : Shared.TypeIs { s with heap := s.heap.push (emptySet w) } (.ref s.heap.objs.size) "set" := ⟨_, get0, rfl⟩
  have len : items.size = ns.length := by rw [← IntsAre.length hi, Array.length_toList]
  refine codeAny_call_builtin F.called_set.init.plain F.entry_set_init (check_set_init_1 ty0 ?_)
  obtain ⟨ol, gl, cl, nl, dl⟩ := hl
  obtain ⟨ocls, odict, odata, oslots⟩ := ol
  simp only at cl dl
  subst cl; subst dl
  have gl1 : (s.heap.push (emptySet w)).get? l = some ⟨.type "list", odict, .seq items nl, oslots⟩ := Heap.get?_push_of_some _ gl
  have il1 : (s.heap.push (emptySet w)).IsList l items := ⟨_, gl1, rfl, nl, rfl⟩
  have u1 := F.sub_list_set
  have u2 := F.sub_list_frozenset
  have u3 : (Value.type "list" == Value.type "dict") = false := by decide
  unfold Builtin.«set.__init__» noKeywords Builtin.Frozenset.updateFrom
  generalize hIt : pyIter = It
  wp_walk
  subst hIt
  refine wpAny_pyIter_list il1 (wpAny_bind (wpAny_runValue ?_))
  have lt : l < s.heap.objs.size := Heap.lt_size gl
  have sz : (s.heap.push (emptySet w)).objs.size = s.heap.objs.size + 1 := Heap.size_push ..
  have far : s.heap.objs.size ∉ [(s.heap.push (emptySet w)).objs.size, l] := by
    rw [sz]
    simp only [List.mem_cons, List.not_mem_nil, or_false, not_or]
    exact ⟨Nat.ne_of_lt (Nat.lt_succ_self _), Nat.ne_of_gt lt⟩
  refine set_update_ints ((Walks.list (A := A.in1.in1) (by simp [hh]) _ l (by rw [sz]; exact Nat.ne_of_lt (Nat.lt_succ_of_lt lt)) items).toS) s.heap.objs.size far ns len hb (fun i v hv => ?_) (items.size - 0) 0 _ (Nat.sub_zero _ ▸ rfl) (Nat.zero_le _) ?_ ⟨0, Nat.le_refl 0, ?_⟩ fun s' c hm hc hS => ?_
  · have hlt : i < ns.length := by rw [← len]; exact (Array.getElem?_eq_some_iff.mp hv).1
    obtain ⟨t, e⟩ := IntsAre.int_at hi i v (by rw [Array.getElem?_toList]; exact hv)
    exact ⟨ns[i], t, List.getElem?_eq_getElem hlt, by rw [e, List.getD_eq_getElem?_getD, List.getElem?_eq_getElem hlt]; rfl⟩
  · exact ⟨⟨_, Heap.get?_push_size _ rfl, rfl, rfl⟩, il1.push _⟩
  · exact setR_new_at (Heap.get?_push_of_some _ get0)
  · obtain ⟨g, g2, d, tk, os⟩ := s'
    obtain ⟨eg, ed, eo⟩ : g2 = s.gens ∧ d = s.drawn ∧ os = s.os := ⟨hm.gens, hm.drawn, hm.os⟩
    subst eg ed eo
    refine wpAny_pure (wpAny_pure ⟨rfl, g, tk, rfl, ⟨c, len ▸ hc, hS⟩, fun b o e => ?_⟩)
    have hb0 : b < s.heap.objs.size := Heap.lt_size e
    refine hm.heap b o ?_ (Heap.get?_push_of_some _ (Heap.get?_push_of_some _ e))
    rw [sz]
    simp only [List.mem_cons, List.not_mem_nil, or_false, not_or]
    exact ⟨Nat.ne_of_lt hb0, Nat.ne_of_lt (Nat.lt_succ_of_lt hb0)⟩
set_option maxHeartbeats 3200000 in
theorem call_set_listI {l : Addr} {items : Array Value} (ns : List Int) {Q : Value → Shared → Prop} (hh : A.handled = none) (hl : s.heap.IsList l items) (hi : IntsAre items.toList ns) (hb : ns.length + 1 < scanBound)
    (h : ∀ g tk, SetMade w s ns g → Q (.ref s.heap.objs.size) { s with heap := g, toks := tk }) : wpAny (model P w) A (call (.type "set") [.ref l]) Q E s := by
  obtain ⟨_, _, m0⟩ := F.called_set.mro
  obtain ⟨m1, m2, m3, m4, m5⟩ : _ ∧ _ ∧ _ ∧ _ ∧ _ := ⟨F.called_set.made, F.called_set.sub, F.called_set.notType, F.called_set.canCreate, F.typeCall_set_1 (.ref l)⟩
  refine wpAny_call (codeAny_of_tree ?_)
  show wpAny _ _ (callAny (.type "set") _) _ _ _
  refine wpAny_pure ⟨Code.quiet_builtin _ (by decide +kernel), codeAny_builtin F.entry_type_call ?_⟩
  rw [Around.under_plain (weight_type_call_type "set" [.ref l] []) rfl]
  repeat (any_goals (first | assumption | wp_step))
  refine codeAny_mono (code_set_led1 (.ref l) (E := E) (Q₁ := fun v s₁ => v = .ref s.heap.objs.size ∧ s₁ = { s with heap := s.heap.push (emptySet w) }) ⟨rfl, rfl⟩) fun r s₁ hr => ?_
  rcases r with e | fl
  · exact hr
  · cases fl <;> first | exact hr.elim | skip
    obtain ⟨rfl, rfl⟩ := hr
    have ty0 : Shared.TypeIs { s with heap := s.heap.push (emptySet w) } (.ref s.heap.objs.size) "set" := ⟨_, Heap.get?_push_size _ rfl, rfl⟩
    obtain ⟨i1, i2⟩ : _ ∧ _ := ⟨F.called_set.init.lookup, F.called_set.init.bind (.ref s.heap.objs.size)⟩
    repeat (any_goals (first | assumption | wp_step))
    refine codeAny_mono (set_init_list (E := E) ns (by simp [hh]) hl hi hb) fun r₂ s₂ hr₂ => ?_
    rcases r₂ with e | fl
    · exact hr₂
    · cases fl <;> first | exact hr₂.elim | skip
      obtain ⟨rfl, g, tk, rfl, hm⟩ := hr₂
      repeat (any_goals (first | assumption | wp_step))
      exact h _ _ hm
end
end Mi
end
section
set_option Elab.async false
set_option maxRecDepth 100000
set_option linter.all false
namespace Mi
open PySem PySem.Spec PyProof.Rows L2
variable {pn : Nat → Option (Addr × Obj × HO)}
section
variable {X : Cx}
/-- a reading that may be asked for less -/
def tUp (t : TE) : TE := fun σ H Q => ∃ Q0 : VK, t σ H Q0 ∧ ∀ v H', Q0 v H' → Q v H'
theorem pe_up {e : Expr} {t : TE} (h : PE X e t) : PE X e (tUp t) :=
  ⟨fun pins s σ H Q I ⟨Q0, h0, k⟩ => thn (h.run pins s σ H Q0 I h0) fun v s1 ⟨x, H1, I1, r1, q1⟩ => ⟨x, H1, I1, r1, k _ _ q1⟩⟩
/-! ### sorted(set(ints)) -/
def rSetI (K : PySem.W.Frag) (w : World) : List V → Hp → VK → Prop := fun xs H Q => ∃ (l : Addr) (ns : List Int), xs = [.ref l] ∧ (SqL K H l (ns.map V.int) ∨ SqT K H l (ns.map V.int)) ∧ ns.length < 64 ∧
  ∀ a c, H a = none → c ≤ ns.length → Q (.ref a) (upd H a (SetO w a (fun j => decide (j ∈ ns)) c))
theorem cr_setI (hc : X.calm = true) : CallR X (.type "set") (rSetI X.K X.w) := by
  intro pins s σ H xs us Q I r h
  obtain ⟨l, ns, rfl, hl, hf, q⟩ := h
  rw [Vals.ref1 r]
  have hn : H s.heap.objs.size = none := I.hok.fresh (Nat.le_refl _)
  have fin : ∀ (g : Heap) (tk c : Nat), SetR X.w g s.heap.objs.size (fun j => decide (j ∈ ns)) c → c ≤ ns.length → (∀ b o, s.heap.get? b = some o → g.get? b = some o) → EP X pins σ Q (.ref s.heap.objs.size) { s with heap := g, toks := tk } :=
    fun g tk c R hc k => ⟨.ref s.heap.objs.size, _, I.laid (t' := tk) k (Nat.le_refl _) (setO_new R), rfl, q _ c hn hc⟩
  have hb : ns.length + 1 < scanBound := by unfold scanBound; omega
  rcases hl with hl | hl
  · obtain ⟨its, rv, pl, hz⟩ := I.list hl
    exact call_set_listI ns (I.ok.hd hc) pl.isList (by simpa using ints_of_vals rv) hb fun g tk ⟨⟨c, hc, R⟩, k⟩ => fin g tk c R hc k
  · obtain ⟨its, rv, pl, hz⟩ := I.tuple hl
    exact call_set_tupI ns (I.ok.hd hc) pl (by simpa using ints_of_vals rv) hb fun g tk c R hc k => fin g tk c R hc k
theorem nub_mem (k : Int) : ∀ ns : List Int, k ∈ nubI ns ↔ k ∈ ns
  | [] => Iff.rfl
  | n :: ns => by
    unfold nubI
    have ih := nub_mem k ns
    split
    · rename_i h
      rw [ih, List.mem_cons]
      refine ⟨.inr, fun h2 => ?_⟩
      rcases h2 with rfl | h2
      · exact (nub_mem k ns).mp (by simpa using h)
      · exact h2
    · rw [List.mem_cons, List.mem_cons, ih]
theorem nub_nodup : ∀ ns : List Int, (nubI ns).Nodup
  | [] => List.nodup_nil
  | n :: ns => by
    unfold nubI
    split
    · exact nub_nodup ns
    · rename_i h
      rw [List.nodup_cons]
      exact ⟨by simpa using h, nub_nodup ns⟩
theorem sortU_one {ns xs : List Int} (h : xs.Pairwise (· < ·)) (m : ∀ k, k ∈ xs ↔ k ∈ ns) : xs = sortI (nubI ns) := by
  have hx : xs.Nodup := h.imp fun h => by omega
  refine sorts_one (List.Perm.trans ?_ (List.mergeSort_perm _ _).symm) (h.imp fun h => by omega) (sorts_pair _)
  rw [List.perm_iff_count]
  intro k
  rw [hx.count, (nub_nodup ns).count]
  simp only [m, nub_mem]
/-- sorted(set(e)) -/
theorem pe_sset {a : Expr} {ta : TE} {p p2 q pos : Pos} (hc : X.calm = true) (hg : Gl X "sorted") (hm : X.mg "sorted" = none) (hg2 : Gl X "set") (hm2 : X.mg "set" = none) (ha : PE X a ta)
    (st : starEach [a] X.env = (false, eval a X.env) :: starEach [] X.env) : PE X (.Call (.Name "sorted" p) [.Call (.Name "set" p2) [a] [] q] [] pos) (fun σ H Q => ta σ H fun x H1 => rP (KX X pn) .sset1 [x] H1 Q) := by
  have h1 := PE.by (pe_callTy (p := p2) (pos := q) (cr_setI hc) hg2 hm2 PyProof.Rows.boot_set (pa_cons (pe_up ha) pa_nil st) (by decide +kernel) (by decide +kernel) st (by rfl)) fun σ H Q q => q
  have h2 := pe_callB (p := p) (pos := pos) (cr_sortedSet hc) hg hm (by decide +kernel) (pa_cons h1 pa_nil rfl) (by decide +kernel) (by decide +kernel) rfl
  refine PE.by h2 fun σ H Q h => ⟨_, h, fun x H1 hx => ?_⟩
  obtain ⟨ρ, Z, ds, d, e, ar, hQ⟩ := hx
  obtain ⟨a0, rfl, ha0⟩ := paired1 ar
  replace e : (a0.seq?.bind fun ds => (allI D.int? ds).bind fun ns => if ns.length < 64 then some (D.own ((sortI (nubI ns)).map .int)) else none) = some d := e
  cases e1 : a0.seq? with
  | none => rw [e1] at e; cases e
  | some l =>
    rw [e1] at e
    simp only [Option.bind_some] at e
    cases e2 : allI D.int? l with
    | none => rw [e2] at e; cases e
    | some ns =>
      rw [e2] at e
      simp only [Option.bind_some] at e
      split at e
      · rename_i hl
        cases e
        obtain ⟨b, vs, rfl, q, r⟩ := ha0.seq e1
        rw [allI_D e2] at r
        rw [ints_rep r] at q
        refine ⟨b, ns, rfl, q, hl, fun c n hc0 hn => ⟨c, _, n, rfl, upd_same, by omega, fun xs p hp hm hl2 hp2 => ?_⟩⟩
        rw [sortU_one hp fun k => (hm k).trans ⟨fun h => of_decide_eq_true h, fun h => decide_eq_true h⟩]
        exact hQ _ _ (.more hc0 (.lst hp2 (ints_new _)))
      · cases e
/-- list(range(e)) -/
theorem pe_lrng {a : Expr} {ta : TE} {p p2 q pos : Pos} (hc : X.calm = true) (hg : Gl X "list") (hm : X.mg "list" = none) (hg2 : Gl X "range") (hm2 : X.mg "range" = none) (ha : PE X a ta)
    (st : starEach [a] X.env = (false, eval a X.env) :: starEach [] X.env) : PE X (.Call (.Name "list" p) [.Call (.Name "range" p2) [a] [] q] [] pos) (fun σ H Q => ta σ H fun x H1 => rP (KX X pn) .lrng1 [x] H1 Q) := by
  refine PE.by (pe_listRg (p := p) (pos := pos) hc hg hm (prg_1 (p := p2) (pos := q) hg2 hm2 (pe_up ha) st) rfl) fun σ H Q h => ⟨_, h, fun x H1 hx => ?_⟩
  obtain ⟨ρ, Z, ds, d, e, ar, hQ⟩ := hx
  obtain ⟨a0, rfl, ha0⟩ := paired1 ar
  cases a0 <;> first | (cases e; done) | skip
  rename_i n
  cases ha0.int
  replace e : (if 0 ≤ n ∧ n < 1000000 then some (D.own ((List.range n.toNat).map fun (i : Nat) => D.int i)) else none) = some d := e
  split at e
  · rename_i hn
    cases e
    refine ⟨n, rfl, .of_le (Int.le_refl _) (by omega) (by omega) hn.1, fun p hp => ?_⟩
    have e : rgV 0 n = ((List.range n.toNat).map fun (i : Nat) => (i : Int)).map V.int := by
      unfold rgV
      rw [List.map_map, Int.sub_zero]
      refine List.map_congr_left fun i _ => ?_
      simp
    rw [e]
    have e2 : ((List.range n.toNat).map fun (i : Nat) => D.int i) = ((List.range n.toNat).map fun (i : Nat) => (i : Int)).map D.int := by
      rw [List.map_map]
      rfl
    rw [e2] at hQ
    exact hQ _ _ (.lst hp (ints_new _))
  · cases e
end
end Mi
end
section
set_option Elab.async false
set_option maxRecDepth 100000
set_option linter.all false
namespace Mi
open PySem PySem.Spec PyProof.Rows L2
variable {pn : Nat → Option (Addr × Obj × HO)}
section
variable {T : Tab} {cf : Calls} {L : LC} {X : Cx} {W : MW}
abbrev tP (K : KC) (p : P) (ts : List TE) : TE := fun σ H Q => tAll ts σ H fun vs H' => rP K p vs H' Q
theorem boot_str' : bootBuiltins "str" = some (.type "str") := by decide +kernel
theorem boot_len' : bootBuiltins "len" = some (.builtin "len") := by decide +kernel
theorem boot_list' : bootBuiltins "list" = some (.type "list") := by decide +kernel
theorem boot_tuple' : bootBuiltins "tuple" = some (.type "tuple") := by decide +kernel
theorem boot_int' : bootBuiltins "int" = some (.type "int") := by decide +kernel
theorem boot_min' : bootBuiltins "min" = some (.builtin "min") := by decide +kernel
theorem boot_all1' : bootBuiltins "all" = some (.builtin "all") := by decide +kernel
theorem boot_any1' : bootBuiltins "any" = some (.builtin "any") := by decide +kernel
theorem boot_sorted1' : bootBuiltins "sorted" = some (.builtin "sorted") := by decide +kernel
theorem boot_max' : bootBuiltins "max" = some (.builtin "max") := by decide +kernel
theorem boot_isi' : bootBuiltins "isinstance" = some (.builtin "isinstance") := by decide +kernel
theorem boot_isiN (t : Nat) (h : t ≤ 4) : bootBuiltins (Str.ofString (isiN t)) = some (.type (isiN t)) := by
  have : t = 0 ∨ t = 1 ∨ t = 2 ∨ t = 3 ∨ t = 4 := by omega
  rcases this with h | h | h | h | h <;> subst h <;> decide +kernel
theorem name_isiN (t : Nat) (h : t ≤ 4) : Str.ofString (isiN t) ≠ "__name__" ∧ (Str.ofString (isiN t) == ("__debug__" : Str)) = false := by
  have : t = 0 ∨ t = 1 ∨ t = 2 ∨ t = 3 ∨ t = 4 := by omega
  rcases this with h | h | h | h | h <;> subst h <;> decide +kernel
theorem plain_ix {b : Expr} (h : isSlc b = false) : PlainIx b := by
  cases b <;> first | (exact fun _ _ => rfl) | cases h
theorem star_nil (env : PySem.Env) (pos : Pos) : (backTo pos (starEach [] env)).any (·.1) = false := rfl
theorem star_one {b : Expr} (h : isStar b = false) (env : PySem.Env) (pos : Pos) : (backTo pos (starEach [b] env)).any (·.1) = false := by
  rw [star_of h]; rfl
theorem add_rfl {t : TE} {R : V → Hp → Prop} {σ : L2.St} {H : Hp} (q : t σ H R) : t σ H fun x H1 => V.non = V.non ∧ R x H1 := by
  have e : R = fun x H1 => V.non = V.non ∧ R x H1 := by funext x H1; simp
  rw [← e]; exact q
theorem po_q {t : TE} {R : Option Int → Hp → Prop} {R' : V → Hp → Prop} {σ : L2.St} {H : Hp} (e : R' = fun x H1 => ∃ i, x = .int i ∧ R (some i) H1) (q : t σ H R') : tPart t σ H R := by
  unfold tPart; rw [← e]; exact q
/-- a reading with what is wanted fixed -/
def tW (te : TE) (R : VK) : TE := fun σ H Q => te σ H R ∧ ∀ x H1, R x H1 → Q x H1
theorem pe_W {e : Expr} {te : TE} (he : PE X e te) (R : VK) : PE X e (tW te R) := ⟨fun pins s σ H Q I h => thn (he.run pins s σ H _ I h.1) fun v s1 hh => by
  obtain ⟨x, H1, I1, r, q⟩ := hh
  exact ⟨x, H1, I1, r, h.2 x H1 q⟩⟩
theorem pe_rev_P {a : Expr} {ta : TE} {k : Nat} {p1 p2 p3 pos : Pos} (ha : PE X a ta) : PE X (.Subscript a (.Slice none none (some (.UnaryOp .USub (.Constant (.int 1) k p1) p2)) p3) pos) (tP (KX X pn) .rev [ta]) := ⟨fun pins s σ H Q I h => by
  refine (pe_revL (pe_W ha fun x H1 => rP (KX X pn) .rev [x] H1 Q)).run pins s σ H Q I ⟨h, fun x H1 hh => ?_⟩
  obtain ⟨ρ, Z, ds, d, e, ar, hQ⟩ := hh
  obtain ⟨b, rfl, hb⟩ := paired1 ar
  replace e : (b.lst?.bind fun ds => some (D.own ds.reverse)) = some d := e
  cases h1 : b.lst? with
  | none => rw [h1] at e; cases e
  | some l =>
    rw [h1] at e
    cases e
    obtain ⟨p, vs, rfl, q, r⟩ := hb.sql h1
    exact ⟨p, vs, rfl, q, fun l hl => hQ _ _ (.lst hl r.reverse)⟩⟩
/-- a[l:h], both written -/
theorem pe_slice2 {a l h : Expr} {ta tl th : TE} {p2 pos : Pos} (ha : PE X a ta) (hl : PE X l tl) (hh : PE X h th) : PE X (.Subscript a (.Slice (some l) (some h) none p2) pos) (tP (KX X pn) (.slc true true) [ta, tl, th]) := by
  refine ⟨fun pins s σ H Q I q => ?_⟩
  refine Subscript_ (thn (ha.run pins s σ H _ I q) fun va s1 ⟨x, H1, I1, rx, q1⟩ => ?_)
  refine wpAny_Slice ?_
  rw [evalPart_some, evalPart_some, evalPart_none]
  refine thn (hl.run pins s1 σ H1 _ I1 q1) fun vl s2 ⟨y, H2, I2, ry, q2⟩ => thn (hh.run pins s2 σ H2 _ I2 q2) fun vh s3 ⟨z, H3, I3, rz, q3⟩ => ?_
  obtain ⟨ρ, Z, ds, d, e, ar, hQ⟩ := q3
  obtain ⟨da, dl, dh, rfl, ra, rl, rh⟩ : ∃ da dl dh, ds = [da, dl, dh] ∧ Rep (KX X pn) ρ Z H3 da x ∧ Rep (KX X pn) ρ Z H3 dl y ∧ Rep (KX X pn) ρ Z H3 dh z := by
    cases ar with | cons h1 t => cases t with | cons h2 t => cases t with | cons h3 t => cases t; exact ⟨_, _, _, rfl, h1, h2, h3⟩
  cases dl <;> cases dh <;> first | (simp [primF] at e; done) | skip
  rename_i i j
  cases rl.int
  cases rh.int
  obtain ⟨ti, rfl⟩ := ry
  obtain ⟨tj, rfl⟩ := rz
  refine wpAny_pure ?_
  have J : Inv X pins σ H3 { s3 with heap := s3.heap.push { cls := .type "slice", data := .fields #[.int i ti, .int j tj, .none] } } := I3.kept (t' := s3.toks) fun _ _ k => Heap.get?_push_of_some _ k
  obtain ⟨T', id, hT, hty, hg⟩ := sl_P pins _ σ H3 x va (.int i ti) (.int j tj) (some i) (some j) s3.heap.objs.size Q J rx (Heap.IsSliceOf.new ..) (.int i ti) (.int j tj) ⟨ρ, Z, da, d, e, ra, hQ⟩
  exact tail_any (ops := [.ref s3.heap.objs.size, va]) hty hT hg (by with_unfolding_all rfl)
/-- the operands' stars: none -/
theorem CtxOk.prim (c : CtxOk T cf L X W) {p : P} {e : Expr} {k : List Expr → Bool} (h : okP T L p e k = true) :
    ∃ l, k l = true ∧ ((∀ e ∈ l, isStar e = false) → ∀ ts, Reads' X l ts → PE X e (tP (KX X pn) p ts)) := by
  unfold okP at h
  split at h
  · exact ⟨_, h, fun _ ts r => by obtain ⟨t, u, rfl, ha, hb⟩ := rd2 r; exact PE.by (pe_op op_add_P ha hb) fun _ _ _ q => q⟩
  · exact ⟨_, h, fun _ ts r => by obtain ⟨t, u, rfl, ha, hb⟩ := rd2 r; exact PE.by (pe_op op_sub_P ha hb) fun _ _ _ q => q⟩
  · exact ⟨_, h, fun _ ts r => by obtain ⟨t, u, rfl, ha, hb⟩ := rd2 r; exact PE.by (pe_op op_mul_P ha hb) fun _ _ _ q => q⟩
  · exact ⟨_, h, fun _ ts r => by obtain ⟨t, u, rfl, ha, hb⟩ := rd2 r; exact PE.by (pe_op op_mod_P ha hb) fun _ _ _ q => q⟩
  · exact ⟨_, h, fun _ ts r => by obtain ⟨t, u, rfl, ha, hb⟩ := rd2 r; exact PE.by (pe_op op_fdiv_P ha hb) fun _ _ _ q => q⟩
  · exact ⟨_, h, fun _ ts r => by obtain ⟨t, u, rfl, ha, hb⟩ := rd2 r; exact PE.by (pe_op op_pow_P ha hb) fun _ _ _ q => q⟩
  · exact ⟨_, h, fun _ ts r => by obtain ⟨t, u, rfl, ha, hb⟩ := rd2 r; exact PE.by (pe_cmpR (op_eq_P c.hu) ha hb (nomark _)) fun _ _ _ q => q⟩
  · exact ⟨_, h, fun _ ts r => by obtain ⟨t, u, rfl, ha, hb⟩ := rd2 r; exact PE.by (pe_cmpR (op_ne_P c.hu) ha hb (nomark _)) fun _ _ _ q => q⟩
  · exact ⟨_, h, fun _ ts r => by obtain ⟨t, u, rfl, ha, hb⟩ := rd2 r; exact PE.by (pe_cmpR op_lt_P ha hb (nomark _)) fun _ _ _ q => q⟩
  · exact ⟨_, h, fun _ ts r => by obtain ⟨t, u, rfl, ha, hb⟩ := rd2 r; exact PE.by (pe_cmpR op_le_P ha hb (nomark _)) fun _ _ _ q => q⟩
  · exact ⟨_, h, fun _ ts r => by obtain ⟨t, u, rfl, ha, hb⟩ := rd2 r; exact PE.by (pe_cmpR op_gt_P ha hb (nomark _)) fun _ _ _ q => q⟩
  · exact ⟨_, h, fun _ ts r => by obtain ⟨t, u, rfl, ha, hb⟩ := rd2 r; exact PE.by (pe_cmpR op_ge_P ha hb (nomark _)) fun _ _ _ q => q⟩
  · have h' := Bool.and_eq_true_iff.mp h
    exact ⟨_, h'.2, fun _ ts r => by obtain ⟨t, u, rfl, ha, hb⟩ := rd2 r; exact PE.by (pe_cmpR (op_in_P c.hu) ha hb (by simpa using h'.1)) fun _ _ _ q => q⟩
  · have h' := Bool.and_eq_true_iff.mp h
    exact ⟨_, h'.2, fun _ ts r => by obtain ⟨t, u, rfl, ha, hb⟩ := rd2 r; exact PE.by (pe_cmpR (op_notin_P c.hu) ha hb (by simpa using h'.1)) fun _ _ _ q => q⟩
  · refine ⟨_, h, fun _ ts r => ?_⟩
    obtain ⟨t, rfl, ha⟩ := rd1 r
    exact PE.by (pe_cmpR op_isN_P ha pe_non (nomark _)) fun σ H Q q => add_rfl q
  · refine ⟨_, h, fun _ ts r => ?_⟩
    obtain ⟨t, rfl, ha⟩ := rd1 r
    exact PE.by (pe_cmpR op_notN_P ha pe_non (nomark _)) fun σ H Q q => add_rfl q
  · exact ⟨_, h, fun _ ts r => by obtain ⟨t, rfl, ha⟩ := rd1 r; exact PE.by (pe_un un_neg_P ha) fun _ _ _ q => q⟩
  · have h' := Bool.and_eq_true_iff.mp h
    exact ⟨_, h'.2, fun _ ts r => by obtain ⟨t, u, rfl, ha, hb⟩ := rd2 r; exact PE.by (pe_ix ix_P ha hb (plain_ix (by simpa using h'.1))) fun _ _ _ q => q⟩
  · have h' := Bool.and_eq_true_iff.mp h
    refine ⟨_, h'.2, fun st ts r => ?_⟩
    obtain ⟨t, rfl, ha⟩ := rd1 r
    obtain ⟨rfl, hg, hm⟩ := c.blt h'.1
    exact PE.by (pe_callB call_len_P hg hm boot_len' (pa_cons ha pa_nil (star_of (st _ (by simp)) _ _)) (by decide +kernel) (by decide +kernel) (star_of (st _ (by simp)) _ _)) fun _ _ _ q => q
  · have h' := Bool.and_eq_true_iff.mp h
    refine ⟨_, h'.2, fun st ts r => ?_⟩
    obtain ⟨t, rfl, ha⟩ := rd1 r
    obtain ⟨rfl, hg, hm⟩ := c.blt h'.1
    exact PE.by (pe_callTy (call_str_P c.hu c.gd) hg hm boot_str' (pa_cons ha pa_nil (star_of (st _ (by simp)) _ _)) (by decide +kernel) (by decide +kernel) (star_of (st _ (by simp)) _ _)) fun _ _ _ q => q
  · have h' := Bool.and_eq_true_iff.mp h
    refine ⟨_, h'.2, fun st ts r => ?_⟩
    obtain ⟨t, rfl, ha⟩ := rd1 r
    obtain ⟨rfl, hg, hm⟩ := c.blt h'.1
    exact PE.by (pe_callTy (call_list_P c.calm) hg hm boot_list' (pa_cons ha pa_nil (star_of (st _ (by simp)) _ _)) (by decide +kernel) (by decide +kernel) (star_of (st _ (by simp)) _ _)) fun _ _ _ q => q
  · have h' := Bool.and_eq_true_iff.mp h
    refine ⟨_, h'.2, fun st ts r => ?_⟩
    obtain ⟨t, rfl, ha⟩ := rd1 r
    obtain ⟨rfl, hg, hm⟩ := c.blt h'.1
    exact PE.by (pe_callTy call_tuple_P hg hm boot_tuple' (pa_cons ha pa_nil (star_of (st _ (by simp)) _ _)) (by decide +kernel) (by decide +kernel) (star_of (st _ (by simp)) _ _)) fun _ _ _ q => q
  · have h' := Bool.and_eq_true_iff.mp h
    refine ⟨_, h'.2, fun st ts r => ?_⟩
    obtain ⟨t, rfl, ha⟩ := rd1 r
    obtain ⟨rfl, hg, hm⟩ := c.blt h'.1
    exact PE.by (pe_callTy call_int_P hg hm boot_int' (pa_cons ha pa_nil (star_of (st _ (by simp)) _ _)) (by decide +kernel) (by decide +kernel) (star_of (st _ (by simp)) _ _)) fun _ _ _ q => q
  · have h' := Bool.and_eq_true_iff.mp h
    refine ⟨_, h'.2, fun st ts r => ?_⟩
    obtain ⟨t, u, rfl, ha, hb⟩ := rd2 r
    obtain ⟨rfl, hg, hm⟩ := c.blt h'.1
    exact PE.by (pe_callB (call_min2_P c.calm) hg hm boot_min' (pa_cons ha (pa_cons hb pa_nil (star_of (st _ (by simp)) _ _)) (star_of (st _ (by simp)) _ _)) (by decide +kernel) (by decide +kernel) (star_of (st _ (by simp)) _ _) (star_one (st _ (by simp)) _ _)) fun _ _ _ q => q
  · have h' := Bool.and_eq_true_iff.mp h
    refine ⟨_, h'.2, fun st ts r => ?_⟩
    obtain ⟨t, u, rfl, ha, hb⟩ := rd2 r
    obtain ⟨rfl, hg, hm⟩ := c.blt h'.1
    exact PE.by (pe_callB (call_max2_P c.calm) hg hm boot_max' (pa_cons ha (pa_cons hb pa_nil (star_of (st _ (by simp)) _ _)) (star_of (st _ (by simp)) _ _)) (by decide +kernel) (by decide +kernel) (star_of (st _ (by simp)) _ _) (star_one (st _ (by simp)) _ _)) fun _ _ _ q => q
  · simp only [Bool.and_eq_true, decide_eq_true_eq] at h
    obtain ⟨⟨⟨h1, h2⟩, h3⟩, h4⟩ := h
    refine ⟨_, h4, fun st ts r => ?_⟩
    obtain ⟨t, rfl, ha⟩ := rd1 r
    obtain ⟨rfl, hg, hm⟩ := c.blt h1
    obtain ⟨rfl, hg2, hm2⟩ := c.blt h3
    have ht := name_isiN _ h2
    refine PE.by (pe_callB (call_isi_P (pn := pn) h2) hg hm boot_isi' (pa_cons ha (pa_cons (pe_bltn hg2 hm2 (boot_isiN _ h2) (show RelV (.ty _) _ from rfl) ht.1 ht.2) pa_nil rfl) (star_of (st _ (by simp)) _ _)) (by decide +kernel) (by decide +kernel) (star_of (st _ (by simp)) _ _)) fun σ H Q q => ?_
    rename_i ty _ _ _ _
    have e : (fun (x : V) (H1 : Hp) => rP (KX X pn) (.isi ty) [x] H1 Q) = fun x H1 => ∃ x', [x, V.ty (isiN ty)] = [x', V.ty (isiN ty)] ∧ rP (KX X pn) (.isi ty) [x'] H1 Q := by
      funext x H1
      simp
    replace q : t σ H fun x H1 => rP (KX X pn) (.isi ty) [x] H1 Q := q
    rw [e] at q
    exact q
  · refine ⟨_, h, fun st ts r => ?_⟩
    obtain ⟨t, rfl, ha⟩ := rd1 r
    refine PE.by (pe_slice (sl_P (pn := pn)) ha po_none po_none) fun σ H Q q => ?_
    have e : (fun (x : V) (H1 : Hp) => rP (KX X pn) (.slc false false) [x] H1 Q) = fun x H1 => rSlP (KX X pn) x none none H1 Q := by
      funext x H1
      refine propext ⟨fun ⟨ρ, Z, ds, d, e, ar, hQ⟩ => ?_, fun ⟨ρ, Z, a, d, e, ha, hQ⟩ => ⟨ρ, Z, [a], d, e, .cons ha .nil, hQ⟩⟩
      obtain ⟨a, rfl, ha⟩ := paired1 ar
      exact ⟨ρ, Z, a, d, e, ha, hQ⟩
    replace q : t σ H fun x H1 => rP (KX X pn) (.slc false false) [x] H1 Q := q
    rw [e] at q
    exact q
  · refine ⟨_, h, fun st ts r => ?_⟩
    obtain ⟨t, u, rfl, ha, hb⟩ := rd2 r
    refine PE.by (pe_slice (sl_P (pn := pn)) ha (po_some hb) po_none) fun σ H Q q => ?_
    have e : (fun (x : V) (H1 : Hp) => u σ H1 fun y H2 => rP (KX X pn) (.slc true false) [x, y] H2 Q) = fun x H1 => tPart u σ H1 fun l H2 => rSlP (KX X pn) x l none H2 Q := by
      funext x H1
      have e2 : (fun (y : V) (H2 : Hp) => rP (KX X pn) (.slc true false) [x, y] H2 Q) = fun y H2 => ∃ i, y = .int i ∧ rSlP (KX X pn) x (some i) none H2 Q := by
        funext y H2
        refine propext ⟨fun ⟨ρ, Z, ds, d, e, ar, hQ⟩ => ?_, fun ⟨i, hi, ρ, Z, a, d, e, ha, hQ⟩ => ⟨ρ, Z, [a, .int i], d, e, .cons ha (.cons hi .nil), hQ⟩⟩
        obtain ⟨a, b, rfl, ha, hb⟩ := paired2 ar
        cases b <;> first | (simp [primF] at e; done) | skip
        exact ⟨_, hb, ρ, Z, a, d, e, ha, hQ⟩
      unfold tPart
      rw [← e2]
    replace q : t σ H fun x H1 => u σ H1 fun y H2 => rP (KX X pn) (.slc true false) [x, y] H2 Q := q
    rw [e] at q
    exact q
  · refine ⟨_, h, fun st ts r => ?_⟩
    obtain ⟨t, u, rfl, ha, hb⟩ := rd2 r
    refine PE.by (pe_slice (sl_P (pn := pn)) ha po_none (po_some hb)) fun σ H Q q => ?_
    have e : (fun (x : V) (H1 : Hp) => u σ H1 fun y H2 => rP (KX X pn) (.slc false true) [x, y] H2 Q) = fun x H1 => tPart u σ H1 fun l H2 => rSlP (KX X pn) x none l H2 Q := by
      funext x H1
      have e2 : (fun (y : V) (H2 : Hp) => rP (KX X pn) (.slc false true) [x, y] H2 Q) = fun y H2 => ∃ i, y = .int i ∧ rSlP (KX X pn) x none (some i) H2 Q := by
        funext y H2
        refine propext ⟨fun ⟨ρ, Z, ds, d, e, ar, hQ⟩ => ?_, fun ⟨i, hi, ρ, Z, a, d, e, ha, hQ⟩ => ⟨ρ, Z, [a, .int i], d, e, .cons ha (.cons hi .nil), hQ⟩⟩
        obtain ⟨a, b, rfl, ha, hb⟩ := paired2 ar
        cases b <;> first | (simp [primF] at e; done) | skip
        exact ⟨_, hb, ρ, Z, a, d, e, ha, hQ⟩
      unfold tPart
      rw [← e2]
    replace q : t σ H fun x H1 => u σ H1 fun y H2 => rP (KX X pn) (.slc false true) [x, y] H2 Q := q
    rw [e] at q
    exact q
  · refine ⟨_, h, fun st ts r => ?_⟩
    obtain ⟨t, u, w, rfl, ha, hb, hc⟩ := rd3 r
    exact pe_slice2 ha hb hc
  · have h' := Bool.and_eq_true_iff.mp h
    refine ⟨_, h'.2, fun st ts r => ?_⟩
    obtain ⟨t, rfl, ha⟩ := rd1 r
    obtain ⟨k, p1, p2, rfl⟩ := isM1e_of h'.1
    exact pe_rev_P ha
  · have h' := Bool.and_eq_true_iff.mp h
    refine ⟨_, h'.2, fun st ts r => ?_⟩
    obtain ⟨t, rfl, ha⟩ := rd1 r
    obtain ⟨rfl, hg, hm⟩ := c.blt h'.1
    exact PE.by (pe_callB (call_min1_P c.calm) hg hm boot_min' (pa_cons ha pa_nil (star_of (st _ (by simp)) _ _)) (by decide +kernel) (by decide +kernel) (star_of (st _ (by simp)) _ _)) fun _ _ _ q => q
  · have h' := Bool.and_eq_true_iff.mp h
    refine ⟨_, h'.2, fun st ts r => ?_⟩
    obtain ⟨t, rfl, ha⟩ := rd1 r
    obtain ⟨rfl, hg, hm⟩ := c.blt h'.1
    exact PE.by (pe_callB (call_max1_P c.calm) hg hm boot_max' (pa_cons ha pa_nil (star_of (st _ (by simp)) _ _)) (by decide +kernel) (by decide +kernel) (star_of (st _ (by simp)) _ _)) fun _ _ _ q => q
  · have h' := Bool.and_eq_true_iff.mp h
    refine ⟨_, h'.2, fun st ts r => ?_⟩
    obtain ⟨t, rfl, ha⟩ := rd1 r
    obtain ⟨rfl, hg, hm⟩ := c.blt h'.1
    exact PE.by (pe_callB (call_all1_P c.calm) hg hm boot_all1' (pa_cons ha pa_nil (star_of (st _ (by simp)) _ _)) (by decide +kernel) (by decide +kernel) (star_of (st _ (by simp)) _ _)) fun _ _ _ q => q
  · have h' := Bool.and_eq_true_iff.mp h
    refine ⟨_, h'.2, fun st ts r => ?_⟩
    obtain ⟨t, rfl, ha⟩ := rd1 r
    obtain ⟨rfl, hg, hm⟩ := c.blt h'.1
    exact PE.by (pe_callB (call_any1_P c.calm) hg hm boot_any1' (pa_cons ha pa_nil (star_of (st _ (by simp)) _ _)) (by decide +kernel) (by decide +kernel) (star_of (st _ (by simp)) _ _)) fun _ _ _ q => q
  · have h' := Bool.and_eq_true_iff.mp h
    refine ⟨_, h'.2, fun st ts r => ?_⟩
    obtain ⟨t, rfl, ha⟩ := rd1 r
    obtain ⟨rfl, hg, hm⟩ := c.blt h'.1
    exact PE.by (pe_callB (call_sort1_P) hg hm boot_sorted1' (pa_cons ha pa_nil (star_of (st _ (by simp)) _ _)) (by decide +kernel) (by decide +kernel) (star_of (st _ (by simp)) _ _)) fun _ _ _ q => q
  · have h' := Bool.and_eq_true_iff.mp h
    have h2 := Bool.and_eq_true_iff.mp h'.2
    refine ⟨_, h2.2, fun st ts r => ?_⟩
    obtain ⟨t, rfl, ha⟩ := rd1 r
    obtain ⟨rfl, hg, hm⟩ := c.blt h'.1
    obtain ⟨rfl, hg2, hm2⟩ := c.blt h2.1
    exact pe_sset c.calm hg hm hg2 hm2 ha (star_of (st _ (by simp)) _ _)
  · have h' := Bool.and_eq_true_iff.mp h
    have h2 := Bool.and_eq_true_iff.mp h'.2
    refine ⟨_, h2.2, fun st ts r => ?_⟩
    obtain ⟨t, rfl, ha⟩ := rd1 r
    obtain ⟨rfl, hg, hm⟩ := c.blt h'.1
    obtain ⟨rfl, hg2, hm2⟩ := c.blt h2.1
    exact pe_lrng c.calm hg hm hg2 hm2 ha (star_of (st _ (by simp)) _ _)
  · cases h
end
end Mi
end
section
set_option Elab.async false
set_option maxRecDepth 100000
set_option linter.all false
namespace Mi
open PySem PySem.Spec PyProof.Rows L2
variable {pn : Nat → Option (Addr × Obj × HO)}
section
variable {T : Tab} {cf : Calls} {L : LC} {X : Cx} {W : MW}
theorem stars_of : ∀ {es : List Expr} (h : ∀ e ∈ es, isStar e = false) (env : PySem.Env) (pos : Pos), (backTo pos (starEach es env)).any (·.1) = false
  | [], _, _, _ => rfl
  | e :: es, h, env, pos => by
    rw [star_of (h e List.mem_cons_self)]
    show (false || (backTo pos (starEach es env)).any (·.1)) = false
    rw [stars_of fun e he => h e (List.mem_cons_of_mem _ he)]
    rfl
theorem okEs_star : ∀ {es : List E} {l : List Expr}, okEs T L es l = true → ∀ e ∈ l, isStar e = false
  | [], [], _, _, h => by cases h
  | [], _ :: _, h, _, _ => by cases h
  | _ :: _, [], h, _, _ => by cases h
  | E :: es, e :: l, h, x, hx => by
    replace h : (okE T L E false e && !isStar e && okEs T L es l) = true := h
    simp only [Bool.and_eq_true, Bool.not_eq_true'] at h
    rcases List.mem_cons.mp hx with hx | hx
    · rw [hx]; exact h.1.2
    · exact okEs_star h.2 x hx
/-- a test of a value -/
theorem plain_test {e : Expr} (h1 : ∀ x p, e ≠ .UnaryOp .Not x p) (h2 : ∀ o l p, e ≠ .BoolOp o l p) (h3 : ∀ a b c p, e ≠ .IfExp a b c p) (h4 : ∀ a o l p, e ≠ .Compare a o l p) (env : PySem.Env) (whole : Sem Value) :
    isTrue e env whole = (do let v ← whole; standAt e.pos; holding [v] (PySem.truthy v)) := by
  cases e with
  | UnaryOp op x p => cases op <;> first | rfl | exact absurd rfl (h1 x p)
  | BoolOp o l p => exact absurd rfl (h2 o l p)
  | IfExp a b c p => exact absurd rfl (h3 a b c p)
  | Compare a o l p => exact absurd rfl (h4 a o l p)
  | _ => rfl
theorem cmp_bl {p : P} {o : CmpOp} (h : cmpOp p = some o) : ∀ ds d, primF p ds = some d → ∃ b, d = .bl b := by
  intro ds d e
  have pc : ∀ {fi : Int → Int → Bool} {fs : List Nat → List Nat → Bool} {a b : D}, pCmp fi fs a b = some d → ∃ b, d = .bl b := by
    intro fi fs a b h
    cases a <;> cases b <;> simp only [pCmp, Option.some.injEq] at h <;> first | (cases h; done) | exact ⟨_, h.symm⟩
  have pq : ∀ {n : Bool} {a b : D}, pEq n a b = some d → ∃ b, d = .bl b := by
    intro n a b h
    unfold pEq at h
    split at h <;> first | (cases h; exact ⟨_, rfl⟩) | cases h
  have two : ∀ {f : D → D → Option D}, (∀ a b, primF p [a, b] = f a b) → (∀ a b, f a b = some d → ∃ b, d = .bl b) → (∀ l, l.length ≠ 2 → primF p l = none) → ∃ b, d = .bl b := by
    intro f h1 h2 h3
    by_cases hl : ds.length = 2
    · match ds, hl with
      | [a, b], _ => exact h2 a b (by rw [← h1]; exact e)
    · rw [h3 ds hl] at e; cases e
  have no2 : ∀ l : List D, l.length ≠ 2 → l = [] ∨ (∃ a, l = [a]) ∨ ∃ a b c r, l = a :: b :: c :: r := by
    intro l hl
    match l with
    | [] => exact .inl rfl
    | [a] => exact .inr (.inl ⟨a, rfl⟩)
    | [a, b] => exact absurd rfl hl
    | a :: b :: c :: r => exact .inr (.inr ⟨a, b, c, r, rfl⟩)
  have fin : ∀ l : List D, l.length ≠ 2 → primF p l = none := by
    intro l hl
    rcases no2 l hl with rfl | ⟨a, rfl⟩ | ⟨a, b, c, r, rfl⟩ <;> (cases p <;> simp only [cmpOp] at h <;> first | (cases h; done) | rfl)
  cases p <;> simp only [cmpOp] at h <;> first | (cases h; done) | skip
  · exact two (fun _ _ => rfl) (fun a b hh => pq hh) fin
  · exact two (fun _ _ => rfl) (fun a b hh => pq hh) fin
  · exact two (f := pCmp (fun i j => decide (i < j)) (fun i j => decide (i < j))) (fun _ _ => rfl) (fun a b hh => pc hh) fin
  · exact two (f := pCmp (fun i j => decide (i ≤ j)) (fun i j => !decide (j < i))) (fun _ _ => rfl) (fun a b hh => pc hh) fin
  · exact two (f := pCmp (fun i j => decide (j < i)) (fun i j => decide (j < i))) (fun _ _ => rfl) (fun a b hh => pc hh) fin
  · exact two (f := pCmp (fun i j => decide (j ≤ i)) (fun i j => !decide (i < j))) (fun _ _ => rfl) (fun a b hh => pc hh) fin
theorem CtxOk.cmp (c : CtxOk T cf L X W) {p : P} {o : CmpOp} (h : cmpOp p = some o) : OpR X (compareOp o) (rP2 (KX X pn) p) ∧ o ≠ .In ∧ o ≠ .NotIn := by
  cases p <;> simp only [cmpOp, Option.some.injEq] at h <;> first | (cases h; done) | skip
  all_goals subst h
  · exact ⟨op_eq_P c.hu, by decide, by decide⟩
  · exact ⟨op_ne_P c.hu, by decide, by decide⟩
  · exact ⟨op_lt_P, by decide, by decide⟩
  · exact ⟨op_le_P, by decide, by decide⟩
  · exact ⟨op_gt_P, by decide, by decide⟩
  · exact ⟨op_ge_P, by decide, by decide⟩
theorem chain_mark {o1 o2 : CmpOp} {b c : Expr} (h : o2 ≠ .In) (h2 : o2 ≠ .NotIn) : lastMarks [o1, o2] [b, c] = false := by
  show behindInMarks o2 c = false
  exact nomark c h h2
/-- f(..) -/
theorem pe_callP {k : Nat} {f : Addr} {fd : FuncData} {ps : List Str} {sp : Sp} {E : L2.St → XK} {x : Str} {p pos : Pos} {e : Expr} {es : List Expr} {t : TA} (F : FnG X.prog X.w X.K X.mg X.base k f fd ps sp) (room : Room k X.A) (gd : X.A.guards = some []) (hg : Gl X x) (hdb : (x == ("__debug__" : Str)) = false) (hm : X.mg x = some (.ref f)) (hk : PySem.W.keepIn X.K (.ref f) = true) (hb : L2.Binds (KX X pn) fd ps [])
    (hx : ∀ σ, PassesAt (L2.CX X.prog X.w) X σ (E σ)) (ha : PA X (e :: es) t) (hse : starEach (e :: es) X.env = (false, eval e X.env) :: starEach es X.env) (hs : (backTo pos (starEach es X.env)).any (·.1) = false) : PE X (.Call (.Name x p) (e :: es) [] pos) (fun σ H Q => t σ H fun vs H1 => sp vs H1 Q (E σ)) := by
  refine ⟨fun pins s σ H Q I h => wpAny_Call_Name_kw (ld_glob I hg hm ?_ hdb)⟩
  refine PySem.W.callWith_K (h₀ := X.base) I.ok.mod.kin hk (thn (ha.run pos pins s σ H _ I h) fun us s1 ⟨vs, H1, I1, r, q⟩ => ⟨I1.kIn, ?_⟩) hse hs
  have b := hb s1 us I1.kIn (by rw [List.append_nil, ← r.length]; exact F.len _ _ _ _ q)
  rw [List.append_nil] at b
  exact run_G F room gd (hx σ) I1 b r q
theorem CtxOk.call (c : CtxOk T cf L X W) {x : Str} {f : Nat} {l : List Expr} {p pos : Pos} {t : TA} {ms : M (List D)} (hg : isGl L x = true) (hn : l.isEmpty = false) (hf : (T.fns.any fun p => p.name == x && p.ix == f) = true)
    (st : ∀ e ∈ l, isStar e = false) (ha : PA X l t) (ht : ∀ σ H Q, simAs (KX X pn) W ms σ H Q → t σ H Q) : PE X (.Call (.Name x p) l [] pos) (simE (KX X pn) W (ms.bind fun ds => callM cf f ds)) := by
  simp only [List.any_eq_true, Bool.and_eq_true, beq_iff_eq] at hf
  obtain ⟨q, hq, rfl, rfl⟩ := hf
  obtain ⟨fa, fd, ps, k, hm, hk, hb, hr, F, hz⟩ := c.fn q hq
  cases l with
  | nil => cases hn
  | cons e es =>
    have g := c.gl hg
    exact PE.by (pe_callP (pn := pn) (F pn) hr c.gd g.1 g.2 hm hk hb c.pass ha (star_of (st e List.mem_cons_self) _ _) (stars_of (fun x hx => st x (List.mem_cons_of_mem _ hx)) _ _)) fun σ H Q q => ht σ H _ (by have := call_of hz q; rwa [c.wm] at this)
theorem kw_names {env : PySem.Env} {pos : Pos} : ∀ {kw : List Keyword} {ks : List Str}, kw.map (·.arg) = ks.map some → (backToKw pos (keywordEach kw env)).all (·.1.isSome) = true ∧ (backToKw pos (keywordEach kw env)).filterMap (·.1) = ks
  | [], [], _ => ⟨rfl, rfl⟩
  | [], _ :: _, h => by cases h
  | _ :: _, [], h => by cases h
  | ⟨a, v, p⟩ :: kw, k :: ks, h => by
    simp only [List.map_cons, List.cons.injEq] at h
    obtain ⟨rfl, h2⟩ := h
    obtain ⟨i1, i2⟩ := kw_names (env := env) (pos := pos) h2
    refine ⟨?_, ?_⟩
    · show (true && (backToKw pos (keywordEach kw env)).all (·.1.isSome)) = true
      rw [i1]; rfl
    · show k :: (backToKw pos (keywordEach kw env)).filterMap (·.1) = _
      rw [i2]
theorem CtxOk.callA (c : CtxOk T cf L X W) {x : Str} {f : Nat} {l : List Expr} {kw : List Keyword} {p pos : Pos} {n m : Nat} {ms mz : M (List D)} {arr : List (Nat ⊕ D)} (hg : isGl L x = true)
    (hf : (T.kws.any fun q => q.name == x && q.ix == f && q.n == l.length && decide (kw.map (·.arg) = q.ks.map some) && arrB q.arr arr) = true) (e1 : n = l.length) (e2 : m = kw.length)
    (st : ∀ e ∈ l, isStar e = false) (ha : PA X l (simAs (KX X pn) W ms)) (hk : PK X kw (simAs (KX X pn) W mz)) (h0 : l = [] → ms = .ret []) :
    PE X (.Call (.Name x p) l kw pos) (simE (KX X pn) W (ms.bind fun ds => mz.bind fun zs => if ds.length = n ∧ zs.length = m then callM cf f (arrange arr ((ds ++ zs).map D.hard)) else .stuck)) := by
  simp only [List.any_eq_true, Bool.and_eq_true, beq_iff_eq, decide_eq_true_eq] at hf
  obtain ⟨q, hq, ⟨⟨⟨rfl, rfl⟩, h3⟩, h4⟩, h5⟩ := hf
  obtain rfl := arrB_eq h5
  obtain ⟨fa, fd, ps, k, hm, hki, hb, hr, F, hz⟩ := c.kw q hq
  obtain ⟨k1, k2⟩ := kw_names (env := X.env) (pos := pos) h4
  have hl : m = q.ks.length := by
    have := congrArg List.length h4
    simp at this
    omega
  have g := c.gl hg
  have e3 : n = q.n := by omega
  subst hl
  subst e3
  cases l with
  | nil =>
    have := h0 rfl
    subst this
    refine PE.by (pe_callG0 (E := fun σ => WE W.w σ) (F pn) hr c.gd g.1 g.2 hm hki (hb pn) c.pass hk k1 k2) fun σ H Q q' => ?_
    have := callA_of hz q'
    rw [c.wm] at this
    exact as_nil this
  | cons e es =>
    exact PE.by (pe_callG (E := fun σ => WE W.w σ) (F pn) hr c.gd g.1 g.2 hm hki (hb pn) c.pass ha hk k1 k2 (stars_of st _ _) (star_of (st e List.mem_cons_self) _ _)) fun σ H Q q' => by have := callA_of hz q'; rwa [c.wm] at this
/-! ### methods that change nothing -/
theorem mt_all (c : CtxOk T cf L X W) {p : P} (h : p = .m 0 ∨ p = .m 1 ∨ p = .m 2) : ∃ id, PlainAttrs (mTy p) ∧ Slot (mTy p) (mName p) id ∧ typeOf (.builtin id) = pure (.type "method_descriptor") ∧ MtR X id (fun x ws H Q => rP (KX X pn) p (x :: ws) H Q) := by
  rcases h with rfl | rfl | rfl
  · exact ⟨_, PySem.F.plainAttrs_list, PySem.F.slot_list_index, PySem.F.type_list_index, mt_index_P c.hu⟩
  · exact ⟨_, PySem.F.plainAttrs_tuple, PySem.F.slot_tuple_index, PySem.F.type_tuple_index, mt_tindex_P c.hu⟩
  · exact ⟨_, PySem.F.plainAttrs_list, PySem.F.slot_list_count, PySem.F.type_list_count, mt_count_P c.hu⟩
/-! ### methods of lists -/
theorem list_base {o : Expr} {n : Str} {env : PySem.Env} (h : ∀ x p pos, o ≠ .Call (.Name x p) [] [] pos) : attributeBase o n env (eval o env) = eval o env := by
  unfold attributeBase
  cases o with
  | Call f as ks pos =>
    cases f <;> first | rfl | skip
    cases as <;> first | rfl | skip
    cases ks <;> first | rfl | skip
    exact absurd rfl (h _ _ _)
  | _ => rfl
theorem tyV_mu {K : KC} {x : V} {m : Mu} {ws : List V} {H : Hp} {Q : VK} (h : rMu m x ws H Q) : tyV K "list" x H := by
  obtain ⟨a, vs, vs', v, rfl, q, _⟩ := h
  exact .inl ⟨rfl, vs, .of q⟩
theorem mu_append : MtR X "list.append" (fun x ws H Q => rMu .append x ws H Q) := by
  intro pins s σ H x ws v us Q I rx rs h
  obtain ⟨a, vs, vs', w, rfl, q, e, hQ⟩ := h
  match ws, e with
  | [d], e =>
    simp only [muV, muG] at e
    split at e
    · cases e
      exact mt_append pins s σ H _ _ v us Q I rx rs ⟨a, vs, _, rfl, rfl, q, by rw [big_eq]; assumption, hQ⟩
    · cases e
theorem mu_pop : MtR X "list.pop" (fun x ws H Q => rMu .pop x ws H Q) := by
  intro pins s σ H x ws v us Q I rx rs h
  obtain ⟨a, vs, vs', w, rfl, q, e, hQ⟩ := h
  match ws, e with
  | [], e =>
    simp only [muV, muG] at e
    cases hx : vs[vs.length - 1]? with
    | none => rw [hx] at e; cases e
    | some y =>
      rw [hx] at e
      cases e
      exact mt_pop pins s σ H _ _ v us Q I rx rs ⟨a, vs, _, rfl, rfl, q, hx, hQ⟩
theorem mu_popAt : MtR X "list.pop" (fun x ws H Q => rMu .popAt x ws H Q) := by
  intro pins s σ H x ws v us Q I rx rs h
  obtain ⟨a, vs, vs', w, rfl, q, e, hQ⟩ := h
  match ws with
  | [] => simp [muV, muG] at e
  | _ :: _ :: _ => simp [muV, muG] at e
  | [y] =>
    cases y <;> first | (simp [muV, muG, V.int?] at e; done) | skip
    rename_i i
    simp only [muV, muG, V.int?, Option.bind_some] at e
    cases hj : ixN vs.length i with
    | none => rw [hj] at e; cases e
    | some j =>
      rw [hj] at e
      simp only [Option.bind_some] at e
      cases hx : vs[j]? with
      | none => rw [hx] at e; cases e
      | some y =>
        rw [hx] at e
        cases e
        obtain ⟨h1, h2, h3, h4⟩ := ixN_seq hj
        have hl : vs.length ≤ sizeLine := by
          obtain ⟨its, n, r, e, z⟩ := I.lst q
          exact z
        have hz : sizeLine = 16777216 := sizeLine_eq
        exact mt_popAt pins s σ H _ _ v us Q I rx rs ⟨a, vs, i, j, _, rfl, rfl, q, by omega, by omega, h1, hx, hQ⟩
theorem mu_insert : MtR X "list.insert" (fun x ws H Q => rMu .insert x ws H Q) := by
  intro pins s σ H x ws v us Q I rx rs h
  obtain ⟨a, vs, vs', w, rfl, q, e, hQ⟩ := h
  match ws with
  | [] => simp [muV, muG] at e
  | [_] => simp [muV, muG] at e
  | _ :: _ :: _ :: _ => simp [muV, muG] at e
  | [y, d] =>
    cases y <;> first | (simp [muV, muG, V.int?] at e; done) | skip
    rename_i i
    simp only [muV, muG, V.int?, Option.bind_some] at e
    split at e
    · rename_i hc
      cases e
      exact mt_insert pins s σ H _ _ v us Q I rx rs ⟨a, vs, _, _, rfl, rfl, q, by rw [big_eq]; exact hc.2.2, hc.1, hc.2.1, by simpa using hQ⟩
    · cases e
theorem idx_first : ∀ {ns : List Int} {k : Int}, k ∈ ns → ns[ns.idxOf k]? = some k ∧ ∀ m : Nat, m < ns.idxOf k → ns[m]? ≠ some k := fun {ns k} h => by
  refine ⟨by rw [List.getElem?_eq_getElem (List.idxOf_lt_length_of_mem h)]; simp, fun m hm e => ?_⟩
  obtain ⟨h1, h2⟩ := List.getElem?_eq_some_iff.mp e
  have := List.not_of_lt_findIdx (p := fun x => x == k) (i := m) (xs := ns) hm
  simp [h2] at this
theorem mu_remove : MtR X "list.remove" (fun x ws H Q => rMu .remove x ws H Q) := by
  intro pins s σ H x ws v us Q I rx rs h
  obtain ⟨a, vs, vs', w, rfl, q, e, hQ⟩ := h
  match ws with
  | [] => simp [muV, muG] at e
  | _ :: _ :: _ => simp [muV, muG] at e
  | [y] =>
    cases y <;> first | (simp [muV, muG, V.int?] at e; done) | skip
    rename_i i
    simp only [muV, muG, V.int?, Option.bind_some] at e
    cases hn : allI V.int? vs with
    | none => rw [hn] at e; cases e
    | some ns =>
      rw [hn] at e
      simp only [Option.bind_some] at e
      split at e
      · rename_i hm
        cases e
        have ev : vs = ns.map V.int := allI_VV hn
        subst ev
        obtain ⟨e1, e2⟩ := idx_first hm
        refine mt_remove pins s σ H _ _ v us Q I rx rs ⟨a, ns, i, ns.idxOf i, rfl, rfl, q, e1, e2, ?_⟩
        rw [← erase_mapI]
        exact hQ
      · cases e
theorem few_of {es : List Expr} {env : PySem.Env} {pos : Pos} (st : ∀ e ∈ es, isStar e = false) (hl : es.length < 20) :
    ((backTo pos (starEach es env)).all (fun x => !x.1) && (backToKw pos (keywordEach [] env)).all (fun x => x.1.isSome)
      && decide (es.length + ([] : List Keyword).length + (if ([] : List Keyword).isEmpty then 0 else 1) < 30)) = true := by
  have h1 : (backTo pos (starEach es env)).all (fun x => !x.1) = true := by
    have := stars_of st env pos
    rw [List.any_eq_false] at this
    rw [List.all_eq_true]
    intro x hx
    have := this x hx
    simpa using this
  rw [h1]
  simp [backToKw, keywordEach]
  omega
/-- o.m(..) of a list: o's reading, the arguments' -/
theorem mut_call {m : Mu} {o : Expr} {l : List Expr} {apos cpos : Pos} {to : TE} {ta : TA} (hm : (meOf m == ("" : Str)) = false) (hline : (apos.endLine == cpos.line) = true) (hl : l.length < 20) (hb : ∀ x p pos, o ≠ .Call (.Name x p) [] [] pos)
    (st : ∀ e ∈ l, isStar e = false) (ho : PE X o to) (ha : PA X l ta) (ne : l = [] → m = .pop ∧ ta = tNil) (ne2 : l ≠ [] → m ≠ .pop ∧ m ≠ .extend) :
    PE X (.Call (.Attribute o (meOf m) apos) l [] cpos) (fun σ H Q => to σ H fun x H1 => tyV (KX X pn) "list" x H1 ∧ ta σ H1 fun ws H2 => rMu m x ws H2 Q) := by
  cases l with
  | nil =>
    obtain ⟨rfl, rfl⟩ := ne rfl
    exact PE.by (pe_bm0 PySem.F.plainAttrs_list PySem.F.slot_list_pop PySem.F.type_list_pop mu_pop ho (list_base hb) hline) fun _ _ _ q => q
  | cons e es =>
    obtain ⟨n1, n2⟩ := ne2 (by simp)
    have s1 := star_of (st e List.mem_cons_self) es X.env
    have s2 := stars_of (fun x hx => st x (List.mem_cons_of_mem _ hx)) X.env cpos
    cases m with
    | append => exact PE.by (pe_bm PySem.F.plainAttrs_list PySem.F.slot_list_append PySem.F.type_list_append mu_append ho ha (list_base hb) (few_of st hl) hline s1 s2) fun _ _ _ q => q
    | pop => exact absurd rfl n1
    | popAt => exact PE.by (pe_bm PySem.F.plainAttrs_list PySem.F.slot_list_pop PySem.F.type_list_pop mu_popAt ho ha (list_base hb) (few_of st hl) hline s1 s2) fun _ _ _ q => q
    | insert => exact PE.by (pe_bm PySem.F.plainAttrs_list PySem.F.slot_list_insert PySem.F.type_list_insert mu_insert ho ha (list_base hb) (few_of st hl) hline s1 s2) fun _ _ _ q => q
    | extend => exact absurd rfl n2
    | remove => exact PE.by (pe_bm PySem.F.plainAttrs_list PySem.F.slot_list_remove PySem.F.type_list_remove mu_remove ho ha (list_base hb) (few_of st hl) hline s1 s2) fun _ _ _ q => q
    | set => simp [meOf] at hm
end
end Mi
end
section
set_option Elab.async false
set_option maxRecDepth 100000
set_option linter.all false
namespace Mi
open PySem PySem.Spec PyProof.Rows L2
variable {pn : Nat → Option (Addr × Obj × HO)}
/-! ### d == {} -/
def rDeq0 : R2 := fun x y H Q => ∃ (a b : Addr) (kvs : List (Key × V)), x = .ref a ∧ y = .ref b ∧ Rd H a (.dK kvs) ∧ H b = some (.dK []) ∧ Q (.bl kvs.isEmpty) H
theorem op_deq0 {X : Cx} (hu : X.A.units < cLine) : OpR X (compareOp .Eq) rDeq0 := by
  intro pins s σ H x y v u Q I rx ry h
  obtain ⟨a, b, kvs, rfl, rfl, ha, hb, q⟩ := h
  cases rx
  cases ry
  obtain ⟨_, l1, vs1, k1, d1⟩ := dk_rd I.hok ha
  obtain ⟨_, l2, vs2, k2, d2⟩ := dk_of I.hok hb
  have e2 : vs2 = [] := by
    have := Paired.length k2
    cases vs2 with
    | nil => rfl
    | cons => cases this
  subst e2
  have e1 : (vs1.length == ([] : List (Key × Value)).length) = kvs.isEmpty := by
    have := Paired.length k1
    cases vs1 <;> cases kvs <;> first | rfl | cases this
  refine PySem.W.rcP_dicts (r := true) l1 l2 d1 d2 hu (fun hl => ?_) _ _ ⟨.bl kvs.isEmpty, H, I, ?_, q⟩
  · cases vs1 with
    | nil => exact .nil
    | cons => cases hl
  · rw [Bool.and_true, e1]
    exact rfl
section
variable {K : KC} {W : MW} {σ : L2.St} {H : Hp}
theorem deq0_of {m0 : M D} {t0 : TE} (h0 : ∀ σ H Q, simE K W m0 σ H Q → t0 σ H Q) {Q : VK} (h : simE K W (m0.bind deqM) σ H Q) : tOp rDeq0 t0 tDNewK σ H Q := by
  obtain ⟨ρ, Z, S, en, F, ⟨k, r⟩, h⟩ := h
  refine h0 σ H _ (Sim.start k r (Le.refl F) h.bind fun x en1 S1 q1 ρ1 Z1 vx H1 k1 r1 => ?_)
  unfold deqM at q1
  cases e0 : dicAt S1 x with
  | none => rw [e0] at q1; exact q1.elim
  | some p =>
    rw [e0] at q1
    obtain ⟨n, kvs⟩ := p
    have rx : Rep K ρ1 Z1 H1 x vx := r1.fr (vx, x) List.mem_cons_self
    obtain ⟨a, vs, rfl, y1, y2, y3, y4⟩ := dic_rd r1 rx e0
    intro p hp
    have hne : a ≠ p := ne_of_none y3 hp
    refine ⟨a, p, _, rfl, rfl, .inl (by rw [upd_ne hne]; exact y3), upd_same, ?_⟩
    have hz : ((kvs.map (·.1)).zip vs).isEmpty = kvs.isEmpty := by
      have := y4.length
      cases kvs with
      | nil => rfl
      | cons kv r => cases vs with
        | nil => simp at this
        | cons => rfl
    rw [hz]
    exact q1 ρ1 Z1 _ _ k1 (((r1.le le_drop).grow (o := .dK []) hp).push rfl)
theorem deq0T_of {m0 : M D} {t0 : TE} (h0 : ∀ σ H Q, simE K W m0 σ H Q → t0 σ H Q) {Q : Bool → Hp → Prop} (h : simT K W ((m0.bind deqM).bind fun d => truM d) σ H Q) : tTest (tOp rDeq0 t0 tDNewK) σ H Q := by
  refine deq0_of (Q := fun v H2 => ∃ c, v = .bl c ∧ Q c H2) h0 ?_
  obtain ⟨ρ, Z, S, en, F, k, h⟩ := h
  refine ⟨ρ, Z, S, en, F, k, ?_⟩
  have h1 := Post.bind h
  generalize hm : (m0.bind deqM) en S = res at h1
  cases res with
  | ok d en1 S1 =>
    have vb : ∃ b, d = .bl b := by
      unfold M.bind R.bind at hm
      cases e1 : m0 en S with
      | ok y en2 S2 =>
        rw [e1] at hm
        simp only at hm
        unfold deqM at hm
        split at hm
        · cases hm; exact ⟨_, rfl⟩
        · cases hm
      | exc => rw [e1] at hm; cases hm
      | stuck => rw [e1] at hm; cases hm
    obtain ⟨b, rfl⟩ := vb
    exact fun ρ1 Z1 v H1 k1 r1 => ⟨b, (r1.fr _ List.mem_cons_self : Rep K ρ1 Z1 H1 (.bl b) v).bl, h1.ok ρ1 Z1 H1 k1 (r1.le le_drop)⟩
  | exc x en1 S1 => exact h1
  | stuck => exact h1
/-! ### sorted(d), its keys ints -/
theorem boot_sorted' : bootBuiltins "sorted" = some (.builtin "sorted") := by decide +kernel
theorem sortI_perm (ns : List Int) : (sortI ns).Perm ns := List.mergeSort_perm ns _
theorem sortI_sorted (ns : List Int) : (sortI ns).Pairwise (· ≤ ·) := by
  have := List.pairwise_mergeSort (le := fun a b : Int => decide (a ≤ b)) (fun a b c h1 h2 => by simp only [decide_eq_true_eq] at *; omega) (fun a b => by simp only [Bool.or_eq_true, decide_eq_true_eq]; omega) ns
  exact this.imp fun h => by simpa using h
theorem sort_uniq {a b : List Int} (h : a.Perm b) (ha : a.Pairwise (· ≤ ·)) (hb : b.Pairwise (· ≤ ·)) : a = b :=
  h.eq_of_pairwise (fun x y _ _ h1 h2 => by omega) ha hb
theorem kyI_all : ∀ {kvs : List (Ky × D)} {ns : List Int}, allI (fun kv : Ky × D => kyI kv.1) kvs = some ns → kvs.map (·.1) = ns.map Sum.inl
  | [], ns, h => by cases h; rfl
  | kv :: kvs, ns, h => by
    unfold allI at h
    split at h
    · rename_i i l h1 h2
      cases h
      have : kv.1 = .inl i := by
        cases e : kv.1 with
        | inl j => rw [e] at h1; cases h1; rfl
        | inr j => rw [e] at h1; cases h1
      rw [List.map_cons, List.map_cons, this, kyI_all h2]
    · cases h
theorem ints_reps {ρ Z : List Addr} : ∀ (ns : List Int), RepSs K ρ Z H (ns.map D.int) (ns.map V.int)
  | [] => rfl
  | n :: ns => ⟨_, _, rfl, rfl, ints_reps ns⟩
def rDsort : List V → Hp → VK → Prop := fun xs H Q => ∃ (a : Addr) (kvs : List (Key × V)) (ks : List Int), xs = [.ref a] ∧ Rd H a (.dK kvs) ∧ kvs.map (·.1) = ks.map Sum.inl ∧ ks.length < 64 ∧
  ∀ (ys : List Int) (p : Addr), ys.Perm ks → ys.Pairwise (· ≤ ·) → H p = none → Q (.ref p) (upd H p (.lst (ys.map V.int)))
theorem dsort_of {m0 : M D} {t0 : TE} (h0 : ∀ σ H Q, simE K W m0 σ H Q → t0 σ H Q) {Q : VK} (h : simE K W (m0.bind dsortM) σ H Q) : tCons t0 tNil σ H fun vs H1 => rDsort vs H1 Q := by
  obtain ⟨ρ, Z, S, en, F, ⟨k, r⟩, h⟩ := h
  refine h0 σ H _ (Sim.start k r (Le.refl F) h.bind fun x en1 S1 q1 ρ1 Z1 vx H1 k1 r1 => ?_)
  unfold dsortM at q1
  cases e0 : dicAt S1 x with
  | none => rw [e0] at q1; exact q1.elim
  | some p =>
    rw [e0] at q1
    obtain ⟨n, kvs⟩ := p
    simp only at q1
    cases e1 : allI (fun kv : Ky × D => kyI kv.1) kvs with
    | none => rw [e1] at q1; exact q1.elim
    | some ns =>
      rw [e1] at q1
      simp only at q1
      by_cases h64 : ns.length < 64
      · rw [if_pos h64] at q1
        have rx : Rep K ρ1 Z1 H1 x vx := r1.fr (vx, x) List.mem_cons_self
        obtain ⟨a, vs, rfl, y1, y2, y3, y4⟩ := dic_rd r1 rx e0
        have hl := y4.length
        rw [List.length_map] at hl
        refine ⟨a, _, ns, rfl, .inl y3, ?_, h64, fun ys p hp hs hn => ?_⟩
        · rw [← kyI_all e1, List.map_fst_zip (by rw [List.length_map]; omega)]
        · have : ys = sortI ns := sort_uniq (hp.trans (sortI_perm ns).symm) hs (sortI_sorted ns)
          rw [this]
          exact q1 ρ1 Z1 _ _ k1 ((r1.le le_drop).pushOwn hn (ints_reps _))
      · rw [if_neg h64] at q1; exact q1.elim
/-! ### xs.extend(ys) -/
theorem ext_of {i : Nat} {m1 : M D} {t1 : TE} (h1 : ∀ σ H Q, simE K W m1 σ H Q → t1 σ H Q) {Q : VK} (h : simE K W ((getV i).bind fun d0 => (lookL d0).bind fun _ => m1.bind fun d => extM i d) σ H Q) :
    tVar i σ H fun x H1 => tyV K "list" x H1 ∧ tCons t1 tNil σ H1 fun ws H2 => rExtend x ws H2 Q := by
  obtain ⟨ρ, Z, S, en, F, ⟨k, r⟩, h⟩ := h
  obtain ⟨d0, e0, h⟩ := getV_ok h.bind
  obtain ⟨v, hv, hm⟩ := slot_v k e0
  obtain ⟨ht, h⟩ := look_ok r (r.fr (v, d0) (List.mem_append_left _ hm)) h.bind
  refine ⟨v, hv, ht, ?_⟩
  refine h1 σ H _ (Sim.start k r (Le.refl F) (Post.bind h) fun d en1 S1 q ρ1 Z1 w H1 k1 r1 => ?_)
  unfold extM at q
  split at q
  · rename_i xs ys e
    split at q
    · rename_i hz
      obtain ⟨v', hv', hm'⟩ := slot_v k1 e
      rw [hv] at hv'; cases hv'
      obtain ⟨b, zs, rfl, hb, yb⟩ := (show Rep K ρ1 Z1 H1 (.own ys) w from r1.fr (w, .own ys) List.mem_cons_self)
      obtain ⟨l, vs, rfl, hl, yl⟩ := (show Rep K ρ1 Z1 H1 (.own xs) v from r1.fr (v, .own xs) (List.mem_cons_of_mem _ (List.mem_append_left _ hm')))
      refine ⟨l, b, vs, zs, rfl, rfl, hl, hb, by rw [yl.length, yb.length, big_eq]; exact hz, ?_⟩
      have r2 := (r1.le le_drop).le (le_move (G := F) k1 e hv)
      have r3 := r2.changeOwn (yl.append yb)
      refine q ρ1 Z1 .non _ (k1.re e _) ((r3.le ?_).push rfl)
      have := le_back (σ := σ) (en := en1.set i none) (i := i) (v := .ref l) (d := .own (xs ++ ys)) (G := F) (k1.wipe i) (by simpa using lt_of_get? e) hv
      simpa using this
    · exact q.elim
  · exact q.elim
end
theorem pe_ext {X : Cx} {o a : Expr} {apos cpos : Pos} {to ta : TE} (hline : (apos.endLine == cpos.line) = true) (hb : ∀ x p pos, o ≠ .Call (.Name x p) [] [] pos) (st : isStar a = false) (ho : PE X o to) (ha : PE X a ta) :
    PE X (.Call (.Attribute o "extend" apos) [a] [] cpos) (fun σ H Q => to σ H fun x H1 => tyV (KX X pn) "list" x H1 ∧ tCons ta tNil σ H1 fun ws H2 => rExtend x ws H2 Q) := by
  have st' : ∀ e ∈ [a], isStar e = false := fun e he => by rw [List.mem_singleton.mp he]; exact st
  exact PE.by (pe_bm PySem.F.plainAttrs_list PySem.F.slot_list_extend PySem.F.type_list_extend (r := rExtend) (fun pins s σ H x xs v us Q I rx rs h => mt_extend pins s σ H x xs v us Q I rx rs h) ho (pa_cons ha pa_nil (star_of st _ _)) (list_base hb) (few_of st' (by show 1 < 20; decide)) hline (star_of st _ _) (stars_of (es := []) (fun _ h => by cases h) _ _)) fun _ _ _ q => q
end Mi
end
section
set_option Elab.async false
set_option maxRecDepth 100000
set_option linter.all false
namespace Mi
open PySem PySem.Spec PyProof.Rows L2
variable {pn : Nat → Option (Addr × Obj × HO)}
section
variable {T : Tab} {cf : Calls} {L : LC} {X : Cx} {W : MW}
def isCmpE : Expr → Bool
  | .Compare _ _ _ _ => true
  | _ => false
theorem PK.by {X : Cx} {e : List Keyword} {t t' : TA} (h : PK X e t) (k : ∀ σ H Q, t' σ H Q → t σ H Q) : PK X e t' := ⟨fun pos pins s σ H Q I q => h.run pos pins s σ H Q I (k σ H Q q)⟩
theorem PW.by {X : Cx} {e : Expr} {t t' : TT} (h : PW X e t) (k : ∀ σ H Q, t' σ H Q → t σ H Q) : PW X e t' := ⟨fun wh pins s σ H Q I q => h.run wh pins s σ H Q I (k σ H Q q)⟩
def isBoolE : Expr → Bool
  | .BoolOp _ _ _ => true
  | _ => false
theorem plain_nb {e : Expr} (h : isPlainE e = true) : ¬ isBoolE e = true := by
  cases e <;> first | (intro z; cases z; done) | cases h
theorem leafT {e : Expr} {m : M D} (hp : isPlainE e = true) (he : PE X e (simE (KX X pn) W m)) : PT X e (simT (KX X pn) W (m.bind fun d => truM d)) :=
  PT.by (pt_truth he (plain_test (fun x p z => by subst z; cases hp) (fun o l p z => by subst z; cases hp) (fun a b c p z => by subst z; cases hp) (fun a o l p z => by subst z; cases hp) X.env)) fun σ H Q q => tru_of (fun _ _ _ h => h) q
abbrev tPT (K : KC) (p : P) (ts : List TE) : TT := fun σ H Q => tAll ts σ H fun vs H' => rP K p vs H' fun v H2 => ∃ k, v = .bl k ∧ Q k H2
theorem add_rflT {t : TE} {R : V → Hp → Prop} {σ : L2.St} {H : Hp} (q : t σ H R) : t σ H fun x H1 => V.non = V.non ∧ R x H1 := add_rfl q
theorem inB {n : Bool} {a b d : D} (h : pIn n a b = some d) : ∃ c, d = .bl c := by
  unfold pIn at h
  split at h
  · split at h <;> first | (cases h; exact ⟨_, rfl⟩) | cases h
  · split at h
    · split at h <;> first | (cases h; exact ⟨_, rfl⟩) | cases h
    · cases h
/-- a comparison of one sign, as a test -/
theorem CtxOk.primT (c : CtxOk T cf L X W) {p : P} {e : Expr} {k : List Expr → Bool} (h : okP T L p e k = true) (hc : isCmpE e = true) :
    (∃ l, k l = true ∧ ((∀ e ∈ l, isStar e = false) → ∀ ts, Reads' X l ts → PT X e (tPT (KX X pn) p ts))) ∧ ∀ ds d, primF p ds = some d → ∃ b, d = .bl b := by
  have inn : ∀ {q : P} {n : Bool}, (∀ ds d, primF q ds = some d → ∃ a b, ds = [a, b] ∧ pIn n a b = some d) → ∀ ds d, primF q ds = some d → ∃ b, d = .bl b := by
    intro q n hq ds d hd
    obtain ⟨a, b, rfl, h⟩ := hq ds d hd
    exact inB h
  unfold okP at h
  split at h <;> first | (cases hc; done) | skip
  · exact ⟨⟨_, h, fun _ ts r => by obtain ⟨t, u, rfl, ha, hb⟩ := rd2 r; exact PT.by (pt_cmpR (op_eq_P c.hu) ha hb (nomark _)) fun _ _ _ q => q⟩, cmp_bl (o := .Eq) rfl⟩
  · exact ⟨⟨_, h, fun _ ts r => by obtain ⟨t, u, rfl, ha, hb⟩ := rd2 r; exact PT.by (pt_cmpR (op_ne_P c.hu) ha hb (nomark _)) fun _ _ _ q => q⟩, cmp_bl (o := .NotEq) rfl⟩
  · exact ⟨⟨_, h, fun _ ts r => by obtain ⟨t, u, rfl, ha, hb⟩ := rd2 r; exact PT.by (pt_cmpR op_lt_P ha hb (nomark _)) fun _ _ _ q => q⟩, cmp_bl (o := .Lt) rfl⟩
  · exact ⟨⟨_, h, fun _ ts r => by obtain ⟨t, u, rfl, ha, hb⟩ := rd2 r; exact PT.by (pt_cmpR op_le_P ha hb (nomark _)) fun _ _ _ q => q⟩, cmp_bl (o := .LtE) rfl⟩
  · exact ⟨⟨_, h, fun _ ts r => by obtain ⟨t, u, rfl, ha, hb⟩ := rd2 r; exact PT.by (pt_cmpR op_gt_P ha hb (nomark _)) fun _ _ _ q => q⟩, cmp_bl (o := .Gt) rfl⟩
  · exact ⟨⟨_, h, fun _ ts r => by obtain ⟨t, u, rfl, ha, hb⟩ := rd2 r; exact PT.by (pt_cmpR op_ge_P ha hb (nomark _)) fun _ _ _ q => q⟩, cmp_bl (o := .GtE) rfl⟩
  · have h' := Bool.and_eq_true_iff.mp h
    refine ⟨⟨_, h'.2, fun _ ts r => by obtain ⟨t, u, rfl, ha, hb⟩ := rd2 r; exact PT.by (pt_cmpR (op_in_P c.hu) ha hb (by simpa using h'.1)) fun _ _ _ q => q⟩, inn (n := false) fun ds d hd => ?_⟩
    match ds, hd with
    | [a, b], hd => exact ⟨a, b, rfl, hd⟩
  · have h' := Bool.and_eq_true_iff.mp h
    refine ⟨⟨_, h'.2, fun _ ts r => by obtain ⟨t, u, rfl, ha, hb⟩ := rd2 r; exact PT.by (pt_cmpR (op_notin_P c.hu) ha hb (by simpa using h'.1)) fun _ _ _ q => q⟩, inn (n := true) fun ds d hd => ?_⟩
    match ds, hd with
    | [a, b], hd => exact ⟨a, b, rfl, hd⟩
  · refine ⟨⟨_, h, fun _ ts r => ?_⟩, fun ds d hd => ?_⟩
    · obtain ⟨t, rfl, ha⟩ := rd1 r
      exact PT.by (pt_cmpR op_isN_P ha pe_non (nomark _)) fun σ H Q q => add_rflT q
    · match ds, hd with
      | [a], hd => cases hd; exact ⟨_, rfl⟩
  · refine ⟨⟨_, h, fun _ ts r => ?_⟩, fun ds d hd => ?_⟩
    · obtain ⟨t, rfl, ha⟩ := rd1 r
      exact PT.by (pt_cmpR op_notN_P ha pe_non (nomark _)) fun σ H Q q => add_rflT q
    · match ds, hd with
      | [a], hd => cases hd; exact ⟨_, rfl⟩
  · cases h
theorem okP_plain {p : P} {e : Expr} {k : List Expr → Bool} (h : okP T L p e k = true) (hc : isCmpE e = false) : isPlainE e = true := by
  unfold okP at h
  split at h <;> first | rfl | (cases hc; done) | cases h
theorem name_plain {i : Nat} {e : Expr} (h : okN L i e = true) : isPlainE e = true := by
  cases e <;> first | rfl | cases h
theorem k_plain {d : D} {e : Expr} (h : okK T L d e = true) : isPlainE e = true := by
  cases e <;> first | rfl | cases h
theorem bind_ok {α β : Type} {m : M α} {f : α → M β} {en en2 : Env} {S S2 : Sto} {b : β} (h : M.bind m f en S = .ok b en2 S2) : ∃ a en1 S1, m en S = .ok a en1 S1 ∧ f a en1 S1 = .ok b en2 S2 := by
  unfold M.bind R.bind at h
  cases e : m en S with
  | ok a en1 S1 => rw [e] at h; exact ⟨a, en1, S1, rfl, h⟩
  | exc x en1 S1 => rw [e] at h; cases h
  | stuck => rw [e] at h; cases h
theorem primM_bl {p : P} (hp : ∀ ds d, primF p ds = some d → ∃ b, d = .bl b) {ds : List D} {en en2 : Env} {S S2 : Sto} {d : D} (h : primM p ds en S = .ok d en2 S2) : ∃ b, d = .bl b := by
  unfold primM at h
  cases e : primF p (ds.map (derefD S)) with
  | none => rw [e] at h; cases h
  | some d' => rw [e] at h; cases h; exact hp _ _ e
/-- a test of two comparisons -/
theorem chainT_of {K : KC} {p q : P} (hp : ∀ ds d, primF p ds = some d → ∃ b, d = .bl b) (hq : ∀ ds d, primF q ds = some d → ∃ b, d = .bl b) {a b c : M D} {σ : L2.St} {H : Hp} {Q : Bool → Hp → Prop}
    (h : simT K W ((a.bind fun x => b.bind fun y => (primM p [x, y]).bind fun z => (match z with
      | .bl k => if k then c.bind fun w => primM q [y, w] else .ret (.bl false)
      | _ => .stuck)).bind fun d => truM d) σ H Q) : tTest (tChain (rP2 K p) (rP2 K q) (simE K W a) (simE K W b) (simE K W c)) σ H Q := by
  refine chain_of hp (fun _ _ _ h => h) (fun _ _ _ h => h) (fun _ _ _ h => h) ?_
  obtain ⟨ρ, Z, S, en, F, k, h⟩ := h
  refine ⟨ρ, Z, S, en, F, k, ?_⟩
  -- every value is a bool
  have vb : ∀ d en1 S1, (a.bind fun x => b.bind fun y => (primM p [x, y]).bind fun z => (match z with
      | .bl k => if k then c.bind fun w => primM q [y, w] else .ret (.bl false)
      | _ => .stuck)) en S = .ok d en1 S1 → ∃ b, d = .bl b := by
    intro d en1 S1 e
    obtain ⟨x, en2, S2, _, e⟩ := bind_ok e
    obtain ⟨y, en3, S3, _, e⟩ := bind_ok e
    obtain ⟨z, en4, S4, ez, e⟩ := bind_ok e
    obtain ⟨kk, rfl⟩ := primM_bl hp ez
    cases kk with
    | false => cases e; exact ⟨_, rfl⟩
    | true =>
      obtain ⟨w, en5, S5, _, e⟩ := bind_ok (show M.bind c _ en4 S4 = _ from e)
      exact primM_bl hq e
  have h1 := Post.bind h
  generalize hm : (a.bind fun x => b.bind fun y => (primM p [x, y]).bind fun z => (match z with
      | .bl k => if k then c.bind fun w => primM q [y, w] else .ret (.bl false)
      | _ => .stuck)) en S = res at h1
  cases res with
  | ok d en1 S1 =>
    obtain ⟨b, rfl⟩ := vb _ _ _ hm
    exact fun ρ1 Z1 v H1 k1 r1 => ⟨b, (r1.fr _ List.mem_cons_self : Rep K ρ1 Z1 H1 (.bl b) v).bl, h1.ok ρ1 Z1 H1 k1 (r1.le le_drop)⟩
  | exc x en1 S1 => exact h1
  | stuck => exact h1
def g0R : G → TG
  | .nm i => gName i
  | _ => fun _ _ _ _ => False
def g0sR : List G → TGs
  | [] => gNil
  | g :: gs => gCons (g0R g) (g0sR gs)
def gcR (K : KC) : G → TG
  | .tp gs => gTup K gs.length (g0sR gs)
  | g => g0R g
theorem g0_of {vs : List Nat} (c : CtxOk T cf L X W) : ∀ {g : G} {e : Expr}, okG0 L vs g e = true → ∃ i, g = .nm i ∧ i ∈ vs ∧ PG X e (gName i) := by
  intro g e h
  cases g <;> cases e <;> first | (cases h; done) | skip
  rename_i i x pos
  simp only [okG0, Bool.and_eq_true, decide_eq_true_eq, List.contains_iff_mem] at h
  obtain ⟨⟨h1, h2⟩, h3⟩ := h
  exact ⟨i, rfl, h3, pg_name c.nd (by rw [c.N]; exact h1) (c.loc h2).1 (c.loc h2).2⟩
theorem asg_map {e : Expr} {es : List Expr} (h : isStar e = false) (env : PySem.Env) : (assignEach (e :: es) env).map (·.2) = assign e env :: (assignEach es env).map (·.2) := by
  cases e <;> first | rfl | cases h
theorem g0s_of {vs : List Nat} (c : CtxOk T cf L X W) : ∀ {gs : List G} {es : List Expr}, okG0s L vs gs es = true → PGs X es (g0sR gs) ∧ Keepss vs (g0sR gs) ∧ MonoGs (g0sR gs) ∧ (∀ K v σ H Q, simGs K (asgGs cf gs) v σ H Q → g0sR gs v σ H Q) ∧ es.length = gs.length ∧ ∀ e ∈ es, isStar e = false
  | [], [], _ => ⟨pgs_nil, keeps_nil, mono_nil, fun _ _ _ _ _ q => g_nil q, rfl, fun _ h => by cases h⟩
  | [], _ :: _, h => by cases h
  | _ :: _, [], h => by cases h
  | g :: gs, e :: es, h => by
    have h' := Bool.and_eq_true_iff.mp (show (okG0 L vs g e && okG0s L vs gs es) = true from h)
    obtain ⟨i, rfl, hi, hg⟩ := g0_of c h'.1
    obtain ⟨hu, hk, hm, hs, hl, hst⟩ := g0s_of c h'.2
    have st : isStar e = false := by cases e <;> first | rfl | cases h'.1
    refine ⟨pgs_cons hg hu (asg_map st _), keeps_cons (keeps_name hi) mono_name hk hm, mono_cons mono_name hm, fun K v σ H Q q => g_cons (m := fun d => setV i d) (ms := asgGs cf gs) (fun _ _ _ _ q => g_name q) (hs K) q, by simp [hl], fun x hx => ?_⟩
    rcases List.mem_cons.mp hx with hx | hx
    · rw [hx]; exact st
    · exact hst x hx
theorem asg_len {es : List Expr} (env : PySem.Env) (h : ∀ e ∈ es, isStar e = false) : (assignEach es env).length = es.length ∧ (assignEach es env).findIdx? (·.1) = none := by
  induction es with
  | nil => exact ⟨rfl, rfl⟩
  | cons e es ih =>
    have st := h e List.mem_cons_self
    obtain ⟨h1, h2⟩ := ih fun x hx => h x (List.mem_cons_of_mem _ hx)
    have e1 : assignEach (e :: es) env = (false, assign e env) :: assignEach es env := by cases e <;> first | rfl | cases st
    rw [e1]
    refine ⟨by simp [h1], ?_⟩
    rw [List.findIdx?_cons]
    simp [h2]
theorem gc_of {vs : List Nat} (c : CtxOk T cf L X W) {g : G} {e : Expr} (h : okGc L vs g e = true) : PG X e (gcR (KX X pn) g) ∧ Keeps vs (gcR (KX X pn) g) ∧ ∀ v σ H Q, simG (KX X pn) (asgG cf g) v σ H Q → gcR (KX X pn) g v σ H Q := by
  unfold okGc at h
  split at h
  · obtain ⟨hu, hk, hm, hs, hl, hst⟩ := g0s_of c h
    rename_i gs es kk pos
    obtain ⟨h1, h2⟩ := asg_len X.env hst
    exact ⟨pg_tup c.calm hu (h1.trans hl) h2, keeps_tup hk, fun v σ H Q q => g_tup (hs (KX X pn)) q⟩
  · obtain ⟨i, rfl, hi, hg⟩ := g0_of c h
    exact ⟨hg, keeps_name hi, fun v σ H Q q => g_name q⟩
theorem g0s_keep {vs : List Nat} : ∀ {gs : List G} {es : List Expr}, okG0s L vs gs es = true → Keepss vs (g0sR gs) ∧ MonoGs (g0sR gs) ∧ ∀ K v σ H Q, simGs K (asgGs cf gs) v σ H Q → g0sR gs v σ H Q
  | [], [], _ => ⟨keeps_nil, mono_nil, fun _ _ _ _ _ q => g_nil q⟩
  | [], _ :: _, h => by cases h
  | _ :: _, [], h => by cases h
  | g :: gs, e :: es, h => by
    have h' := Bool.and_eq_true_iff.mp (show (okG0 L vs g e && okG0s L vs gs es) = true from h)
    obtain ⟨hk, hm, hs⟩ := g0s_keep h'.2
    have h1 := h'.1
    cases g <;> cases e <;> first | (cases h1; done) | skip
    simp only [okG0, Bool.and_eq_true, decide_eq_true_eq, List.contains_iff_mem] at h1
    rename_i i x pos
    exact ⟨keeps_cons (keeps_name h1.2) mono_name hk hm, mono_cons mono_name hm, fun K v σ H Q q => g_cons (m := fun d => setV i d) (ms := asgGs cf gs) (fun _ _ _ _ q => g_name q) (hs K) q⟩
theorem gc_keep {K : KC} {vs : List Nat} {g : G} {e : Expr} (h : okGc L vs g e = true) : Keeps vs (gcR K g) ∧ ∀ v σ H Q, simG K (asgG cf g) v σ H Q → gcR K g v σ H Q := by
  unfold okGc at h
  split at h
  · obtain ⟨hk, hm, hs⟩ := g0s_keep (cf := cf) h
    exact ⟨keeps_tup hk, fun v σ H Q q => g_tup (hs K) q⟩
  · cases g <;> cases e <;> first | (cases h; done) | skip
    simp only [okG0, Bool.and_eq_true, decide_eq_true_eq, List.contains_iff_mem] at h
    exact ⟨keeps_name h.2, fun v σ H Q q => g_name q⟩
theorem PI.by {X : Cx} {tg e : Expr} {t t' : TI} (h : PI X tg e t) (k : ∀ σ H R, t' σ H R → t σ H R) : PI X tg e t' := ⟨fun pins s σ H R I q => h.run pins s σ H R I (k σ H R q)⟩
theorem folded_of {e : Expr} (h : isSet e = false) (env : PySem.Env) (x : Value) : foldedSetIterable e env x = pure x := by
  cases e <;> first | rfl | cases h
theorem pi_seq {X : Cx} {W : MW} {tg e : Expr} {m : M D} (h : PE X e (simE (KX X pn) W m)) : PI X tg e (simI (KX X pn) W (m.bind fun d => M.opt (seqItems d))) := ⟨fun pins s σ H R I q => by
  rcases seq_of (fun _ _ _ q => q) q with q | q | q
  · exact (pi_list h).run pins s σ H R I q
  · exact (pi_tup h).run pins s σ H R I q
  · exact (pi_str h).run pins s σ H R I q⟩
theorem tests1 {K : KC} {m : M Bool} {σ : L2.St} {H : Hp} {Q : Bool → Hp → Prop} (h : simT K W (m.bind fun b => if b then .ret true else .ret false) σ H Q) : simT K W m σ H Q := by
  obtain ⟨ρ, Z, S, en, F, k, h⟩ := h
  refine ⟨ρ, Z, S, en, F, k, (Post.bind h).imp (Le.refl F) fun b en1 S1 q => ?_⟩
  cases b
  · exact q.ok
  · exact q.ok
/-- what a comprehension's rule asks -/
structure LcOk (X : Cx) (x t i : Expr) (fs : List Expr) (scope : Scope) (own : List Nat) (wi : TI) (g : TG) (tt : TT) (te : TE) : Prop where
  pi : PI X t i wi
  ok : ∃ o : List (Str × Nat), o.map (·.2) = own ∧ BlkOk X.N X.env.scope scope o
  pg : ∀ (s : Shared) (H : Hp) (C : Addr) (cl : List (Str × Addr)) (fp : List Addr), PG (X.blk s H scope (compEnvC scope cl C X.env) fp) t g
  pt : ∀ (s : Shared) (H : Hp) (C : Addr) (cl : List (Str × Addr)) (fp : List Addr), PTs (X.blk s H scope (compEnvC scope cl C X.env) fp) fs tt
  pe : ∀ (s : Shared) (H : Hp) (C : Addr) (cl : List (Str × Addr)) (fp : List Addr), PE (X.blk s H scope (compEnvC scope cl C X.env) fp) x te
end
section
variable {T : Tab} {cf : Calls}
/-- an operand's reading -/
theorem op_cons {L : LC} {X : Cx} {W : MW} {pn : Nat → Option (Addr × Obj × HO)} (c : CtxOk T cf L X W) {E1 : E} {Es : List E} {e : Expr} {l : List Expr} {b : Bool} (he : okE T L E1 b e = true) (hE : PE X e (simE (KX X pn) W (ev cf E1)))
    (hr : ∃ ts, Reads' X l ts ∧ ∀ σ H Q, simOs (KX X pn) W (ops cf Es) σ H Q → tAll ts σ H Q) : ∃ ts, Reads' X (e :: l) ts ∧ ∀ σ H Q, simOs (KX X pn) W (ops cf (E1 :: Es)) σ H Q → tAll ts σ H Q := by
  obtain ⟨ts, h1, h2⟩ := hr
  by_cases hv : ∃ i, E1 = .v i
  · obtain ⟨i, rfl⟩ := hv
    exact ⟨tVar i :: ts, .cons (c.name he) h1, fun σ H Q q => os_var (ms := ops cf Es) h2 q⟩
  · refine ⟨simE (KX X pn) W (ev cf E1) :: ts, .cons hE h1, fun σ H Q q => os_cons (m := ev cf E1) (ms := ops cf Es) (fun _ _ _ q => q) h2 ?_⟩
    have : ops cf (E1 :: Es) = (ev cf E1).bind fun d => (ops cf Es).bind fun ds => .ret (d :: ds) := by
      show opB E1 (ev2 cf E1).1 (ops cf Es) = _
      unfold opB
      split
      · exact absurd ⟨_, rfl⟩ hv
      · rfl
    rwa [this] at q
theorem op_pa {L : LC} {X : Cx} {W : MW} {pn : Nat → Option (Addr × Obj × HO)} (c : CtxOk T cf L X W) {E1 : E} {Es : List E} {e : Expr} {l : List Expr} {b : Bool} (he : okE T L E1 b e = true) (hst : isStar e = false) (hE : PE X e (simE (KX X pn) W (ev cf E1)))
    (hr : PA X l (simOs (KX X pn) W (ops cf Es))) : PA X (e :: l) (simOs (KX X pn) W (ops cf (E1 :: Es))) := by
  by_cases hv : ∃ i, E1 = .v i
  · obtain ⟨i, rfl⟩ := hv
    exact PA.by (pa_cons (c.name he) hr (star_of hst _ _)) fun σ H Q q => os_var (ms := ops cf Es) (fun _ _ _ q => q) q
  · refine PA.by (pa_cons hE hr (star_of hst _ _)) fun σ H Q q => os_cons (m := ev cf E1) (ms := ops cf Es) (fun _ _ _ q => q) (fun _ _ _ q => q) ?_
    have : ops cf (E1 :: Es) = (ev cf E1).bind fun d => (ops cf Es).bind fun ds => .ret (d :: ds) := by
      show opB E1 (ev2 cf E1).1 (ops cf Es) = _
      unfold opB
      split
      · exact absurd ⟨_, rfl⟩ hv
      · rfl
    rwa [this] at q
/-- a place's reading -/
theorem pl_of {L : LC} {X : Cx} {W : MW} {pn : Nat → Option (Addr × Obj × HO)} (c : CtxOk T cf L X W) {E1 : E} {e : Expr} {b : Bool} (he : okE T L E1 b e = true) (hE : PE X e (simE (KX X pn) W (ev cf E1))) : ∃ t, PE X e t ∧
    ((∃ i, E1 = .v i ∧ t = tVar i) ∨ ((∀ i, E1 ≠ .v i) ∧ t = simE (KX X pn) W (ev cf E1))) := by
  by_cases hv : ∃ i, E1 = .v i
  · obtain ⟨i, rfl⟩ := hv
    exact ⟨tVar i, c.name he, .inl ⟨i, rfl, rfl⟩⟩
  · exact ⟨_, hE, .inr ⟨fun i h => hv ⟨i, h⟩, rfl⟩⟩
/-- of a leaf -/
theorem leaf2 {X : Cx} {W : MW} {e : Expr} {m : M D} (b : Bool) (hp : isPlainE e = true) (he : PE X e (simE (KX X pn) W m)) :
    (b = false → PE X e (simE (KX X pn) W m)) ∧ (b = true → PT X e (simT (KX X pn) W (m.bind fun d => truM d)) ∧ (isBoolE e = true → PW X e (simT (KX X pn) W (m.bind fun d => truM d)))) :=
  ⟨fun _ => he, fun _ => ⟨leafT hp he, fun h => absurd h (plain_nb hp)⟩⟩
theorem pl1_exp {E1 : E} (h : ∀ i, E1 ≠ .v i) (m : M D) : pl1 E1 m = (m.bind fun d => .ret (some d)) := by
  unfold pl1
  split
  · exact absurd rfl (h _)
  · rfl
theorem slot_exp {E1 : E} (h : ∀ i, E1 ≠ .v i) : slotOf E1 = none := by
  unfold slotOf
  split
  · exact absurd rfl (h _)
  · rfl
theorem mut_all {L : LC} {X : Cx} {W : MW} {pn : Nat → Option (Addr × Obj × HO)} (c : CtxOk T cf L X W) {m : Mu} {tgt : E} {es : List E} {o : Expr} {l : List Expr} {apos cpos : Pos} (h1 : okMu m l.length = true) (h2 : (apos.endLine == cpos.line) = true) (h3 : isCall0 o = false) (h4 : okE T L tgt false o = true) (h5 : okEs T L es l = true)
    (hE : PE X o (simE (KX X pn) W (ev cf tgt))) (hA : PA X l (simAs (KX X pn) W (evs cf es))) : PE X (.Call (.Attribute o (meOf m) apos) l [] cpos) (simE (KX X pn) W (ev cf (.mut m tgt es))) := by
  obtain ⟨t, ht, hh⟩ := pl_of c h4 hE
  have hm : (meOf m == ("" : Str)) = false := by cases m <;> first | (decide +kernel) | (simp [okMu] at h1)
  have hl : l.length < 20 := by
    cases m <;> simp only [okMu, beq_iff_eq] at h1 <;> first | omega | (cases h1; done)
  have hb : ∀ x p pos, o ≠ .Call (.Name x p) [] [] pos := fun x p pos e => by subst e; cases h3
  have n2 : l ≠ [] → m ≠ .pop ∧ m ≠ .extend := fun hn => by
    cases m <;> simp [okMu] at h1 <;> simp_all
  -- the arguments' reading: none where there are none
  have fin : ∀ ta : TA, PA X l ta → (∀ σ H Q, simAs (KX X pn) W (evs cf es) σ H Q → ta σ H Q) → (l = [] → m = .pop ∧ ta = tNil) → PE X (.Call (.Attribute o (meOf m) apos) l [] cpos) (simE (KX X pn) W (ev cf (.mut m tgt es))) := by
    intro ta pa ha ne
    refine PE.by (mut_call (pn := pn) hm h2 hl hb (okEs_star h5) ht pa ne n2) fun σ H Q q => ?_
    rcases hh with ⟨i, rfl, rfl⟩ | ⟨hv, rfl⟩
    · exact mut_var (ms := evs cf es) ha q
    · have e : ev cf (.mut m tgt es) = (((ev cf tgt).bind fun d => .ret (some d)).bind fun r => (lookP none r).bind fun _ => (evs cf es).bind fun as => (match r with
          | none => (match (none : Option Nat) with
            | some i => (getV i).bind fun d0 => mutM m d0 (some i) (as.map D.hard)
            | none => .stuck)
          | some d0 => mutM m d0 none (as.map D.hard))) := by
        show ((pl1 tgt (ev2 cf tgt).1).bind fun r => (lookP (slotOf tgt) r).bind fun _ => (evs cf es).bind fun as => (match r with
          | none => (match slotOf tgt with
            | some i => (getV i).bind fun d0 => mutM m d0 (some i) (as.map D.hard)
            | none => .stuck)
          | some d0 => mutM m d0 none (as.map D.hard))) = _
        rw [pl1_exp hv, slot_exp hv]
      rw [e] at q
      exact mut_exp (slot := none) (m0 := ev cf tgt) (ms := evs cf es) (fun _ _ _ q => q) ha q
  cases l with
  | nil =>
    have : es = [] := by
      cases es with
      | nil => rfl
      | cons => cases h5
    subst this
    refine fin tNil (pa_nil) (fun σ H Q q => as_nil q) fun _ => ⟨?_, rfl⟩
    cases m <;> first | rfl | (simp [okMu] at h1)
  | cons e es => exact fin _ hA (fun _ _ _ q => q) fun h => by cases h
theorem okEs_len {L : LC} : ∀ {es : List E} {l : List Expr}, okEs T L es l = true → es.length = l.length
  | [], [], _ => rfl
  | [], _ :: _, h => by cases h
  | _ :: _, [], h => by cases h
  | E :: es, e :: l, h => by
    replace h : (okE T L E false e && !isStar e && okEs T L es l) = true := h
    simp only [Bool.and_eq_true] at h
    simp [okEs_len h.2]
theorem meth_all {L : LC} {X : Cx} {W : MW} {pn : Nat → Option (Addr × Obj × HO)} (c : CtxOk T cf L X W) {p : P} {tgt : E} {es : List E} {o : Expr} {l : List Expr} {apos cpos : Pos} (h1 : l.length = mAr p) (h0 : l.length ≠ 0) (h2 : (apos.endLine == cpos.line) = true) (h3 : isCall0 o = false)
    (h4 : (if isM1 p then okKT T L tgt o else okE T L tgt false o) = true) (st : ∀ e ∈ l, isStar e = false) (hE : okE T L tgt false o = true → PE X o (simE (KX X pn) W (ev cf tgt))) (hA : PA X l (simOs (KX X pn) W (ops cf es))) :
    PE X (.Call (.Attribute o (mName p) apos) l [] cpos) (simE (KX X pn) W (ev cf (.meth p tgt es))) := by
  have hp : p = .m 0 ∨ p = .m 1 ∨ p = .m 2 := by
    unfold mAr at h1
    split at h1
    · exact .inl rfl
    · exact .inr (.inl rfl)
    · exact .inr (.inr rfl)
    · exact absurd h1 h0
  obtain ⟨id, pa, sl, ty, mt⟩ := mt_all (pn := pn) c hp
  have hl : l.length < 20 := by rw [h1]; rcases hp with rfl | rfl | rfl <;> decide
  have hb : ∀ x p pos, o ≠ .Call (.Name x p) [] [] pos := fun x p pos e => by subst e; cases h3
  cases l with
  | nil => exact absurd rfl h0
  | cons e r =>
    have s1 := star_of (st e List.mem_cons_self) r X.env
    have s2 := stars_of (fun x hx => st x (List.mem_cons_of_mem _ hx)) X.env cpos
    have rule : ∀ {to : TE}, PE X o to → PE X (.Call (.Attribute o (mName p) apos) (e :: r) [] cpos) (fun σ H Q => to σ H fun x H1 => tyV (KX X pn) (mTy p) x H1 ∧ simOs (KX X pn) W (ops cf es) σ H1 fun ws H2 => rP (KX X pn) p (x :: ws) H2 Q) := fun ho =>
      PE.by (pe_bm pa sl ty mt ho hA (list_base hb) (few_of st hl) h2 s1 s2) fun _ _ _ q => q
    have ex : (∀ i, tgt ≠ .v i) → ev cf (.meth p tgt es) = (((ev cf tgt).bind fun d => .ret (some d)).bind fun r => (lookM p none r).bind fun _ => (ops cf es).bind fun ds => (fin1 none r).bind fun d => primM p (d :: ds)) := fun hv => by
      show ((pl1 tgt (ev2 cf tgt).1).bind fun r => (lookM p (slotOf tgt) r).bind fun _ => (ops cf es).bind fun ds => (fin1 (slotOf tgt) r).bind fun d => primM p (d :: ds)) = _
      rw [pl1_exp hv, slot_exp hv]
    rcases hp with rfl | rfl | rfl
    · have h4 : okE T L tgt false o = true := h4
      obtain ⟨t, ht, hh⟩ := pl_of c h4 (hE h4)
      refine PE.by (rule ht) fun σ H Q q => ?_
      rcases hh with ⟨i, rfl, rfl⟩ | ⟨hv, rfl⟩
      · exact meth_var (ms := ops cf es) (by simp) (fun _ _ _ q => q) q
      · rw [ex hv] at q
        exact meth_exp (slot := none) (m0 := ev cf tgt) (ms := ops cf es) (by simp) (fun _ _ _ q => q) (fun _ _ _ q => q) q
    · have h4 : okKT T L tgt o = true := h4
      obtain ⟨ds, x, pos, rfl, rfl, h'⟩ : ∃ ds x pos, tgt = .k (.tup ds) ∧ o = .Name x pos ∧ (isGl L x = true ∧ (T.consts.any fun p => p.1 == x && D.beq p.2 (.tup ds)) = true) := by
        unfold okKT at h4
        split at h4
        · exact ⟨_, _, _, rfl, rfl, Bool.and_eq_true_iff.mp h4⟩
        · cases h4
      · have hc := h'.2
        simp only [List.any_eq_true, Bool.and_eq_true, beq_iff_eq] at hc
        obtain ⟨q0, hq0, rfl, h6⟩ := hc
        obtain ⟨u, v, hm, hr, hd, hk⟩ := c.con q0 hq0
        have e6 := D.beq_eq _ _ h6
        obtain ⟨a, ob, rfl, k1, k2, k3⟩ := hk ds e6
        rw [e6] at hd
        have g := c.gl h'.1
        refine PE.by (rule (pe_glob g.1 hm hr g.2)) fun σ H Q q => ?_
        rw [ex (by intro i h; cases h)] at q
        exact ⟨.inr (.inl ⟨rfl, ob, k1, k2, k3⟩), meth_const (slot := none) (ms := ops cf es) (hd _) (fun _ _ _ q => q) q⟩
    · have h4 : okE T L tgt false o = true := h4
      obtain ⟨t, ht, hh⟩ := pl_of c h4 (hE h4)
      refine PE.by (rule ht) fun σ H Q q => ?_
      rcases hh with ⟨i, rfl, rfl⟩ | ⟨hv, rfl⟩
      · exact meth_var (ms := ops cf es) (by simp) (fun _ _ _ q => q) q
      · rw [ex hv] at q
        exact meth_exp (slot := none) (m0 := ev cf tgt) (ms := ops cf es) (by simp) (fun _ _ _ q => q) (fun _ _ _ q => q) q
theorem noSl_of {i : Expr} (h : isSlc i = false) : NoSl i := by
  cases i <;> first | (intro _ _; rfl) | cases h
theorem m1_of {X : Cx} {o a : Expr} {m : Str} {apos cpos : Pos} (h1 : (apos.endLine == cpos.line) = true) (h2 : isCall0 o = false) (h3 : isStar a = false) : M1 X o m apos a cpos where
  base := list_base fun x p pos e => by subst e; cases h2
  few := few_of (es := [a]) (fun e he => by rcases List.mem_cons.mp he with rfl | he; exact h3; cases he) (by show 1 < 20; decide)
  line := h1
  trees := by rw [star_of h3]; rfl
/-! ### kept errors -/
theorem isx_of {K : KC} {W : MW} {E : ErrT} {ys ns : List Str} {c : Str} {u : Value} {w : V} (er : ErrOk ⟨K.k, K.mg, noPn⟩ E) (hu : AskV K.mg c u) (hw : ClsV w u) (hak : E.asks.contains c = true) (hy : ∀ z ∈ ys, E.subs.contains (z, c, true) = true ∧ (E.errs.any fun p => p.1 == z) = true) (hn : ∀ z ∈ ns, E.subs.contains (z, c, false) = true ∧ (E.errs.any fun p => p.1 == z) = true)
    {m : M D} {te : TE} (ht : ∀ σ H Q, simE K W m σ H Q → te σ H Q) {σ : L2.St} {H : Hp} {Q : VK} (h : simE K W (m.bind fun d => isxM ys ns d) σ H Q) : tCons te (tCons (tC w) tNil) σ H fun xs H1 => rIsx K.k xs H1 Q := by
  obtain ⟨ρ, Z, S, en, F, ⟨k, r⟩, h⟩ := h
  refine ht σ H _ (Sim.start k r (Le.refl F) h.bind fun d en1 S1 q ρ1 Z1 v H1 k1 r1 => ?_)
  show rIsx K.k [v, w] H1 Q
  have cls : ∀ z (b : Bool), E.subs.contains (z, c, b) = true → (E.errs.any fun p => p.1 == z) = true → ∀ cv, K.mg z = some cv → ∃ C, cv = .ref C ∧ ErrC K.k C ∧ PySem.W.kitOne K.k (.ref C) u = some b := by
    intro z b h1 h2 cv hz
    obtain ⟨u1, a1, e1, e2, _, e4⟩ := er.sb _ (List.contains_iff_mem.mp h1)
    obtain ⟨p, hp, e5⟩ := List.any_eq_true.mp h2
    obtain ⟨C, e6, e7, _⟩ := er.er p hp
    have e5 : p.1 = z := by simpa using e5
    rw [e5, hz] at e6
    cases e6
    replace e1 : K.mg z = some u1 := e1
    rw [hz] at e1
    cases e1
    rw [AskV.one hu e2]
    exact ⟨C, rfl, e7, e4⟩
  cases d with
  | non =>
    obtain ⟨a, ha, hk⟩ := er.ak c (List.contains_iff_mem.mp hak)
    have hv : v = .non := (r1.fr _ List.mem_cons_self : Rep K ρ1 Z1 H1 .non v).non
    subst hv
    refine ⟨.non, w, u, false, rfl, hw, .inl ⟨.type "NoneType", .base .non, by rw [AskV.one hu ha]; exact hk⟩, ?_⟩
    exact q ρ1 Z1 _ H1 k1 ((r1.le le_drop).push rfl)
  | ref n =>
    simp only [isxM] at q
    split at q
    · rename_i cl kk hS
      obtain ⟨a, rfl, hr⟩ := (show RepS K ρ1 Z1 H1 (.ref n) v from r1.fr _ List.mem_cons_self)
      obtain ⟨cv, dd, e1, e2, e3⟩ := r1.so n _ a hS hr
      split at q
      · rename_i hok
        have dk : ∃ fs, dd = none ∨ ∃ da, dd = some da ∧ H1 da = some (.xd fs) := by
          cases kk with
          | none => exact ⟨[], .inl e3⟩
          | some k0 =>
            obtain ⟨da, z1, z2⟩ := e3
            unfold exnOk at hok
            simp only at hok
            split at hok
            · rename_i fs0 hS0
              obtain ⟨us, y1, _⟩ := r1.so k0 _ da hS0 z1
              exact ⟨_, .inr ⟨da, z2, y1⟩⟩
            · cases hok
        obtain ⟨fs, dk⟩ := dk
        split at q
        · rename_i hm
          obtain ⟨C, rfl, ec, hk⟩ := cls cl true (hy cl (List.contains_iff_mem.mp hm)).1 (hy cl (List.contains_iff_mem.mp hm)).2 cv e1
          exact ⟨.ref a, w, u, true, rfl, hw, .inr ⟨a, C, dd, fs, rfl, e2, dk, ec, hk⟩, q ρ1 Z1 _ H1 k1 ((r1.le le_drop).push rfl)⟩
        · split at q
          · rename_i hm
            obtain ⟨C, rfl, ec, hk⟩ := cls cl false (hn cl (List.contains_iff_mem.mp hm)).1 (hn cl (List.contains_iff_mem.mp hm)).2 cv e1
            exact ⟨.ref a, w, u, false, rfl, hw, .inr ⟨a, C, dd, fs, rfl, e2, dk, ec, hk⟩, q ρ1 Z1 _ H1 k1 ((r1.le le_drop).push rfl)⟩
          · exact q.elim
      · exact q.elim
    · exact q.elim
  | _ => exact q.elim
theorem xfld_of {K : KC} {W : MW} {E : ErrT} {cs : List Str} {f : Str} (er : ErrOk ⟨K.k, K.mg, noPn⟩ E) (hc : ∀ z ∈ cs, E.errs.contains (z, some f) = true)
    {m : M D} {te : TE} (ht : ∀ σ H Q, simE K W m σ H Q → te σ H Q) {σ : L2.St} {H : Hp} {Q : VK} (h : simE K W (m.bind fun d => xfldM cs f d) σ H Q) : tXfld K.k f te σ H Q := by
  obtain ⟨ρ, Z, S, en, F, ⟨k, r⟩, h⟩ := h
  refine ht σ H _ (Sim.start k r (Le.refl F) h.bind fun d en1 S1 q ρ1 Z1 v H1 k1 r1 => ?_)
  cases d with
  | ref n =>
    simp only [xfldM] at q
    split at q
    · rename_i cl k0 hS
      split at q
      · rename_i fs0 hS0
        split at q
        · rename_i hm
          obtain ⟨d', e0, q⟩ := q.opt
          obtain ⟨a, rfl, hr⟩ := (show RepS K ρ1 Z1 H1 (.ref n) v from r1.fr _ List.mem_cons_self)
          obtain ⟨cv, dd, e1, e2, da, e3, rfl⟩ := r1.so n _ a hS hr
          obtain ⟨us, y1, y2⟩ := r1.so k0 _ da hS0 e3
          obtain ⟨C, e6, e7, _, e8⟩ := er.er _ (List.contains_iff_mem.mp (hc cl (List.contains_iff_mem.mp hm)))
          replace e6 : K.mg cl = some (.ref C) := e6
          rw [e1] at e6
          cases e6
          have look : ∀ {fs0 : List (Str × D)} {us : List V} {d' : D}, RepSs K ρ1 Z1 H1 (fs0.map (·.2)) us → fs0.lookup f = some d' → ∃ u, ((fs0.map (·.1)).zip us).lookup f = some u ∧ RepS K ρ1 Z1 H1 d' u := by
            intro fs0
            induction fs0 with
            | nil => intro us d' _ e; cases e
            | cons p fs0 ih =>
              intro us d' y e
              obtain ⟨u, r', rfl, h1, h2⟩ := y
              obtain ⟨n', dd'⟩ := p
              by_cases hf : (f == n') = true
              · simp only [List.lookup, hf] at e
                cases e
                exact ⟨u, by simp [List.lookup, hf], h1⟩
              · have hf : (f == n') = false := by simpa using hf
                simp only [List.lookup, hf] at e
                obtain ⟨u', z1, z2⟩ := ih h2 e
                exact ⟨u', by simpa [List.lookup, hf] using z1, z2⟩
          obtain ⟨u, z1, z2⟩ := look y2 e0
          exact ⟨a, C, da, _, u, rfl, e2, y1, e7, e8 f rfl, z1, q ρ1 Z1 u H1 k1 ((r1.le le_drop).push z2)⟩
        · exact q.elim
      · exact q.elim
    · exact q.elim
  | _ => exact q.elim
theorem box_of {K : KC} {W : MW} {m : M D} {σ : L2.St} {H : Hp} {Q : VK} (h : simE K W (m.bind boxM) σ H Q) : simE K W m σ H Q := by
  obtain ⟨ρ, Z, S, en, F, at_, h⟩ := h
  refine ⟨ρ, Z, S, en, F, at_, ?_⟩
  unfold M.bind at h
  cases e : m en S with
  | stuck => rw [e] at h; exact h.elim
  | exc x en1 S1 => rw [e] at h; exact h
  | ok d en1 S1 =>
    rw [e] at h
    intro ρ1 Z1 v H1 k1 r1
    cases d with
    | own ds =>
      obtain ⟨a, rfl, r2⟩ := r1.shelve
      exact h _ _ _ _ k1 r2
    | _ => exact h ρ1 Z1 v H1 k1 r1
mutual
theorem snd2 : ∀ (E1 : E) {L : LC} {X : Cx} {W : MW} {pn : Nat → Option (Addr × Obj × HO)} (c : CtxOk T cf L X W) (b : Bool) (e : Expr), okE T L E1 b e = true → (b = false → PE X e (simE (KX X pn) W (ev cf E1))) ∧ (b = true → PT X e (simT (KX X pn) W (tst cf E1)) ∧ (isBoolE e = true → PW X e (simT (KX X pn) W (tst cf E1))))
  | .v i, L, X, W, pn, c, b, e, h => ⟨fun _ => PE.by (c.name h) sim_use, fun _ => ⟨PT.by (pt_truth (c.name h) (plain_test (fun x p z => by subst z; cases h) (fun o l p z => by subst z; cases h) (fun a b c p z => by subst z; cases h) (fun a o l p z => by subst z; cases h) X.env)) fun σ H Q q => tru_var q, fun z => absurd z (plain_nb (name_plain h))⟩⟩
  | .mv i, L, X, W, pn, c, b, e, h =>
    have p : PE X e (simE (KX X pn) W (ev cf (.mv i))) := PE.by (c.name h) sim_move
    leaf2 b (name_plain h) p
  | .rf i, L, X, W, pn, c, b, e, h =>
    have p : PE X e (simE (KX X pn) W (ev cf (.rf i))) := PE.by (c.name h) sim_ref
    leaf2 b (name_plain h) p
  | .box x, L, X, W, pn, c, b, e, h => by
    have h' := Bool.and_eq_true_iff.mp (show (isBoxE e && okE T L x false e) = true from h)
    have p : PE X e (simE (KX X pn) W (ev cf (.box x))) := PE.by ((snd2 x (pn := pn) c false e h'.2).1 rfl) fun σ H Q q => box_of q
    exact leaf2 b (isBoxE_plain h'.1) p
  | .k d, L, X, W, pn, c, b, e, h =>
    have p : PE X e (simE (KX X pn) W (ev cf (.k d))) := c.const h
    leaf2 b (k_plain h) p
  | .prim p es, L, X, W, pn, c, b, e, h => by
    have h : okP T L p e (okEs T L es) = true := h
    have pe : PE X e (simE (KX X pn) W (ev cf (.prim p es))) := by
      obtain ⟨l, hl, hp⟩ := c.prim h
      obtain ⟨ts, h1, h2⟩ := (sndEs es (pn := pn) c l hl).2.1
      exact PE.by (hp (okEs_star hl) ts h1) fun σ H Q q => h2 σ H _ (prim_of (ms := ops cf es) q)
    cases hc : isCmpE e with
    | false => exact leaf2 b (okP_plain h hc) pe
    | true =>
      refine ⟨fun _ => pe, fun _ => ⟨?_, fun z => by cases e <;> first | (cases hc; done) | cases z⟩⟩
      obtain ⟨⟨l, hl, hp⟩, hb⟩ := c.primT h hc
      obtain ⟨ts, h1, h2⟩ := (sndEs es (pn := pn) c l hl).2.1
      exact PT.by (hp (okEs_star hl) ts h1) fun σ H Q q => h2 σ H _ (primT_of (ms := ops cf es) hb q)
  | .chain p q x y z, L, X, W, pn, c, b, e, h => by
    cases e <;> first | (cases h; done) | skip
    rename_i a0 os l pos
    match os, l, h with
    | [o1, o2], [y', z'], h =>
      replace h : (decide (cmpOp p = some o1) && decide (cmpOp q = some o2) && okE T L x false a0 && okE T L y false y' && okE T L z false z') = true := h
      simp only [Bool.and_eq_true, decide_eq_true_eq] at h
      obtain ⟨⟨⟨⟨h1, h2⟩, h3⟩, h4⟩, h5⟩ := h
      obtain ⟨k1, m1, m2⟩ := c.cmp h1
      obtain ⟨k2, m3, m4⟩ := c.cmp h2
      have p1 := (snd2 x (pn := pn) c false _ h3).1 rfl
      have p2 := (snd2 y (pn := pn) c false _ h4).1 rfl
      have p3 := (snd2 z (pn := pn) c false _ h5).1 rfl
      refine ⟨fun _ => PE.by (pe_chain k1 k2 p1 p2 p3 (chain_mark m3 m4)) fun σ H Q q => chain_of (cmp_bl h1) (fun _ _ _ h => h) (fun _ _ _ h => h) (fun _ _ _ h => h) q, fun _ => ⟨?_, fun z => by cases z⟩⟩
      exact PT.by (pt_chain k1 k2 p1 p2 p3 (chain_mark m3 m4)) fun σ H Q q => chainT_of (cmp_bl h1) (cmp_bl h2) q
    | [], _, h => cases h
    | [_], _, h => cases h
    | [_, _], [], h => cases h
    | [_, _], [_], h => cases h
    | [_, _], _ :: _ :: _ :: _, h => cases h
    | _ :: _ :: _ :: _, _, h => cases h
  | .tup es, L, X, W, pn, c, b, e, h => by
    cases e <;> first | (cases h; done) | skip
    rename_i l kk pos
    have p : PE X (.Tuple l kk pos) (simE (KX X pn) W (ev cf (.tup es))) := PE.by (pe_tup (sndEs es (pn := pn) c _ h).1) fun σ H Q q => tup_of (ms := evs cf es) q
    exact leaf2 b rfl p
  | .lst es, L, X, W, pn, c, b, e, h => by
    cases e <;> first | (cases h; done) | skip
    rename_i l pos
    have p : PE X (.List l pos) (simE (KX X pn) W (ev cf (.lst es))) := PE.by (pe_lst (sndEs es (pn := pn) c _ h).1) fun σ H Q q => lst_of (ms := evs cf es) q
    exact leaf2 b rfl p
  | .call f es, L, X, W, pn, c, b, e, h => by
    cases e <;> first | (cases h; done) | skip
    rename_i fe l ks pos
    cases fe <;> first | (cases h; done) | skip
    cases ks <;> first | (cases h; done) | skip
    rename_i x p
    replace h : (isGl L x && !l.isEmpty && (T.fns.any fun p => p.name == x && p.ix == f) && okEs T L es l) = true := h
    simp only [Bool.and_eq_true, Bool.not_eq_true'] at h
    obtain ⟨⟨⟨h1, h2⟩, h3⟩, h4⟩ := h
    have p : PE X (.Call (.Name x p) l [] pos) (simE (KX X pn) W (ev cf (.call f es))) := c.call (pos := pos) (p := p) (ms := evs cf es) h1 h2 h3 (okEs_star h4) (sndEs es (pn := pn) c _ h4).1 fun _ _ _ q => q
    exact leaf2 b rfl p
  | .and_ a b', L, X, W, pn, c, b, e, h => by
    cases e <;> first | (cases h; done) | skip
    rename_i o l pos
    cases o <;> first | (cases h; done) | skip
    match l, h with
    | x :: y :: r, h =>
      have h' := Bool.and_eq_true_iff.mp (show (okE T L a b x && okE T L b' b (if r.isEmpty then y else .BoolOp .And (y :: r) pos)) = true from h)
      obtain ⟨a1, a2⟩ := snd2 a c b _ h'.1
      obtain ⟨b1, b2⟩ := snd2 b' c b _ h'.2
      refine ⟨fun hb => PE.by (pe_andT (a1 hb) (tb := simE (KX X pn) W (ev cf b')) ?_) fun σ H Q q => andT_of (fun _ _ _ h => h) (fun _ _ _ h => h) q, fun hb => ?_⟩
      · have := b1 hb
        cases r with
        | nil => exact pe_one this
        | cons z r => exact this
      · have tl : PW X (.BoolOp .And (y :: r) pos) (simT (KX X pn) W (tst cf b')) := by
          cases r with
          | nil => exact pw_and1 (b2 hb).1
          | cons z r => exact (b2 hb).2 rfl
        have w : PW X (.BoolOp .And (x :: y :: r) pos) (simT (KX X pn) W (tst cf (.and_ a b'))) := PW.by (pw_and (a2 hb).1 tl) fun σ H Q q => and_of (fun _ _ _ h => h) (fun _ _ _ h => h) q
        exact ⟨w.pt, fun _ => w⟩
    | [], h => cases h
    | [_], h => cases h
  | .or_ a b', L, X, W, pn, c, b, e, h => by
    cases e <;> first | (cases h; done) | skip
    rename_i o l pos
    cases o <;> first | (cases h; done) | skip
    match l, h with
    | x :: y :: r, h =>
      have h' := Bool.and_eq_true_iff.mp (show (okE T L a b x && okE T L b' b (if r.isEmpty then y else .BoolOp .Or (y :: r) pos)) = true from h)
      obtain ⟨a1, a2⟩ := snd2 a c b _ h'.1
      obtain ⟨b1, b2⟩ := snd2 b' c b _ h'.2
      refine ⟨fun hb => PE.by (pe_orT (a1 hb) (tb := simE (KX X pn) W (ev cf b')) ?_) fun σ H Q q => orT_of (fun _ _ _ h => h) (fun _ _ _ h => h) q, fun hb => ?_⟩
      · have := b1 hb
        cases r with
        | nil => exact pe_one this
        | cons z r => exact this
      · have tl : PW X (.BoolOp .Or (y :: r) pos) (simT (KX X pn) W (tst cf b')) := by
          cases r with
          | nil => exact pw_or1 (b2 hb).1
          | cons z r => exact (b2 hb).2 rfl
        have w : PW X (.BoolOp .Or (x :: y :: r) pos) (simT (KX X pn) W (tst cf (.or_ a b'))) := PW.by (pw_or (a2 hb).1 tl) fun σ H Q q => or_of (fun _ _ _ h => h) (fun _ _ _ h => h) q
        exact ⟨w.pt, fun _ => w⟩
    | [], h => cases h
    | [_], h => cases h
  | .not_ a, L, X, W, pn, c, b, e, h => by
    cases e <;> first | (cases h; done) | skip
    rename_i o x pos
    cases o <;> first | (cases h; done) | skip
    obtain ⟨a1, a2⟩ := snd2 a c b _ h
    exact ⟨fun hb => PE.by (pe_notT (a1 hb)) fun σ H Q q => notV_of (fun _ _ _ h => h) q, fun hb => ⟨PT.by (pt_not (a2 hb).1) fun σ H Q q => not_of (fun _ _ _ h => h) q, fun z => by cases z⟩⟩
  | .cond x y z, L, X, W, pn, c, b, e, h => by
    have h' := Bool.and_eq_true_iff.mp (show (!b && _) = true from h)
    have hb : b = false := by simpa using h'.1
    subst hb
    cases e <;> first | (cases h; done) | skip
    rename_i x' y' z' pos
    have h2 := h'.2
    replace h2 : (okE T L x true x' && okE T L y false y' && okE T L z false z') = true := h2
    simp only [Bool.and_eq_true] at h2
    refine ⟨fun _ => PE.by (pe_ifExp ((snd2 x (pn := pn) c true _ h2.1.1).2 rfl).1 ((snd2 y (pn := pn) c false _ h2.1.2).1 rfl) ((snd2 z (pn := pn) c false _ h2.2).1 rfl)) fun σ H Q q => cond_of (fun _ _ _ h => h) (fun _ _ _ h => h) (fun _ _ _ h => h) q, fun h => by cases h⟩
  | .mut m tgt es, L, X, W, pn, c, b, e, h => by
    cases e <;> first | (cases h; done) | skip
    rename_i fe l ks pos
    cases fe <;> first | (cases h; done) | skip
    cases ks <;> first | (cases h; done) | skip
    rename_i o n apos
    replace h : (n == meOf m && okMu m l.length && (apos.endLine == pos.line) && !isCall0 o && okE T L tgt false o && okEs T L es l) = true := h
    simp only [Bool.and_eq_true, Bool.not_eq_true', beq_iff_eq (a := n)] at h
    obtain ⟨⟨⟨⟨⟨rfl, h1⟩, h2⟩, h3⟩, h4⟩, h5⟩ := h
    have p := mut_all (cpos := pos) (apos := apos) c h1 h2 h3 h4 h5 ((snd2 tgt (pn := pn) c false _ h4).1 rfl) (sndEs es (pn := pn) c _ h5).1
    exact leaf2 b rfl p
  | .meth p tgt es, L, X, W, pn, c, b, e, h => by
    cases e <;> first | (cases h; done) | skip
    rename_i fe l ks pos
    cases fe <;> first | (cases h; done) | skip
    cases ks <;> first | (cases h; done) | skip
    rename_i o n apos
    replace h : (n == mName p && l.length == mAr p && l.length != 0 && (apos.endLine == pos.line) && !isCall0 o && (if isM1 p then okKT T L tgt o else okE T L tgt false o) && okEs T L es l) = true := h
    simp only [Bool.and_eq_true, Bool.not_eq_true', beq_iff_eq (a := n), beq_iff_eq (a := l.length), bne_iff_ne] at h
    obtain ⟨⟨⟨⟨⟨⟨rfl, h1⟩, h0⟩, h2⟩, h3⟩, h4⟩, h5⟩ := h
    have p' := meth_all (cpos := pos) (apos := apos) (es := es) c h1 h0 h2 h3 h4 (okEs_star h5) (fun h => (snd2 tgt (pn := pn) c false _ h).1 rfl) (sndEs es (pn := pn) c _ h5).2.2.1
    exact leaf2 b rfl p'
  | .callA f es ks arr, L, X, W, pn, c, b, e, h => by
    cases e <;> first | (cases h; done) | skip
    rename_i fe l kw pos
    cases fe <;> first | (cases h; done) | skip
    rename_i x p
    replace h : (isGl L x && (T.kws.any fun q => q.name == x && q.ix == f && q.n == l.length && decide (kw.map (·.arg) = q.ks.map some) && arrB q.arr arr) && okEs T L es l && okEs T L ks (kw.map (·.value))) = true := h
    have h' := Bool.and_eq_true_iff.mp h
    have h'' := Bool.and_eq_true_iff.mp h'.1
    have h3 := Bool.and_eq_true_iff.mp h''.1
    obtain ⟨a1, _, _, _⟩ := sndEs es (pn := pn) c _ h''.2
    obtain ⟨_, _, _, b1⟩ := sndEs ks (pn := pn) c _ h'.2
    have hz : l = [] → evs cf es = .ret [] := fun e => by
      subst e
      cases es with
      | nil => rfl
      | cons => cases h''.2
    have pp : PE X (.Call (.Name x p) l kw pos) (simE (KX X pn) W (ev cf (.callA f es ks arr))) := c.callA (n := es.length) (m := ks.length) (ms := evs cf es) (mz := evs cf ks) (arr := arr) h3.1 h3.2 (okEs_len h''.2) (by rw [okEs_len h'.2]; simp) (okEs_star h''.2) a1 (b1 kw rfl) hz
    exact leaf2 b rfl pp
  | .isx ys ns cn x, L, X, W, pn, c, b, e, h => by
    cases e <;> first | (cases h; done) | skip
    rename_i fe l ks pos
    cases fe <;> first | (cases h; done) | skip
    rename_i f p
    match l, ks, h with
    | [a, e2], [], h =>
      replace h : (okB T L f "isinstance" && okNm L cn e2 && T.er.asks.contains cn && (ys.all fun z => T.er.subs.contains (z, cn, true) && T.er.errs.any fun p => p.1 == z) && (ns.all fun z => T.er.subs.contains (z, cn, false) && T.er.errs.any fun p => p.1 == z) && okE T L x false a && !isStar a) = true := h
      simp only [Bool.and_eq_true, Bool.not_eq_true', List.all_eq_true] at h
      obtain ⟨⟨⟨⟨⟨⟨h1, h2⟩, h4⟩, h5⟩, h6⟩, h7⟩, h8⟩ := h
      obtain ⟨y, py, rfl, rfl, h3⟩ : ∃ y py, e2 = .Name y py ∧ y = cn ∧ isGl L y = true := by
        cases e2 <;> first | (cases h2; done) | skip
        simp only [okNm, Bool.and_eq_true, beq_iff_eq] at h2
        exact ⟨_, _, rfl, h2.1, h2.2⟩
      obtain ⟨rfl, hg, hm⟩ := c.blt h1
      have gy := c.gl h3
      obtain ⟨u, hu, _⟩ := c.er.ak y (List.contains_iff_mem.mp h4)
      have pa := (snd2 x (pn := pn) c false a h7).1 rfl
      have fin : ∀ {w : V}, ClsV w u → PE X (.Name y py) (tC w) → PE X (.Call (.Name "isinstance" p) [a, .Name y py] [] pos) (simE (KX X pn) W (ev cf (.isx ys ns y x))) := fun hw py' =>
        PE.by (pe_callB call_isx hg hm boot_isi' (pa_cons pa (pa_cons py' pa_nil rfl) (star_of h8 _ _)) (by decide +kernel) (by decide +kernel) (star_of h8 _ _)) fun σ H Q q => isx_of (K := KX X pn) c.er hu hw h4 h5 h6 (fun _ _ _ q => q) q
      have p' : PE X (.Call (.Name "isinstance" p) [a, .Name y py] [] pos) (simE (KX X pn) W (ev cf (.isx ys ns y x))) := by
        rcases hu with ⟨g1, C, rfl⟩ | ⟨g1, g2, g3, n, rfl⟩
        · exact fin (.own C) (pe_glob gy.1 g1 rfl gy.2)
        · exact fin (.ty n) (pe_bltn gy.1 g1 g2 rfl g3 gy.2)
      exact leaf2 b rfl p'
    | [], _, h => cases h
    | [_], _, h => cases h
    | [_, _], _ :: _, h => cases h
    | _ :: _ :: _ :: _, _, h => cases h
  | .xfld cs x f, L, X, W, pn, c, b, e, h => by
    cases e <;> first | (cases h; done) | skip
    rename_i a n pos
    replace h : ((n == f) && !isCall0 a && (cs.all fun z => T.er.errs.contains (z, some f)) && okE T L x false a) = true := h
    simp only [Bool.and_eq_true, Bool.not_eq_true', beq_iff_eq (a := n), List.all_eq_true] at h
    obtain ⟨⟨⟨rfl, h2⟩, h3⟩, h4⟩ := h
    have p' : PE X (.Attribute a n pos) (simE (KX X pn) W (ev cf (.xfld cs x n))) := PE.by (pe_xfld ((snd2 x (pn := pn) c false a h4).1 rfl) (list_base fun x p pos e => by subst e; cases h2)) fun σ H Q q => xfld_of (K := KX X pn) c.er h3 (fun _ _ _ q => q) q
    exact leaf2 b rfl p'
  | .lkd i x, L, X, W, pn, c, b, e, h => by
    cases e <;> first | (cases h; done) | skip
    rename_i lx lg ls lpos
    replace h : okE T L x false (.ListComp lx lg ls lpos) = true := h
    have p0 : PE X (.ListComp lx lg ls lpos) (fun σ H Q => ∃ p', simE ⟨X.K, X.mg, p'⟩ W (ev cf x).calm σ H Q) := ⟨fun pins s σ H Q I q => by
      obtain ⟨p', q⟩ := q
      exact (PE.by ((snd2 x (pn := p') c false _ h).1 rfl) fun σ H Q q => calm_e q).run pins s σ H Q I q⟩
    have p : PE X (.ListComp lx lg ls lpos) (simE (KX X pn) W (ev cf (.lkd i x))) := PE.by (pe_lockX p0) fun σ H Q q => lkd_of q
    exact leaf2 b rfl p
  | .deq0 tgt, L, X, W, pn, c, b, e, h => by
    cases e <;> first | (cases h; done) | skip
    rename_i x os l pos
    have hu1 : X.A.units < cLine := by have := c.hu; omega
    match os, l, h with
    | [.Eq], [.Dict [] [] p2], h =>
      have p0 := (snd2 tgt (pn := pn) c false x h).1 rfl
      exact ⟨fun _ => PE.by (pe_cmpR (op_deq0 hu1) p0 pe_dnewK (nomark _)) fun σ H Q q => deq0_of (fun _ _ _ q => q) q, fun _ => ⟨PT.by (pt_cmpR (op_deq0 hu1) p0 pe_dnewK (nomark _)) fun σ H Q q => deq0T_of (fun _ _ _ q => q) q, fun z => by cases z⟩⟩
  | .dsort tgt, L, X, W, pn, c, b, e, h => by
    cases e <;> first | (cases h; done) | skip
    rename_i fe l ks pos
    cases fe <;> first | (cases h; done) | skip
    rename_i y yp
    match l, ks, h with
    | [a], [], h =>
      replace h : (okB T L y "sorted" && !isStar a && okE T L tgt false a) = true := h
      simp only [Bool.and_eq_true, Bool.not_eq_true'] at h
      obtain ⟨⟨h1, h2⟩, h3⟩ := h
      obtain ⟨rfl, hg, hm⟩ := c.blt h1
      have p : PE X (.Call (.Name "sorted" yp) [a] [] pos) (simE (KX X pn) W (ev cf (.dsort tgt))) :=
        PE.by (pe_callB (call_sortedDI c.calm) hg hm boot_sorted' (pa_cons ((snd2 tgt (pn := pn) c false a h3).1 rfl) pa_nil (star_of h2 _ _)) (by decide +kernel) (by decide +kernel) (star_of h2 _ _)) fun σ H Q q => dsort_of (fun _ _ _ q => q) q
      exact leaf2 b rfl p
    | [], _, h => cases h
    | [_], _ :: _, h => cases h
    | _ :: _ :: _, _, h => cases h
  | .ext i x, L, X, W, pn, c, b, e, h => by
    cases e <;> first | (cases h; done) | skip
    rename_i fe l ks pos
    cases fe <;> first | (cases h; done) | skip
    rename_i o n apos
    match l, ks, h with
    | [a], [], h =>
      replace h : (n == ("extend" : Str) && (apos.endLine == pos.line) && !isCall0 o && !isStar a && okN L i o && okE T L x false a) = true := h
      simp only [Bool.and_eq_true, Bool.not_eq_true', beq_iff_eq (a := n)] at h
      obtain ⟨⟨⟨⟨⟨rfl, h1⟩, h2⟩, h3⟩, h4⟩, h5⟩ := h
      have hb : ∀ x p pos, o ≠ .Call (.Name x p) [] [] pos := fun x p pos e => by subst e; cases h2
      have p : PE X (.Call (.Attribute o "extend" apos) [a] [] pos) (simE (KX X pn) W (ev cf (.ext i x))) := PE.by (pe_ext h1 hb h3 (c.name h4) ((snd2 x (pn := pn) c false a h5).1 rfl)) fun σ H Q q => ext_of (fun _ _ _ q => q) q
      exact leaf2 b rfl p
    | [], _, h => cases h
    | [_], _ :: _, h => cases h
    | _ :: _ :: _, _, h => cases h
  | .dnew, L, X, W, pn, c, b, e, h => by
    cases e <;> first | (cases h; done) | skip
    rename_i ks vs pos
    match ks, vs, h with
    | [], [], h =>
      have p : PE X (.Dict [] [] pos) (simE (KX X pn) W (ev cf .dnew)) := PE.by pe_dnewK fun σ H Q q => dnew_of q
      exact leaf2 b rfl p
    | _ :: _, _, h => cases h
    | [], _ :: _, h => cases h
  | .dget tgt k, L, X, W, pn, c, b, e, h => by
    cases e <;> first | (cases h; done) | skip
    rename_i x y pos
    replace h : (okE T L tgt false x && okE T L k false y && !isSlc y) = true := h
    simp only [Bool.and_eq_true, Bool.not_eq_true'] at h
    have p : PE X (.Subscript x y pos) (simE (KX X pn) W (ev cf (.dget tgt k))) := PE.by (pe_dget (by have := c.hu; omega) ((snd2 tgt (pn := pn) c false x h.1.1).1 rfl) ((snd2 k (pn := pn) c false y h.1.2).1 rfl) (noSl_of h.2)) fun σ H Q q => dget_of (fun _ _ _ q => q) (fun _ _ _ q => q) q
    exact leaf2 b rfl p
  | .dhas neg k tgt, L, X, W, pn, c, b, e, h => by
    cases e <;> first | (cases h; done) | skip
    rename_i x os l pos
    match os, l, h with
    | [o], [y], h =>
      replace h : (decide (o = (if neg then CmpOp.NotIn else CmpOp.In)) && !behindInMarks o y && okE T L k false x && okE T L tgt false y) = true := h
      simp only [Bool.and_eq_true, Bool.not_eq_true', decide_eq_true_eq] at h
      obtain ⟨⟨⟨rfl, h2⟩, h3⟩, h4⟩ := h
      have pk := (snd2 k (pn := pn) c false x h3).1 rfl
      have pt := (snd2 tgt (pn := pn) c false y h4).1 rfl
      have hu1 : X.A.units + 1 < cLine := by have := c.hu; omega
      cases neg with
      | false => exact ⟨fun _ => PE.by (pe_cmp (pc_din hu1 pk pt) h2) fun σ H Q q => dhas_of (neg := false) (fun _ _ _ q => q) (fun _ _ _ q => q) q, fun _ => ⟨PT.by (pt_cmp (pc_din hu1 pk pt) h2) fun σ H Q q => dhasT_of (neg := false) (fun _ _ _ q => q) (fun _ _ _ q => q) q, fun z => by cases z⟩⟩
      | true => exact ⟨fun _ => PE.by (pe_cmp (pc_dnotin hu1 pk pt) h2) fun σ H Q q => dhas_of (neg := true) (fun _ _ _ q => q) (fun _ _ _ q => q) q, fun _ => ⟨PT.by (pt_cmp (pc_dnotin hu1 pk pt) h2) fun σ H Q q => dhasT_of (neg := true) (fun _ _ _ q => q) (fun _ _ _ q => q) q, fun z => by cases z⟩⟩
    | [], _, h => cases h
    | [_], [], h => cases h
    | [_], _ :: _ :: _, h => cases h
    | _ :: _ :: _, _, h => cases h
  | .dpop tgt k, L, X, W, pn, c, b, e, h => by
    cases e <;> first | (cases h; done) | skip
    rename_i fe l ks pos
    cases fe <;> first | (cases h; done) | skip
    rename_i o n apos
    match l, ks, h with
    | [a], [], h =>
      replace h : (n == ("pop" : Str) && (apos.endLine == pos.line) && !isCall0 o && !isStar a && okE T L tgt false o && okE T L k false a) = true := h
      simp only [Bool.and_eq_true, Bool.not_eq_true', beq_iff_eq (a := n)] at h
      obtain ⟨⟨⟨⟨⟨rfl, h1⟩, h2⟩, h3⟩, h4⟩, h5⟩ := h
      have p : PE X (.Call (.Attribute o "pop" apos) [a] [] pos) (simE (KX X pn) W (ev cf (.dpop tgt k))) := PE.by (pe_dpop1 ((snd2 tgt (pn := pn) c false o h4).1 rfl) ((snd2 k (pn := pn) c false a h5).1 rfl) (m1_of h1 h2 h3)) fun σ H Q q => dpop_of (fun _ _ _ q => q) (fun _ _ _ q => q) q
      exact leaf2 b rfl p
    | [], _, h => cases h
    | [_], _ :: _, h => cases h
    | _ :: _ :: _, _, h => cases h
  | .lc own g it ifs elt, L, X, W, pn, c, b, e, h => by
    cases e <;> first | (cases h; done) | skip
    rename_i x gs scope pos
    obtain ⟨t, i, fs, rfl, h6, q⟩ : ∃ t i fs, gs = [⟨t, i, fs, 0⟩] ∧ isSet i = false ∧ LcOk X x t i fs scope own (simI (KX X pn) W (iter cf it)) (gcR (KX X pn) g) (simT (KX X pn) (W0 X.mg) (tsts cf ifs)) (simE (KX X pn) (W0 X.mg) (ev cf elt)) ∧ Keeps own (gcR (KX X pn) g) ∧ ∀ v σ H Q, simG (KX X pn) (asgG cf g) v σ H Q → gcR (KX X pn) g v σ H Q := by
      obtain ⟨t, i, fs, rfl, h⟩ := okLc_of (show okLc _ gs = true from h)
      replace h : (blkC L.N L.sc scope (own.map fun j => (L.N.getD j Str.empty, j)) && okI T L it t i && okGc (blkL L scope) own g t && okTs T (blkL L scope) ifs fs && okE T (blkL L scope) elt false x && !isSet i) = true := h
      · simp only [Bool.and_eq_true, Bool.not_eq_true'] at h
        obtain ⟨⟨⟨⟨⟨h1, h2⟩, h3⟩, h4⟩, h5⟩, h6⟩ := h
        have hk : scope.kind = .function := by
          have := blkOk_by h1
          exact this.kind
        have cb := fun s H C cl fp => c.blk s H scope C cl fp hk
        refine ⟨t, i, fs, rfl, h6, ⟨sndI it c t i h2, ⟨own.map fun j => (L.N.getD j Str.empty, j), ?_, ?_⟩, fun s H C cl fp => (gc_of (cf := cf) (cb s H C cl fp) h3).1, fun s H C cl fp => sndTs ifs (cb s H C cl fp) fs h4, fun s H C cl fp => (snd2 elt (cb s H C cl fp) false x h5).1 rfl⟩, ?_⟩
        · rw [List.map_map]; exact List.map_id _
        · rw [c.N, c.sc]; exact blkOk_by h1
        · exact gc_keep h3
    obtain ⟨⟨p1, ⟨o, rfl, p2⟩, p3, p4, p5⟩, kp, sg⟩ := q
    have p : PE X (.ListComp x [⟨t, i, fs, 0⟩] scope pos) (simE (KX X pn) W (ev cf (.lc (o.map (·.2)) g it ifs elt))) := PE.by (pe_lc c.calm c.nd p1 p2 p3 p4 p5 (folded_of h6 _)) fun σ H Q q => lc_of (fun _ _ _ q => q) sg kp (fun _ _ _ q => q) (fun _ _ _ q => q) q
    exact leaf2 b rfl p
theorem sndTs : ∀ (Es : List E) {L : LC} {X : Cx} {W : MW} {pn : Nat → Option (Addr × Obj × HO)} (c : CtxOk T cf L X W) (l : List Expr), okTs T L Es l = true → PTs X l (simT (KX X pn) W (tsts cf Es))
  | [], L, X, W, pn, c, l, h => by
    cases l with
    | nil => exact ⟨fun pins s σ H Q I q => pts_nil.run pins s σ H Q I (by
        obtain ⟨ρ, Z, S, en, F, ⟨k, r⟩, h⟩ := q
        exact h ρ Z H k r)⟩
    | cons _ _ => cases h
  | E1 :: Es, L, X, W, pn, c, l, h => by
    cases l with
    | nil => exact absurd h (by show ¬ ((Es.isEmpty && false) = true); simp)
    | cons e r =>
      cases r with
      | nil =>
        have h' := Bool.and_eq_true_iff.mp (show (Es.isEmpty && okE T L E1 true e) = true from h)
        have he : Es = [] := by simpa using h'.1
        subst he
        have := ((snd2 E1 (pn := pn) c true e h'.2).2 rfl).1
        exact pts_one (PT.by this fun σ H Q q => tests1 q)
      | cons e2 r => exact absurd h (by show ¬ ((Es.isEmpty && false) = true); simp)
theorem sndI : ∀ (it : I) {L : LC} {X : Cx} {W : MW} {pn : Nat → Option (Addr × Obj × HO)} (c : CtxOk T cf L X W) (t e : Expr), okI T L it t e = true → PI X t e (simI (KX X pn) W (iter cf it))
  | .seq E1, L, X, W, pn, c, t, e, h => pi_seq ((snd2 E1 (pn := pn) c false e h).1 rfl)
  | .keys E1, L, X, W, pn, c, t, e, h => PI.by (pi_keys ((snd2 E1 (pn := pn) c false e h).1 rfl)) fun σ H R q => keys_of (fun _ _ _ q => q) q
  | .rng1 A, L, X, W, pn, c, t, e, h => by
    cases e <;> first | (cases h; done) | skip
    rename_i fe l ks pos
    cases fe <;> first | (cases h; done) | skip
    rename_i x p
    match l, ks, h with
    | [a], [], h =>
      replace h : (okB T L x "range" && okE T L A false a && !isStar a) = true := h
      simp only [Bool.and_eq_true, Bool.not_eq_true'] at h
      obtain ⟨⟨h1, h2⟩, h3⟩ := h
      obtain ⟨rfl, hg, hm⟩ := c.blt h1
      exact PI.by (pi_range1 hg hm (pa_cons ((snd2 A (pn := pn) c false a h2).1 rfl) pa_nil (star_of h3 _ _)) (star_of h3 _ _)) fun σ H R q => rng1_of (fun _ _ _ q => q) q
    | [], _, h => cases h
    | [_], _ :: _, h => cases h
    | _ :: _ :: _, _, h => cases h
  | .rng2 A B, L, X, W, pn, c, t, e, h => by
    cases e <;> first | (cases h; done) | skip
    rename_i fe l ks pos
    cases fe <;> first | (cases h; done) | skip
    rename_i x p
    match l, ks, h with
    | [a, b], [], h =>
      replace h : (okB T L x "range" && okE T L A false a && okE T L B false b && !isStar a && !isStar b) = true := h
      simp only [Bool.and_eq_true, Bool.not_eq_true'] at h
      obtain ⟨⟨⟨⟨h1, h2⟩, h3⟩, h4⟩, h5⟩ := h
      obtain ⟨rfl, hg, hm⟩ := c.blt h1
      exact PI.by (pi_range2 hg hm (pa_cons ((snd2 A (pn := pn) c false a h2).1 rfl) (pa_cons ((snd2 B (pn := pn) c false b h3).1 rfl) pa_nil (star_of h5 _ _)) (star_of h4 _ _)) (by rw [star_of h4, star_of h5]; rfl) (star_of h5 _ _)) fun σ H R q => rng2_of (fun _ _ _ q => q) (fun _ _ _ q => q) q
    | [], _, h => cases h
    | [_], _, h => cases h
    | [_, _], _ :: _, h => cases h
    | _ :: _ :: _ :: _, _, h => cases h
  | .enum E1, L, X, W, pn, c, t, e, h => by
    cases t <;> cases e <;> first | (cases h; done) | skip
    rename_i fe l ks pos
    cases fe <;> first | (cases h; done) | skip
    rename_i x p
    match l, ks, h with
    | [a], [], h =>
      replace h : (okB T L x "enumerate" && okE T L E1 false a && !isStar a) = true := h
      simp only [Bool.and_eq_true, Bool.not_eq_true'] at h
      obtain ⟨⟨h1, h2⟩, h3⟩ := h
      obtain ⟨rfl, hg, hm⟩ := c.blt h1
      exact pi_enum2 hg hm (pa_cons ((snd2 E1 (pn := pn) c false a h2).1 rfl) pa_nil (star_of h3 _ _)) (star_of h3 _ _)
    | [], _, h => cases h
    | [_], _ :: _, h => cases h
    | _ :: _ :: _, _, h => cases h
theorem sndEs : ∀ (Es : List E) {L : LC} {X : Cx} {W : MW} {pn : Nat → Option (Addr × Obj × HO)} (c : CtxOk T cf L X W) (l : List Expr), okEs T L Es l = true → PA X l (simAs (KX X pn) W (evs cf Es)) ∧ (∃ ts, Reads' X l ts ∧ ∀ σ H Q, simOs (KX X pn) W (ops cf Es) σ H Q → tAll ts σ H Q) ∧ PA X l (simOs (KX X pn) W (ops cf Es)) ∧ ∀ kw : List Keyword, kw.map (·.value) = l → PK X kw (simAs (KX X pn) W (evs cf Es))
  | [], L, X, W, pn, c, [], h => ⟨PA.by pa_nil fun σ H Q q => as_nil q, ⟨[], .nil, fun σ H Q q => os_nil q⟩, PA.by pa_nil fun σ H Q q => os_nil q, fun kw hk => by
    have : kw = [] := by simpa using hk
    subst this
    exact PK.by pk_nil fun σ H Q q => as_nil q⟩
  | [], L, X, W, pn, c, _ :: _, h => by cases h
  | _ :: _, L, X, W, pn, c, [], h => by cases h
  | E1 :: Es, L, X, W, pn, c, e :: l, h => by
    replace h : (okE T L E1 false e && !isStar e && okEs T L Es l) = true := h
    simp only [Bool.and_eq_true, Bool.not_eq_true'] at h
    have p1 := (snd2 E1 (pn := pn) c false _ h.1.1).1 rfl
    have p2 := sndEs Es (pn := pn) c _ h.2
    refine ⟨PA.by (pa_cons p1 p2.1 (star_of h.1.2 _ _)) fun σ H Q q => as_cons (m := ev cf E1) (ms := evs cf Es) (fun _ _ _ h => h) (fun _ _ _ h => h) q, op_cons c h.1.1 p1 p2.2.1, ?_, fun kw hk => ?_⟩
    · exact op_pa c h.1.1 h.1.2 p1 p2.2.2.1
    · cases kw with
      | nil => cases hk
      | cons q kw =>
        obtain ⟨nm, v, kp⟩ := q
        simp only [List.map_cons, List.cons.injEq] at hk
        obtain ⟨rfl, hk⟩ := hk
        exact PK.by (pk_cons p1 (p2.2.2.2 kw hk)) fun σ H Q q => as_cons (m := ev cf E1) (ms := evs cf Es) (fun _ _ _ h => h) (fun _ _ _ h => h) q
end
end
end Mi
end
section
set_option Elab.async false
set_option maxRecDepth 100000
set_option linter.all false
namespace Mi
open PySem PySem.Spec PyProof.Rows L2
variable {pn : Nat → Option (Addr × Obj × HO)}
section
variable {T : Tab} {cf : Calls}
theorem PG.by {X : Cx} {e : Expr} {t t' : TG} (h : PG X e t) (k : ∀ v σ H Q, t' v σ H Q → t v σ H Q) : PG X e t' := ⟨fun pins s σ H v u Q I r q => h.run pins s σ H v u Q I r (k v σ H Q q)⟩
theorem PGs.by {X : Cx} {e : List Expr} {t t' : TGs} (h : PGs X e t) (k : ∀ v σ H Q, t' v σ H Q → t v σ H Q) : PGs X e t' := ⟨fun pins s σ H v u Q I r q => h.run pins s σ H v u Q I r (k v σ H Q q)⟩
theorem PS.by {X : Cx} {e : Stmt} {t t' : TS} (h : PS X e t) (k : ∀ D σ H, t' D σ H → t D σ H) : PS X e t' := ⟨fun pins s σ H D I q => h.run pins s σ H D I (k D σ H q)⟩
theorem PSs.by {X : Cx} {e : List Stmt} {t t' : TS} (h : PSs X e t) (k : ∀ D σ H, t' D σ H → t D σ H) : PSs X e t' := ⟨fun pins s σ H D I q => h.run pins s σ H D I (k D σ H q)⟩
theorem okGs_star {L : LC} : ∀ {gs : List G} {es : List Expr}, okGs T L gs es = true → es.length = gs.length ∧ ∀ e ∈ es, isStar e = false
  | [], [], _ => ⟨rfl, fun _ h => by cases h⟩
  | [], _ :: _, h => by cases h
  | _ :: _, [], h => by cases h
  | g :: gs, e :: es, h => by
    replace h : (okG T L g e && !isStar e && okGs T L gs es) = true := h
    simp only [Bool.and_eq_true, Bool.not_eq_true'] at h
    obtain ⟨hl, hst⟩ := okGs_star h.2
    refine ⟨by simp [hl], fun x hx => ?_⟩
    rcases List.mem_cons.mp hx with hx | hx
    · rw [hx]; exact h.1.2
    · exact hst x hx
theorem sub_assign {o i : Expr} {pos : Pos} {env : PySem.Env} (h : isSlc i = false) (v : Value) : assign (.Subscript o i pos) env v = (do
      let ov ← holding [v] (eval o env)
      let iv ← holding [v, ov] (eval i env)
      standAt pos
      holding [v, ov, iv] (setItem ov iv v)
      release [v, ov, iv] []) := by
  cases i <;> first | rfl | cases h
mutual
theorem sndG : ∀ (g : G) {L : LC} {X : Cx} {W : MW} {pn : Nat → Option (Addr × Obj × HO)} (c : CtxOk T cf L X W) (e : Expr), okG T L g e = true → PG X e (simG (KX X pn) (asgG cf g))
  | .nm i, L, X, W, pn, c, e, h => by
    cases e <;> first | (cases h; done) | skip
    rename_i x pos
    have h' := Bool.and_eq_true_iff.mp (show (decide (L.N[i]? = some x) && isLoc L x) = true from h)
    exact PG.by (pg_name c.nd (by rw [c.N]; exact of_decide_eq_true h'.1) (c.loc h'.2).1 (c.loc h'.2).2) fun v σ H Q q => g_name q
  | .tp gs, L, X, W, pn, c, e, h => by
    cases e <;> first | (cases h; done) | skip
    rename_i es kk pos
    obtain ⟨hl, hst⟩ := okGs_star (show okGs T L gs es = true from h)
    obtain ⟨h1, h2⟩ := asg_len X.env hst
    exact PG.by (pg_tup c.calm (sndGs gs (pn := pn) c es h) (h1.trans hl) h2) fun v σ H Q q => g_tup (fun _ _ _ _ q => q) q
  | .sub o i, L, X, W, pn, c, e, h => by
    cases e <;> first | (cases h; done) | skip
    rename_i x y pos
    replace h : (okE T L o false x && okE T L i false y && !isSlc y) = true := h
    simp only [Bool.and_eq_true, Bool.not_eq_true'] at h
    have pi := (snd2 i (pn := pn) c false y h.1.2).1 rfl
    obtain ⟨t, ht, hh⟩ := pl_of c h.1.1 ((snd2 o (pn := pn) c false x h.1.1).1 rfl)
    refine PG.by (pg_sub ht pi set_list (sub_assign h.2)) fun v σ H Q q => ?_
    rcases hh with ⟨n, rfl, rfl⟩ | ⟨hv, rfl⟩
    · exact g_subV (mi := ev cf i) (W := W) (fun _ _ _ q => q) q
    · have e : asgG cf (.sub o i) = fun d => ((ev cf o).bind fun d => .ret (some d)).calm.bind fun r => (ev cf i).calm.bind fun j => (match r with
          | none => (match (none : Option Nat) with
            | some n => (getV n).bind fun d0 => (mutM .set d0 (some n) [j.hard, d.hard]).bind fun _ => .ret ()
            | none => .stuck)
          | some d0 => (mutM .set d0 none [j.hard, d.hard]).bind fun _ => .ret ()) := by
        funext d
        show ((pl1 o (ev2 cf o).1).calm.bind fun r => (ev2 cf i).1.calm.bind fun j => (match r with
          | none => (match slotOf o with
            | some n => (getV n).bind fun d0 => (mutM .set d0 (some n) [j.hard, d.hard]).bind fun _ => .ret ()
            | none => .stuck)
          | some d0 => (mutM .set d0 none [j.hard, d.hard]).bind fun _ => .ret ())) = _
        rw [pl1_exp hv, slot_exp hv]
      rw [e] at q
      exact g_subE (slot := none) (m0 := ev cf o) (mi := ev cf i) (W := W) (fun _ _ _ q => q) (fun _ _ _ q => q) q
  | .att o f, L, X, W, pn, c, e, h => by cases h
  | .dsub o i, L, X, W, pn, c, e, h => by
    cases e <;> first | (cases h; done) | skip
    rename_i x y pos
    replace h : (okE T L o false x && okE T L i false y && !isSlc y) = true := h
    simp only [Bool.and_eq_true, Bool.not_eq_true'] at h
    exact PG.by (pg_sub ((snd2 o (pn := pn) c false x h.1.1).1 rfl) ((snd2 i (pn := pn) c false y h.1.2).1 rfl) (set_dict (by have := c.hu; omega)) (sub_assign h.2)) fun v σ H Q q => g_dsub (W := W) (m0 := ev cf o) (mi := ev cf i) (fun _ _ _ q => q) (fun _ _ _ q => q) q
theorem sndGs : ∀ (gs : List G) {L : LC} {X : Cx} {W : MW} {pn : Nat → Option (Addr × Obj × HO)} (c : CtxOk T cf L X W) (es : List Expr), okGs T L gs es = true → PGs X es (simGs (KX X pn) (asgGs cf gs))
  | [], L, X, W, pn, c, [], h => PGs.by pgs_nil fun v σ H Q q => g_nil q
  | [], L, X, W, pn, c, _ :: _, h => by cases h
  | _ :: _, L, X, W, pn, c, [], h => by cases h
  | g :: gs, L, X, W, pn, c, e :: es, h => by
    replace h : (okG T L g e && !isStar e && okGs T L gs es) = true := h
    simp only [Bool.and_eq_true, Bool.not_eq_true'] at h
    exact PGs.by (pgs_cons (sndG g (pn := pn) c e h.1.1) (sndGs gs (pn := pn) c es h.2) (asg_map h.1.2 _)) fun v σ H Q q => g_cons (m := asgG cf g) (ms := asgGs cf gs) (fun _ _ _ _ q => q) (fun _ _ _ _ q => q) q
end
/-! ### statements -/
theorem sw_plain {e : Expr} (h : isCompE e = false) (t : Option Expr) (l : Nat) (env : PySem.Env) : swapsWith e t l env = pure false := by
  unfold swapsWith
  cases e <;> first | rfl | cases h
theorem stores_none {t e : Expr} (h : (isTupE t && isTupE e) = false) (hl : isCompE e = false ∨ True) (env : PySem.Env) : swappedStores [t] e env = pure none := by
  unfold swappedStores
  cases t <;> first | rfl | skip
  all_goals (cases e <;> first | rfl | (cases h; done))
theorem okP_lc {L : LC} {p : P} {k : List Expr → Bool} {x : Expr} {gs : List Comprehension} {scope : Scope} {pos : Pos} : okP T L p (.ListComp x gs scope pos) k = false := by
  cases p <;> first | rfl | skip
  rename_i lo hi
  cases lo <;> cases hi <;> rfl
theorem lc_only {L : LC} {E1 : E} {b : Bool} {x : Expr} {gs : List Comprehension} {scope : Scope} {pos : Pos} (h : okE T L E1 b (.ListComp x gs scope pos) = true) (hlk : isLkd E1 = false) : ∃ own g it ifs elt, E1 = .lc own g it ifs elt := by
  cases E1 <;> first | (exact ⟨_, _, _, _, _, rfl⟩) | skip
  all_goals first | (cases hlk; done) | (cases h; done) | skip
  · rename_i p es
    rw [show okE T L (.prim p es) b (.ListComp x gs scope pos) = okP T L p (.ListComp x gs scope pos) (okEs T L es) from rfl, okP_lc] at h
    cases h
  · rename_i a b' c
    exact absurd h (by show ¬ ((!b && false) = true); simp)
theorem lc_parts {L : LC} {X : Cx} {W : MW} {pn : Nat → Option (Addr × Obj × HO)} (c : CtxOk T cf L X W) {own : List Nat} {g : G} {it : I} {ifs : List E} {elt : E} {b : Bool} {x : Expr} {gs : List Comprehension} {scope : Scope} {pos : Pos} (h : okE T L (.lc own g it ifs elt) b (.ListComp x gs scope pos) = true) :
    ∃ t i fs, gs = [⟨t, i, fs, 0⟩] ∧ isSet i = false ∧ LcOk X x t i fs scope own (simI (KX X pn) W (iter cf it)) (gcR (KX X pn) g) (simT (KX X pn) (W0 X.mg) (tsts cf ifs)) (simE (KX X pn) (W0 X.mg) (ev cf elt)) ∧ Keeps own (gcR (KX X pn) g) ∧ ∀ v σ H Q, simG (KX X pn) (asgG cf g) v σ H Q → gcR (KX X pn) g v σ H Q := by
  obtain ⟨t, i, fs, rfl, h⟩ := okLc_of (show okLc _ gs = true from h)
  replace h : (blkC L.N L.sc scope (own.map fun j => (L.N.getD j Str.empty, j)) && okI T L it t i && okGc (blkL L scope) own g t && okTs T (blkL L scope) ifs fs && okE T (blkL L scope) elt false x && !isSet i) = true := h
  simp only [Bool.and_eq_true, Bool.not_eq_true'] at h
  obtain ⟨⟨⟨⟨⟨h1, h2⟩, h3⟩, h4⟩, h5⟩, h6⟩ := h
  have hk : scope.kind = .function := (blkOk_by h1).kind
  have cb := fun s H C cl fp => c.blk s H scope C cl fp hk
  refine ⟨t, i, fs, rfl, h6, ⟨sndI it (pn := pn) c t i h2, ⟨own.map fun j => (L.N.getD j Str.empty, j), ?_, ?_⟩, fun s H C cl fp => (gc_of (cf := cf) (cb s H C cl fp) h3).1, fun s H C cl fp => sndTs ifs (cb s H C cl fp) fs h4, fun s H C cl fp => (snd2 elt (cb s H C cl fp) false x h5).1 rfl⟩, ?_⟩
  · rw [List.map_map]; exact List.map_id _
  · rw [c.N, c.sc]; exact blkOk_by h1
  · exact gc_keep h3
/-- .. of the statement's own reading -/
theorem s_asgM {K : KC} {W : MW} {σ : L2.St} {H : Hp} {D' : Ends} {m : M D} {g : D → M Unit} {te : TE} {tg : TG} (ha : ∀ σ H Q, simE K W m σ H Q → te σ H Q) (hg : ∀ v σ H Q, simG K g v σ H Q → tg v σ H Q) (h : tAsg (simE K W m) (simG K g) D' σ H) : tAsg te tg D' σ H := by
  refine ha σ H _ ?_
  obtain ⟨ρ, Z, S, en, F, k, h⟩ := h
  exact ⟨ρ, Z, S, en, F, k, h.imp (Le.refl F) fun d en1 S1 q ρ1 Z1 v H1 k1 r1 => hg v σ H1 _ (q ρ1 Z1 v H1 k1 r1)⟩
/-- is the store within the comprehension's frame -/
def swC (L : LC) (t e : Expr) : Bool := match t, e with
  | .Name y py, .ListComp _ _ scope pos => decide (L.sc.names.lookup y = some .local) && (py.line == pos.line) && !(scope.names.any fun (n, k) => n == y && (k == .local || k == .cell))
  | _, _ => false
theorem sw_of {L : LC} {X : Cx} {W : MW} (c : CtxOk T cf L X W) {t x : Expr} {gs : List Comprehension} {scope : Scope} {pos : Pos} (h : swC L t (.ListComp x gs scope pos) = false) (l : Nat) : swapsWith (.ListComp x gs scope pos) (some t) l X.env = pure false := by
  unfold swapsWith
  cases t <;> first | rfl | skip
  rename_i y py
  have hb : X.env.blockKind = .function := by unfold PySem.Env.blockKind; rw [c.sc, c.kind]; rfl
  have hk : X.env.kindOf y = L.sc.names.lookup y := by show X.env.scope.names.lookup y = _; rw [c.sc]
  show (pure (X.env.blockKind == .function && X.env.kindOf y == some .local && py.line == pos.line && !(scope.names.any fun (n, k) => n == y && (k == .local || k == .cell))) : Sem Bool) = pure false
  rw [hb, hk]
  replace h : (decide (L.sc.names.lookup y = some .local) && (py.line == pos.line) && !(scope.names.any fun (n, k) => n == y && (k == .local || k == .cell))) = false := h
  have e : (L.sc.names.lookup y == some NameKind.local) = decide (L.sc.names.lookup y = some .local) := by
    by_cases z : L.sc.names.lookup y = some .local
    · rw [z]; rfl
    · rw [decide_eq_false z]
      simpa using z
  rw [e, ← h]
  rfl
theorem tryK_form {L : LC} {body : List S} {cn : Str} {cs : List Str} {i j : Nat} {s : Stmt} (h : okS T L (.tryK body cn cs i j) s = true) : ∃ b x n y np yp np2 ap pos' pos, s = .Try b [.ExceptHandler (some (.Name x np)) (some n) [.Assign [.Name y yp] (.Name n np2) ap] pos'] [] [] pos ∧
    ((x == cn) && isGl L x && decide (L.N[i]? = some n) && decide (L.N[j]? = some y) && L.blk.isNone && decide (L.sc.names.lookup n = some .local) && decide (L.sc.names.lookup y = some .local) && !(n == ("__debug__" : Str)) && !(n == ("__classdict__" : Str)) && T.er.asks.contains cn && (cs.all fun z => T.er.subs.contains (z, cn, true)) && okSs T L body b) = true := by
  unfold okS at h
  split at h
  · rename_i b x np n y yp n2 np2 ap pos' pos
    simp only [Bool.and_eq_true] at h
    obtain ⟨⟨⟨⟨⟨⟨⟨⟨⟨⟨⟨⟨q1, q2⟩, q3⟩, q4⟩, q5⟩, q6⟩, q7⟩, q8⟩, q9⟩, q10⟩, q11⟩, q12⟩, q13⟩ := h
    have e : n2 = n := by simpa using q3
    subst e
    refine ⟨b, x, n2, y, np, yp, np2, ap, pos', pos, rfl, ?_⟩
    simp only [Bool.and_eq_true]
    exact ⟨⟨⟨⟨⟨⟨⟨⟨⟨⟨⟨q1, q2⟩, q4⟩, q5⟩, q6⟩, q7⟩, q8⟩, q9⟩, q10⟩, q11⟩, q12⟩, q13⟩
  · cases h
theorem raise_form {L : LC} {cn : Str} {fs : List Str} {es : List E} {s : Stmt} (h : okS T L (.raise cn fs es) s = true) : ∃ x p l cpos pos, s = .Raise (some (.Call (.Name x p) l [] cpos)) none pos ∧ x = cn ∧ isGl L x = true ∧
    ((fs = [] ∧ l = [] ∧ es = [] ∧ T.er.errs.contains (cn, none) = true) ∨ (∃ f a, fs = [f] ∧ l = [a] ∧ T.er.errs.contains (cn, some f) = true ∧ okEs T L es [a] = true) ∨
      ∃ f, fs = [f] ∧ l = [] ∧ T.er.errs0.contains (cn, f) = true ∧ es = [.k .non]) := by
  unfold okS at h
  split at h
  · rename_i x p l cpos pos
    simp only [Bool.and_eq_true] at h
    obtain ⟨⟨q1, q2⟩, q3⟩ := h
    refine ⟨x, p, l, cpos, pos, rfl, by simpa using q1, q2, ?_⟩
    split at q3
    · simp only [Bool.and_eq_true] at q3
      exact .inl ⟨rfl, rfl, by simpa using q3.2, q3.1⟩
    · simp only [Bool.and_eq_true] at q3
      exact .inr (.inl ⟨_, _, rfl, rfl, q3.1, q3.2⟩)
    · simp only [Bool.and_eq_true] at q3
      refine .inr (.inr ⟨_, rfl, rfl, q3.1, ?_⟩)
      have q := q3.2
      unfold onlyNone at q
      split at q
      · rfl
      · cases q
    · cases q3
  · cases h
/-- within a try -/
theorem CtxOk.tr {L : LC} {X : Cx} {W : MW} (c : CtxOk T cf L X W) {w : WX} {pn : List (Addr × Obj)} {xe : Value → Shared → Prop} (tk : Takes (X.tr pn xe) w) (po : PassesOwn (model X.prog X.w) X.A X.env xe) : CtxOk T cf L (X.tr pn xe) ⟨w, X.mg⟩ :=
  ⟨c.N, c.nd, c.sc, c.kind, c.calm, c.hu, c.free, c.con, c.gd, c.kw, c.fn, fun σ => passAt tk σ, rfl, tk, c.er, c.rm, c.fr, po, c.sto⟩
mutual
theorem sndS (Wn : Nat) : ∀ (S1 : S) {L : LC} {X : Cx} {W : MW} {pn : Nat → Option (Addr × Obj × HO)} (c : CtxOk T cf L X W) (s : Stmt), okS T L S1 s = true → PS X s (simS (KX X pn) W (exS cf Wn S1))
  | .asg g E1, L, X, W, pn, c, s, h => by
    cases s <;> first | (cases h; done) | skip
    rename_i ts e pos
    match ts, h with
    | [t], h =>
      replace h : (okG T L g t && okE T L E1 false e && !isStar t && !(isTupE t && isTupE e) && !isCompE2 e && !isLkd E1) = true := h
      simp only [Bool.and_eq_true, Bool.not_eq_true'] at h
      obtain ⟨⟨⟨⟨⟨h1, h2⟩, h3⟩, h4⟩, h5⟩, hlk⟩ := h
      have pg := sndG g (pn := pn) c t h1
      have rd : PS X (.Assign [t] e pos) (tAsg (simE (KX X pn) W (ev cf E1)) (simG (KX X pn) (asgG cf g))) → PS X (.Assign [t] e pos) (simS (KX X pn) W (exS cf Wn (.asg g E1))) := fun p => PS.by p fun D σ H q => s_asg (m := ev cf E1) (g := asgG cf g) (fun _ _ _ q => q) (fun _ _ _ _ q => q) q
      apply rd
      have plain : (∀ l, swapsWith e (some t) l X.env = pure false) → PS X (.Assign [t] e pos) (tAsg (simE (KX X pn) W (ev cf E1)) (simG (KX X pn) (asgG cf g))) := fun hs =>
        ps_asg ((snd2 E1 (pn := pn) c false e h2).1 rfl) pg (hs _) (stores_none h4 (.inr trivial) _) (asg_map h3 _)
      by_cases hc : isCompE e = true
      · cases e <;> first | (cases hc; done) | skip
        · rename_i x gs scope pos'
          cases hsw : swC L t (.ListComp x gs scope pos') with
          | false => exact plain fun l => sw_of c hsw l
          | true =>
            cases t <;> first | (cases hsw; done) | skip
            rename_i y py
            replace hsw : (decide (L.sc.names.lookup y = some .local) && (py.line == pos'.line) && !(scope.names.any fun (n, k) => n == y && (k == .local || k == .cell))) = true := hsw
            simp only [Bool.and_eq_true, decide_eq_true_eq, Bool.not_eq_true'] at hsw
            obtain ⟨⟨w1, w2⟩, w3⟩ := hsw
            obtain ⟨i, rfl, hi⟩ : ∃ i, g = .nm i ∧ L.N[i]? = some y := by
              cases g <;> first | (cases h1; done) | skip
              have h' := Bool.and_eq_true_iff.mp h1
              exact ⟨_, rfl, of_decide_eq_true h'.1⟩
            obtain ⟨own, g2, it, ifs, elt, rfl⟩ := lc_only h2 hlk
            obtain ⟨t, i2, fs, rfl, h6, ⟨p1, ⟨o, rfl, p2⟩, p3, p4, p5⟩, kp, sg⟩ := lc_parts c h2
            have hl : X.env.scope.names.lookup y = some .local := by rw [c.sc]; exact w1
            refine PS.by (ps_setLc c.calm c.nd (by rw [c.N]; exact hi) hl (sw_true (by rw [c.sc]; exact c.kind) hl w2 w3) p1 p2 p3 p4 p5 (folded_of h6 _)) fun D σ H q => ?_
            exact s_asgM (fun _ _ _ q => lc_of (fun _ _ _ q => q) sg kp (fun _ _ _ q => q) (fun _ _ _ q => q) q) (fun v σ H Q q => g_name q) q
        · cases h5
        · cases h5
      · exact plain fun l => sw_plain (by simpa using hc) _ _ _
    | [], h => cases h
    | _ :: _ :: _, h => cases h
  | .ex E1, L, X, W, pn, c, s, h => by
    cases s <;> first | (cases h; done) | skip
    rename_i e pos
    have h' := Bool.and_eq_true_iff.mp (show (okE T L E1 false e && !isCompE e) = true from h)
    exact PS.by (ps_expr ((snd2 E1 (pn := pn) c false e h'.1).1 rfl) (sw_plain (by simpa using h'.2) _ _ _)) fun D σ H q => s_ex (m := ev cf E1) (fun _ _ _ q => q) q
  | .ret E1, L, X, W, pn, c, s, h => by
    cases s <;> first | (cases h; done) | skip
    rename_i o pos
    cases o <;> first | (cases h; done) | skip
    exact PS.by (ps_ret ((snd2 E1 (pn := pn) c false _ h).1 rfl)) fun D σ H q => s_ret (m := ev cf E1) (fun _ _ _ q => q) q
  | .ite t a b, L, X, W, pn, c, s, h => by
    cases s <;> first | (cases h; done) | skip
    rename_i x y z pos
    replace h : (okE T L t true x && okSs T L a y && okSs T L b z) = true := h
    simp only [Bool.and_eq_true] at h
    exact PS.by (ps_if ((snd2 t (pn := pn) c true x h.1.1).2 rfl).1 (sndSs Wn a (pn := pn) c y h.1.2) (sndSs Wn b (pn := pn) c z h.2)) fun D σ H q => s_if (c := tst cf t) (a := exSs cf Wn a) (b := exSs cf Wn b) (fun _ _ _ q => q) (fun _ _ _ q => q) (fun _ _ _ q => q) q
  | .for_ g it b, L, X, W, pn, c, s, h => by
    cases s <;> first | (cases h; done) | skip
    rename_i t i x els pos
    cases els <;> first | (cases h; done) | skip
    replace h : (okG T L g t && okI T L it t i && okSs T L b x && !isSet i && !isStar t) = true := h
    simp only [Bool.and_eq_true, Bool.not_eq_true'] at h
    obtain ⟨⟨⟨⟨h1, h2⟩, h3⟩, h4⟩, h5⟩ := h
    exact PS.by (ps_for c.own c.calm (sndI it (pn := pn) c t i h2) (sndG g (pn := pn) c t h1) (sndSs Wn b (pn := pn) c x h3) (folded_of h4 _)) fun D σ H q => s_for (it := iter cf it) (g := asgG cf g) (b := exSs cf Wn b) (fun _ _ _ q => q) (fun _ _ _ _ q => q) (fun _ _ _ q => q) q
  | .while_ t b, L, X, W, pn, c, s, h => by
    cases s <;> first | (cases h; done) | skip
    rename_i x y els pos
    cases els <;> first | (cases h; done) | skip
    have h' := Bool.and_eq_true_iff.mp (show (okE T L t true x && okSs T L b y) = true from h)
    exact PS.by (ps_while c.own ((snd2 t (pn := pn) c true x h'.1).2 rfl).1 (sndSs Wn b (pn := pn) c y h'.2)) fun D σ H q => s_while (c := tst cf t) (b := exSs cf Wn b) (fun _ _ _ q => q) (fun _ _ _ q => q) q
  | .brk, L, X, W, pn, c, s, h => by
    cases s <;> first | (cases h; done) | skip
    exact PS.by ps_break fun D σ H q => s_brk q
  | .cont, L, X, W, pn, c, s, h => by
    cases s <;> first | (cases h; done) | skip
    exact PS.by ps_continue fun D σ H q => s_cont q
  | .pass, L, X, W, pn, c, s, h => by
    cases s <;> first | (cases h; done) | skip
    exact PS.by ps_pass fun D σ H q => s_next q
  | .raise cn fs es, L, X, W, pn, c, s, h => by
    obtain ⟨x, p, l, cpos, pos, rfl, rfl, h2, h3⟩ := raise_form (show okS T L (.raise cn fs es) s = true from h)
    have g := c.gl h2
    rcases h3 with ⟨rfl, rfl, rfl, h4⟩ | ⟨f, a, rfl, rfl, h4, h5⟩ | ⟨f, rfl, rfl, h4, rfl⟩
    · obtain ⟨C, e1, _, mk, _⟩ := c.er.er _ (List.contains_iff_mem.mp h4)
      exact PS.by (ps_raise c.calm c.tk (mk X p cpos rfl g.1 g.2)) fun D σ H q => raise0_of (by rw [c.wm]; exact e1) q
    · obtain ⟨C, e1, _, mk, _⟩ := c.er.er _ (List.contains_iff_mem.mp h4)
      have st := okEs_star h5 a (by simp)
      exact PS.by (ps_raise c.calm c.tk (mk X a _ p cpos rfl c.rm (sndEs es (pn := pn) c _ h5).1 g.1 g.2 (star_of st _ _))) fun D σ H q => raise1_of (m := evs cf es) (by rw [c.wm]; exact e1) q
    · obtain ⟨C, e1, mk⟩ := c.er.e0 _ (List.contains_iff_mem.mp h4)
      exact PS.by (ps_raise c.calm c.tk (mk X p cpos rfl c.rm g.1 g.2)) fun D σ H q => raiseN_of (by rw [c.wm]; exact e1) (show simS (KX X pn) W (raiseM x [f] [.non]) D σ H from q)
  | .tryK body cn cs i j, L, X, W, pn, c, s, h => by
    obtain ⟨b, x, n, y, np, yp, np2, ap, pos', pos, rfl, hh⟩ := tryK_form (show okS T L (.tryK body cn cs i j) s = true from h)
    simp only [Bool.and_eq_true] at hh
    simp only [Bool.not_eq_true', decide_eq_true_eq, List.all_eq_true, Option.isNone_iff_eq_none] at hh
    obtain ⟨⟨⟨⟨⟨⟨⟨⟨⟨⟨⟨h0, h1⟩, h3⟩, h4⟩, h5⟩, h6⟩, h7⟩, h8⟩, h9⟩, h10⟩, h11⟩, h12⟩ := hh
    obtain rfl : x = cn := by simpa using h0
    obtain ⟨f1, f2, f3⟩ := c.fr h5
    have g := c.gl h1
    obtain ⟨u, hu, _⟩ := c.er.ak x (List.contains_iff_mem.mp h10)
    have nm : Names X x u := ⟨g.1, g.2, by
      rcases hu with ⟨z, _⟩ | ⟨z1, z2, z3, _⟩
      · exact .inl z
      · exact .inr ⟨z1, z2, z3⟩⟩
    have ln : ∀ {z : Str}, L.sc.names.lookup z = some .local → X.env.kindOf z = some .local := fun {z} hz => by
      show X.env.scope.names.lookup z = _
      rw [c.sc]; exact hz
    refine PS.by (ps_try_keep (c := u) f1 f2 f3 c.nd (by rw [c.N]; exact h3) (by rw [c.N]; exact h4) (ln h6) (ln h7) h8 h9 nm (tb := fun w => simS (KX X pn) ⟨w, X.mg⟩ (exSs cf Wn body)) fun w pq xe tk po => sndSs Wn body (pn := pn) (c.tr tk po) b h12) fun D σ H q => ?_
    have := try_of (cv := u) (cs := cs) (by rw [c.wm]) (fun z hz => ?_) q
    · rw [c.wm] at this; exact this
    · obtain ⟨v, a, e1, e2, e3, _⟩ := c.er.sb _ (List.contains_iff_mem.mp (h11 z hz))
      rw [AskV.one hu e2]
      exact ⟨v, by rw [c.wm]; exact e1, e3⟩
  | .bad, L, X, W, pn, c, s, h => ⟨fun pins st σ H D I q => by
      obtain ⟨ρ, Z, S, en, F, k, r, h⟩ := q
      exact h.elim⟩
theorem sndSs (Wn : Nat) : ∀ (Ss : List S) {L : LC} {X : Cx} {W : MW} {pn : Nat → Option (Addr × Obj × HO)} (c : CtxOk T cf L X W) (ss : List Stmt), okSs T L Ss ss = true → PSs X ss (simS (KX X pn) W (exSs cf Wn Ss))
  | [], L, X, W, pn, c, [], h => PSs.by pss_nil fun D σ H q => s_next q
  | [], L, X, W, pn, c, _ :: _, h => by cases h
  | _ :: _, L, X, W, pn, c, [], h => by cases h
  | S1 :: Ss, L, X, W, pn, c, s :: ss, h => by
    have h' := Bool.and_eq_true_iff.mp (show (okS T L S1 s && okSs T L Ss ss) = true from h)
    exact PSs.by (pss_cons (sndS Wn S1 (pn := pn) c s h'.1) (sndSs Wn Ss (pn := pn) c ss h'.2)) fun D σ H q => s_seq (a := exS cf Wn S1) (b := exSs cf Wn Ss) (fun _ _ _ q => q) (fun _ _ _ q => q) q
end
end
end Mi
end
section
set_option Elab.async false
set_option maxRecDepth 100000
set_option linter.all false
namespace Mi
open PySem PySem.Spec PyProof.Rows L2
/-! ### defs -/
/-- what is known of a def of the table -/
structure DefOk (K : PySem.W.Frag) (mg : Str → Option Value) (T : Tab) (fns : List Fn) (p : FnT) (fa : Addr) (fd : FuncData) (ps N : List Str) (fn : Fn) (x qual : Str) (params : Arguments) (body : List Stmt) (scope : Scope) (dvs : List V) (kws : List (Str × V)) : Prop where
  at_ : fns[p.ix]? = some fn
  np : fn.np = p.np
  mg : mg p.name = some (.ref fa)
  fund : FunD K x qual params body scope dvs kws fa fd
  sc : FnScope N ps scope
  pl : ps.length = p.np
  nl : N.length = fn.nl
  ok : okSs T ⟨N, scope, none⟩ fn.body body = true
structure TabOk (K : PySem.W.Frag) (mg : Str → Option Value) (T : Tab) (fns : List Fn) : Prop where
  free : ∀ x ∈ T.frees, mg x = none
  con : ∀ p ∈ T.consts, ∃ (u : Value) (v : V), mg p.1 = some u ∧ RelV v u ∧ (∀ pn ρ Z H, RepS ⟨K, mg, pn⟩ ρ Z H p.2 v) ∧ ∀ ds, p.2 = .tup ds → ∃ a o, v = .ref a ∧ K.lookup a = some o ∧ o.cls = .type "tuple" ∧ o.dict = none
  kw : ∀ q ∈ T.kws, ∃ (p : FnT) (fa : Addr) (fd : FuncData) (ps N : List Str) (fn : Fn) (x qual : Str) (params : Arguments) (body : List Stmt) (scope : Scope) (dvs : List V) (kws : List (Str × V)), p.name = q.name ∧ p.ix = q.ix ∧ p.np = q.np ∧ DefOk K mg T fns p fa fd ps N fn x qual params body scope dvs kws ∧ ∀ pn, BindA ⟨K, mg, pn⟩ fd ps q.n q.ks q.arr
  fn : ∀ p ∈ T.fns, ∃ (fa : Addr) (fd : FuncData) (ps N : List Str) (fn : Fn) (x qual : Str) (params : Arguments) (body : List Stmt) (scope : Scope) (dvs : List V) (kws : List (Str × V)), DefOk K mg T fns p fa fd ps N fn x qual params body scope dvs kws ∧ L2.Binds K fd ps []
  er : ErrOk ⟨K, mg, noPn⟩ T.er
theorem pairs_start : ∀ (vs : List V) (ds : List D) (n : Nat), vs.length = ds.length → pairs (vs.map some ++ List.replicate n none) (ds.map some ++ List.replicate n none) = vs.zip ds
  | [], [], n, _ => by
    have : ∀ n : Nat, pairs (List.replicate n none) (List.replicate n none) = [] := by
      intro n
      induction n with
      | zero => rfl
      | succ n ih => exact ih
    exact this n
  | [], _ :: _, _, h => by simp at h
  | _ :: _, [], _, h => by simp at h
  | v :: vs, d :: ds, n, h => by
    show (v, d) :: pairs (vs.map some ++ List.replicate n none) (ds.map some ++ List.replicate n none) = _
    rw [pairs_start vs ds n (by simpa using h)]
    rfl
theorem env_start (vs : List V) (ds : List D) (n : Nat) (h : vs.length = ds.length) : EnvOk (vs.map some ++ List.replicate n none) (ds.map some ++ List.replicate n none) := by
  refine ⟨by simp [h], fun i d hi => ?_⟩
  by_cases hlt : i < ds.length
  · rw [List.getElem?_append_left (by simpa [h] using hlt)]
    have : i < vs.length := by omega
    exact ⟨vs[i], by simp [this]⟩
  · rw [List.getElem?_append_right (by simpa using hlt)] at hi
    rw [List.getElem?_replicate] at hi
    split at hi <;> cases hi
section
variable {P : Program} {w : World} {K : PySem.W.Frag} {mg : Str → Option Value} {base : Heap}
theorem run_len {fns : List Fn} {Wn : Nat} : ∀ {n f : Nat} {fn : Fn}, fns[f]? = some fn → ∀ ds s, ds.length ≠ fn.np → run fns Wn n f ds s = .stuck
  | 0, _, _, _, _, _, _ => rfl
  | n + 1, f, fn, h, ds, s, hl => by
    simp only [run, h]
    rw [if_neg hl]
theorem def_ok {T : Tab} {fns : List Fn} {Wn : Nat} (tb : TabOk K mg T fns) : ∀ (n : Nat) (p : FnT) (fa : Addr) (fd : FuncData) (ps N : List Str) (fn : Fn) (x qual : Str) (params : Arguments) (body : List Stmt) (scope : Scope) (dvs : List V) (kws : List (Str × V)),
    DefOk K mg T fns p fa fd ps N fn x qual params body scope dvs kws → ∀ pn, FnG P w K mg base n fa fd ps (spF ⟨K, mg, pn⟩ mg (run fns Wn n) p.np p.ix)
  | 0, p, fa, fd, ps, N, fn, x, qual, params, body, scope, dvs, kws, d, pn => ⟨fun vs H Q E h => h.1.trans d.pl.symm, fun A outer s H args us vs Q E _ _ _ _ _ h => by
      obtain ⟨_, ρ, Z, S, F, ds, _, _, h⟩ := h
      exact h.elim⟩
  | n + 1, p, fa, fd, ps, N, fn, x, qual, params, body, scope, dvs, kws, d, pn => by
    refine fnG_of d.fund d.sc (fun vs H Q E h => h.1.trans d.pl.symm) fun cdv A outer s H vs Q E hr gd h => ?_
    let X : Cx := cxOf (L2.CX P w) P w K mg base N qual scope fa cdv A outer s H E
    let W : MW := ⟨fun cls dx _ H => E cls dx H, mg⟩
    have tk : Takes X W.w := takes_of rfl rfl rfl rfl
    have c : CtxOk T (run fns Wn n) ⟨N, scope, none⟩ X W := by
      refine ⟨rfl, d.sc.nd, rfl, d.sc.kind, rfl, hr.units, tb.free, tb.con, gd, fun q hq => ?_, fun q hq => ?_, fun σ => passAt tk σ, rfl, tk, tb.er, hr.mono (Nat.zero_le _), fun _ => ⟨rfl, rfl, rfl⟩, passes_of (K := fun e s'' => L2.CX P w outer H s E e s'') rfl, .inl ⟨rfl, fun _ => rfl⟩⟩
      · obtain ⟨p', fa', fd', ps', N', fn', x', qual', params', body', scope', dvs', kws', e1, e2, e3, d', hb⟩ := tb.kw q hq
        refine ⟨fa', fd', ps', n, by rw [← e1]; exact d'.mg, d'.fund.kp, hb, hr, ?_, fun ds s hl => ?_⟩
        · rw [← e2, ← e3]; exact def_ok tb n p' fa' fd' ps' N' fn' x' qual' params' body' scope' dvs' kws' d'
        · rw [← e2]
          exact run_len d'.at_ ds s (by rw [d'.np, e3]; exact hl)
      obtain ⟨fa', fd', ps', N', fn', x', qual', params', body', scope', dvs', kws', d', bd'⟩ := tb.fn q hq
      refine ⟨fa', fd', ps', n, d'.mg, d'.fund.kp, bd', hr, def_ok tb n q fa' fd' ps' N' fn' x' qual' params' body' scope' dvs' kws' d', fun ds s hl => run_len d'.at_ ds s ?_⟩
      rw [d'.np]; exact hl
    refine ⟨_, sndSs Wn fn.body (pn := pn) c body d.ok, ?_⟩
    obtain ⟨hl, ρ, Z, S, F, ds, hd, r, h⟩ := h
    have hn : ds.length = fn.np := by rw [hd, hl, d.np]
    simp only [run, d.at_] at h
    rw [if_pos hn] at h
    have e1 : L2.start N vs = vs.map some ++ List.replicate (N.length - vs.length) none := rfl
    have e2 : initE fn.nl ds = ds.map some ++ List.replicate (N.length - vs.length) none := by
      unfold initE; rw [d.nl, hd]
    rw [e2] at h
    rw [e1]
    refine ⟨ρ, Z, S, _, F, env_start vs ds _ hd.symm, by rw [pairs_start vs ds _ hd.symm]; exact r, ?_⟩
    generalize exSs (run fns Wn n) Wn fn.body (ds.map some ++ List.replicate (N.length - vs.length) none) S = res at h
    have dropE : ∀ {σ : L2.St} {en : Env}, Le F (pairs σ en ++ F) := fun {σ en} => ⟨fun p hp => List.mem_append_right _ hp, fun a => by simp only [cF_append]; omega⟩
    cases res with
    | ok f en S' =>
      cases f with
      | next => exact fun ρ' Z' σ' H' k r' => h ρ' Z' .non H' ((r'.le dropE).push rfl)
      | ret d' => exact fun ρ' Z' σ' v H' k r' => h ρ' Z' v H' (r'.le (Le.cons dropE _))
      | brk => exact h.elim
      | cont => exact h.elim
    | exc x' en S' => exact fun ρ' Z' σ' H' cls dx k r' ex => h ρ' Z' H' cls dx (r'.le dropE) ex
    | stuck => exact h.elim
end
/-! ### a law -/
/-- the heap that the call begins with: the script hidden where it is no object of the module's -/
theorem law_callG {P : Program} {w : World} {K : PySem.W.Frag} {mg mb : Str → Option Value} {k : Nat} {fa a : Addr} {fd : FuncData} {x : Str} {sp : Sp} {s₁ : Shared} {vs : List Value} {ns : List Int}
    (KX : K.In s₁.heap) (hns : s₁.heap.Ns mainGlobals mg) (hb : s₁.heap.Ns builtinsNs mb) (hbb : ∀ x : Str, x ≠ "__name__" → mb x = bootBuiltins x) (hlim : s₁.heap.NoLimit) (hg : s₁.gens = #[])
    (ha : s₁.heap.get? a = some { cls := .type "list", data := .seq vs.toArray }) (hi : IntsAre vs ns) (hl : ns.length ≤ sizeLine) (hr : Room k callerA)
    (F : ∀ base : Heap, K.In base → base.Ns mainGlobals mg → FnG P w K mg base k fa fd [x] sp) (hbind : ∀ (s : Shared) (u : Value), BindsTo s fd ⟨[u], []⟩ [(x, u)])
    (hsp : ∀ H : Hp, Only H → SqL K H a (ns.map V.int) → sp [.ref a] H (fun v _ => v = .bl true) fun _ _ _ => False) :
    codeAny (model P w) callerA (.call (.ref fa) ⟨[.ref a], []⟩) (fun r s' => r = .ok (.ret (.bool true)) ∧ OldK s₁.heap s'.heap ∧ s'.os = s₁.os ∧ AllBare s'.gens) s₁ := by
  have rv := vals_ints hi
  have lv := hi.length
  have main : ∀ H : Hp, Only H → SqL K H a (ns.map V.int) → HOk P w H s₁.heap → (∀ b, H b ≠ none → b = a ∧ K.lookup a = none) →
      codeAny (model P w) callerA (.call (.ref fa) ⟨[.ref a], []⟩) (fun r s' => r = .ok (.ret (.bool true)) ∧ OldK s₁.heap s'.heap ∧ s'.os = s₁.os ∧ AllBare s'.gens) s₁ := by
    intro H only script hok one
    have hid : ∀ {b : Addr} {o : Obj}, s₁.heap.get? b = some o → (b = a → K.lookup a ≠ none ∨ ∃ es ep, o.data = .dict es ep) → (hidT s₁.heap H).get? b = some o := by
      intro b o e h
      refine hidT_get e ?_
      cases q : H b with
      | none => rfl
      | some u =>
        obtain ⟨rfl, hk⟩ := one b (by rw [q]; simp)
        rcases h rfl with h | ⟨es, ep, h⟩
        · exact absurd hk h
        · rw [ha] at e; cases e; cases h
    have names : ∀ {b : Addr} {m : Str → Option Value}, s₁.heap.Ns b m → (hidT s₁.heap H).Ns b m := by
      rintro b m ⟨o, es, ep, e, d, r⟩
      exact ⟨o, es, ep, hid e fun _ => .inr ⟨es, ep, d⟩, d, r⟩
    have kin : K.In (hidT s₁.heap H) := fun b o e => hid (KX b o e) fun z => .inl (by rw [← z, e]; simp)
    have lim : (hidT s₁.heap H).NoLimit := by
      obtain ⟨mc, h1, h2⟩ := hlim
      exact ⟨mc, names h1, h2⟩
    have mod : Mod K mg (hidT s₁.heap H) := ⟨kin, names hns, ⟨mb, names hb, hbb⟩, lim⟩
    have env0 : Env0 P w K mg (hidT s₁.heap H) callerA [] s₁ H := ⟨rfl, mod, fun b o e => of_hidT e, Nat.le_of_eq (hidT_size _ _), trivial, (fun b hb => absurd (show b ∈ ([] : List Addr) from hb) (by simp)), hok, AllBare.of_eq hg⟩
    have call := (F _ kin (names hns)).run callerA [] s₁ H ⟨[.ref a], []⟩ [.ref a] [.ref a] _ _ hr rfl env0 (hbind s₁ (.ref a)) (.cons rfl .nil) (hsp H only script)
    refine codeAny_mono call fun r s' h => ?_
    cases r with
    | error e =>
      obtain ⟨_, _, _, _, _, _, _, _, _, _, _, _, z⟩ := h
      exact z.elim
    | ok fl =>
      cases fl with
      | ret u =>
        obtain ⟨v, H', os, bare, un, hok', rel, q⟩ := h
        obtain rfl : v = .bl true := q
        obtain rfl : u = Value.bool true := rel
        refine ⟨rfl, OldK.of_keep fun b o e => ?_, os, bare⟩
        cases q : H b with
        | none => exact un.keep b o e q (fun z => absurd (show b ∈ ([] : List Addr) from z) (by simp)) (by simp)
        | some u =>
          rcases only b with z | ⟨ox, xs, z⟩
          · rw [q] at z; cases z
          · have hx := hok' b _ (un.frzs b ox _ z)
            have e1 := (hok b _ z).1
            rw [e] at e1
            cases e1
            exact hx.1
      | _ => exact h.elim
  cases hk : K.lookup a with
  | some o =>
    obtain rfl : o = { cls := .type "list", data := .seq vs.toArray } := by
      have e := KX a o hk
      rw [ha] at e; cases e; rfl
    refine main (fun _ => none) (fun _ => .inl rfl) (.inr ⟨_, vs.toArray, _, hk, rfl, rfl, rfl, ?_, ?_⟩) (fun b u z => by cases z) fun b z => absurd rfl z
    · rw [List.size_toArray, lv]; exact hl
    · simpa using rv
  | none =>
    have self : (if a = a then some (HO.frz { cls := .type "list", data := .seq vs.toArray } (.lst (ns.map V.int))) else none) = some (HO.frz { cls := .type "list", data := .seq vs.toArray } (.lst (ns.map V.int))) := if_pos rfl
    refine main (fun b => if b = a then some (.frz { cls := .type "list", data := .seq vs.toArray } (.lst (ns.map V.int))) else none) (fun b => ?_) (.inl (.inr ⟨_, self⟩)) (fun b u z => ?_) fun b z => ?_
    · by_cases e : b = a
      · exact .inr ⟨_, _, if_pos e⟩
      · exact .inl (if_neg e)
    · by_cases e : b = a
      · subst e
        have := self.symm.trans z
        cases this
        exact ⟨ha, by rw [List.length_map]; exact hl, vs, _, rv, ha⟩
      · have := (if_neg e).symm.trans z
        cases this
    · by_cases e : b = a
      · exact ⟨e, hk⟩
      · exact absurd (if_neg e) z
/-- the end of a law's proof: the head's facts give the table; the evaluator says True -/
theorem law_end {l : PySem.W.OpenLaw} {n k : Nat} {q : Program} {loose : List Str} {XP : (Str → Option Value) → Heap → Prop} {YP : World → Heap → Prop} {d : DefRec} {x : Str} {fns : List Fn} {Wn : Nat} {p : FnT} (hp : p.np = 1)
    (hn : l.most = some n) (hn2 : n ≤ sizeLine) (hdf : d.params.defaults = []) (hr : Room k callerA)
    (F : ∀ (w : World) (mg : Str → Option Value) (fa : Addr) (h : Heap), YP w h → h.Ns mainGlobals mg → mg d.name = some (.ref fa) →
      ∃ (K : PySem.W.Frag) (T : Tab), K.In h ∧ TabOk K mg T fns ∧ ∃ (fd : FuncData) (N : List Str) (fn : Fn) (x' qual : Str) (params : Arguments) (body : List Stmt) (scope : Scope) (dvs : List V) (kws : List (Str × V)),
        (∀ (s : Shared) (u : Value), BindsTo s fd ⟨[u], []⟩ [(x, u)]) ∧ DefOk K mg T fns p fa fd [x] N fn x' qual params body scope dvs kws)
    (law : ∀ ns : List Int, ns.length ≤ n → ∃ S, run fns Wn k p.ix [.frz (ns.map D.int)] [] = .ok (.bl true) S) :
    PySem.W.WalkO q loose XP YP l.row.toRowW d [] (fun f vs => PySem.call f vs) := by
  refine Att.attach_call hn hdf fun w s₀ s₁ mg mb fa o pm cd doc a vs ns G Y ho hd hcd hmg hobj hints hlen hg => ?_
  obtain ⟨K, T, KX, tb, fd, N, fn, x', qual, params, body, scope, dvs, kws, hb, dk⟩ := F w mg fa _ Y G.T.g hmg
  refine law_callG (sp := spF ⟨K, mg, noPn⟩ mg (run fns Wn k) p.np p.ix) KX G.T.g G.T.b G.T.builtins G.T.nolimit hg hobj hints (Nat.le_trans hlen hn2) hr (fun base _ _ => def_ok tb k p fa fd [x] N fn x' qual params body scope dvs kws dk noPn) hb fun H hO hS => ?_
  · obtain ⟨S, e⟩ := law ns hlen
    have rs : ∀ ns : List Int, RepSs ⟨K, mg, noPn⟩ [] [] H (ns.map D.int) (ns.map V.int) := by
      intro ns
      induction ns with
      | nil => rfl
      | cons i ns ih => exact ⟨_, _, rfl, rfl, ih⟩
    have r : RepS ⟨K, mg, noPn⟩ [] [] H (.frz (ns.map D.int)) (.ref a) := by
      refine ⟨a, _, rfl, ?_, rs ns⟩
      rcases hS with (hS | hS) | ⟨o', its, m, hk, hc, hdi, hs, hz, rv⟩
      · rcases hO a with z | ⟨o, xs, z⟩
        · rw [hS] at z; cases z
        · rw [hS] at z; cases z
      · exact .inr (.inl hS)
      · have e1 := KX a o' hk
        rw [hobj] at e1
        cases e1
        cases hs
        exact .inr (.inr ⟨vs, _, hk, by simpa using hz, by simpa using rv⟩)
    have r0 : Mi.Rel ⟨K, mg, noPn⟩ [] [] [] [] H := Mi.Rel.mk rfl (fun n o a h => by simp at h) (fun p h => by cases h) (fun a => by simp [cF]) (fun a h => by cases h) (fun t x h => by cases h)
    refine ⟨hp.symm, [], [], [], [], [.frz (ns.map D.int)], rfl, r0.push r, ?_⟩
    rw [e]
    exact fun ρ' Z' v H' r' => (r'.fr _ List.mem_cons_self : Rep ⟨K, mg, noPn⟩ ρ' Z' H' (.bl true) v).bl
end Mi
end
section
set_option Elab.async false
set_option maxRecDepth 100000
set_option linter.all false
namespace Mi
open PySem PySem.Spec PyProof.Rows L2
/-! ### constants of the module -/
mutual
def cB (K : PySem.W.Frag) : D → Value → Bool
  | .non, u => (match u with | .none => true | _ => false)
  | .bl b, u => (match u with | .bool c => b == c | _ => false)
  | .int i, u => (match u with | .int j _ => decide (i = j) | _ => false)
  | .str x, u => (match u with | .str y _ => decide (x = y) | _ => false)
  | .tup ds, u => (match u with
    | .ref a => (match K.lookup a with
      | some ⟨.type c, none, .seq its _, _⟩ => decide (c = "tuple") && (decide (its.size ≤ sizeLine) && cBs K ds its.toList)
      | _ => false)
    | _ => false)
  | _, _ => false
def cBs (K : PySem.W.Frag) : List D → List Value → Bool
  | [], l => l.isEmpty
  | d :: ds, l => (match l with
    | u :: us => cB K d u && cBs K ds us
    | [] => false)
end
section
variable {K : PySem.W.Frag} {mg : Str → Option Value}
mutual
theorem cB_ok : ∀ (d : D) (u : Value), cB K d u = true → ∃ v, RelV v u ∧ (∀ pn ρ Z H, RepS ⟨K, mg, pn⟩ ρ Z H d v) ∧ ∀ ds, d = .tup ds → ∃ a o, v = .ref a ∧ K.lookup a = some o ∧ o.cls = .type "tuple" ∧ o.dict = none
  | .non, u, h => by
    cases u <;> first | (cases h; done) | skip
    exact ⟨.non, rfl, fun _ _ _ _ => rfl, fun _ z => by cases z⟩
  | .bl b, u, h => by
    cases u <;> first | (cases h; done) | skip
    rename_i b2
    have e : b = b2 := by simpa [cB] using h
    subst e
    exact ⟨.bl b, rfl, fun _ _ _ _ => rfl, fun _ z => by cases z⟩
  | .int i, u, h => by
    cases u <;> first | (cases h; done) | skip
    have e := of_decide_eq_true h
    subst e
    exact ⟨.int i, ⟨_, rfl⟩, fun _ _ _ _ => rfl, fun _ z => by cases z⟩
  | .str i, u, h => by
    cases u <;> first | (cases h; done) | skip
    have e := of_decide_eq_true h
    subst e
    exact ⟨.str i, ⟨_, rfl⟩, fun _ _ _ _ => rfl, fun _ z => by cases z⟩
  | .tup ds, u, h => by
    cases u <;> first | (cases h; done) | skip
    rename_i a
    unfold cB at h
    simp only at h
    split at h
    · rename_i c its n sl hk
      simp only [Bool.and_eq_true, decide_eq_true_eq] at h
      obtain ⟨rfl, h2, h3⟩ := h
      obtain ⟨vs, rv, hr⟩ := cBs_ok ds its.toList h3
      exact ⟨.ref a, rfl, fun pn ρ Z H => ⟨a, vs, rfl, .inr ⟨_, its, n, hk, rfl, rfl, h2, rv⟩, hr pn ρ Z H⟩, fun _ _ => ⟨a, _, rfl, hk, rfl, rfl⟩⟩
    · cases h
  | .frz _, _, h => by cases h
  | .own _, _, h => by cases h
  | .ref _, _, h => by cases h
theorem cBs_ok : ∀ (ds : List D) (us : List Value), cBs K ds us = true → ∃ vs, Vals vs us ∧ ∀ pn ρ Z H, RepSs ⟨K, mg, pn⟩ ρ Z H ds vs
  | [], [], _ => ⟨[], .nil, fun _ _ _ _ => rfl⟩
  | [], _ :: _, h => by cases h
  | _ :: _, [], h => by cases h
  | d :: ds, u :: us, h => by
    have h' := Bool.and_eq_true_iff.mp (show (cB K d u && cBs K ds us) = true from h)
    obtain ⟨v, r, hr, _⟩ := cB_ok d u h'.1
    obtain ⟨vs, rs, hrs⟩ := cBs_ok ds us h'.2
    exact ⟨v :: vs, .cons r rs, fun pn ρ Z H => ⟨v, vs, rfl, hr pn ρ Z H, hrs pn ρ Z H⟩⟩
end
end
def conB (cs : List (Str × D)) (K : PySem.W.Frag) : Bool := cs.all fun p => match PySem.W.nsIn K mainGlobals p.1 with
  | some (some u) => cB K p.2 u
  | _ => false
/-! ### the defs -/
structure Ent where
  d : He.DefD
  fn : Fn
  ps : List Str
  N : List Str
def fnTs : Nat → List Ent → List FnT
  | _, [] => []
  | i, e :: es => if e.d.kwd.isEmpty then ⟨e.d.name, i, e.fn.np⟩ :: fnTs (i + 1) es else fnTs (i + 1) es
def mkTab (frees : List Str) (es : List Ent) (cs : List (Str × D)) (kws : List KwT) (er : ErrT := {}) : Tab := ⟨frees, fnTs 0 es, cs, kws, er⟩
def scB (N ps : List Str) (sc : Scope) : Bool := (match sc.kind with | .function => true | _ => false) && !sc.isCoroutine && !sc.isGenerator && decide N.Nodup && decide (N.take ps.length = ps) &&
  (ps.all fun x => match sc.names.lookup x with | some .local => true | some .cell => true | _ => false) && (sc.names.all fun y => match y.2 with | .free => false | _ => true)
theorem scB_ok {N ps : List Str} {sc : Scope} (h : scB N ps sc = true) : FnScope N ps sc := by
  unfold scB at h
  simp only [Bool.and_eq_true, decide_eq_true_eq, Bool.not_eq_true', List.all_eq_true] at h
  obtain ⟨⟨⟨⟨⟨⟨h1, h2⟩, h3⟩, h4⟩, h5⟩, h6⟩, h7⟩ := h
  refine ⟨?_, h2, h3, h4, h5, fun x hx => ?_, fun y hy e => ?_⟩
  · split at h1
    · assumption
    · cases h1
  · have := h6 x hx
    split at this
    · exact .inl (by assumption)
    · exact .inr (by assumption)
    · cases this
  · have := h7 y hy
    rw [e] at this
    cases this
/-- the def is told by its term -/
def entB (T : Tab) (e : Ent) : Bool := decide (e.d.at_ = (e.d.name, none)) && e.d.dfl.isEmpty && decide (e.ps.length = e.fn.np) && decide (e.N.length = e.fn.nl) && scB e.N e.ps e.d.scope && okSs T ⟨e.N, e.d.scope, none⟩ e.fn.body e.d.body
def BdOk (e : Ent) : Prop := e.d.kwd = [] → ∀ (kV doc pm : Value) (an : Option Addr) (cdv ct : Value) (us : List Value), us.length = e.ps.length → bindArgs (PySem.W.fnOf e.d.name e.d.qual e.d.params e.d.body e.d.scope .none kV doc pm an cdv ct) ⟨us, []⟩ = pure (e.ps.zip us)
def BdAll : List Ent → Prop
  | [] => True
  | e :: es => BdOk e ∧ BdAll es
theorem BdAll.of : ∀ {es : List Ent} {e : Ent}, BdAll es → e ∈ es → BdOk e
  | e :: es, _, h, hm => by
    rcases List.mem_cons.mp hm with rfl | hm
    · exact h.1
    · exact BdAll.of h.2 hm
def faOf (frees : List Str) (es : List Ent) : List He.Fa := es.map (fun e => He.Fa.glo e.d.name) ++ frees.map He.Fa.free
/-- the facts, and that the constants are these; xs further defs (of classes), eb what else is asked -/
def hookM (n : Nat) (frees : List Str) (es : List Ent) (cs : List (Str × D)) (xs : List He.DefD := []) (eb : PySem.W.Frag → Bool := fun _ => true) : PySem.W.Hook where
  α := He.AlD × Bool
  obs := fun s => (He.obsDG n (faOf frees es) (es.map Ent.d ++ xs) s.heap.get?, conB cs (He.frG s.heap.get? (He.asD s.heap.get? n)) && eb (He.frG s.heap.get? (He.asD s.heap.get? n)))
  val := fun _ => (He.valD (es.map Ent.d ++ xs), true)
  says := fun _ h => ∃ K : PySem.W.Frag, K.In h ∧ He.SaysD (faOf frees es) (es.map Ent.d ++ xs) K ∧ (conB cs K && eb K) = true
  of := fun _ _ e => ⟨_, He.frG_in, congrArg Prod.fst e, congrArg Prod.snd e⟩
  keeps := fun _ _ _ ⟨K, hK, c⟩ k => ⟨K, PySem.W.Frag.In.keeps hK k, c⟩
def obM (n : Nat) (frees : List Str) (es : List Ent) (cs : List (Str × D)) (s : PySem.W.SharedT) (xs : List He.DefD := []) (eb : PySem.W.Frag → Bool := fun _ => true) : He.AlD × Bool :=
  (He.obsDG n (faOf frees es) (es.map Ent.d ++ xs) (HandSHeadRun.getT s), conB cs (He.frG (HandSHeadRun.getT s) (He.asD (HandSHeadRun.getT s) n)) && eb (He.frG (HandSHeadRun.getT s) (He.asD (HandSHeadRun.getT s) n)))
theorem obM_eq {n : Nat} {frees : List Str} {es : List Ent} {cs : List (Str × D)} {xs : List He.DefD} {eb : PySem.W.Frag → Bool} (s : PySem.W.SharedT) : obM n frees es cs s xs eb = (hookM n frees es cs xs eb).obs s.abs := by
  have e : HandSHeadRun.getT s = s.abs.heap.get? := funext (HandSHeadRun.getT_eq s)
  unfold obM
  rw [e]
  rfl
section
variable {K : PySem.W.Frag} {mg : Str → Option Value} {h : Heap} {frees : List Str} {es : List Ent} {cs : List (Str × D)} {kws : List KwT} {er : ErrT} {xs : List He.DefD}
theorem fnTs_at : ∀ {es : List Ent} {k : Nat} {p : FnT}, p ∈ fnTs k es → ∃ i e, es[i]? = some e ∧ p = ⟨e.d.name, k + i, e.fn.np⟩ ∧ e.d.kwd = []
  | [], _, _, h => by cases h
  | e :: es, k, p, h => by
    have tail : p ∈ fnTs (k + 1) es → ∃ i e', (e :: es)[i]? = some e' ∧ p = ⟨e'.d.name, k + i, e'.fn.np⟩ ∧ e'.d.kwd = [] := fun h => by
      obtain ⟨i, e', h1, h2, h3⟩ := fnTs_at h
      exact ⟨i + 1, e', h1, by rw [h2, Nat.add_right_comm k 1 i, Nat.add_assoc k i 1], h3⟩
    simp only [fnTs] at h
    split at h
    · rename_i hq
      rcases List.mem_cons.mp h with rfl | h
      · exact ⟨0, e, rfl, rfl, List.isEmpty_iff.mp hq⟩
      · exact tail h
    · exact tail h
theorem ent_ok (X : K.In h) (G : h.Ns mainGlobals mg) (c : He.SaysD (faOf frees es) (es.map Ent.d ++ xs) K) (hb : BdAll es) {i : Nat} {e : Ent} (hi : es[i]? = some e) (he : entB (mkTab frees es cs kws er) e = true) :
    ∃ fd, DefOk K mg (mkTab frees es cs kws er) (es.map Ent.fn) ⟨e.d.name, i, e.fn.np⟩ (He.ga K e.d.name) fd e.ps e.N e.fn e.d.name e.d.qual e.d.params e.d.body e.d.scope [] (e.d.kws K) ∧
      (e.d.kwd = [] → L2.Binds K fd e.ps []) ∧ (e.d.kwd = [] → ∀ (s : Shared) (us : List Value), us.length = e.ps.length → BindsTo s fd ⟨us, []⟩ (e.ps.zip us)) := by
  have hm : e ∈ es := List.mem_of_getElem? hi
  unfold entB at he
  simp only [Bool.and_eq_true, decide_eq_true_eq] at he
  obtain ⟨⟨⟨⟨⟨h1, h0⟩, h2⟩, h3⟩, h4⟩, h5⟩ := he
  obtain ⟨fd, F⟩ := He.SaysD.defs c (d := e.d) (List.mem_append_left _ (List.mem_map_of_mem hm))
  have hd : e.d.dvs K = [] := by
    unfold He.DefD.dvs
    rw [List.isEmpty_iff.mp h0]; rfl
  have ha : He.fAd K e.d.at_ = He.ga K e.d.name := by rw [h1]; rfl
  rw [hd, ha] at F
  refine ⟨fd, ⟨by simp [hi], rfl, ?_, F, scB_ok h4, h2, h3, h5⟩, fun hq => F.bindsN (hb.of hm hq), fun hq => F.bindsA (hb.of hm hq)⟩
  exact He.glo_ok X G (He.SaysD.facts c (f := .glo e.d.name) (List.mem_append_left _ (List.mem_map_of_mem hm)))
/-- a call by keywords: which def, and how it binds -/
def KwOk (es : List Ent) (q : KwT) : Prop := ∃ e : Ent, es[q.ix]? = some e ∧ q.name = e.d.name ∧ q.np = e.fn.np ∧ ∀ (K : KC) (kV doc pm : Value) (an : Option Addr) (cdv ct : Value), KwdV K.k kV (e.d.kws K.k) → BindA K (PySem.W.fnOf e.d.name e.d.qual e.d.params e.d.body e.d.scope .none kV doc pm an cdv ct) e.ps q.n q.ks q.arr
def KwAll (es : List Ent) : List KwT → Prop
  | [] => True
  | q :: qs => KwOk es q ∧ KwAll es qs
theorem KwAll.of {es : List Ent} : ∀ {qs : List KwT} {q : KwT}, KwAll es qs → q ∈ qs → KwOk es q
  | q :: qs, _, h, hm => by
    rcases List.mem_cons.mp hm with rfl | hm
    · exact h.1
    · exact KwAll.of h.2 hm
theorem tab_ok (X : K.In h) (G : h.Ns mainGlobals mg) (c : He.SaysD (faOf frees es) (es.map Ent.d ++ xs) K) (hc : conB cs K = true) (hb : BdAll es) (he : (es.all fun e => entB (mkTab frees es cs kws er) e) = true)
    (hk : KwAll es kws) (hE : ErrOk ⟨K, mg, noPn⟩ er) :
    TabOk K mg (mkTab frees es cs kws er) (es.map Ent.fn) := by
  refine ⟨fun x hx => ?_, fun p hp => ?_, fun q hq => ?_, fun p hp => ?_, hE⟩
  · exact He.free_ok X G (He.SaysD.facts c (f := .free x) (List.mem_append_right _ (List.mem_map_of_mem hx)))
  · have := List.all_eq_true.mp hc p hp
    split at this
    · rename_i u hu
      obtain ⟨v, r, hr, ht⟩ := cB_ok (mg := mg) p.2 u this
      exact ⟨u, v, PySem.W.mg_of X G hu, r, hr, ht⟩
    · cases this
  · obtain ⟨e, hi, h1, h2, hb2⟩ := hk.of hq
    have hm := List.mem_of_getElem? hi
    have hee := List.all_eq_true.mp he e hm
    obtain ⟨fd, dk, _, _⟩ := ent_ok (cs := cs) (kws := kws) (er := er) (xs := xs) X G c hb hi hee
    refine ⟨_, _, fd, _, _, _, _, _, _, _, _, _, _, h1.symm, rfl, h2.symm, dk, ?_⟩
    obtain ⟨oc, od, dV, kV, doc, pm, an, cdv, ct, osl, rfl, lk, hcd, hD, hK⟩ := dk.fund.ex
    rcases hD with ⟨_, rfl⟩ | ⟨z, _⟩
    · exact fun pn => hb2 ⟨K, mg, pn⟩ kV doc pm an cdv ct hK
    · exact absurd rfl z
  · obtain ⟨i, e, hi, rfl, hq⟩ := fnTs_at hp
    obtain ⟨fd, dk, bdk, _⟩ := ent_ok (cs := cs) (kws := kws) (er := er) (xs := xs) X G c hb hi (List.all_eq_true.mp he e (List.mem_of_getElem? hi))
    rw [Nat.zero_add]
    exact ⟨_, fd, _, _, _, _, _, _, _, _, _, _, dk, bdk hq⟩
end
/-- by keywords alone: the values by their places -/
theorem bindA_perm {K : KC} {fd : FuncData} {ps : List Str} {n : Nat} {ks : List Str} (is : List Nat) (hi : ∀ i ∈ is, i < n + ks.length)
    (h : ∀ us ws : List Value, us.length = n → ws.length = ks.length → bindArgs fd ⟨us, ks.zip ws⟩ = pure (ps.zip (is.map fun i => (us ++ ws).getD i .none))) : BindA K fd ps n ks (is.map .inl) := by
  intro s us ws _ hu hw
  refine ⟨is.map fun i => (us ++ ws).getD i .none, .of_eq (h us ws hu hw), fun vs hv => ⟨is.map fun i => vs.getD i .non, ?_, fun ρ Z H ds hr => ?_⟩⟩
  · have hl : vs.length = n + ks.length := by rw [hv.length]; simp [hu, hw]
    have one : ∀ i, i < n + ks.length → RelV (vs.getD i .non) ((us ++ ws).getD i .none) := by
      intro i hi
      have e : vs[i]? = some vs[i] := List.getElem?_eq_getElem (by omega)
      obtain ⟨u, hu', ru⟩ := hv.get e
      rw [List.getD_eq_getElem?_getD, List.getD_eq_getElem?_getD, e, hu']
      exact ru
    clear h
    induction is with
    | nil => exact .nil
    | cons i is ih => exact .cons (one i (hi i List.mem_cons_self)) (ih fun j hj => hi j (List.mem_cons_of_mem _ hj))
  · have hl : vs.length = n + ks.length := by rw [hv.length]; simp [hu, hw]
    have hd := hr.length
    have one : ∀ i, i < n + ks.length → RepS K ρ Z H (ds.getD i .non) (vs.getD i .non) := by
      intro i hi
      have e : ds[i]? = some ds[i] := List.getElem?_eq_getElem (by omega)
      obtain ⟨v, hv', rv⟩ := hr.get e
      rw [List.getD_eq_getElem?_getD, List.getD_eq_getElem?_getD, e, hv']
      exact rv
    clear h
    show RepSs K ρ Z H (arrange (is.map .inl) ds) _
    unfold arrange
    rw [List.map_map]
    induction is with
    | nil => rfl
    | cons i is ih => exact ⟨_, _, rfl, one i (hi i List.mem_cons_self), ih fun j hj => hi j (List.mem_cons_of_mem _ hj)⟩
/-- a default that is no object -/
def sV : D → V
  | .bl b => .bl b
  | .int i => .int i
  | .str x => .str x
  | _ => .non
def sOkV : D → Bool
  | .bl _ => true
  | .int _ => true
  | .str _ => true
  | .non => true
  | _ => false
theorem sV_rep {K : KC} {ρ Z : List Addr} {H : Hp} {d : D} (h : sOkV d = true) : RepS K ρ Z H d (sV d) := by cases d <;> first | rfl | cases h
/-- values by their places, the lacking ones by their defaults -/
def placeA {α : Type} (z : α) (arr : List (Nat ⊕ Nat)) (xs ms : List α) : List α := arr.map fun a => match a with
  | .inl i => xs.getD i z
  | .inr j => ms.getD j z
def arrOf (arr : List (Nat ⊕ Nat)) (ds : List D) : List (Nat ⊕ D) := arr.map fun a => match a with
  | .inl i => .inl i
  | .inr j => .inr (ds.getD j .non)
theorem bindA_kwd {K : KC} {fd : FuncData} {ps : List Str} {n : Nat} {ks : List Str} {kV : Value} {kws : List (Str × V)} (hK : KwdV K.k kV kws) (hk : kws ≠ []) (ms : List (Str × D)) (arr : List (Nat ⊕ Nat)) (hms : ∀ q ∈ ms, (q.1, sV q.2) ∈ kws ∧ sOkV q.2 = true)
    (hi : ∀ a ∈ arr, match a with | .inl i => i < n + ks.length | .inr j => j < ms.length)
    (h : ∀ (E : Addr) (us ws mv : List Value), kV = .ref E → us.length = n → ws.length = ks.length → mv.length = ms.length → KwChain E ((ms.map (·.1)).zip mv) (bindArgs fd ⟨us, ks.zip ws⟩) (ps.zip (placeA .none arr (us ++ ws) mv))) :
    BindA K fd ps n ks (arrOf arr (ms.map (·.2))) := by
  intro s us ws X hu hw
  rcases hK with e | ⟨E, rfl, hq⟩
  · exact absurd e hk
  · obtain ⟨mv, hl, rk, hks⟩ := kwd_vals (K := K.k) (D := E) (ms := ms.map fun q => (q.1, sV q.2)) fun q hm => by
      obtain ⟨p, hp, rfl⟩ := List.mem_map.mp hm
      exact hq _ (hms p hp).1
    have hl' : mv.length = ms.length := by rw [hl, List.length_map]
    have hn : (ms.map fun q => (q.1, sV q.2)).map (·.1) = ms.map (·.1) := by rw [List.map_map]; rfl
    have hv2 : (ms.map fun q => (q.1, sV q.2)).map (·.2) = ms.map fun q => sV q.2 := by rw [List.map_map]; rfl
    rw [hn] at hks
    rw [hv2] at rk
    refine ⟨placeA .none arr (us ++ ws) mv, BindsTo.of_looks fun M => KwChain.looks X hks (h E us ws mv rfl hu hw hl'), fun vs hv => ⟨placeA .non arr vs (ms.map fun q => sV q.2), ?_, fun ρ Z H ds hr => ?_⟩⟩
    · have hlv : vs.length = n + ks.length := by rw [hv.length]; simp [hu, hw]
      have one : ∀ {us : List Value} {vs : List V} {i : Nat}, Vals vs us → i < vs.length → RelV (vs.getD i .non) (us.getD i .none) := by
        intro us vs i hv hi
        have e : vs[i]? = some vs[i] := List.getElem?_eq_getElem hi
        obtain ⟨u, hu', ru⟩ := hv.get e
        rw [List.getD_eq_getElem?_getD, List.getD_eq_getElem?_getD, e, hu']
        exact ru
      clear h
      unfold placeA
      induction arr with
      | nil => exact .nil
      | cons a arr ih =>
        refine .cons ?_ (ih fun b hb => hi b (List.mem_cons_of_mem _ hb))
        have ha := hi a List.mem_cons_self
        cases a with
        | inl i => exact one hv (by rw [hlv]; exact ha)
        | inr j => exact one rk (by rw [List.length_map]; exact ha)
    · have hd := hr.length
      have hlv : vs.length = n + ks.length := by rw [hv.length]; simp [hu, hw]
      have one : ∀ i, i < n + ks.length → RepS K ρ Z H (ds.getD i .non) (vs.getD i .non) := by
        intro i hi
        have e : ds[i]? = some ds[i] := List.getElem?_eq_getElem (by omega)
        obtain ⟨v, hv', rv⟩ := hr.get e
        rw [List.getD_eq_getElem?_getD, List.getD_eq_getElem?_getD, e, hv']
        exact rv
      have two : ∀ j, j < ms.length → RepS K ρ Z H ((ms.map (·.2)).getD j .non) ((ms.map fun q => sV q.2).getD j .non) := by
        intro j hj
        have e : ms[j]? = some ms[j] := List.getElem?_eq_getElem hj
        rw [List.getD_eq_getElem?_getD, List.getD_eq_getElem?_getD, List.getElem?_map, List.getElem?_map, e]
        exact sV_rep (hms _ (List.mem_of_getElem? e)).2
      clear h
      unfold arrange arrOf placeA
      rw [List.map_map]
      induction arr with
      | nil => rfl
      | cons a arr ih =>
        have ha := hi a List.mem_cons_self
        refine ⟨_, _, rfl, ?_, ih fun b hb => hi b (List.mem_cons_of_mem _ hb)⟩
        cases a with
        | inl i => exact one i ha
        | inr j => exact two j ha
/-- what is asked of eb, that the table's errors be these -/
def ErrBy (frees : List Str) (es : List Ent) (xs : List He.DefD) (eb : PySem.W.Frag → Bool) (er : ErrT) : Prop := ∀ (K : PySem.W.Frag) (mg : Str → Option Value) (h : Heap), K.In h → h.Ns mainGlobals mg → He.SaysD (faOf frees es) (es.map Ent.d ++ xs) K → eb K = true → ErrOk ⟨K, mg, noPn⟩ er
theorem ErrBy.none {frees : List Str} {es : List Ent} {xs : List He.DefD} {eb : PySem.W.Frag → Bool} : ErrBy frees es xs eb {} := fun K mg h _ _ _ _ => ⟨fun _ h => (by cases h), fun _ h => (by cases h), fun _ h => (by cases h), fun _ h => (by cases h)⟩
/-- the goal behind the head's run -/
theorem law_end2 {l : PySem.W.OpenLaw} {n k hn : Nat} {q : Program} {loose : List Str} {XP : (Str → Option Value) → Heap → Prop} {d : DefRec} {x : Str} {frees : List Str} {es : List Ent} {cs : List (Str × D)} {kws : List KwT} {er : ErrT} {xs : List He.DefD} {eb : PySem.W.Frag → Bool} {Wn : Nat} {i : Nat} {e : Ent}
    (hi : es[i]? = some e) (hp : e.fn.np = 1) (hx : e.ps = [x]) (hq0 : e.d.kwd = []) (hd : d.name = e.d.name) (hb : BdAll es) (he : (es.all fun e => entB (mkTab frees es cs kws er) e) = true) (hk : KwAll es kws)
    (hm : l.most = some n) (hn2 : n ≤ sizeLine) (hdf : d.params.defaults = []) (hr : Room k callerA)
    (hE : ErrBy frees es xs eb er)
    (law : ∀ ns : List Int, ns.length ≤ n → ∃ S, run (es.map Ent.fn) Wn k i [.frz (ns.map D.int)] [] = .ok (.bl true) S) :
    PySem.W.WalkO q loose XP (hookM hn frees es cs xs eb).says l.row.toRowW d [] (fun f vs => PySem.call f vs) := by
  refine law_end (p := ⟨e.d.name, i, e.fn.np⟩) (x := x) (fns := es.map Ent.fn) (Wn := Wn) hp hm hn2 hdf hr ?_ law
  intro w mg fa h Y G hmg
  obtain ⟨K, KX, c, hcb⟩ := Y
  obtain ⟨hc, hb2⟩ := Bool.and_eq_true_iff.mp hcb
  have hee := List.all_eq_true.mp he e (List.mem_of_getElem? hi)
  obtain ⟨fd, dk, _, bt⟩ := ent_ok (cs := cs) (kws := kws) (er := er) (xs := xs) KX G c hb hi hee
  have hfa : He.ga K e.d.name = fa := by
    have := dk.mg
    rw [hd] at hmg
    exact Value.ref.inj (Option.some.inj (this.symm.trans hmg))
  rw [hfa] at dk
  rw [hx] at dk bt
  exact ⟨K, mkTab frees es cs kws er, KX, tab_ok KX G c hc hb he hk (hE K mg h KX G c hb2), fd, _, _, _, _, _, _, _, _, _, fun s u => bt hq0 s [u] rfl, dk⟩
end Mi
end
section
set_option Elab.async false
set_option maxRecDepth 100000
set_option linter.all false
namespace Mi
open PySem PySem.Spec PyProof.Rows L2
/-! ### the errors of a table, told by the head's run -/
/-- X() of an own error class without an __init__ -/
theorem pmk_own0 {X : Cx} {C : Addr} {x : Str} {p pos : Pos} (q : PySem.W.excIn X.K C He.veBase "ValueError.__new__" = true) (gC : X.mg x = some (.ref C)) (kC : PySem.W.keepIn X.K (.ref C) = true) (r : Raises X (.ref C)) (hg : Gl X x)
    (hdb : (x == ("__debug__" : Str)) = false) : PMk X (.Call (.Name x p) [] [] pos) (fun _ H Q => Q (.ref C) none H) := by
  intro pins s σ H Q I h
  refine wpAny_Call_Name_kw (ld_glob I hg gC ?_ hdb)
  refine PySem.W.callWith_K0 I.kIn kC ?_
  show wpAny _ _ (call (.ref C) []) _ _ _
  obtain ⟨bm, N, nm, qn, bs, hdct, sn, sub, ab, col, dd, k0, k1, k2, k3, k5, mN, hC, hN, hni, T⟩ := exc_obj I.kIn q
  refine wpAny_call_exc_subT PySem.F.excBase_ValueError T hC hN hni (fun h' e hm => ?_) (Nat.zero_le _)
  exact mk_of I hm r h (I.hok.gone hm.new)
def askV (K : PySem.W.Frag) (c : Str) : Option Value := match PySem.W.nsIn K mainGlobals c with
  | some (some (.ref C)) => some (.ref C)
  | some none => if c = "__name__" then none else (match bootBuiltins c with
    | some (.type n) => some (.type n)
    | _ => none)
  | _ => none
section
variable {K : PySem.W.Frag} {mg : Str → Option Value} {h : Heap}
theorem askV_ok (X : K.In h) (G : h.Ns mainGlobals mg) {c : Str} {u : Value} (e : askV K c = some u) : AskV mg c u := by
  unfold askV at e
  split at e
  · rename_i C hC
    cases e
    exact .inl ⟨PySem.W.mg_of X G hC, C, rfl⟩
  · rename_i hn
    split at e
    · cases e
    · rename_i hne
      split at e
      · rename_i n hb
        cases e
        exact .inr ⟨PySem.W.mg_none_of X G hn, hb, hne, n, rfl⟩
      · cases e
  · cases e
def askB (K : PySem.W.Frag) (c : Str) : Bool := match askV K c with
  | some a => decide (PySem.W.kitOne K (.type "NoneType") a = some false)
  | none => false
def subB (K : PySem.W.Frag) (q : Str × Str × Bool) : Bool := match PySem.W.nsIn K mainGlobals q.1, askV K q.2.1 with
  | some (some u), some a => decide (PySem.W.exmOne K u a = some q.2.2) && decide (PySem.W.kitOne K u a = some q.2.2)
  | _, _ => false
def err0B (K : PySem.W.Frag) (c : Str) : Bool := match PySem.W.nsIn K mainGlobals c with
  | some (some (.ref C)) => errB K C && (PySem.W.excIn K C He.veBase "ValueError.__new__" && (PySem.W.keepIn K (.ref C) && (decide (PySem.W.subIn K (.ref C) (.type "BaseException") = some true) && decide (PySem.W.typeIn K (.ref C) = some (.type "type")))))
  | _ => false
/-- an error class as an object -/
def exB (K : PySem.W.Frag) (C : Addr) : Bool := match K.lookup C with
  | some ⟨.type "type", _, .cls cd, sl⟩ => (match cd.mro, sl.toList with
    | .ref C' :: bm, [_, _, _, _, some (.builtin n), _] => C' == C && n == "ValueError.__new__" && !cd.hasDel && cd.hasDict && PySem.HandSPX.refsVE bm
    | _, _ => false)
  | _ => false
theorem exB_ok {C : Addr} (q : exB K C = true) : ∃ nm q N bs bm sn sub ab col dd k0 k1 k2 k3 k5, K.lookup C = some (excClassObj nm q C N bs bm true sn sub ab col dd k0 k1 k2 k3 k5 "ValueError.__new__") ∧ PySem.HandSPX.refsVE bm = true := by
  unfold exB at q
  split at q
  · rename_i dd cd sl ho
    split at q
    · rename_i C' bm k0 k1 k2 k3 n k5 hm hs
      simp only [Bool.and_eq_true, beq_iff_eq, Bool.not_eq_true'] at q
      obtain ⟨⟨⟨⟨rfl, rfl⟩, hdel⟩, hdc⟩, ht⟩ := q
      obtain ⟨nm, bs, mro, ns, qn, hd, sn, sub, ab, col, del⟩ := cd
      dsimp only at hm hdel hdc
      subst hm hdel hdc
      have hsl : sl = #[k0, k1, k2, k3, some (.builtin "ValueError.__new__"), k5] := by
        obtain ⟨l⟩ := sl
        simp only at hs
        rw [hs]
      subst hsl
      exact ⟨nm, qn, ns, bs, bm, sn, sub, ab, col, dd, k0, k1, k2, k3, k5, ho, ht⟩
    · cases q
  · cases q
/-- an error class with one field: its __init__ -/
structure LowE where
  cn : Str
  f : Str
  d : He.DefD
  chk : PySem.W.Frag → Bool
  d0 : Bool := false
def lowB (K : PySem.W.Frag) (l : LowE) : Bool := match PySem.W.nsIn K mainGlobals l.cn with
  | some (some (.ref C)) => errB K C && (decide (PySem.W.findIn K (.ref C) l.f = some none) && l.chk K)
  | _ => false
def LowOk (l : LowE) : Prop := ∀ (K : PySem.W.Frag) (mg : Str → Option Value) (fd : FuncData) (C : Addr), FunD K l.d.name l.d.qual l.d.params l.d.body l.d.scope (l.d.dvs K) (l.d.kws K) (He.fAd K l.d.at_) fd → mg l.cn = some (.ref C) → PySem.W.nsIn K mainGlobals l.cn = some (some (.ref C)) → l.chk K = true → MkErr ⟨K, mg, noPn⟩ l.cn C (some l.f) ∧ (l.d0 = true → MkErr0 ⟨K, mg, noPn⟩ l.cn C l.f)
def LowAll : List LowE → Prop
  | [] => True
  | l :: ls => LowOk l ∧ LowAll ls
theorem LowAll.of : ∀ {ls : List LowE} {l : LowE}, LowAll ls → l ∈ ls → LowOk l
  | l :: ls, _, h, hm => by
    rcases List.mem_cons.mp hm with rfl | hm
    · exact h.1
    · exact LowAll.of h.2 hm
def errT (c0 : List Str) (ls : List LowE) (subs : List (Str × Str × Bool)) (asks : List Str) : ErrT := ⟨c0.map (fun c => (c, none)) ++ ls.map fun l => (l.cn, some l.f), (ls.filter (·.d0)).map (fun l => (l.cn, l.f)), subs, asks⟩
def ebOf (c0 : List Str) (ls : List LowE) (subs : List (Str × Str × Bool)) (asks : List Str) (K : PySem.W.Frag) : Bool := c0.all (err0B K) && (ls.all (lowB K) && (subs.all (subB K) && asks.all (askB K)))
theorem errBy {frees : List Str} {es : List Ent} {xs : List He.DefD} {c0 : List Str} {ls : List LowE} {subs : List (Str × Str × Bool)} {asks : List Str} (hl : LowAll ls) (hx : ∀ l ∈ ls, l.d ∈ xs) : ErrBy frees es xs (ebOf c0 ls subs asks) (errT c0 ls subs asks) := by
  intro K mg h KX G c hb
  unfold ebOf at hb
  simp only [Bool.and_eq_true, List.all_eq_true] at hb
  obtain ⟨h1, h2, h3, h4⟩ := hb
  refine ⟨fun p hp => ?_, fun p hp => ?_, fun q hq => ?_, fun a ha => ?_⟩
  · obtain ⟨l, hlf, rfl⟩ := List.mem_map.mp hp
    obtain ⟨hlm, h0⟩ := List.mem_filter.mp hlf
    have e := h2 l hlm
    unfold lowB at e
    split at e
    · rename_i C hC
      simp only [Bool.and_eq_true, decide_eq_true_eq] at e
      obtain ⟨e1, e2, e3⟩ := e
      have gC := PySem.W.mg_of KX G hC
      obtain ⟨fd, F⟩ := He.SaysD.defs c (d := l.d) (List.mem_append_right _ (hx l hlm))
      exact ⟨C, gC, (hl.of hlm K mg fd C F gC hC e3).2 h0⟩
    · cases e
  · rcases List.mem_append.mp hp with hp | hp
    · obtain ⟨x, hxm, rfl⟩ := List.mem_map.mp hp
      have e := h1 x hxm
      unfold err0B at e
      split at e
      · rename_i C hC
        simp only [Bool.and_eq_true, decide_eq_true_eq] at e
        obtain ⟨e1, e2, e3, e4, e5⟩ := e
        have gC := PySem.W.mg_of KX G hC
        refine ⟨C, gC, errB_ok e1, fun X p pos hX hg hdb => ?_, fun f z => by cases z⟩
        cases hX
        exact pmk_own0 e2 gC e3 (raises_own e4 e5) hg hdb
      · cases e
    · obtain ⟨l, hlm, rfl⟩ := List.mem_map.mp hp
      have e := h2 l hlm
      unfold lowB at e
      split at e
      · rename_i C hC
        simp only [Bool.and_eq_true, decide_eq_true_eq] at e
        obtain ⟨e1, e2, e3⟩ := e
        have gC := PySem.W.mg_of KX G hC
        obtain ⟨fd, F⟩ := He.SaysD.defs c (d := l.d) (List.mem_append_right _ (hx l hlm))
        exact ⟨C, gC, errB_ok e1, (hl.of hlm K mg fd C F gC hC e3).1, fun f z => by cases z; exact e2⟩
      · cases e
  · have e := h3 q hq
    unfold subB at e
    split at e
    · rename_i u a hu ha
      simp only [Bool.and_eq_true, decide_eq_true_eq] at e
      exact ⟨u, a, PySem.W.mg_of KX G hu, askV_ok KX G ha, e.1, e.2⟩
    · cases e
  · have e := h4 a ha
    unfold askB at e
    split at e
    · rename_i v hv
      exact ⟨v, askV_ok KX G hv, of_decide_eq_true e⟩
    · cases e
end
end Mi
end
section
set_option Elab.async false
set_option maxRecDepth 100000
set_option linter.all false
set_option maxHeartbeats 2000000
namespace PySem
namespace Low_wrong
open PySem.W PySem.Calls PyProof.Rows PySem.HandSPX
/-! ### the text of __init__ -/
def iA (dE : Expr) (p1 p2 : Pos) : Arguments := { posonlyargs := [], args := [{ arg := "self", annotation := none, pos := p1 }, { arg := "wrong", annotation := none, pos := p2 }], vararg := none, kwonlyargs := [], kw_defaults := [], kwarg := none, defaults := [dE] }
def iB (q1 q2 q3 q4 : Pos) : List Stmt := [.Assign [.Attribute (.Name "self" q1) "wrong" q2] (.Name "wrong" q3) q4]
def iS : Scope := { kind := .function, names := [(PySem.Str.ofString "self", .local), (PySem.Str.ofString "wrong", .local)], isGenerator := false, isCoroutine := false, more := [] }
/-- what the written part says of Low, at C, and of its __init__, at fI -/
structure LowTxt (K : Frag) (mg : Str → Option Value) (cn qn : Str) (C fI : Addr) (dv : Value) : Prop where
  gC : mg cn = some (.ref C)
  cls : ∃ nm q N bs bm sn sub ab col dd k0 k1 k2 k3 k5, K.lookup C = some (excClassObj nm q C N bs bm true sn sub ab col dd k0 k1 k2 k3 k5 "ValueError.__new__") ∧ refsVE bm = true
  sa : findIn K (.ref C) "__setattr__" = some (some (.builtin "object.__setattr__"))
  ga : findIn K (.ref C) "__getattribute__" = some (some (.builtin "BaseException.__getattribute__"))
  gg : findIn K (.ref C) "__getattr__" = some none
  noN : findIn K (.ref C) "wrong" = some none
  iC : findIn K (.ref C) "__init__" = some (some (.ref fI))
  tC : typeIn K (.ref fI) = some (.type "function")
  kC : keepIn K (.ref C) = true
  exC : subIn K (.ref C) (.type "BaseException") = some true
  tyC : typeIn K (.ref C) = some (.type "type")
  hdC : hasDictIn K C = true
  fn : ∃ (oc : Value) (od : Option Addr) (doc pm : Value) (an : Option Addr) (cdv ct : Value) (osl : Array (Option Value)) (kV : Value) (dE : Expr) (dT : Addr) (dO : Obj) (dn : Nat) (p1 p2 q1 q2 q3 q4 : Pos),
    K.lookup dT = some dO ∧ dO.data = .seq #[dv] dn ∧ K.lookup fI = some ⟨oc, od, .func (fnOf "__init__" qn (iA dE p1 p2) (iB q1 q2 q3 q4) iS (.ref dT) kV doc pm an cdv ct), osl⟩ ∧ codeIn K cdv qn = true
theorem one_size (v : Value) : [v].length ≤ sizeLine := by
  rw [sizeLine_eq]
  exact (by decide : 1 ≤ 16777216)
theorem kept_but {K : Frag} {h h' : Heap} {x : Addr} (X : K.In h) (hx : K.lookup x = none) (k : ∀ b o, b ≠ x → h.get? b = some o → h'.get? b = some o) : K.In h' := fun a o e =>
  k a o (fun z => by rw [z, hx] at e; cases e) (X a o e)
theorem ldC {M : Model} {s : Shared} {name : Str} {scope : Scope} {L a : Addr} {cd : Value} {m : Str → Option Value} {x : Str} {pos : Pos} {v : Value} {Q : Value → Shared → Prop} {A : Around} {E : Value → Shared → Prop} (hn : s.heap.Ns L m) (hv : m x = some v) (h : Q v s)
    (hk : scope.kind = .function := by rfl) (hl : (envOfC name scope L a cd).kindOf x = some .local := by rfl) (hd : (x == ("__debug__" : Str)) = false := by decide) :
    wpAny M A (eval (.Name x pos) (envOfC name scope L a cd)) Q E s := wpAny_Name (wpAny_loadName_local hk hl hn hv h) hd
/-- what __init__ leaves of a fresh exception at x -/
structure InitEnd (h h' : Heap) (x C dx t1 : Addr) (v : Value) : Prop where
  keep : ∀ b o, b ≠ x → h.get? b = some o → h'.get? b = some o
  obj : h'.get? x = some { cls := .ref C, dict := some dx, data := .fields #[.ref t1, .none, .none, .none, .bool false, .none] }
  dbig : h.objs.size ≤ dx
  dne : dx ≠ x
  ns : h'.Ns1 dx (fun y => if y = "wrong" then some v else none)
/-- a made Low -/
structure OwnMade (h h' : Heap) (e C d : Addr) (v : Value) : Prop where
  keep : ∀ b o, h.get? b = some o → h'.get? b = some o
  new : h.objs.size ≤ e
  obj : ∃ oe vs, h'.get? e = some oe ∧ oe.cls = .ref C ∧ oe.dict = some d ∧ oe.data = .fields vs ∧ vs[1]? = some .none
  dbig : h.objs.size ≤ d
  dne : d ≠ e
  ns : h'.Ns1 d (fun y => if y = "wrong" then some v else none)
section
variable {prog : Program} {w : World} {A : Around} {E : Value → Shared → Prop} {R : Result → Shared → Prop} {s : Shared} {K : Frag} {mg : Str → Option Value} {cn qn : Str} {C fI : Addr} {dv : Value}
theorem low_init (T : LowTxt K mg cn qn C fI dv) {x t0 : Addr} {v : Value} (X : K.In s.heap) (hlim : s.heap.NoLimit) (hx : s.heap.get? x = some (excO C t0)) (hnx : K.lookup x = none) (hroom : A.depth < recursionLimit)
    (hq : ∀ h' tk dx, InitEnd s.heap h' x C dx t0 v → R (.ok (.ret .none)) { s with heap := h', toks := tk }) :
    codeAny (model prog w) A (.call (.ref fI) ⟨[.ref x, v], []⟩) R s := by
  obtain ⟨oc, od, doc, pm, an, cdv, ct, osl, kV, dE, dT, dO, dn0, p1, p2, q1, q2, q3, q4, hdT, hdO, ho, hcd⟩ := T.fn
  obtain ⟨nm, q, N, bs, bm, sn, sub, ab, col, dd, k0, k1, k2, k3, k5, hC, hbm⟩ := T.cls
  have hcl : clsIn K C = some { name := nm, bases := bs, mro := .ref C :: bm, ns := N, qualname := q, hasDict := true, slotNames := sn, subclasses := sub, abstract := ab, collection := col, hasDel := false } := by unfold clsIn; rw [hC] <;> rfl
  refine Att.call_fn (binds := [("self", .ref x), ("wrong", v)]) X hlim ho hcd hroom (BindsTo.of_defaults (T := dT) (o := dO) (items := #[dv]) (n := dn0) rfl (X _ _ hdT) hdO (by first | rfl | with_unfolding_all rfl) (by first | rfl | with_unfolding_all rfl)) (by first | rfl | decide | with_unfolding_all rfl) (fun s₁ IC => ?_) rfl rfl rfl
  obtain ⟨h₁, tk₁, rfl⟩ := IC.toInCall.same
  have k : ∀ b o, s.heap.get? b = some o → h₁.get? b = some o := IC.toInCall.keep
  have hn := IC.toInCall.ns
  have hxL : s.heap.objs.size ≠ x := Nat.ne_of_gt (Heap.lt_size hx)
  have X₁ : K.In h₁ := X.keeps k
  have hx₁ := k _ _ hx
  -- self.by = by
  show wpAny _ _ (execs _ _) _ _ _
  refine wpAny_execs_cons (plainObj_wpAny_Assign_Attribute ?_)
  refine ldC (v := v) hn (by first | rfl | with_unfolding_all rfl | kernel_rfl) (ldC (v := .ref x) hn (by first | rfl | with_unfolding_all rfl | kernel_rfl) ?_)
  refine set_plain X₁ (ox := excO C t0) (od := none) ⟨hx₁, rfl, rfl, trivial⟩ T.sa ?_
  refine exc_osa X₁ hx₁ hcl (show refsVE (.ref C :: bm) = true from hbm) rfl T.noN (fun h₃ tk₃ dx k₃ dn dne hx₃ hn₃ => ?_)
  show wpAny _ _ (execs _ _) _ _ _
  have z : s.heap.objs.size < h₁.objs.size := hn.lt
  exact wpAny_execs_nil (hq h₃ tk₃ dx ⟨fun b o hb e => k₃ b o hb (k b o e), hx₃, Nat.le_of_lt (Nat.lt_of_lt_of_le z dn), dne, hn₃⟩)
theorem low_made (T : LowTxt K mg cn qn C fI dv) {v : Value} (X : K.In s.heap) (hlim : s.heap.NoLimit) (hroom : A.depth + 1 < recursionLimit)
    (hq : ∀ h' tk e d, OwnMade s.heap h' e C d v → R (.ok (.ret (.ref e))) { s with heap := h', toks := tk }) :
    codeAny (model prog w) A (.call (.ref C) ⟨[v], []⟩) R s := by
  obtain ⟨nm, q, N, bs, bm, sn, sub, ab, col, dd, k0, k1, k2, k3, k5, hC, hbm⟩ := T.cls
  obtain ⟨hp, g, dr, tk, os⟩ := s
  have k : ∀ b o, hp.get? b = some o → ((hp.push (kdv_tup [v])).push (excO C hp.objs.size)).get? b = some o := fun b o e => Heap.get?_push_of_some _ (Heap.get?_push_of_some _ e)
  have hget : ((hp.push (kdv_tup [v])).push (excO C hp.objs.size)).get? (hp.objs.size + 1) = some (excO C hp.objs.size) := by heap_get
  have hnx : K.lookup (hp.objs.size + 1) = none := by
    cases e : K.lookup (hp.objs.size + 1) with
    | none => rfl
    | some o =>
      have z : hp.get? (hp.objs.size + 1) = some o := X _ _ e
      exact absurd (Nat.lt_of_succ_lt (Heap.lt_size z)) (Nat.lt_irrefl _)
  refine call_own F.excBase_ValueError (fun X => refsVE_contains X bm hbm) (X _ _ hC) (looks_findIn X T.iC) (fun self => bind_fn X self T.tC) (one_size v) ?_
  refine low_init (s := ⟨(hp.push (kdv_tup [v])).push (excO C hp.objs.size), g, dr, tk, os⟩) T (X.keeps k) (hlim.keeps k) hget hnx ?_ fun h' tk' dx ⟨k', hx, dn, dne, hns⟩ => ?_
  · show A.depth + 1 < recursionLimit
    exact hroom
  · have old : ∀ b o, hp.get? b = some o → h'.get? b = some o := fun b o e => k' b o (Nat.ne_of_lt (Nat.lt_succ_of_lt (Heap.lt_size e))) (k b o e)
    have z : hp.objs.size + 1 + 1 ≤ dx := by
      first
        | (simpa only [Heap.size_push] using dn)
        | exact dn
        | (have q := dn; rw [Heap.size_push, Heap.size_push] at q; exact q)
    exact ⟨rfl, hq h' tk' (hp.objs.size + 1) dx ⟨old, Nat.le_succ _, ⟨_, _, hx, rfl, rfl, rfl, rfl⟩, Nat.le_trans (Nat.le_trans (Nat.le_succ _) (Nat.le_succ _)) z, dne, hns⟩⟩
theorem low_init0 (T : LowTxt K mg cn qn C fI dv) {x t0 : Addr} (X : K.In s.heap) (hlim : s.heap.NoLimit) (hx : s.heap.get? x = some (excO C t0)) (hnx : K.lookup x = none) (hroom : A.depth < recursionLimit)
    (hq : ∀ h' tk dx, InitEnd s.heap h' x C dx t0 dv → R (.ok (.ret .none)) { s with heap := h', toks := tk }) :
    codeAny (model prog w) A (.call (.ref fI) ⟨[.ref x], []⟩) R s := by
  obtain ⟨oc, od, doc, pm, an, cdv, ct, osl, kV, dE, dT, dO, dn0, p1, p2, q1, q2, q3, q4, hdT, hdO, ho, hcd⟩ := T.fn
  obtain ⟨nm, q, N, bs, bm, sn, sub, ab, col, dd, k0, k1, k2, k3, k5, hC, hbm⟩ := T.cls
  have hcl : clsIn K C = some { name := nm, bases := bs, mro := .ref C :: bm, ns := N, qualname := q, hasDict := true, slotNames := sn, subclasses := sub, abstract := ab, collection := col, hasDel := false } := by unfold clsIn; rw [hC] <;> rfl
  refine Att.call_fn (binds := [("self", .ref x), ("wrong", dv)]) X hlim ho hcd hroom (BindsTo.of_defaults (T := dT) (o := dO) (items := #[dv]) (n := dn0) rfl (X _ _ hdT) hdO (by first | rfl | with_unfolding_all rfl) (by first | rfl | with_unfolding_all rfl)) (by first | rfl | decide | with_unfolding_all rfl) (fun s₁ IC => ?_) rfl rfl rfl
  obtain ⟨h₁, tk₁, rfl⟩ := IC.toInCall.same
  have k : ∀ b o, s.heap.get? b = some o → h₁.get? b = some o := IC.toInCall.keep
  have hn := IC.toInCall.ns
  have hxL : s.heap.objs.size ≠ x := Nat.ne_of_gt (Heap.lt_size hx)
  have X₁ : K.In h₁ := X.keeps k
  have hx₁ := k _ _ hx
  -- self.by = by
  show wpAny _ _ (execs _ _) _ _ _
  refine wpAny_execs_cons (plainObj_wpAny_Assign_Attribute ?_)
  refine ldC (v := dv) hn (by first | rfl | with_unfolding_all rfl | kernel_rfl) (ldC (v := .ref x) hn (by first | rfl | with_unfolding_all rfl | kernel_rfl) ?_)
  refine set_plain X₁ (ox := excO C t0) (od := none) ⟨hx₁, rfl, rfl, trivial⟩ T.sa ?_
  refine exc_osa X₁ hx₁ hcl (show refsVE (.ref C :: bm) = true from hbm) rfl T.noN (fun h₃ tk₃ dx k₃ dn dne hx₃ hn₃ => ?_)
  show wpAny _ _ (execs _ _) _ _ _
  have z : s.heap.objs.size < h₁.objs.size := hn.lt
  exact wpAny_execs_nil (hq h₃ tk₃ dx ⟨fun b o hb e => k₃ b o hb (k b o e), hx₃, Nat.le_of_lt (Nat.lt_of_lt_of_le z dn), dne, hn₃⟩)
theorem low_made0 (T : LowTxt K mg cn qn C fI dv) (X : K.In s.heap) (hlim : s.heap.NoLimit) (hroom : A.depth + 1 < recursionLimit)
    (hq : ∀ h' tk e d, OwnMade s.heap h' e C d dv → R (.ok (.ret (.ref e))) { s with heap := h', toks := tk }) :
    codeAny (model prog w) A (.call (.ref C) ⟨[], []⟩) R s := by
  obtain ⟨nm, q, N, bs, bm, sn, sub, ab, col, dd, k0, k1, k2, k3, k5, hC, hbm⟩ := T.cls
  obtain ⟨hp, g, dr, tk, os⟩ := s
  have k : ∀ b o, hp.get? b = some o → ((hp.push (kdv_tup [])).push (excO C hp.objs.size)).get? b = some o := fun b o e => Heap.get?_push_of_some _ (Heap.get?_push_of_some _ e)
  have hget : ((hp.push (kdv_tup [])).push (excO C hp.objs.size)).get? (hp.objs.size + 1) = some (excO C hp.objs.size) := by heap_get
  have hnx : K.lookup (hp.objs.size + 1) = none := by
    cases e : K.lookup (hp.objs.size + 1) with
    | none => rfl
    | some o =>
      have z : hp.get? (hp.objs.size + 1) = some o := X _ _ e
      exact absurd (Nat.lt_of_succ_lt (Heap.lt_size z)) (Nat.lt_irrefl _)
  refine call_own F.excBase_ValueError (fun X => refsVE_contains X bm hbm) (X _ _ hC) (looks_findIn X T.iC) (fun self => bind_fn X self T.tC) (Nat.zero_le _) ?_
  refine low_init0 (s := ⟨(hp.push (kdv_tup [])).push (excO C hp.objs.size), g, dr, tk, os⟩) T (X.keeps k) (hlim.keeps k) hget hnx ?_ fun h' tk' dx ⟨k', hx, dn, dne, hns⟩ => ?_
  · show A.depth + 1 < recursionLimit
    exact hroom
  · have old : ∀ b o, hp.get? b = some o → h'.get? b = some o := fun b o e => k' b o (Nat.ne_of_lt (Nat.lt_succ_of_lt (Heap.lt_size e))) (k b o e)
    have z : hp.objs.size + 1 + 1 ≤ dx := by
      first
        | (simpa only [Heap.size_push] using dn)
        | exact dn
        | (have q := dn; rw [Heap.size_push, Heap.size_push] at q; exact q)
    exact ⟨rfl, hq h' tk' (hp.objs.size + 1) dx ⟨old, Nat.le_succ _, ⟨_, _, hx, rfl, rfl, rfl, rfl⟩, Nat.le_trans (Nat.le_trans (Nat.le_succ _) (Nat.le_succ _)) z, dne, hns⟩⟩
end
end Low_wrong
end PySem
namespace L2.Low_wrong
open PySem PySem.Spec PyProof.Rows L2
theorem relO_low {v : V} {v' : Value} (r : RelV v v') (f : Str) : RelO (List.lookup f [(("wrong" : Str), v)]) (if f = "wrong" then some v' else none) := by
  by_cases hw : f = "wrong"
  · subst hw
    rw [if_pos rfl]
    have q : List.lookup ("wrong" : Str) [(("wrong" : Str), v)] = some v := by simp [List.lookup]
    rw [q]
    exact r
  · rw [if_neg hw]
    have qw : (f == ("wrong" : Str)) = false := by simpa using hw
    have q2 : List.lookup f [(("wrong" : Str), v)] = none := by simp [List.lookup, qw]
    rw [q2]
    trivial
section
variable {X : Cx} {cn qn : Str} {C fI : Addr} {dv : Value}
/-- Low(e) -/
def tMkLow (C : Addr) (ta : TA) : St → Hp → XK → Prop := fun σ H Q => ta σ H fun vs H1 => ∃ v, vs = [v] ∧ ∀ d, H1 d = none → Q (.ref C) (some d) (upd H1 d (.xd [(("wrong" : Str), v)]))
theorem pmk_low {a : Expr} {ta : TA} {p pos : Pos} {k : Nat} (T : PySem.Low_wrong.LowTxt X.K X.mg cn qn C fI dv) (hr : Room k X.A) (ha : PA X [a] ta) (hg : Gl X cn) (hdb : (cn == ("__debug__" : Str)) = false)
    (he : starEach (a :: []) X.env = (false, eval a X.env) :: starEach [] X.env := by rfl) (hpl : (backTo pos (starEach [] X.env)).any (·.1) = false := by rfl) :
    PMk X (.Call (.Name cn p) [a] [] pos) (tMkLow C ta) := by
  intro pins s σ H Q I h
  refine wpAny_Call_Name_kw (ld_glob I hg T.gC ?_ hdb)
  refine PySem.W.callWith_K (h₀ := X.base) I.ok.mod.kin T.kC (thn (ha.run pos pins s σ H _ I h) fun us s1 hh => ?_) he hpl
  obtain ⟨vs, H1, I1, r1, v, ev, q1⟩ := hh
  subst ev
  refine ⟨I1.kIn, ?_⟩
  cases r1 with
  | cons rv rn =>
    rename_i v' us'
    cases rn
    show wpAny _ _ (call (.ref C) [v']) _ _ _
    have hlim := I1.nolimit
    obtain ⟨hp, g, dr, tk, os⟩ := s1
    refine wpAny_call (PySem.Low_wrong.low_made T I1.kIn hlim (by have := hr.dp; omega) fun h' tk' e d M => ?_)
    show MkP X pins σ Q (.ref e) ⟨h', g, dr, tk', os⟩
    obtain ⟨oe, fv, hoe, hc, hd, hdat, h1⟩ := M.obj
    have hns := M.ns
    obtain ⟨G', g1, g2⟩ := restrict h' fun b => decide (b ≠ e)
    have gk : ∀ b, b ≠ e → G'.get? b = h'.get? b := fun b hb => g1 b (decide_eq_true hb)
    have ge : G'.get? e = none := g2 e (by simp)
    have old : ∀ b o, hp.get? b = some o → G'.get? b = some o := fun b o q => (gk b (Nat.ne_of_lt (Nat.lt_of_lt_of_le (Heap.lt_size q) M.new))).trans (M.keep b o q)
    have ob : ObjOk X.prog X.w (upd H1 d (.xd [(("wrong" : Str), v)])) G' d (.xd [(("wrong" : Str), v)]) :=
      ⟨_, hns.at (fun o q => (gk d M.dne).trans q), fun f => relO_low rv f⟩
    have J : Inv X pins σ (upd H1 d (.xd [(("wrong" : Str), v)])) ⟨G', g, dr, tk', os⟩ := I1.laid (t' := tk') old M.dbig ob
    refine ⟨e, oe, fv, ⟨G', g, dr, tk', os⟩, _, .ref C, some d, rfl, J, fun b o q => ?_, ge, hoe, ⟨hc, hd⟩, hdat, h1, ?_, rfl, I1.bare, raises_own T.exC T.tyC, q1 d (I1.hok.fresh M.dbig)⟩
    · by_cases hb : b = e
      · have q' : G'.get? b = some o := q
        rw [hb, ge] at q'; cases q'
      · exact (gk b hb).symm.trans q
    · rw [upd_ne (Ne.symm M.dne)]
      exact I1.hok.fresh M.new
theorem pmk_low0 {p pos : Pos} {k : Nat} (T : PySem.Low_wrong.LowTxt X.K X.mg cn qn C fI .none) (hr : Room k X.A) (hg : Gl X cn) (hdb : (cn == ("__debug__" : Str)) = false) :
    PMk X (.Call (.Name cn p) [] [] pos) (fun _ H Q => ∀ d, H d = none → Q (.ref C) (some d) (upd H d (.xd [(("wrong" : Str), V.non)]))) := by
  intro pins s σ H Q I q1
  refine wpAny_Call_Name_kw (ld_glob I hg T.gC ?_ hdb)
  refine PySem.W.callWith_K0 I.kIn T.kC ?_
  show wpAny _ _ (call (.ref C) []) _ _ _
  have I1 := I
  have rv : RelV V.non Value.none := rfl
  have hlim := I1.nolimit
  obtain ⟨hp, g, dr, tk, os⟩ := s
  refine wpAny_call (PySem.Low_wrong.low_made0 T I1.kIn hlim (by have := hr.dp; omega) fun h' tk' e d M => ?_)
  show MkP X pins σ Q (.ref e) ⟨h', g, dr, tk', os⟩
  obtain ⟨oe, fv, hoe, hc, hd, hdat, h1⟩ := M.obj
  have hns := M.ns
  obtain ⟨G', g1, g2⟩ := restrict h' fun b => decide (b ≠ e)
  have gk : ∀ b, b ≠ e → G'.get? b = h'.get? b := fun b hb => g1 b (decide_eq_true hb)
  have ge : G'.get? e = none := g2 e (by simp)
  have old : ∀ b o, hp.get? b = some o → G'.get? b = some o := fun b o q => (gk b (Nat.ne_of_lt (Nat.lt_of_lt_of_le (Heap.lt_size q) M.new))).trans (M.keep b o q)
  have ob : ObjOk X.prog X.w (upd H d (.xd [(("wrong" : Str), V.non)])) G' d (.xd [(("wrong" : Str), V.non)]) :=
    ⟨_, hns.at (fun o q => (gk d M.dne).trans q), fun f => relO_low rv f⟩
  have J : Inv X pins σ (upd H d (.xd [(("wrong" : Str), V.non)])) ⟨G', g, dr, tk', os⟩ := I1.laid (t' := tk') old M.dbig ob
  refine ⟨e, oe, fv, ⟨G', g, dr, tk', os⟩, _, .ref C, some d, rfl, J, fun b o q => ?_, ge, hoe, ⟨hc, hd⟩, hdat, h1, ?_, rfl, I1.bare, raises_own T.exC T.tyC, q1 d (I1.hok.fresh M.dbig)⟩
  · by_cases hb : b = e
    · have q' : G'.get? b = some o := q
      rw [hb, ge] at q'; cases q'
    · exact (gk b hb).symm.trans q
  · rw [upd_ne (Ne.symm M.dne)]
    exact I1.hok.fresh M.new
/-- raise Low(e) -/
def tRaiseLow (C : Addr) (W : WX) (ta : TA) : TS := fun _ σ H => tMkLow C ta σ H fun cls d H' => W cls d σ H'
theorem ps_raiseLow {a : Expr} {ta : TA} {W : WX} {p pos pos2 : Pos} {k : Nat} (hc : X.calm = true) (T : PySem.Low_wrong.LowTxt X.K X.mg cn qn C fI dv) (hr : Room k X.A) (tk : Takes X W) (ha : PA X [a] ta) (hg : Gl X cn) (hdb : (cn == ("__debug__" : Str)) = false)
    (he : starEach (a :: []) X.env = (false, eval a X.env) :: starEach [] X.env := by rfl) (hpl : (backTo pos (starEach [] X.env)).any (·.1) = false := by rfl) :
    PS X (.Raise (some (.Call (.Name cn p) [a] [] pos)) none pos2) (tRaiseLow C W ta) := ps_raise hc tk (pmk_low T hr ha hg hdb he hpl)
end
end L2.Low_wrong
namespace Mi.Low_wrong
open PySem PySem.Spec PyProof.Rows L2 PySem.W
def lowD (cn qn : Str) (dE : Expr) (p1 p2 q1 q2 q3 q4 : Pos) (dv : He.Dv) : He.DefD := { at_ := (cn, some "__init__"), name := "__init__", qual := qn, params := PySem.Low_wrong.iA dE p1 p2, body := PySem.Low_wrong.iB q1 q2 q3 q4, scope := PySem.Low_wrong.iS, dfl := [dv] }
def lowChk (cn : Str) (K : Frag) : Bool := match nsIn K mainGlobals cn with
  | some (some (.ref C)) => exB K C && (decide (findIn K (.ref C) "__setattr__" = some (some (.builtin "object.__setattr__"))) && (decide (findIn K (.ref C) "__getattribute__" = some (some (.builtin "BaseException.__getattribute__"))) && (decide (findIn K (.ref C) "__getattr__" = some none) &&
    (decide (findIn K (.ref C) "wrong" = some none) && (decide (findIn K (.ref C) "__init__" = some (some (.ref (He.fAd K (cn, some "__init__"))))) && (decide (typeIn K (.ref (He.fAd K (cn, some "__init__"))) = some (.type "function")) && (keepIn K (.ref C) &&
    (decide (subIn K (.ref C) (.type "BaseException") = some true) && (decide (typeIn K (.ref C) = some (.type "type")) && hasDictIn K C)))))))))
  | _ => false
def isNon : He.Dv → Bool
  | .non => true
  | _ => false
def lowE (cn qn : Str) (dE : Expr) (p1 p2 q1 q2 q3 q4 : Pos) (dv : He.Dv) : LowE := ⟨cn, "wrong", lowD cn qn dE p1 p2 q1 q2 q3 q4 dv, lowChk cn, isNon dv⟩
theorem low_ok {cn qn : Str} {dE : Expr} {p1 p2 q1 q2 q3 q4 : Pos} {dv : He.Dv} : LowOk (lowE cn qn dE p1 p2 q1 q2 q3 q4 dv) := by
  intro K mg fd C F gC nC h
  have h' : lowChk cn K = true := h
  have nC' : nsIn K mainGlobals cn = some (some (.ref C)) := nC
  unfold lowChk at h'
  rw [nC'] at h'
  simp only [Bool.and_eq_true, decide_eq_true_eq] at h'
  obtain ⟨h1, h2, h3, h4, h5, h6, h7, h8, h9, h10, h11⟩ := h'
  obtain ⟨oc, od, dV, kV, doc, pm, an, cdv, ct, osl, rfl, lk, hcd, hD, hK⟩ := F.ex
  rcases hD with ⟨z, _⟩ | ⟨_, T, o, its, n, rfl, hT, ho, hv⟩
  · cases z
  · obtain ⟨u, rfl, _⟩ : ∃ u, its = [u] ∧ True := by
      cases hv with
      | cons _ r => cases r; exact ⟨_, rfl, trivial⟩
    have kw : kV = .none ∨ True := .inr trivial
    have LT : PySem.Low_wrong.LowTxt K mg cn qn C (He.fAd K (cn, some "__init__")) u :=
      { gC := gC, cls := exB_ok h1, sa := h2, ga := h3, gg := h4, noN := h5, iC := h6, tC := h7, kC := h8, exC := h9, tyC := h10, hdC := h11,
        fn := ⟨oc, od, doc, pm, an, cdv, ct, osl, kV, dE, T, o, n, p1, p2, q1, q2, q3, q4, hT, ho, lk, hcd⟩ }
    refine ⟨?_, fun h0 => ?_⟩
    · intro X a ta p pos hX hr ha hg hdb he
      cases hX
      exact L2.Low_wrong.pmk_low LT hr ha hg hdb he rfl
    · have h0' : isNon dv = true := h0
      have hu : u = .none := by
        cases dv <;> first | (cases h0'; done) | skip
        cases hv with
        | cons a _ => exact a
      subst hu
      intro X p pos hX hr hg hdb
      cases hX
      exact L2.Low_wrong.pmk_low0 LT hr hg hdb
/-- the same, read off the class's own statement -/
def lowOf (cn qn : Str) (s : Stmt) (dv : He.Dv) : LowE := match defArgs s, defBody s with
  | ⟨[], [⟨_, none, p1⟩, ⟨_, none, p2⟩], none, [], [], none, [dE]⟩, [.Assign [.Attribute (.Name _ q1) _ q2] (.Name _ q3) q4] => lowE cn qn dE p1 p2 q1 q2 q3 q4 dv
  | _, _ => { lowE cn qn (.Name "" ⟨0, 0, 0, 0⟩) ⟨0, 0, 0, 0⟩ ⟨0, 0, 0, 0⟩ ⟨0, 0, 0, 0⟩ ⟨0, 0, 0, 0⟩ ⟨0, 0, 0, 0⟩ ⟨0, 0, 0, 0⟩ dv with chk := fun _ => false, d0 := false }
theorem lowOf_ok {cn qn : Str} {s : Stmt} {dv : He.Dv} : LowOk (lowOf cn qn s dv) := by
  unfold lowOf
  split
  · exact low_ok
  · intro K mg fd C F gC nC h
    cases h
end Mi.Low_wrong
end
section
set_option Elab.async false
set_option maxRecDepth 100000
set_option maxHeartbeats 0
set_option linter.all false
namespace Lk
open PySem PySem.Spec PyProof.Rows L2 Mi
def top (i : Nat) : Stmt := PySem.Challenge.pw_chordhand_k11_strokes_told_by_events.main.body.getD i (.Pass ⟨0, 0, 0, 0⟩)
/-! the program's text as terms -/
def e0 : Ent := ⟨⟨("is_key", none), "is_key", "is_key", defArgs (top 11), defBody (top 11), defScope (top 11), [], []⟩, f0, ["thing"], ["thing", "label", "bank"]⟩
def e1 : Ent := ⟨⟨("is_behind", none), "is_behind", "is_behind", defArgs (top 12), defBody (top 12), defScope (top 12), [], []⟩, f1, ["bank", "other"], ["bank", "other"]⟩
def e2 : Ent := ⟨⟨("may_stand", none), "may_stand", "may_stand", defArgs (top 13), defBody (top 13), defScope (top 13), [], []⟩, f2, ["label", "bank", "ahead"], ["label", "bank", "ahead", "one", "other"]⟩
def e3 : Ent := ⟨⟨("layout_wrong", none), "layout_wrong", "layout_wrong", defArgs (top 14), defBody (top 14), defScope (top 14), [], []⟩, f3, ["thing"], ["thing", "k", "key"]⟩
def e4 : Ent := ⟨⟨("must_layout", none), "must_layout", "must_layout", defArgs (top 15), defBody (top 15), defScope (top 15), [], []⟩, f4, ["layout"], ["layout", "wrong"]⟩
def e5 : Ent := ⟨⟨("is_whole", none), "is_whole", "is_whole", defArgs (top 20), defBody (top 20), defScope (top 20), [], []⟩, f5, ["thing", "least", "most"], ["thing", "least", "most"]⟩
def e6 : Ent := ⟨⟨("is_event", none), "is_event", "is_event", defArgs (top 21), defBody (top 21), defScope (top 21), [], []⟩, f6, ["layout", "thing"], ["layout", "thing"]⟩
def e7 : Ent := ⟨⟨("wrong_from", none), "wrong_from", "wrong_from", defArgs (top 22), defBody (top 22), defScope (top 22), [], []⟩, f7, ["layout", "events", "first", "down"], ["layout", "events", "first", "down", "k", "time", "key", "way"]⟩
def e8 : Ent := ⟨⟨("events_wrong", none), "events_wrong", "events_wrong", defArgs (top 23), defBody (top 23), defScope (top 23), [], []⟩, f8, ["layout", "thing"], ["layout", "thing"]⟩
def e9 : Ent := ⟨⟨("must_events", none), "must_events", "must_events", defArgs (top 24), defBody (top 24), defScope (top 24), [], []⟩, f9, ["layout", "events"], ["layout", "events", "wrong"]⟩
def e10 : Ent := ⟨⟨("must_rule", none), "must_rule", "must_rule", defArgs (top 25), defBody (top 25), defScope (top 25), [], []⟩, f10, ["rule", "bounce"], ["rule", "bounce"]⟩
def e11 : Ent := ⟨⟨("bounces", none), "bounces", "bounces", defArgs (top 26), defBody (top 26), defScope (top 26), [], []⟩, f11, ["events", "bounce"], ["events", "bounce", "found", "ups", "k", "time", "key", "way"]⟩
def e12 : Ent := ⟨⟨("clean", none), "clean", "clean", defArgs (top 27), defBody (top 27), defScope (top 27), [], []⟩, f12, ["events", "bounce"], ["events", "bounce", "barred", "k", "event"]⟩
def e13 : Ent := ⟨⟨("told_by", none), "told_by", "told_by", defArgs (top 28), defBody (top 28), defScope (top 28), [], []⟩, f13, ["events", "rule"], ["events", "rule", "found", "down", "since", "fresh", "time", "key", "way"]⟩
def e14 : Ent := ⟨⟨("strokes_of", none), "strokes_of", "strokes_of", defArgs (top 29), defBody (top 29), defScope (top 29), [], [("rule", .str "all"), ("bounce", .int 0)]⟩, f14, ["layout", "events", "rule", "bounce"], ["layout", "events", "rule", "bounce"]⟩
def e15 : Ent := ⟨⟨("keys_down", none), "keys_down", "keys_down", defArgs (top 30), defBody (top 30), defScope (top 30), [], []⟩, f15, ["events"], ["events", "down", "time", "key", "way"]⟩
def e16 : Ent := ⟨⟨("held", none), "held", "held", defArgs (top 31), defBody (top 31), defScope (top 31), [], [("rule", .str "all"), ("bounce", .int 0)]⟩, f16, ["layout", "events", "rule", "bounce"], ["layout", "events", "rule", "bounce"]⟩
def e17 : Ent := ⟨⟨("_law_mixed", none), "_law_mixed", "_law_mixed", defArgs (top 33), defBody (top 33), defScope (top 33), [], []⟩, f17, ["_law_cell", "_law_k"], ["_law_cell", "_law_k", "_law_number"]⟩
def e18 : Ent := ⟨⟨("_law_purse", none), "_law_purse", "_law_purse", defArgs (top 34), defBody (top 34), defScope (top 34), [], []⟩, f18, ["_law_cell", "_law_k"], ["_law_cell", "_law_k"]⟩
def e19 : Ent := ⟨⟨("_law_take", none), "_law_take", "_law_take", defArgs (top 35), defBody (top 35), defScope (top 35), [], []⟩, f19, ["_law_purse_here", "_law_far"], ["_law_purse_here", "_law_far", "_law_got"]⟩
def e20 : Ent := ⟨⟨("_law_at", none), "_law_at", "_law_at", defArgs (top 36), defBody (top 36), defScope (top 36), [], []⟩, f20, ["_law_script", "_law_k"], ["_law_script", "_law_k"]⟩
def e21 : Ent := ⟨⟨("_law_pick", none), "_law_pick", "_law_pick", defArgs (top 37), defBody (top 37), defScope (top 37), [], []⟩, f21, ["_law_purse_here", "_law_some"], ["_law_purse_here", "_law_some"]⟩
def e22 : Ent := ⟨⟨("_law_some_of", none), "_law_some_of", "_law_some_of", defArgs (top 38), defBody (top 38), defScope (top 38), [], []⟩, f22, ["_law_purse_here", "_law_some", "_law_share"], ["_law_purse_here", "_law_some", "_law_share", "_law_one"]⟩
def e23 : Ent := ⟨⟨("_law_layout", none), "_law_layout", "_law_layout", defArgs (top 39), defBody (top 39), defScope (top 39), [], []⟩, f23, ["_law_purse_here"], ["_law_purse_here", "_law_signs", "_law_start", "_law_left", "_law_middle", "_law_right_here", "_law_found", "_law_sign"]⟩
def e24 : Ent := ⟨⟨("_law_events", none), "_law_events", "_law_events", defArgs (top 40), defBody (top 40), defScope (top 40), [], []⟩, f24, ["_law_purse_here", "_law_board", "_law_many"], ["_law_purse_here", "_law_board", "_law_many", "_law_found", "_law_down", "_law_time", "_law_k", "_law_key", "_law_side"]⟩
def e25 : Ent := ⟨⟨("_law_bounces", none), "_law_bounces", "_law_bounces", defArgs (top 41), defBody (top 41), defScope (top 41), [], []⟩, f25, ["_law_happened", "_law_ticks"], ["_law_happened", "_law_ticks", "_law_found", "_law_at_here", "_law_behind", "_law_time", "_law_key", "_law_side", "_law_k"]⟩
def e26 : Ent := ⟨⟨("_law_calm", none), "_law_calm", "_law_calm", defArgs (top 42), defBody (top 42), defScope (top 42), [], []⟩, f26, ["_law_happened", "_law_ticks"], ["_law_happened", "_law_ticks", "_law_barred", "_law_k"]⟩
def e27 : Ent := ⟨⟨("_law_down_behind", none), "_law_down_behind", "_law_down_behind", defArgs (top 43), defBody (top 43), defScope (top 43), [], []⟩, f27, ["_law_happened"], ["_law_happened", "_law_ups", "_law_downs", "_law_key", "_law_time", "_law_side"]⟩
def e28 : Ent := ⟨⟨("_law_told_strokes", none), "_law_told_strokes", "_law_told_strokes", defArgs (top 44), defBody (top 44), defScope (top 44), [], []⟩, f28, ["_law_happened", "_law_pick_here"], ["_law_happened", "_law_pick_here", "_law_found", "_law_begun", "_law_at_here", "_law_ahead", "_law_time", "_law_key", "_law_side", "_law_happening"]⟩
def e29 : Ent := ⟨⟨("_law_class", none), "_law_class", "_law_class", defArgs (top 45), defBody (top 45), defScope (top 45), [], []⟩, f29, ["_law_error"], ["_law_error", "_law_got"]⟩
def e30 : Ent := ⟨⟨("_law_odd_event", none), "_law_odd_event", "_law_odd_event", defArgs (top 46), defBody (top 46), defScope (top 46), [], []⟩, f30, ["_law_purse_here", "_law_board", "_law_time"], ["_law_purse_here", "_law_board", "_law_time", "_law_some"]⟩
def e31 : Ent := ⟨⟨("_law_bent_events", none), "_law_bent_events", "_law_bent_events", defArgs (top 47), defBody (top 47), defScope (top 47), [], []⟩, f31, ["_law_purse_here", "_law_board", "_law_happened"], ["_law_purse_here", "_law_board", "_law_happened", "_law_at_here", "_law_time", "_law_mode", "_law_happening"]⟩
def e32 : Ent := ⟨⟨("_law_told", none), "_law_told", "_law_told", defArgs (top 48), defBody (top 48), defScope (top 48), [], []⟩, f32, ["_law_which", "_law_board", "_law_happened", "_law_pick_here", "_law_ticks"], ["_law_which", "_law_board", "_law_happened", "_law_pick_here", "_law_ticks", "_law_error", "_law_told_here", "caught"]⟩
def e33 : Ent := ⟨⟨("_law_right", none), "_law_right", "_law_right", defArgs (top 49), defBody (top 49), defScope (top 49), [], []⟩, f33, ["_law_board", "_law_happened", "_law_pick_here", "_law_ticks"], ["_law_board", "_law_happened", "_law_pick_here", "_law_ticks", "_law_due", "_law_down", "_law_turn", "_law_told_here"]⟩
def e34 : Ent := ⟨⟨("law", none), "law", "law", defArgs (top 50), defBody (top 50), defScope (top 50), [], []⟩, f34, ["_law_script"], ["_law_script", "_law_k", "_law_purse_here", "_law_board", "_law_happened", "_law_stayed", "_law_pick_here", "_law_odd", "_law_bad", "_law_bent", "_law_wrong", "_law_which", "_law_ticks", "_law_told_here"]⟩
def ents : List Ent := [e0, e1, e2, e3, e4, e5, e6, e7, e8, e9, e10, e11, e12, e13, e14, e15, e16, e17, e18, e19, e20, e21, e22, e23, e24, e25, e26, e27, e28, e29, e30, e31, e32, e33, e34]
theorem fns_ : ents.map Ent.fn = fns := rfl
def frees : List Str := ["ValueError", "bool", "enumerate", "int", "isinstance", "len", "list", "max", "min", "range", "set", "sorted", "str", "tuple"]
def cons : List (Str × D) := [("BANKS", (.tup [(.str "left"), (.str "middle"), (.str "right")])), ("LABELS", (.str "ABCDEFGHIJKLMNOPQRSTUVWXYZ*")), ("MOST_KEYS", (.int 24)), ("WAYS", (.tup [(.str "down"), (.str "up")])), ("RULES", (.tup [(.str "all"), (.str "first")])), ("MOST_BOUNCE", (.int 50))]
def kwt : List KwT := [⟨"strokes_of", 14, 4, 2, ["rule", "bounce"], [.inl 0, .inl 1, .inl 2, .inl 3]⟩, ⟨"held", 16, 4, 2, ["rule", "bounce"], [.inl 0, .inl 1, .inl 2, .inl 3]⟩, ⟨"strokes_of", 14, 4, 0, ["bounce", "rule", "events", "layout"], [.inl 3, .inl 2, .inl 1, .inl 0]⟩, ⟨"held", 16, 4, 2, ["bounce", "rule"], [.inl 0, .inl 1, .inl 3, .inl 2]⟩, ⟨"held", 16, 4, 2, [], [.inl 0, .inl 1, .inr (.str "all"), .inr (.int 0)]⟩, ⟨"strokes_of", 14, 4, 2, [], [.inl 0, .inl 1, .inr (.str "all"), .inr (.int 0)]⟩]
def clsInit (i : Nat) : Stmt := match top i with
  | .ClassDef _ _ _ b _ _ _ _ _ _ _ => (b.find? fun s => match s with | .FunctionDef .. => true | _ => false).getD (.Pass ⟨0, 0, 0, 0⟩)
  | s => s
def ec0 : List Str := ["NoRule", "NoCount"]
def lows : List LowE := [Low_wrong.lowOf "NoLayout" "NoLayout.__init__" (clsInit 3) (.adr (He.dflAt ("NoLayout", some "__init__") 0)), Low_wrong.lowOf "NoEvents" "NoEvents.__init__" (clsInit 4) (.adr (He.dflAt ("NoEvents", some "__init__") 0))]
def subs : List (Str × Str × Bool) := ([("NoLayout", "NoLayout", true), ("NoLayout", "NoEvents", false), ("NoLayout", "NoRule", false), ("NoLayout", "NoCount", false), ("NoLayout", "Ended", false), ("NoLayout", "ChordError", true), ("NoLayout", "ValueError", true), ("NoEvents", "NoLayout", false), ("NoEvents", "NoEvents", true), ("NoEvents", "NoRule", false), ("NoEvents", "NoCount", false), ("NoEvents", "Ended", false), ("NoEvents", "ChordError", true), ("NoEvents", "ValueError", true), ("NoRule", "NoLayout", false), ("NoRule", "NoEvents", false), ("NoRule", "NoRule", true), ("NoRule", "NoCount", false), ("NoRule", "Ended", false), ("NoRule", "ChordError", true), ("NoRule", "ValueError", true), ("NoCount", "NoLayout", false), ("NoCount", "NoEvents", false), ("NoCount", "NoRule", false), ("NoCount", "NoCount", true)] : List (Str × Str × Bool)) ++ ([("NoCount", "Ended", false), ("NoCount", "ChordError", true), ("NoCount", "ValueError", true)] : List (Str × Str × Bool))
def asks : List Str := ["NoLayout", "NoEvents", "NoRule", "NoCount", "Ended", "ChordError", "ValueError"]
theorem lowAll : LowAll lows := ⟨Low_wrong.lowOf_ok, ⟨Low_wrong.lowOf_ok, trivial⟩⟩
def er : ErrT := errT ec0 lows subs asks
def xs : List He.DefD := lows.map (·.d)
abbrev eb : PySem.W.Frag → Bool := ebOf ec0 lows subs asks
theorem errs_ : ErrBy frees ents xs eb er := errBy lowAll fun l hl => List.mem_map_of_mem hl
abbrev tab : Tab := mkTab frees ents cons kwt er
def loose : List Str := ((["BANKS", "ChordError", "Ended", "LABELS", "MOST_BOUNCE", "MOST_KEYS", "NoCount", "NoEvents", "NoLayout", "NoRule", "RULES", "WAYS", "__name__", "_law_at", "_law_bent_events", "_law_bounces", "_law_calm", "_law_class", "_law_down_behind", "_law_events", "_law_layout", "_law_mixed", "_law_odd_event", "_law_pick", "_law_purse"] : List Str) ++ (["_law_right", "_law_some_of", "_law_take", "_law_told", "_law_told_strokes", "bounces", "clean", "events_wrong", "held", "is_behind", "is_event", "is_key", "is_whole", "keys_down", "layout_wrong", "may_stand", "must_events", "must_layout", "must_rule", "strokes_of", "told_by", "wrong_from"] : List Str))
theorem c0 : entB tab e0 = true := by decide +kernel
theorem c1 : entB tab e1 = true := by decide +kernel
theorem c2 : entB tab e2 = true := by decide +kernel
theorem c3 : entB tab e3 = true := by decide +kernel
theorem c4 : entB tab e4 = true := by decide +kernel
theorem c5 : entB tab e5 = true := by decide +kernel
theorem c6 : entB tab e6 = true := by decide +kernel
theorem c7 : entB tab e7 = true := by decide +kernel
theorem c8 : entB tab e8 = true := by decide +kernel
theorem c9 : entB tab e9 = true := by decide +kernel
theorem c10 : entB tab e10 = true := by decide +kernel
theorem c11 : entB tab e11 = true := by decide +kernel
theorem c12 : entB tab e12 = true := by decide +kernel
theorem c13 : entB tab e13 = true := by decide +kernel
theorem c14 : entB tab e14 = true := by decide +kernel
theorem c15 : entB tab e15 = true := by decide +kernel
theorem c16 : entB tab e16 = true := by decide +kernel
theorem c17 : entB tab e17 = true := by decide +kernel
theorem c18 : entB tab e18 = true := by decide +kernel
theorem c19 : entB tab e19 = true := by decide +kernel
theorem c20 : entB tab e20 = true := by decide +kernel
theorem c21 : entB tab e21 = true := by decide +kernel
theorem c22 : entB tab e22 = true := by decide +kernel
theorem c23 : entB tab e23 = true := by decide +kernel
theorem c24 : entB tab e24 = true := by decide +kernel
theorem c25 : entB tab e25 = true := by decide +kernel
theorem c26 : entB tab e26 = true := by decide +kernel
theorem c27 : entB tab e27 = true := by decide +kernel
theorem c28 : entB tab e28 = true := by decide +kernel
theorem c29 : entB tab e29 = true := by decide +kernel
theorem c30 : entB tab e30 = true := by decide +kernel
theorem c31 : entB tab e31 = true := by decide +kernel
theorem c32 : entB tab e32 = true := by decide +kernel
theorem c33 : entB tab e33 = true := by decide +kernel
theorem c34 : entB tab e34 = true := by decide +kernel
theorem bd : BdAll ents := ⟨fun _ _ _ _ _ _ _ us hl => match us, hl with | [_], _ => rfl, ⟨fun _ _ _ _ _ _ _ us hl => match us, hl with | [_, _], _ => rfl, ⟨fun _ _ _ _ _ _ _ us hl => match us, hl with | [_, _, _], _ => rfl, ⟨fun _ _ _ _ _ _ _ us hl => match us, hl with | [_], _ => rfl, ⟨fun _ _ _ _ _ _ _ us hl => match us, hl with | [_], _ => rfl, ⟨fun _ _ _ _ _ _ _ us hl => match us, hl with | [_, _, _], _ => rfl, ⟨fun _ _ _ _ _ _ _ us hl => match us, hl with | [_, _], _ => rfl, ⟨fun _ _ _ _ _ _ _ us hl => match us, hl with | [_, _, _, _], _ => rfl, ⟨fun _ _ _ _ _ _ _ us hl => match us, hl with | [_, _], _ => rfl, ⟨fun _ _ _ _ _ _ _ us hl => match us, hl with | [_, _], _ => rfl, ⟨fun _ _ _ _ _ _ _ us hl => match us, hl with | [_, _], _ => rfl, ⟨fun _ _ _ _ _ _ _ us hl => match us, hl with | [_, _], _ => rfl, ⟨fun _ _ _ _ _ _ _ us hl => match us, hl with | [_, _], _ => rfl, ⟨fun _ _ _ _ _ _ _ us hl => match us, hl with | [_, _], _ => rfl, ⟨fun h => absurd h (List.cons_ne_nil _ _), ⟨fun _ _ _ _ _ _ _ us hl => match us, hl with | [_], _ => rfl, ⟨fun h => absurd h (List.cons_ne_nil _ _), ⟨fun _ _ _ _ _ _ _ us hl => match us, hl with | [_, _], _ => rfl, ⟨fun _ _ _ _ _ _ _ us hl => match us, hl with | [_, _], _ => rfl, ⟨fun _ _ _ _ _ _ _ us hl => match us, hl with | [_, _], _ => rfl, ⟨fun _ _ _ _ _ _ _ us hl => match us, hl with | [_, _], _ => rfl, ⟨fun _ _ _ _ _ _ _ us hl => match us, hl with | [_, _], _ => rfl, ⟨fun _ _ _ _ _ _ _ us hl => match us, hl with | [_, _, _], _ => rfl, ⟨fun _ _ _ _ _ _ _ us hl => match us, hl with | [_], _ => rfl, ⟨fun _ _ _ _ _ _ _ us hl => match us, hl with | [_, _, _], _ => rfl, ⟨fun _ _ _ _ _ _ _ us hl => match us, hl with | [_, _], _ => rfl, ⟨fun _ _ _ _ _ _ _ us hl => match us, hl with | [_, _], _ => rfl, ⟨fun _ _ _ _ _ _ _ us hl => match us, hl with | [_], _ => rfl, ⟨fun _ _ _ _ _ _ _ us hl => match us, hl with | [_, _], _ => rfl, ⟨fun _ _ _ _ _ _ _ us hl => match us, hl with | [_], _ => rfl, ⟨fun _ _ _ _ _ _ _ us hl => match us, hl with | [_, _, _], _ => rfl, ⟨fun _ _ _ _ _ _ _ us hl => match us, hl with | [_, _, _], _ => rfl, ⟨fun _ _ _ _ _ _ _ us hl => match us, hl with | [_, _, _, _, _], _ => rfl, ⟨fun _ _ _ _ _ _ _ us hl => match us, hl with | [_, _, _, _], _ => rfl, ⟨fun _ _ _ _ _ _ _ us hl => match us, hl with | [_], _ => rfl, trivial⟩⟩⟩⟩⟩⟩⟩⟩⟩⟩⟩⟩⟩⟩⟩⟩⟩⟩⟩⟩⟩⟩⟩⟩⟩⟩⟩⟩⟩⟩⟩⟩⟩⟩⟩
theorem kw : KwAll ents kwt := ⟨⟨e14, rfl, rfl, rfl, fun K kV doc pm an cdv ct _ => bindA_perm [0, 1, 2, 3] (by decide) fun us ws hu hw => match us, ws, hu, hw with | [_, _], [_, _], _, _ => rfl⟩, ⟨⟨e16, rfl, rfl, rfl, fun K kV doc pm an cdv ct _ => bindA_perm [0, 1, 2, 3] (by decide) fun us ws hu hw => match us, ws, hu, hw with | [_, _], [_, _], _, _ => rfl⟩, ⟨⟨e14, rfl, rfl, rfl, fun K kV doc pm an cdv ct _ => bindA_perm [3, 2, 1, 0] (by decide) fun us ws hu hw => match us, ws, hu, hw with | [], [_, _, _, _], _, _ => rfl⟩, ⟨⟨e16, rfl, rfl, rfl, fun K kV doc pm an cdv ct _ => bindA_perm [0, 1, 3, 2] (by decide) fun us ws hu hw => match us, ws, hu, hw with | [_, _], [_, _], _, _ => rfl⟩, ⟨⟨e16, rfl, rfl, rfl, fun K kV doc pm an cdv ct hK => bindA_kwd hK (List.cons_ne_nil _ _) [("rule", (.str "all")), ("bounce", (.int 0))] [.inl 0, .inl 1, .inr 0, .inr 1] (fun q hq => by cases hq with | head => exact ⟨List.Mem.head _, rfl⟩ | tail _ hq => (cases hq with | head => exact ⟨List.Mem.tail _ (List.Mem.head _), rfl⟩ | tail _ hq => (cases hq))) (by simp) (fun E us ws mv hk hu hw hm => by subst hk; exact match us, ws, mv, hu, hw, hm with | [_, _], [], [_, _], _, _, _ => ⟨_, _, _, _, _, _, rfl, rfl, ⟨_, _, _, _, _, _, rfl, rfl, rfl⟩⟩)⟩, ⟨⟨e14, rfl, rfl, rfl, fun K kV doc pm an cdv ct hK => bindA_kwd hK (List.cons_ne_nil _ _) [("rule", (.str "all")), ("bounce", (.int 0))] [.inl 0, .inl 1, .inr 0, .inr 1] (fun q hq => by cases hq with | head => exact ⟨List.Mem.head _, rfl⟩ | tail _ hq => (cases hq with | head => exact ⟨List.Mem.tail _ (List.Mem.head _), rfl⟩ | tail _ hq => (cases hq))) (by simp) (fun E us ws mv hk hu hw hm => by subst hk; exact match us, ws, mv, hu, hw, hm with | [_, _], [], [_, _], _, _, _ => ⟨_, _, _, _, _, _, rfl, rfl, ⟨_, _, _, _, _, _, rfl, rfl, rfl⟩⟩)⟩, trivial⟩⟩⟩⟩⟩⟩
theorem chk : (ents.all fun e => entB tab e) = true := by
  simp only [ents, List.all_cons, List.all_nil, c0, c1, c2, c3, c4, c5, c6, c7, c8, c9, c10, c11, c12, c13, c14, c15, c16, c17, c18, c19, c20, c21, c22, c23, c24, c25, c26, c27, c28, c29, c30, c31, c32, c33, c34, Bool.and_self, Bool.and_true]
abbrev R : PySem.W.OpenRow := PySem.W.OpenLaw.row PySem.Challenge.rw_chordhand_k11_strokes_told_by_events
abbrev hk : PySem.W.Hook := hookM 6 frees ents cons xs eb
theorem run_ (w : World) : HandSHeadRun.RunEq R (PySem.W.view R.prog [50]) hk (fun s => obM 6 frees ents cons s xs eb) 4000 loose w := by
  revert w
  refine PySem.W.byRow2 "special-get-raises" (fun w => ?_) (fun w => ?_)
  · intro os
    kernel_rfl
  · intro os
    kernel_rfl
/-- the law, from what the evaluator answers -/
theorem holds_of {Wn k : Nat} (hr : Room k callerA) (law : ∀ ns : List Int, ns.length ≤ 63 → ∃ S, Mi.run fns Wn k 34 [.frz (ns.map D.int)] [] = .ok (.bl true) S) : PySem.Challenge.rw_chordhand_k11_strokes_told_by_events.Holds := by
  open PySem PySem.W PySem.Calls PyProof.Rows in
  w_on; o_law
  refine HandSHeadRun.head_any (r := OpenLaw.row PySem.Challenge.rw_chordhand_k11_strokes_told_by_events) (q := view (OpenLaw.row PySem.Challenge.rw_chordhand_k11_strokes_told_by_events).prog [50]) (H := hk) (ob := fun s => obM 6 frees ents cons s xs eb) (M := 4000) (loose := loose) (d := HandSHeadRun.topDef (OpenLaw.row PySem.Challenge.rw_chordhand_k11_strokes_told_by_events).prog 50) (kwd := []) obM_eq
    (by kernel_rfl) (fun s => by kernel_rfl) run_ (by kernel_rfl) (by kernel_rfl) (by kernel_rfl) (by rfl) (by first | assumption | decide +kernel) (by decide +kernel) ⟨rfl, rfl, rfl, rfl, rfl, by decide +kernel⟩ ?hw ?hc
  case hw => w_witness2
  case hc => exact law_end2 (e := e34) (i := 34) (x := "_law_script") rfl rfl rfl rfl (by kernel_rfl) bd chk kw rfl (by decide) (by kernel_rfl) hr errs_ law
end Lk
end
set_option Elab.async false
set_option maxHeartbeats 8000000 in
theorem PySem.Challenge.cw_chordhand_k11_strokes_told_by_events_holds : PySem.Challenge.rw_chordhand_k11_strokes_told_by_events.Holds := by
  refine Lk.holds_of (Wn := 1) (k := 8) ⟨rfl, by decide, by decide⟩ fun ns hn => ?_
  obtain ⟨d, s, e, rfl⟩ := Mi.ans_run (Mi.L11.law_ 1 0 ns [] hn)
  exact ⟨s, e⟩
