import PyProof.Rows.All
import Wide.All
import OpenK.AllK
import Wide.FinOn
import KE.SortKeyed
import HandS.Base
import HandS.Call
import HandS.List
import HandS.Dict
import HandS.Iter
import HandS.Comp
import HandS.Exc
import HandS.ExcOwn
import HandS.Ends
import HandS.Words
import HandS.TupAny
import HandS.Deep
import HandS.IsInst
import HandS.DictComp
import HandS.Wide
import HandS.TryMany
import HandS.Text
import HandS.Defaults
import HandS.Star
import HandS.MakeKwOnly
import KE.GoesEnum
import KE.KExcSuper
import HandS.ExcInit
import HandS.ExcSuper
import HandS.ExcField
import KE.KExcIs
import HandS.HeadHook1
import HandS.HeadHook2
import HandS.Head0
import HandS.Head1
import HandS.Head2
import HandS.HeadEnd
import KE.DatumMoreOrd
import PySem.Challenge.RW_highmeadow_k07_chronicles_read
import KE.KStateDown

section
set_option Elab.async false
set_option linter.all false
set_option maxRecDepth 10000
/-! The value evaluator: data, slots, the intermediate form, what it evaluates to. Plain Lean. -/
namespace Fm
open PySem L2

/-- Python data, by value -/
inductive D where
  | non | bl (b : Bool) | int (i : Int) | str (x : Str)
  | lst (xs : List D) | tup (xs : List D)
  | dk (ks : List Key) (vs : List D) | dt (ks : List (List Key)) (vs : List D)
  | ins (c : Nat) (fs : List Nat) (vs : List D)
  | scr (ns : List Int)
  | lk (o : Obj) (kvs : List (Key × V))
instance : Inhabited D := ⟨.non⟩

/-- what a local name holds: nothing that may be read; a value (whatever it leads to never changes); a container that this name alone leads to -/
inductive Slot where
  | emp | val (d : D) | own (d : D)
abbrev Env := List Slot
def Slot.data : Slot → Option D
  | .emp => none
  | .val d => some d
  | .own d => some d
def Slot.isOwn : Slot → Bool
  | .own _ => true
  | _ => false

/-- an operand: a temporary, or a local name that is not read yet -/
inductive Opd where
  | tmp (s : Slot) | pk (i : Nat)
def Opd.slot (env : Env) : Opd → Slot
  | .tmp s => s
  | .pk i => env.getD i .emp
def Opd.data (env : Env) (o : Opd) : Option D := (o.slot env).data

inductive R (α : Type) where
  | ok (a : α)
  | exc (c : Nat) (x : List D) (env : Env)
  | stuck
def R.bind {α β : Type} (r : R α) (f : α → R β) : R β := match r with
  | .ok a => f a
  | .exc c x e => .exc c x e
  | .stuck => .stuck
def R.thn {α β γ : Type} (r : R (α × β)) (f : α → β → R γ) : R γ := match r with
  | .ok p => f p.1 p.2
  | .exc c x e => .exc c x e
  | .stuck => .stuck
def R.of {α : Type} : Option α → R α
  | some a => .ok a
  | none => .stuck
/-- where nothing may be raised -/
def R.calm {α : Type} : R α → R α
  | .ok a => .ok a
  | _ => .stuck

/-! ### the intermediate form -/
inductive BOp where | add | sub | mul | mod | fdiv | pow
inductive COp where | eq | ne | lt | le | gt | ge | inn | nin
inductive B1 where | len | int | abs | sorted | tuple | list | dict | all
inductive B2 where | max | min
inductive Cls where | int | bool | str | dict | list | tuple | own (c : Nat)
inductive Cn where | non | bl (b : Bool) | int (i : Int) | str (x : Str)
inductive Tg where
  | nm (i : Nat) | tp (ts : List Tg)
mutual
inductive IE where
  | nm (i : Nat)
  | cn (c : Cn)
  | gl (k : Nat)
  | bin (o : BOp) (a b : IE)
  | cmp (o : COp) (a b : IE)
  | ch (o p : COp) (a b c : IE)
  | isc (neg : Bool) (c : Cn) (a : IE)
  | nt (a : IE)
  | an (es : List IE)
  | or (es : List IE)
  | ix (a i : IE)
  | sl (a : IE) (lo hi : List IE)
  | fd (a : IE) (f : Nat)
  | cc (a : IE) (k : Nat)
  | b1 (f : B1) (a : IE)
  | b2 (f : B2) (a b : IE)
  | isi (a : IE) (c : Cls)
  | tp (es : List IE)
  | ls (es : List IE)
  | star (e : IE)
  | d0 (isK : Bool)
  | call (j : Nat) (es : List IE)
  | meth (m : Nat) (o : IE) (es : List IE)
  | mk (c j : Nat) (es kws : List IE)
  | lc (vs : List Nat) (t : Tg) (it : It) (cs : List IE) (e : IE)
  | dc (vs : List Nat) (t : Tg) (it : It) (k v : IE)
  | app (a e : IE)
  | ext (a e : IE)
inductive It where
  | e (a : IE) | r1 (a : IE) | r2 (a b : IE) | en (a : IE)
end
def IE.isStar : IE → Bool
  | .star _ => true
  | _ => false
inductive HE where
  | cn (c : Cn) | fd | is (c : Nat) | isv
structure Hd where
  cls : Nat
  esl : Nat
  dst : Nat
  es : List HE
inductive IS where
  | asg (t : Tg) (e : IE)
  | ssub (a i e : IE)
  | par2 (i j : Nat) (a b : IE)
  | ssub2 (a i b j e : IE)
  | sfd (o : IE) (f : Nat) (e : IE)
  | xp (e : IE)
  | ret (e : IE)
  | ife (c : IE) (a b : List IS)
  | for_ (t : Tg) (it : It) (body : List IS)
  | raise (c : Nat) (es : List IE)
  | try_ (body : List IS) (hs : List Hd)
  | pass | brk | cnt | never

/-! ### the program's tables that the evaluator reads -/
structure Def where
  np : Nat
  nl : Nat
  body : List IS
structure Pg where
  defs : List Def
  glob : List D
  con : List Int
  cok : Nat → Nat → Bool
  fok : Nat → Nat → Bool
  mth : Nat → Nat → Option Nat
  sub : Nat → Nat → Bool
  exk : Nat → Bool

/-! ### values by operators -/
/-- the largest length that is made -/
def big : Nat := 100000
def D.flat : D → Option V
  | .non => some .non
  | .bl b => some (.bl b)
  | .int i => some (.int i)
  | .str x => some (.str x)
  | _ => none
def D.flats : List D → Option (List V)
  | [] => some []
  | d :: ds => match d.flat, D.flats ds with
    | some v, some vs => some (v :: vs)
    | _, _ => none
mutual
def D.py : D → Option PyData
  | .non => some .none
  | .bl b => some (.bool b)
  | .int i => some (.int i)
  | .str x => some (.str x)
  | .lst xs => (D.pys xs).map .list
  | .tup xs => (D.pys xs).map .tuple
  | _ => none
def D.pys : List D → Option (List PyData)
  | [] => some []
  | d :: ds => match d.py, D.pys ds with
    | some v, some vs => some (v :: vs)
    | _, _ => none
end
/-- == of data -/
def eqD (a b : D) : Option Bool := match a, b with
  | .int i, .int j => some (decide (i = j))
  | .str i, .str j => some (decide (i = j))
  | a, b => match a.py, b.py with
    | some x, some y => if SeqAt.shaped x && SeqAt.shaped y then some (PyData.eqv x y) else none
    | _, _ => none
def D.key : D → Option Key
  | .int i => some (.inl i)
  | .str x => some (.inr x)
  | _ => none
def D.keys : List D → Option (List Key)
  | [] => some []
  | d :: ds => match d.key, D.keys ds with
    | some v, some vs => some (v :: vs)
    | _, _ => none
def Key.d : Key → D
  | .inl i => .int i
  | .inr x => .str x
section
variable {κ : Type} [DecidableEq κ]
def getK : List κ → List D → κ → Option D
  | k :: ks, d :: ds, x => if k = x then some d else getK ks ds x
  | _, _, _ => none
def hasK (ks : List κ) (x : κ) : Bool := ks.any fun k => decide (k = x)
def putKs (ks : List κ) (x : κ) : List κ := if hasK ks x then ks else ks ++ [x]
def putVs : List κ → List D → κ → D → List D
  | k :: ks, d :: ds, x, y => if k = x then y :: ds else d :: putVs ks ds x y
  | _, _, _, y => [y]
end
/-- x in y -/
def inD (x y : D) : Option Bool := match y with
  | .lst ys => (match x.flat, D.flats ys with
    | some v, some vs => some (inV v vs)
    | _, _ => match x.py, D.pys ys with
      | some v, some vs => if SeqAt.shaped v && SeqAt.shaped (.list vs) then some (vs.any fun z => PyData.eqv z v) else none
      | _, _ => none)
  | .tup ys => (match x.flat, D.flats ys with
    | some v, some vs => some (inV v vs)
    | _, _ => none)
  | .dk ks _ => (match x.key with
    | some k => some (hasK ks k)
    | none => none)
  | .str z => (match x with
    | .str c => if c.cps.size = 1 then some (decide (c.cps.toList.headD 0 ∈ z.cps.toList)) else none
    | _ => none)
  | _ => none
def cmpD (o : COp) (a b : D) : Option Bool := match o with
  | .eq => eqD a b
  | .ne => (eqD a b).map (!·)
  | .inn => inD a b
  | .nin => (inD a b).map (!·)
  | o => match a, b with
    | .int i, .int j => some (match o with
      | .lt => decide (i < j)
      | .le => decide (i ≤ j)
      | .gt => decide (j < i)
      | _ => decide (j ≤ i))
    | _, _ => none
def binD (o : BOp) (a b : D) (oa ob : Opd) : Option Opd := match o, a, b with
  | .add, .int i, .int j => some (.tmp (.val (.int (i + j))))
  | .sub, .int i, .int j => some (.tmp (.val (.int (i - j))))
  | .mul, .int i, .int j => if i.natAbs < 18446744073709551616 || j.natAbs < 18446744073709551616 then some (.tmp (.val (.int (i * j)))) else none
  | .mod, .int i, .int j => if 0 < j then some (.tmp (.val (.int (i % j)))) else none
  | .fdiv, .int i, .int j => if 0 < j && j < 1073741824 then some (.tmp (.val (.int (i / j)))) else none
  | .pow, .int i, .int j => if 0 ≤ j && (Builtin.Int.intBits i : Int) * j ≤ 134217728 then some (.tmp (.val (.int (i ^ j.toNat)))) else none
  | .add, .str x, .str y => if x.length + y.length ≤ big then some (.tmp (.val (.str (x ++ y)))) else none
  | .add, .lst xs, .lst ys => if xs.length + ys.length ≤ big then some (.tmp (.own (.lst (xs ++ ys)))) else none
  | .add, .tup xs, .tup ys => if xs.length + ys.length ≤ big then some (if xs.isEmpty then ob else if ys.isEmpty then oa else .tmp (.own (.tup (xs ++ ys)))) else none
  | _, _, _ => none
/-- a[i]; key: the index is a tuple that was just made -/
def ixD (a i : D) (made : Bool) : Option D := match a, i with
  | .lst xs, .int k => atI xs k
  | .tup xs, .int k => atI xs k
  | .str x, .int k => if x.length ≤ big then (atI x.cps.toList k).map fun c => .str ⟨#[c]⟩ else none
  | .dk ks vs, k => (match k.key with
    | some k => getK ks vs k
    | none => none)
  | .dt ks vs, .tup k => (match D.keys k, made with
    | some k, true => getK ks vs k
    | _, _ => none)
  | _, _ => none
def cutD (xs : List D) (lo hi : Option Int) : List D := (xs.drop (HT.sIx xs.length 0 lo)).take (HT.sIx xs.length xs.length hi - HT.sIx xs.length 0 lo)
def slD (a : D) (lo hi : Option Int) (oa : Opd) : Option Opd := match a with
  | .lst xs => some (.tmp (.own (.lst (cutD xs lo hi))))
  | .scr ns => some (.tmp (.own (.lst (cutD (ns.map .int) lo hi))))
  | .tup xs => if HT.sIx xs.length 0 lo = 0 ∧ HT.sIx xs.length xs.length hi = xs.length then some oa else some (.tmp (.own (.tup (cutD xs lo hi))))
  | .str x => if x.length ≤ big then some (.tmp (.val (.str ⟨((x.cps.toList.drop (HT.sIx x.cps.size 0 lo)).take (HT.sIx x.cps.size x.cps.size hi - HT.sIx x.cps.size 0 lo)).toArray⟩))) else none
  | _ => none
/-! sorting: data that can be compared place by place -/
def leD (x y : D) : Bool := match x.py, y.py with
  | some a, some b => PySem.W.dataLe false (fun d : PyData => d) a b
  | _, _ => true
def tup1 : PyData → Bool
  | .tuple (_ :: _) => true
  | _ => false
def noTup : PyData → Bool
  | .tuple _ => false
  | .none => false
  | _ => true
def sortable (ds : List D) : Bool := match D.pys ds with
  | some ps => ps.all (fun p => ps.all (PySem.W.alike p)) && (ps.all tup1 || ps.all noTup) && ps.all (fun p => decide (p.depth ≤ 60))
  | none => false
def sortD (ds : List D) : List D := ds.mergeSort leD
def allB : List D → Option Bool
  | [] => some true
  | .bl b :: r => (allB r).map (b && ·)
  | _ :: _ => none
def b1D (f : B1) (a : D) (oa : Opd) : Option Opd := match f, a with
  | .len, .lst xs => some (.tmp (.val (.int xs.length)))
  | .len, .tup xs => some (.tmp (.val (.int xs.length)))
  | .len, .str x => if x.length ≤ big then some (.tmp (.val (.int x.length))) else none
  | .len, .dk ks _ => some (.tmp (.val (.int ks.length)))
  | .int, .int i => some (.tmp (.val (.int i)))
  | .int, .bl b => some (.tmp (.val (.int (if b then 1 else 0))))
  | .abs, .int i => some (.tmp (.val (.int (if i < 0 then -i else i))))
  | .sorted, .lst xs => if sortable xs then some (.tmp (.own (.lst (sortD xs)))) else none
  | .sorted, .dk ks _ => if sortable (ks.map Key.d) then some (.tmp (.own (.lst (sortD (ks.map Key.d))))) else none
  | .tuple, .lst xs => some (.tmp (.own (.tup xs)))
  | .tuple, .tup _ => some oa
  | .list, .lst xs => some (.tmp (.own (.lst xs)))
  | .list, .tup xs => some (.tmp (.own (.lst xs)))
  | .dict, .dk ks vs => some (.tmp (.own (.dk ks vs)))
  | .all, .lst xs => (allB xs).map fun b => .tmp (.val (.bl b))
  | _, _ => none
def b2D (f : B2) (a b : D) : Option D := match f, a, b with
  | .max, .int i, .int j => some (.int (if j > i then j else i))
  | .min, .int i, .int j => some (.int (if j < i then j else i))
  | .max, .str i, .str j => some (.str (if i.cps.toList < j.cps.toList then j else i))
  | .min, .str i, .str j => some (.str (if j.cps.toList < i.cps.toList then j else i))
  | _, _, _ => none
def isiD (a : D) (c : Cls) : Option Bool := match a with
  | .non => some (match c with | .own _ => false | _ => false)
  | .bl _ => some (match c with | .int => true | .bool => true | _ => false)
  | .int _ => some (match c with | .int => true | _ => false)
  | .str _ => some (match c with | .str => true | _ => false)
  | .lst _ => some (match c with | .list => true | _ => false)
  | .tup _ => some (match c with | .tuple => true | _ => false)
  | .dk _ _ => some (match c with | .dict => true | _ => false)
  | .dt _ _ => none
  | .scr _ => none
  | .lk _ _ => none
  | .ins k _ _ => (match c with
    | .own m => if k = m then some true else none
    | _ => none)
def Cn.d : Cn → D
  | .non => .non
  | .bl b => .bl b
  | .int i => .int i
  | .str x => .str x
/-- a is None, True, False -/
def isD (c : Cn) (a : D) : Option Bool := match c with
  | .non => some (match a with | .non => true | _ => false)
  | .bl b => some (match a with | .bl k => k == b | _ => false)
  | _ => none

/-! ### operands and slots -/
/-- read for good: what it leads to never changes from here on -/
def frz (o : Opd) (env : Env) : Option (D × Env) := match o with
  | .tmp s => s.data.map fun d => (d, env)
  | .pk i => (match env.getD i .emp with
    | .emp => none
    | .val d => some (d, env)
    | .own d => some (d, env.set i (.val d)))
def frzs : List Opd → Env → Option (List D × Env)
  | [], env => some ([], env)
  | o :: os, env => (frz o env).bind fun p => (frzs os p.2).map fun q => (p.1 :: q.1, q.2)
/-- a name's slot is written -/
def put (pr : List Nat) (i : Nat) (s : Slot) (env : Env) : Option Env := if i ∈ pr ∨ ¬ i < env.length then none else some (env.set i s)
mutual
/-- an item goes into a target -/
def bnd (pr : List Nat) : Tg → D → Env → Option Env
  | .nm i, d, env => put pr i (.val d) env
  | .tp ts, .tup ds, env => bnds pr ts ds env
  | _, _, _ => none
def bnds (pr : List Nat) : List Tg → List D → Env → Option Env
  | [], [], env => some env
  | t :: ts, d :: ds, env => (bnd pr t d env).bind (bnds pr ts ds)
  | _, _, _ => none
end
def hasPk (i : Nat) (os : List Opd) : Bool := os.any fun p => match p with
  | .pk j => i == j
  | _ => false
/-- it cannot be handed over -/
def badArg (o : Opd) (os : List Opd) (env : Env) : Bool := match o.slot env with
  | .emp => true
  | .val _ => false
  | .own _ => (match o with
    | .pk i => hasPk i os
    | .tmp _ => false)
/-- arguments as a callee takes them: an own container of a name goes in whole -/
def args : List Opd → Env → Option (List Slot)
  | [], _ => some []
  | o :: os, env => match args os env with
    | none => none
    | some ss => if badArg o os env then none else some (o.slot env :: ss)
/-- meanwhile -/
def away : List Opd → Env → Env
  | [], env => env
  | .tmp _ :: os, env => away os env
  | .pk i :: os, env => away os (if (env.getD i .emp).isOwn then env.set i .emp else env)
/-- behind the call they are given back -/
def back : List Opd → List Slot → Env → Env
  | .pk i :: os, s :: ss, env => back os ss (if (env.getD i .emp).isOwn then env.set i s else env)
  | .tmp _ :: os, _ :: ss, env => back os ss env
  | _, _, env => env
abbrev Cl := Nat → List Slot → R (Slot × List Slot)
def docall (cl : Cl) (j : Nat) (os : List Opd) (env : Env) : R (Opd × Env) := match args os env with
  | none => .stuck
  | some ss => match cl j ss with
    | .ok (s, ss') => .ok (.tmp s, back os ss' env)
    | .exc c x ss' => .exc c x (back os ss' env)
    | .stuck => .stuck
/-- an instance is made: self's slot is the end's -/
def domake (cl : Cl) (c j : Nat) (os : List Opd) (env : Env) : R (Opd × Env) := match args os env with
  | none => .stuck
  | some ss => match cl j (.own (.ins c [] []) :: ss) with
    | .ok (.val .non, s :: ss') => .ok (.tmp s, back os ss' env)
    | .exc c x (_ :: ss') => .exc c x (back os ss' env)
    | _ => .stuck
def wipeE (env : Env) : List Nat → Env
  | [] => env
  | v :: vs => (wipeE env vs).set v .emp
/-- the block's own names stand again as they stood -/
def unwipe (env0 env : Env) : List Nat → Env
  | [] => env
  | v :: vs => (unwipe env0 env vs).set v (env0.getD v .emp)
/-! ### what is walked -/
def itemsOf (d : D) : Option (List D) := match d with
  | .lst xs => some xs
  | .tup xs => some xs
  | .str x => some (x.cps.toList.map fun c => .str ⟨#[c]⟩)
  | .dk ks _ => some (ks.map Key.d)
  | _ => none
def rangeD (lo : Int) : Nat → List D
  | 0 => []
  | n + 1 => .int lo :: rangeD (lo + 1) n
def enumD (k : Nat) : List D → List D
  | [] => []
  | d :: ds => .tup [.int k, d] :: enumD (k + 1) ds
def enumOf (d : D) : Option (List D) := match d with
  | .lst xs => some (enumD 0 xs)
  | .tup xs => some (enumD 0 xs)
  | _ => none
def smallR (i : Int) : Bool := -1073741824 ≤ i && i ≤ 1073741824
/-- a comprehension's turns: what a turn makes of an item -/
def turns (vs : List Nat) (f : D → Env → R (Option D × Env)) : List D → Env → List D → R (List D × Env)
  | [], env, acc => .ok (acc, env)
  | d :: ds, env, acc => match f d (wipeE env vs) with
    | .ok (none, env1) => turns vs f ds env1 acc
    | .ok (some y, env1) => if acc.length < big then turns vs f ds env1 (acc ++ [y]) else .stuck
    | _ => .stuck
def dturns (vs : List Nat) (f : D → Env → R ((Key × D) × Env)) : List D → Env → List Key → List D → R ((List Key × List D) × Env)
  | [], env, ks, ws => .ok ((ks, ws), env)
  | d :: ds, env, ks, ws => match f d (wipeE env vs) with
    | .ok ((k, y), env1) => if ks.length < big then dturns vs f ds env1 (putKs ks k) (putVs ks ws k y) else .stuck
    | _ => .stuck
inductive Fl where
  | nx | bk | ct | rt (s : Slot)
def loop (pr : List Nat) (t : Tg) (f : Env → R (Fl × Env)) : List D → Env → R (Fl × Env)
  | [], env => .ok (.nx, env)
  | d :: ds, env => match bnd pr t d env with
    | none => .stuck
    | some env1 => match f env1 with
      | .ok (.nx, env2) => loop pr t f ds env2
      | .ok (.ct, env2) => loop pr t f ds env2
      | .ok (.bk, env2) => .ok (.nx, env2)
      | .ok (.rt s, env2) => .ok (.rt s, env2)
      | .exc c x e => .exc c x e
      | .stuck => .stuck
/-! ### evaluation -/
def asB (o : Opd) (env : Env) : R (Bool × Env) := match o.data env with
  | some (.bl b) => .ok (b, env)
  | _ => .stuck
def optI : List Opd → Env → Option (Option Int)
  | [], _ => some none
  | [o], env => (match o.data env with
    | some (.int i) => some (some i)
    | _ => none)
  | _, _ => none
/-- a slice's part -/
def part (r : R (List Opd × Env)) : R (Option Int × Env) := r.thn fun os env => (R.of (optI os env)).bind fun l => .ok (l, env)
/-- a name whose own list it is -/
def ownL (o : Opd) (env : Env) : Option Nat := match o with
  | .tmp _ => none
  | .pk i => (match env.getD i .emp with
    | .own (.lst _) => some i
    | _ => none)
/-- a name whose own container it is -/
def ownD (o : Opd) (env : Env) : Option (Nat × D) := match o with
  | .tmp _ => none
  | .pk i => (match env.getD i .emp with
    | .own d => some (i, d)
    | _ => none)
/-- c[i] = d; made: the index is a tuple that was just made -/
def setD (c i : D) (made : Bool) (d : D) : Option D := match c, i with
  | .lst xs, .int j => (ixN xs.length j).map fun j => .lst (xs.set j d)
  | .dk ks vs, k => (match k.key with
    | some q => if ks.length < big then some (.dk (putKs ks q) (putVs ks vs q d)) else none
    | none => none)
  | .dt ks vs, .tup q => (match D.keys q with
    | some q => if made && decide (ks.length < big) then some (.dt (putKs ks q) (putVs ks vs q d)) else none
    | none => none)
  | _, _ => none
/-- a star's items -/
def starD (o : Opd) (env : Env) : Option (List Opd) := match o.data env with
  | some (.lst xs) => some (xs.map fun d => .tmp (.val d))
  | some (.tup xs) => some (xs.map fun d => .tmp (.val d))
  | some (.dk ks _) => some (ks.map fun k => .tmp (.val (Key.d k)))
  | _ => none
section
variable (P : Pg) (cl : Cl)
mutual
def ev : IE → Env → R (Opd × Env)
  | .nm i, env => (match env.getD i .emp with
    | .emp => .stuck
    | _ => .ok (.pk i, env))
  | .cn c, env => .ok (.tmp (.val c.d), env)
  | .gl k, env => match P.glob[k]? with
    | some d => .ok (.tmp (.val d), env)
    | none => .stuck
  | .bin o a b, env => (ev a env).thn fun x env1 => (ev b env1).thn fun y env2 => match x.data env2, y.data env2 with
    | some dx, some dy => (R.of (binD o dx dy x y)).bind fun r => .ok (r, env2)
    | _, _ => .stuck
  | .cmp o a b, env => (ev a env).thn fun x env1 => (ev b env1).thn fun y env2 => match x.data env2, y.data env2 with
    | some dx, some dy => (R.of (cmpD o dx dy)).bind fun r => .ok (.tmp (.val (.bl r)), env2)
    | _, _ => .stuck
  | .ch o p a b c, env => (ev a env).thn fun x env1 => (ev b env1).thn fun y env2 => match x.data env2, y.data env2 with
    | some dx, some dy => (R.of (cmpD o dx dy)).bind fun r => if r then (ev c env2).thn fun z env3 => (match y.data env3, z.data env3 with
        | some dy, some dz => (R.of (cmpD p dy dz)).bind fun r => .ok (.tmp (.val (.bl r)), env3)
        | _, _ => .stuck) else .ok (.tmp (.val (.bl false)), env2)
    | _, _ => .stuck
  | .isc neg c a, env => (ev a env).thn fun x env1 => match x.data env1 with
    | some dx => (R.of (isD c dx)).bind fun r => .ok (.tmp (.val (.bl (if neg then !r else r))), env1)
    | none => .stuck
  | .nt a, env => (ev a env).thn fun x env1 => (asB x env1).thn fun b env2 => .ok (.tmp (.val (.bl (!b))), env2)
  | .an es, env => (evAnd es env).thn fun b env1 => .ok (.tmp (.val (.bl b)), env1)
  | .or es, env => (evOr es env).thn fun b env1 => .ok (.tmp (.val (.bl b)), env1)
  | .ix a i, env => (ev a env).thn fun x env1 => (ev i env1).thn fun y env2 => match x.data env2, y.slot env2 with
    | some dx, .own dy => (R.of (ixD dx dy true)).bind fun r => .ok (.tmp (.val r), env2)
    | some dx, .val dy => (R.of (ixD dx dy false)).bind fun r => .ok (.tmp (.val r), env2)
    | _, _ => .stuck
  | .sl a lo hi, env => (ev a env).thn fun x env1 => (part (evs lo env1)).thn fun l env2 => (part (evs hi env2)).thn fun h env3 => match x.data env3 with
    | some dx => (R.of (slD dx l h x)).bind fun r => .ok (r, env3)
    | none => .stuck
  | .fd a f, env => (ev a env).thn fun x env1 => match x.data env1 with
    | some (.ins c fs vs) => if P.fok c f then (R.of (getK fs vs f)).bind fun r => .ok (.tmp (.val r), env1) else .stuck
    | _ => .stuck
  | .cc a k, env => (ev a env).thn fun x env1 => match x.data env1, P.con[k]? with
    | some (.ins c _ _), some i => if P.cok c k then .ok (.tmp (.val (.int i)), env1) else .stuck
    | _, _ => .stuck
  | .b1 f a, env => (ev a env).thn fun x env1 => match x.data env1 with
    | some dx => (R.of (b1D f dx x)).bind fun r => .ok (r, env1)
    | none => .stuck
  | .b2 f a b, env => (ev a env).thn fun x env1 => (ev b env1).thn fun y env2 => match x.data env2, y.data env2 with
    | some dx, some dy => (R.of (b2D f dx dy)).bind fun r => .ok (.tmp (.val r), env2)
    | _, _ => .stuck
  | .isi a c, env => (ev a env).thn fun x env1 => match x.data env1 with
    | some dx => (R.of (isiD dx c)).bind fun r => .ok (.tmp (.val (.bl r)), env1)
    | none => .stuck
  | .tp es, env => (evs es env).thn fun os env1 => (R.of (frzs os env1)).thn fun ds env2 => if ds.length ≤ big then .ok (.tmp (.own (.tup ds)), env2) else .stuck
  | .ls es, env => (evs es env).thn fun os env1 => (R.of (frzs os env1)).thn fun ds env2 => if ds.length ≤ big then .ok (.tmp (.own (.lst ds)), env2) else .stuck
  | .star _, _ => .stuck
  | .d0 isK, env => .ok (.tmp (.own (if isK then .dk [] [] else .dt [] [])), env)
  | .call j es, env => (evs es env).thn fun os env1 => docall cl j os env1
  | .meth m o es, env => (ev o env).thn fun x env1 => match x.data env1 with
    | some (.ins c _ _) => (match P.mth c m with
      | some j => (evs es env1).thn fun os env2 => docall cl j (x :: os) env2
      | none => .stuck)
    | _ => .stuck
  | .mk c j es kws, env => (evs es env).thn fun os env1 => (evs kws env1).thn fun qs env2 => domake cl c j (os ++ qs) env2
  | .lc vs t it cs e, env => (evIt it env).thn fun xs env1 => (turns vs (fun d env => match bnd [] t d env with
      | none => .stuck
      | some env2 => (evAnd cs env2).thn fun b env3 => if b then (ev e env3).thn fun o env4 => (R.of (frz o env4)).thn fun y env5 => .ok (some y, env5) else .ok (none, env3)) xs env1 []).thn fun ds env2 =>
    .ok (.tmp (.own (.lst ds)), unwipe env1 env2 vs)
  | .dc vs t it k v, env => (evIt it env).thn fun xs env1 => (dturns vs (fun d env => match bnd [] t d env with
      | none => .stuck
      | some env2 => (ev k env2).thn fun ko env3 => (ev v env3).thn fun vo env4 => (match ko.data env4 with
        | some kd => (R.of kd.key).bind fun kk => (R.of (frz vo env4)).thn fun y env5 => .ok ((kk, y), env5)
        | none => .stuck)) xs env1 [] []).thn fun kw env2 =>
    .ok (.tmp (.own (.dk kw.1 kw.2)), unwipe env1 env2 vs)
  | .app a e, env => (ev a env).thn fun x env1 => match ownL x env1 with
    | some i => (ev e env1).thn fun y env2 => (R.of (frz y env2)).thn fun d env3 => (match env3.getD i .emp with
      | .own (.lst xs) => if xs.length < big then .ok (.tmp (.val .non), env3.set i (.own (.lst (xs ++ [d])))) else .stuck
      | _ => .stuck)
    | none => .stuck
  | .ext a e, env => (ev a env).thn fun x env1 => match ownL x env1 with
    | some i => (ev e env1).thn fun y env2 => (match y with
      | .tmp (.own (.lst ys)) => (match env2.getD i .emp with
        | .own (.lst xs) => if xs.length + ys.length ≤ big then .ok (.tmp (.val .non), env2.set i (.own (.lst (xs ++ ys)))) else .stuck
        | _ => .stuck)
      | _ => .stuck)
    | none => .stuck
def evs : List IE → Env → R (List Opd × Env)
  | [], env => .ok ([], env)
  | .star e :: es, env => (ev e env).thn fun x env1 => (R.of (starD x env1)).bind fun here => (evs es env1).thn fun xs env2 => .ok (here ++ xs, env2)
  | e :: es, env => (ev e env).thn fun x env1 => (evs es env1).thn fun xs env2 => .ok (x :: xs, env2)
/-- all of them, from the left -/
def evAnd : List IE → Env → R (Bool × Env)
  | [], env => .ok (true, env)
  | e :: es, env => (ev e env).thn fun x env1 => (asB x env1).thn fun b env2 => if b then evAnd es env2 else .ok (false, env2)
def evOr : List IE → Env → R (Bool × Env)
  | [], env => .ok (false, env)
  | e :: es, env => (ev e env).thn fun x env1 => (asB x env1).thn fun b env2 => if b then .ok (true, env2) else evOr es env2
def evIt : It → Env → R (List D × Env)
  | .e a, env => (ev a env).thn fun x env1 => (R.of (frz x env1)).thn fun d env2 => (R.of (itemsOf d)).bind fun xs => .ok (xs, env2)
  | .r1 a, env => (ev a env).thn fun x env1 => match x.data env1 with
    | some (.int n) => if smallR n then .ok (rangeD 0 n.toNat, env1) else .stuck
    | _ => .stuck
  | .r2 a b, env => (ev a env).thn fun x env1 => (ev b env1).thn fun y env2 => match x.data env2, y.data env2 with
    | some (.int m), some (.int n) => if smallR m && smallR n then .ok (rangeD m (n - m).toNat, env2) else .stuck
    | _, _ => .stuck
  | .en a, env => (ev a env).thn fun x env1 => (R.of (frz x env1)).thn fun d env2 => (R.of (enumOf d)).bind fun xs => .ok (xs, env2)
end
theorem evs_cons {e : IE} {es : List IE} {env : Env} (h : e.isStar = false) : evs P cl (e :: es) env = (ev P cl e env).thn fun x env1 => (evs P cl es env1).thn fun xs env2 => .ok (x :: xs, env2) := by
  cases e with
  | star _ => cases h
  | _ => rw [evs]; simp
theorem evs_star {e : IE} {es : List IE} {env : Env} : evs P cl (.star e :: es) env = (ev P cl e env).thn fun x env1 => (R.of (starD x env1)).bind fun here => (evs P cl es env1).thn fun xs env2 => .ok (here ++ xs, env2) := by rw [evs]
def evB (e : IE) (env : Env) : R (Bool × Env) := (ev P cl e env).thn fun x env1 => asB x env1
/-- a[i] = d -/
def sets (a i : IE) (d : D) (env : Env) : R Env := (ev P cl a env).thn fun x env1 => (ev P cl i env1).thn fun y env2 => match ownD x env2 with
  | some (k, c) => (match y.data env2 with
    | some di => (R.of (setD c di (y.slot env2).isOwn d)).bind fun c' => .ok (env2.set k (.own c'))
    | none => .stuck)
  | none => .stuck
def hev (c : Nat) (x : List D) : HE → Option D
  | .cn k => some k.d
  | .fd => x.head?
  | .is k => x.head?.map fun _ => .bl (P.sub c k)
  | .isv => x.head?.map fun _ => .bl true
def hevs (c : Nat) (x : List D) : List HE → Option (List D)
  | [] => some []
  | h :: hs => (hev P c x h).bind fun d => (hevs c x hs).map (d :: ·)
variable (pr : List Nat)
def handle (c : Nat) (x : List D) (env : Env) : List Hd → R (Fl × Env)
  | [] => .exc c x env
  | h :: hs => if P.sub c h.cls then (R.of (hevs P c x h.es)).bind fun ds => (R.of (put pr h.dst (.own (.lst ds)) env)).bind fun env1 => (R.of (put pr h.esl .emp env1)).bind fun env2 => .ok (.nx, env2) else handle c x env hs
mutual
def ex : IS → Env → R (Fl × Env)
  | .asg t e, env => (ev P cl e env).thn fun x env1 => match t with
    | .nm i => (match x with
      | .tmp .emp => .stuck
      | .tmp s => (R.of (put pr i s env1)).bind fun env2 => .ok (.nx, env2)
      | .pk _ => (R.of (frz x env1)).thn fun d env2 => (R.of (put pr i (.val d) env2)).bind fun env3 => .ok (.nx, env3))
    | t => (R.of (frz x env1)).thn fun d env2 => (R.of (bnd pr t d env2)).bind fun env3 => .ok (.nx, env3)
  | .ssub a i e, env => (ev P cl e env).thn fun z env1 => (R.of (frz z env1)).thn fun d env2 => (sets P cl a i d env2).bind fun env3 => .ok (.nx, env3)
  | .par2 i j a b, env => (ev P cl a env).thn fun x env1 => (ev P cl b env1).thn fun y env2 => (R.of (frz x env2)).thn fun dx env3 => (R.of (frz y env3)).thn fun dy env4 =>
    (R.of (put pr i (.val dx) env4)).bind fun env5 => (R.of (put pr j (.val dy) env5)).bind fun env6 => .ok (.nx, env6)
  | .ssub2 a i b j e, env => (ev P cl e env).thn fun z env1 => (R.of (frz z env1)).thn fun d env2 => match d with
    | .tup [dz, dw] => (sets P cl a i dz env2).bind fun env3 => (sets P cl b j dw env3).bind fun env4 => .ok (.nx, env4)
    | _ => .stuck
  | .sfd o f e, env => (ev P cl e env).thn fun z env1 => (R.of (frz z env1)).thn fun d env2 => (ev P cl o env2).thn fun x env3 => match ownD x env3 with
    | some (k, .ins c fs vs) => if P.fok c f && decide (fs.length < 1000) then .ok (.nx, env3.set k (.own (.ins c (putKs fs f) (putVs fs vs f d)))) else .stuck
    | _ => .stuck
  | .xp e, env => (ev P cl e env).thn fun _ env1 => .ok (.nx, env1)
  | .ret e, env => (ev P cl e env).thn fun x env1 => match x with
    | .tmp .emp => .stuck
    | .tmp s => .ok (.rt s, env1)
    | .pk i => if i ∈ pr then (R.of (frz x env1)).thn fun d env2 => .ok (.rt (.val d), env2) else (match env1.getD i .emp with
      | .emp => .stuck
      | s => .ok (.rt s, env1.set i .emp))
  | .ife c a b, env => (evB P cl c env).thn fun k env1 => if k then exs a env1 else exs b env1
  | .for_ t it body, env => (evIt P cl it env).thn fun xs env1 => loop pr t (fun env => exs body env) xs env1
  | .raise c es, env => (evs P cl es env).thn fun os env1 => (R.of (frzs os env1)).thn fun ds env2 => .exc c ds env2
  | .try_ body hs, env => match exs body env with
    | .exc c x env1 => if P.exk c then handle P pr c x env1 hs else .stuck
    | r => r
  | .pass, env => .ok (.nx, env)
  | .brk, env => .ok (.bk, env)
  | .cnt, env => .ok (.ct, env)
  | .never, _ => .stuck
def exs : List IS → Env → R (Fl × Env)
  | [], env => .ok (.nx, env)
  | s :: ss, env => match ex s env with
    | .ok (.nx, env1) => exs ss env1
    | r => r
end
end
def ownIx (k : Nat) : List Slot → List Nat
  | [] => []
  | s :: ss => if s.isOwn then k :: ownIx (k + 1) ss else ownIx (k + 1) ss
/-- the parameters' slots as they are given back -/
def given (k : Nat) : List Slot → Env → List Slot
  | [], _ => []
  | s :: ss, env => (if s.isOwn then env.getD k .emp else .emp) :: given (k + 1) ss env
def run (P : Pg) (cl : Cl) (f : Def) (ss : List Slot) : R (Slot × List Slot) :=
  if ss.length = f.np then match exs P cl (ownIx 0 ss) f.body (ss ++ List.replicate (f.nl - f.np) .emp) with
    | .ok (.nx, env) => .ok (.val .non, given 0 ss env)
    | .ok (.rt s, env) => .ok (s, given 0 ss env)
    | .exc c x env => .exc c x (given 0 ss env)
    | _ => .stuck
  else .stuck
def callN (P : Pg) : Nat → Cl
  | 0, _, _ => .stuck
  | n + 1, j, ss => match P.defs[j]? with
    | some f => run P (callN P n) f ss
    | none => .stuck
end Fm
end

section
set_option Elab.async false
set_option linter.all false
set_option maxRecDepth 10000
set_option autoImplicit false
/-! How data stand in the abstract heap: what is frozen, what a name owns. -/
namespace Fm
open PySem L2

structure Wd where
  K : PySem.W.Frag
  cls : Nat → Addr
  fld : Nat → Str
  xf : Nat → Str

/-! ### data in a heap -/
mutual
def Rep (T : Wd) (H : Hp) : D → V → Prop
  | .non, v => v = .non
  | .bl b, v => v = .bl b
  | .int i, v => v = .int i
  | .str x, v => v = .str x
  | .lst ds, v => ∃ a vs, v = .ref a ∧ Rd H a (.lst vs) ∧ Reps T H ds vs
  | .tup ds, v => ∃ a vs, v = .ref a ∧ SqT T.K H a vs ∧ Reps T H ds vs
  | .dk ks ds, v => ∃ a vs, v = .ref a ∧ Rd H a (.dK (ks.zip vs)) ∧ (ks.length = vs.length ∧ ks.Nodup) ∧ Reps T H ds vs
  | .dt ks ds, v => ∃ a vs, v = .ref a ∧ Rd H a (.dT (ks.zip vs)) ∧ (ks.length = vs.length ∧ ks.Nodup) ∧ Reps T H ds vs
  | .ins c fs ds, v => ∃ a dx vs, v = .ref a ∧ H a = some (.ins (T.cls c) dx ((fs.map T.fld).zip vs)) ∧ fs.length = vs.length ∧ Reps T H ds vs
  | .scr ns, v => ∃ a, v = .ref a ∧ SqL T.K H a (ns.map V.int)
  | .lk o kvs, v => ∃ a, v = .ref a ∧ H a = some (.frz o (.dK kvs))
def Reps (T : Wd) (H : Hp) : List D → List V → Prop
  | [], vs => vs = []
  | d :: ds, vs => ∃ v r, vs = v :: r ∧ Rep T H d v ∧ Reps T H ds r
end
/-- the same thing, or a dict that is locked by now -/
def Fz (u u' : HO) : Prop := u' = u ∨ ∃ o, ((∃ kvs, u = .dK kvs) ∨ ∃ kvs, u = .dT kvs) ∧ u' = .frz o u
theorem Fz.refl (u : HO) : Fz u u := .inl rfl
theorem Fz.trans {u v w : HO} (a : Fz u v) (b : Fz v w) : Fz u w := by
  rcases a with rfl | ⟨o, h, rfl⟩
  · exact b
  · rcases b with rfl | ⟨o', h', rfl⟩
    · exact .inr ⟨o, h, rfl⟩
    · rcases h' with ⟨k, h'⟩ | ⟨k, h'⟩ <;> cases h'
/-- F's objects stand in H -/
def Sub (F H : Hp) : Prop := ∀ a u, F a = some u → ∃ u', H a = some u' ∧ Fz u u'
theorem Sub.refl (H : Hp) : Sub H H := fun _ u h => ⟨u, h, .inl rfl⟩
theorem Sub.trans {F G H : Hp} (a : Sub F G) (b : Sub G H) : Sub F H := fun x u h => by
  obtain ⟨v, hv, z⟩ := a x u h
  obtain ⟨w, hw, z'⟩ := b x v hv
  exact ⟨w, hw, z.trans z'⟩
theorem Sub.grow {F H : Hp} {a : Addr} {o : HO} (s : Sub F H) (n : F a = none) : Sub F (upd H a o) := fun b u e => by
  rw [upd_ne (ne_of_none e n)]; exact s b u e
theorem Sub.both {F H : Hp} {a : Addr} {o : HO} (s : Sub F H) : Sub (upd F a o) (upd H a o) := fun b u e => by
  by_cases h : b = a
  · subst h; rw [upd_same] at e ⊢; exact ⟨u, e, .inl rfl⟩
  · rw [upd_ne h] at e ⊢; exact s b u e
theorem Sub.left {F H : Hp} {a : Addr} {o : HO} (s : Sub F H) (n : H a = some o) : Sub (upd F a o) H := fun b u e => by
  by_cases h : b = a
  · subst h; rw [upd_same] at e; exact ⟨u, n.trans e, .inl rfl⟩
  · rw [upd_ne h] at e; exact s b u e
theorem Sub.new {F : Hp} {a : Addr} {o : HO} (n : F a = none) : Sub F (upd F a o) := (Sub.refl F).grow n
theorem Sub.rd {F H : Hp} (s : Sub F H) {a : Addr} {u : HO} (h : Rd F a u) : Rd H a u := by
  rcases h with h | ⟨o, h⟩
  · obtain ⟨u', h', rfl | ⟨o, _, rfl⟩⟩ := s a _ h
    · exact .inl h'
    · exact .inr ⟨o, h'⟩
  · obtain ⟨u', h', rfl | ⟨o', z, _⟩⟩ := s a _ h
    · exact .inr ⟨o, h'⟩
    · rcases z with ⟨k, z⟩ | ⟨k, z⟩ <;> cases z
theorem Sub.frz {F H : Hp} (s : Sub F H) {a : Addr} {o : Obj} {u : HO} (h : F a = some (.frz o u)) : H a = some (.frz o u) := by
  obtain ⟨u', h', rfl | ⟨o', z, _⟩⟩ := s a _ h
  · exact h'
  · rcases z with ⟨k, z⟩ | ⟨k, z⟩ <;> cases z
theorem Sub.ins {F H : Hp} (s : Sub F H) {a C dx : Addr} {fs : List (Str × V)} (h : F a = some (.ins C dx fs)) : H a = some (.ins C dx fs) := by
  obtain ⟨u', h', rfl | ⟨o, z, _⟩⟩ := s a _ h
  · exact h'
  · rcases z with ⟨k, z⟩ | ⟨k, z⟩ <;> cases z
theorem Sub.sl {F H : Hp} (s : Sub F H) {K : PySem.W.Frag} {a : Addr} {vs : List V} (h : SqL K F a vs) : SqL K H a vs := h.imp s.rd id
theorem Sub.st {F H : Hp} (s : Sub F H) {K : PySem.W.Frag} {a : Addr} {vs : List V} (h : SqT K F a vs) : SqT K H a vs := h.imp s.rd id
section
variable {T : Wd} {F H : Hp}
mutual
theorem Rep.mono (s : Sub F H) : ∀ (d : D) (v : V), Rep T F d v → Rep T H d v
  | .non, v, h => h
  | .bl b, v, h => h
  | .int i, v, h => h
  | .str x, v, h => h
  | .lst ds, v, h => by
    obtain ⟨a, vs, e, q, r⟩ := h
    exact ⟨a, vs, e, s.rd q, Reps.mono s ds vs r⟩
  | .tup ds, v, h => by
    obtain ⟨a, vs, e, q, r⟩ := h
    exact ⟨a, vs, e, s.st q, Reps.mono s ds vs r⟩
  | .dk ks ds, v, h => by
    obtain ⟨a, vs, e, q, l, r⟩ := h
    exact ⟨a, vs, e, s.rd q, l, Reps.mono s ds vs r⟩
  | .dt ks ds, v, h => by
    obtain ⟨a, vs, e, q, l, r⟩ := h
    exact ⟨a, vs, e, s.rd q, l, Reps.mono s ds vs r⟩
  | .ins c fs ds, v, h => by
    obtain ⟨a, dx, vs, e, q, l, r⟩ := h
    exact ⟨a, dx, vs, e, s.ins q, l, Reps.mono s ds vs r⟩
  | .lk o kvs, v, h => by
    obtain ⟨a, e, q⟩ := h
    exact ⟨a, e, s.frz q⟩
  | .scr ns, v, h => by
    obtain ⟨a, e, q⟩ := h
    exact ⟨a, e, s.sl q⟩
theorem Reps.mono (s : Sub F H) : ∀ (ds : List D) (vs : List V), Reps T F ds vs → Reps T H ds vs
  | [], vs, h => h
  | d :: ds, vs, h => by
    obtain ⟨v, r, e, q, qs⟩ := h
    exact ⟨v, r, e, Rep.mono s d v q, Reps.mono s ds r qs⟩
end
theorem Reps.nil : Reps T H [] [] := rfl
theorem Reps.cons {d : D} {v : V} {ds : List D} {vs : List V} (h : Rep T H d v) (r : Reps T H ds vs) : Reps T H (d :: ds) (v :: vs) := ⟨v, vs, rfl, h, r⟩
theorem Reps.uncons {d : D} {v : V} {ds : List D} {vs : List V} (r : Reps T H (d :: ds) (v :: vs)) : Rep T H d v ∧ Reps T H ds vs := by
  obtain ⟨w, r', e, a, b⟩ := r
  cases e
  exact ⟨a, b⟩
theorem Reps.len : ∀ {ds : List D} {vs : List V}, Reps T H ds vs → ds.length = vs.length
  | [], vs, h => by
    have h' : vs = [] := h
    rw [h']
    all_goals rfl
  | d :: ds, vs, h => by
    obtain ⟨v, r, e, _, qs⟩ := h
    rw [e, List.length_cons, List.length_cons, Reps.len qs]
theorem Reps.get : ∀ {ds : List D} {vs : List V} {i : Nat} {d : D}, Reps T H ds vs → ds[i]? = some d → ∃ v, vs[i]? = some v ∧ Rep T H d v
  | [], _, _, _, _, e => by simp at e
  | x :: ds, vs, 0, d, h, e => by
    obtain ⟨v, r, e1, q, _⟩ := h
    simp at e
    subst e
    exact ⟨v, by rw [e1]; rfl, q⟩
  | x :: ds, vs, i + 1, d, h, e => by
    obtain ⟨v, r, e1, _, qs⟩ := h
    obtain ⟨w, e2, q⟩ := Reps.get (i := i) qs (by simpa using e)
    exact ⟨w, by rw [e1]; simpa using e2, q⟩
theorem Reps.get' : ∀ {ds : List D} {vs : List V} {i : Nat} {v : V}, Reps T H ds vs → vs[i]? = some v → ∃ d, ds[i]? = some d ∧ Rep T H d v
  | [], vs, i, v, h, e => by
    have h' : vs = [] := h
    rw [h'] at e
    simp at e
  | x :: ds, vs, 0, v, h, e => by
    obtain ⟨w, r, e1, q, _⟩ := h
    rw [e1] at e
    simp at e
    subst e
    exact ⟨x, rfl, q⟩
  | x :: ds, vs, i + 1, v, h, e => by
    obtain ⟨w, r, e1, _, qs⟩ := h
    rw [e1] at e
    obtain ⟨d, e2, q⟩ := Reps.get' (i := i) qs (by simpa using e)
    exact ⟨d, by simpa using e2, q⟩
theorem Reps.app : ∀ {ds es : List D} {vs ws : List V}, Reps T H ds vs → Reps T H es ws → Reps T H (ds ++ es) (vs ++ ws)
  | [], _, vs, _, h, g => by
    have h' : vs = [] := h
    rw [h']
    exact g
  | d :: ds, _, vs, _, h, g => by
    obtain ⟨v, r, e, q, qs⟩ := h
    rw [e]
    exact ⟨v, _, rfl, q, Reps.app qs g⟩
theorem Reps.drop : ∀ {ds : List D} {vs : List V} (n : Nat), Reps T H ds vs → Reps T H (ds.drop n) (vs.drop n)
  | [], vs, n, h => by
    have h' : vs = [] := h
    rw [h']
    simp [Reps]
  | d :: ds, vs, 0, h => h
  | d :: ds, vs, n + 1, h => by
    obtain ⟨v, r, e, q, qs⟩ := h
    rw [e]
    exact Reps.drop n qs
theorem Reps.take : ∀ {ds : List D} {vs : List V} (n : Nat), Reps T H ds vs → Reps T H (ds.take n) (vs.take n)
  | [], vs, n, h => by
    have h' : vs = [] := h
    rw [h']
    simp [Reps]
  | d :: ds, vs, 0, h => by simp [Reps]
  | d :: ds, vs, n + 1, h => by
    obtain ⟨v, r, e, q, qs⟩ := h
    rw [e]
    exact ⟨v, _, rfl, q, Reps.take n qs⟩
theorem Reps.set : ∀ {ds : List D} {vs : List V} {d : D} {v : V} (i : Nat), Reps T H ds vs → Rep T H d v → Reps T H (ds.set i d) (vs.set i v)
  | [], vs, _, _, i, h, _ => by
    have h' : vs = [] := h
    rw [h']
    simp [Reps]
  | x :: ds, vs, d, v, 0, h, g => by
    obtain ⟨w, r, e, q, qs⟩ := h
    rw [e]
    exact ⟨v, r, rfl, g, qs⟩
  | x :: ds, vs, d, v, i + 1, h, g => by
    obtain ⟨w, r, e, q, qs⟩ := h
    rw [e]
    exact ⟨w, _, rfl, q, Reps.set i qs g⟩
/-- what a container holds, children frozen -/
def Ho (T : Wd) (F : Hp) : D → HO → Prop
  | .lst ds, o => ∃ vs, o = .lst vs ∧ Reps T F ds vs
  | .tup ds, o => ∃ vs, o = .tup vs ∧ Reps T F ds vs
  | .dk ks ds, o => ∃ vs, o = .dK (ks.zip vs) ∧ (ks.length = vs.length ∧ ks.Nodup) ∧ Reps T F ds vs
  | .dt ks ds, o => ∃ vs, o = .dT (ks.zip vs) ∧ (ks.length = vs.length ∧ ks.Nodup) ∧ Reps T F ds vs
  | .ins c fs ds, o => ∃ dx vs, o = .ins (T.cls c) dx ((fs.map T.fld).zip vs) ∧ fs.length = vs.length ∧ Reps T F ds vs
  | _, _ => False
theorem Ho.mono {d : D} {o : HO} (s : Sub F H) (h : Ho T F d o) : Ho T H d o := by
  cases d with
  | lst ds => obtain ⟨vs, e, r⟩ := h; exact ⟨vs, e, Reps.mono s _ _ r⟩
  | tup ds => obtain ⟨vs, e, r⟩ := h; exact ⟨vs, e, Reps.mono s _ _ r⟩
  | dk ks ds => obtain ⟨vs, e, l, r⟩ := h; exact ⟨vs, e, l, Reps.mono s _ _ r⟩
  | dt ks ds => obtain ⟨vs, e, l, r⟩ := h; exact ⟨vs, e, l, Reps.mono s _ _ r⟩
  | ins c fs ds => obtain ⟨dx, vs, e, l, r⟩ := h; exact ⟨dx, vs, e, l, Reps.mono s _ _ r⟩
  | _ => exact h.elim
/-- a container that stands in H, its children in F -/
theorem Ho.rep {d : D} {o : HO} {a : Addr} (h : Ho T F d o) (s : Sub F H) (e : H a = some o) : Rep T H d (.ref a) := by
  cases d with
  | lst ds => obtain ⟨vs, rfl, r⟩ := h; exact ⟨a, vs, rfl, .inl e, Reps.mono s _ _ r⟩
  | tup ds => obtain ⟨vs, rfl, r⟩ := h; exact ⟨a, vs, rfl, .inl (.inl e), Reps.mono s _ _ r⟩
  | dk ks ds => obtain ⟨vs, rfl, l, r⟩ := h; exact ⟨a, vs, rfl, .inl e, l, Reps.mono s _ _ r⟩
  | dt ks ds => obtain ⟨vs, rfl, l, r⟩ := h; exact ⟨a, vs, rfl, .inl e, l, Reps.mono s _ _ r⟩
  | ins c fs ds => obtain ⟨dx, vs, rfl, l, r⟩ := h; exact ⟨a, dx, vs, rfl, e, l, Reps.mono s _ _ r⟩
  | _ => exact h.elim
end

/-! ### the state of a def's run -/
/-- F0: what is frozen at the entry; H0: the entry's heap; M: the containers that the caller hands over; pin: slots that stay -/
structure Fr where
  F0 : Hp
  H0 : Hp
  M : List Addr
  pin : List (Nat × V)
structure Hps (c : Fr) (F H : Hp) : Prop where
  sub : Sub F H
  base : Sub c.F0 F
  new : ∀ a u, F a = some u → c.F0 a ≠ none ∨ c.H0 a = none ∨ a ∈ c.M
  prot : ∀ a u, c.H0 a = some u → a ∉ c.M → H a = some u ∨ (c.F0 a ≠ none ∧ ∃ u', H a = some u' ∧ Fz u u')
  dom : ∀ a, c.H0 a ≠ none → H a ≠ none
abbrev SV := Slot × V
def SlOk (T : Wd) (c : Fr) (F H : Hp) : Slot → V → Prop
  | .emp, _ => True
  | .val d, v => Rep T F d v
  | .own d, v => ∃ a o, v = .ref a ∧ H a = some o ∧ F a = none ∧ Ho T F d o ∧ (a ∈ c.M ∨ c.H0 a = none)
def oad : SV → Option Addr
  | (.own _, .ref a) => some a
  | _ => none
structure Rel (T : Wd) (c : Fr) (ps : List SV) (F H : Hp) : Prop where
  hp : Hps c F H
  each : ∀ p ∈ ps, SlOk T c F H p.1 p.2
  nd : (ps.filterMap oad).Nodup
section
variable {T : Wd} {c : Fr} {ps qs : List SV} {F H : Hp}
theorem Rel.perm (r : Rel T c ps F H) (p : ps.Perm qs) : Rel T c qs F H :=
  ⟨r.hp, fun x h => r.each x (p.mem_iff.mpr h), (p.filterMap oad).nodup_iff.mp r.nd⟩
theorem Rel.less (r : Rel T c ps F H) (p : qs.Sublist ps) : Rel T c qs F H :=
  ⟨r.hp, fun x h => r.each x (p.subset h), List.Nodup.sublist (p.filterMap oad) r.nd⟩
theorem oad_own {d : D} {a : Addr} : oad (.own d, .ref a) = some a := rfl
theorem oad_val {d : D} {v : V} : oad (.val d, v) = none := rfl
theorem oad_emp {v : V} : oad (.emp, v) = none := rfl
theorem mem_oad {a : Addr} : a ∈ ps.filterMap oad ↔ ∃ d, (Slot.own d, V.ref a) ∈ ps := by
  rw [List.mem_filterMap]
  constructor
  · rintro ⟨⟨s, v⟩, h1, h2⟩
    cases s with
    | own d =>
      cases v with
      | ref b =>
        have e : b = a := Option.some.inj h2
        subst e
        exact ⟨d, h1⟩
      | _ => cases h2
    | _ => cases h2
  · rintro ⟨d, h⟩
    exact ⟨_, h, rfl⟩
theorem Hps.fresh (h : Hps c F H) {a : Addr} (e : H a = none) : c.H0 a = none := by
  cases q : c.H0 a with
  | none => rfl
  | some u => exact absurd e (h.dom a (by rw [q]; exact fun z => nomatch z))
theorem Hps.ffree (h : Hps c F H) {a : Addr} (e : H a = none) : F a = none := by
  cases q : F a with
  | none => rfl
  | some u =>
    obtain ⟨_, z, _⟩ := h.sub a u q
    rw [z] at e; cases e
/-- a pair of no own container in ahead -/
theorem Rel.cons (r : Rel T c ps F H) {s : Slot} {v : V} (h : SlOk T c F H s v) (n : ∀ a, oad (s, v) = some a → ∀ d, (Slot.own d, V.ref a) ∉ ps) : Rel T c ((s, v) :: ps) F H := by
  refine ⟨r.hp, fun p hp => ?_, ?_⟩
  · rcases List.mem_cons.mp hp with rfl | hp
    · exact h
    · exact r.each p hp
  · cases e : oad (s, v) with
    | none => rw [List.filterMap_cons_none e]; exact r.nd
    | some a =>
      rw [List.filterMap_cons_some e]
      refine List.nodup_cons.mpr ⟨fun m => ?_, r.nd⟩
      obtain ⟨d, hd⟩ := mem_oad.mp m
      exact n a e d hd
theorem Rel.val (r : Rel T c ps F H) {d : D} {v : V} (h : Rep T F d v) : Rel T c ((.val d, v) :: ps) F H := r.cons h fun a e => nomatch e
theorem Rel.emp (r : Rel T c ps F H) {v : V} : Rel T c ((.emp, v) :: ps) F H := r.cons trivial fun a e => nomatch e
theorem Rel.uncons {p : SV} (r : Rel T c (p :: ps) F H) : Rel T c ps F H := r.less (List.sublist_cons_self _ _)
/-- what is read of a slot -/
theorem SlOk.rep {s : Slot} {v : V} {d : D} (hp : Hps c F H) (h : SlOk T c F H s v) (e : s.data = some d) : Rep T H d v := by
  cases s with
  | emp => cases e
  | val x => cases e; exact Rep.mono hp.sub d v h
  | own x =>
    cases e
    obtain ⟨a, o, rfl, q, _, g, _⟩ := h
    exact g.rep hp.sub q
/-- own slots under a change elsewhere -/
theorem SlOk.keep {F' H' : Hp} {s : Slot} {v : V} (h : SlOk T c F H s v) (sf : Sub F F') (k : ∀ a u, oad (s, v) = some a → H a = some u → F a = none → H' a = some u ∧ F' a = none) : SlOk T c F' H' s v := by
  cases s with
  | emp => trivial
  | val x => exact Rep.mono sf x v h
  | own x =>
    obtain ⟨a, o, rfl, q, f, g, m⟩ := h
    obtain ⟨k1, k2⟩ := k a o rfl q f
    exact ⟨a, o, rfl, k1, k2, g.mono sf, m⟩
/-- a new container is made -/
theorem Rel.made (r : Rel T c ps F H) {d : D} {o : HO} {p : Addr} (hn : H p = none) (h : Ho T F d o) : Rel T c ((.own d, .ref p) :: ps) F (upd H p o) := by
  have fp := r.hp.ffree hn
  have h0 := r.hp.fresh hn
  have hps : Hps c F (upd H p o) := by
    refine ⟨r.hp.sub.grow fp, r.hp.base, r.hp.new, fun a u e m => ?_, fun a e => ?_⟩
    · rw [upd_ne (ne_of_none e h0)]; exact r.hp.prot a u e m
    · by_cases q : a = p
      · subst q; rw [upd_same]; exact fun z => nomatch z
      · rw [upd_ne q]; exact r.hp.dom a e
  have r1 : Rel T c ps F (upd H p o) := ⟨hps, fun x hx => (r.each x hx).keep (Sub.refl F) fun a u _ e f => ⟨by rw [upd_ne (ne_of_none e hn)]; exact e, f⟩, r.nd⟩
  refine r1.cons ⟨p, o, rfl, upd_same, fp, h, .inr h0⟩ fun a e d hd => ?_
  have e' : p = a := Option.some.inj e
  subst e'
  obtain ⟨a, o', e1, q, _⟩ := r.each _ hd
  cases e1
  rw [hn] at q; cases q
/-- a container is frozen -/
theorem Rel.frozen {d : D} {v : V} (r : Rel T c ((.own d, v) :: ps) F H) : ∃ F', Sub F F' ∧ Rel T c ((.val d, v) :: ps) F' H := by
  obtain ⟨a, o, rfl, q, f, g, m⟩ := r.each _ List.mem_cons_self
  have sf : Sub F (upd F a o) := Sub.new f
  have nd := r.nd
  rw [List.filterMap_cons_some oad_own] at nd
  obtain ⟨na, nd⟩ := List.nodup_cons.mp nd
  refine ⟨upd F a o, sf, ?_⟩
  have hps : Hps c (upd F a o) H := by
    refine ⟨r.hp.sub.left q, r.hp.base.trans sf, fun b u e => ?_, r.hp.prot, r.hp.dom⟩
    by_cases h : b = a
    · subst h
      rcases m with m | m
      · exact .inr (.inr m)
      · exact .inr (.inl m)
    · rw [upd_ne h] at e
      exact r.hp.new b u e
  have r1 : Rel T c ps (upd F a o) H := ⟨hps, fun x hx => (r.each x (List.mem_cons_of_mem _ hx)).keep sf fun b u e q' f' => ⟨q', by
    have nb : b ≠ a := by
      rintro rfl
      exact na (List.mem_filterMap.mpr ⟨x, hx, e⟩)
    rw [upd_ne nb]; exact f'⟩, nd⟩
  exact r1.val (g.rep sf upd_same)
/-- .. its content is another -/
theorem Rel.changed {d d' : D} {a : Addr} {o' : HO} (r : Rel T c ((.own d, .ref a) :: ps) F H) (h : Ho T F d' o') : Rel T c ((.own d', .ref a) :: ps) F (upd H a o') := by
  obtain ⟨a', o, e, q, f, g, m⟩ := r.each _ List.mem_cons_self
  cases e
  have nd := r.nd
  rw [List.filterMap_cons_some oad_own] at nd
  obtain ⟨na, nd⟩ := List.nodup_cons.mp nd
  have hps : Hps c F (upd H a o') := by
    refine ⟨r.hp.sub.grow f, r.hp.base, r.hp.new, fun b u e mb => ?_, fun b e => ?_⟩
    · have nb : b ≠ a := by
        rintro rfl
        rcases m with m | m
        · exact mb m
        · rw [m] at e; cases e
      rw [upd_ne nb]; exact r.hp.prot b u e mb
    · by_cases z : b = a
      · subst z; rw [upd_same]; exact fun z => nomatch z
      · rw [upd_ne z]; exact r.hp.dom b e
  refine ⟨hps, fun x hx => ?_, ?_⟩
  · rcases List.mem_cons.mp hx with rfl | hx
    · exact ⟨a, o', rfl, upd_same, f, h, m⟩
    · have hx' := hx
      refine (r.each x (List.mem_cons_of_mem _ hx)).keep (Sub.refl F) fun b u e q' f' => ⟨?_, f'⟩
      have nb : b ≠ a := by
        rintro rfl
        exact na (List.mem_filterMap.mpr ⟨x, hx', e⟩)
      rw [upd_ne nb]; exact q'
  · rw [List.filterMap_cons_some oad_own]
    exact List.nodup_cons.mpr ⟨na, nd⟩
end

/-! ### the names -/
def zp : Env → St → List SV := List.zipWith fun s o => (s, o.getD .non)
structure EnvOk (c : Fr) (env : Env) (σ : St) : Prop where
  len : env.length = σ.length
  has : ∀ (i : Nat) (s : Slot), env[i]? = some s → s ≠ Slot.emp → ∃ v : V, σ[i]? = some (some v)
  pins : ∀ p ∈ c.pin, σ[p.1]? = some (some p.2)
def Stt (T : Wd) (c : Fr) (G : List SV) (env : Env) (σ : St) (H : Hp) : Prop := ∃ F, Rel T c (G ++ zp env σ) F H ∧ EnvOk c env σ
theorem split_at {α : Type} : ∀ {l : List α} {i : Nat} {x : α}, l[i]? = some x → ∃ A B, l = A ++ x :: B ∧ A.length = i ∧ ∀ y, l.set i y = A ++ y :: B
  | [], i, x, h => by simp at h
  | a :: l, 0, x, h => by
    simp at h
    subst h
    exact ⟨[], l, rfl, rfl, fun y => rfl⟩
  | a :: l, i + 1, x, h => by
    obtain ⟨A, B, e, e2, e3⟩ := split_at (i := i) (show l[i]? = some x by simpa using h)
    exact ⟨a :: A, B, by rw [e]; rfl, by rw [List.length_cons, e2], fun y => by rw [List.set_cons_succ, e3]; rfl⟩
theorem zp_get {env : Env} {σ : St} {i : Nat} {s : Slot} {o : Option V} (h1 : env[i]? = some s) (h2 : σ[i]? = some o) : (zp env σ)[i]? = some (s, o.getD .non) := by
  unfold zp
  rw [List.getElem?_zipWith, h1, h2]
theorem zp_set : ∀ {env : Env} {σ : St} (i : Nat) (s : Slot) (o : Option V), zp (env.set i s) (σ.set i o) = (zp env σ).set i (s, o.getD .non)
  | [], σ, i, s, o => by cases σ <;> simp [zp]
  | e :: env, [], i, s, o => by cases i <;> simp [zp]
  | e :: env, x :: σ, 0, s, o => by simp [zp]
  | e :: env, x :: σ, i + 1, s, o => by
    have := zp_set (env := env) (σ := σ) i s o
    simp only [zp] at this
    simp [zp, this]
theorem zp_set1 {env : Env} {σ : St} {i : Nat} {s : Slot} {o : Option V} (h : σ[i]? = some o) : zp (env.set i s) σ = (zp env σ).set i (s, o.getD .non) := by
  have e : σ.set i o = σ := by
    obtain ⟨A, B, e1, _, e3⟩ := split_at h
    rw [e3, ← e1]
  conv => lhs; rw [← e]
  exact zp_set i s o
section
variable {T : Wd} {c : Fr} {G : List SV} {env : Env} {σ : St} {H : Hp}
theorem EnvOk.sig (k : EnvOk c env σ) {i : Nat} {s : Slot} (h : env[i]? = some s) : ∃ o, σ[i]? = some o := by
  have hl : i < env.length := (List.getElem?_eq_some_iff.mp h).1
  rw [k.len] at hl
  exact ⟨σ[i], List.getElem?_eq_getElem hl⟩
/-- a name's slot, read: the pair stands ahead of the rest -/
theorem Rel.atName {F : Hp} (r : Rel T c (G ++ zp env σ) F H) (k : EnvOk c env σ) {i : Nat} {s : Slot} (h : env[i]? = some s) (n : s ≠ Slot.emp) :
    ∃ v A B, σ[i]? = some (some v) ∧ zp env σ = A ++ (s, v) :: B ∧ (∀ s', zp (env.set i s') σ = A ++ (s', v) :: B) ∧ (∀ s' v', zp (env.set i s') (σ.set i (some v')) = A ++ (s', v') :: B) ∧ Rel T c ((s, v) :: (G ++ (A ++ B))) F H := by
  obtain ⟨v, hv⟩ := k.has i s h n
  obtain ⟨A, B, e1, _, e3⟩ := split_at (zp_get h hv)
  refine ⟨v, A, B, hv, e1, fun s' => by rw [zp_set1 hv]; exact e3 _, fun s' v' => by rw [zp_set]; exact e3 _, ?_⟩
  refine r.perm ?_
  rw [e1]
  rw [← List.append_assoc, ← List.append_assoc]
  exact List.perm_middle
theorem Rel.unName {F : Hp} {A B : List SV} {p : SV} (r : Rel T c (p :: (G ++ (A ++ B))) F H) : Rel T c (G ++ (A ++ p :: B)) F H := by
  refine r.perm ?_
  rw [← List.append_assoc, ← List.append_assoc]
  exact List.perm_middle.symm
theorem set_get {α : Type} {l : List α} {i j : Nat} {x : α} : (l.set i x)[j]? = if i = j then (if j < l.length then some x else none) else l[j]? := by
  rw [List.getElem?_set]
  split
  · rename_i h; subst h; rfl
  · rfl
theorem EnvOk.slot (k : EnvOk c env σ) {i : Nat} {s' : Slot} {v : V} (hv : σ[i]? = some (some v)) : EnvOk c (env.set i s') σ := by
  refine ⟨by rw [List.length_set]; exact k.len, fun j s hj hn => ?_, k.pins⟩
  rw [set_get] at hj
  split at hj
  · rename_i e; subst e; exact ⟨v, hv⟩
  · exact k.has j s hj hn
theorem EnvOk.gone (k : EnvOk c env σ) {i : Nat} : EnvOk c (env.set i .emp) σ := by
  refine ⟨by rw [List.length_set]; exact k.len, fun j s hj hn => ?_, k.pins⟩
  rw [set_get] at hj
  split at hj
  · split at hj
    · cases hj; exact absurd rfl hn
    · cases hj
  · exact k.has j s hj hn
theorem EnvOk.put (k : EnvOk c env σ) {i : Nat} {s : Slot} {v : V} (hp : ∀ p ∈ c.pin, p.1 ≠ i) : EnvOk c (env.set i s) (σ.set i (some v)) := by
  refine ⟨by rw [List.length_set, List.length_set]; exact k.len, fun j s' hj hn => ?_, fun p hpp => ?_⟩
  · rw [set_get] at hj ⊢
    split at hj
    · rename_i e; subst e
      split at hj
      · rename_i hl
        rw [if_pos rfl, if_pos (by rw [← k.len]; exact hl)]
        exact ⟨v, rfl⟩
      · cases hj
    · rename_i e
      rw [if_neg e]
      exact k.has j s' hj hn
  · rw [set_get, if_neg (Ne.symm (hp p hpp))]
    exact k.pins p hpp
/-- a name is stored: a pair of the frame goes into it -/
theorem Stt.put {s : Slot} {v : V} {i : Nat} (h : Stt T c ((s, v) :: G) env σ H) (hi : i < env.length) (hp : ∀ p ∈ c.pin, p.1 ≠ i) : Stt T c G (env.set i s) (σ.set i (some v)) H := by
  obtain ⟨F, r, k⟩ := h
  have h1 : env[i]? = some env[i] := List.getElem?_eq_getElem hi
  obtain ⟨o, h2⟩ := k.sig h1
  obtain ⟨A, B, e1, _, e3⟩ := split_at (zp_get h1 h2)
  refine ⟨F, ?_, k.put hp⟩
  rw [zp_set, e3]
  have r1 : Rel T c ((s, v) :: (G ++ (A ++ B))) F H := by
    refine r.less ?_
    rw [e1]
    exact List.Sublist.cons_cons _ (List.Sublist.append_left (List.Sublist.append_left (List.sublist_cons_self _ _) _) _)
  exact r1.unName
theorem Stt.perm {G' : List SV} (h : Stt T c G env σ H) (p : G.Perm G') : Stt T c G' env σ H := by
  obtain ⟨F, r, k⟩ := h
  exact ⟨F, r.perm (p.append_right _), k⟩
theorem Stt.less {G' : List SV} (h : Stt T c G env σ H) (p : G'.Sublist G) : Stt T c G' env σ H := by
  obtain ⟨F, r, k⟩ := h
  exact ⟨F, r.less (p.append_right _), k⟩
theorem Stt.tail {p : SV} (h : Stt T c (p :: G) env σ H) : Stt T c G env σ H := h.less (List.sublist_cons_self _ _)
/-- a frame's pair, read -/
theorem Stt.rep {s : Slot} {v : V} {d : D} (h : Stt T c G env σ H) (m : (s, v) ∈ G) (e : s.data = some d) : Rep T H d v := by
  obtain ⟨F, r, k⟩ := h
  exact (r.each _ (List.mem_append_left _ m)).rep r.hp e
theorem Stt.repN {s : Slot} {v : V} {d : D} {i : Nat} (h : Stt T c G env σ H) (m : env[i]? = some s) (e : s.data = some d) (hv : σ[i]? = some (some v)) : Rep T H d v := by
  obtain ⟨F, r, k⟩ := h
  refine (r.each (s, v) (List.mem_append_right _ ?_)).rep r.hp e
  exact List.mem_of_getElem? (zp_get m hv)
theorem Stt.has {s : Slot} {i : Nat} (h : Stt T c G env σ H) (m : env[i]? = some s) (n : s ≠ Slot.emp) : ∃ v, σ[i]? = some (some v) := by
  obtain ⟨F, r, k⟩ := h
  exact k.has i s m n
end
end Fm
end

section
set_option Elab.async false
set_option linter.all false
set_option maxRecDepth 10000
set_option autoImplicit false
/-! The strongest readings, and what an evaluation's outcome asks. -/
namespace Fm
open PySem L2

/-! ### strongest readings -/
section
variable (X : Cx)
def EW (e : Expr) : TE := fun σ H Q => ∀ (pins : List (Addr × Obj)) (s : Shared), Inv X pins σ H s → wpAny (model X.prog X.w) X.A (eval e X.env) (EP X pins σ Q) X.xe s
def TW (e : Expr) : TT := fun σ H Q => ∀ (pins : List (Addr × Obj)) (s : Shared), Inv X pins σ H s → wpAny (model X.prog X.w) X.A (isTrue e X.env (eval e X.env)) (TP X pins σ Q) X.xe s
def AW (es : List Expr) : TA := fun σ H Q => ∀ (pos : Pos) (pins : List (Addr × Obj)) (s : Shared), Inv X pins σ H s → wpAny (model X.prog X.w) X.A (spliced (backTo pos (starEach es X.env))) (AP X pins σ Q) X.xe s
def SW (st : Stmt) : TS := fun D σ H => ∀ (pins : List (Addr × Obj)) (s : Shared), Inv X pins σ H s → wpAny (model X.prog X.w) X.A (exec st X.env) (SP X pins D) X.xe s
def SsW (st : List Stmt) : TS := fun D σ H => ∀ (pins : List (Addr × Obj)) (s : Shared), Inv X pins σ H s → wpAny (model X.prog X.w) X.A (execs st X.env) (SP X pins D) X.xe s
def IW (tg iter : Expr) : TI := fun σ H R => ∀ (pins : List (Addr × Obj)) (s : Shared), Inv X pins σ H s →
  wpAny (model X.prog X.w) X.A (eval iter X.env) (fun v s1 => wpAny (model X.prog X.w) X.A (pyIter v) (PIE X pins σ tg R) X.xe s1) X.xe s
def OW (f : Value → Value → Sem Value) : R2 := fun x y H Q => ∀ (pins : List (Addr × Obj)) (s : Shared) (σ : St) (v u : Value), Inv X pins σ H s → RelV x v → RelV y u → wpAny (model X.prog X.w) X.A (f v u) (EP X pins σ Q) X.xe s
def CW (f : Value) : List V → Hp → VK → Prop := fun xs H Q => ∀ (pins : List (Addr × Obj)) (s : Shared) (σ : St) (us : List Value), Inv X pins σ H s → Vals xs us → wpAny (model X.prog X.w) X.A (call f us) (EP X pins σ Q) X.xe s
end
section
variable {X : Cx} {e : Expr} {σ : St} {H : Hp}
theorem pe_W : PE X e (EW X e) := ⟨fun pins s σ H Q I h => h pins s I⟩
theorem pt_W : PT X e (TW X e) := ⟨fun pins s σ H Q I h => h pins s I⟩
theorem pa_W {es : List Expr} : PA X es (AW X es) := ⟨fun pos pins s σ H Q I h => h pos pins s I⟩
theorem ps_W {st : Stmt} : PS X st (SW X st) := ⟨fun pins s σ H D I h => h pins s I⟩
theorem pss_W {st : List Stmt} : PSs X st (SsW X st) := ⟨fun pins s σ H D I h => h pins s I⟩
theorem pi_W {tg iter : Expr} : PI X tg iter (IW X tg iter) := ⟨fun pins s σ H R I h => h pins s I⟩
theorem op_W {f : Value → Value → Sem Value} : OpR X f (OW X f) := fun pins s σ H x y v u Q I rx ry h => h pins s σ v u I rx ry
theorem call_W {f : Value} : CallR X f (CW X f) := fun pins s σ H xs us Q I r h => h pins s σ us I r
theorem EW.of {t : TE} {Q : VK} (p : PE X e t) (h : t σ H Q) : EW X e σ H Q := fun pins s I => p.run pins s σ H Q I h
theorem TW.of {t : TT} {Q : Bool → Hp → Prop} (p : PT X e t) (h : t σ H Q) : TW X e σ H Q := fun pins s I => p.run pins s σ H Q I h
theorem AW.of {es : List Expr} {t : TA} {Q : List V → Hp → Prop} (p : PA X es t) (h : t σ H Q) : AW X es σ H Q := fun pos pins s I => p.run pos pins s σ H Q I h
theorem SW.of {st : Stmt} {t : TS} {D : Ends} (p : PS X st t) (h : t D σ H) : SW X st D σ H := fun pins s I => p.run pins s σ H D I h
theorem SsW.of {st : List Stmt} {t : TS} {D : Ends} (p : PSs X st t) (h : t D σ H) : SsW X st D σ H := fun pins s I => p.run pins s σ H D I h
theorem IW.of {tg iter : Expr} {t : TI} {R : L2.It → Hp → Prop} (p : PI X tg iter t) (h : t σ H R) : IW X tg iter σ H R := fun pins s I => p.run pins s σ H R I h
theorem OW.of {f : Value → Value → Sem Value} {r : R2} {x y : V} {Q : VK} (p : OpR X f r) (h : r x y H Q) : OW X f x y H Q := fun pins s σ v u I rx ry => p pins s σ H x y v u Q I rx ry h
theorem CW.of {f : Value} {r : List V → Hp → VK → Prop} {xs : List V} {Q : VK} (p : CallR X f r) (h : r xs H Q) : CW X f xs H Q := fun pins s σ us I rx => p pins s σ H xs us Q I rx h
theorem EW.mono {Q Q' : VK} (h : EW X e σ H Q) (k : ∀ v H', Q v H' → Q' v H') : EW X e σ H Q' := fun pins s I => thn (h pins s I) fun u s' ⟨v, H', I', r, q⟩ => ⟨v, H', I', r, k v H' q⟩
end

/-! ### outcomes -/
def XArgs (T : Wd) (ci : Nat) (x : List D) (d : Option Addr) (H : Hp) (ps : List SV) : Prop :=
  (x = [] ∧ d = none ∧ ps = []) ∨ ∃ y dd v, x = [y] ∧ d = some dd ∧ H dd = some (.xd [(T.xf ci, v)]) ∧ ps = [(.val y, v)]
/-- what an outcome asks: of a value K, of an exception the wish W at the slots that S allows -/
def PX (T : Wd) (c : Fr) (G : List SV) (S : St → Prop) (W : WX) {α : Type} (r : R α) (K : α → Prop) : Prop := match r with
  | .ok a => K a
  | .exc ci x env => ∀ (σ : St) (d : Option Addr) (H : Hp) (ps : List SV), S σ → XArgs T ci x d H ps → Stt T c (ps ++ G) env σ H → W (.ref (T.cls ci)) d σ H
  | .stuck => False
section
variable {T : Wd} {c : Fr} {G : List SV} {S : St → Prop} {W : WX} {α β : Type}
theorem PX.mono {r : R α} {K K' : α → Prop} (h : PX T c G S W r K) (k : ∀ a, r = .ok a → K a → K' a) : PX T c G S W r K' := by
  cases r with
  | ok a => exact k a rfl h
  | exc ci x env => exact h
  | stuck => exact h
theorem PX.bind {r : R α} {f : α → R β} {K : β → Prop} (h : PX T c G S W (r.bind f) K) : PX T c G S W r fun a => PX T c G S W (f a) K := by
  cases r <;> exact h
theorem PX.thn {γ : Type} {r : R (α × β)} {f : α → β → R γ} {K : γ → Prop} (h : PX T c G S W (r.thn f) K) : PX T c G S W r fun p => PX T c G S W (f p.1 p.2) K := by
  cases r <;> exact h
theorem PX.frame {r : R α} {K : α → Prop} (A : List SV) (h : PX T c G S W r K) : PX T c (A ++ G) S W r K := by
  cases r with
  | ok a => exact h
  | exc ci x env =>
    intro σ d H ps hs hx hst
    exact h σ d H ps hs hx (hst.less (List.Sublist.append_left (List.sublist_append_right A G) ps))
  | stuck => exact h
theorem PX.of {o : Option α} {K : α → Prop} (h : PX T c G S W (R.of o) K) : ∃ a, o = some a ∧ K a := by
  cases o with
  | none => exact h.elim
  | some a => exact ⟨a, rfl, h⟩
end
/-- an operand's own pair in the frame -/
def Opd.tm : Opd → V → List SV
  | .tmp s, v => [(s, v)]
  | .pk _, _ => []
def Opd.at (o : Opd) (σ : St) (v : V) : Prop := match o with
  | .tmp _ => True
  | .pk i => σ[i]? = some (some v)
/-- what is wanted of an expression's end -/
def KE (T : Wd) (c : Fr) (G : List SV) (σ : St) (Q : VK) (r : Opd × Env) : Prop := ∀ v H, Stt T c (r.1.tm v ++ G) r.2 σ H → r.1.at σ v → Q v H
def Snd (T : Wd) (P : Pg) (cl : Cl) (X : Cx) (W : WX) (e : IE) (ax : Expr) : Prop := ∀ (c : Fr) (G : List SV) (env : Env) (σ : St) (H : Hp) (Q : VK),
  Stt T c G env σ H → PX T c G (· = σ) W (ev P cl e env) (KE T c G σ Q) → EW X ax σ H Q
/-- as a test -/
def KB (T : Wd) (c : Fr) (G : List SV) (σ : St) (Q : Bool → Hp → Prop) (r : Bool × Env) : Prop := ∀ H, Stt T c G r.2 σ H → Q r.1 H
def SndT (T : Wd) (P : Pg) (cl : Cl) (X : Cx) (W : WX) (e : IE) (ax : Expr) : Prop := ∀ (c : Fr) (G : List SV) (env : Env) (σ : St) (H : Hp) (Q : Bool → Hp → Prop),
  Stt T c G env σ H → PX T c G (· = σ) W (evB P cl e env) (KB T c G σ Q) → TW X ax σ H Q
/-- several, from the left -/
def tms : List Opd → List V → List SV
  | o :: os, v :: vs => o.tm v ++ tms os vs
  | _, _ => []
def ats (σ : St) : List Opd → List V → Prop
  | [], vs => vs = []
  | o :: os, vs => ∃ v r, vs = v :: r ∧ o.at σ v ∧ ats σ os r
def KA (T : Wd) (c : Fr) (G : List SV) (σ : St) (Q : List V → Hp → Prop) (r : List Opd × Env) : Prop := ∀ vs H, Stt T c (tms r.1 vs ++ G) r.2 σ H → ats σ r.1 vs → Q vs H
def SndA (T : Wd) (P : Pg) (cl : Cl) (X : Cx) (W : WX) (es : List IE) (axs : List Expr) : Prop := ∀ (c : Fr) (G : List SV) (env : Env) (σ : St) (H : Hp) (Q : List V → Hp → Prop),
  Stt T c G env σ H → PX T c G (· = σ) W (evs P cl es env) (KA T c G σ Q) → AW X axs σ H Q

/-! ### reading operands -/
section
variable {T : Wd} {c : Fr} {G : List SV} {env : Env} {σ : St} {F H : Hp} {o : Opd} {v : V} {d : D}
theorem Opd.mem (k : EnvOk c env σ) (ha : o.at σ v) (hd : o.data env = some d) {B : List SV} (hB : ∀ p ∈ o.tm v, p ∈ B) : (o.slot env, v) ∈ B ++ zp env σ := by
  cases o with
  | tmp s => exact List.mem_append_left _ (hB _ List.mem_cons_self)
  | pk i =>
    refine List.mem_append_right _ ?_
    have h1 : env[i]? = some (env.getD i .emp) := by
      cases q : env[i]? with
      | none =>
        have e : (env.getD i .emp) = .emp := by rw [List.getD_eq_getElem?_getD, q]; rfl
        have z : (env.getD i .emp).data = some d := hd
        rw [e] at z; cases z
      | some s => rw [List.getD_eq_getElem?_getD, q]; rfl
    exact List.mem_of_getElem? (zp_get h1 ha)
theorem Opd.sl (r : Rel T c (G ++ zp env σ) F H) (k : EnvOk c env σ) (ha : o.at σ v) (hd : o.data env = some d) (hB : ∀ p ∈ o.tm v, p ∈ G) : SlOk T c F H (o.slot env) v := r.each _ (Opd.mem k ha hd hB)
theorem Opd.rep (h : Stt T c G env σ H) (ha : o.at σ v) (hd : o.data env = some d) (hB : ∀ p ∈ o.tm v, p ∈ G) : Rep T H d v := by
  obtain ⟨F, r, k⟩ := h
  exact (Opd.sl r k ha hd hB).rep r.hp hd
theorem tm_here {A : List SV} : ∀ p ∈ o.tm v, p ∈ o.tm v ++ A := fun p h => List.mem_append_left _ h
theorem tm_there {A B : List SV} (h : ∀ p ∈ o.tm v, p ∈ B) : ∀ p ∈ o.tm v, p ∈ A ++ B := fun p q => List.mem_append_right _ (h p q)
/-! a value that no container holds -/
theorem Stt.scal (h : Stt T c G env σ H) {d : D} {v : V} (r : ∀ F, Rep T F d v) : Stt T c ((.val d, v) :: G) env σ H := by
  obtain ⟨F, q, k⟩ := h
  exact ⟨F, q.val (r F), k⟩
theorem Stt.int (h : Stt T c G env σ H) {i : Int} : Stt T c ((.val (.int i), .int i) :: G) env σ H := h.scal fun _ => rfl
theorem Stt.bl (h : Stt T c G env σ H) {i : Bool} : Stt T c ((.val (.bl i), .bl i) :: G) env σ H := h.scal fun _ => rfl
theorem Stt.str (h : Stt T c G env σ H) {i : Str} : Stt T c ((.val (.str i), .str i) :: G) env σ H := h.scal fun _ => rfl
theorem Stt.non (h : Stt T c G env σ H) : Stt T c ((.val .non, .non) :: G) env σ H := h.scal fun _ => rfl
theorem Stt.right {A B : List SV} (h : Stt T c (A ++ B) env σ H) : Stt T c B env σ H := h.less (List.sublist_append_right _ _)
theorem Rep.int {i : Int} (h : Rep T H (.int i) v) : v = .int i := h
theorem Rep.str {i : Str} (h : Rep T H (.str i) v) : v = .str i := h
theorem Rep.bl {i : Bool} (h : Rep T H (.bl i) v) : v = .bl i := h
theorem Rep.non (h : Rep T H .non v) : v = .non := h
end
end Fm
end

section
set_option Elab.async false
set_option linter.all false
set_option maxRecDepth 10000
set_option autoImplicit false
set_option maxHeartbeats 1000000
/-! The expressions' nodes: operators, comparisons, subscripts, fields. -/
namespace Fm
open PySem L2

/-- what a context must have -/
structure Gd (T : Wd) (X : Cx) (W : WX) (k : Nat) : Prop where
  K : X.K = T.K
  calm : X.calm = true
  room : Room k X.A
  nd : X.N.Nodup
  takes : Takes X W
  pass : PassesOwn (model X.prog X.w) X.A X.env X.xe

/-! ### containers behind slots -/
section
variable {T : Wd} {c : Fr} {F H : Hp} {s : Slot} {v : V}
theorem SlOk.lst {ds : List D} (hp : Hps c F H) (h : SlOk T c F H s v) (e : s.data = some (.lst ds)) : ∃ a vs, v = .ref a ∧ Rd H a (.lst vs) ∧ Reps T F ds vs := by
  cases s with
  | emp => cases e
  | val d =>
    cases e
    obtain ⟨a, vs, e1, q, r⟩ := h
    exact ⟨a, vs, e1, hp.sub.rd q, r⟩
  | own d =>
    cases e
    obtain ⟨a, o, e1, q, _, ⟨vs, rfl, r⟩, _⟩ := h
    exact ⟨a, vs, e1, .inl q, r⟩
theorem SlOk.tup {ds : List D} (hp : Hps c F H) (h : SlOk T c F H s v) (e : s.data = some (.tup ds)) : ∃ a vs, v = .ref a ∧ SqT T.K H a vs ∧ Reps T F ds vs := by
  cases s with
  | emp => cases e
  | val d =>
    cases e
    obtain ⟨a, vs, e1, q, r⟩ := h
    exact ⟨a, vs, e1, hp.sub.st q, r⟩
  | own d =>
    cases e
    obtain ⟨a, o, e1, q, _, ⟨vs, rfl, r⟩, _⟩ := h
    exact ⟨a, vs, e1, .inl (.inl q), r⟩
theorem SlOk.dk {ks : List Key} {ds : List D} (hp : Hps c F H) (h : SlOk T c F H s v) (e : s.data = some (.dk ks ds)) : ∃ a vs, v = .ref a ∧ Rd H a (.dK (ks.zip vs)) ∧ (ks.length = vs.length ∧ ks.Nodup) ∧ Reps T F ds vs := by
  cases s with
  | emp => cases e
  | val d =>
    cases e
    obtain ⟨a, vs, e1, q, l, r⟩ := h
    exact ⟨a, vs, e1, hp.sub.rd q, l, r⟩
  | own d =>
    cases e
    obtain ⟨a, o, e1, q, _, ⟨vs, rfl, l, r⟩, _⟩ := h
    exact ⟨a, vs, e1, .inl q, l, r⟩
theorem SlOk.dt {ks : List (List Key)} {ds : List D} (hp : Hps c F H) (h : SlOk T c F H s v) (e : s.data = some (.dt ks ds)) : ∃ a vs, v = .ref a ∧ Rd H a (.dT (ks.zip vs)) ∧ (ks.length = vs.length ∧ ks.Nodup) ∧ Reps T F ds vs := by
  cases s with
  | emp => cases e
  | val d =>
    cases e
    obtain ⟨a, vs, e1, q, l, r⟩ := h
    exact ⟨a, vs, e1, hp.sub.rd q, l, r⟩
  | own d =>
    cases e
    obtain ⟨a, o, e1, q, _, ⟨vs, rfl, l, r⟩, _⟩ := h
    exact ⟨a, vs, e1, .inl q, l, r⟩
theorem SlOk.ins {k : Nat} {fs : List Nat} {ds : List D} (hp : Hps c F H) (h : SlOk T c F H s v) (e : s.data = some (.ins k fs ds)) :
    ∃ a dx vs, v = .ref a ∧ H a = some (.ins (T.cls k) dx ((fs.map T.fld).zip vs)) ∧ fs.length = vs.length ∧ Reps T F ds vs := by
  cases s with
  | emp => cases e
  | val d =>
    cases e
    obtain ⟨a, dx, vs, e1, q, l, r⟩ := h
    exact ⟨a, dx, vs, e1, hp.sub.ins q, l, r⟩
  | own d =>
    cases e
    obtain ⟨a, o, e1, q, _, ⟨dx, vs, rfl, l, r⟩, _⟩ := h
    exact ⟨a, dx, vs, e1, q, l, r⟩
end
/-! ### ends -/
section
variable {T : Wd} {c : Fr} {G A : List SV} {env : Env} {σ : St} {F H : Hp} {Q : VK} {d : D} {v : V}
theorem fin_rep (po : KE T c G σ Q (.tmp (.val d), env)) (r : Rel T c ((A ++ G) ++ zp env σ) F H) (k : EnvOk c env σ) (h : Rep T F d v) : Q v H := by
  refine po v H ⟨F, ?_, k⟩ trivial
  refine (r.val h).less ?_
  exact List.Sublist.cons_cons _ (List.Sublist.append_right (List.sublist_append_right _ _) _)
theorem fin_new {p : Addr} {o : HO} (po : KE T c G σ Q (.tmp (.own d), env)) (r : Rel T c ((A ++ G) ++ zp env σ) F H) (k : EnvOk c env σ) (hn : H p = none) (h : Ho T F d o) : Q (.ref p) (upd H p o) := by
  refine po _ _ ⟨F, ?_, k⟩ trivial
  refine (r.made hn h).less ?_
  exact List.Sublist.cons_cons _ (List.Sublist.append_right (List.sublist_append_right _ _) _)
theorem fin_sc (po : KE T c G σ Q (.tmp (.val d), env)) (st : Stt T c (A ++ G) env σ H) (h : ∀ F, Rep T F d v) : Q v H := by
  obtain ⟨F, r, k⟩ := st
  exact fin_rep po r k (h F)
theorem fin_int {i : Int} (po : KE T c G σ Q (.tmp (.val (.int i)), env)) (st : Stt T c (A ++ G) env σ H) : Q (.int i) H := fin_sc po st fun _ => rfl
theorem fin_bl {i : Bool} (po : KE T c G σ Q (.tmp (.val (.bl i)), env)) (st : Stt T c (A ++ G) env σ H) : Q (.bl i) H := fin_sc po st fun _ => rfl
theorem fin_str {i : Str} (po : KE T c G σ Q (.tmp (.val (.str i)), env)) (st : Stt T c (A ++ G) env σ H) : Q (.str i) H := fin_sc po st fun _ => rfl
theorem big_le {n : Nat} (h : n ≤ big) : n ≤ sizeLine := Nat.le_trans h (by decide)
theorem big_lt {n : Nat} (h : n < big) : n < sizeLine := Nat.lt_of_lt_of_le h (by decide)
end

/-! ### names, constants -/
section
variable {T : Wd} {P : Pg} {cl : Cl} {X : Cx} {W : WX}
theorem snd_nm {i : Nat} {x : Str} {pos : Pos} (hN : X.N[i]? = some x) (hv : Vis X.env.scope x) (hd : (x == ("__debug__" : Str)) = false) (hcd : (x == ("__classdict__" : Str)) = false) : Snd T P cl X W (.nm i) (.Name x pos) := by
  intro c G env σ H Q st po
  unfold ev at po
  split at po
  · exact po.elim
  · rename_i hn
    have h1 : env[i]? = some (env.getD i .emp) := by
      cases q : env[i]? with
      | none =>
        have e : (env.getD i .emp) = .emp := by rw [List.getD_eq_getElem?_getD, q]; rfl
        exact absurd e hn
      | some s => rw [List.getD_eq_getElem?_getD, q]; rfl
    obtain ⟨v, e⟩ := st.has h1 hn
    exact EW.of (pe_var hN hv hd hcd) ⟨v, e, po v H st e⟩
theorem snd_cn {k : Cn} {j : Nat} {pos : Pos} {a : Const} (h : match k, a with | .non, .none => True | .bl b, .bool d => b = d | .int i, .int l => i = l | .str x, .str y => x = y | _, _ => False) : Snd T P cl X W (.cn k) (.Constant a j pos) := by
  intro c G env σ H Q st po
  have po' : KE T c G σ Q (.tmp (.val k.d), env) := by unfold ev at po; exact po
  cases k with
  | non =>
    cases a with
    | none => exact EW.of pe_non (po' _ _ st.non trivial)
    | _ => exact h.elim
  | bl b =>
    cases a with
    | bool d =>
      have h' : b = d := h
      subst h'
      exact EW.of pe_bl (po' _ _ st.bl trivial)
    | _ => exact h.elim
  | int b =>
    cases a with
    | int d =>
      have h' : b = d := h
      subst h'
      exact EW.of pe_int (po' _ _ st.int trivial)
    | _ => exact h.elim
  | str b =>
    cases a with
    | str d =>
      have h' : b = d := h
      subst h'
      exact EW.of pe_str (po' _ _ st.str trivial)
    | _ => exact h.elim
theorem snd_neg {i l : Int} {j : Nat} {pos p2 : Pos} (h : i = -l) : Snd T P cl X W (.cn (.int i)) (.UnaryOp .USub (.Constant (.int l) j p2) pos) := by
  intro c G env σ H Q st po
  have po' : KE T c G σ Q (.tmp (.val (.int i)), env) := by unfold ev at po; exact po
  subst h
  exact EW.of (pe_un un_neg pe_int) ⟨l, rfl, po' _ _ st.int trivial⟩
theorem snd_gl {k : Nat} {x : Str} {pos : Pos} {d : D} {v : V} {u : Value} (hk : P.glob[k]? = some d) (hg : Gl X x) (hm : X.mg x = some u) (r : RelV v u) (hr : ∀ F, Rep T F d v) (hd : (x == ("__debug__" : Str)) = false) : Snd T P cl X W (.gl k) (.Name x pos) := by
  intro c G env σ H Q st po
  unfold ev at po
  rw [hk] at po
  have po' : KE T c G σ Q (.tmp (.val d), env) := po
  exact EW.of (pe_glob hg hm r hd) (po' _ _ (st.scal hr) trivial)
end

/-! ### two operands -/
section
variable {T : Wd} {P : Pg} {cl : Cl} {X : Cx} {W : WX} {a b : IE} {ax bx : Expr}
/-- both evaluated, then K -/
theorem two (ha : Snd T P cl X W a ax) (hb : Snd T P cl X W b bx) {c : Fr} {G : List SV} {env : Env} {σ : St} {H : Hp} {α : Type} {K : α → Prop} {f : Opd → Opd → Env → R α} {R : V → V → Hp → Prop}
    (st : Stt T c G env σ H) (po : PX T c G (· = σ) W ((ev P cl a env).thn fun x env1 => (ev P cl b env1).thn fun y env2 => f x y env2) K)
    (k : ∀ x y env2 v1 v2 H2, Stt T c ((y.tm v2 ++ x.tm v1) ++ G) env2 σ H2 → x.at σ v1 → y.at σ v2 → PX T c G (· = σ) W (f x y env2) K → R v1 v2 H2) :
    EW X ax σ H fun v1 H1 => EW X bx σ H1 fun v2 H2 => R v1 v2 H2 := by
  refine ha c G env σ H _ st (po.thn.mono ?_)
  rintro ⟨x, env1⟩ _ po1 v1 H1 st1 at1
  refine hb c (x.tm v1 ++ G) env1 σ H1 _ st1 ((PX.thn po1).mono ?_ |>.frame _)
  rintro ⟨y, env2⟩ _ po2 v2 H2 st2 at2
  refine k x y env2 v1 v2 H2 ?_ at1 at2 po2
  rw [List.append_assoc]
  exact st2
end
end Fm
end

section
set_option Elab.async false
set_option linter.all false
set_option maxRecDepth 10000
set_option autoImplicit false
set_option maxHeartbeats 1000000
namespace Fm
open PySem L2

def BOp.op : BOp → Operator
  | .add => .Add
  | .sub => .Sub
  | .mul => .Mult
  | .mod => .Mod
  | .fdiv => .FloorDiv
  | .pow => .Pow
def COp.op : COp → CmpOp
  | .eq => .Eq
  | .ne => .NotEq
  | .lt => .Lt
  | .le => .LtE
  | .gt => .Gt
  | .ge => .GtE
  | .inn => .In
  | .nin => .NotIn
section
variable {X : Cx}
/-- two lists in a row make a new one; both may be locked -/
def rCatR : R2 := fun x y H Q => ∃ l b xs zs, x = .ref l ∧ y = .ref b ∧ Rd H l (.lst xs) ∧ Rd H b (.lst zs) ∧ xs.length + zs.length ≤ sizeLine ∧ ∀ p, H p = none → Q (.ref p) (upd H p (.lst (xs ++ zs)))
theorem op_catR : OpR X (binaryOp .Add) rCatR := by
  intro pins s σ H x y v u Q I rx ry h
  obtain ⟨l, b, xs, zs, rfl, rfl, hH, hB, hz, q⟩ := h
  obtain rfl : v = Value.ref l := rx
  obtain rfl : u = Value.ref b := ry
  obtain ⟨z1, i1, n1, r1, e1⟩ := hH.ok I.hok
  obtain ⟨z2, i2, n2, r2, e2⟩ := hB.ok I.hok
  have g1 := r1.length
  have g2 := r2.length
  refine PySem.P.add_list e1 e2 ?_ (by rw [List.size_toArray, List.size_toArray, ← g1, ← g2]; exact hz)
  rw [show i1.toArray ++ i2.toArray = (i1 ++ i2).toArray by simp]
  exact ⟨.ref _, _, I.lnew (t' := s.toks) (r1.append r2) (by rw [List.length_append]; exact hz), rfl, q _ I.fresh⟩
theorem op_powW : OpR X (binaryOp .Pow) (rI (fun i j => 0 ≤ j ∧ (Builtin.Int.intBits i : Int) * j ≤ 134217728) fun i j => .int (i ^ j.toNat)) := by
  refine opI fun i j t u s Q E hc q => ?_
  exact PyProof.Rows.pow_int hc.1 (by have e : (2 : Int) ^ 27 = 134217728 := by decide
                                      rw [e]; exact hc.2) q
end
section
variable {T : Wd} {P : Pg} {cl : Cl} {X : Cx} {W : WX} {k : Nat} {a b d : IE} {ax bx dx : Expr} {pos : Pos}
theorem PX.of2 {c : Fr} {G : List SV} {S : St → Prop} {α β : Type} {o : Option α} {f : α → R β} {K : β → Prop} (h : PX T c G S W ((R.of o).bind f) K) : ∃ a, o = some a ∧ PX T c G S W (f a) K := by
  cases o with
  | none => exact h.elim
  | some a => exact ⟨a, rfl, h⟩
theorem snd_bin {o : BOp} (g : Gd T X W k) (ha : Snd T P cl X W a ax) (hb : Snd T P cl X W b bx) : Snd T P cl X W (.bin o a b) (.BinOp ax o.op bx pos) := by
  intro c G env σ H Q st po
  unfold ev at po
  refine EW.of (pe_op op_W pe_W pe_W) (two ha hb (R := fun v1 v2 H2 => OW X (binaryOp o.op) v1 v2 H2 Q) st po fun x y env2 v1 v2 H2 st2 a1 a2 po2 => ?_)
  cases hx : x.data env2 with
  | none => rw [hx] at po2; exact po2.elim
  | some dx =>
  cases hy : y.data env2 with
  | none => rw [hx, hy] at po2; exact po2.elim
  | some dy =>
  rw [hx, hy] at po2
  obtain ⟨r, e, po3⟩ := PX.of2 po2
  have po4 : KE T c G σ Q (r, env2) := po3
  have m1 : ∀ p ∈ x.tm v1, p ∈ (y.tm v2 ++ x.tm v1) ++ G := fun p h => List.mem_append_left _ (List.mem_append_right _ h)
  have m2 : ∀ p ∈ y.tm v2, p ∈ (y.tm v2 ++ x.tm v1) ++ G := fun p h => List.mem_append_left _ (List.mem_append_left _ h)
  obtain ⟨F, rl, ko⟩ := id st2
  have s1 := Opd.sl rl ko a1 hx m1
  have s2 := Opd.sl rl ko a2 hy m2
  have r1 := s1.rep rl.hp hx
  have r2 := s2.rep rl.hp hy
  unfold binD at e
  split at e
  · obtain rfl := Rep.int r1; obtain rfl := Rep.int r2; cases e
    exact OW.of op_add ⟨_, _, rfl, rfl, fin_int po4 st2⟩
  · obtain rfl := Rep.int r1; obtain rfl := Rep.int r2; cases e
    exact OW.of op_sub ⟨_, _, rfl, rfl, fin_int po4 st2⟩
  · obtain rfl := Rep.int r1; obtain rfl := Rep.int r2
    split at e
    · rename_i hc
      cases e
      refine OW.of op_mul ⟨_, _, rfl, rfl, ?_, fin_int po4 st2⟩
      rw [Bool.or_eq_true, decide_eq_true_iff, decide_eq_true_iff] at hc
      rcases hc with hc | hc
      · exact .inl ⟨by omega, by omega⟩
      · exact .inr ⟨by omega, by omega⟩
    · cases e
  · obtain rfl := Rep.int r1; obtain rfl := Rep.int r2
    split at e
    · rename_i hc
      cases e
      exact OW.of op_mod ⟨_, _, rfl, rfl, hc, fin_int po4 st2⟩
    · cases e
  · obtain rfl := Rep.int r1; obtain rfl := Rep.int r2
    split at e
    · rename_i hc
      cases e
      rw [Bool.and_eq_true, decide_eq_true_iff, decide_eq_true_iff] at hc
      exact OW.of op_fdiv ⟨_, _, rfl, rfl, hc, fin_int po4 st2⟩
    · cases e
  · obtain rfl := Rep.int r1; obtain rfl := Rep.int r2
    split at e
    · rename_i hc
      cases e
      rw [Bool.and_eq_true, decide_eq_true_iff, decide_eq_true_iff] at hc
      exact OW.of op_powW ⟨_, _, rfl, rfl, hc, fin_int po4 st2⟩
    · cases e
  · obtain rfl := Rep.str r1; obtain rfl := Rep.str r2
    split at e
    · rename_i hc
      cases e
      exact OW.of op_add_str ⟨_, _, rfl, rfl, big_le hc, fin_str po4 st2⟩
    · cases e
  · obtain ⟨p1, vs1, rfl, q1, k1⟩ := s1.lst rl.hp hx
    obtain ⟨p2, vs2, rfl, q2, k2⟩ := s2.lst rl.hp hy
    split at e
    · rename_i hc
      cases e
      refine OW.of op_catR ⟨_, _, _, _, rfl, rfl, q1, q2, by rw [← k1.len, ← k2.len]; exact big_le hc, fun p hp => ?_⟩
      exact fin_new po4 rl ko hp ⟨_, rfl, k1.app k2⟩
    · cases e
  · obtain ⟨p1, vs1, rfl, q1, k1⟩ := s1.tup rl.hp hx
    obtain ⟨p2, vs2, rfl, q2, k2⟩ := s2.tup rl.hp hy
    have l1 := k1.len
    have l2 := k2.len
    rename_i xs ys
    split at e
    · rename_i hc
      have e' := Option.some.inj e
      subst e'
      rw [← g.K] at q1 q2
      refine OW.of op_catA ⟨_, _, _, _, rfl, rfl, q1, q2, by rw [← l1, ← l2]; exact big_le hc, fun h1 => ?_, fun h1 h2 => ?_, fun h1 h2 p hp => ?_⟩
      · have z : xs.isEmpty = true := by
          cases xs with
          | nil => rfl
          | cons _ _ => rw [h1] at l1; cases l1
        rw [z] at po4
        refine po4 _ _ ?_ a2
        exact st2.less (List.Sublist.append_right (List.sublist_append_left _ _) _)
      · have z : xs.isEmpty = false := by
          cases xs with
          | nil =>
            cases vs1 with
            | nil => exact absurd rfl h1
            | cons _ _ => cases l1
          | cons _ _ => rfl
        have z2 : ys.isEmpty = true := by
          cases ys with
          | nil => rfl
          | cons _ _ => rw [h2] at l2; cases l2
        rw [z, z2] at po4
        refine po4 _ _ ?_ a1
        exact st2.less (List.Sublist.append_right (List.sublist_append_right _ _) _)
      · have z : xs.isEmpty = false := by
          cases xs with
          | nil =>
            cases vs1 with
            | nil => exact absurd rfl h1
            | cons _ _ => cases l1
          | cons _ _ => rfl
        have z2 : ys.isEmpty = false := by
          cases ys with
          | nil =>
            cases vs2 with
            | nil => exact absurd rfl h2
            | cons _ _ => cases l2
          | cons _ _ => rfl
        rw [z, z2] at po4
        exact fin_new po4 rl ko hp ⟨_, rfl, k1.app k2⟩
    · cases e
  · cases e
end
end Fm
end

section
set_option Elab.async false
set_option linter.all false
set_option maxRecDepth 10000
set_option autoImplicit false
set_option maxHeartbeats 1000000
namespace Fm
open PySem L2

/-! ### data as the library's -/
section
variable {T : Wd} {H : Hp}
mutual
theorem Rep.dp : ∀ (d : D) (v : V) (p : PyData), Rep T H d v → d.py = some p → Dp T.K H v p
  | .non, v, p, h, e => by
    obtain rfl : v = .non := h
    unfold D.py at e; cases e
    exact .non
  | .bl b, v, p, h, e => by
    obtain rfl : v = .bl b := h
    unfold D.py at e; cases e
    exact .bl b
  | .int i, v, p, h, e => by
    obtain rfl : v = .int i := h
    unfold D.py at e; cases e
    exact .int i
  | .str x, v, p, h, e => by
    obtain rfl : v = .str x := h
    unfold D.py at e; cases e
    exact .str x
  | .lst ds, v, p, h, e => by
    obtain ⟨a, vs, rfl, q, r⟩ := h
    unfold D.py at e
    obtain ⟨ps, e1, rfl⟩ := Option.map_eq_some_iff.mp e
    exact .lst (.inl q) (Reps.dp ds vs ps r e1)
  | .tup ds, v, p, h, e => by
    obtain ⟨a, vs, rfl, q, r⟩ := h
    unfold D.py at e
    obtain ⟨ps, e1, rfl⟩ := Option.map_eq_some_iff.mp e
    exact .tup q (Reps.dp ds vs ps r e1)
  | .dk _ _, v, p, h, e => by unfold D.py at e; cases e
  | .dt _ _, v, p, h, e => by unfold D.py at e; cases e
  | .ins _ _ _, v, p, h, e => by unfold D.py at e; cases e
  | .scr _, v, p, h, e => by unfold D.py at e; cases e
  | .lk _ _, v, p, h, e => by unfold D.py at e; cases e
theorem Reps.dp : ∀ (ds : List D) (vs : List V) (ps : List PyData), Reps T H ds vs → D.pys ds = some ps → DpAll T.K H vs ps
  | [], vs, ps, h, e => by
    obtain rfl : vs = [] := h
    unfold D.pys at e; cases e
    exact .nil
  | d :: ds, vs, ps, h, e => by
    obtain ⟨v, r, rfl, q, qs⟩ := h
    unfold D.pys at e
    split at e
    · rename_i p ps' e1 e2
      cases e
      exact .cons (Rep.dp d v p q e1) (Reps.dp ds r ps' qs e2)
    · cases e
end
theorem Rep.flat {d : D} {v w : V} (h : Rep T H d v) (e : d.flat = some w) : v = w ∧ flatV w = true := by
  cases d with
  | non => cases e; exact ⟨h, rfl⟩
  | bl b => cases e; exact ⟨h, rfl⟩
  | int i => cases e; exact ⟨h, rfl⟩
  | str x => cases e; exact ⟨h, rfl⟩
  | _ => cases e
theorem Reps.flat : ∀ {ds : List D} {vs ws : List V}, Reps T H ds vs → D.flats ds = some ws → vs = ws ∧ ws.all flatV = true
  | [], vs, ws, h, e => by
    obtain rfl : vs = [] := h
    unfold D.flats at e; cases e
    exact ⟨rfl, rfl⟩
  | d :: ds, vs, ws, h, e => by
    obtain ⟨v, r, rfl, q, qs⟩ := h
    unfold D.flats at e
    split at e
    · rename_i w ws' e1 e2
      cases e
      obtain ⟨rfl, f1⟩ := q.flat e1
      obtain ⟨rfl, f2⟩ := Reps.flat qs e2
      exact ⟨rfl, by rw [List.all_cons, f1, f2]; rfl⟩
    · cases e
theorem Rep.key {d : D} {v : V} {k : Key} (h : Rep T H d v) (e : d.key = some k) : v = kV k := by
  cases d with
  | int i => cases e; exact h
  | str x => cases e; exact h
  | _ => cases e
theorem Reps.keys : ∀ {ds : List D} {vs : List V} {ks : List Key}, Reps T H ds vs → D.keys ds = some ks → vs = ks.map kV
  | [], vs, ks, h, e => by
    obtain rfl : vs = [] := h
    unfold D.keys at e; cases e
    rfl
  | d :: ds, vs, ks, h, e => by
    obtain ⟨v, r, rfl, q, qs⟩ := h
    unfold D.keys at e
    split at e
    · rename_i k ks' e1 e2
      cases e
      rw [q.key e1, Reps.keys qs e2]
      rfl
    · cases e
end
/-! ### tables by two lists -/
section
variable {κ : Type} [DecidableEq κ] {T : Wd} {H : Hp}
theorem valV_has : ∀ {ks : List κ} {vs : List V} {k : κ}, ks.length = vs.length → (valV (ks.zip vs) k).isSome = hasK ks k
  | [], vs, k, _ => rfl
  | x :: ks, [], k, l => by cases l
  | x :: ks, v :: vs, k, l => by
    have ih := valV_has (ks := ks) (vs := vs) (k := k) (by simpa using l)
    show (valV ((x, v) :: ks.zip vs) k).isSome = _
    unfold hasK
    rw [List.any_cons]
    by_cases e : x = k
    · rw [valV_pos (show (x, v).1 = k from e), decide_eq_true e]; rfl
    · rw [valV_neg (show ¬ (x, v).1 = k from e), decide_eq_false e, ih]; rfl
theorem valV_get : ∀ {ks : List κ} {vs : List V} {ds : List D} {k : κ} {d : D}, Reps T H ds vs → getK ks ds k = some d → ∃ v, valV (ks.zip vs) k = some v ∧ Rep T H d v
  | [], vs, ds, k, d, _, e => by cases ds <;> cases e
  | x :: ks, vs, [], k, d, _, e => by cases e
  | x :: ks, vs, y :: ds, k, d, r, e => by
    obtain ⟨v, vs', rfl, q, qs⟩ := r
    unfold getK at e
    show ∃ w, valV ((x, v) :: ks.zip vs') k = some w ∧ _
    by_cases h : x = k
    · rw [if_pos h] at e
      cases e
      rw [valV_pos (show (x, v).1 = k from h)]
      exact ⟨v, rfl, q⟩
    · rw [if_neg h] at e
      rw [valV_neg (show ¬ (x, v).1 = k from h)]
      exact valV_get qs e
theorem putKs_len (ks : List κ) (k : κ) : (putKs ks k).length = if hasK ks k then ks.length else ks.length + 1 := by
  unfold putKs
  split <;> simp
theorem putK_zip : ∀ {ks : List κ} {vs : List V} {ds : List D} {k : κ} {d : D} {v : V}, ks.length = vs.length → Reps T H ds vs → ks.Nodup → Rep T H d v →
    ∃ ws, putK (ks.zip vs) k v = (putKs ks k).zip ws ∧ (putKs ks k).length = ws.length ∧ Reps T H (putVs ks ds k d) ws := by
  intro ks vs ds k d v l r nd q
  -- the general step: with a tail that is mapped, no longer found
  have gen : ∀ {ks : List κ} {vs : List V} {ds : List D}, ks.length = vs.length → Reps T H ds vs → ks.Nodup →
      ((hasK ks k = true → ∃ ws, (ks.zip vs).map (fun kv => if kv.1 = k then (kv.1, v) else kv) = ks.zip ws ∧ ks.length = ws.length ∧ Reps T H (putVs ks ds k d) ws) ∧
       (hasK ks k = false → (ks.zip vs).map (fun kv => if kv.1 = k then (kv.1, v) else kv) = ks.zip vs ∧ Reps T H (putVs ks ds k d) (vs ++ [v]))) := by
    intro ks
    induction ks with
    | nil =>
      intro vs ds l r nd
      refine ⟨fun h => (nomatch h), fun _ => ⟨rfl, ?_⟩⟩
      cases vs with
      | cons _ _ => cases l
      | nil => exact ⟨v, [], rfl, q, rfl⟩
    | cons x ks ih =>
      intro vs ds l r nd
      cases vs with
      | nil => cases l
      | cons w vs =>
      cases ds with
      | nil => cases (show w :: vs = [] from r)
      | cons y ds =>
      obtain ⟨q1, qs⟩ := r.uncons
      obtain ⟨nx, nd'⟩ := List.nodup_cons.mp nd
      have l' : ks.length = vs.length := by simpa using l
      obtain ⟨i1, i2⟩ := ih l' qs nd'
      by_cases h : x = k
      · subst h
        have hn : hasK ks x = false := by
          unfold hasK
          rw [List.any_eq_false]
          intro z hz e
          exact nx (of_decide_eq_true e ▸ hz)
        refine ⟨fun _ => ⟨v :: vs, ?_, by simpa using l', ?_⟩, fun z => ?_⟩
        · rw [List.zip_cons_cons, List.map_cons, (i2 hn).1, if_pos rfl, List.zip_cons_cons]
        · show Reps T H (if x = x then d :: ds else _) _
          rw [if_pos rfl]
          exact qs.cons q
        · unfold hasK at z
          rw [List.any_cons, decide_eq_true rfl] at z
          cases z
      · have hx : hasK (x :: ks) k = hasK ks k := by
          unfold hasK
          rw [List.any_cons, decide_eq_false h]
          rfl
        rw [hx]
        refine ⟨fun z => ?_, fun z => ?_⟩
        · obtain ⟨ws, e1, e2, e3⟩ := i1 z
          refine ⟨w :: ws, ?_, by simpa using e2, ?_⟩
          · rw [List.zip_cons_cons, List.map_cons, e1, if_neg h, List.zip_cons_cons]
          · show Reps T H (if x = k then d :: ds else y :: putVs ks ds k d) _
            rw [if_neg h]
            exact e3.cons q1
        · obtain ⟨e1, e3⟩ := i2 z
          refine ⟨?_, ?_⟩
          · rw [List.zip_cons_cons, List.map_cons, e1, if_neg h]
          · show Reps T H (if x = k then d :: ds else y :: putVs ks ds k d) _
            rw [if_neg h]
            exact e3.cons q1
  obtain ⟨g1, g2⟩ := gen l r nd
  have ha : ((ks.zip vs).any fun kv => decide (kv.1 = k)) = hasK ks k := by
    rw [valV_any, valV_has l]
  unfold putK putKs
  rw [ha]
  cases z : hasK ks k with
  | true =>
    rw [if_pos rfl, if_pos rfl]
    exact g1 z
  | false =>
    rw [if_neg Bool.false_ne_true, if_neg Bool.false_ne_true]
    obtain ⟨_, e3⟩ := g2 z
    refine ⟨vs ++ [v], ?_, by simp [l], e3⟩
    rw [List.zip_append l]
    rfl
theorem putKs_nodup {ks : List κ} {k : κ} (nd : ks.Nodup) : (putKs ks k).Nodup := by
  unfold putKs
  split
  · exact nd
  · rename_i h
    rw [List.nodup_append]
    refine ⟨nd, by simp, fun a ha b hb e => ?_⟩
    have hb' : b = k := by simpa using hb
    subst hb'; subst e
    apply h
    unfold hasK
    rw [List.any_eq_true]
    exact ⟨a, ha, decide_eq_true rfl⟩
end
end Fm
end

section
set_option Elab.async false
set_option linter.all false
set_option maxRecDepth 10000
set_option autoImplicit false
set_option maxHeartbeats 1000000
namespace Fm
open PySem L2
section
variable {X : Cx}
theorem op_dIn (hu : X.A.units + 1 < cLine) : OpR X (compareOp .In) (fun y x H Q => ∃ a o, x = .ref a ∧ DGet H a y o ∧ Q (.bl o.isSome) H) := by
  intro pins s σ H y x v u Q I ry rx h
  obtain ⟨a, o, rfl, g, q⟩ := h
  obtain rfl : u = Value.ref a := rx
  exact d_in hu I g ry fun s' I' => ⟨.bl _, H, I', rfl, q⟩
theorem op_dNotIn (hu : X.A.units + 1 < cLine) : OpR X (compareOp .NotIn) (fun y x H Q => ∃ a o, x = .ref a ∧ DGet H a y o ∧ Q (.bl (!o.isSome)) H) := by
  intro pins s σ H y x v u Q I ry rx h
  obtain ⟨a, o, rfl, g, q⟩ := h
  obtain rfl : u = Value.ref a := rx
  exact d_notIn hu I g ry fun s' I' => ⟨.bl _, H, I', rfl, q⟩
theorem DGet.rd {H : Hp} {a : Addr} {kvs : List (Key × V)} {k : Key} (e : Rd H a (.dK kvs)) : DGet H a (kV k) (valV kvs k) := .inl ⟨kvs, k, e, rfl, rfl⟩
theorem dec_V {i j : Int} : decide (V.int i = V.int j) = decide (i = j) := by
  by_cases h : i = j
  · subst h; simp
  · rw [decide_eq_false h, decide_eq_false fun e => h (V.int.inj e)]
theorem dec_S {i j : Str} : decide (V.str i = V.str j) = decide (i = j) := by
  by_cases h : i = j
  · subst h; simp
  · rw [decide_eq_false h, decide_eq_false fun e => h (V.str.inj e)]
end
section
variable {T : Wd} {X : Cx} {W : WX} {k : Nat} {H : Hp} {Q : VK} {d1 d2 : D} {v1 v2 : V} {r : Bool}
theorem eq_ok (g : Gd T X W k) (r1 : Rep T H d1 v1) (r2 : Rep T H d2 v2) (e : eqD d1 d2 = some r) : (Q (.bl r) H → OW X (compareOp .Eq) v1 v2 H Q) ∧ (Q (.bl (!r)) H → OW X (compareOp .NotEq) v1 v2 H Q) := by
  unfold eqD at e
  split at e
  · obtain rfl := Rep.int r1; obtain rfl := Rep.int r2; cases e
    refine ⟨fun q => OW.of op_eq ⟨rfl, ?_⟩, fun q => OW.of op_ne ⟨rfl, ?_⟩⟩
    · rw [dec_V]; exact q
    · rw [dec_V]; exact q
  · obtain rfl := Rep.str r1; obtain rfl := Rep.str r2; cases e
    refine ⟨fun q => OW.of op_eq ⟨rfl, ?_⟩, fun q => OW.of op_ne ⟨rfl, ?_⟩⟩
    · rw [dec_S]; exact q
    · rw [dec_S]; exact q
  · split at e
    · rename_i x y h1 h2
      split at e
      · rename_i hs
        cases e
        rw [Bool.and_eq_true] at hs
        have p1 := Rep.dp _ _ _ r1 h1
        have p2 := Rep.dp _ _ _ r2 h2
        rw [← g.K] at p1 p2
        exact ⟨fun q => OW.of (op_eqD g.room.units) ⟨x, y, p1, p2, hs.1, hs.2, q⟩, fun q => OW.of (op_neD g.room.units) ⟨x, y, p1, p2, hs.1, hs.2, q⟩⟩
      · cases e
    · cases e
theorem units1 {j : Nat} {A : Around} (r : Room j A) : A.units + 1 < cLine := by have := r.un; omega
theorem units65 {j : Nat} {A : Around} (r : Room j A) : A.units + 65 < cLine := by have := r.un; omega
theorem in_ok (g : Gd T X W k) (r1 : Rep T H d1 v1) (r2 : Rep T H d2 v2) (e : inD d1 d2 = some r) : (Q (.bl r) H → OW X (compareOp .In) v1 v2 H Q) ∧ (Q (.bl (!r)) H → OW X (compareOp .NotIn) v1 v2 H Q) := by
  unfold inD at e
  split at e
  · obtain ⟨a, vs, rfl, q2, rs⟩ := r2
    split at e
    · rename_i v ws h1 h2
      cases e
      obtain ⟨rfl, f1⟩ := r1.flat h1
      obtain ⟨rfl, f2⟩ := rs.flat h2
      exact ⟨fun q => OW.of op_in_seq ⟨a, _, rfl, .inl (.inl q2), f1, f2, q⟩, fun q => OW.of op_notIn_seq ⟨a, _, rfl, .inl (.inl q2), f1, f2, q⟩⟩
    · split at e
      · rename_i x y h1 h2
        split at e
        · rename_i hs
          cases e
          rw [Bool.and_eq_true] at hs
          have p1 := Rep.dp _ _ _ r1 h1
          have p2 : Dp T.K H (.ref a) (.list y) := .lst (.inl q2) (Reps.dp _ _ _ rs h2)
          rw [← g.K] at p1 p2
          exact ⟨fun q => OW.of (op_inD (units65 g.room)) ⟨x, y, p1, p2, hs.1, hs.2, q⟩, fun q => OW.of (op_notInD (units65 g.room)) ⟨x, y, p1, p2, hs.1, hs.2, q⟩⟩
        · cases e
      · cases e
  · obtain ⟨a, vs, rfl, q2, rs⟩ := r2
    rw [← g.K] at q2
    split at e
    · rename_i v ws h1 h2
      cases e
      obtain ⟨rfl, f1⟩ := r1.flat h1
      obtain ⟨rfl, f2⟩ := rs.flat h2
      exact ⟨fun q => OW.of op_in_seq ⟨a, _, rfl, .inr q2, f1, f2, q⟩, fun q => OW.of op_notIn_seq ⟨a, _, rfl, .inr q2, f1, f2, q⟩⟩
    · cases e
  · obtain ⟨a, vs, rfl, q2, ⟨l, nd⟩, rs⟩ := r2
    split at e
    · rename_i kk h1
      cases e
      obtain rfl := r1.key h1
      refine ⟨fun q => OW.of (op_dIn (units1 g.room)) ⟨a, _, rfl, DGet.rd q2, ?_⟩, fun q => OW.of (op_dNotIn (units1 g.room)) ⟨a, _, rfl, DGet.rd q2, ?_⟩⟩
      · rw [valV_has l]; exact q
      · rw [valV_has l]; exact q
    · cases e
  · obtain rfl := Rep.str r2
    split at e
    · rename_i c0
      obtain rfl := Rep.str r1
      split at e
      · rename_i hs
        cases e
        obtain ⟨x, ex⟩ : ∃ x, c0 = ⟨#[x]⟩ := by
          obtain ⟨⟨l⟩⟩ := c0
          have hl : l.length = 1 := hs
          match l, hl with
          | [x], _ => exact ⟨x, rfl⟩
        subst ex
        exact ⟨fun q => OW.of op_in_sign ⟨x, _, rfl, rfl, q⟩, fun q => OW.of op_notIn_sign ⟨x, _, rfl, rfl, q⟩⟩
      · cases e
    · cases e
  · cases e
theorem cmp_ok {o : COp} (g : Gd T X W k) (r1 : Rep T H d1 v1) (r2 : Rep T H d2 v2) (e : cmpD o d1 d2 = some r) (q : Q (.bl r) H) : OW X (compareOp o.op) v1 v2 H Q := by
  cases o with
  | eq => exact (eq_ok g r1 r2 e).1 q
  | ne =>
    obtain ⟨b, e1, rfl⟩ := Option.map_eq_some_iff.mp (show (eqD d1 d2).map (!·) = some r from e)
    exact (eq_ok g r1 r2 e1).2 q
  | inn => exact (in_ok g r1 r2 e).1 q
  | nin =>
    obtain ⟨b, e1, rfl⟩ := Option.map_eq_some_iff.mp (show (inD d1 d2).map (!·) = some r from e)
    exact (in_ok g r1 r2 e1).2 q
  | lt =>
    unfold cmpD at e
    split at e <;> try (rename_i h; cases h)
    split at e
    · obtain rfl := Rep.int r1; obtain rfl := Rep.int r2; cases e
      exact OW.of op_lt ⟨_, _, rfl, rfl, q⟩
    · cases e
  | le =>
    unfold cmpD at e
    split at e <;> try (rename_i h; cases h)
    split at e
    · obtain rfl := Rep.int r1; obtain rfl := Rep.int r2; cases e
      exact OW.of op_le ⟨_, _, rfl, rfl, q⟩
    · cases e
  | gt =>
    unfold cmpD at e
    split at e <;> try (rename_i h; cases h)
    split at e
    · obtain rfl := Rep.int r1; obtain rfl := Rep.int r2; cases e
      exact OW.of op_gt ⟨_, _, rfl, rfl, q⟩
    · cases e
  | ge =>
    unfold cmpD at e
    split at e <;> try (rename_i h; cases h)
    split at e
    · obtain rfl := Rep.int r1; obtain rfl := Rep.int r2; cases e
      exact OW.of op_ge ⟨_, _, rfl, rfl, q⟩
    · cases e
end
section
variable {T : Wd} {P : Pg} {cl : Cl} {X : Cx} {W : WX} {k : Nat} {a b d : IE} {ax bx dx : Expr} {pos : Pos}
/-- what both readings of a comparison ask -/
theorem cmp_two {o : COp} (g : Gd T X W k) (ha : Snd T P cl X W a ax) (hb : Snd T P cl X W b bx) {c : Fr} {G : List SV} {env : Env} {σ : St} {H : Hp} {α : Type} {K : α → Prop} {f : Bool → Env → R α} {Q : VK}
    (st : Stt T c G env σ H) (po : PX T c G (· = σ) W ((ev P cl a env).thn fun x env1 => (ev P cl b env1).thn fun y env2 => match x.data env2, y.data env2 with
      | some dx, some dy => (R.of (cmpD o dx dy)).bind fun r => f r env2
      | _, _ => .stuck) K)
    (kq : ∀ r env2 H2, Stt T c G env2 σ H2 → PX T c G (· = σ) W (f r env2) K → Q (.bl r) H2) : tOp (OW X (compareOp o.op)) (EW X ax) (EW X bx) σ H Q := by
  refine two ha hb (R := fun v1 v2 H2 => OW X (compareOp o.op) v1 v2 H2 Q) st po fun x y env2 v1 v2 H2 st2 a1 a2 po2 => ?_
  cases hx : x.data env2 with
  | none => rw [hx] at po2; exact po2.elim
  | some dx =>
  cases hy : y.data env2 with
  | none => rw [hx, hy] at po2; exact po2.elim
  | some dy =>
  rw [hx, hy] at po2
  obtain ⟨r, e, po3⟩ := PX.of2 po2
  have r1 := Opd.rep st2 a1 hx fun p h => List.mem_append_left _ (List.mem_append_right _ h)
  have r2 := Opd.rep st2 a2 hy fun p h => List.mem_append_left _ (List.mem_append_left _ h)
  exact cmp_ok g r1 r2 e (kq r env2 H2 st2.right po3)
theorem snd_cmp {o : COp} (g : Gd T X W k) (ha : Snd T P cl X W a ax) (hb : Snd T P cl X W b bx) (hm : behindInMarks o.op bx = false) : Snd T P cl X W (.cmp o a b) (.Compare ax [o.op] [bx] pos) := by
  intro c G env σ H Q st po
  unfold ev at po
  exact EW.of (pe_cmpR op_W pe_W pe_W hm) (cmp_two g ha hb st po fun r env2 H2 st2 po2 => KE.bl po2 st2)
where KE.bl {c : Fr} {G : List SV} {env : Env} {σ : St} {H : Hp} {Q : VK} {r : Bool} (po : KE T c G σ Q (.tmp (.val (.bl r)), env)) (st : Stt T c G env σ H) : Q (.bl r) H := po _ _ st.bl trivial
end
end Fm
end

section
set_option Elab.async false
set_option linter.all false
set_option maxRecDepth 10000
set_option autoImplicit false
set_option maxHeartbeats 1000000
namespace Fm
open PySem L2

theorem R.thn_thn {α β γ δ ε : Type} (r : R (α × β)) (f : α → β → R (γ × δ)) (g : γ → δ → R ε) : (r.thn f).thn g = r.thn fun a b => (f a b).thn g := by
  cases r <;> rfl
theorem R.bind_thn {α γ δ ε : Type} (r : R α) (f : α → R (γ × δ)) (g : γ → δ → R ε) : (r.bind f).thn g = r.bind fun a => (f a).thn g := by
  cases r <;> rfl
theorem PX.imp {T : Wd} {c : Fr} {G : List SV} {S : St → Prop} {W : WX} {α β γ : Type} {r : R (α × β)} {f f' : α → β → R γ} {K : γ → Prop} (h : PX T c G S W (r.thn f) K)
    (k : ∀ a b, PX T c G S W (f a b) K → PX T c G S W (f' a b) K) : PX T c G S W (r.thn f') K := by
  cases r with
  | ok p => exact k _ _ h
  | exc _ _ _ => exact h
  | stuck => exact h
inductive Al (S : IE → Expr → Prop) : List IE → List Expr → Prop where
  | nil : Al S [] []
  | cons {e : IE} {ax : Expr} {es : List IE} {axs : List Expr} : S e ax → Al S es axs → Al S (e :: es) (ax :: axs)
theorem Al.imp {S S' : IE → Expr → Prop} (h : ∀ e ax, S e ax → S' e ax) : ∀ {es : List IE} {axs : List Expr}, Al S es axs → Al S' es axs
  | _, _, .nil => .nil
  | _, _, .cons a r => .cons (h _ _ a) (r.imp h)
/-- a test that is its value's truth -/
def Tru (X : Cx) (ax : Expr) : Prop := ∀ whole, isTrue ax X.env whole = (do let v ← whole; standAt ax.pos; holding [v] (truthy v))
section
variable {T : Wd} {P : Pg} {cl : Cl} {X : Cx} {W : WX} {k : Nat} {a b d : IE} {ax bx dx : Expr} {pos : Pos}
/-- an operand taken as a truth value -/
theorem asB_ok {c : Fr} {G : List SV} {env : Env} {σ : St} {H : Hp} {o : Opd} {v : V} {α : Type} {K : α → Prop} {f : Bool → Env → R α} (st : Stt T c (o.tm v ++ G) env σ H) (at1 : o.at σ v)
    (po : PX T c G (· = σ) W ((asB o env).thn f) K) : ∃ b, v = .bl b ∧ PX T c G (· = σ) W (f b env) K := by
  unfold asB at po
  split at po
  · rename_i b hb
    exact ⟨b, Rep.bl (Opd.rep st at1 hb tm_here), po⟩
  · exact po.elim
theorem asB_end {c : Fr} {G : List SV} {env : Env} {σ : St} {H : Hp} {o : Opd} {v : V} {Q : Bool → Hp → Prop} (st : Stt T c (o.tm v ++ G) env σ H) (at1 : o.at σ v)
    (po : PX T c G (· = σ) W (asB o env) (KB T c G σ Q)) : ∃ b, v = .bl b ∧ Q b H := by
  unfold asB at po
  split at po
  · rename_i b hb
    exact ⟨b, Rep.bl (Opd.rep st at1 hb tm_here), po H st.right⟩
  · exact po.elim
theorem sndT_val (h : Snd T P cl X W a ax) (he : Tru X ax) : SndT T P cl X W a ax := by
  intro c G env σ H Q st po
  unfold evB at po
  refine TW.of (pt_val pe_W he) (h c G env σ H _ st (po.thn.mono ?_))
  rintro ⟨o, env1⟩ _ po1 v H1 st1 at1
  exact asB_end st1 at1 po1
theorem sndT_cmp {o : COp} (g : Gd T X W k) (ha : Snd T P cl X W a ax) (hb : Snd T P cl X W b bx) (hm : behindInMarks o.op bx = false) : SndT T P cl X W (.cmp o a b) (.Compare ax [o.op] [bx] pos) := by
  intro c G env σ H Q st po
  unfold evB ev at po
  rw [R.thn_thn] at po
  refine TW.of (pt_cmpR op_W pe_W pe_W hm) ?_
  show tOp _ _ _ σ H _
  have po' : PX T c G (· = σ) W ((ev P cl a env).thn fun x env1 => (ev P cl b env1).thn fun y env2 => match x.data env2, y.data env2 with
      | some dx, some dy => (R.of (cmpD o dx dy)).bind fun r => R.ok (r, env2)
      | _, _ => .stuck) (KB T c G σ Q) := by
    refine po.imp fun x env1 h => ?_
    rw [R.thn_thn] at h
    refine h.imp fun y env2 h => ?_
    cases h1 : x.data env2 with
    | none => rw [h1] at h; exact h
    | some d1 =>
    cases h2 : y.data env2 with
    | none => rw [h1, h2] at h; exact h
    | some d2 =>
    rw [h1, h2] at h
    dsimp only at h ⊢
    cases h3 : cmpD o d1 d2 with
    | none => rw [h3] at h; exact h
    | some r => rw [h3] at h; exact h
  exact cmp_two g ha hb st po' fun r env2 H2 st2 po2 => ⟨r, rfl, po2 H2 st2⟩
theorem snd_nt (ha : Snd T P cl X W a ax) : Snd T P cl X W (.nt a) (.UnaryOp .Not ax pos) := by
  intro c G env σ H Q st po
  unfold ev at po
  refine EW.of (pe_not pe_W) (ha c G env σ H _ st (po.thn.mono ?_))
  rintro ⟨o, env1⟩ _ po1 v H1 st1 at1
  obtain ⟨b, rfl, po2⟩ := asB_ok st1 at1 po1
  exact ⟨b, rfl, po2 _ _ st1.right.bl trivial⟩
theorem sndT_nt (ha : SndT T P cl X W a ax) : SndT T P cl X W (.nt a) (.UnaryOp .Not ax pos) := by
  intro c G env σ H Q st po
  unfold evB ev at po
  rw [R.thn_thn] at po
  refine TW.of (pt_not pt_W) (ha c G env σ H _ st ?_)
  unfold evB
  cases e1 : ev P cl a env with
  | exc _ _ _ => rw [e1] at po; exact po
  | stuck => rw [e1] at po; exact po
  | ok p =>
    rw [e1] at po
    have po1 : PX T c G (· = σ) W ((((asB p.1 p.2).thn fun b env2 => R.ok (Opd.tmp (.val (.bl (!b))), env2))).thn fun x env1 => asB x env1) (KB T c G σ Q) := po
    show PX T c G (· = σ) W (asB p.1 p.2) _
    unfold asB at po1 ⊢
    split at po1
    · rename_i b hb
      exact po1
    · exact po1
end
section
variable {T : Wd} {P : Pg} {cl : Cl} {X : Cx} {W : WX} {k : Nat} {pos : Pos}
def SndL (T : Wd) (P : Pg) (cl : Cl) (X : Cx) (W : WX) (f : Env → R (Bool × Env)) (ax : Expr) : Prop := ∀ (c : Fr) (G : List SV) (env : Env) (σ : St) (H : Hp) (Q : Bool → Hp → Prop),
  Stt T c G env σ H → PX T c G (· = σ) W (f env) (KB T c G σ Q) → EW X ax σ H fun v H' => ∃ b, v = .bl b ∧ Q b H'
theorem and_list : ∀ {es : List IE} {axs : List Expr}, Al (Snd T P cl X W) es axs → es ≠ [] → SndL T P cl X W (fun env => evAnd P cl es env) (.BoolOp .And axs pos)
  | _, _, .nil, h => absurd rfl h
  | [e], [ax], .cons ha .nil, _ => by
    intro c G env σ H Q st po
    dsimp only at po
    unfold evAnd at po
    refine EW.of (pe_one pe_W) (ha c G env σ H _ st (po.thn.mono ?_))
    rintro ⟨o, env1⟩ _ po1 v H1 st1 at1
    obtain ⟨b, rfl, po2⟩ := asB_ok st1 at1 po1
    refine ⟨b, rfl, ?_⟩
    cases b with
    | true =>
      unfold evAnd at po2
      exact po2 H1 st1.right
    | false => exact po2 H1 st1.right
  | e :: e2 :: es, ax :: ax2 :: axs, .cons ha (.cons ha2 r), _ => by
    intro c G env σ H Q st po
    dsimp only at po
    rw [evAnd] at po
    refine EW.of (pe_and pe_W pe_W) (ha c G env σ H _ st (po.thn.mono ?_))
    rintro ⟨o, env1⟩ _ po1 v H1 st1 at1
    obtain ⟨b, rfl, po2⟩ := asB_ok st1 at1 po1
    refine ⟨b, rfl, ?_⟩
    cases b with
    | true => exact and_list (.cons ha2 r) (by simp) c G env1 σ H1 Q st1.right po2
    | false => exact ⟨false, rfl, po2 H1 st1.right⟩
theorem or_list : ∀ {es : List IE} {axs : List Expr}, Al (Snd T P cl X W) es axs → es ≠ [] → SndL T P cl X W (fun env => evOr P cl es env) (.BoolOp .Or axs pos)
  | _, _, .nil, h => absurd rfl h
  | [e], [ax], .cons ha .nil, _ => by
    intro c G env σ H Q st po
    dsimp only at po
    unfold evOr at po
    refine EW.of (pe_one pe_W) (ha c G env σ H _ st (po.thn.mono ?_))
    rintro ⟨o, env1⟩ _ po1 v H1 st1 at1
    obtain ⟨b, rfl, po2⟩ := asB_ok st1 at1 po1
    refine ⟨b, rfl, ?_⟩
    cases b with
    | false =>
      unfold evOr at po2
      exact po2 H1 st1.right
    | true => exact po2 H1 st1.right
  | e :: e2 :: es, ax :: ax2 :: axs, .cons ha (.cons ha2 r), _ => by
    intro c G env σ H Q st po
    dsimp only at po
    rw [evOr] at po
    refine EW.of (pe_or pe_W pe_W) (ha c G env σ H _ st (po.thn.mono ?_))
    rintro ⟨o, env1⟩ _ po1 v H1 st1 at1
    obtain ⟨b, rfl, po2⟩ := asB_ok st1 at1 po1
    refine ⟨b, rfl, ?_⟩
    cases b with
    | false => exact or_list (.cons ha2 r) (by simp) c G env1 σ H1 Q st1.right po2
    | true => exact ⟨true, rfl, po2 H1 st1.right⟩
theorem snd_an {es : List IE} {axs : List Expr} (h : Al (Snd T P cl X W) es axs) (hn : es ≠ []) : Snd T P cl X W (.an es) (.BoolOp .And axs pos) := by
  intro c G env σ H Q st po
  unfold ev at po
  refine (and_list h hn c G env σ H (fun b H' => Q (.bl b) H') st (po.thn.mono ?_)).mono fun v H' ⟨b, e, q⟩ => by rw [e]; exact q
  rintro ⟨b, env1⟩ _ po1 H1 st1
  exact po1 _ _ st1.bl trivial
theorem snd_or {es : List IE} {axs : List Expr} (h : Al (Snd T P cl X W) es axs) (hn : es ≠ []) : Snd T P cl X W (.or es) (.BoolOp .Or axs pos) := by
  intro c G env σ H Q st po
  unfold ev at po
  refine (or_list h hn c G env σ H (fun b H' => Q (.bl b) H') st (po.thn.mono ?_)).mono fun v H' ⟨b, e, q⟩ => by rw [e]; exact q
  rintro ⟨b, env1⟩ _ po1 H1 st1
  exact po1 _ _ st1.bl trivial
/-! as tests -/
theorem evAnd_B {e : IE} {es : List IE} {env : Env} : evAnd P cl (e :: es) env = (evB P cl e env).thn fun b env2 => if b then evAnd P cl es env2 else .ok (false, env2) := by
  rw [evAnd]; unfold evB; rw [R.thn_thn]
theorem evOr_B {e : IE} {es : List IE} {env : Env} : evOr P cl (e :: es) env = (evB P cl e env).thn fun b env2 => if b then .ok (true, env2) else evOr P cl es env2 := by
  rw [evOr]; unfold evB; rw [R.thn_thn]
def PWW (X : Cx) (ax : Expr) : TT := fun σ H Q => ∀ (whole : Sem Value) (pins : List (Addr × Obj)) (s : Shared), Inv X pins σ H s → wpAny (model X.prog X.w) X.A (isTrue ax X.env whole) (TP X pins σ Q) X.xe s
theorem pw_W {ax : Expr} : PW X ax (PWW X ax) := ⟨fun whole pins s σ H Q I h => h whole pins s I⟩
theorem PWW.of {ax : Expr} {t : TT} {σ : St} {H : Hp} {Q : Bool → Hp → Prop} (p : PW X ax t) (h : t σ H Q) : PWW X ax σ H Q := fun whole pins s I => p.run whole pins s σ H Q I h
theorem and_test : ∀ {es : List IE} {axs : List Expr}, Al (SndT T P cl X W) es axs → es ≠ [] → ∀ (c : Fr) (G : List SV) (env : Env) (σ : St) (H : Hp) (Q : Bool → Hp → Prop),
    Stt T c G env σ H → PX T c G (· = σ) W (evAnd P cl es env) (KB T c G σ Q) → PWW X (.BoolOp .And axs pos) σ H Q
  | _, _, .nil, h => absurd rfl h
  | [e], [ax], .cons ha .nil, _ => by
    intro c G env σ H Q st po
    rw [evAnd_B] at po
    refine PWW.of (pw_and1 pt_W) (ha c G env σ H _ st (po.thn.mono ?_))
    rintro ⟨b, env1⟩ _ po1 H1 st1
    cases b with
    | true =>
      dsimp only at po1
      unfold evAnd at po1
      exact po1 H1 st1
    | false => exact po1 H1 st1
  | e :: e2 :: es, ax :: ax2 :: axs, .cons ha (.cons ha2 r), _ => by
    intro c G env σ H Q st po
    rw [evAnd_B] at po
    have ih := and_test (.cons ha2 r) (by simp)
    refine PWW.of (pw_and pt_W pw_W) (ha c G env σ H _ st (po.thn.mono ?_))
    rintro ⟨b, env1⟩ _ po1 H1 st1
    cases b with
    | true => exact ih c G env1 σ H1 Q st1 po1
    | false => exact po1 H1 st1
theorem or_test : ∀ {es : List IE} {axs : List Expr}, Al (SndT T P cl X W) es axs → es ≠ [] → ∀ (c : Fr) (G : List SV) (env : Env) (σ : St) (H : Hp) (Q : Bool → Hp → Prop),
    Stt T c G env σ H → PX T c G (· = σ) W (evOr P cl es env) (KB T c G σ Q) → PWW X (.BoolOp .Or axs pos) σ H Q
  | _, _, .nil, h => absurd rfl h
  | [e], [ax], .cons ha .nil, _ => by
    intro c G env σ H Q st po
    rw [evOr_B] at po
    refine PWW.of (pw_or1 pt_W) (ha c G env σ H _ st (po.thn.mono ?_))
    rintro ⟨b, env1⟩ _ po1 H1 st1
    cases b with
    | false =>
      dsimp only at po1
      unfold evOr at po1
      exact po1 H1 st1
    | true => exact po1 H1 st1
  | e :: e2 :: es, ax :: ax2 :: axs, .cons ha (.cons ha2 r), _ => by
    intro c G env σ H Q st po
    rw [evOr_B] at po
    have ih := or_test (.cons ha2 r) (by simp)
    refine PWW.of (pw_or pt_W pw_W) (ha c G env σ H _ st (po.thn.mono ?_))
    rintro ⟨b, env1⟩ _ po1 H1 st1
    cases b with
    | false => exact ih c G env1 σ H1 Q st1 po1
    | true => exact po1 H1 st1
theorem bool_end {r : R (Bool × Env)} {K : Bool × Env → Prop} {c : Fr} {G : List SV} {σ : St} (po : PX T c G (· = σ) W ((r.thn fun b env1 => R.ok (Opd.tmp (.val (.bl b)), env1)).thn fun x env1 => asB x env1) K) : PX T c G (· = σ) W r K := by
  cases r <;> exact po
theorem sndT_an {es : List IE} {axs : List Expr} (h : Al (SndT T P cl X W) es axs) (hn : es ≠ []) : SndT T P cl X W (.an es) (.BoolOp .And axs pos) := by
  intro c G env σ H Q st po
  unfold evB ev at po
  exact TW.of pw_W.pt (and_test h hn c G env σ H Q st (bool_end po))
theorem sndT_or {es : List IE} {axs : List Expr} (h : Al (SndT T P cl X W) es axs) (hn : es ≠ []) : SndT T P cl X W (.or es) (.BoolOp .Or axs pos) := by
  intro c G env σ H Q st po
  unfold evB ev at po
  exact TW.of pw_W.pt (or_test h hn c G env σ H Q st (bool_end po))
end
end Fm
end

section
set_option Elab.async false
set_option linter.all false
set_option maxRecDepth 10000
set_option autoImplicit false
set_option maxHeartbeats 1000000
namespace Fm
open PySem L2
/-! chains, identity, fields, subscripts -/
section
variable {T : Wd} {P : Pg} {cl : Cl} {X : Cx} {W : WX} {k : Nat} {a b d : IE} {ax bx dx : Expr} {pos : Pos}
theorem chain_ok {o p : COp} (g : Gd T X W k) (ha : Snd T P cl X W a ax) (hb : Snd T P cl X W b bx) (hd : Snd T P cl X W d dx) {c : Fr} {G : List SV} {env : Env} {σ : St} {H : Hp} {Q : Bool → Hp → Prop}
    (st : Stt T c G env σ H) (po : PX T c G (· = σ) W ((ev P cl a env).thn fun x env1 => (ev P cl b env1).thn fun y env2 => match x.data env2, y.data env2 with
      | some dx, some dy => (R.of (cmpD o dx dy)).bind fun r => if r then (ev P cl d env2).thn fun z env3 => (match y.data env3, z.data env3 with
          | some dy, some dz => (R.of (cmpD p dy dz)).bind fun r => .ok (r, env3)
          | _, _ => .stuck) else .ok (false, env2)
      | _, _ => .stuck) (KB T c G σ Q)) : tChain (OW X (compareOp o.op)) (OW X (compareOp p.op)) (EW X ax) (EW X bx) (EW X dx) σ H fun v H' => ∃ b, v = .bl b ∧ Q b H' := by
  refine two ha hb (R := fun v1 v2 H2 => OW X (compareOp o.op) v1 v2 H2 fun z H3 => ∃ k, z = .bl k ∧ (if k = true then EW X dx σ H3 (fun w' H4 => OW X (compareOp p.op) v2 w' H4 fun v H' => ∃ b, v = .bl b ∧ Q b H') else ∃ b, V.bl false = .bl b ∧ Q b H3)) st po fun x y env2 v1 v2 H2 st2 a1 a2 po2 => ?_
  cases hx : x.data env2 with
  | none => rw [hx] at po2; exact po2.elim
  | some d1 =>
  cases hy : y.data env2 with
  | none => rw [hx, hy] at po2; exact po2.elim
  | some d2 =>
  rw [hx, hy] at po2
  obtain ⟨r, e, po3⟩ := PX.of2 po2
  have r1 := Opd.rep st2 a1 hx fun p h => List.mem_append_left _ (List.mem_append_right _ h)
  have r2 := Opd.rep st2 a2 hy fun p h => List.mem_append_left _ (List.mem_append_left _ h)
  refine cmp_ok g r1 r2 e ⟨r, rfl, ?_⟩
  cases r with
  | false => exact ⟨false, rfl, po3 H2 st2.right⟩
  | true =>
    show EW X dx σ H2 _
    have po3' : PX T c G (· = σ) W ((ev P cl d env2).thn fun z env3 => (match y.data env3, z.data env3 with
          | some dy, some dz => (R.of (cmpD p dy dz)).bind fun r => .ok (r, env3)
          | _, _ => .stuck)) (KB T c G σ Q) := po3
    have st3 : Stt T c (y.tm v2 ++ G) env2 σ H2 := st2.less (List.Sublist.append_right (List.sublist_append_left _ _) _)
    refine hd c _ env2 σ H2 _ st3 ((PX.thn po3').mono ?_ |>.frame _)
    rintro ⟨z, env3⟩ _ po4 v3 H3 st4 a3
    dsimp only at po4 st4
    cases hy' : y.data env3 with
    | none => rw [hy'] at po4; exact po4.elim
    | some d2' =>
    cases hz : z.data env3 with
    | none => rw [hy', hz] at po4; exact po4.elim
    | some d3 =>
    rw [hy', hz] at po4
    obtain ⟨r', e', po5⟩ := PX.of2 po4
    have r3 := Opd.rep st4 a3 hz tm_here
    have r2' := Opd.rep st4 a2 hy' fun p h => List.mem_append_right _ (List.mem_append_left _ h)
    exact cmp_ok g r2' r3 e' ⟨r', rfl, po5 H3 st4.right.right⟩
theorem ch_end {α : Type} {o p : COp} {c : Fr} {G : List SV} {S : St → Prop} {env : Env} {f : Bool → Env → R α} {K : α → Prop}
    (po : PX T c G S W ((ev P cl a env).thn fun x env1 => (ev P cl b env1).thn fun y env2 => match x.data env2, y.data env2 with
      | some dx, some dy => (R.of (cmpD o dx dy)).bind fun r => if r then (ev P cl d env2).thn fun z env3 => (match y.data env3, z.data env3 with
          | some dy, some dz => (R.of (cmpD p dy dz)).bind fun r => f r env3
          | _, _ => .stuck) else f false env2
      | _, _ => .stuck) K) : PX T c G S W ((ev P cl a env).thn fun x env1 => (ev P cl b env1).thn fun y env2 => match x.data env2, y.data env2 with
      | some dx, some dy => (R.of (cmpD o dx dy)).bind fun r => if r then (ev P cl d env2).thn fun z env3 => (match y.data env3, z.data env3 with
          | some dy, some dz => (R.of (cmpD p dy dz)).bind fun r => .ok (r, env3)
          | _, _ => .stuck) else .ok (false, env2)
      | _, _ => .stuck) (fun q : Bool × Env => PX T c G S W (f q.1 q.2) K) := by
  cases e1 : ev P cl a env with
  | stuck => rw [e1] at po; exact po
  | exc _ _ _ => rw [e1] at po; exact po
  | ok p1 =>
  rw [e1] at po
  obtain ⟨x, env1⟩ := p1
  dsimp only [R.thn] at po ⊢
  cases e2 : ev P cl b env1 with
  | stuck => rw [e2] at po; exact po
  | exc _ _ _ => rw [e2] at po; exact po
  | ok p2 =>
  rw [e2] at po
  obtain ⟨y, env2⟩ := p2
  dsimp only at po ⊢
  cases h1 : x.data env2 with
  | none => rw [h1] at po; exact po
  | some d1 =>
  cases h2 : y.data env2 with
  | none => rw [h1, h2] at po; exact po
  | some d2 =>
  rw [h1, h2] at po
  dsimp only at po ⊢
  cases h3 : cmpD o d1 d2 with
  | none => rw [h3] at po; exact po
  | some r =>
  rw [h3] at po
  cases r with
  | false => exact po
  | true =>
  dsimp only [R.of, R.bind] at po ⊢
  rw [if_pos rfl] at po ⊢
  cases e3 : ev P cl d env2 with
  | stuck => rw [e3] at po; exact po
  | exc _ _ _ => rw [e3] at po; exact po
  | ok p3 =>
  rw [e3] at po
  obtain ⟨z, env3⟩ := p3
  dsimp only at po ⊢
  cases h4 : y.data env3 with
  | none => rw [h4] at po; exact po
  | some d4 =>
  cases h5 : z.data env3 with
  | none => rw [h4, h5] at po; exact po
  | some d5 =>
  rw [h4, h5] at po
  dsimp only at po ⊢
  cases h6 : cmpD p d4 d5 with
  | none => rw [h6] at po; exact po
  | some r => rw [h6] at po; exact po
theorem snd_ch {o p : COp} (g : Gd T X W k) (ha : Snd T P cl X W a ax) (hb : Snd T P cl X W b bx) (hd : Snd T P cl X W d dx) (hm : lastMarks [o.op, p.op] [bx, dx] = false) : Snd T P cl X W (.ch o p a b d) (.Compare ax [o.op, p.op] [bx, dx] pos) := by
  intro c G env σ H Q st po
  unfold ev at po
  have po' := ch_end (f := fun r env => R.ok (Opd.tmp (.val (.bl r)), env)) po
  refine EW.mono (EW.of (pe_chain op_W op_W pe_W pe_W pe_W hm) (chain_ok g ha hb hd (Q := fun b H' => Q (.bl b) H') st (po'.mono ?_))) fun v H' ⟨b, e, q⟩ => by rw [e]; exact q
  rintro ⟨r, env3⟩ _ po3 H3 st3
  exact po3 _ _ st3.bl trivial
theorem sndT_ch {o p : COp} (g : Gd T X W k) (ha : Snd T P cl X W a ax) (hb : Snd T P cl X W b bx) (hd : Snd T P cl X W d dx) (hm : lastMarks [o.op, p.op] [bx, dx] = false) : SndT T P cl X W (.ch o p a b d) (.Compare ax [o.op, p.op] [bx, dx] pos) := by
  intro c G env σ H Q st po
  unfold evB at po
  have po1 := po.thn
  unfold ev at po1
  have po' := ch_end (f := fun r env => R.ok (Opd.tmp (.val (.bl r)), env)) po1
  exact TW.of (pt_chain op_W op_W pe_W pe_W pe_W hm) (chain_ok g ha hb hd (Q := Q) st (po'.mono fun q _ h => h))

/-! is None, is True, is False -/
def isV (c : Cn) (x : V) : Bool := match c with
  | .non => decide (x = .non)
  | .bl b => decide (x = .bl b)
  | _ => false
theorem isD_ok {H : Hp} {c : Cn} {dd : D} {v : V} {r : Bool} (h : Rep T H dd v) (e : isD c dd = some r) : isV c v = r := by
  cases c with
  | non =>
    cases e
    cases dd with
    | non => obtain rfl : v = .non := h; rfl
    | bl b => obtain rfl : v = .bl b := h; rfl
    | int i => obtain rfl : v = .int i := h; rfl
    | str x => obtain rfl : v = .str x := h; rfl
    | lst _ => obtain ⟨a, vs, rfl, _⟩ := h; rfl
    | tup _ => obtain ⟨a, vs, rfl, _⟩ := h; rfl
    | dk _ _ => obtain ⟨a, vs, rfl, _⟩ := h; rfl
    | dt _ _ => obtain ⟨a, vs, rfl, _⟩ := h; rfl
    | ins _ _ _ => obtain ⟨a, dx, vs, rfl, _⟩ := h; rfl
    | scr _ => obtain ⟨a, rfl, _⟩ := h; rfl
    | lk _ _ => obtain ⟨a, rfl, _⟩ := h; rfl
  | bl b =>
    cases e
    cases dd with
    | non => obtain rfl : v = .non := h; rfl
    | bl k => obtain rfl : v = .bl k := h; cases b <;> cases k <;> rfl
    | int i => obtain rfl : v = .int i := h; rfl
    | str x => obtain rfl : v = .str x := h; rfl
    | lst _ => obtain ⟨a, vs, rfl, _⟩ := h; rfl
    | tup _ => obtain ⟨a, vs, rfl, _⟩ := h; rfl
    | dk _ _ => obtain ⟨a, vs, rfl, _⟩ := h; rfl
    | dt _ _ => obtain ⟨a, vs, rfl, _⟩ := h; rfl
    | ins _ _ _ => obtain ⟨a, dx, vs, rfl, _⟩ := h; rfl
    | scr _ => obtain ⟨a, rfl, _⟩ := h; rfl
    | lk _ _ => obtain ⟨a, rfl, _⟩ := h; rfl
  | _ => cases e
theorem RelV.bool_iff {x : V} {v : Value} (r : RelV x v) (b : Bool) : (v == Value.bool b) = decide (x = .bl b) := by
  cases x with
  | non => cases r; rfl
  | bl k => cases r; cases k <;> cases b <;> rfl
  | int _ => obtain ⟨t, rfl⟩ := r; rfl
  | str _ => obtain ⟨t, rfl⟩ := r; rfl
  | byt _ => obtain ⟨t, rfl⟩ := r; rfl
  | flt _ => obtain ⟨t, rfl⟩ := r; rfl
  | ref _ => cases r; rfl
  | ty _ => cases r; rfl
theorem op_isB (b : Bool) : OpR X (compareOp .Is) (fun x y H Q => y = .bl b ∧ Q (.bl (decide (x = .bl b))) H) := by
  intro pins s σ H x y v u Q I rx ry h
  obtain ⟨rfl, q⟩ := h
  obtain rfl : u = Value.bool b := ry
  have z : Q (.bl (v == Value.bool b)) H := by rw [RelV.bool_iff rx]; exact q
  have fin : EP X pins σ Q (.bool (v == Value.bool b)) s := ⟨.bl _, H, I, rfl, z⟩
  cases x with
  | non => cases rx; exact wpAny_pure fin
  | bl _ => cases rx; exact wpAny_pure fin
  | int _ => obtain ⟨t, rfl⟩ := rx; exact wpAny_pure fin
  | str _ => obtain ⟨t, rfl⟩ := rx; exact wpAny_pure fin
  | byt _ => obtain ⟨t, rfl⟩ := rx; exact wpAny_pure fin
  | flt _ => obtain ⟨t, rfl⟩ := rx; exact wpAny_pure fin
  | ref _ => cases rx; exact wpAny_pure fin
  | ty _ => cases rx; exact wpAny_pure fin
theorem op_isnotB (b : Bool) : OpR X (compareOp .IsNot) (fun x y H Q => y = .bl b ∧ Q (.bl (!decide (x = .bl b))) H) := by
  intro pins s σ H x y v u Q I rx ry h
  obtain ⟨rfl, q⟩ := h
  obtain rfl : u = Value.bool b := ry
  have z : Q (.bl (!(v == Value.bool b))) H := by rw [RelV.bool_iff rx]; exact q
  have fin : EP X pins σ Q (.bool (!(v == Value.bool b))) s := ⟨.bl _, H, I, rfl, z⟩
  cases x with
  | non => cases rx; exact wpAny_pure fin
  | bl _ => cases rx; exact wpAny_pure fin
  | int _ => obtain ⟨t, rfl⟩ := rx; exact wpAny_pure fin
  | str _ => obtain ⟨t, rfl⟩ := rx; exact wpAny_pure fin
  | byt _ => obtain ⟨t, rfl⟩ := rx; exact wpAny_pure fin
  | flt _ => obtain ⟨t, rfl⟩ := rx; exact wpAny_pure fin
  | ref _ => cases rx; exact wpAny_pure fin
  | ty _ => cases rx; exact wpAny_pure fin
def isOp (neg : Bool) : CmpOp := if neg then .IsNot else .Is
theorem isop_ok {neg : Bool} {c : Cn} {x : V} {H : Hp} {Q : VK} (hc : (match c with | .non => true | .bl _ => true | _ => false) = true) (q : Q (.bl (if neg then !isV c x else isV c x)) H) : ∀ y, (match c with | .non => y = V.non | .bl b => y = V.bl b | _ => False) → OW X (compareOp (isOp neg)) x y H Q := by
  intro y hy
  cases c with
  | non =>
    obtain rfl : y = .non := hy
    cases neg with
    | true => exact OW.of op_notN ⟨rfl, q⟩
    | false => exact OW.of op_isN ⟨rfl, q⟩
  | bl b =>
    obtain rfl : y = .bl b := hy
    cases neg with
    | true => exact OW.of (op_isnotB b) ⟨rfl, q⟩
    | false => exact OW.of (op_isB b) ⟨rfl, q⟩
  | _ => cases hc
def Cn.kst : Cn → Const
  | .non => .none
  | .bl b => .bool b
  | .int i => .int i
  | .str x => .str x
theorem isc_ok {neg : Bool} {cc : Cn} {j : Nat} {p2 : Pos} (hcc : (match cc with | .non => true | .bl _ => true | _ => false) = true) (ha : Snd T P cl X W a ax) {c : Fr} {G : List SV} {env : Env} {σ : St} {H : Hp} {α : Type} {K : α → Prop} {f : Bool → Env → R α} {Q : VK}
    (st : Stt T c G env σ H) (po : PX T c G (· = σ) W ((ev P cl a env).thn fun x env1 => match x.data env1 with
      | some dx => (R.of (isD cc dx)).bind fun r => f (if neg then !r else r) env1
      | none => .stuck) K) (kq : ∀ r env2 H2, Stt T c G env2 σ H2 → PX T c G (· = σ) W (f r env2) K → Q (.bl r) H2) :
    tOp (OW X (compareOp (isOp neg))) (EW X ax) (EW X (.Constant cc.kst j p2)) σ H Q := by
  refine ha c G env σ H _ st (po.thn.mono ?_)
  rintro ⟨o, env1⟩ _ po1 v H1 st1 at1
  dsimp only at po1 st1
  cases h1 : o.data env1 with
  | none => rw [h1] at po1; exact po1.elim
  | some d1 =>
  rw [h1] at po1
  obtain ⟨r, e, po2⟩ := PX.of2 po1
  have hv := isD_ok (Opd.rep st1 at1 h1 tm_here) e
  have fin : ∀ y, (match cc with | .non => y = V.non | .bl b => y = V.bl b | _ => False) → OW X (compareOp (isOp neg)) v y H1 Q :=
    isop_ok hcc (by rw [hv]; exact kq _ env1 H1 st1.right po2)
  cases cc with
  | non => exact EW.of pe_non (fin .non rfl)
  | bl b => exact EW.of pe_bl (fin (.bl b) rfl)
  | _ => cases hcc
theorem nomarkC {op : CmpOp} {c : Const} {j : Nat} {p : Pos} : behindInMarks op (.Constant c j p) = false := by
  unfold behindInMarks
  rfl
theorem snd_isc {neg : Bool} {cc : Cn} {j : Nat} {p2 : Pos} (hcc : (match cc with | .non => true | .bl _ => true | _ => false) = true) (ha : Snd T P cl X W a ax) : Snd T P cl X W (.isc neg cc a) (.Compare ax [isOp neg] [.Constant cc.kst j p2] pos) := by
  intro c G env σ H Q st po
  unfold ev at po
  exact EW.of (pe_cmpR op_W pe_W pe_W nomarkC) (isc_ok hcc ha st (f := fun r env => R.ok (Opd.tmp (.val (.bl r)), env)) po fun r env2 H2 st2 po2 => po2 _ _ st2.bl trivial)
theorem sndT_isc {neg : Bool} {cc : Cn} {j : Nat} {p2 : Pos} (hcc : (match cc with | .non => true | .bl _ => true | _ => false) = true) (ha : Snd T P cl X W a ax) : SndT T P cl X W (.isc neg cc a) (.Compare ax [isOp neg] [.Constant cc.kst j p2] pos) := by
  intro c G env σ H Q st po
  unfold evB ev at po
  rw [R.thn_thn] at po
  refine TW.of (pt_cmpR op_W pe_W pe_W nomarkC) ?_
  refine isc_ok hcc ha st (f := fun r env => R.ok (r, env)) (K := KB T c G σ Q) (Q := fun v H' => ∃ k, v = .bl k ∧ Q k H') (po.imp fun x env1 h => ?_) fun r env2 H2 st2 po2 => ⟨r, rfl, po2 H2 st2⟩
  cases h1 : x.data env1 with
  | none => rw [h1] at h; exact h
  | some d1 =>
  rw [h1] at h
  dsimp only at h ⊢
  cases h2 : isD cc d1 with
  | none => rw [h2] at h; exact h
  | some r => rw [h2] at h; exact h
end
end Fm
end

section
set_option Elab.async false
set_option linter.all false
set_option maxRecDepth 10000
set_option autoImplicit false
set_option maxHeartbeats 1000000
namespace Fm
open PySem L2 PyProof.Rows
section
variable {T : Wd} {H : Hp} {κ : Type} [DecidableEq κ]
theorem look_get : ∀ {ks : List Nat} {vs : List V} {ds : List D} {k : Nat} {d : D} {g : Nat → Str}, (∀ a b, g a = g b → a = b) → Reps T H ds vs → getK ks ds k = some d → ∃ v, ((ks.map g).zip vs).lookup (g k) = some v ∧ Rep T H d v
  | [], vs, ds, k, d, g, _, _, e => by cases ds <;> cases e
  | x :: ks, vs, [], k, d, g, _, _, e => by cases e
  | x :: ks, vs, y :: ds, k, d, g, inj, r, e => by
    obtain ⟨v, vs', rfl, q, qs⟩ := r
    unfold getK at e
    show ∃ w, List.lookup (g k) ((g x, v) :: (ks.map g).zip vs') = some w ∧ _
    rw [List.lookup_cons]
    by_cases h : x = k
    · rw [if_pos h] at e
      cases e
      subst h
      rw [beq_self_eq_true]
      exact ⟨v, rfl, q⟩
    · rw [if_neg h] at e
      have hb : (g k == g x) = false := by
        rw [beq_eq_false_iff_ne]
        exact fun z => h (inj _ _ z).symm
      rw [hb]
      exact look_get inj qs e
theorem look_none {m : Str} {g : Nat → Str} (hm : ∀ a, g a ≠ m) : ∀ {ks : List Nat} {vs : List V}, ((ks.map g).zip vs).lookup m = none
  | [], vs => rfl
  | x :: ks, [] => rfl
  | x :: ks, v :: vs => by
    show List.lookup m ((g x, v) :: (ks.map g).zip vs) = none
    rw [List.lookup_cons]
    have hb : (m == g x) = false := by
      rw [beq_eq_false_iff_ne]
      exact fun z => hm x z.symm
    rw [hb]
    exact look_none hm
end
section
variable {T : Wd} {P : Pg} {cl : Cl} {X : Cx} {W : WX} {k : Nat} {a b d : IE} {ax bx dx : Expr} {pos : Pos}
/-- the base of an attribute is no super() -/
def Bas (X : Cx) (ax : Expr) (f : Str) : Prop := attributeBase ax f X.env (eval ax X.env) = eval ax X.env
theorem snd_fd {f : Nat} (g : Gd T X W k) (inj : ∀ a b, T.fld a = T.fld b → a = b) (hf : ∀ c, P.fok c f = true → L2.Cls T.K (T.cls c) ∧ NoAttr T.K (T.cls c) (T.fld f)) (ha : Snd T P cl X W a ax) (hb : Bas X ax (T.fld f)) :
    Snd T P cl X W (.fd a f) (.Attribute ax (T.fld f) pos) := by
  intro c G env σ H Q st po
  unfold ev at po
  refine EW.of (pe_fld pe_W hb) (ha c G env σ H _ st (po.thn.mono ?_))
  rintro ⟨o, env1⟩ _ po1 v H1 st1 at1
  dsimp only at po1 st1
  cases h1 : o.data env1 with
  | none => rw [h1] at po1; exact po1.elim
  | some d1 =>
  rw [h1] at po1
  cases d1 with
  | ins ci fs ds =>
    dsimp only at po1
    split at po1
    · rename_i hk
      obtain ⟨r, e, po2⟩ := PX.of2 po1
      obtain ⟨c1, c2⟩ := hf ci hk
      obtain ⟨F, rl, ko⟩ := id st1
      have s1 := Opd.sl rl ko at1 h1 tm_here
      obtain ⟨p, dx, vs, rfl, q, l, rs⟩ := s1.ins rl.hp h1
      obtain ⟨w, e1, rw1⟩ := look_get inj rs e
      rw [← g.K] at c1 c2
      exact ⟨p, _, dx, _, w, rfl, q, c1, c2, e1, fin_rep po2 rl ko rw1⟩
    · exact po1.elim
  | _ => exact po1.elim
theorem snd_cc {j : Nat} {f : Str} {i : Int} (g : Gd T X W k) (hf : ∀ a, T.fld a ≠ f) (hi : P.con[j]? = some i) (hc : ∀ c, P.cok c j = true → L2.Cls T.K (T.cls c) ∧ ∃ u, Con T.K (T.cls c) f (.int i) u) (ha : Snd T P cl X W a ax) (hb : Bas X ax f) :
    Snd T P cl X W (.cc a j) (.Attribute ax f pos) := by
  intro c G env σ H Q st po
  unfold ev at po
  rw [hi] at po
  refine EW.of (pe_con pe_W hb) (ha c G env σ H _ st (po.thn.mono ?_))
  rintro ⟨o, env1⟩ _ po1 v H1 st1 at1
  dsimp only at po1 st1
  cases h1 : o.data env1 with
  | none => rw [h1] at po1; exact po1.elim
  | some d1 =>
  rw [h1] at po1
  cases d1 with
  | ins ci fs ds =>
    dsimp only at po1
    split at po1
    · rename_i hk
      obtain ⟨c1, u, c2⟩ := hc ci hk
      obtain ⟨F, rl, ko⟩ := id st1
      have s1 := Opd.sl rl ko at1 h1 tm_here
      obtain ⟨p, dx, vs, rfl, q, l, rs⟩ := s1.ins rl.hp h1
      rw [← g.K] at c1 c2
      exact ⟨p, _, dx, _, _, u, rfl, q, c1, c2, look_none hf, fin_int po1 st1⟩
    · exact po1.elim
  | _ => exact po1.elim
theorem atI_rep {H : Hp} {ds : List D} {vs : List V} {i : Int} {d : D} (r : Reps T H ds vs) (e : atI ds i = some d) : ∃ v, atI vs i = some v ∧ Rep T H d v := by
  unfold atI at e ⊢
  rw [← r.len]
  obtain ⟨j, e1, e2⟩ := Option.bind_eq_some_iff.mp e
  obtain ⟨v, e3, q⟩ := r.get e2
  exact ⟨v, by rw [e1]; exact e3, q⟩
/-- a dict's item -/
def rIxDk : R2 := fun x y H Q => ∃ a v, x = .ref a ∧ DGet H a y (some v) ∧ Q v H
theorem ix_dict (hu : X.A.units + 1 < cLine) : IxR X rIxDk := by
  intro value slice pins s σ H x y v u Q I rx ry h hs
  obtain ⟨a, z, rfl, g, q⟩ := h
  obtain rfl : v = Value.ref a := rx
  exact tail_any (dict_typeIs I g) PySem.F.slot_dict_getitem.lookup (d_getItem hu I g ry fun w' s' I' rw' => ⟨z, H, I', rw', q⟩) hs
theorem snd_ix (g : Gd T X W k) (ha : Snd T P cl X W a ax) (hb : Snd T P cl X W b bx) (hx : PlainIx bx) : Snd T P cl X W (.ix a b) (.Subscript ax bx pos) := by
  intro c G env σ H Q st po
  unfold ev at po
  refine EW.of (pe_ix (IxR.or ix_seq (ix_dict (units1 g.room))) pe_W pe_W hx) (two ha hb (R := fun v1 v2 H2 => rIx X.K v1 v2 H2 Q ∨ rIxDk v1 v2 H2 Q) st po fun x y env2 v1 v2 H2 st2 a1 a2 po2 => ?_)
  cases h1 : x.data env2 with
  | none => rw [h1] at po2; exact po2.elim
  | some d1 =>
  rw [h1] at po2
  obtain ⟨F, rl, ko⟩ := id st2
  have s1 := Opd.sl rl ko a1 h1 fun p h => List.mem_append_left _ (List.mem_append_right _ h)
  have main : ∀ (d2 : D) (m : Bool), y.data env2 = some d2 → (m = true → y.slot env2 = .own d2) → PX T c G (· = σ) W ((R.of (ixD d1 d2 m)).bind fun r => .ok (.tmp (.val r), env2)) (KE T c G σ Q) →
      rIx X.K v1 v2 H2 Q ∨ rIxDk v1 v2 H2 Q := by
    intro d2 m h2 hm po3
    obtain ⟨r, e, po4⟩ := PX.of2 po3
    have po5 : KE T c G σ Q (.tmp (.val r), env2) := po4
    have s2 := Opd.sl rl ko a2 h2 fun p h => List.mem_append_left _ (List.mem_append_left _ h)
    have r2 := s2.rep rl.hp h2
    have r1 := s1.rep rl.hp h1
    unfold ixD at e
    split at e
    · obtain rfl := Rep.int r2
      obtain ⟨p, vs, rfl, q, rs⟩ := s1.lst rl.hp h1
      obtain ⟨w, e1, rw1⟩ := atI_rep rs e
      exact .inl (.inl ⟨p, vs, _, w, rfl, rfl, .inl q, e1, fin_rep po5 rl ko rw1⟩)
    · obtain rfl := Rep.int r2
      obtain ⟨p, vs, rfl, q, rs⟩ := s1.tup rl.hp h1
      obtain ⟨w, e1, rw1⟩ := atI_rep rs e
      rw [← g.K] at q
      exact .inl (.inr (.inl ⟨p, vs, _, w, rfl, rfl, q, e1, fin_rep po5 rl ko rw1⟩))
    · obtain rfl := Rep.int r2
      obtain rfl := Rep.str r1
      split at e
      · rename_i hl
        obtain ⟨cc, e1, rfl⟩ := Option.map_eq_some_iff.mp e
        exact .inl (.inr (.inr ⟨_, _, cc, rfl, rfl, big_le hl, e1, fin_str po5 st2⟩))
      · cases e
    · split at e
      · rename_i kk hk
        obtain rfl := r2.key hk
        obtain ⟨p, vs, rfl, q, _, rs⟩ := s1.dk rl.hp h1
        obtain ⟨w, e1, rw1⟩ := valV_get rs e
        exact .inr ⟨p, w, rfl, by rw [← e1]; exact DGet.rd q, fin_rep po5 rl ko rw1⟩
      · cases e
    · split at e
      · rename_i kk hk
        have hm' := hm rfl
        rw [hm'] at s2
        obtain ⟨b2, o2, rfl, q2, _, ⟨ws, rfl, rs2⟩, _⟩ := s2
        obtain rfl := rs2.keys hk
        obtain ⟨p, vs, rfl, q, _, rs⟩ := s1.dt rl.hp h1
        obtain ⟨w, e1, rw1⟩ := valV_get rs e
        exact .inr ⟨p, w, rfl, by rw [← e1]; exact .inr ⟨_, _, b2, q, rfl, q2, rfl⟩, fin_rep po5 rl ko rw1⟩
      · cases e
    · cases e
  cases h2 : y.slot env2 with
  | emp => rw [h2] at po2; exact po2.elim
  | own d2 => rw [h2] at po2; exact main d2 true (by unfold Opd.data; rw [h2]; rfl) (fun _ => h2) po2
  | val d2 => rw [h2] at po2; exact main d2 false (by unfold Opd.data; rw [h2]; rfl) (fun z => nomatch z) po2
end
end Fm
end

section
set_option Elab.async false
set_option linter.all false
set_option maxRecDepth 10000
set_option autoImplicit false
set_option maxHeartbeats 1000000
namespace Fm
open PySem L2
/-! slices -/
def partTO (X : Cx) : Option Expr → TO
  | none => tNoPart
  | some ax => tPart (EW X ax)
theorem po_part {X : Cx} {o : Option Expr} : PO X o (partTO X o) := by
  cases o with
  | none => exact po_none
  | some ax => exact po_some pe_W
inductive Pt (S : IE → Expr → Prop) : List IE → Option Expr → Prop where
  | none : Pt S [] none
  | some {e : IE} {ax : Expr} : S e ax → e.isStar = false → Pt S [e] (some ax)
section
variable {T : Wd} {P : Pg} {cl : Cl} {X : Cx} {W : WX} {k : Nat} {a b d : IE} {ax bx dx : Expr} {pos p2 : Pos}
theorem part_ok {es : List IE} {o : Option Expr} (h : Pt (Snd T P cl X W) es o) {c : Fr} {G : List SV} {env : Env} {σ : St} {H : Hp} {Q : Option Int → Hp → Prop} {K : Option Int × Env → Prop}
    (st : Stt T c G env σ H) (po : PX T c G (· = σ) W (part (evs P cl es env)) K) (k : ∀ l env1 H1, Stt T c G env1 σ H1 → K (l, env1) → Q l H1) : partTO X o σ H Q := by
  unfold part at po
  cases h with
  | none =>
    unfold evs at po
    exact k none env H st po
  | @some e ax hs hn =>
    rw [evs_cons P cl hn] at po
    rw [R.thn_thn] at po
    refine hs c G env σ H _ st (po.thn.mono ?_)
    rintro ⟨x, env1⟩ _ po1 v H1 st1 at1
    dsimp only at po1 st1
    unfold evs at po1
    have po2 : PX T c G (· = σ) W ((R.of (optI [x] env1)).bind fun l => R.ok (l, env1)) K := po1
    obtain ⟨l, e1, po3⟩ := PX.of2 po2
    replace e1 : (match Opd.data env1 x with | some (D.int i) => some (some i) | _ => none) = some l := e1
    split at e1
    · rename_i i hi
      cases e1
      exact ⟨i, Rep.int (Opd.rep st1 at1 hi tm_here), k _ env1 H1 st1.right po3⟩
    · cases e1
def rSlAll (K : PySem.W.Frag) : V → Option Int → Option Int → Hp → VK → Prop := fun x lo hi H Q => rSlL K x lo hi H Q ∨ rSlA K x lo hi H Q ∨ rSlS x lo hi H Q
theorem sl_all : SlR X (rSlAll X.K) := sl_list.or (sl_tupA.or sl_str)
theorem cut_rep {H : Hp} {ds : List D} {vs : List V} (r : Reps T H ds vs) (lo hi : Option Int) : Reps T H (cutD ds lo hi) (cutV vs lo hi) := by
  unfold cutD cutV
  rw [← r.len]
  exact (r.drop _).take _
theorem reps_ints {H : Hp} : ∀ (ns : List Int), Reps T H (ns.map .int) (ns.map V.int)
  | [] => rfl
  | n :: ns => ⟨_, _, rfl, rfl, reps_ints ns⟩
theorem SlOk.scr {c : Fr} {F H : Hp} {s : Slot} {v : V} {ns : List Int} (hp : Hps c F H) (h : SlOk T c F H s v) (e : s.data = some (.scr ns)) : ∃ a, v = .ref a ∧ SqL T.K H a (ns.map V.int) := by
  cases s with
  | emp => cases e
  | val d =>
    cases e
    obtain ⟨a, e1, q⟩ := h
    exact ⟨a, e1, hp.sub.sl q⟩
  | own d =>
    cases e
    obtain ⟨a, o, e1, q, _, f, _⟩ := h
    exact f.elim
theorem snd_sl {lo hi : List IE} {l h : Option Expr} (g : Gd T X W k) (ha : Snd T P cl X W a ax) (hl : Pt (Snd T P cl X W) lo l) (hh : Pt (Snd T P cl X W) hi h) : Snd T P cl X W (.sl a lo hi) (.Subscript ax (.Slice l h none p2) pos) := by
  intro c G env σ H Q st po
  unfold ev at po
  refine EW.of (pe_slice sl_all pe_W po_part po_part) (ha c G env σ H _ st (po.thn.mono ?_))
  rintro ⟨x, env1⟩ _ po1 v1 H1 st1 a1
  dsimp only at po1 st1
  refine part_ok hl st1 (PX.thn (PX.frame _ po1)) ?_
  intro li env2 H2 st2 po2
  refine part_ok hh st2 (PX.thn po2) ?_
  intro hi env3 H3 st3 po3
  dsimp only at po3
  cases h1 : x.data env3 with
  | none => rw [h1] at po3; exact po3.elim
  | some d1 =>
  rw [h1] at po3
  obtain ⟨r, e, po4⟩ := PX.of2 po3
  have po5 : KE T c G σ Q (r, env3) := po4
  obtain ⟨F, rl, ko⟩ := id st3
  have s1 := Opd.sl rl ko a1 h1 tm_here
  have r1 := s1.rep rl.hp h1
  unfold slD at e
  split at e
  · cases e
    obtain ⟨p, vs, rfl, q, rs⟩ := s1.lst rl.hp h1
    exact .inl ⟨p, vs, rfl, .inl q, fun p' hp' => fin_new po5 rl ko hp' ⟨_, rfl, cut_rep rs _ _⟩⟩
  · cases e
    obtain ⟨p, rfl, q⟩ := s1.scr rl.hp h1
    rw [← g.K] at q
    exact .inl ⟨p, _, rfl, q, fun p' hp' => fin_new po5 rl ko hp' ⟨_, rfl, cut_rep (reps_ints _) _ _⟩⟩
  · obtain ⟨p, vs, rfl, q, rs⟩ := s1.tup rl.hp h1
    have ll := rs.len
    rw [← g.K] at q
    refine .inr (.inl ⟨p, vs, rfl, q, fun hw => ?_, fun hw p' hp' => ?_⟩)
    · rw [← ll] at hw
      rw [if_pos hw] at e
      cases e
      exact po5 _ _ st3 a1
    · rw [← ll] at hw
      rw [if_neg hw] at e
      cases e
      exact fin_new po5 rl ko hp' ⟨_, rfl, cut_rep rs _ _⟩
  · obtain rfl := Rep.str r1
    split at e
    · rename_i hz
      cases e
      exact .inr (.inr ⟨_, rfl, big_le hz, fin_str po5 st3⟩)
    · cases e
  · cases e
end
end Fm
end

section
set_option Elab.async false
set_option linter.all false
set_option maxRecDepth 10000
set_option autoImplicit false
set_option maxHeartbeats 1000000
namespace Fm
open PySem L2
/-! sorted(xs), sorted(d): data of one shape -/
def rSrt (K : PySem.W.Frag) : List V → Hp → VK → Prop := fun xs H Q => ∃ (a : Addr) (ds : List PyData) (vs : List V), xs = [.ref a] ∧ (SqL K H a vs ∨ ∃ kvs : List (Key × V), Rd H a (.dK kvs) ∧ vs = kvs.map fun kv => kV kv.1) ∧
  DpAll K H vs ds ∧ W.AllAlike ds ∧ W.Sortable ds ∧ (∀ d ∈ ds, d.depth ≤ 60) ∧ ∀ p, H p = none → Q (.ref p) (upd H p (.lst (((ds.zip vs).mergeSort (W.dataLe false (·.1))).map (·.2))))
theorem each_reads {h : Heap} : ∀ {us : List Value} {ds : List PyData} {as : List Addr}, ReadsAll h us ds as → W.EachIs (fun v d => ∃ as, Reads h v d as) us ds
  | _, _, _, .nil => .nil
  | _, _, _, .cons r rs => .cons ⟨_, r⟩ (each_reads rs)
theorem each_vals : ∀ {ds : List PyData} {vs : List V} {us : List Value}, ds.length = vs.length → Vals vs us → W.EachIs (fun u (b : PyData × V) => RelV b.2 u) us (ds.zip vs)
  | [], [], _, _, .nil => .nil
  | d :: ds, v :: vs, _, l, .cons r rs => .cons r (each_vals (by simpa using l) rs)
  | [], _ :: _, _, l, _ => by cases l
  | _ :: _, [], _, l, _ => by cases l
theorem vals_each : ∀ {bs : List (PyData × V)} {us : List Value}, W.EachIs (fun u (b : PyData × V) => RelV b.2 u) us bs → Vals (bs.map (·.2)) us
  | _, _, .nil => .nil
  | _, _, .cons r rs => .cons r (vals_each rs)
theorem dpAll_len {K : PySem.W.Frag} {H : Hp} : ∀ {vs : List V} {ds : List PyData}, DpAll K H vs ds → ds.length = vs.length
  | _, _, .nil => rfl
  | _, _, .cons _ r => by rw [List.length_cons, List.length_cons, dpAll_len r]
section
variable {X : Cx}
theorem srt_out {pins : List (Addr × Obj)} {σ : St} {H : Hp} {s : Shared} {Q : VK} {ds : List PyData} {vs : List V} {its : List Value} {h' : Heap} {hs : Heap} {tk ep : Nat} {p : Addr} (I : Inv X pins σ H s) (l : ds.length = vs.length) (rv : Vals vs its) (hz : its.length ≤ sizeLine)
    (hal : W.AllAlike ds) (er : W.EachIs (fun v d => ∃ as, Reads hs v d as) its ds)
    (kp : ∀ b o, s.heap.get? b = some o → h'.get? b = some o) (hp : s.heap.objs.size ≤ p) (he : h'.get? p = some (PyProof.Rows.seqObj "list" (W.sortVals (W.dataKind hs ds) false its its).toArray ep))
    (q : ∀ p, H p = none → Q (.ref p) (upd H p (.lst (((ds.zip vs).mergeSort (W.dataLe false (·.1))).map (·.2))))) : EP X pins σ Q (.ref p) { s with heap := h', toks := tk } := by
  have e1 := each_vals l rv
  have e2 : W.EachIs (fun v d => (W.dataKind hs ds).keyOf v = some (W.keyToks d)) its ((ds.zip vs).map (·.1)) := by
    rw [List.map_fst_zip (by rw [l]; exact Nat.le_refl _)]
    exact W.each_keys hal er
  have e3 := W.sortVals_each (κ := W.dataKind hs ds) (rev := false) (fun b : PyData × V => W.keyToks b.1) e1 (W.each_of_map (R := fun v d => (W.dataKind hs ds).keyOf v = some (W.keyToks d)) (fun b : PyData × V => b.1) e2)
  have e4 := vals_each e3
  have e4' : Vals (((ds.zip vs).mergeSort (W.dataLe false (·.1))).map (·.2)) (W.sortVals (W.dataKind hs ds) false its its) := e4
  have ll : (((ds.zip vs).mergeSort (W.dataLe false (·.1))).map (·.2)).length ≤ sizeLine := by
    rw [List.length_map, List.length_mergeSort, List.length_zip, ← l, Nat.min_self, l, rv.length]
    exact hz
  exact ⟨.ref p, upd H p (.lst (((ds.zip vs).mergeSort (W.dataLe false (·.1))).map (·.2))), I.laid (t' := tk) kp hp ⟨ll, _, ep, e4', he⟩, rfl, q p (I.hok.fresh hp)⟩
theorem cr_sorted (hu : X.A.units + 80 < cLine) (hc : X.calm = true) : CallR X (.builtin "sorted") (rSrt X.K) := by
  intro pins s σ H xs us Q I r h
  obtain ⟨a, ds, vs, rfl, hs, hd, hal, hk, hdp, q⟩ := h
  obtain ⟨u, rfl, ru⟩ := vals1 r
  obtain rfl : u = Value.ref a := ru
  have hdep : ∀ d ∈ ds, X.A.in1.in1.units + d.depth < cLine := fun d m => by
    have := hdp d m
    show X.A.units + 1 + 1 + d.depth < cLine
    omega
  rcases hs with hs | ⟨kvs, hs, rfl⟩
  · obtain ⟨its, rv, hl, hz⟩ := I.list hs
    have hz' : its.length ≤ sizeLine := by rw [← rv.length]; exact hz
    have I1 : Inv X pins σ H { s with heap := W.sortingHeap (W.copyHeap s.heap its) (s.heap.objs.size + 1) its, toks := s.toks } := I.kept fun b o e => W.sorting_copy_old e
    obtain ⟨as, ra⟩ := Dp.readsAll I1 ds vs its hd rv
    obtain ⟨ep, he⟩ := PyProof.Rows.sortedAll_at s.heap its (W.sortVals (W.dataKind (W.sortingHeap (W.copyHeap s.heap its) (s.heap.objs.size + 1) its) ds) false its its).toArray
    exact W.sorted_vals hl.isList (W.SortsAt.data (s := { s with heap := W.sortingHeap (W.copyHeap s.heap its) (s.heap.objs.size + 1) its }) (each_reads ra) hal hk hdep) hz'
      (srt_out I (dpAll_len hd) rv hz' hal (each_reads ra) (fun b o e => PyProof.Rows.sortedAll_old e) (Nat.le_succ _) he q)
  · obtain ⟨z, lo, ws, rel, dd⟩ := dk_rd I.hok hs
    obtain ⟨ep, hat⟩ := dd.dictAt
    have ek : (kvs.map fun kv => kV kv.1) = ws.map fun p => kV p.1 := by
      have e := congrArg (List.map kV) rel.keys
      rw [List.map_map, List.map_map] at e
      exact e
    have h16 : ws.length ≤ sizeLine := by rw [← rel.length]; exact z
    refine Calls.call_function_entry PyProof.Rows.kind_sorted PyProof.Rows.plain_sorted PyProof.Rows.entry_sorted (PyProof.Rows.args_sorted1 _) ?_
    unfold Builtin.«sorted»
    refine wpAny_bind (m := checkCount "sorted" 1 1 _) (wpAny_pure ?_)
    refine wpAny_bind (W.kdu_collect (A := X.A.in1) (W.kdl_dict (knd := mixKind X.prog X.w) (kvs := ws) (ep := ep) lo) (I.ok.hd hc) hat h16 fun h' tk acc hk' hacc => ?_)
    have rv : Vals (kvs.map fun kv => kV kv.1) acc.toList := by
      rw [ek]
      exact keys_at (by rw [Array.length_toList]; exact hacc.1) fun j v e => hacc.2 j v (by rw [← Array.getElem?_toList]; exact e)
    have hz' : acc.toList.length ≤ sizeLine := by rw [Array.length_toList, hacc.1]; exact h16
    have I1 : Inv X pins σ H { s with heap := h', toks := tk } := I.kept hk'
    refine wpAny_bind (wpAny_newList ?_ hz')
    have hoL : (h'.push (PyProof.Rows.seqObj "list" acc.toList.toArray 0)).get? h'.objs.size = some (PyProof.Rows.seqObj "list" acc.toList.toArray 0) := Heap.get?_push_size _ rfl
    have kp2 : ∀ b o, h'.get? b = some o → (W.sortingHeap (h'.push (PyProof.Rows.seqObj "list" acc.toList.toArray 0)) h'.objs.size acc.toList).get? b = some o := fun b o e =>
      W.sortingHeap_old (Nat.ne_of_lt (Heap.lt_size e)) (Heap.get?_push_of_some _ e)
    have I2 : Inv X pins σ H { s with heap := W.sortingHeap (h'.push (PyProof.Rows.seqObj "list" acc.toList.toArray 0)) h'.objs.size acc.toList, toks := tk } := I1.kept (t' := tk) kp2
    obtain ⟨as, ra⟩ := Dp.readsAll I2 ds _ _ hd rv
    obtain ⟨e', he'⟩ := PyProof.Rows.sortedHeap_at (vs := acc.toList) (out := (W.sortVals (W.dataKind (W.sortingHeap (h'.push (PyProof.Rows.seqObj "list" acc.toList.toArray 0)) h'.objs.size acc.toList) ds) false acc.toList acc.toList).toArray) hoL
    show wpAny _ _ _ _ _ { s with heap := h'.push (PyProof.Rows.seqObj "list" acc.toList.toArray 0), toks := tk }
    refine wpAny_bind (wpAny_holding (wpAny_call_entry PyProof.Rows.slot_list_sort ⟨_, hoL, rfl⟩ PyProof.Rows.entry_list_sort
      (W.list_sort_vals (s := { s with heap := h'.push (PyProof.Rows.seqObj "list" acc.toList.toArray 0), toks := tk }) hoL
        (W.SortsAt.data (s := { s with heap := W.sortingHeap (h'.push (PyProof.Rows.seqObj "list" acc.toList.toArray 0)) h'.objs.size acc.toList, toks := tk }) (each_reads ra) hal hk hdep) hz' ⟨_, rfl, ?_⟩)
      (PyProof.Rows.args_list_sort _)))
    refine wpAny_pure ⟨_, rfl, srt_out (s := { s with heap := h', toks := tk }) (tk := tk) I1 (dpAll_len hd) rv hz' hal (each_reads ra) (fun b o e => ?_) (Nat.le_refl _) he' q⟩
    have hb : b < h'.objs.size := Heap.lt_size e
    rw [PyProof.Rows.sortedHeap_old (Nat.ne_of_lt hb) (by rw [show ({ s with heap := h'.push (PyProof.Rows.seqObj "list" acc.toList.toArray 0), toks := tk } : Shared).heap.objs.size = h'.objs.size + 1 from PyProof.Rows.size_push' ..]; exact Nat.lt_succ_of_lt hb)]
    exact Heap.get?_push_of_some _ e
end
end Fm
end

section
set_option Elab.async false
set_option linter.all false
set_option maxRecDepth 10000
set_option autoImplicit false
set_option maxHeartbeats 1000000
namespace Fm
open PySem L2
/-! calls of built-in functions and types -/
def NoSt : Expr → Bool
  | .Starred _ _ => false
  | _ => true
theorem noSt_each {e : Expr} {es : List Expr} {env : PySem.Env} (h : NoSt e = true) : starEach (e :: es) env = (false, eval e env) :: starEach es env := by
  cases e with
  | Starred _ _ => cases h
  | _ => rfl
structure Blt (X : Cx) (x : Str) (u : Value) : Prop where
  gl : Gl X x
  mg : X.mg x = none
  bt : bootBuiltins x = some u
def B1.nm : B1 → Str
  | .len => "len"
  | .int => "int"
  | .abs => "abs"
  | .sorted => "sorted"
  | .tuple => "tuple"
  | .list => "list"
  | .dict => "dict"
  | .all => "all"
def B1.val : B1 → Value
  | .len => .builtin "len"
  | .int => .type "int"
  | .abs => .builtin "abs"
  | .sorted => .builtin "sorted"
  | .tuple => .type "tuple"
  | .list => .type "list"
  | .dict => .type "dict"
  | .all => .builtin "all"
def B2.nm : B2 → Str
  | .max => "max"
  | .min => "min"
def B2.val : B2 → Value
  | .max => .builtin "max"
  | .min => .builtin "min"
section
variable {X : Cx} {ax bx : Expr} {te tf : TE} {p pos : Pos} {r : List V → Hp → VK → Prop}
theorem pa_one (ha : PE X ax te) (h : NoSt ax = true) : PA X [ax] (tCons te tNil) := pa_cons ha pa_nil (noSt_each h)
theorem pe_b1 {f : B1} (hc : CallR X f.val r) (hb : Blt X f.nm f.val) (ha : PE X ax te) (h : NoSt ax = true) : PE X (.Call (.Name f.nm p) [ax] [] pos) (tCB r (tCons te tNil)) := by
  cases f with
  | len => exact pe_callB hc hb.gl hb.mg hb.bt (pa_one ha h) (by decide) (by decide) (noSt_each h)
  | int => exact pe_callTy hc hb.gl hb.mg hb.bt (pa_one ha h) (by decide) (by decide) (noSt_each h)
  | abs => exact pe_callB hc hb.gl hb.mg hb.bt (pa_one ha h) (by decide) (by decide) (noSt_each h)
  | sorted => exact pe_callB hc hb.gl hb.mg hb.bt (pa_one ha h) (by decide) (by decide) (noSt_each h)
  | tuple => exact pe_callTy hc hb.gl hb.mg hb.bt (pa_one ha h) (by decide) (by decide) (noSt_each h)
  | list => exact pe_callTy hc hb.gl hb.mg hb.bt (pa_one ha h) (by decide) (by decide) (noSt_each h)
  | dict => exact pe_callTy hc hb.gl hb.mg hb.bt (pa_one ha h) (by decide) (by decide) (noSt_each h)
  | all => exact pe_callB hc hb.gl hb.mg hb.bt (pa_one ha h) (by decide) (by decide) (noSt_each h)
theorem noSt_pl {e : Expr} {env : PySem.Env} {pos : Pos} (h : NoSt e = true) : (backTo pos (starEach [e] env)).any (·.1) = false := by
  rw [noSt_each h]
  rfl
theorem pe_b2 {f : B2} (hc : CallR X f.val r) (hb : Blt X f.nm f.val) (ha : PE X ax te) (hb' : PE X bx tf) (h : NoSt ax = true) (h' : NoSt bx = true) : PE X (.Call (.Name f.nm p) [ax, bx] [] pos) (tCB r (tCons te (tCons tf tNil))) := by
  cases f with
  | max => exact pe_callB hc hb.gl hb.mg hb.bt (pa_cons ha (pa_one hb' h') (noSt_each h)) (by decide) (by decide) (noSt_each h) (noSt_pl h')
  | min => exact pe_callB hc hb.gl hb.mg hb.bt (pa_cons ha (pa_one hb' h') (noSt_each h)) (by decide) (by decide) (noSt_each h) (noSt_pl h')
theorem call_lenDk : CallR X (.builtin "len") (fun xs H Q => ∃ (a : Addr) (kvs : List (Key × V)), xs = [.ref a] ∧ Rd H a (.dK kvs) ∧ Q (.int kvs.length) H) := by
  intro pins s σ H xs us Q I r h
  obtain ⟨a, kvs, rfl, e, q⟩ := h
  obtain ⟨u, rfl, ru⟩ := vals1 r
  obtain rfl : u = Value.ref a := ru
  exact d_len I e fun t s' I' => ⟨.int _, H, I', ⟨t, rfl⟩, q⟩
end
theorem allB_ok {T : Wd} {H : Hp} : ∀ {ds : List D} {vs : List V} {b : Bool}, Reps T H ds vs → allB ds = some b → ∃ bs : List Bool, vs = bs.map V.bl ∧ bs.all id = b
  | [], vs, b, r, e => by
    obtain rfl : vs = [] := r
    unfold allB at e; cases e
    exact ⟨[], rfl, rfl⟩
  | d :: ds, vs, b, r, e => by
    obtain ⟨v, vs', rfl, q, qs⟩ := r
    cases d with
    | bl k =>
      unfold allB at e
      obtain ⟨b', e', rfl⟩ := Option.map_eq_some_iff.mp e
      obtain ⟨bs, rfl, rfl⟩ := allB_ok qs e'
      obtain rfl : v = .bl k := q
      exact ⟨k :: bs, rfl, rfl⟩
    | _ => unfold allB at e; cases e
/-! sorted lists, by value -/
theorem pys_get : ∀ {ds : List D} {ps : List PyData}, D.pys ds = some ps → ps.length = ds.length ∧ ∀ (i : Nat) (d : D), ds[i]? = some d → ∃ p, ps[i]? = some p ∧ d.py = some p
  | [], ps, e => by
    unfold D.pys at e; cases e
    exact ⟨rfl, fun i d h => by simp at h⟩
  | x :: ds, ps, e => by
    unfold D.pys at e
    split at e
    · rename_i p ps' e1 e2
      cases e
      obtain ⟨l, g⟩ := pys_get e2
      refine ⟨by simp [l], fun i d h => ?_⟩
      cases i with
      | zero => simp at h; subst h; exact ⟨p, rfl, e1⟩
      | succ i => simpa using g i d (by simpa using h)
    · cases e
theorem pys_zip : ∀ {ds : List D} {ps : List PyData}, D.pys ds = some ps → ∀ q ∈ ds.zip ps, q.1.py = some q.2
  | [], ps, e, q, h => by cases h
  | x :: ds, ps, e, q, h => by
    unfold D.pys at e
    split at e
    · rename_i p ps' e1 e2
      cases e
      rw [List.zip_cons_cons] at h
      rcases List.mem_cons.mp h with rfl | h
      · exact e1
      · exact pys_zip e2 q h
    · cases e
/-- three lists in a row -/
def zip3 : List D → List PyData → List V → List (D × PyData × V)
  | d :: ds, p :: ps, v :: vs => (d, p, v) :: zip3 ds ps vs
  | _, _, _ => []
theorem zip3_map : ∀ {ds : List D} {ps : List PyData} {vs : List V}, ds.length = ps.length → ds.length = vs.length → (zip3 ds ps vs).map (·.1) = ds ∧ (zip3 ds ps vs).map (·.2) = ps.zip vs
  | [], [], [], _, _ => ⟨rfl, rfl⟩
  | d :: ds, p :: ps, v :: vs, h, h' => by
    obtain ⟨a, b⟩ := zip3_map (ds := ds) (ps := ps) (vs := vs) (by simpa using h) (by simpa using h')
    exact ⟨by unfold zip3; rw [List.map_cons, a], by unfold zip3; rw [List.map_cons, b]; rfl⟩
  | [], _ :: _, _, h, _ => by cases h
  | [], [], _ :: _, _, h => by cases h
  | _ :: _, [], _, h, _ => by cases h
  | _ :: _, _ :: _, [], _, h => by cases h
theorem zip3_mem {T : Wd} {H : Hp} : ∀ {ds : List D} {ps : List PyData} {vs : List V}, D.pys ds = some ps → Reps T H ds vs → ∀ q ∈ zip3 ds ps vs, q.1.py = some q.2.1 ∧ Rep T H q.1 q.2.2
  | [], _, _, _, _, q, h => by unfold zip3 at h; cases h
  | d :: ds, ps, vs, e, r, q, h => by
    obtain ⟨v, vs', rfl, r1, rs⟩ := r
    unfold D.pys at e
    split at e
    · rename_i p ps' e1 e2
      cases e
      unfold zip3 at h
      rcases List.mem_cons.mp h with rfl | h
      · exact ⟨e1, r1⟩
      · exact zip3_mem e2 rs q h
    · cases e
theorem reps_of {T : Wd} {H : Hp} : ∀ (l : List (D × PyData × V)), (∀ q ∈ l, Rep T H q.1 q.2.2) → Reps T H (l.map (·.1)) (l.map (·.2.2))
  | [], _ => rfl
  | q :: l, h => ⟨_, _, rfl, h q List.mem_cons_self, reps_of l fun x m => h x (List.mem_cons_of_mem _ m)⟩
theorem sort_rep {T : Wd} {H : Hp} {ds : List D} {ps : List PyData} {vs : List V} (e : D.pys ds = some ps) (r : Reps T H ds vs) : Reps T H (sortD ds) (((ps.zip vs).mergeSort (W.dataLe false (·.1))).map (·.2)) := by
  have l1 := (pys_get e).1
  have l2 := r.len
  obtain ⟨m1, m2⟩ := zip3_map (ds := ds) (ps := ps) (vs := vs) l1.symm l2
  have hm := zip3_mem e r
  let le3 : D × PyData × V → D × PyData × V → Bool := fun a b => W.dataLe false (fun d : PyData => d) a.2.1 b.2.1
  have k1 : (List.mergeSort (zip3 ds ps vs) le3).map (·.1) = sortD ds := by
    unfold sortD
    conv => rhs; rw [← m1]
    refine List.map_mergeSort fun a ha b hb => ?_
    have e1 := (hm a ha).1
    have e2 := (hm b hb).1
    show W.dataLe false (fun d : PyData => d) a.2.1 b.2.1 = leD a.1 b.1
    unfold leD
    rw [e1, e2]
  have k2 : (List.mergeSort (zip3 ds ps vs) le3).map (·.2) = (ps.zip vs).mergeSort (W.dataLe false (·.1)) := by
    rw [← m2]
    exact List.map_mergeSort fun a ha b hb => rfl
  rw [← k1, ← k2, List.map_map]
  refine reps_of _ fun q hq => (hm q ?_).2
  exact (List.mergeSort_perm _ _).mem_iff.mp hq
theorem sortable_ok {ds : List D} (h : sortable ds = true) : ∃ ps, D.pys ds = some ps ∧ W.AllAlike ps ∧ W.Sortable ps ∧ ∀ p ∈ ps, p.depth ≤ 60 := by
  unfold sortable at h
  split at h
  · rename_i ps e
    rw [Bool.and_eq_true, Bool.and_eq_true, Bool.or_eq_true] at h
    obtain ⟨⟨h1, h2⟩, h3⟩ := h
    refine ⟨ps, e, fun d hd d' hd' => List.all_eq_true.mp (List.all_eq_true.mp h1 d hd) d' hd', ?_, fun p hp => of_decide_eq_true (List.all_eq_true.mp h3 p hp)⟩
    rcases h2 with h2 | h2
    · left
      intro d hd
      have := List.all_eq_true.mp h2 d hd
      unfold tup1 at this
      split at this
      · exact ⟨_, _, rfl⟩
      · cases this
    · right
      intro d hd
      have := List.all_eq_true.mp h2 d hd
      unfold noTup at this
      split at this
      · cases this
      · cases this
      · rename_i n1 n2
        exact ⟨n2, n1⟩
  · cases h
theorem keys_map {T : Wd} {H : Hp} : ∀ (ks : List Key), Reps T H (ks.map Key.d) (ks.map kV)
  | [] => rfl
  | .inl i :: ks => ⟨_, _, rfl, rfl, keys_map ks⟩
  | .inr i :: ks => ⟨_, _, rfl, rfl, keys_map ks⟩
theorem zip_keys {ks : List Key} {vs : List V} (l : ks.length = vs.length) : ((ks.zip vs).map fun kv => kV kv.1) = ks.map kV := by
  have : ((ks.zip vs).map (·.1)) = ks := List.map_fst_zip (by rw [l]; exact Nat.le_refl _)
  conv => rhs; rw [← this]
  rw [List.map_map]
  rfl
end Fm
end

section
set_option Elab.async false
set_option linter.all false
set_option maxRecDepth 10000
set_option autoImplicit false
set_option maxHeartbeats 1000000
namespace Fm
open PySem L2
section
variable {T : Wd} {P : Pg} {cl : Cl} {X : Cx} {W : WX} {k : Nat} {a b d : IE} {ax bx dx : Expr} {p pos : Pos}
theorem units80 {j : Nat} {A : Around} (r : Room j A) : A.units + 80 < cLine := by have := r.un; omega
theorem snd_b1 {f : B1} (g : Gd T X W k) (hb : Blt X f.nm f.val) (ha : Snd T P cl X W a ax) (hs : NoSt ax = true) : Snd T P cl X W (.b1 f a) (.Call (.Name f.nm p) [ax] [] pos) := by
  intro c G env σ H Q st po
  unfold ev at po
  refine EW.of (pe_b1 call_W hb pe_W hs) (ha c G env σ H _ st (po.thn.mono ?_))
  rintro ⟨x, env1⟩ _ po1 v1 H1 st1 a1
  dsimp only at po1 st1
  show CW X f.val [v1] H1 Q
  cases h1 : x.data env1 with
  | none => rw [h1] at po1; exact po1.elim
  | some d1 =>
  rw [h1] at po1
  obtain ⟨r, e, po2⟩ := PX.of2 po1
  have po3 : KE T c G σ Q (r, env1) := po2
  obtain ⟨F, rl, ko⟩ := id st1
  have s1 := Opd.sl rl ko a1 h1 tm_here
  have r1 := s1.rep rl.hp h1
  unfold b1D at e
  split at e
  · cases e
    obtain ⟨q, vs, rfl, hq, rs⟩ := s1.lst rl.hp h1
    refine CW.of call_len ⟨_, _, rfl, .inl ⟨vs, .inl hq, rfl⟩, ?_⟩
    rw [← rs.len]
    exact fin_int po3 st1
  · cases e
    obtain ⟨q, vs, rfl, hq, rs⟩ := s1.tup rl.hp h1
    rw [← g.K] at hq
    refine CW.of call_len ⟨_, _, rfl, .inr ⟨vs, hq, rfl⟩, ?_⟩
    rw [← rs.len]
    exact fin_int po3 st1
  · obtain rfl := Rep.str r1
    split at e
    · rename_i hz
      cases e
      exact CW.of call_len ⟨_, _, rfl, ⟨big_le hz, rfl⟩, fin_int po3 st1⟩
    · cases e
  · cases e
    obtain ⟨q, vs, rfl, hq, ⟨l, _⟩, rs⟩ := s1.dk rl.hp h1
    refine CW.of call_lenDk ⟨_, _, rfl, hq, ?_⟩
    rw [List.length_zip, ← l, Nat.min_self]
    exact fin_int po3 st1
  · cases e
    obtain rfl := Rep.int r1
    exact CW.of call_int1 (.inl ⟨_, rfl, fin_int po3 st1⟩)
  · cases e
    obtain rfl := Rep.bl r1
    exact CW.of call_int1 (.inr ⟨_, rfl, fin_int po3 st1⟩)
  · cases e
    obtain rfl := Rep.int r1
    exact CW.of call_abs ⟨_, rfl, fin_int po3 st1⟩
  · split at e
    · rename_i hso
      cases e
      obtain ⟨q, vs, rfl, hq, rs⟩ := s1.lst rl.hp h1
      obtain ⟨ps, e1, h2, h3, h4⟩ := sortable_ok hso
      refine CW.of (cr_sorted (units80 g.room) g.calm) ⟨q, ps, vs, rfl, .inl (.inl hq), ?_, h2, h3, h4, fun p' hp' => fin_new po3 rl ko hp' ⟨_, rfl, sort_rep e1 rs⟩⟩
      rw [g.K]
      exact Reps.dp _ _ _ (Reps.mono rl.hp.sub _ _ rs) e1
    · cases e
  · split at e
    · rename_i hso
      cases e
      obtain ⟨q, vs, rfl, hq, ⟨l, _⟩, rs⟩ := s1.dk rl.hp h1
      obtain ⟨ps, e1, h2, h3, h4⟩ := sortable_ok hso
      refine CW.of (cr_sorted (units80 g.room) g.calm) ⟨q, ps, _, rfl, .inr ⟨_, hq, rfl⟩, ?_, h2, h3, h4, fun p' hp' => ?_⟩
      · rw [g.K, zip_keys l]
        exact Reps.dp _ _ _ (keys_map _) e1
      · rw [zip_keys l]
        exact fin_new po3 rl ko hp' ⟨_, rfl, sort_rep e1 (keys_map _)⟩
    · cases e
  · cases e
    obtain ⟨q, vs, rfl, hq, rs⟩ := s1.lst rl.hp h1
    exact CW.of call_tuple_of ⟨q, vs, rfl, .inl ⟨.inl hq, fun p' hp' => fin_new po3 rl ko hp' ⟨_, rfl, rs⟩⟩⟩
  · cases e
    obtain ⟨q, vs, rfl, hq, rs⟩ := s1.tup rl.hp h1
    rw [← g.K] at hq
    exact CW.of call_tuple_of ⟨q, vs, rfl, .inr ⟨hq, po3 _ _ st1 a1⟩⟩
  · cases e
    obtain ⟨q, vs, rfl, hq, rs⟩ := s1.lst rl.hp h1
    exact CW.of call_list_of ⟨q, vs, rfl, .inl (.inl hq), fun p' hp' => fin_new po3 rl ko hp' ⟨_, rfl, rs⟩⟩
  · cases e
    obtain ⟨q, vs, rfl, hq, rs⟩ := s1.tup rl.hp h1
    rw [← g.K] at hq
    exact CW.of call_list_of ⟨q, vs, rfl, .inr hq, fun p' hp' => fin_new po3 rl ko hp' ⟨_, rfl, rs⟩⟩
  · cases e
    obtain ⟨q, vs, rfl, hq, l, rs⟩ := s1.dk rl.hp h1
    exact CW.of call_dictD ⟨q, _, rfl, hq, fun p' hp' => fin_new po3 rl ko hp' ⟨_, rfl, l, rs⟩⟩
  · obtain ⟨b, e1, rfl⟩ := Option.map_eq_some_iff.mp e
    obtain ⟨q, vs, rfl, hq, rs⟩ := s1.lst rl.hp h1
    obtain ⟨bs, rfl, rfl⟩ := allB_ok rs e1
    exact CW.of (cr_all g.calm) ⟨q, bs, rfl, .inl hq, fin_bl po3 st1⟩
  · cases e
theorem two_args (ha : Snd T P cl X W a ax) (hb : Snd T P cl X W b bx) {c : Fr} {G : List SV} {env : Env} {σ : St} {H : Hp} {α : Type} {K : α → Prop} {f : Opd → Opd → Env → R α} {R : List V → Hp → Prop}
    (st : Stt T c G env σ H) (po : PX T c G (· = σ) W ((ev P cl a env).thn fun x env1 => (ev P cl b env1).thn fun y env2 => f x y env2) K)
    (k : ∀ x y env2 v1 v2 H2, Stt T c ((y.tm v2 ++ x.tm v1) ++ G) env2 σ H2 → x.at σ v1 → y.at σ v2 → PX T c G (· = σ) W (f x y env2) K → R [v1, v2] H2) :
    tCons (EW X ax) (tCons (EW X bx) tNil) σ H R := two ha hb (R := fun v1 v2 H2 => R [v1, v2] H2) st po k
end
end Fm
end

section
set_option Elab.async false
set_option linter.all false
set_option maxRecDepth 10000
set_option autoImplicit false
set_option maxHeartbeats 1000000
namespace Fm
open PySem L2
/-! max(x, y), min(x, y) of texts -/
section
variable {prog : Program} {w : World} {A : Around} {E : Value → Shared → Prop} {s : Shared}
/-- which text stands at a place -/
def txAt (x y : Str) (i : Nat) : Str := if i = 0 then x else y
theorem tx_at {x y : Str} {t u : Tok} {i : Nat} {v : Value} (h : (#[Value.str x t, Value.str y u] : Array Value)[i]? = some v) : ∃ t', v = .str (txAt x y i) t' := by
  match i, h with
  | 0, h =>
    have e : Value.str x t = v := Option.some.inj h
    exact ⟨t, e.symm⟩
  | 1, h =>
    have e : Value.str y u = v := Option.some.inj h
    exact ⟨u, e.symm⟩
  | i + 2, h => simp at h
def txGt (x y : Str) (i j : Nat) : Bool := decide ((txAt x y j).cps.toList < (txAt x y i).cps.toList)
def txLt (x y : Str) (i j : Nat) : Bool := decide ((txAt x y i).cps.toList < (txAt x y j).cps.toList)
theorem tx_gt {x y : Str} {t u : Tok} : CmpOf prog w A .Gt (fun i v => (#[Value.str x t, Value.str y u] : Array Value)[i]? = some v) (txGt x y) := by
  intro i j vi vj s Q E hi hj q
  obtain ⟨t1, rfl⟩ := tx_at hi
  obtain ⟨t2, rfl⟩ := tx_at hj
  exact PySem.P.gt_str (prog := prog) (w := w) q
theorem tx_lt {x y : Str} {t u : Tok} : CmpOf prog w A .Lt (fun i v => (#[Value.str x t, Value.str y u] : Array Value)[i]? = some v) (txLt x y) := by
  intro i j vi vj s Q E hi hj q
  obtain ⟨t1, rfl⟩ := tx_at hi
  obtain ⟨t2, rfl⟩ := tx_at hj
  exact PySem.P.lt_str (prog := prog) (w := w) q
/-- the two stand in a tuple of their own, which is walked -/
theorem pairWalk {bt : Nat → Nat → Bool} {op : CmpOp} {x y : Str} {t u : Tok} {Q : Value → Shared → Prop} (hh : A.handled = none) (hc : CmpOf prog w A.in1 op (fun i v => (#[Value.str x t, Value.str y u] : Array Value)[i]? = some v) bt)
    (h : ∀ h' tk t', (∀ c o, s.heap.get? c = some o → h'.get? c = some o) → Q (.str (if bt 1 0 = true then y else x) t') { s with heap := h', toks := tk }) :
    wpAny (model prog w) A.in1 (pyIter (.ref s.heap.objs.size)) (fun it s₂ => ∃ I fp wr n P St bt, it = .ref I ∧ Walks prog w A.in1 I fp wr n P St ∧ St 0 s₂.heap ∧ (∀ b ∈ fp, b < s₂.heap.objs.size) ∧ 0 < n ∧ CmpOf prog w A.in1 op P bt ∧
      ∀ v h' tk, P (argBest bt (n - 1)) v → (∀ b o, b ∉ wr → s₂.heap.get? b = some o → h'.get? b = some o) → Q v { s₂ with heap := h', toks := tk }) E
      { s with heap := s.heap.push { cls := .type "tuple", data := .seq #[Value.str x t, Value.str y u] } } := by
  have g0 : (s.heap.push { cls := .type "tuple", data := .seq #[Value.str x t, Value.str y u] }).IsTuple s.heap.objs.size #[Value.str x t, Value.str y u] := ⟨_, Heap.get?_push_size _ rfl, rfl, 0, rfl⟩
  have g1 : (s.heap.push { cls := .type "tuple", data := .seq #[Value.str x t, Value.str y u] }).objs.size = s.heap.objs.size + 1 := Heap.size_push ..
  have hw := Walks.tuple (prog := prog) (w := w) (A := A.in1) hh (s.heap.push { cls := .type "tuple", data := .seq #[Value.str x t, Value.str y u] }).objs.size s.heap.objs.size (by rw [g1]; exact Nat.ne_of_lt (Nat.lt_succ_self _)) #[Value.str x t, Value.str y u]
  refine wpAny_pyIter_tuple g0 ⟨_, [_, s.heap.objs.size], [_], _, _, _, bt, rfl, hw, ⟨⟨_, Heap.get?_push_size _ rfl, rfl, rfl⟩, g0.push _⟩, fun c hc' => ?_, Nat.succ_pos 1, hc, fun v h' tk hP hk => ?_⟩
  · rw [Heap.size_push, g1]
    rcases List.mem_cons.mp hc' with e | hc'
    · rw [e, g1]; exact Nat.lt_succ_self _
    · rcases List.mem_cons.mp hc' with e | hc'
      · rw [e]; exact Nat.lt_succ_of_lt (Nat.lt_succ_self _)
      · cases hc'
  · have old : ∀ c o, s.heap.get? c = some o → h'.get? c = some o := fun c o e => by
      refine hk c o (fun hm => ?_) (Heap.get?_push_of_some _ (Heap.get?_push_of_some _ e))
      have hl := Heap.lt_size e
      rcases List.mem_cons.mp hm with e1 | hm
      · rw [e1, g1] at hl
        exact Nat.lt_irrefl _ (Nat.lt_of_succ_lt hl)
      · cases hm
    have ha : argBest bt ((#[Value.str x t, Value.str y u] : Array Value).size - 1) = if bt 1 0 = true then 1 else 0 := rfl
    rw [ha] at hP
    by_cases hb : bt 1 0 = true
    · rw [if_pos hb] at hP
      obtain ⟨t', rfl⟩ := tx_at hP
      have := h h' tk t' old
      rw [if_pos hb] at this
      exact this
    · rw [if_neg hb] at hP
      obtain ⟨t', rfl⟩ := tx_at hP
      have := h h' tk t' old
      rw [if_neg hb] at this
      exact this
theorem max_tx {x y : Str} {t u : Tok} {Q : Value → Shared → Prop} (hh : A.handled = none)
    (h : ∀ h' tk t', (∀ c o, s.heap.get? c = some o → h'.get? c = some o) → Q (.str (if x.cps.toList < y.cps.toList then y else x) t') { s with heap := h', toks := tk }) :
    wpAny (model prog w) A (call (.builtin "max") [.str x t, .str y u]) Q E s := by
  refine call_max_two (pairWalk hh tx_gt fun h' tk t' k => ?_)
  have := h h' tk t' k
  have e : (txGt x y 1 0 = true) = (x.cps.toList < y.cps.toList) := by
    show (decide _ = true) = _
    rw [decide_eq_true_eq]
    rfl
  simp only [e]
  exact this
theorem min_tx {x y : Str} {t u : Tok} {Q : Value → Shared → Prop} (hh : A.handled = none)
    (h : ∀ h' tk t', (∀ c o, s.heap.get? c = some o → h'.get? c = some o) → Q (.str (if y.cps.toList < x.cps.toList then y else x) t') { s with heap := h', toks := tk }) :
    wpAny (model prog w) A (call (.builtin "min") [.str x t, .str y u]) Q E s := by
  refine call_min_two (pairWalk hh tx_lt fun h' tk t' k => ?_)
  have := h h' tk t' k
  have e : (txLt x y 1 0 = true) = (y.cps.toList < x.cps.toList) := by
    show (decide _ = true) = _
    rw [decide_eq_true_eq]
    rfl
  simp only [e]
  exact this
end
section
variable {X : Cx}
theorem call_b2s (hc : X.calm = true) (f : B2) : CallR X f.val fun xs H Q => ∃ i j : Str, xs = [.str i, .str j] ∧ Q (.str (match f with | .max => if i.cps.toList < j.cps.toList then j else i | .min => if j.cps.toList < i.cps.toList then j else i)) H := by
  intro pins s σ H xs us Q I r h
  obtain ⟨i, j, rfl, q⟩ := h
  obtain ⟨u, w', rfl, ⟨t, rfl⟩, ⟨t', rfl⟩⟩ := vals2 r
  cases f with
  | max => exact max_tx (I.ok.hd hc) fun h' tk t' k => ⟨.str _, H, I.kept k, ⟨t', rfl⟩, q⟩
  | min => exact min_tx (I.ok.hd hc) fun h' tk t' k => ⟨.str _, H, I.kept k, ⟨t', rfl⟩, q⟩
end
section
variable {T : Wd} {P : Pg} {cl : Cl} {X : Cx} {W : WX} {k : Nat} {a b d : IE} {ax bx dx : Expr} {p pos : Pos}
theorem snd_b2 {f : B2} (g : Gd T X W k) (hbl : Blt X f.nm f.val) (ha : Snd T P cl X W a ax) (hb : Snd T P cl X W b bx) (hs : NoSt ax = true) (hs' : NoSt bx = true) :
    Snd T P cl X W (.b2 f a b) (.Call (.Name f.nm p) [ax, bx] [] pos) := by
  intro c G env σ H Q st po
  unfold ev at po
  refine EW.of (pe_b2 call_W hbl pe_W pe_W hs hs') (two_args ha hb (R := fun xs H2 => CW X f.val xs H2 Q) st po fun x y env2 v1 v2 H2 st2 a1 a2 po2 => ?_)
  cases hx : x.data env2 with
  | none => rw [hx] at po2; exact po2.elim
  | some d1 =>
  cases hy : y.data env2 with
  | none => rw [hx, hy] at po2; exact po2.elim
  | some d2 =>
  rw [hx, hy] at po2
  obtain ⟨r, e, po3⟩ := PX.of2 po2
  have po4 : KE T c G σ Q (.tmp (.val r), env2) := po3
  have r1 := Opd.rep st2 a1 hx fun p h => List.mem_append_left _ (List.mem_append_right _ h)
  have r2 := Opd.rep st2 a2 hy fun p h => List.mem_append_left _ (List.mem_append_left _ h)
  unfold b2D at e
  split at e
  · obtain rfl := Rep.int r1; obtain rfl := Rep.int r2; cases e
    exact CW.of (call_max2 g.calm) ⟨_, _, rfl, fin_int po4 st2⟩
  · obtain rfl := Rep.int r1; obtain rfl := Rep.int r2; cases e
    exact CW.of (call_min2 g.calm) ⟨_, _, rfl, fin_int po4 st2⟩
  · obtain rfl := Rep.str r1; obtain rfl := Rep.str r2; cases e
    exact CW.of (call_b2s g.calm _) ⟨_, _, rfl, fin_str po4 st2⟩
  · obtain rfl := Rep.str r1; obtain rfl := Rep.str r2; cases e
    exact CW.of (call_b2s g.calm _) ⟨_, _, rfl, fin_str po4 st2⟩
  · cases e
end
end Fm
end

section
set_option Elab.async false
set_option linter.all false
set_option maxRecDepth 10000
set_option autoImplicit false
set_option maxHeartbeats 1000000
namespace Fm
open PySem L2
/-! isinstance -/
/-- a datum's built-in type -/
def D.ty : D → String
  | .non => "NoneType"
  | .bl _ => "bool"
  | .int _ => "int"
  | .str _ => "str"
  | .lst _ => "list"
  | .tup _ => "tuple"
  | _ => "dict"
def tys : List String := ["NoneType", "bool", "int", "str", "list", "tuple", "dict"]
theorem ty_mem (d : D) : d.ty ∈ tys := by
  cases d <;> simp [D.ty, tys]
def Cls.tn : Cls → String
  | .int => "int"
  | .bool => "bool"
  | .str => "str"
  | .dict => "dict"
  | .list => "list"
  | .tuple => "tuple"
  | .own _ => ""
def Cls.val (T : Wd) : Cls → Value
  | .own m => .ref (T.cls m)
  | c => .type c.tn
structure IsO (T : Wd) (m : Nat) : Prop where
  cl : L2.Cls T.K (T.cls m)
  ha : W.findIn T.K (.ref (T.cls m)) "__class__" = some (some (.builtin "object.__class__"))
  hn : W.specialIn T.K (.builtin "object.__class__") "__get__" = some (some (.builtin "getset_descriptor.__get__"))
  ht : W.takesIn T.K (.builtin "object.__class__") = some true
  hm : W.mroIn T.K (T.cls m) (.type "object") = some true
  no : ∀ n ∈ tys, W.kitOne T.K (.type n) (.ref (T.cls m)) = some false
def IsC (T : Wd) (X : Cx) (x : Str) : Cls → Prop
  | .own m => Gl X x ∧ X.mg x = some (.ref (T.cls m)) ∧ IsO T m
  | c => Blt X x (.type c.tn)
def tyB (d : D) (c : Cls) : Option Bool := match d, c with
  | .ins k _ _, .own m => if k = m then some true else none
  | .ins _ _ _, _ => none
  | .dt _ _, _ => none
  | .scr _, _ => none
  | .lk _ _, _ => none
  | _, .own _ => some false
  | d, c => kitB d.ty c.tn
theorem tyB_eq (d : D) (c : Cls) : isiD d c = tyB d c := by
  cases d <;> cases c <;> first | rfl | decide +kernel
theorem frz_ty {K : W.Frag} {H : Hp} {a : Addr} {xs : List V} (h : SqT K H a xs) : TyX K H (.ref a) (.type "tuple") := by
  rcases h with (h | ⟨o, h⟩) | ⟨o, _, _, e, c, _⟩
  · exact .base (.tup h)
  · exact .fTuple h
  · exact .kTuple e c
theorem rd_ty {K : W.Frag} {H : Hp} {a : Addr} {xs : List V} (h : Rd H a (.lst xs)) : TyX K H (.ref a) (.type "list") := by
  rcases h with h | ⟨o, h⟩
  · exact .base (.lst h)
  · exact .base (.frz h)
theorem dk_ty {K : W.Frag} {H : Hp} {a : Addr} {kvs : List (Key × V)} (h : Rd H a (.dK kvs)) : TyX K H (.ref a) (.type "dict") := by
  rcases h with h | ⟨o, h⟩
  · exact .base (.dK h)
  · exact .fDict h
section
variable {T : Wd} {P : Pg} {cl : Cl} {X : Cx} {W : WX} {k : Nat} {a b d : IE} {ax bx dx : Expr} {p p2 pos : Pos}
theorem kit_same {K : PySem.W.Frag} {C : Addr} : PySem.W.kitOne K (.ref C) (.ref C) = some true := by
  unfold PySem.W.kitOne
  rw [if_pos]
  first
    | exact beq_self_eq_true (Value.ref C)
    | rfl
    | (unfold BEq.beq; simp)
    | simp
/-- what isinstance's rule asks, by data -/
theorem isi_ok {H : Hp} {dd : D} {c : Cls} {v : V} {r : Bool} (h : Rep T H dd v) (e : isiD dd c = some r) (ho : ∀ m, c = .own m → IsO T m) :
    ∃ t, TyX T.K H v t ∧ PySem.W.kitOne T.K t (c.val T) = some r := by
  rw [tyB_eq] at e
  have base : ∀ {u : String}, u = dd.ty → TyX T.K H v (.type u) → (match dd, c with | .ins _ _ _, _ => False | .dt _ _, _ => False | .scr _, _ => False | .lk _ _, _ => False | _, _ => True) → ∃ t, TyX T.K H v t ∧ PySem.W.kitOne T.K t (c.val T) = some r := by
    intro u hu ht hn
    refine ⟨_, ht, ?_⟩
    subst hu
    cases c with
    | own m =>
      have : r = false := by
        cases dd <;> first | exact hn.elim | (exact (Option.some.inj e).symm)
      rw [this]
      exact (ho m rfl).no _ (ty_mem dd)
    | _ => cases dd <;> first | exact hn.elim | exact kit_ty e
  cases dd with
  | non => obtain rfl : v = .non := h; exact base rfl (.base .non) trivial
  | bl b => obtain rfl : v = .bl b := h; exact base rfl (.base (.bl b)) trivial
  | int b => obtain rfl : v = .int b := h; exact base rfl (.base (.int b)) trivial
  | str b => obtain rfl : v = .str b := h; exact base rfl (.base (.str b)) trivial
  | lst _ => obtain ⟨a, vs, rfl, q, _⟩ := h; exact base rfl (rd_ty q) trivial
  | tup _ => obtain ⟨a, vs, rfl, q, _⟩ := h; exact base rfl (frz_ty q) trivial
  | dk _ _ => obtain ⟨a, vs, rfl, q, _⟩ := h; exact base rfl (dk_ty q) trivial
  | dt _ _ => cases c <;> cases e
  | scr _ => cases c <;> cases e
  | lk _ _ => cases c <;> cases e
  | ins k _ _ =>
    cases c with
    | own m =>
      have e' : (if k = m then some true else none) = some r := e
      split at e'
      · rename_i hk
        subst hk
        cases e'
        obtain ⟨a, dx, vs, rfl, q, _⟩ := h
        have o := ho k rfl
        exact ⟨_, .base (.ins q o.cl o.ha o.hn o.ht o.hm), kit_same⟩
      · cases e'
    | _ => cases e
theorem snd_isi {c : Cls} {x : Str} (g : Gd T X W k) (hb : Blt X "isinstance" (.builtin "isinstance")) (hc : IsC T X x c) (hx : x ≠ "__name__") (hx' : (x == ("__debug__" : Str)) = false) (ha : Snd T P cl X W a ax) (hs : NoSt ax = true) :
    Snd T P cl X W (.isi a c) (.Call (.Name "isinstance" p) [ax, .Name x p2] [] pos) := by
  intro cc G env σ H Q st po
  unfold ev at po
  refine EW.of (pe_callB call_W hb.gl hb.mg hb.bt (pa_cons pe_W (pa_one pe_W rfl) (noSt_each hs)) (by decide) (by decide) (noSt_each hs) rfl) (ha cc G env σ H _ st (po.thn.mono ?_))
  rintro ⟨o, env1⟩ _ po1 v1 H1 st1 a1
  dsimp only at po1 st1
  cases h1 : o.data env1 with
  | none => rw [h1] at po1; exact po1.elim
  | some d1 =>
  rw [h1] at po1
  obtain ⟨r, e, po2⟩ := PX.of2 po1
  have po3 : KE T cc G σ Q (.tmp (.val (.bl r)), env1) := po2
  have r1 := Opd.rep st1 a1 h1 tm_here
  have fin : ∀ (w : V) (u : Value), ClsV w u → u = (c.val T) → (∀ m, c = .own m → IsO T m) → CW X (.builtin "isinstance") [v1, w] H1 Q := by
    intro w u hw hu ho
    obtain ⟨t, ht, hk⟩ := isi_ok r1 e ho
    rw [← hu, ← g.K] at hk
    rw [← g.K] at ht
    exact CW.of call_isi ⟨v1, w, t, u, r, rfl, hw, ht, hk, fin_bl po3 st1⟩
  show EW X (.Name x p2) σ H1 fun w H2 => CW X (.builtin "isinstance") [v1, w] H2 Q
  cases c with
  | own m =>
    obtain ⟨h2, h3, h4⟩ := hc
    exact EW.of (pe_glob h2 h3 (show RelV (.ref (T.cls m)) (.ref (T.cls m)) from rfl) hx') (fin (.ref (T.cls m)) (.ref (T.cls m)) (.own _) rfl fun m' e => by cases e; exact h4)
  | int => exact EW.of (pe_bltn hc.gl hc.mg hc.bt (show RelV (.ty "int") (.type "int") from rfl) hx hx') (fin (.ty "int") _ (.ty _) rfl fun m' e => nomatch e)
  | bool => exact EW.of (pe_bltn hc.gl hc.mg hc.bt (show RelV (.ty "bool") (.type "bool") from rfl) hx hx') (fin (.ty "bool") _ (.ty _) rfl fun m' e => nomatch e)
  | str => exact EW.of (pe_bltn hc.gl hc.mg hc.bt (show RelV (.ty "str") (.type "str") from rfl) hx hx') (fin (.ty "str") _ (.ty _) rfl fun m' e => nomatch e)
  | dict => exact EW.of (pe_bltn hc.gl hc.mg hc.bt (show RelV (.ty "dict") (.type "dict") from rfl) hx hx') (fin (.ty "dict") _ (.ty _) rfl fun m' e => nomatch e)
  | list => exact EW.of (pe_bltn hc.gl hc.mg hc.bt (show RelV (.ty "list") (.type "list") from rfl) hx hx') (fin (.ty "list") _ (.ty _) rfl fun m' e => nomatch e)
  | tuple => exact EW.of (pe_bltn hc.gl hc.mg hc.bt (show RelV (.ty "tuple") (.type "tuple") from rfl) hx hx') (fin (.ty "tuple") _ (.ty _) rfl fun m' e => nomatch e)
end
end Fm
end

section
set_option Elab.async false
set_option linter.all false
set_option maxRecDepth 10000
set_option autoImplicit false
set_option maxHeartbeats 1000000
namespace Fm
open PySem L2
/-! lists of expressions, displays -/
section
variable {X : Cx} {pins : List (Addr × Obj)} {σ : L2.St} {H : Hp} {s : Shared}
theorem star_dk {a : Addr} {kvs : List (Key × V)} {E : Value → Shared → Prop} {Q : List Value → Shared → Prop} (hc : X.calm = true) (I : L2.Inv X pins σ H s) (h : Rd H a (.dK kvs))
    (hQ : ∀ us s', L2.Inv X pins σ H s' → Vals (kvs.map fun kv => kV kv.1) us → Q us s') : W.StarOf (model X.prog X.w) X.A E (.ref a) Q s := by
  obtain ⟨z, lo, ws, rel, dd⟩ := dk_rd I.hok h
  obtain ⟨ep, hat⟩ := dd.dictAt
  have ek : (kvs.map fun kv => kV kv.1) = ws.map fun p => kV p.1 := by
    have e := congrArg (List.map kV) rel.keys
    rw [List.map_map, List.map_map] at e
    exact e
  have h16 : ws.length ≤ sizeLine := by rw [← rel.length]; exact z
  have main : wpAny (model X.prog X.w) X.A (collect (.ref a)) Q E s :=
    W.kdu_collect (A := X.A) (W.kdl_dict (knd := mixKind X.prog X.w) (kvs := ws) (ep := ep) lo) (I.ok.hd hc) hat h16 fun h' tk acc hk hacc => hQ _ _ (I.kept hk) (by
      rw [ek]
      exact keys_at (by rw [Array.length_toList]; exact hacc.1) fun j v e => hacc.2 j v (by rw [← Array.getElem?_toList]; exact e))
  unfold W.StarOf notIterableAtAll
  exact wpAny_bind (wpAny_specialOf dd.typeIs F.slot_dict_iter.lookup (wpAny_pure ⟨rfl, main⟩))
end
def tStr (K : W.Frag) (te : TE) (t : TA) : TA := fun σ H Q => te σ H fun x H1 => ∃ (p : Addr) (xs : List V), x = V.ref p ∧ ((SqT K H1 p xs ∨ SqL K H1 p xs) ∨ ∃ kvs : List (Key × V), Rd H1 p (.dK kvs) ∧ xs = kvs.map fun kv => kV kv.1) ∧ t σ H1 fun ys H2 => Q (xs ++ ys) H2
theorem pa_str {X : Cx} {e : Expr} {es : List Expr} {te : TE} {t : TA} {p : Pos} (hc : X.calm = true) (he : PE X e te) (hr : PA X es t) : PA X (.Starred e p :: es) (tStr X.K te t) := by
  refine ⟨fun pos pins s σ H Q I h => ?_⟩
  refine W.items_star (thn (he.run pins s σ H _ I h) fun v s1 ⟨y, H1, I1, ry, a, xs, ey, hx, q⟩ => ?_) rfl
  subst ey
  obtain rfl : v = Value.ref a := ry
  have go : ∀ us s', L2.Inv X pins σ H1 s' → Vals xs us → wpAny (model X.prog X.w) X.A (spliced (backTo pos (starEach es X.env))) (fun ws s3 => AP X pins σ Q (us ++ ws) s3) X.xe s' := fun us s2 I2 rv =>
    thn (hr.run pos pins s2 σ H1 _ I2 q) fun ws s3 ⟨vs, H3, I3, r3, q3⟩ => ⟨xs ++ vs, H3, I3, rv.append r3, q3⟩
  rcases hx with hx | ⟨kvs, hx, rfl⟩
  · exact StX.star_any I1 hx go
  · exact star_dk hc I1 hx go

/-! ### reading for good -/
section
variable {T : Wd} {c : Fr} {G : List SV} {env env' : Env} {σ : St} {F H : Hp} {o : Opd} {v : V} {d : D}
theorem Stt.frozen (h : Stt T c ((.own d, v) :: G) env σ H) : Stt T c ((.val d, v) :: G) env σ H := by
  obtain ⟨F, r, k⟩ := h
  obtain ⟨F', _, r'⟩ := Rel.frozen r
  exact ⟨F', r', k⟩
theorem getD_some {i : Nat} {s : Slot} (h : env.getD i .emp = s) (n : s ≠ Slot.emp) : env[i]? = some s := by
  rw [List.getD_eq_getElem?_getD] at h
  cases q : env[i]? with
  | none => rw [q] at h; exact absurd h.symm n
  | some x => rw [q] at h; exact congrArg some h
/-- a name's own container is frozen where it stands -/
theorem Stt.frzName {i : Nat} (h : Stt T c G env σ H) (hi : env.getD i .emp = .own d) (hv : σ[i]? = some (some v)) : Stt T c ((.val d, v) :: G) (env.set i (.val d)) σ H := by
  obtain ⟨F, r, k⟩ := h
  have h1 := getD_some hi (fun z => nomatch z)
  obtain ⟨w, A, B, hw, e1, e2, _, r1⟩ := r.atName k h1 (fun z => nomatch z)
  rw [hv] at hw
  cases hw
  obtain ⟨F', _, r2⟩ := Rel.frozen r1
  refine ⟨F', ?_, k.slot hv⟩
  have rp : Rep T F' d v := r2.each _ List.mem_cons_self
  rw [e2 (.val d)]
  exact (Rel.unName (G := G) r2).val rp
theorem Stt.valName {i : Nat} (h : Stt T c G env σ H) (hi : env.getD i .emp = .val d) (hv : σ[i]? = some (some v)) : Stt T c ((.val d, v) :: G) env σ H := by
  obtain ⟨F, r, k⟩ := h
  have h1 := getD_some hi (fun z => nomatch z)
  have m : (Slot.val d, v) ∈ G ++ zp env σ := List.mem_append_right _ (List.mem_of_getElem? (zp_get h1 hv))
  exact ⟨F, r.val (r.each _ m), k⟩
theorem frz_ok (h : Stt T c (o.tm v ++ G) env σ H) (a : o.at σ v) (e : frz o env = some (d, env')) : Stt T c ((.val d, v) :: G) env' σ H := by
  cases o with
  | tmp s =>
    obtain ⟨d', e1, e2⟩ := Option.map_eq_some_iff.mp e
    cases e2
    cases s with
    | emp => cases e1
    | val x => cases e1; exact h
    | own x => cases e1; exact Stt.frozen h
  | pk i =>
    unfold frz at e
    dsimp only at e
    cases hs : env.getD i .emp with
    | emp => rw [hs] at e; cases e
    | val x => rw [hs] at e; cases e; exact Stt.valName (G := G) h hs a
    | own x => rw [hs] at e; cases e; exact Stt.frzName (G := G) h hs a
def vals : List D → List V → List SV
  | d :: ds, v :: vs => (.val d, v) :: vals ds vs
  | _, _ => []
theorem Stt.swap {A B : List SV} (h : Stt T c (A ++ B) env σ H) : Stt T c (B ++ A) env σ H := h.perm List.perm_append_comm
theorem frzs_ok : ∀ {os : List Opd} {vs : List V} {ds : List D} {G : List SV} {env env' : Env}, Stt T c (tms os vs ++ G) env σ H → ats σ os vs → frzs os env = some (ds, env') → Stt T c (vals ds vs ++ G) env' σ H ∧ ds.length = vs.length
  | [], vs, ds, G, env, env', h, a, e => by
    obtain rfl : vs = [] := a
    cases e
    exact ⟨h, rfl⟩
  | o :: os, vs, ds, G, env, env', h, a, e => by
    obtain ⟨v, r, rfl, a1, a2⟩ := a
    unfold frzs at e
    obtain ⟨⟨d, env1⟩, e1, e2⟩ := Option.bind_eq_some_iff.mp e
    obtain ⟨⟨ds', env2⟩, e3, e4⟩ := Option.map_eq_some_iff.mp e2
    cases e4
    have h1 : Stt T c (o.tm v ++ (tms os r ++ G)) env σ H := by
      rw [← List.append_assoc]
      exact h
    have h2 := frz_ok h1 a1 e1
    have h3 : Stt T c (tms os r ++ ((.val d, v) :: G)) env1 σ H := h2.perm List.perm_middle.symm
    obtain ⟨h4, l⟩ := frzs_ok h3 a2 e3
    exact ⟨h4.perm List.perm_middle, by simp [l]⟩
theorem vals_reps : ∀ {ds : List D} {vs : List V} {B : List SV}, ds.length = vs.length → Rel T c (vals ds vs ++ B) F H → Reps T F ds vs
  | [], [], _, _, _ => rfl
  | d :: ds, v :: vs, B, l, r => ⟨v, vs, rfl, r.each (.val d, v) List.mem_cons_self, vals_reps (by simpa using l) r.uncons⟩
  | [], _ :: _, _, l, _ => by cases l
  | _ :: _, [], _, l, _ => by cases l
end
/-! ### lists of expressions -/
inductive As (S : IE → Expr → Prop) : List IE → List Expr → Prop where
  | nil : As S [] []
  | one {e : IE} {ax : Expr} {es : List IE} {axs : List Expr} : S e ax → e.isStar = false → NoSt ax = true → As S es axs → As S (e :: es) (ax :: axs)
  | star {e : IE} {ax : Expr} {p : Pos} {es : List IE} {axs : List Expr} : S e ax → As S es axs → As S (.star e :: es) (.Starred ax p :: axs)
section
variable {T : Wd} {P : Pg} {cl : Cl} {X : Cx} {W : WX} {k : Nat} {pos : Pos}
theorem tms_vals : ∀ {ds : List D} {vs : List V} {os : List Opd} {ws : List V}, ds.length = vs.length → tms (ds.map (fun d => Opd.tmp (.val d)) ++ os) (vs ++ ws) = vals ds vs ++ tms os ws
  | [], [], _, _, _ => rfl
  | d :: ds, v :: vs, os, ws, l => by
    exact congrArg ((Slot.val d, v) :: ·) (tms_vals (os := os) (ws := ws) (ds := ds) (vs := vs) (by simpa using l))
  | [], _ :: _, _, _, l => by cases l
  | _ :: _, [], _, _, l => by cases l
theorem ats_vals {σ : St} : ∀ {ds : List D} {vs : List V} {os : List Opd} {ws : List V}, ds.length = vs.length → ats σ os ws → ats σ (ds.map (fun d => Opd.tmp (.val d)) ++ os) (vs ++ ws)
  | [], [], _, _, _, a => a
  | d :: ds, v :: vs, os, ws, l, a => ⟨v, _, rfl, trivial, ats_vals (by simpa using l) a⟩
  | [], _ :: _, _, _, l, _ => by cases l
  | _ :: _, [], _, _, l, _ => by cases l
theorem Stt.vals {c : Fr} {G : List SV} {env : Env} {σ : St} {H : Hp} {F : Hp} : ∀ {ds : List D} {vs : List V}, Reps T F ds vs → Rel T c (G ++ zp env σ) F H → Rel T c ((vals ds vs ++ G) ++ zp env σ) F H
  | [], vs, r, h => by
    obtain rfl : vs = [] := r
    exact h
  | d :: ds, vs, r, h => by
    obtain ⟨v, vs', rfl, q, qs⟩ := r
    exact (Stt.vals qs h).val q
theorem starD_ok (g : Gd T X W k) {c : Fr} {G : List SV} {env : Env} {σ : St} {H : Hp} {o : Opd} {v : V} {here : List Opd} (st : Stt T c (o.tm v ++ G) env σ H) (a : o.at σ v) (e : starD o env = some here) :
    ∃ ds p xs, here = ds.map (fun d => Opd.tmp (.val d)) ∧ ds.length = xs.length ∧ v = V.ref p ∧ ((SqT X.K H p xs ∨ SqL X.K H p xs) ∨ ∃ kvs : List (Key × V), Rd H p (.dK kvs) ∧ xs = kvs.map fun kv => kV kv.1) ∧ Stt T c (Fm.vals ds xs ++ G) env σ H := by
  obtain ⟨F, r, ko⟩ := id st
  have r0 : Rel T c (G ++ zp env σ) F H := r.less (by rw [List.append_assoc]; exact List.sublist_append_right _ _)
  unfold starD at e
  split at e
  · rename_i xs h1
    have s1 := Opd.sl r ko a h1 tm_here
    obtain ⟨p, vs, rfl, q, rs⟩ := s1.lst r.hp h1
    exact ⟨xs, p, vs, (Option.some.inj e).symm, rs.len, rfl, .inl (.inr (.inl q)), F, Stt.vals rs r0, ko⟩
  · rename_i xs h1
    have s1 := Opd.sl r ko a h1 tm_here
    obtain ⟨p, vs, rfl, q, rs⟩ := s1.tup r.hp h1
    rw [← g.K] at q
    exact ⟨xs, p, vs, (Option.some.inj e).symm, rs.len, rfl, .inl (.inl q), F, Stt.vals rs r0, ko⟩
  · rename_i ks _ h1
    have s1 := Opd.sl r ko a h1 tm_here
    obtain ⟨p, vs, rfl, q, ⟨l, _⟩, rs⟩ := s1.dk r.hp h1
    have e' := (Option.some.inj e).symm
    refine ⟨ks.map Key.d, p, ks.map kV, ?_, by simp, rfl, .inr ⟨_, q, (zip_keys l).symm⟩, F, Stt.vals (keys_map ks) r0, ko⟩
    rw [e', List.map_map]
    rfl
  · cases e
theorem snd_as (g : Gd T X W k) : ∀ {es : List IE} {axs : List Expr}, As (Snd T P cl X W) es axs → SndA T P cl X W es axs
  | _, _, .nil => by
    intro c G env σ H Q st po
    unfold evs at po
    exact AW.of pa_nil (po [] H st rfl)
  | _, _, .one (e := e) (es := es) he hn hs hr => by
    intro c G env σ H Q st po
    rw [evs_cons P cl hn] at po
    refine AW.of (pa_cons pe_W pa_W (noSt_each hs)) (he c G env σ H _ st (po.thn.mono ?_))
    rintro ⟨x, env1⟩ _ po1 v H1 st1 a1
    refine snd_as g hr c (x.tm v ++ G) env1 σ H1 _ st1 ((PX.thn po1).mono ?_ |>.frame _)
    rintro ⟨xs, env2⟩ _ po2 vs H2 st2 a2
    refine po2 (v :: vs) H2 ?_ ⟨v, vs, rfl, a1, a2⟩
    show Stt T c ((x.tm v ++ tms xs vs) ++ G) env2 σ H2
    refine st2.perm ?_
    rw [← List.append_assoc]
    exact List.Perm.append_right _ List.perm_append_comm
  | _, _, .star (e := e) (es := es) he hr => by
    intro c G env σ H Q st po
    rw [evs_star] at po
    refine AW.of (pa_str g.calm pe_W pa_W) (he c G env σ H _ st (po.thn.mono ?_))
    rintro ⟨x, env1⟩ _ po1 v H1 st1 a1
    obtain ⟨here, e1, po2⟩ := PX.of2 po1
    obtain ⟨ds, p, xs, rfl, l, rfl, hx, st2⟩ := starD_ok g st1 a1 e1
    refine ⟨p, xs, rfl, hx, ?_⟩
    refine snd_as g hr c (Fm.vals ds xs ++ G) env1 σ H1 _ st2 ((PX.thn po2).mono ?_ |>.frame _)
    rintro ⟨os, env2⟩ _ po3 ws H2 st3 a3
    refine po3 (xs ++ ws) H2 ?_ (ats_vals l a3)
    show Stt T c (tms (ds.map (fun d => Opd.tmp (.val d)) ++ os) (xs ++ ws) ++ G) env2 σ H2
    rw [tms_vals l]
    refine st3.perm ?_
    rw [← List.append_assoc]
    exact List.Perm.append_right _ List.perm_append_comm
theorem items_ok {c : Fr} {G : List SV} {σ : St} {α : Type} {K : α → Prop} {f : List D → Env → R α} {os : List Opd} {env : Env} {vs : List V} {H : Hp} (st : Stt T c (tms os vs ++ G) env σ H) (a : ats σ os vs)
    (po : PX T c G (· = σ) W ((R.of (frzs os env)).thn f) K) : ∃ ds env', Stt T c (Fm.vals ds vs ++ G) env' σ H ∧ ds.length = vs.length ∧ PX T c G (· = σ) W (f ds env') K := by
  cases h : frzs os env with
  | none => rw [h] at po; exact po.elim
  | some q =>
    rw [h] at po
    obtain ⟨s1, l⟩ := frzs_ok st a h
    exact ⟨q.1, q.2, s1, l, po⟩
theorem snd_tp {es : List IE} {axs : List Expr} {x1 : Nat} (g : Gd T X W k) (h : As (Snd T P cl X W) es axs) : Snd T P cl X W (.tp es) (.Tuple axs x1 pos) := by
  intro c G env σ H Q st po
  unfold ev at po
  refine EW.of (pe_tup pa_W) (snd_as g h c G env σ H _ st (po.thn.mono ?_))
  rintro ⟨os, env1⟩ _ po1 vs H1 st1 a1
  obtain ⟨ds, env2, st2, l, po2⟩ := items_ok st1 a1 po1
  split at po2
  · rename_i hz
    refine ⟨by rw [← l]; exact big_le hz, fun p hp => ?_⟩
    obtain ⟨F, r, ko⟩ := st2
    refine fin_new (A := Fm.vals ds vs) po2 r ko hp ⟨vs, rfl, vals_reps l (by rw [List.append_assoc] at r; exact r)⟩
  · exact po2.elim
theorem snd_ls {es : List IE} {axs : List Expr} (g : Gd T X W k) (h : As (Snd T P cl X W) es axs) : Snd T P cl X W (.ls es) (.List axs pos) := by
  intro c G env σ H Q st po
  unfold ev at po
  refine EW.of (pe_lst pa_W) (snd_as g h c G env σ H _ st (po.thn.mono ?_))
  rintro ⟨os, env1⟩ _ po1 vs H1 st1 a1
  obtain ⟨ds, env2, st2, l, po2⟩ := items_ok st1 a1 po1
  split at po2
  · rename_i hz
    refine ⟨by rw [← l]; exact big_le hz, fun p hp => ?_⟩
    obtain ⟨F, r, ko⟩ := st2
    refine fin_new (A := Fm.vals ds vs) po2 r ko hp ⟨vs, rfl, vals_reps l (by rw [List.append_assoc] at r; exact r)⟩
  · exact po2.elim
theorem snd_d0 {isK : Bool} : Snd T P cl X W (.d0 isK) (.Dict [] [] pos) := by
  intro c G env σ H Q st po
  unfold ev at po
  have po' : KE T c G σ Q (.tmp (.own (if isK then .dk [] [] else .dt [] [])), env) := po
  obtain ⟨F, r, ko⟩ := st
  cases isK with
  | true => exact EW.of pe_dnewK fun p hp => fin_new (A := []) po' r ko hp ⟨[], rfl, ⟨rfl, List.nodup_nil⟩, rfl⟩
  | false => exact EW.of pe_dnewT fun p hp => fin_new (A := []) po' r ko hp ⟨[], rfl, ⟨rfl, List.nodup_nil⟩, rfl⟩
end
end Fm
end

section
set_option Elab.async false
set_option linter.all false
set_option maxRecDepth 10000
set_option autoImplicit false
set_option maxHeartbeats 1000000
namespace Fm
open PySem L2
/-! a name's own container, changed -/
section
variable {T : Wd} {c : Fr} {G : List SV} {env env' : Env} {σ : St} {F H : Hp} {o : Opd} {v : V} {d : D} {i : Nat}
theorem Stt.ownAt (h : Stt T c G env σ H) (hi : env.getD i .emp = .own d) (hv : σ[i]? = some (some v)) :
    ∃ F a o, v = .ref a ∧ H a = some o ∧ Ho T F d o ∧ Rel T c (G ++ zp env σ) F H ∧ ∀ d' o', Ho T F d' o' → Stt T c G (env.set i (.own d')) σ (upd H a o') := by
  obtain ⟨F, r, k⟩ := h
  have h1 := getD_some hi (fun z => nomatch z)
  obtain ⟨w, A, B, hw, e1, e2, _, r1⟩ := r.atName k h1 (fun z => nomatch z)
  rw [hv] at hw
  cases hw
  obtain ⟨a, o, rfl, q, f, g, m⟩ := r1.each _ List.mem_cons_self
  refine ⟨F, a, o, rfl, q, g, r, fun d' o' g' => ⟨F, ?_, k.slot hv⟩⟩
  rw [e2 (.own d')]
  exact Rel.unName (G := G) (r1.changed g')
end
section
variable {T : Wd} {P : Pg} {cl : Cl} {X : Cx} {W : WX} {k : Nat} {a b : IE} {ax bx : Expr} {apos pos : Pos}
theorem ownL_ok {o : Opd} {env : Env} {i : Nat} (e : ownL o env = some i) : o = .pk i ∧ ∃ xs, env.getD i .emp = .own (.lst xs) := by
  cases o with
  | tmp _ => cases e
  | pk j =>
    unfold ownL at e
    dsimp only at e
    split at e
    · rename_i xs h
      cases e
      exact ⟨rfl, xs, h⟩
    · cases e
theorem mt_list {c : Fr} {G : List SV} {env : Env} {σ : St} {H : Hp} {i : Nat} {v : V} {xs : List D} (h : Stt T c G env σ H) (hi : env.getD i .emp = .own (.lst xs)) (hv : σ[i]? = some (some v)) : tyV X.K "list" v H := by
  obtain ⟨F, a, o, rfl, q, ⟨vs, rfl, _⟩, _⟩ := h.ownAt hi hv
  exact .inl ⟨rfl, _, .inl (.inl q)⟩
theorem snd_app (ha : Snd T P cl X W a ax) (hb : Snd T P cl X W b bx) (hs : NoSt bx = true) (hbase : Bas X ax "append") (hline : (apos.endLine == pos.line) = true) :
    Snd T P cl X W (.app a b) (.Call (.Attribute ax "append" apos) [bx] [] pos) := by
  intro c G env σ H Q st po
  unfold ev at po
  refine EW.of (pe_bm F.plainAttrs_list F.slot_list_append F.type_list_append mt_append pe_W (pa_one pe_W hs) hbase (by rw [noSt_each hs]; rfl) hline (noSt_each hs) rfl) (ha c G env σ H _ st (po.thn.mono ?_))
  rintro ⟨x, env1⟩ _ po1 v1 H1 st1 a1
  dsimp only at po1 st1
  split at po1
  · rename_i i h0
    obtain ⟨rfl, xs0, h1⟩ := ownL_ok h0
    refine ⟨mt_list (G := G) st1 h1 a1, ?_⟩
    refine hb c G env1 σ H1 _ st1 (po1.thn.mono ?_)
    rintro ⟨y, env2⟩ _ po2 v2 H2 st2 a2
    cases h2 : frz y env2 with
    | none =>
      dsimp only at po2
      rw [h2] at po2
      exact po2.elim
    | some q =>
    obtain ⟨d, env3⟩ := q
    dsimp only at po2
    rw [h2] at po2
    have st3 := frz_ok st2 a2 h2
    replace po2 : PX T c G (· = σ) W (match env3.getD i .emp with
      | .own (.lst xs) => if xs.length < big then R.ok (Opd.tmp (.val .non), env3.set i (.own (.lst (xs ++ [d])))) else .stuck
      | _ => .stuck) (KE T c G σ Q) := po2
    split at po2
    · rename_i xs h3
      split at po2
      · rename_i hz
        obtain ⟨F, p, o, rfl, q, ⟨vs, rfl, rs⟩, r, ch⟩ := st3.ownAt h3 a1
        have rp : Rep T F d v2 := r.each (.val d, v2) (List.mem_append_left _ List.mem_cons_self)
        have l := rs.len
        refine ⟨p, vs, v2, rfl, rfl, q, by rw [← l]; exact big_lt hz, po2 _ _ ?_ trivial⟩
        exact (ch (.lst (xs ++ [d])) _ ⟨_, rfl, rs.app ⟨v2, [], rfl, rp, rfl⟩⟩).tail.non
      · exact po2.elim
    · exact po2.elim
  · exact po1.elim
theorem snd_ext (ha : Snd T P cl X W a ax) (hb : Snd T P cl X W b bx) (hs : NoSt bx = true) (hbase : Bas X ax "extend") (hline : (apos.endLine == pos.line) = true) :
    Snd T P cl X W (.ext a b) (.Call (.Attribute ax "extend" apos) [bx] [] pos) := by
  intro c G env σ H Q st po
  unfold ev at po
  refine EW.of (pe_bm F.plainAttrs_list F.slot_list_extend F.type_list_extend mt_extend pe_W (pa_one pe_W hs) hbase (by rw [noSt_each hs]; rfl) hline (noSt_each hs) rfl) (ha c G env σ H _ st (po.thn.mono ?_))
  rintro ⟨x, env1⟩ _ po1 v1 H1 st1 a1
  dsimp only at po1 st1
  split at po1
  · rename_i i h0
    obtain ⟨rfl, xs0, h1⟩ := ownL_ok h0
    refine ⟨mt_list (G := G) st1 h1 a1, ?_⟩
    refine hb c G env1 σ H1 _ st1 (po1.thn.mono ?_)
    rintro ⟨y, env2⟩ _ po2 v2 H2 st2 a2
    dsimp only at po2 st2
    split at po2
    · rename_i ys he
      split at po2
      · rename_i xs h3
        split at po2
        · rename_i hz
          obtain ⟨F, p, o, rfl, q, ⟨vs, rfl, rs⟩, r, ch⟩ := st2.ownAt h3 a1
          obtain ⟨p2, o2, rfl, q2, _, ⟨vs2, rfl, rs2⟩, _⟩ : SlOk T c F H2 (.own (.lst ys)) v2 := r.each (.own (.lst ys), v2) (List.mem_append_left _ List.mem_cons_self)
          refine ⟨p, p2, vs, vs2, rfl, rfl, q, q2, by rw [← rs.len, ← rs2.len]; exact big_le hz, po2 _ _ ?_ trivial⟩
          exact (ch (.lst (xs ++ ys)) _ ⟨_, rfl, rs.app rs2⟩).tail.non
        · exact po2.elim
      · exact po2.elim
    · exact po2.elim
  · exact po1.elim
end
end Fm
end

section
set_option Elab.async false
set_option linter.all false
set_option maxRecDepth 10000
set_option autoImplicit false
set_option maxHeartbeats 1000000
namespace Fm
open PySem L2
/-! what a call does to the caller's slots -/
section
variable {T : Wd} {c : Fr} {ps qs A B R G : List SV} {F F' H H' : Hp} {pn : List (Nat × V)}
theorem Rel.begin (r : Rel T c (A ++ B) F H) : Rel T ⟨F, H, A.filterMap oad, pn⟩ A F H := by
  refine ⟨⟨r.hp.sub, Sub.refl F, fun a u e => .inl (fun z => by rw [show F a = none from z] at e; cases e), fun a u e _ => .inl e, fun a e => e⟩, fun p hp => ?_, (r.less (List.sublist_append_left A B)).nd⟩
  have h := r.each p (List.mem_append_left _ hp)
  obtain ⟨s, v⟩ := p
  cases s with
  | emp => trivial
  | val d => exact h
  | own d =>
    obtain ⟨a, o, e, q, f, g, _⟩ := h
    dsimp only at e
    subst e
    exact ⟨a, o, rfl, q, f, g, .inl (List.mem_filterMap.mpr ⟨_, hp, rfl⟩)⟩
theorem own_at (r : Rel T c ps F H) {a : Addr} (m : a ∈ ps.filterMap oad) : (∃ o, H a = some o) ∧ F a = none ∧ (a ∈ c.M ∨ c.H0 a = none) := by
  obtain ⟨d, hd⟩ := mem_oad.mp m
  obtain ⟨b, o, e, q, f, _, k⟩ := r.each _ hd
  cases e
  exact ⟨⟨o, q⟩, f, k⟩
theorem some_of {α : Type} {o : Option α} (h : o ≠ none) : ∃ u, o = some u := by
  cases o with
  | none => exact absurd rfl h
  | some u => exact ⟨u, rfl⟩
theorem nodup_both {α : Type} {l m : List α} (h : (l ++ m).Nodup) {a : α} (h1 : a ∈ l) (h2 : a ∈ m) : False := by
  exact (List.nodup_append.mp h).2.2 a h1 a h2 rfl
theorem Rel.call (r : Rel T c (A ++ B) F H) (r' : Rel T ⟨F, H, A.filterMap oad, pn⟩ R F' H') : Rel T c (R ++ B) F' H' := by
  have nd := r.nd
  rw [List.filterMap_append] at nd
  have inA : ∀ a, a ∈ A.filterMap oad → (a ∈ c.M ∨ c.H0 a = none) ∧ ∃ o, H a = some o := fun a m => by
    have := own_at r (a := a) (by rw [List.filterMap_append]; exact List.mem_append_left _ m)
    exact ⟨this.2.2, this.1⟩
  have old : ∀ b, H b ≠ none → b ∉ A.filterMap oad → F b = none → F' b = none := fun b hb nb fb => by
    cases q : F' b with
    | none => rfl
    | some u =>
      rcases r'.hp.new b u q with z | z | z
      · exact absurd fb z
      · exact absurd z hb
      · exact absurd z nb
  refine ⟨⟨r'.hp.sub, r.hp.base.trans r'.hp.base, fun a u e => ?_, fun a u e m => ?_, fun a e => ?_⟩, fun p hp => ?_, ?_⟩
  · rcases r'.hp.new a u e with z | z | z
    · obtain ⟨u', hu⟩ := some_of z
      exact r.hp.new a u' hu
    · exact .inr (.inl (r.hp.fresh z))
    · rcases (inA a z).1 with y | y
      · exact .inr (.inr y)
      · exact .inr (.inl y)
  · have nA : a ∉ A.filterMap oad := fun z => by
      rcases (inA a z).1 with y | y
      · exact m y
      · rw [e] at y; cases y
    rcases r.hp.prot a u e m with z | ⟨z, u', z1, z2⟩
    · rcases r'.hp.prot a u z nA with y | ⟨y, u', y1, y2⟩
      · exact .inl y
      · obtain ⟨w, hw⟩ := some_of y
        rcases r.hp.new a w hw with x | x | x
        · exact .inr ⟨x, u', y1, y2⟩
        · rw [e] at x; cases x
        · exact absurd x m
    · rcases r'.hp.prot a u' z1 nA with y | ⟨y, u'', y1, y2⟩
      · exact .inr ⟨z, u', y, z2⟩
      · exact .inr ⟨z, u'', y1, z2.trans y2⟩
  · exact r'.hp.dom a (r.hp.dom a e)
  · rcases List.mem_append.mp hp with hp | hp
    · have h := r'.each p hp
      obtain ⟨s, v⟩ := p
      cases s with
      | emp => trivial
      | val d => exact h
      | own d =>
        obtain ⟨a, o, e, q, f, g, k⟩ := h
        refine ⟨a, o, e, q, f, g, ?_⟩
        rcases k with k | k
        · exact (inA a k).1
        · exact .inr (r.hp.fresh k)
    · refine (r.each p (List.mem_append_right _ hp)).keep r'.hp.base fun a u e q f => ?_
      have mb : a ∈ B.filterMap oad := List.mem_filterMap.mpr ⟨p, hp, e⟩
      have na : a ∉ A.filterMap oad := fun z => nodup_both nd z mb
      refine ⟨?_, old a (by rw [q]; exact fun z => nomatch z) na f⟩
      rcases r'.hp.prot a u q na with y | ⟨y, _⟩
      · exact y
      · exact absurd f y
  · rw [List.filterMap_append]
    refine List.nodup_append.mpr ⟨r'.nd, (List.nodup_append.mp nd).2.1, fun a ha b hb e => ?_⟩
    subst e
    obtain ⟨_, _, k⟩ := own_at r' ha
    obtain ⟨⟨o, q⟩, _, _⟩ := own_at r (a := a) (by rw [List.filterMap_append]; exact List.mem_append_right _ hb)
    rcases k with k | k
    · exact nodup_both nd k hb
    · rw [show H a = none from k] at q; cases q
/-- an object that no slot leads to -/
theorem Rel.junk (r : Rel T c ps F H) {p : Addr} {o : HO} (hn : H p = none) : Rel T c ps F (upd H p o) := by
  have fp := r.hp.ffree hn
  have h0 := r.hp.fresh hn
  refine ⟨⟨r.hp.sub.grow fp, r.hp.base, r.hp.new, fun a u e m => ?_, fun a e => ?_⟩, fun x hx => (r.each x hx).keep (Sub.refl F) fun a u _ e f => ⟨by rw [upd_ne (ne_of_none e hn)]; exact e, f⟩, r.nd⟩
  · rw [upd_ne (ne_of_none e h0)]; exact r.hp.prot a u e m
  · by_cases q : a = p
    · subst q; rw [upd_same]; exact fun z => nomatch z
    · rw [upd_ne q]; exact r.hp.dom a e
end
/-! arguments -/
section
variable {T : Wd} {c : Fr} {G R : List SV} {F H : Hp} {σ : St}
theorem getD_set_ne {env : Env} {i j : Nat} {s : Slot} (h : i ≠ j) : (env.set i s).getD j .emp = env.getD j .emp := by
  rw [List.getD_eq_getElem?_getD, List.getD_eq_getElem?_getD, List.getElem?_set_ne h]
theorem hasPk_cons {i : Nat} {o : Opd} {os : List Opd} (h : hasPk i (o :: os) = false) : (∀ j, o = .pk j → i ≠ j) ∧ hasPk i os = false := by
  unfold hasPk at h
  rw [List.any_cons, Bool.or_eq_false_iff] at h
  refine ⟨fun j e => ?_, h.2⟩
  subst e
  exact fun z => by rw [z] at h; simp at h
theorem args_set {i : Nat} {s : Slot} : ∀ {os : List Opd} {env : Env}, hasPk i os = false → args os (env.set i s) = args os env
  | [], _, _ => rfl
  | o :: os, env, h => by
    obtain ⟨h1, h2⟩ := hasPk_cons h
    unfold args
    rw [args_set h2]
    have e : o.slot (env.set i s) = o.slot env := by
      cases o with
      | tmp x => rfl
      | pk j => exact getD_set_ne (h1 j rfl)
    unfold badArg
    rw [e]
theorem back_set {i : Nat} {s : Slot} : ∀ {os : List Opd} {ss : List Slot} {env : Env}, hasPk i os = false → back os ss (env.set i s) = (back os ss env).set i s
  | [], ss, env, _ => by cases ss <;> rfl
  | o :: os, [], env, _ => by cases o <;> rfl
  | .tmp x :: os, y :: ss, env, h => by
    unfold back
    exact back_set (hasPk_cons h).2
  | .pk j :: os, y :: ss, env, h => by
    obtain ⟨h1, h2⟩ := hasPk_cons h
    have ne := h1 j rfl
    unfold back
    rw [getD_set_ne ne]
    split
    · rw [List.set_comm _ _ ne]
      exact back_set h2
    · exact back_set h2
theorem back_get {i : Nat} : ∀ {os : List Opd} {ss : List Slot} {env : Env}, hasPk i os = false → (back os ss env)[i]? = env[i]?
  | [], ss, env, _ => by cases ss <;> rfl
  | o :: os, [], env, _ => by cases o <;> rfl
  | .tmp x :: os, y :: ss, env, h => by
    unfold back
    exact back_get (hasPk_cons h).2
  | .pk j :: os, y :: ss, env, h => by
    obtain ⟨h1, h2⟩ := hasPk_cons h
    have ne := h1 j rfl
    unfold back
    rw [back_get h2]
    split
    · exact List.getElem?_set_ne (Ne.symm ne)
    · rfl
theorem args_cons {o : Opd} {os : List Opd} {env : Env} {ss : List Slot} (h : args (o :: os) env = some ss) : ∃ ss1, args os env = some ss1 ∧ badArg o os env = false ∧ ss = o.slot env :: ss1 := by
  unfold args at h
  split at h
  · cases h
  · rename_i ss1 e
    split at h
    · cases h
    · rename_i hb
      exact ⟨ss1, e, by simpa using hb, (Option.some.inj h).symm⟩
/-- the arguments leave the names -/
theorem args_ok : ∀ {os : List Opd} {vs : List V} {ss : List Slot} {env : Env} {A : List SV}, args os env = some ss → ats σ os vs → EnvOk c env σ → Rel T c (A ++ (tms os vs ++ (G ++ zp env σ))) F H →
    ss.length = vs.length ∧ Rel T c (A ++ (ss.zip vs ++ (G ++ zp (away os env) σ))) F H
  | [], vs, ss, env, A, h, a, k, r => by
    obtain rfl : vs = [] := a
    cases h
    exact ⟨rfl, r⟩
  | .tmp s :: os, vs, ss, env, A, h, a, k, r => by
    obtain ⟨v, vs, rfl, a1, a2⟩ := a
    obtain ⟨ss1, h1, h2, rfl⟩ := args_cons h
    have r1 : Rel T c ((A ++ [(s, v)]) ++ (tms os vs ++ (G ++ zp env σ))) F H := by
      rw [List.append_assoc]
      exact r
    obtain ⟨l, r2⟩ := args_ok h1 a2 k r1
    refine ⟨by simp [l], ?_⟩
    rw [List.append_assoc] at r2
    exact r2
  | .pk i :: os, vs, ss, env, A, h, a, k, r => by
    obtain ⟨v, vs, rfl, a1, a2⟩ := a
    obtain ⟨ss1, h1, h2, rfl⟩ := args_cons h
    have a1' : σ[i]? = some (some v) := a1
    unfold badArg at h2
    have h2' : (match env.getD i .emp with
      | .emp => true
      | .val _ => false
      | .own _ => hasPk i os) = false := h2
    cases hs : env.getD i .emp with
    | emp => rw [hs] at h2'; cases h2'
    | val d =>
      have h3 := getD_some hs (fun z => nomatch z)
      have hm : (Slot.val d, v) ∈ A ++ (tms os vs ++ (G ++ zp env σ)) := by
        refine List.mem_append_right _ (List.mem_append_right _ (List.mem_append_right _ ?_))
        exact List.mem_of_getElem? (zp_get h3 a1')
      have r1 : Rel T c ((A ++ [(.val d, v)]) ++ (tms os vs ++ (G ++ zp env σ))) F H := by
        rw [List.append_assoc]
        exact (r.val (r.each _ hm)).perm List.perm_middle.symm
      obtain ⟨l, r2⟩ := args_ok h1 a2 k r1
      refine ⟨by simp [l], ?_⟩
      rw [List.append_assoc] at r2
      have e1 : (Opd.pk i).slot env = .val d := hs
      have e2 : away (.pk i :: os) env = away os env := by
        show away os (if (env.getD i .emp).isOwn then env.set i .emp else env) = _
        rw [hs]
        rfl
      rw [e1, e2]
      exact r2
    | own d =>
      rw [hs] at h2'
      have h2'' : hasPk i os = false := h2'
      have h3 := getD_some hs (fun z => nomatch z)
      have r0 : Rel T c ((A ++ (tms os vs ++ G)) ++ zp env σ) F H := by
        rw [List.append_assoc, List.append_assoc]
        exact r
      obtain ⟨w, B1, B2, hw, e1, e2, _, r1⟩ := Rel.atName r0 k h3 (fun z => nomatch z)
      rw [a1'] at hw
      cases hw
      have r2 : Rel T c ((A ++ [(.own d, v)]) ++ (tms os vs ++ (G ++ zp (env.set i .emp) σ))) F H := by
        rw [e2 .emp]
        have r3 : Rel T c ((.emp, v) :: ((.own d, v) :: ((A ++ (tms os vs ++ G)) ++ (B1 ++ B2)))) F H := r1.emp
        refine r3.perm ?_
        have p1 : ((Slot.emp, v) :: ((Slot.own d, v) :: ((A ++ (tms os vs ++ G)) ++ (B1 ++ B2)))).Perm ((Slot.own d, v) :: ((Slot.emp, v) :: ((A ++ (tms os vs ++ G)) ++ (B1 ++ B2)))) := List.Perm.swap _ _ _
        refine p1.trans ?_
        have p2 : ((Slot.emp, v) :: ((A ++ (tms os vs ++ G)) ++ (B1 ++ B2))).Perm (A ++ (tms os vs ++ (G ++ (B1 ++ (Slot.emp, v) :: B2)))) := by
          have : A ++ (tms os vs ++ (G ++ (B1 ++ (Slot.emp, v) :: B2))) = ((A ++ (tms os vs ++ G)) ++ B1) ++ (Slot.emp, v) :: B2 := by simp
          rw [this, ← List.append_assoc]
          exact List.perm_middle.symm
        refine (List.Perm.cons _ p2).trans ?_
        rw [List.append_assoc]
        exact List.perm_middle.symm
      have h1' : args os (env.set i .emp) = some ss1 := by rw [args_set h2'']; exact h1
      obtain ⟨l, r4⟩ := args_ok h1' a2 k.gone r2
      refine ⟨by simp [l], ?_⟩
      rw [List.append_assoc] at r4
      have e3 : (Opd.pk i).slot env = .own d := hs
      have e4 : away (.pk i :: os) env = away os (env.set i .emp) := by
        show away os (if (env.getD i .emp).isOwn then env.set i .emp else env) = _
        rw [hs]
        rfl
      rw [e3, e4]
      exact r4
theorem away_set {i : Nat} {s : Slot} : ∀ {os : List Opd} {env : Env}, hasPk i os = false → away os (env.set i s) = (away os env).set i s
  | [], _, _ => rfl
  | .tmp x :: os, env, h => by
    unfold away
    exact away_set (hasPk_cons h).2
  | .pk j :: os, env, h => by
    obtain ⟨h1, h2⟩ := hasPk_cons h
    have ne := h1 j rfl
    unfold away
    rw [getD_set_ne ne]
    split
    · rw [List.set_comm _ _ ne]
      exact away_set h2
    · exact away_set h2
/-- .. and are given back -/
theorem back_env : ∀ {os : List Opd} {vs : List V} {ss' : List Slot} {env : Env}, ats σ os vs → EnvOk c env σ → EnvOk c (back os ss' env) σ
  | [], _, ss', env, _, k => by cases ss' <;> exact k
  | o :: os, _, [], env, _, k => by cases o <;> exact k
  | .tmp x :: os, vs, y :: ss', env, a, k => by
    obtain ⟨v, vs, rfl, a1, a2⟩ := a
    unfold back
    exact back_env a2 k
  | .pk i :: os, vs, y :: ss', env, a, k => by
    obtain ⟨v, vs, rfl, a1, a2⟩ := a
    unfold back
    split
    · exact back_env a2 (k.slot a1)
    · exact back_env a2 k
theorem back_ok : ∀ {os : List Opd} {vs : List V} {ss ss' : List Slot} {env : Env} {R : List SV}, args os env = some ss → ats σ os vs → EnvOk c env σ → ss'.length = vs.length →
    Rel T c (R ++ (ss'.zip vs ++ (G ++ zp (away os env) σ))) F H → Rel T c (R ++ (G ++ zp (back os ss' env) σ)) F H
  | [], vs, ss, ss', env, R, h, a, k, l, r => by
    obtain rfl : vs = [] := a
    cases ss' with
    | cons _ _ => cases l
    | nil => exact r
  | .tmp s :: os, vs, ss, ss', env, R, h, a, k, l, r => by
    obtain ⟨v, vs, rfl, a1, a2⟩ := a
    obtain ⟨ss1, h1, h2, rfl⟩ := args_cons h
    cases ss' with
    | nil => cases l
    | cons y ss' =>
    have r1 : Rel T c (R ++ (ss'.zip vs ++ (G ++ zp (away os env) σ))) F H := r.less (List.Sublist.append_left (List.sublist_cons_self _ _) _)
    have l' : ss'.length = vs.length := by simpa using l
    have r2 := back_ok h1 a2 k l' r1
    exact r2
  | .pk i :: os, vs, ss, ss', env, R, h, a, k, l, r => by
    obtain ⟨v, vs, rfl, a1, a2⟩ := a
    have a1' : σ[i]? = some (some v) := a1
    obtain ⟨ss1, h1, h2, rfl⟩ := args_cons h
    cases ss' with
    | nil => cases l
    | cons y ss' =>
    have l' : ss'.length = vs.length := by simpa using l
    unfold badArg at h2
    have h2' : (match env.getD i .emp with
      | .emp => true
      | .val _ => false
      | .own _ => hasPk i os) = false := h2
    cases hs : env.getD i .emp with
    | emp => rw [hs] at h2'; cases h2'
    | val d =>
      have e2 : away (.pk i :: os) env = away os env := by
        show away os (if (env.getD i .emp).isOwn then env.set i .emp else env) = _
        rw [hs]
        rfl
      have e3 : back (.pk i :: os) (y :: ss') env = back os ss' env := by
        show back os ss' (if (env.getD i .emp).isOwn then env.set i y else env) = _
        rw [hs]
        rfl
      rw [e2] at r
      rw [e3]
      have r1 : Rel T c (R ++ (ss'.zip vs ++ (G ++ zp (away os env) σ))) F H := r.less (List.Sublist.append_left (List.sublist_cons_self _ _) _)
      exact back_ok h1 a2 k l' r1
    | own d =>
      rw [hs] at h2'
      have h2'' : hasPk i os = false := h2'
      have h3 := getD_some hs (fun z => nomatch z)
      have hi : i < env.length := (List.getElem?_eq_some_iff.mp h3).1
      have e4 : away (.pk i :: os) env = away os (env.set i .emp) := by
        show away os (if (env.getD i .emp).isOwn then env.set i .emp else env) = _
        rw [hs]
        rfl
      have e5 : back (.pk i :: os) (y :: ss') env = (back os ss' env).set i y := by
        show back os ss' (if (env.getD i .emp).isOwn then env.set i y else env) = _
        rw [hs]
        exact back_set h2''
      rw [e4] at r
      rw [e5]
      have h1' : args os (env.set i .emp) = some ss1 := by rw [args_set h2'']; exact h1
      have r1 : Rel T c ((R ++ [(y, v)]) ++ (ss'.zip vs ++ (G ++ zp (away os (env.set i .emp)) σ))) F H := by
        rw [List.append_assoc]
        exact r
      have r2 := back_ok h1' a2 k.gone l' r1
      rw [back_set h2''] at r2
      have g1 : (back os ss' env)[i]? = some (.own d) := by rw [back_get h2'']; exact h3
      obtain ⟨B1, B2, e6, _, e7⟩ := split_at (zp_get g1 a1')
      rw [zp_set1 a1', e7] at r2 ⊢
      have r3 : Rel T c ((y, v) :: (R ++ (G ++ (B1 ++ B2)))) F H := by
        have p1 : ((R ++ [(y, v)]) ++ (G ++ (B1 ++ (Slot.emp, (some v : Option V).getD .non) :: B2))).Perm ((Slot.emp, v) :: ((y, v) :: (R ++ (G ++ (B1 ++ B2))))) := by
          have q1 : (R ++ [(y, v)]) ++ (G ++ (B1 ++ (Slot.emp, (some v : Option V).getD .non) :: B2)) = R ++ ((y, v) :: ((G ++ B1) ++ (Slot.emp, v) :: B2)) := by simp
          rw [q1]
          refine List.perm_middle.trans ?_
          refine List.Perm.trans ?_ (List.Perm.swap _ _ _)
          refine List.Perm.cons _ ?_
          rw [← List.append_assoc]
          refine List.perm_middle.trans ?_
          have q2 : R ++ (G ++ B1) ++ B2 = R ++ (G ++ (B1 ++ B2)) := by simp
          rw [q2]
        exact (r2.perm p1).uncons
      refine r3.perm ?_
      have q3 : R ++ (G ++ (B1 ++ (y, (some v : Option V).getD .non) :: B2)) = ((R ++ G) ++ B1) ++ (y, v) :: B2 := by simp
      rw [q3]
      refine List.Perm.trans ?_ List.perm_middle.symm
      refine List.Perm.cons _ ?_
      have q4 : R ++ (G ++ (B1 ++ B2)) = (R ++ G ++ B1) ++ B2 := by simp
      rw [q4]
end
end Fm
end

section
set_option Elab.async false
set_option linter.all false
set_option maxRecDepth 10000
set_option autoImplicit false
set_option maxHeartbeats 1000000
namespace Fm
open PySem L2
/-! calls -/
section
theorem noSt_few {env : PySem.Env} {pos : Pos} : ∀ {es : List Expr}, es.all NoSt = true → (backTo pos (starEach es env)).any (·.1) = false
  | [], _ => rfl
  | e :: es, h => by
    rw [List.all_cons, Bool.and_eq_true] at h
    rw [noSt_each h.1]
    show (false || (backTo pos (starEach es env)).any (·.1)) = false
    rw [noSt_few h.2]
    rfl
theorem noSt_all {env : PySem.Env} {pos : Pos} : ∀ {es : List Expr}, es.all NoSt = true → (backTo pos (starEach es env)).all (fun x => !x.1) = true
  | [], _ => rfl
  | e :: es, h => by
    rw [List.all_cons, Bool.and_eq_true] at h
    rw [noSt_each h.1]
    show (true && (backTo pos (starEach es env)).all (fun x => !x.1)) = true
    rw [noSt_all h.2]
    rfl
theorem mth_eq {o : Expr} {m : Str} {apos pos : Pos} {es : List Expr} {env : PySem.Env} (hb : attributeBase o m env (eval o env) = eval o env) (hn : es.all NoSt = true) (hl : es.length < 30) (hp : (apos.endLine == pos.line) = true) :
    eval (.Call (.Attribute o m apos) es [] pos) env = (do
      let ov ← eval o env
      standAt apos.atName
      let (f, first) ← holding [ov] (getMethod ov m (do return (← importBound o env).getD true))
      callWith pos f first (backTo pos (starEach es env)) (backToKw pos (keywordEach [] env))) := by
  have hform : methodCallForm (es.length + ([] : List Keyword).length) (backTo pos (starEach es env)) (backToKw pos (keywordEach [] env)) = true := by
    unfold methodCallForm
    rw [noSt_all hn]
    show (true && true && decide (es.length + 0 + 0 < 30)) = true
    rw [decide_eq_true (by omega)]
    rfl
  have hpos : methodCallPos true o env apos pos = pure pos := by unfold methodCallPos; simp [hp]
  rw [arm_eval_Call, hb]
  unfold methodCall calleeOf
  rw [hform, hpos]
  simp only [if_true, pure_bind]
end
section
variable {T : Wd} {P : Pg} {cl : Cl} {X : Cx} {W : WX} {k : Nat} {pos p apos : Pos}
/-- a def's promise: the slots that it is handed, the evaluator's answer -/
def spOf (T : Wd) (cl : Cl) (j : Nat) : Sp := fun vs H Q E => ∃ (F0 : Hp) (ss : List Slot), ss.length = vs.length ∧ Rel T ⟨F0, H, (ss.zip vs).filterMap oad, []⟩ (ss.zip vs) F0 H ∧ match cl j ss with
  | .ok (r, ss') => ∀ (v : V) (F' H' : Hp), Rel T ⟨F0, H, (ss.zip vs).filterMap oad, []⟩ ((r, v) :: ss'.zip vs) F' H' → Q v H'
  | .exc ci x ss' => ∀ (d : Option Addr) (F' H' : Hp) (ps : List SV), XArgs T ci x d H' ps → Rel T ⟨F0, H, (ss.zip vs).filterMap oad, []⟩ (ps ++ ss'.zip vs) F' H' → E (.ref (T.cls ci)) d H'
  | .stuck => False
/-- how many arguments a def takes, and that it gives them back -/
def ClOk (cl : Cl) (np : Nat → Nat) : Prop := ∀ (j : Nat) (ss : List Slot), match cl j ss with
  | .ok (_, ss') => ss.length = np j ∧ ss'.length = ss.length
  | .exc _ _ ss' => ss.length = np j ∧ ss'.length = ss.length
  | .stuck => True
theorem spOf.len {np : Nat → Nat} (h : ClOk cl np) {j : Nat} {vs : List V} {H : Hp} {Q : VK} {E : XK} (q : spOf T cl j vs H Q E) : vs.length = np j := by
  obtain ⟨F0, ss, l, r, q⟩ := q
  have := h j ss
  rw [← l]
  revert this q
  cases cl j ss with
  | ok p => exact fun q h => h.1
  | exc c x e => exact fun q h => h.1
  | stuck => exact fun q _ => q.elim
theorem ats_len {σ : St} : ∀ {os : List Opd} {vs : List V}, ats σ os vs → os.length = vs.length
  | [], vs, h => by
    obtain rfl : vs = [] := h
    rfl
  | o :: os, vs, h => by
    obtain ⟨v, r, rfl, _, a⟩ := h
    rw [List.length_cons, List.length_cons, ats_len a]
theorem call_ok {np : Nat → Nat} (hcl : ClOk cl np) {c : Fr} {G : List SV} {env : Env} {σ : St} {H : Hp} {Q : VK} {j : Nat} {os : List Opd} {vs : List V} (st : Stt T c (tms os vs ++ G) env σ H) (a : ats σ os vs)
    (po : PX T c G (· = σ) W (docall cl j os env) (KE T c G σ Q)) : spOf T cl j vs H Q (WE W σ) := by
  obtain ⟨F, r, ko⟩ := st
  unfold docall at po
  cases e : args os env with
  | none => rw [e] at po; exact po.elim
  | some ss =>
  rw [e] at po
  have r0 : Rel T c ([] ++ (tms os vs ++ (G ++ zp env σ))) F H := by
    rw [List.append_assoc] at r
    exact r
  obtain ⟨l, r1⟩ := args_ok e a ko r0
  have r1' : Rel T c (ss.zip vs ++ (G ++ zp (away os env) σ)) F H := r1
  refine ⟨F, ss, l, r1'.begin, ?_⟩
  have hc := hcl j ss
  dsimp only at po
  cases e2 : cl j ss with
  | stuck => rw [e2] at po; exact po.elim
  | ok q =>
    rw [e2] at po hc
    obtain ⟨s, ss'⟩ := q
    intro v F' H' r2
    have r3 := Rel.call r1' r2
    have l' : ss'.length = vs.length := by rw [hc.2, l]
    have r4 : Rel T c ([(s, v)] ++ (ss'.zip vs ++ (G ++ zp (away os env) σ))) F' H' := r3
    have r5 := back_ok e a ko l' r4
    exact po v H' ⟨F', r5, back_env a ko⟩ trivial
  | exc ci x ss' =>
    rw [e2] at po hc
    intro d F' H' ps hx r2
    have r3 := Rel.call r1' r2
    have l' : ss'.length = vs.length := by rw [hc.2, l]
    have r4 : Rel T c (ps ++ (ss'.zip vs ++ (G ++ zp (away os env) σ))) F' H' := by
      rw [List.append_assoc] at r3
      exact r3
    have r5 := back_ok e a ko l' r4
    refine po σ d H' ps rfl hx ⟨F', ?_, back_env a ko⟩
    rw [List.append_assoc]
    exact r5
theorem make_ok {np : Nat → Nat} (hcl : ClOk cl np) {c : Fr} {G : List SV} {env : Env} {σ : St} {H : Hp} {Q : VK} {ci j : Nat} {os : List Opd} {vs : List V} (st : Stt T c (tms os vs ++ G) env σ H) (a : ats σ os vs)
    (po : PX T c G (· = σ) W (domake cl ci j os env) (KE T c G σ Q)) (x dx : Addr) (hx : H x = none) (hdx : H dx = none) (hne : dx ≠ x) :
    spOf T cl j (.ref x :: vs) (upd (upd H dx (.own x)) x (.ins (T.cls ci) dx [])) (fun v H2 => v = .non ∧ Q (.ref x) H2) (WE W σ) := by
  obtain ⟨F, r, ko⟩ := st
  unfold domake at po
  cases e : args os env with
  | none => rw [e] at po; exact po.elim
  | some ss =>
  rw [e] at po
  have r0 : Rel T c ([] ++ (tms os vs ++ (G ++ zp env σ))) F H := by
    rw [List.append_assoc] at r
    exact r
  obtain ⟨l, r1⟩ := args_ok e a ko r0
  have r1' : Rel T c (ss.zip vs ++ (G ++ zp (away os env) σ)) F H := r1
  have hx2 : upd H dx (.own x) x = none := by rw [upd_ne (Ne.symm hne)]; exact hx
  have r2 : Rel T c ((.own (.ins ci [] []), .ref x) :: (ss.zip vs ++ (G ++ zp (away os env) σ))) F (upd (upd H dx (.own x)) x (.ins (T.cls ci) dx [])) :=
    (r1'.junk hdx).made hx2 ⟨dx, [], rfl, rfl, rfl⟩
  have r2' : Rel T c (((Slot.own (.ins ci [] []) :: ss).zip (V.ref x :: vs)) ++ (G ++ zp (away os env) σ)) F (upd (upd H dx (.own x)) x (.ins (T.cls ci) dx [])) := r2
  refine ⟨F, .own (.ins ci [] []) :: ss, by simp [l], r2'.begin, ?_⟩
  have hc := hcl j (.own (.ins ci [] []) :: ss)
  dsimp only at po
  cases e2 : cl j (.own (.ins ci [] []) :: ss) with
  | stuck => rw [e2] at po; exact po.elim
  | ok q =>
    rw [e2] at po hc
    obtain ⟨s, ss2⟩ := q
    cases ss2 with
    | nil => cases hc.2
    | cons s1 ss' =>
    have l' : ss'.length = vs.length := by
      have := hc.2
      simp at this
      omega
    intro v F' H' r3
    cases s with
    | emp => exact po.elim
    | own d => exact po.elim
    | val d =>
    cases d with
    | non =>
      have ev : v = .non := r3.each (.val .non, v) List.mem_cons_self
      subst ev
      refine ⟨rfl, ?_⟩
      have r4 := Rel.call r2' r3
      have r5 : Rel T c ([(Slot.val .non, .non), (s1, .ref x)] ++ (ss'.zip vs ++ (G ++ zp (away os env) σ))) F' H' := r4
      have r6 := back_ok e a ko l' r5
      have po' : KE T c G σ Q (.tmp s1, back os ss' env) := po
      refine po' (.ref x) H' ⟨F', ?_, back_env a ko⟩ trivial
      have r7 : Rel T c ((Slot.val .non, .non) :: ((s1, .ref x) :: (G ++ zp (back os ss' env) σ))) F' H' := by simpa using r6
      exact r7.uncons
    | _ => exact po.elim
  | exc ci2 x2 ss2 =>
    rw [e2] at po hc
    cases ss2 with
    | nil => cases hc.2
    | cons s1 ss' =>
    have l' : ss'.length = vs.length := by
      have := hc.2
      simp at this
      omega
    intro d F' H' ps hx' r3
    have r4 := Rel.call r2' r3
    have r5 : Rel T c ((ps ++ [(s1, .ref x)]) ++ (ss'.zip vs ++ (G ++ zp (away os env) σ))) F' H' := by
      refine r4.perm ?_
      simp
    have r6 := back_ok e a ko l' r5
    refine po σ d H' ps rfl hx' ⟨F', r6.less ?_, back_env a ko⟩
    rw [List.append_assoc, List.append_assoc]
    exact List.Sublist.append_left (List.sublist_append_right _ _) _
end
end Fm
end

section
set_option Elab.async false
set_option linter.all false
set_option maxRecDepth 10000
set_option autoImplicit false
set_option maxHeartbeats 1000000
namespace Fm
open PySem L2
/-! calls as nodes -/
def FnA (T : Wd) (X : Cx) (cl : Cl) (kf j : Nat) (f : Addr) : Prop := ∃ fd ps, FnOk X.prog X.w X.K X.mg X.base (L2.CX X.prog X.w) kf f fd ps (spOf T cl j) ∧ Binds X.K fd ps []
def FnK (T : Wd) (X : Cx) (cl : Cl) (kf j : Nat) (f : Addr) (n : Nat) (ks : List Str) : Prop := ∃ fd ps g, FnOk X.prog X.w X.K X.mg X.base (L2.CX X.prog X.w) kf f fd ps (spOf T cl j) ∧ KBn X.K fd ps (n + 1) ks g (fun vs zs => vs ++ zs)
section
variable {T : Wd} {P : Pg} {cl : Cl} {X : Cx} {W : WX} {k : Nat} {pos p apos : Pos}
theorem as_len {S : IE → Expr → Prop} : ∀ {es : List IE} {axs : List Expr}, As S es axs → axs.all NoSt = true → es.length = axs.length
  | _, _, .nil, _ => rfl
  | _, _, .one _ _ _ r, h => by
    rw [List.all_cons, Bool.and_eq_true] at h
    rw [List.length_cons, List.length_cons, as_len r h.2]
  | _, _, .star _ _, h => by
    rw [List.all_cons, Bool.and_eq_true] at h
    cases h.1
theorem snd_call {np : Nat → Nat} {kf j : Nat} {f : Addr} {x : Str} {es : List IE} {axs : List Expr} (g : Gd T X W k) (hcl : ClOk cl np) (F : FnA T X cl kf j f) (hr : Room kf X.A) (hg : Gl X x) (hm : X.mg x = some (.ref f)) (hk : PySem.W.keepIn X.K (.ref f) = true)
    (h : As (Snd T P cl X W) es axs) (hn : axs.all NoSt = true) (hdb : (x == ("__debug__" : Str)) = false) : Snd T P cl X W (.call j es) (.Call (.Name x p) axs [] pos) := by
  intro c G env σ H Q st po
  obtain ⟨fd, ps, F, hb⟩ := F
  unfold ev at po
  have main : AW X axs σ H fun vs H1 => spOf T cl j vs H1 Q (WE W σ) := by
    refine snd_as g h c G env σ H _ st (po.thn.mono ?_)
    rintro ⟨os, env1⟩ _ po1 vs H1 st1 a1
    exact call_ok hcl st1 a1 po1
  cases axs with
  | nil =>
    cases h
    unfold evs at po
    have po' : PX T c G (· = σ) W (docall cl j [] env) (KE T c G σ Q) := po
    intro pins s I
    refine wpAny_Call_Name_kw (ld_glob I hg hm ?_ hdb)
    exact PySem.W.callWith_K0 I.kIn hk (run_fnS (E := WE W) F hr hb (passAt g.takes σ) I .nil (call_ok (os := []) (vs := []) hcl st (show ats σ [] [] from rfl) po'))
  | cons e axs =>
    rw [List.all_cons, Bool.and_eq_true] at hn
    exact EW.of (pe_callS (E := WE W) F hr hg hm hk hb (fun σ => passAt g.takes σ) pa_W hdb (noSt_each hn.1) (noSt_few hn.2)) main
theorem snd_meth {np : Nat → Nat} {kf m : Nat} {mn : Str} {o : IE} {ox : Expr} {es : List IE} {axs : List Expr} (g : Gd T X W k) (hcl : ClOk cl np) (hf : ∀ a, T.fld a ≠ mn)
    (F : ∀ c j, P.mth c m = some j → ∃ f, FnA T X cl kf j f ∧ L2.Cls T.K (T.cls c) ∧ Meth T.K (T.cls c) mn f) (hr : Room kf X.A) (ho : Snd T P cl X W o ox) (hbase : Bas X ox mn)
    (h : As (Snd T P cl X W) es axs) (hn : axs.all NoSt = true) (hl : axs.length < 30) (hp : (apos.endLine == pos.line) = true) : Snd T P cl X W (.meth m o es) (.Call (.Attribute ox mn apos) axs [] pos) := by
  intro c G env σ H Q st po
  unfold ev at po
  -- the receiver, then the rest
  have main : EW X ox σ H fun v H1 => ∃ a ci j dx fs f, v = .ref a ∧ P.mth ci m = some j ∧ H1 a = some (.ins (T.cls ci) dx fs) ∧ fs.lookup mn = none ∧ FnA T X cl kf j f ∧ L2.Cls T.K (T.cls ci) ∧ Meth T.K (T.cls ci) mn f ∧
      (axs = [] → spOf T cl j [.ref a] H1 Q (WE W σ)) ∧ AW X axs σ H1 fun vs H2 => spOf T cl j (.ref a :: vs) H2 Q (WE W σ) := by
    refine ho c G env σ H _ st (po.thn.mono ?_)
    rintro ⟨x, env1⟩ _ po1 v1 H1 st1 a1
    dsimp only at po1 st1
    cases h1 : x.data env1 with
    | none => rw [h1] at po1; exact po1.elim
    | some d1 =>
    rw [h1] at po1
    cases d1 with
    | ins ci fs ds =>
      dsimp only at po1
      cases hj : P.mth ci m with
      | none => rw [hj] at po1; exact po1.elim
      | some j =>
      rw [hj] at po1
      dsimp only at po1
      obtain ⟨f, h2, h3, h4⟩ := F ci j hj
      obtain ⟨F', rl, ko⟩ := id st1
      have s1 := Opd.sl rl ko a1 h1 tm_here
      obtain ⟨a, dx, vs, rfl, q, l, rs⟩ := s1.ins rl.hp h1
      refine ⟨a, ci, j, dx, _, f, rfl, hj, q, look_none hf, h2, h3, h4, fun e => ?_, ?_⟩
      · subst e
        cases h
        unfold evs at po1
        have po' : PX T c G (· = σ) W (docall cl j [x] env1) (KE T c G σ Q) := po1
        refine call_ok (os := [x]) (vs := [.ref a]) hcl ?_ ⟨_, _, rfl, a1, rfl⟩ po'
        show Stt T c ((x.tm (.ref a) ++ tms [] []) ++ G) env1 σ H1
        have : tms [] [] = ([] : List SV) := rfl
        rw [this, List.append_nil]
        exact st1
      · refine snd_as g h c (x.tm (.ref a) ++ G) env1 σ H1 _ st1 ((PX.thn po1).mono ?_ |>.frame _)
        rintro ⟨os, env2⟩ _ po2 vs2 H2 st2 a2
        refine call_ok (os := x :: os) (vs := .ref a :: vs2) hcl ?_ ⟨_, _, rfl, a1, a2⟩ po2
        show Stt T c ((x.tm (.ref a) ++ tms os vs2) ++ G) env2 σ H2
        refine st2.perm ?_
        rw [← List.append_assoc]
        exact List.Perm.append_right _ List.perm_append_comm
    | _ => exact po1.elim
  intro pins s I
  refine PySem.W.methodCall_KW (pl := do return (← importBound ox X.env).getD true) (thn (main pins s I) fun u s1 hh => ?_) (mth_eq hbase hn hl hp)
  obtain ⟨v, H1, I1, rx, a, ci, j, dx, fs, f, ev, hj, ea, l, ⟨fd, ps, F, hb⟩, h3, h4, q0, q⟩ := hh
  subst ev
  obtain rfl : u = Value.ref a := rx
  rw [← g.K] at h3 h4
  refine getmeth_ok I1 ea h3 h4 l ?_
  cases axs with
  | nil => exact PySem.W.callWith_K0 (first := [.ref a]) I1.kIn h4.kp (run_fnS (us := [.ref a]) (vs := [.ref a]) (E := WE W) F hr hb (passAt g.takes σ) I1 (.cons rfl .nil) (q0 rfl))
  | cons e axs =>
    rw [List.all_cons, Bool.and_eq_true] at hn
    refine PySem.W.callWith_K (first := [.ref a]) (h₀ := X.base) I.ok.mod.kin h4.kp (thn (q pos pins s1 I1) fun us s2 hh2 => ?_) (noSt_each hn.1) (noSt_few hn.2)
    obtain ⟨vs, H2, I2, r, q2⟩ := hh2
    exact ⟨I2.kIn, run_fnS (us := .ref a :: us) (vs := .ref a :: vs) (E := WE W) F hr hb (passAt g.takes σ) I2 (.cons rfl r) q2⟩
/-! an instance is made -/
theorem run_mk {pins : List (Addr × Obj)} {σ : St} {H : Hp} {s : Shared} {Q : VK} {us ws : List Value} {vs zs : List V} {kf n : Nat} {C f : Addr} {fd : FuncData} {ps ks : List Str} {sp : Sp} {E : XK} {gg : List Value → List Value → List Value} {gV : List V → List V → List V}
    (M : Mk X.K C f) (F : FnOk X.prog X.w X.K X.mg X.base (L2.CX X.prog X.w) kf f fd ps sp) (hr : Room (kf + 1) X.A) (hb : KBn X.K fd ps (n + 1) ks gg gV) (hx : PassesAt (L2.CX X.prog X.w) X σ E)
    (I : L2.Inv X pins σ H s) (r : Vals vs us) (rz : Vals zs ws) (l1 : vs.length = n) (l2 : zs.length = ks.length)
    (h : ∀ x dx, H x = none → H dx = none → dx ≠ x → sp (gV (.ref x :: vs) zs) (upd (upd H dx (.own x)) x (.ins C dx [])) (fun v H2 => v = .non ∧ Q (.ref x) H2) E) :
    wpAny (model X.prog X.w) X.A (call (.ref C) us (ks.zip ws)) (EP X pins σ Q) X.xe s := by
  have q0 := h (s.heap.objs.size + 1) s.heap.objs.size (I.hok.fresh (Nat.le_succ _)) (I.hok.fresh (Nat.le_refl _)) (Nat.ne_of_lt (Nat.lt_succ_self _))
  have I2 := Inv.made (C := C) I
  have n1 : (Value.ref (s.heap.objs.size + 1) :: us).length = n + 1 := by
    rw [List.length_cons, ← r.length, l1]
  have b := hb.to _ (Value.ref (s.heap.objs.size + 1) :: us) ws I2.kIn n1 (rz.length.symm.trans l2)
  have rr := hb.rel (vs := V.ref (s.heap.objs.size + 1) :: vs) (us := Value.ref (s.heap.objs.size + 1) :: us) (.cons rfl r) rz
  have run := F.run _ X.stack _ _ ⟨Value.ref (s.heap.objs.size + 1) :: us, ks.zip ws⟩ _ _ _ E (hr.make C us (ks.zip ws)) (I2.env0.make C us (ks.zip ws)) b rr q0
  refine wpAny_call (make_map (f := f) I.kIn M.makes M.init (beq_iff_eq.mp M.fn) (codeAny_mono run fun res s' hq => ?_))
  cases res with
  | error e => exact hx pins _ _ e s' I2 hq
  | ok fl =>
    cases fl with
    | ret u =>
      obtain ⟨v, H', I3, rv, ev, q3⟩ := I2.after hq
      subst ev
      exact ⟨rv, V.ref (s.heap.objs.size + 1), H', I3, rfl, q3⟩
    | _ => exact hq.elim
def KwW (X : Cx) (kws : List Keyword) : TA := fun σ H Q => ∀ (pos : Pos) (pins : List (Addr × Obj)) (s : Shared), L2.Inv X pins σ H s → wpAny (model X.prog X.w) X.A (evalAll ((backToKw pos (keywordEach kws X.env)).map (·.2))) (AP X pins σ Q) X.xe s
theorem pk_W {kws : List Keyword} : PK X kws (KwW X kws) := ⟨fun pos pins s σ H Q I h => h pos pins s I⟩
theorem KwW.of {kws : List Keyword} {t : TA} {σ : St} {H : Hp} {Q : List V → Hp → Prop} (p : PK X kws t) (h : t σ H Q) : KwW X kws σ H Q := fun pos pins s I => p.run pos pins s σ H Q I h
/-- keywords: their values one by one -/
inductive Ks (S : IE → Expr → Prop) : List IE → List Keyword → List Str → Prop where
  | nil : Ks S [] [] []
  | one {e : IE} {ax : Expr} {x : Str} {p : Pos} {es : List IE} {kws : List Keyword} {ks : List Str} : S e ax → e.isStar = false → Ks S es kws ks → Ks S (e :: es) (⟨some x, ax, p⟩ :: kws) (x :: ks)
theorem snd_ks : ∀ {es : List IE} {kws : List Keyword} {ks : List Str}, Ks (Snd T P cl X W) es kws ks → ∀ (c : Fr) (G : List SV) (env : Env) (σ : St) (H : Hp) (Q : List V → Hp → Prop),
    Stt T c G env σ H → PX T c G (· = σ) W (evs P cl es env) (KA T c G σ Q) → KwW X kws σ H Q
  | _, _, _, .nil => by
    intro c G env σ H Q st po
    unfold evs at po
    exact KwW.of pk_nil (po [] H st rfl)
  | _, _, _, .one (e := e) (es := es) he hn hr => by
    intro c G env σ H Q st po
    rw [evs_cons P cl hn] at po
    refine KwW.of (pk_cons pe_W pk_W) (he c G env σ H _ st (po.thn.mono ?_))
    rintro ⟨x, env1⟩ _ po1 v H1 st1 a1
    refine snd_ks hr c (x.tm v ++ G) env1 σ H1 _ st1 ((PX.thn po1).mono ?_ |>.frame _)
    rintro ⟨xs, env2⟩ _ po2 vs H2 st2 a2
    refine po2 (v :: vs) H2 ?_ ⟨v, vs, rfl, a1, a2⟩
    show Stt T c ((x.tm v ++ tms xs vs) ++ G) env2 σ H2
    refine st2.perm ?_
    rw [← List.append_assoc]
    exact List.Perm.append_right _ List.perm_append_comm
theorem ks_some {S : IE → Expr → Prop} {env : PySem.Env} {pos : Pos} : ∀ {es : List IE} {kws : List Keyword} {ks : List Str}, Ks S es kws ks →
    (backToKw pos (keywordEach kws env)).all (·.1.isSome) = true ∧ (backToKw pos (keywordEach kws env)).filterMap (·.1) = ks ∧ (backToKw pos (keywordEach kws env)).any (·.1.isNone) = false ∧ es.length = ks.length
  | _, _, _, .nil => ⟨rfl, rfl, rfl, rfl⟩
  | _, _, _, .one (x := x) (ks := ks) _ _ r => by
    obtain ⟨h1, h2, h3, h4⟩ := ks_some (env := env) (pos := pos) r
    refine ⟨?_, congrArg (x :: ·) h2, ?_, congrArg (· + 1) h4⟩
    · exact h1
    · exact h3
theorem tms_app : ∀ {os os2 : List Opd} {vs vs2 : List V}, os.length = vs.length → tms (os ++ os2) (vs ++ vs2) = tms os vs ++ tms os2 vs2
  | [], _, [], _, _ => rfl
  | o :: os, os2, v :: vs, vs2, l => by
    have := tms_app (os := os) (os2 := os2) (vs := vs) (vs2 := vs2) (by simpa using l)
    show o.tm v ++ tms (os ++ os2) (vs ++ vs2) = (o.tm v ++ tms os vs) ++ tms os2 vs2
    rw [this, List.append_assoc]
  | [], _, _ :: _, _, l => by cases l
  | _ :: _, _, [], _, l => by cases l
theorem ats_app {σ : St} : ∀ {os os2 : List Opd} {vs vs2 : List V}, ats σ os vs → ats σ os2 vs2 → ats σ (os ++ os2) (vs ++ vs2)
  | [], _, vs, _, h, g => by
    obtain rfl : vs = [] := h
    exact g
  | o :: os, _, vs, _, h, g => by
    obtain ⟨v, r, rfl, a, b⟩ := h
    exact ⟨v, _, rfl, a, ats_app b g⟩
theorem evs_len {es : List IE} {axs : List Expr} (h : As (Snd T P cl X W) es axs) (hn : axs.all NoSt = true) : ∀ {env : Env} {os : List Opd} {env1 : Env}, evs P cl es env = .ok (os, env1) → os.length = es.length := by
  induction h with
  | nil =>
    intro env os env1 e
    unfold evs at e
    cases e
    rfl
  | @one e ax es axs _ hst _ _ ih =>
    intro env os env1 e0
    rw [List.all_cons, Bool.and_eq_true] at hn
    rw [evs_cons P cl hst] at e0
    cases e1 : ev P cl e env with
    | stuck => rw [e1] at e0; cases e0
    | exc _ _ _ => rw [e1] at e0; cases e0
    | ok q1 =>
      rw [e1] at e0
      dsimp only [R.thn] at e0
      cases e2 : evs P cl es q1.2 with
      | stuck => rw [e2] at e0; cases e0
      | exc _ _ _ => rw [e2] at e0; cases e0
      | ok q2 =>
        rw [e2] at e0
        cases e0
        rw [List.length_cons, List.length_cons, ih hn.2 (os := q2.1) (env1 := q2.2) e2]
  | star _ _ _ =>
    rw [List.all_cons, Bool.and_eq_true] at hn
    cases hn.1
theorem evs_lenK {es : List IE} {kws : List Keyword} {ks : List Str} (h : Ks (Snd T P cl X W) es kws ks) : ∀ {env : Env} {os : List Opd} {env1 : Env}, evs P cl es env = .ok (os, env1) → os.length = es.length := by
  induction h with
  | nil =>
    intro env os env1 e
    unfold evs at e
    cases e
    rfl
  | @one e ax x p es kws ks _ hst _ ih =>
    intro env os env1 e0
    rw [evs_cons P cl hst] at e0
    cases e1 : ev P cl e env with
    | stuck => rw [e1] at e0; cases e0
    | exc _ _ _ => rw [e1] at e0; cases e0
    | ok q1 =>
      rw [e1] at e0
      dsimp only [R.thn] at e0
      cases e2 : evs P cl es q1.2 with
      | stuck => rw [e2] at e0; cases e0
      | exc _ _ _ => rw [e2] at e0; cases e0
      | ok q2 =>
        rw [e2] at e0
        cases e0
        rw [List.length_cons, List.length_cons, ih (os := q2.1) (env1 := q2.2) e2]
theorem snd_mk {np : Nat → Nat} {kf ci j : Nat} {f : Addr} {x : Str} {es kes : List IE} {e0 : Expr} {axs : List Expr} {kws : List Keyword} {ks : List Str} (g : Gd T X W k) (hcl : ClOk cl np) (M : Mk X.K (T.cls ci) f)
    (F : FnK T X cl kf j f (e0 :: axs).length ks) (hr : Room (kf + 1) X.A) (hg : Gl X x) (hm : X.mg x = some (.ref (T.cls ci)))
    (h : As (Snd T P cl X W) es (e0 :: axs)) (hn : (e0 :: axs).all NoSt = true) (hk : Ks (Snd T P cl X W) kes kws ks) (hdb : (x == ("__debug__" : Str)) = false) :
    Snd T P cl X W (.mk ci j es kes) (.Call (.Name x p) (e0 :: axs) kws pos) := by
  intro c G env σ H Q st po
  obtain ⟨fd, ps, gg, F, hb⟩ := F
  unfold ev at po
  have main : AW X (e0 :: axs) σ H fun vs H1 => KwW X kws σ H1 fun zs H2 => vs.length = (e0 :: axs).length ∧ zs.length = ks.length ∧ ∀ x dx, H2 x = none → H2 dx = none → dx ≠ x →
      spOf T cl j ((.ref x :: vs) ++ zs) (upd (upd H2 dx (.own x)) x (.ins (T.cls ci) dx [])) (fun v H3 => v = .non ∧ Q (.ref x) H3) (WE W σ) := by
    refine snd_as g h c G env σ H _ st (po.thn.mono ?_)
    rintro ⟨os, env1⟩ eos po1 vs H1 st1 a1
    refine snd_ks hk c (tms os vs ++ G) env1 σ H1 _ st1 ((PX.thn po1).mono ?_ |>.frame _)
    rintro ⟨qs, env2⟩ eqs po2 zs H2 st2 a2
    have l1 := evs_len h hn eos
    have l2 := evs_lenK hk eqs
    have l3 := ats_len a1
    have l4 := ats_len a2
    refine ⟨?_, ?_, ?_⟩
    · rw [← l3, l1]
      exact as_len h hn
    · rw [← l4, l2]
      exact (ks_some (env := X.env) (pos := pos) hk).2.2.2
    · intro xx dx h1 h2 h3
      have st3 : Stt T c (tms (os ++ qs) (vs ++ zs) ++ G) env2 σ H2 := by
        rw [tms_app l3]
        refine st2.perm ?_
        rw [← List.append_assoc]
        exact List.Perm.append_right _ List.perm_append_comm
      exact make_ok hcl st3 (ats_app a1 a2) po2 xx dx h1 h2 h3
  intro pins s I
  rw [List.all_cons, Bool.and_eq_true] at hn
  obtain ⟨k1, k2, k3, _⟩ := ks_some (env := X.env) (pos := pos) hk
  refine wpAny_Call_Name_kw (ld_glob I hg hm ?_ hdb)
  refine PySem.W.callWith_KW (h₀ := X.base) I.ok.mod.kin M.kp k1 (thn (main pos pins s I) fun us s1 hh => ?_) ?_ (noSt_each hn.1)
  · obtain ⟨vs, H1, I1, r, q⟩ := hh
    refine thn (q pos pins s1 I1) fun ws s2 hh2 => ?_
    obtain ⟨zs, H2, I2, rz, l1, l2, q2⟩ := hh2
    refine ⟨I2.kIn, ?_⟩
    rw [k2]
    exact run_mk M F hr hb (passAt g.takes σ) I2 r rz l1 l2 q2
  · rw [noSt_few (es := e0 :: axs) (by rw [List.all_cons, hn.1, hn.2]; rfl), k3]
    rfl
end
end Fm
end

section
set_option Elab.async false
set_option linter.all false
set_option maxRecDepth 10000
set_option autoImplicit false
set_option maxHeartbeats 1000000
namespace Fm
open PySem L2
/-! the keys of a dict: it stands locked from here on -/
section
variable {T : Wd} {c : Fr} {ps : List SV} {F H : Hp} {ks : List Key} {ds : List D} {a : Addr}
theorem Rel.lock {o : Obj} {vs : List V} (r : Rel T c ((.val (.dk ks ds), .ref a) :: ps) F H) (hf : F a = some (.dK (ks.zip vs))) (hh : H a = some (.dK (ks.zip vs))) (l : ks.length = vs.length ∧ ks.Nodup) (rs : Reps T F ds vs) :
    Rel T c ((.val (.lk o (ks.zip vs)), .ref a) :: ps) (upd F a (.frz o (.dK (ks.zip vs)))) (upd H a (.frz o (.dK (ks.zip vs)))) := by
  have sf : Sub F (upd F a (.frz o (.dK (ks.zip vs)))) := fun b u e => by
    by_cases z : b = a
    · subst z
      rw [upd_same]
      rw [hf] at e
      cases e
      exact ⟨_, rfl, .inr ⟨o, .inl ⟨_, rfl⟩, rfl⟩⟩
    · rw [upd_ne z]
      exact ⟨u, e, .inl rfl⟩
  have h0 : c.F0 a ≠ none ∨ c.H0 a = none ∨ a ∈ c.M := r.hp.new a _ hf
  have hps : Hps c (upd F a (.frz o (.dK (ks.zip vs)))) (upd H a (.frz o (.dK (ks.zip vs)))) := by
    refine ⟨r.hp.sub.both, r.hp.base.trans sf, fun b u e => ?_, fun b u e m => ?_, fun b e => ?_⟩
    · by_cases z : b = a
      · rw [z]; exact h0
      · rw [upd_ne z] at e; exact r.hp.new b u e
    · by_cases z : b = a
      · subst z
        rw [upd_same]
        rcases h0 with h0 | h0 | h0
        · refine .inr ⟨h0, _, rfl, ?_⟩
          rcases r.hp.prot b u e m with y | ⟨_, w', y, z'⟩
          · rw [hh] at y
            cases y
            exact .inr ⟨o, .inl ⟨_, rfl⟩, rfl⟩
          · rw [hh] at y
            cases y
            rcases z' with z' | ⟨o', _, z'⟩
            · subst z'
              exact .inr ⟨o, .inl ⟨_, rfl⟩, rfl⟩
            · cases z'
        · rw [h0] at e; cases e
        · exact absurd h0 m
      · rw [upd_ne z]; exact r.hp.prot b u e m
    · by_cases z : b = a
      · subst z; rw [upd_same]; exact fun z => nomatch z
      · rw [upd_ne z]; exact r.hp.dom b e
  have nd := r.nd
  rw [List.filterMap_cons_none oad_val] at nd
  have r1 : Rel T c ps (upd F a (.frz o (.dK (ks.zip vs)))) (upd H a (.frz o (.dK (ks.zip vs)))) := ⟨hps, fun x hx => (r.each x (List.mem_cons_of_mem _ hx)).keep sf fun b u _ e f => by
    have nb : b ≠ a := by
      rintro rfl
      rw [hf] at f; cases f
    rw [upd_ne nb, upd_ne nb]
    exact ⟨e, f⟩, nd⟩
  exact r1.val ⟨a, rfl, upd_same⟩
theorem Stt.lock {o : Obj} {G : List SV} {env : Env} {σ : St} {vs : List V} (st : Stt T c ((.val (.dk ks ds), .ref a) :: G) env σ H) (hh : H a = some (.dK (ks.zip vs))) (l : ks.length = vs.length) :
    Stt T c ((.val (.lk o (ks.zip vs)), .ref a) :: G) env σ (upd H a (.frz o (.dK (ks.zip vs)))) := by
  obtain ⟨F, r, k⟩ := st
  obtain ⟨b, ws, e, q, l', rs⟩ : Rep T F (.dk ks ds) (.ref a) := r.each (.val (.dk ks ds), .ref a) List.mem_cons_self
  cases e
  have hw : F a = some (.dK (ks.zip ws)) := by
    rcases q with q | ⟨o', q⟩
    · exact q
    · have := r.hp.sub.frz q
      rw [hh] at this; cases this
  have : H a = some (.dK (ks.zip ws)) := by
    obtain ⟨u', h', rfl | ⟨o', _, rfl⟩⟩ := r.hp.sub a _ hw
    · exact h'
    · rw [hh] at h'; cases h'
  rw [hh] at this
  have e : vs = ws := by
    have z : ks.zip vs = ks.zip ws := by injection (Option.some.inj this)
    have := congrArg (List.map Prod.snd) z
    rwa [List.map_snd_zip (by rw [l]; exact Nat.le_refl _), List.map_snd_zip (by rw [l'.1]; exact Nat.le_refl _)] at this
  subst e
  exact ⟨_, r.lock hw hh l' rs, k⟩
theorem Stt.locked {o : Obj} {G : List SV} {env : Env} {σ : St} {kvs : List (Key × V)} (st : Stt T c ((.val (.dk ks ds), .ref a) :: G) env σ H) (hh : H a = some (.frz o (.dK kvs))) :
    Stt T c ((.val (.lk o kvs), .ref a) :: G) env σ H ∧ kvs.map (·.1) = ks := by
  obtain ⟨F, r, k⟩ := st
  obtain ⟨b, ws, e, q, l', rs⟩ : Rep T F (.dk ks ds) (.ref a) := r.each (.val (.dk ks ds), .ref a) List.mem_cons_self
  cases e
  rcases q with q | ⟨o', q⟩
  · obtain ⟨u', h', rfl | ⟨o', _, rfl⟩⟩ := r.hp.sub a _ q
    · rw [hh] at h'; cases h'
    · -- the heap is ahead of F
      rw [hh] at h'
      cases h'
      have sf : Sub F (upd F a (.frz o (.dK (ks.zip ws)))) := fun b u e => by
        by_cases z : b = a
        · subst z
          rw [upd_same]
          rw [q] at e
          cases e
          exact ⟨_, rfl, .inr ⟨o, .inl ⟨_, rfl⟩, rfl⟩⟩
        · rw [upd_ne z]
          exact ⟨u, e, .inl rfl⟩
      have hps : Hps c (upd F a (.frz o (.dK (ks.zip ws)))) H := by
        refine ⟨r.hp.sub.left hh, r.hp.base.trans sf, fun b u e => ?_, r.hp.prot, r.hp.dom⟩
        by_cases z : b = a
        · rw [z]; exact r.hp.new a _ q
        · rw [upd_ne z] at e; exact r.hp.new b u e
      have nd := r.nd
      rw [List.cons_append, List.filterMap_cons_none oad_val] at nd
      have r1 : Rel T c (G ++ zp env σ) (upd F a (.frz o (.dK (ks.zip ws)))) H := ⟨hps, fun x hx => (r.each x (List.mem_cons_of_mem _ hx)).keep sf fun b u _ e f => by
        have nb : b ≠ a := by
          rintro rfl
          rw [q] at f; cases f
        rw [upd_ne nb]
        exact ⟨e, f⟩, nd⟩
      exact ⟨⟨_, r1.val ⟨a, rfl, upd_same⟩, k⟩, List.map_fst_zip (by rw [l'.1]; exact Nat.le_refl _)⟩
  · have z := r.hp.sub.frz q
    rw [hh] at z
    cases z
    have r1 : Rel T c (G ++ zp env σ) F H := Rel.uncons r
    exact ⟨⟨F, r1.val ⟨a, rfl, q⟩, k⟩, List.map_fst_zip (by rw [l'.1]; exact Nat.le_refl _)⟩
theorem key_rep {F : Hp} (k : Key) : Rep T F (Key.d k) (kV k) := by
  cases k <;> rfl
end
def iKeysL (td : TE) : TI := fun σ H R => td σ H fun x H1 => ∃ a kvs, x = .ref a ∧ ((H1 a = some (.dK kvs) ∧ ∀ o, R (Itk a o kvs) (upd H1 a (.frz o (.dK kvs)))) ∨ ∃ o, H1 a = some (.frz o (.dK kvs)) ∧ R (Itk a o kvs) H1)
theorem pi_keysL {X : Cx} {tg e : Expr} {td : TE} (he : PE X e td) : PI X tg e (iKeysL td) := by
  refine ⟨fun pins s σ H R I h => ?_⟩
  have core : ∀ {s1 : Shared} {H1 : Hp} {a : Addr} {o : Obj} {kvs : List (Key × V)} {E : Value → Shared → Prop}, Inv X pins σ H1 s1 → H1 a = some (.frz o (.dK kvs)) → R (Itk a o kvs) H1 → wpAny (model X.prog X.w) X.A (pyIter (.ref a)) (PIE X pins σ tg R) E s1 := by
    intro s1 H1 a o kvs E I1 hd q
    obtain ⟨hs, hgd, hx, es, ep, vs, hdt, hsz, kv, hm⟩ := I1.frzK hd
    refine iter_keys hs hgd hx hdt (pi_one (tk := s1.toks) I1 _ (turn_keys _ hdt) ⟨_, Heap.get?_push_size _ rfl, rfl, ?_⟩ q)
    rw [hsz] <;> rfl
  refine thn (he.run pins s σ H _ I h) fun u s1 ⟨x, H1, I1, rx, a, kvs, ex, q⟩ => ?_
  subst ex
  obtain rfl : u = Value.ref a := rx
  rcases q with ⟨hd, q⟩ | ⟨o, hd, q⟩
  · obtain ⟨o, I2⟩ := I1.lock hd trivial
    exact core I2 upd_same (q o)
  · exact core I1 hd q
end Fm
end

section
set_option Elab.async false
set_option linter.all false
set_option maxRecDepth 10000
set_option autoImplicit false
set_option maxHeartbeats 1000000
namespace Fm
open PySem L2
/-! what is walked -/
/-- J yields the data ds, as long as the pair (s, v) stands -/
def Wk (T : Wd) (J : L2.It) (s : Slot) (v : V) (ds : List D) : Prop := ∀ (c : Fr) (G : List SV) (env : Env) (σ : St) (H : Hp) (i : Nat), Stt T c ((s, v) :: G) env σ H →
  (i = ds.length → J.stop i H) ∧ ∀ d, ds[i]? = some d → J.go i H ∧ ∀ x H', J.yld i H x H' → Stt T c ((.val d, x) :: (s, v) :: G) env σ H'
section
variable {T : Wd} {ds : List D} {a : Addr}
theorem wk_list : Wk T (Itl T.K a) (.val (.lst ds)) (.ref a) ds := by
  intro c G env σ H i st
  obtain ⟨F, r, ko⟩ := id st
  obtain ⟨b, vs, e, q, rs⟩ : Rep T F (.lst ds) (.ref a) := r.each (.val (.lst ds), .ref a) List.mem_cons_self
  cases e
  have hq : SqL T.K H a vs := .inl (r.hp.sub.rd q)
  refine ⟨fun e => ⟨vs, hq, by rw [e, rs.len]; exact Nat.le_refl _⟩, fun d hd => ?_⟩
  obtain ⟨x, hx, rx⟩ := rs.get hd
  refine ⟨⟨vs, x, hq, hx⟩, fun y H' h => ?_⟩
  obtain ⟨rfl, h⟩ := h
  have e : some x = some y := hx.symm.trans (h vs hq)
  cases e
  exact ⟨F, r.val rx, ko⟩
theorem wk_tup : Wk T (Itt T.K a) (.val (.tup ds)) (.ref a) ds := by
  intro c G env σ H i st
  obtain ⟨F, r, ko⟩ := id st
  obtain ⟨b, vs, e, q, rs⟩ : Rep T F (.tup ds) (.ref a) := r.each (.val (.tup ds), .ref a) List.mem_cons_self
  cases e
  have hq : SqT T.K H a vs := r.hp.sub.st q
  refine ⟨fun e => ⟨vs, hq, by rw [e, rs.len]; exact Nat.le_refl _⟩, fun d hd => ?_⟩
  obtain ⟨x, hx, rx⟩ := rs.get hd
  refine ⟨⟨vs, x, hq, hx⟩, fun y H' h => ?_⟩
  obtain ⟨rfl, h⟩ := h
  have e : some x = some y := hx.symm.trans (h vs hq)
  cases e
  exact ⟨F, r.val rx, ko⟩
theorem wk_str {x : Str} {s : Slot} {v : V} : Wk T (Its x) s v (x.cps.toList.map fun c => .str ⟨#[c]⟩) := by
  intro c G env σ H i st
  refine ⟨fun e => ?_, fun d hd => ?_⟩
  · rw [List.length_map] at e
    show x.cps.size ≤ i
    rw [e, Array.length_toList]
    exact Nat.le_refl _
  · rw [List.getElem?_map] at hd
    obtain ⟨k, hk, rfl⟩ := Option.map_eq_some_iff.mp hd
    have hk' : x.cps[i]? = some k := by rw [← Array.getElem?_toList]; exact hk
    refine ⟨(Array.getElem?_eq_some_iff.mp hk').1, fun y H' h => ?_⟩
    obtain ⟨rfl, k2, e2, rfl⟩ := h
    rw [hk'] at e2
    cases e2
    exact st.str
theorem rangeD_get : ∀ {n : Nat} {lo : Int} {i : Nat} {d : D}, (rangeD lo n)[i]? = some d → i < n ∧ d = .int (lo + i)
  | 0, lo, i, d, h => by simp [rangeD] at h
  | n + 1, lo, 0, d, h => by
    simp [rangeD] at h
    exact ⟨Nat.succ_pos _, by rw [← h]; simp⟩
  | n + 1, lo, i + 1, d, h => by
    obtain ⟨h1, h2⟩ := rangeD_get (n := n) (lo := lo + 1) (i := i) (by simpa [rangeD] using h)
    refine ⟨Nat.succ_lt_succ h1, ?_⟩
    rw [h2]
    congr 1
    push_cast
    omega
theorem rangeD_len : ∀ {n : Nat} {lo : Int}, (rangeD lo n).length = n
  | 0, _ => rfl
  | n + 1, lo => by
    show (rangeD (lo + 1) n).length + 1 = n + 1
    rw [rangeD_len]
theorem wk_keys {o : Obj} {kvs : List (Key × V)} : Wk T (Itk a o kvs) (.val (.lk o kvs)) (.ref a) (kvs.map fun kv => Key.d kv.1) := by
  intro c G env σ H i st
  obtain ⟨F, r, ko⟩ := id st
  obtain ⟨b, e, q⟩ : Rep T F (.lk o kvs) (.ref a) := r.each (.val (.lk o kvs), .ref a) List.mem_cons_self
  cases e
  have hq := r.hp.sub.frz q
  refine ⟨fun e => ⟨hq, by rw [e, List.length_map]; exact Nat.le_refl _⟩, fun d hd => ?_⟩
  rw [List.getElem?_map] at hd
  obtain ⟨⟨k, v⟩, hk, rfl⟩ := Option.map_eq_some_iff.mp hd
  refine ⟨⟨hq, (List.getElem?_eq_some_iff.mp hk).1⟩, fun y H' h => ?_⟩
  obtain ⟨rfl, k2, v2, e2, rfl⟩ := h
  rw [hk] at e2
  cases e2
  exact st.scal fun F => key_rep k
theorem wk_range {lo : Int} {n : Nat} {s : Slot} {v : V} : Wk T (Itr lo n) s v (rangeD lo n) := by
  intro c G env σ H i st
  refine ⟨fun e => ?_, fun d hd => ?_⟩
  · rw [rangeD_len] at e
    exact Nat.le_of_eq e.symm
  · obtain ⟨h1, rfl⟩ := rangeD_get hd
    refine ⟨h1, fun y H' h => ?_⟩
    obtain ⟨rfl, rfl⟩ := h
    exact st.int
theorem enumD_get : ∀ {ds : List D} {k i : Nat} {d : D}, (enumD k ds)[i]? = some d → ∃ x, ds[i]? = some x ∧ d = .tup [.int ((k + i : Nat) : Int), x]
  | [], k, i, d, h => by simp [enumD] at h
  | x :: ds, k, 0, d, h => by
    simp [enumD] at h
    exact ⟨x, rfl, by rw [← h]; simp⟩
  | x :: ds, k, i + 1, d, h => by
    obtain ⟨y, h1, h2⟩ := enumD_get (ds := ds) (k := k + 1) (i := i) (by simpa [enumD] using h)
    refine ⟨y, by simpa using h1, ?_⟩
    rw [h2]
    have : k + 1 + i = k + (i + 1) := by omega
    rw [this]
theorem enumD_len : ∀ {ds : List D} {k : Nat}, (enumD k ds).length = ds.length
  | [], _ => rfl
  | x :: ds, k => by
    show (enumD (k + 1) ds).length + 1 = ds.length + 1
    rw [enumD_len]
theorem pair_new {c : Fr} {G : List SV} {env : Env} {σ : St} {H : Hp} {d : D} {x : V} {i : Int} {p : Addr} (st : Stt T c ((.val d, x) :: G) env σ H) (hp : H p = none) : Stt T c ((.val (.tup [.int i, d]), .ref p) :: G) env σ (upd H p (.tup [.int i, x])) := by
  obtain ⟨F, r, ko⟩ := st
  have rx : Rep T F d x := r.each (.val d, x) List.mem_cons_self
  have r1 : Rel T c ((.own (.tup [.int i, d]), .ref p) :: (G ++ zp env σ)) F (upd H p (.tup [.int i, x])) := Rel.made r.uncons hp ⟨[.int i, x], rfl, ⟨_, _, rfl, rfl, ⟨_, _, rfl, rx, rfl⟩⟩⟩
  obtain ⟨F', _, r2⟩ := r1.frozen
  exact ⟨F', r2, ko⟩
theorem wk_enum : Wk T (Ite T.K a) (.val (.lst ds)) (.ref a) (enumD 0 ds) := by
  intro c G env σ H i st
  obtain ⟨F, r, ko⟩ := id st
  obtain ⟨b, vs, e, q, rs⟩ : Rep T F (.lst ds) (.ref a) := r.each (.val (.lst ds), .ref a) List.mem_cons_self
  cases e
  have hq : SqL T.K H a vs := .inl (r.hp.sub.rd q)
  refine ⟨fun e => ⟨vs, hq, by rw [e, enumD_len, rs.len]; exact Nat.le_refl _⟩, fun d hd => ?_⟩
  obtain ⟨y, hy, rfl⟩ := enumD_get hd
  obtain ⟨x, hx, rx⟩ := rs.get hy
  refine ⟨⟨vs, x, hq, hx⟩, fun z H' h => ?_⟩
  obtain ⟨p, x', rfl, hp, rfl, h⟩ := h
  have e : some x = some x' := hx.symm.trans (h vs hq)
  cases e
  rw [Nat.zero_add]
  exact pair_new ⟨F, r.val rx, ko⟩ hp
end
/-- an iterable: what it walks -/
def SndI (T : Wd) (P : Pg) (cl : Cl) (X : Cx) (W : WX) (it : It) (tg iter : Expr) : Prop := ∀ (c : Fr) (G : List SV) (env : Env) (σ : St) (H : Hp) (R : L2.It → Hp → Prop), Stt T c G env σ H →
  PX T c G (· = σ) W (evIt P cl it env) (fun r => ∀ J s v H1, Wk T J s v r.1 → Stt T c ((s, v) :: G) r.2 σ H1 → R J H1) → IW X tg iter σ H R
section
variable {T : Wd} {P : Pg} {cl : Cl} {X : Cx} {W : WX} {k : Nat} {a b : IE} {ax bx tg : Expr} {p pos : Pos}
theorem frz_rep {c : Fr} {G : List SV} {env : Env} {σ : St} {H : Hp} {d : D} {v : V} (st : Stt T c ((.val d, v) :: G) env σ H) : Rep T H d v := st.rep (s := .val d) List.mem_cons_self rfl
/-- after the value: what is frozen of it -/
theorem it_val {α : Type} {f : D → Env → R α} {c : Fr} {G : List SV} {env : Env} {σ : St} {H : Hp} {o : Opd} {v : V} {K : α → Prop} (st : Stt T c (o.tm v ++ G) env σ H) (a : o.at σ v) (po : PX T c G (· = σ) W ((R.of (frz o env)).thn f) K) :
    ∃ d env1, frz o env = some (d, env1) ∧ Stt T c ((.val d, v) :: G) env1 σ H ∧ PX T c G (· = σ) W (f d env1) K := by
  cases h : frz o env with
  | none => rw [h] at po; exact po.elim
  | some q =>
    rw [h] at po
    exact ⟨q.1, q.2, rfl, frz_ok st a h, po⟩
theorem sndI_e (g : Gd T X W k) (ha : Snd T P cl X W a ax) : SndI T P cl X W (.e a) tg ax := by
  intro c G env σ H RR st po
  unfold evIt at po
  cases e1 : ev P cl a env with
  | stuck => rw [e1] at po; exact po.elim
  | exc ci x e =>
    rw [e1] at po
    refine IW.of (pi_list pe_W) (ha c G env σ H _ st ?_)
    rw [e1]
    exact po
  | ok q =>
  obtain ⟨x, env1⟩ := q
  have po1 : PX T c G (· = σ) W ((R.of (frz x env1)).thn fun d env2 => (R.of (itemsOf d)).bind fun xs => R.ok (xs, env2)) (fun r => ∀ J s v H1, Wk T J s v r.1 → Stt T c ((s, v) :: G) r.2 σ H1 → RR J H1) := by
    rw [e1] at po
    exact po
  have base : ∀ {Q : VK}, (∀ v H1 d env2 ds, frz x env1 = some (d, env2) → itemsOf d = some ds → Stt T c ((.val d, v) :: G) env2 σ H1 → (∀ J s w H2, Wk T J s w ds → Stt T c ((s, w) :: G) env2 σ H2 → RR J H2) → Q v H1) → EW X ax σ H Q := by
    intro Q hQ
    refine ha c G env σ H _ st ?_
    rw [e1]
    intro v H1 st1 a1
    obtain ⟨d, env2, h1, st2, po2⟩ := it_val st1 a1 po1
    obtain ⟨ds, h2, po3⟩ := PX.of2 po2
    exact hQ v H1 d env2 ds h1 h2 st2 po3
  cases h1 : frz x env1 with
  | none => rw [h1] at po1; exact po1.elim
  | some q =>
  obtain ⟨d, env2⟩ := q
  cases d with
  | lst xs =>
    refine IW.of (pi_list pe_W) (base fun v H1 d' env2' ds h2 h3 st2 k2 => ?_)
    rw [h1] at h2; cases h2
    cases h3
    obtain ⟨p, vs, rfl, q, rs⟩ := frz_rep st2
    refine ⟨p, rfl, ⟨vs, .inl q⟩, k2 _ _ _ _ ?_ st2⟩
    rw [g.K]
    exact wk_list
  | tup xs =>
    refine IW.of (pi_tup pe_W) (base fun v H1 d' env2' ds h2 h3 st2 k2 => ?_)
    rw [h1] at h2; cases h2
    cases h3
    obtain ⟨p, vs, rfl, q, rs⟩ := frz_rep st2
    rw [g.K]
    exact ⟨p, rfl, ⟨vs, q⟩, k2 _ _ _ _ wk_tup st2⟩
  | str z =>
    refine IW.of (pi_str pe_W) (base fun v H1 d' env2' ds h2 h3 st2 k2 => ?_)
    rw [h1] at h2; cases h2
    cases h3
    obtain rfl : v = .str z := frz_rep st2
    exact ⟨z, rfl, k2 _ _ _ _ wk_str st2⟩
  | dk kx dsx =>
    refine IW.of (pi_keysL pe_W) (base fun v H1 d' env2' ds h2 h3 st2 k2 => ?_)
    rw [h1] at h2; cases h2
    cases h3
    obtain ⟨p, vs, rfl, q, l, rs⟩ := frz_rep st2
    refine ⟨p, kx.zip vs, rfl, ?_⟩
    have ek : ((kx.zip vs).map fun kv => Key.d kv.1) = kx.map Key.d := by
      have z : (kx.zip vs).map Prod.fst = kx := List.map_fst_zip (by rw [l.1]; exact Nat.le_refl _)
      have y := congrArg (List.map Key.d) z
      rwa [List.map_map] at y
    rcases q with q | ⟨o, q⟩
    · exact .inl ⟨q, fun o => k2 _ _ _ _ (ek ▸ wk_keys) (st2.lock q l.1)⟩
    · exact .inr ⟨o, q, k2 _ _ _ _ (ek ▸ wk_keys) (st2.locked q).1⟩
  | _ =>
    rw [h1] at po1
    exact po1.elim
theorem small_ok {i : Int} (h : smallR i = true) : -(2 ^ 62) ≤ i ∧ i < 2 ^ 62 := by
  unfold smallR at h
  rw [Bool.and_eq_true, decide_eq_true_iff, decide_eq_true_iff] at h
  omega
theorem sndI_r1 (g : Gd T X W k) (hb : Blt X "range" (.type "range")) (ha : Snd T P cl X W a ax) (hs : NoSt ax = true) : SndI T P cl X W (.r1 a) tg (.Call (.Name "range" p) [ax] [] pos) := by
  intro c G env σ H RR st po
  unfold evIt at po
  refine IW.of (pi_range1 hb.gl hb.mg (pa_one pe_W hs) (noSt_each hs)) (ha c G env σ H _ st (po.thn.mono ?_))
  rintro ⟨o, env1⟩ _ po1 v H1 st1 a1
  dsimp only at po1 st1
  split at po1
  · rename_i n h1
    split at po1
    · rename_i hz
      obtain rfl := Rep.int (Opd.rep st1 a1 h1 tm_here)
      obtain ⟨z1, z2⟩ := small_ok hz
      exact ⟨n, rfl, z1, z2, po1 _ (.val .non) .non _ wk_range st1.right.non⟩
    · exact po1.elim
  · exact po1.elim
theorem sndI_r2 (g : Gd T X W k) (hbl : Blt X "range" (.type "range")) (ha : Snd T P cl X W a ax) (hb : Snd T P cl X W b bx) (hs : NoSt ax = true) (hs' : NoSt bx = true) : SndI T P cl X W (.r2 a b) tg (.Call (.Name "range" p) [ax, bx] [] pos) := by
  intro c G env σ H RR st po
  unfold evIt at po
  refine IW.of (pi_range2 hbl.gl hbl.mg (pa_cons pe_W (pa_one pe_W hs') (noSt_each hs)) (by rw [noSt_each hs, noSt_each hs']; rfl) (noSt_each hs')) ?_
  refine two_args ha hb (R := fun vs H1 => ∃ i j : Int, vs = [.int i, .int j] ∧ (-(2 ^ 62) ≤ i ∧ i < 2 ^ 62 ∧ -(2 ^ 62) ≤ j ∧ j < 2 ^ 62) ∧ RR (Itr i (j - i).toNat) H1) st po fun x y env2 v1 v2 H2 st2 a1 a2 po2 => ?_
  split at po2
  · rename_i m n h1 h2
    split at po2
    · rename_i hz
      rw [Bool.and_eq_true] at hz
      obtain rfl := Rep.int (Opd.rep st2 a1 h1 fun p h => List.mem_append_left _ (List.mem_append_right _ h))
      obtain rfl := Rep.int (Opd.rep st2 a2 h2 fun p h => List.mem_append_left _ (List.mem_append_left _ h))
      obtain ⟨z1, z2⟩ := small_ok hz.1
      obtain ⟨z3, z4⟩ := small_ok hz.2
      exact ⟨m, n, rfl, ⟨z1, z2, z3, z4⟩, po2 _ (.val .non) .non _ wk_range st2.right.non⟩
    · exact po2.elim
  · exact po2.elim
end
end Fm
end

section
set_option Elab.async false
set_option linter.all false
set_option maxRecDepth 10000
set_option autoImplicit false
set_option maxHeartbeats 1000000
namespace Fm
open PySem PySem.Spec PyProof.Rows
open L2 hiding St
/-! enumerate -/
set_option maxHeartbeats 2000000 in
theorem meets_enum1 {v : Value} {o : Obj} {H : Heap → Prop} (B : Begins v o H) :
    Meets (Builtin.«enumerate.__new__» ⟨[.type "enumerate", v], []⟩) (fun _ R s => H s.heap ∧
      R (.ok (.ret (.ref (s.heap.push o).objs.size))) { s with heap := (s.heap.push o).push { cls := .type "enumerate", data := .fields #[.none, .bool false, .ref s.heap.objs.size, rawInt 0, .none, .none] } }) :=
  .of_wp fun prog w A R s h => by
    obtain ⟨hp, g, d, tk, os⟩ := s; obtain ⟨h1, h⟩ := h
    have hsub := sub_enumerate
    have q1 : ∀ {A' : Around} {E : Value → Shared → Prop} {Q : Value → Shared → Prop}, Q (.ref hp.objs.size) ⟨hp.push o, g, d, tk, os⟩ → wpAny (model prog w) A' (pyIter v) Q E ⟨hp, g, d, tk, os⟩ :=
      fun q => B.iter prog w _ _ ⟨hp, g, d, tk, os⟩ _ h1 q
    wp_walk using q1
    refine wpAny_stack_any fun st => wpAny_pure ?_
    split
    · rename_i c _ _ _ _ _
      cases (c == Value.type "enumerate")
      · wp_walk using q1
        exact ⟨_, rfl, h⟩
      · wp_walk using q1
        exact ⟨_, rfl, h⟩
    · wp_walk using q1
      exact ⟨_, rfl, h⟩
section
variable {prog : Program} {w : World} {A : Around} {E : Value → Shared → Prop} {s : Shared}
theorem call_enum_tup {l : Addr} {items : Array Value} {Q : Value → Shared → Prop} (hL : s.heap.IsTuple l items)
    (h : ∀ h', IsEnum h' (s.heap.objs.size + 1) s.heap.objs.size 0 .none → h'.IsTupleIter s.heap.objs.size l 0 → h'.objs.size = s.heap.objs.size + 2 →
      (∀ b o, s.heap.get? b = some o → h'.get? b = some o) → Q (.ref (s.heap.objs.size + 1)) { s with heap := h' }) :
    wpAny (model prog w) A (call (.type "enumerate") [.ref l]) Q E s := by
  refine callType_new F.called_enumerate (by decide) (F.typeCall_enumerate_1 _) (F.newCall_enumerate_1 _) (fun obj => F.args_object_init_2 obj _) F.entry_enumerate_new
    (meets_enum1 (begins_tuple l items)) ⟨hL, ?_⟩
  have hz : (s.heap.push { cls := .type "tuple_iterator", data := .fields #[.ref l, .int 0 0] }).objs.size = s.heap.objs.size + 1 := Heap.size_push ..
  show _ ∧ _
  rw [hz]
  have he : IsEnum ((s.heap.push { cls := .type "tuple_iterator", data := .fields #[.ref l, .int 0 0] }).push
      { cls := .type "enumerate", data := .fields #[.none, .bool false, .ref s.heap.objs.size, rawInt 0, .none, .none] }) (s.heap.objs.size + 1) s.heap.objs.size 0 .none := by
    have := Heap.get?_push_size (s.heap.push { cls := .type "tuple_iterator", data := .fields #[.ref l, .int 0 0] })
      (o := { cls := .type "enumerate", data := .fields #[.none, .bool false, .ref s.heap.objs.size, rawInt 0, .none, .none] }) rfl
    rw [hz] at this; exact this
  refine ⟨⟨_, he, rfl⟩, h _ he ⟨_, Heap.get?_push_of_some _ (Heap.get?_push_size _ rfl), rfl, rfl⟩ (by rw [Heap.size_push, hz]) fun b o x => Heap.get?_push_of_some _ (Heap.get?_push_of_some _ x)⟩
end
/-- the tuple at a, each item in a new pair -/
def Itet (K : PySem.W.Frag) (a : Addr) : L2.It :=
  ⟨fun i H => ∃ (xs : List V) (x : V), SqT K H a xs ∧ xs[i]? = some x, fun i H v H' => ∃ T x, v = .ref T ∧ H T = none ∧ H' = upd H T (.tup [.int (i : Nat), x]) ∧ ∀ xs, SqT K H a xs → xs[i]? = some x, fun i H => ∃ xs : List V, SqT K H a xs ∧ xs.length ≤ i⟩
theorem enum_draw_end {prog : Program} {w : World} {A : Around} (hh : A.handled = none) (it t : Addr) (items : Array Value) (n : Nat) (hn : items.size ≤ n) :
    Draws prog w A it [it, t] n (fun _ _ => True) (fun i h => i = n ∧ h.IsTupleIter it t n ∧ h.IsTuple t items) where
  live := fun _ _ st => let ⟨_, ⟨o, ho, _⟩, _⟩ := st; ⟨o, ho⟩
  frame := fun _ _ _ st hk => ⟨st.1, st.2.1.at fun o e => hk it (by simp) o e, st.2.2.at fun o e => hk t (by simp) o e⟩
  item := fun i s Q E hi st hQ => absurd st.1 (Nat.ne_of_lt hi)
  done := fun s Q E st hE => wpAny_nextOf_tuple_end hh st.2.1 st.2.2 (by simp; omega) hE
theorem turn_enumT {P : Program} {w : World} {K : PySem.W.Frag} {elts : List Expr} {kk : Nat} {tpos : Pos} (a e it : Addr) :
    Turn P w K (.Tuple elts kk tpos) (Itet K a) [e, it] e (fun i h => (∃ old, IsEnum h e it ((i : Nat) : Int) old) ∧ h.IsTupleIter it a i ∧ e ≠ it ∧ a ≠ e ∧ a ≠ it) where
  mem := by simp
  obj := fun i h st b hb => by
    obtain ⟨⟨old, he⟩, ⟨o, ho, hc, hd⟩, _⟩ := st
    have e' : b = e ∨ b = it := by simpa using hb
    rcases e' with z | z
    · rw [z]; exact ⟨_, he, fun v q => nomatch q⟩
    · rw [z]; exact ⟨o, ho, fun v q => by rw [hd] at q; cases q⟩
  keep := fun i h h' st k => let ⟨⟨old, he⟩, hi, hne⟩ := st; ⟨⟨old, k e (by simp) _ he⟩, hi.at fun o q => k it (by simp) o q, hne⟩
  item := by
    intro X hP hw hK hc i pins s σ H E I hf st hg
    subst hP hw hK
    obtain ⟨⟨old, he⟩, hit, hne, hae, hai⟩ := st
    obtain ⟨xs, x, hq, hx⟩ := hg
    obtain ⟨its, rv, p, hz⟩ := I.tuple hq
    obtain ⟨u, hu, ru⟩ := rv.get hx
    have hel : e < s.heap.objs.size := Heap.lt_size he
    have hil : it < s.heap.objs.size := by obtain ⟨_, q, _⟩ := hit; exact Heap.lt_size q
    have pt : s.heap.IsTuple a its.toArray := p
    have hi : i < its.toArray.size := by
      have := (List.getElem?_eq_some_iff.mp hu).1
      simpa using this
    refine wpAny_pyNext_enum_itemD (Draws.tuple (show X.A.in1.handled = none from I.ok.hd hc) it a hai its.toArray) he ⟨hit, pt⟩ hi hne (by simp [Ne.symm hae, hne]) fun y h' tk hy ho hst' hT hsz hk => ?_
    obtain ⟨hit', _⟩ := hst'
    have hyu : y = u := by
      have h1 : its[i]? = some y := by simpa using hy
      rw [hu] at h1
      exact (Option.some.inj h1).symm
    subst hyu
    refine ⟨_, rfl, wpAny_letOwnedTupleGo_enum (s := { s with heap := h', toks := tk + 1 }) ho fun h'' he' sb => ?_⟩
    have hT2 : h''.get? s.heap.objs.size = some { cls := .type "tuple", data := .seq #[.int i tk, y] } := (sb.2 _ (Nat.ne_of_gt hel)).trans hT
    have new : ObjOk X.prog X.w (upd H s.heap.objs.size (.tup [.int (i : Nat), x])) h'' s.heap.objs.size (.tup [.int (i : Nat), x]) :=
      ⟨by show 2 ≤ sizeLine; decide, [.int i tk, y], .cons ⟨_, rfl⟩ (.cons ru .nil), ⟨_, hT2, rfl, _, rfl⟩⟩
    have I1 : Inv X pins σ (upd H s.heap.objs.size (.tup [.int (i : Nat), x])) { s with heap := h'', toks := tk + 1 } :=
      I.turnedNew (ch := [e, it]) (fun b ob hb q => (sb.2 b (fun z => hb (by simp [z]))).trans (hk b ob (fun z => hb (by simp [z])) (fun z => hb (by simp [z])) q)) hf (Nat.le_refl _) new
    refine ⟨.ref s.heap.objs.size, _, I1, rfl, ⟨_, x, rfl, I.hok.fresh (Nat.le_refl _), rfl, fun ys hy => by rw [I.tuple_inj hy hq]; exact hx⟩, ⟨⟨y, ?_⟩, hit'.at fun o q => (sb.2 it (Ne.symm hne)).trans q, hne, hae, hai⟩, fun b hb => ?_⟩
    · have e1 : ((i + 1 : Nat) : Int) = (i : Int) + 1 := by omega
      rw [e1]; exact he'
    · have hb' : b < s.heap.objs.size := by
        have e' : b = e ∨ b = it := by simpa using hb
        rcases e' with z | z
        · rw [z]; exact hel
        · rw [z]; exact hil
      rw [upd_ne (Nat.ne_of_lt hb')]
      exact (hf b hb).1
  done := by
    intro X hP hw hK hc i pins s σ H E I hf st hg
    subst hP hw hK
    obtain ⟨⟨old, he⟩, hit, hne, hae, hai⟩ := st
    obtain ⟨xs, hq, hx⟩ := hg
    obtain ⟨its, rv, p, hz⟩ := I.tuple hq
    obtain ⟨f0, f1, f2, f3, f4, f5⟩ := hf it (by simp)
    have hl := rv.length
    have pt : s.heap.IsTuple a its.toArray := p
    have hge : its.toArray.size ≤ i := by simp; omega
    exact wpAny_pyNext_enum_endD (enum_draw_end (show X.A.in1.handled = none from I.ok.hd hc) it a its.toArray i hge) he ⟨rfl, hit, pt⟩ fun h' eb => ⟨rfl, I.turned (t' := s.toks) (fun b o hb q => eb b o hb q) f0 f1 f3 f4 f5⟩
  self := fun A i s Q E st h => let ⟨⟨_, he⟩, _⟩ := st; wpAny_pyIter_enum he h
def iEnumT (K : PySem.W.Frag) (ta : TA) : TI := fun σ H R => ta σ H fun vs H1 => ∃ a xs, vs = [.ref a] ∧ SqT K H1 a xs ∧ R (Itet K a) H1
theorem pi_enumT {X : Cx} {e : Expr} {ta : TA} {p pos tpos : Pos} {elts : List Expr} {kk : Nat} (hg : Gl X "enumerate") (hm : X.mg "enumerate" = none) (ha : PA X [e] ta) (hs : starEach [e] X.env = [(false, eval e X.env)] := by rfl) :
    PI X (.Tuple elts kk tpos) (.Call (.Name "enumerate" p) [e] [] pos) (iEnumT X.K ta) := by
  refine ⟨fun pins s σ H R I h => ?_⟩
  refine Call_ (ld_blt I hg hm boot_enumerate (PyProof.Rows.callWith_type1 (thn (ha.run pos pins s σ H _ I h) fun us s1 ⟨vs, H1, I1, r1, q1⟩ => ?_) hs rfl))
  obtain ⟨a, xs, ex, hq, q⟩ := q1
  subst ex
  cases r1 with
  | cons r rr =>
    cases rr
    cases r
    obtain ⟨its, rv, p', hz⟩ := I1.tuple hq
    have pt : s1.heap.IsTuple a its.toArray := p'
    have hal : a < s1.heap.objs.size := by
      obtain ⟨o, ho, _⟩ := id pt
      exact Heap.lt_size ho
    refine call_enum_tup pt fun h' he hit hsz hk => wpAny_pyIter_enum he ?_
    have I2 : Inv X pins σ H1 { s1 with heap := h' } := I1.kept (t' := s1.toks) hk
    refine ⟨s1.heap.objs.size + 1, [s1.heap.objs.size + 1, s1.heap.objs.size], _, _, H1, rfl, I2, turn_enumT a (s1.heap.objs.size + 1) s1.heap.objs.size, ⟨⟨.none, he⟩, hit, Nat.succ_ne_self _, Nat.ne_of_lt (Nat.lt_succ_of_lt hal), Nat.ne_of_lt hal⟩, fun b hb => ?_, q⟩
    have e' : b = s1.heap.objs.size + 1 ∨ b = s1.heap.objs.size := by simpa using hb
    have hle : s1.heap.objs.size ≤ b := by
      rcases e' with z | z
      · rw [z]; exact Nat.le_add_right _ _
      · rw [z]; exact Nat.le_refl _
    exact I1.fpOk hle (I1.hok.fresh hle)
section
variable {T : Wd} {ds : List D} {a : Addr}
theorem wk_enumT : Wk T (Itet T.K a) (.val (.tup ds)) (.ref a) (enumD 0 ds) := by
  intro c G env σ H i st
  obtain ⟨F, r, ko⟩ := id st
  obtain ⟨b, vs, e, q, rs⟩ : Rep T F (.tup ds) (.ref a) := r.each (.val (.tup ds), .ref a) List.mem_cons_self
  cases e
  have hq : SqT T.K H a vs := r.hp.sub.st q
  refine ⟨fun e => ⟨vs, hq, by rw [e, enumD_len, rs.len]; exact Nat.le_refl _⟩, fun d hd => ?_⟩
  obtain ⟨y, hy, rfl⟩ := enumD_get hd
  obtain ⟨x, hx, rx⟩ := rs.get hy
  refine ⟨⟨vs, x, hq, hx⟩, fun z H' h => ?_⟩
  obtain ⟨p, x', rfl, hp, rfl, h⟩ := h
  have e : some x = some x' := hx.symm.trans (h vs hq)
  cases e
  rw [Nat.zero_add]
  exact pair_new ⟨F, r.val rx, ko⟩ hp
end
section
variable {T : Wd} {P : Pg} {cl : Cl} {X : Cx} {W : WX} {k : Nat} {a : IE} {ax : Expr} {p pos tpos : Pos} {elts : List Expr} {kk : Nat}
theorem sndI_en (g : Gd T X W k) (hb : Blt X "enumerate" (.type "enumerate")) (ha : Snd T P cl X W a ax) (hs : NoSt ax = true) : SndI T P cl X W (.en a) (.Tuple elts kk tpos) (.Call (.Name "enumerate" p) [ax] [] pos) := by
  intro c G env σ H RR st po
  unfold evIt at po
  cases e1 : ev P cl a env with
  | stuck => rw [e1] at po; exact po.elim
  | exc ci x e =>
    rw [e1] at po
    refine IW.of (pi_enum hb.gl hb.mg (pa_one pe_W hs) (noSt_each hs)) (ha c G env σ H _ st ?_)
    rw [e1]
    exact po
  | ok q =>
  obtain ⟨x, env1⟩ := q
  have po1 : PX T c G (· = σ) W ((R.of (frz x env1)).thn fun d env2 => (R.of (enumOf d)).bind fun xs => R.ok (xs, env2)) (fun r => ∀ J s v H1, Wk T J s v r.1 → Stt T c ((s, v) :: G) r.2 σ H1 → RR J H1) := by
    rw [e1] at po
    exact po
  have base : ∀ {Q : VK}, (∀ v H1 d env2 ds, frz x env1 = some (d, env2) → enumOf d = some ds → Stt T c ((.val d, v) :: G) env2 σ H1 → (∀ J s w H2, Wk T J s w ds → Stt T c ((s, w) :: G) env2 σ H2 → RR J H2) → Q v H1) → EW X ax σ H Q := by
    intro Q hQ
    refine ha c G env σ H _ st ?_
    rw [e1]
    intro v H1 st1 a1
    obtain ⟨d, env2, h1, st2, po2⟩ := it_val st1 a1 po1
    obtain ⟨ds, h2, po3⟩ := PX.of2 po2
    exact hQ v H1 d env2 ds h1 h2 st2 po3
  cases h1 : frz x env1 with
  | none => rw [h1] at po1; exact po1.elim
  | some q =>
  obtain ⟨d, env2⟩ := q
  cases d with
  | lst xs =>
    refine IW.of (pi_enum hb.gl hb.mg (pa_one pe_W hs) (noSt_each hs)) (base fun v H1 d' env2' ds h2 h3 st2 k2 => ?_)
    rw [h1] at h2; cases h2
    cases h3
    obtain ⟨p, vs, rfl, q, rs⟩ := frz_rep st2
    refine ⟨p, vs, rfl, .inl q, k2 _ _ _ _ ?_ st2⟩
    rw [g.K]
    exact wk_enum
  | tup xs =>
    refine IW.of (pi_enumT hb.gl hb.mg (pa_one pe_W hs) (noSt_each hs)) (base fun v H1 d' env2' ds h2 h3 st2 k2 => ?_)
    rw [h1] at h2; cases h2
    cases h3
    obtain ⟨p, vs, rfl, q, rs⟩ := frz_rep st2
    rw [← g.K] at q
    refine ⟨p, vs, rfl, q, k2 _ _ _ _ ?_ st2⟩
    rw [g.K]
    exact wk_enumT
  | _ =>
    rw [h1] at po1
    exact po1.elim
end
end Fm
end

section
set_option Elab.async false
set_option linter.all false
set_option maxRecDepth 10000
set_option autoImplicit false
set_option maxHeartbeats 1000000
namespace Fm
open PySem L2
/-! targets -/
section
variable (X : Cx)
def GW (tg : Expr) : TG := fun v σ H Q => ∀ (pins : List (Addr × Obj)) (s : Shared) (u : Value), L2.Inv X pins σ H s → RelV v u → wpAny (model X.prog X.w) X.A (assign tg X.env u) (fun _ s' => ∃ σ' H', L2.Inv X pins σ' H' s' ∧ Q σ' H') X.xe s
def GsW (ts : List Expr) : TGs := fun vs σ H Q => ∀ (pins : List (Addr × Obj)) (s : Shared) (us : List Value), L2.Inv X pins σ H s → Vals vs us → wpAny (model X.prog X.w) X.A (assignInOrder ((assignEach ts X.env).map (·.2)) us) (fun _ s' => ∃ σ' H', L2.Inv X pins σ' H' s' ∧ Q σ' H') X.xe s
end
section
variable {X : Cx} {tg : Expr} {ts : List Expr}
theorem pg_W : PG X tg (GW X tg) := ⟨fun pins s σ H v u Q I r h => h pins s u I r⟩
theorem pgs_W : PGs X ts (GsW X ts) := ⟨fun pins s σ H vs us Q I r h => h pins s us I r⟩
theorem GW.of {g : TG} {v : V} {σ : St} {H : Hp} {Q : St → Hp → Prop} (p : PG X tg g) (h : g v σ H Q) : GW X tg v σ H Q := fun pins s u I r => p.run pins s σ H v u Q I r h
theorem GsW.of {g : TGs} {vs : List V} {σ : St} {H : Hp} {Q : St → Hp → Prop} (p : PGs X ts g) (h : g vs σ H Q) : GsW X ts vs σ H Q := fun pins s us I r => p.run pins s σ H vs us Q I r h
end
mutual
def Tg.nms : Tg → List Nat
  | .nm i => [i]
  | .tp ts => Tg.nmss ts
def Tg.nmss : List Tg → List Nat
  | [] => []
  | t :: ts => t.nms ++ Tg.nmss ts
end
/-- two stores that differ at these names alone -/
def Dif (l : List Nat) (σ σ' : St) : Prop := σ'.length = σ.length ∧ ∀ i, i ∉ l → σ'[i]? = σ[i]?
theorem Dif.refl {l : List Nat} {σ : St} : Dif l σ σ := ⟨rfl, fun _ _ => rfl⟩
theorem Dif.more {l m : List Nat} {σ σ' : St} (d : Dif l σ σ') (h : ∀ i ∈ l, i ∈ m) : Dif m σ σ' := ⟨d.1, fun i hi => d.2 i fun z => hi (h i z)⟩
theorem Dif.trans {l : List Nat} {σ σ' σ2 : St} (d : Dif l σ σ') (e : Dif l σ' σ2) : Dif l σ σ2 := ⟨e.1.trans d.1, fun i hi => (e.2 i hi).trans (d.2 i hi)⟩
section
variable (T : Wd) (X : Cx) (pr : List Nat)
def SndG (t : Tg) (tg : Expr) : Prop := ∀ (c : Fr) (G : List SV) (env env' : Env) (σ : St) (H : Hp) (d : D) (v : V) (Q : St → Hp → Prop), (∀ p ∈ c.pin, p.1 ∈ pr) → Stt T c ((.val d, v) :: G) env σ H → bnd pr t d env = some env' →
  (∀ σ', Stt T c G env' σ' H → Dif t.nms σ σ' → Q σ' H) → GW X tg v σ H Q
def SndGs (t : List Tg) (tg : List Expr) : Prop := ∀ (c : Fr) (G : List SV) (env env' : Env) (σ : St) (H : Hp) (ds : List D) (vs : List V) (Q : St → Hp → Prop), (∀ p ∈ c.pin, p.1 ∈ pr) → ds.length = vs.length → Stt T c (vals ds vs ++ G) env σ H → bnds pr t ds env = some env' →
  (∀ σ', Stt T c G env' σ' H → Dif (Tg.nmss t) σ σ' → Q σ' H) → GsW X tg vs σ H Q
end
section
variable {T : Wd} {X : Cx} {pr : List Nat}
theorem put_ok {i : Nat} {s : Slot} {env env' : Env} (h : put pr i s env = some env') : i ∉ pr ∧ i < env.length ∧ env' = env.set i s := by
  unfold put at h
  split at h
  · cases h
  · rename_i hn
    cases h
    exact ⟨fun z => hn (.inl z), by omega, rfl⟩
theorem sndG_nm {i : Nat} {x : Str} {pos : Pos} (hN : X.N.Nodup) (hi : X.N[i]? = some x) (hx : Loc X.env.scope x) (hf : X.fn x = true ∨ X.env.scope.names.lookup x = some .local) : SndG T X pr (.nm i) (.Name x pos) := by
  intro c G env env' σ H d v Q hp st hb k
  obtain ⟨h1, h2, rfl⟩ := put_ok (show put pr i (.val d) env = some env' from by unfold bnd at hb; exact hb)
  refine GW.of (pg_name hN hi hx hf) (k _ (st.put h2 fun p hpp e => h1 (e ▸ hp p hpp)) ⟨by rw [List.length_set], fun j hj => ?_⟩)
  have : j ≠ i := fun z => hj (by rw [z]; exact List.mem_singleton.mpr rfl)
  exact List.getElem?_set_ne (Ne.symm this)
theorem sndGs_nil : SndGs T X pr [] [] := by
  intro c G env env' σ H ds vs Q hp l st hb k
  cases ds with
  | cons _ _ => unfold bnds at hb; cases hb
  | nil =>
    cases vs with
    | cons _ _ => cases l
    | nil =>
      unfold bnds at hb
      cases hb
      exact GsW.of pgs_nil ⟨rfl, k σ st Dif.refl⟩
theorem noSt_asg {e : Expr} {es : List Expr} {env : PySem.Env} (h : NoSt e = true) : assignEach (e :: es) env = (false, assign e env) :: assignEach es env := by
  cases e with
  | Starred _ _ => cases h
  | _ => rfl
theorem sndGs_cons {t : Tg} {tg : Expr} {ts : List Tg} {tgs : List Expr} (h1 : SndG T X pr t tg) (h2 : SndGs T X pr ts tgs) (hs : NoSt tg = true) : SndGs T X pr (t :: ts) (tg :: tgs) := by
  intro c G env env' σ H ds vs Q hp l st hb k
  cases ds with
  | nil => unfold bnds at hb; cases hb
  | cons d ds =>
    cases vs with
    | nil => cases l
    | cons v vs =>
      unfold bnds at hb
      obtain ⟨env1, e1, e2⟩ := Option.bind_eq_some_iff.mp hb
      refine GsW.of (pgs_cons pg_W pgs_W (by rw [noSt_asg hs]; rfl)) ⟨v, vs, rfl, h1 c (vals ds vs ++ G) env env1 σ H d v _ hp st e1 fun σ1 st1 d1 => ?_⟩
      refine h2 c G env1 env' σ1 H ds vs Q hp (by simpa using l) st1 e2 fun σ2 st2 d2 => k σ2 st2 ?_
      refine (d1.more fun i hi => ?_).trans (d2.more fun i hi => ?_)
      · unfold Tg.nmss; exact List.mem_append_left _ hi
      · unfold Tg.nmss; exact List.mem_append_right _ hi
theorem asg_all {env : PySem.Env} : ∀ {es : List Expr}, es.all NoSt = true → (assignEach es env).length = es.length ∧ (assignEach es env).findIdx? (·.1) = none
  | [], _ => ⟨rfl, rfl⟩
  | e :: es, h => by
    rw [List.all_cons, Bool.and_eq_true] at h
    obtain ⟨h1, h2⟩ := asg_all (env := env) h.2
    rw [noSt_asg h.1]
    refine ⟨by rw [List.length_cons, h1]; rfl, ?_⟩
    rw [List.findIdx?_cons, h2]
    rfl
theorem sndG_tp {W : WX} {k : Nat} {ts : List Tg} {tgs : List Expr} {kk : Nat} {pos : Pos} (g : Gd T X W k) (h : SndGs T X pr ts tgs) (hs : tgs.all NoSt = true) (hl : ts.length = tgs.length) : SndG T X pr (.tp ts) (.Tuple tgs kk pos) := by
  intro c G env env' σ H d v Q hp st hb k
  cases d with
  | tup ds =>
    have hb' : bnds pr ts ds env = some env' := by unfold bnd at hb; exact hb
    obtain ⟨F, r, ko⟩ := st
    obtain ⟨a, vs, rfl, q, rs⟩ : Rep T F (.tup ds) v := r.each (.val (.tup ds), v) List.mem_cons_self
    obtain ⟨n1, n2⟩ := asg_all (env := X.env) hs
    have q' : SqT X.K H a vs := by rw [g.K]; exact r.hp.sub.st q
    have hlen : vs.length = tgs.length := by
      rw [← rs.len, ← hl]
      exact bnds_len hb'
    refine GW.of (pg_tup g.calm pgs_W n1 n2) ⟨a, vs, rfl, q', hlen, ?_⟩
    refine h c G env env' σ H ds vs Q hp rs.len ⟨F, Stt.vals rs r.uncons, ko⟩ hb' fun σ' st' d' => k σ' st' ?_
    unfold Tg.nms
    exact d'
  | _ => unfold bnd at hb; cases hb
where
  bnds_len : ∀ {ts : List Tg} {ds : List D} {env env' : Env}, bnds pr ts ds env = some env' → ds.length = ts.length
    | [], [], _, _, _ => rfl
    | [], _ :: _, _, _, h => by unfold bnds at h; cases h
    | _ :: _, [], _, _, h => by unfold bnds at h; cases h
    | t :: ts, d :: ds, env, env', h => by
      unfold bnds at h
      obtain ⟨env1, e1, e2⟩ := Option.bind_eq_some_iff.mp h
      rw [List.length_cons, List.length_cons, bnds_len e2]
end
end Fm
end

section
set_option Elab.async false
set_option linter.all false
set_option maxRecDepth 10000
set_option autoImplicit false
set_option maxHeartbeats 1000000
namespace Fm
open PySem L2
/-! statements -/
def KS (T : Wd) (c : Fr) (G : List SV) (D : Ends) (r : Fl × Env) : Prop := match r.1 with
  | .nx => ∀ (σ' : St) (H' : Hp), Stt T c G r.2 σ' H' → D.nx σ' H'
  | .bk => ∀ (σ' : St) (H' : Hp), Stt T c G r.2 σ' H' → D.bk σ' H'
  | .ct => ∀ (σ' : St) (H' : Hp), Stt T c G r.2 σ' H' → D.ct σ' H'
  | .rt s => ∀ (v : V) (σ' : St) (H' : Hp), Stt T c ((s, v) :: G) r.2 σ' H' → D.rt v H'
def SndS (T : Wd) (P : Pg) (cl : Cl) (X : Cx) (W : WX) (pr : List Nat) (st : IS) (ax : Stmt) : Prop := ∀ (c : Fr) (G : List SV) (env : Env) (σ : St) (H : Hp) (D : Ends), (∀ p ∈ c.pin, p.1 ∈ pr) → Stt T c G env σ H →
  PX T c G (fun _ => True) W (ex P cl pr st env) (KS T c G D) → SW X ax D σ H
def SndB (T : Wd) (P : Pg) (cl : Cl) (X : Cx) (W : WX) (pr : List Nat) (st : List IS) (ax : List Stmt) : Prop := ∀ (c : Fr) (G : List SV) (env : Env) (σ : St) (H : Hp) (D : Ends), (∀ p ∈ c.pin, p.1 ∈ pr) → Stt T c G env σ H →
  PX T c G (fun _ => True) W (exs P cl pr st env) (KS T c G D) → SsW X ax D σ H
section
variable {T : Wd} {c : Fr} {G : List SV} {W : WX} {α β : Type}
theorem PX.wk {S : St → Prop} {r : R α} {K : α → Prop} (h : PX T c G (fun _ => True) W r K) : PX T c G S W r K := by
  cases r with
  | ok a => exact h
  | exc ci x env => exact fun σ d H ps _ => h σ d H ps trivial
  | stuck => exact h
end
/-- a value that is no comprehension -/
def NoLc : Expr → Bool
  | .ListComp _ _ _ _ => false
  | .SetComp _ _ _ _ => false
  | .DictComp _ _ _ _ _ => false
  | _ => true
theorem sw_plain {e : Expr} {t : Option Expr} {l : Nat} {env : PySem.Env} (h : NoLc e = true) : swapsWith e t l env = pure false := by
  cases e <;> first | (cases h; done) | rfl
theorem sw_other {e t : Expr} {l : Nat} {env : PySem.Env} (h : (match t with | .Name _ _ => false | _ => true) = true) : swapsWith e (some t) l env = pure false := by
  cases t <;> first | (cases h; done) | (cases e <;> rfl)
theorem sws_other {e t : Expr} {l : Nat} {env : PySem.Env} (h : (match t with | .Name _ _ => false | _ => true) = true) : swapsWithSole [t] e l env = pure false := sw_other h
theorem sw_cell {e : Expr} {x : Str} {p : Pos} {l : Nat} {env : PySem.Env} (h : env.scope.names.lookup x = some .cell) : swapsWith e (some (.Name x p)) l env = pure false := by
  have e1 : env.kindOf x = some .cell := h
  have e2 : ((some NameKind.cell : Option NameKind) == some .local) = false := by decide
  cases e <;> first | rfl | (unfold swapsWith; simp only [e1, e2]; simp)
theorem sws_plain {e t : Expr} {l : Nat} {env : PySem.Env} (h : NoLc e = true) : swapsWithSole [t] e l env = pure false := sw_plain h
section
variable {T : Wd} {P : Pg} {cl : Cl} {X : Cx} {W : WX} {k : Nat} {pr : List Nat} {a b e : IE} {ax bx ex0 : Expr} {pos p2 : Pos}
theorem ex_thn {c : Fr} {G : List SV} {S : St → Prop} {α β : Type} {r : R (α × β)} {f : α → β → R (Fl × Env)} {K : Fl × Env → Prop} (h : PX T c G (fun _ => True) W (r.thn f) K) : PX T c G S W r fun p => PX T c G (fun _ => True) W (f p.1 p.2) K := by
  cases r with
  | ok p => exact h
  | exc ci x env => exact fun σ d H ps _ => h σ d H ps trivial
  | stuck => exact h
theorem ex_bind {c : Fr} {G : List SV} {S : St → Prop} {α : Type} {r : R α} {f : α → R (Fl × Env)} {K : Fl × Env → Prop} (h : PX T c G (fun _ => True) W (r.bind f) K) : PX T c G S W r fun p => PX T c G (fun _ => True) W (f p) K := by
  cases r with
  | ok p => exact h
  | exc ci x env => exact fun σ d H ps _ => h σ d H ps trivial
  | stuck => exact h
/-- what is stored into a name -/
theorem asg_end {c : Fr} {G : List SV} {env1 : Env} {σ : St} {H1 : Hp} {D : Ends} {i : Nat} {x : Opd} {v1 : V} (hp : ∀ p ∈ c.pin, p.1 ∈ pr) (st1 : Stt T c (x.tm v1 ++ G) env1 σ H1) (a1 : x.at σ v1)
    (po1 : PX T c G (fun _ => True) W (match x with
      | .tmp .emp => R.stuck
      | .tmp s => (R.of (put pr i s env1)).bind fun env2 => R.ok (Fl.nx, env2)
      | .pk _ => (R.of (frz x env1)).thn fun d env2 => (R.of (put pr i (.val d) env2)).bind fun env3 => R.ok (Fl.nx, env3)) (KS T c G D)) : D.nx (σ.set i (some v1)) H1 := by
  have fin : ∀ {s : Slot} {env2 : Env}, Stt T c ((s, v1) :: G) env2 σ H1 → PX T c G (fun _ => True) W ((R.of (put pr i s env2)).bind fun env3 => R.ok (Fl.nx, env3)) (KS T c G D) → D.nx (σ.set i (some v1)) H1 := by
    intro s env2 st2 po2
    obtain ⟨env3, e, po3⟩ := PX.of2 po2
    obtain ⟨h1, h2, rfl⟩ := put_ok e
    exact po3 _ _ (st2.put h2 fun p hpp z => h1 (z ▸ hp p hpp))
  cases x with
  | tmp s =>
    cases s with
    | emp => exact po1.elim
    | val d => exact fin st1 po1
    | own d => exact fin st1 po1
  | pk j =>
    obtain ⟨d, env2, _, st2, po2⟩ := it_val st1 a1 (PX.wk (S := (· = σ)) po1)
    cases h : frz (.pk j) env1 with
    | none => dsimp only at po1; rw [h] at po1; exact po1.elim
    | some q =>
      dsimp only at po1
      rw [h] at po1
      exact fin (frz_ok st1 a1 h) po1
theorem sndS_nm {i : Nat} {x : Str} (g : Gd T X W k) (hi : X.N[i]? = some x) (hx : Loc X.env.scope x) (hf : X.fn x = true ∨ X.env.scope.names.lookup x = some .local) (ha : Snd T P cl X W a ax) (hs : swapsWith ax (some (.Name x p2)) pos.line X.env = pure false) : SndS T P cl X W pr (.asg (.nm i) a) (.Assign [.Name x p2] ax pos) := by
  intro c G env σ H D hp st po
  unfold ex at po
  refine SW.of (ps_set g.nd hi hx pe_W hs hf) (ha c G env σ H _ st ((ex_thn po).mono ?_))
  rintro ⟨o, env1⟩ _ po1 v H1 st1 a1
  exact asg_end hp st1 a1 po1
theorem sndS_tp {ts : List Tg} {tgs : List Expr} {kk : Nat} (g : Gd T X W k) (hg : SndG T X pr (.tp ts) (.Tuple tgs kk p2)) (ha : Snd T P cl X W a ax) (hs : NoLc ax = true) (hw : swappedStores [.Tuple tgs kk p2] ax X.env = pure none) :
    SndS T P cl X W pr (.asg (.tp ts) a) (.Assign [.Tuple tgs kk p2] ax pos) := by
  intro c G env σ H D hp st po
  unfold ex at po
  refine SW.of (ps_asg pe_W pg_W (sws_plain hs) hw rfl) (ha c G env σ H _ st ((ex_thn po).mono ?_))
  rintro ⟨o, env1⟩ _ po1 v H1 st1 a1
  have po1' : PX T c G (fun _ => True) W ((R.of (frz o env1)).thn fun d env2 => (R.of (bnd pr (.tp ts) d env2)).bind fun env3 => R.ok (Fl.nx, env3)) (KS T c G D) := po1
  cases h : frz o env1 with
  | none => rw [h] at po1'; exact po1'.elim
  | some q =>
    rw [h] at po1'
    obtain ⟨env3, e, po2⟩ := PX.of2 (show PX T c G (fun _ => True) W ((R.of (bnd pr (.tp ts) q.1 q.2)).bind fun env3 => R.ok (Fl.nx, env3)) (KS T c G D) from po1')
    exact hg c G q.2 env3 σ H1 q.1 v _ hp (frz_ok st1 a1 h) e fun σ' st' _ => po2 σ' H1 st'
/-! a[i] = .. -/
def rSetD : V → V → V → Hp → (Hp → Prop) → Prop := fun o i v H Q => ∃ a H4, o = .ref a ∧ DPut H a i v H4 ∧ Q H4
theorem set_dict (hu : X.A.units + 1 < cLine) : PSet X rSetD := by
  intro pins s σ H o i v ov iv u Q I ro ri rv h
  obtain ⟨q, H4, rfl, hput, hq⟩ := h
  obtain rfl : ov = Value.ref q := ro
  exact d_setItem hu I hput ri rv fun s' I' => ⟨H4, I', hq⟩
theorem PSet.or {t t' : TSet} (h : PSet X t) (h' : PSet X t') : PSet X (fun o i v H Q => t o i v H Q ∨ t' o i v H Q) := by
  intro pins s σ H o i v ov iv u Q I ro ri rv q
  rcases q with q | q
  · exact h pins s σ H o i v ov iv u Q I ro ri rv q
  · exact h' pins s σ H o i v ov iv u Q I ro ri rv q
theorem ownD_ok {o : Opd} {env : Env} {i : Nat} {d : D} (e : ownD o env = some (i, d)) : o = .pk i ∧ env.getD i .emp = .own d := by
  cases o with
  | tmp _ => cases e
  | pk j =>
    unfold ownD at e
    dsimp only at e
    split at e
    · rename_i d' h
      cases e
      exact ⟨rfl, h⟩
    · cases e
def SndSub (T : Wd) (P : Pg) (cl : Cl) (X : Cx) (W : WX) (a i : IE) (tg : Expr) : Prop := ∀ (c : Fr) (G : List SV) (env : Env) (σ : St) (H : Hp) (d : D) (v : V) (Q : St → Hp → Prop), Stt T c ((.val d, v) :: G) env σ H →
  PX T c G (· = σ) W (sets P cl a i d env) (fun env' => ∀ H', Stt T c G env' σ H' → Q σ H') → GW X tg v σ H Q
def NoSlc : Expr → Bool
  | .Slice _ _ _ _ => false
  | _ => true
theorem asg_sub {o i : Expr} {env : PySem.Env} {pos : Pos} (h : NoSlc i = true) (v : Value) : assign (.Subscript o i pos) env v = (do
      let ov ← holding [v] (eval o env)
      let iv ← holding [v, ov] (eval i env)
      standAt pos
      holding [v, ov, iv] (setItem ov iv v)
      release [v, ov, iv] []) := by
  cases i <;> first | (cases h; done) | rfl
theorem snd_sub (g : Gd T X W k) (hix : NoSlc bx = true) (ha : Snd T P cl X W a ax) (hb : Snd T P cl X W b bx) : SndSub T P cl X W a b (.Subscript ax bx pos) := by
  intro c G env σ H d v Q st po
  unfold sets at po
  refine GW.of (pg_sub pe_W pe_W (PSet.or set_list (set_dict (units1 g.room))) (asg_sub hix)) ?_
  have po' := PX.frame [(Slot.val d, v)] po
  refine two ha hb (R := fun v1 v2 H2 => (rSetL v1 v2 v H2 fun H3 => Q σ H3) ∨ rSetD v1 v2 v H2 fun H3 => Q σ H3) st po' fun x y env2 v1 v2 H2 st2 a1 a2 po2 => ?_
  cases h0 : ownD x env2 with
  | none => rw [h0] at po2; exact po2.elim
  | some q =>
  obtain ⟨i, dc⟩ := q
  rw [h0] at po2
  obtain ⟨rfl, h1⟩ := ownD_ok h0
  dsimp only at po2
  cases h2 : y.data env2 with
  | none => rw [h2] at po2; exact po2.elim
  | some di =>
  rw [h2] at po2
  obtain ⟨c', e, po3⟩ := PX.of2 po2
  have po4 : ∀ H', Stt T c G (env2.set i (.own c')) σ H' → Q σ H' := po3
  have fin : ∀ {H' : Hp}, Stt T c ((y.tm v2 ++ (Opd.pk i).tm v1) ++ ([(Slot.val d, v)] ++ G)) (env2.set i (.own c')) σ H' → Q σ H' := fun st3 => po4 _ st3.right.right
  obtain ⟨F, p, o, rfl, q, ho, r, ch⟩ := st2.ownAt h1 a1
  have rp : Rep T F d v := r.each (.val d, v) (List.mem_append_left _ (List.mem_append_right _ (List.mem_append_left _ (List.mem_singleton.mpr rfl))))
  have s2 := st2.rep (s := y.slot env2) (v := v2) (d := di)
  have r2 : Rep T H2 di v2 := Opd.rep st2 a2 h2 fun p h => List.mem_append_left _ (List.mem_append_left _ h)
  unfold setD at e
  split at e
  · obtain ⟨j, e1, rfl⟩ := Option.map_eq_some_iff.mp e
    obtain ⟨vs, rfl, rs⟩ := ho
    obtain rfl := Rep.int r2
    exact .inl ⟨p, vs, _, j, rfl, rfl, q, by rw [← rs.len]; exact e1, fin (ch _ _ ⟨_, rfl, rs.set j rp⟩)⟩
  · split at e
    · rename_i kk hk
      split at e
      · rename_i hz
        cases e
        obtain ⟨vs, rfl, ⟨l, nd⟩, rs⟩ := ho
        obtain rfl := r2.key hk
        obtain ⟨ws, e1, e2, e3⟩ := putK_zip l rs nd rp
        refine .inr ⟨p, _, rfl, DPut.k q (by rw [List.length_zip, ← l, Nat.min_self]; exact big_lt hz), ?_⟩
        rw [e1]
        exact fin (ch _ _ ⟨ws, rfl, ⟨e2, putKs_nodup nd⟩, e3⟩)
      · cases e
    · cases e
  · rename_i q'
    split at e
    · rename_i kk hk
      split at e
      · rename_i hz
        rw [Bool.and_eq_true, decide_eq_true_iff] at hz
        obtain ⟨hm, hz⟩ := hz
        cases e
        obtain ⟨vs, rfl, ⟨l, nd⟩, rs⟩ := ho
        have hsl : ∃ dd, y.slot env2 = .own dd := by
          cases hq : y.slot env2 with
          | own dd => exact ⟨dd, rfl⟩
          | val dd => rw [hq] at hm; cases hm
          | emp => rw [hq] at hm; cases hm
        obtain ⟨dd, hdd⟩ := hsl
        have hdd' : dd = .tup q' := by
          have := h2
          unfold Opd.data at this
          rw [hdd] at this
          exact Option.some.inj this
        subst hdd'
        obtain ⟨F2, r', k'⟩ := id st2
        have sl := Opd.sl r' k' a2 h2 fun p h => List.mem_append_left _ (List.mem_append_left _ h)
        rw [hdd] at sl
        obtain ⟨b2, o2, rfl, q2, _, ⟨ws2, rfl, rs2⟩, _⟩ := sl
        have hws := rs2.keys hk
        rw [hws] at q2
        obtain ⟨ws, e1, e2, e3⟩ := putK_zip l rs nd rp
        refine .inr ⟨p, _, rfl, DPut.t q q2 (by rw [List.length_zip, ← l, Nat.min_self]; exact big_lt hz), ?_⟩
        rw [e1]
        exact fin (ch _ _ ⟨ws, rfl, ⟨e2, putKs_nodup nd⟩, e3⟩)
      · cases e
    · cases e
  · cases e
theorem sndS_sub (g : Gd T X W k) (hs : SndSub T P cl X W a b (.Subscript ax bx p2)) (he : Snd T P cl X W e ex0) : SndS T P cl X W pr (.ssub a b e) (.Assign [.Subscript ax bx p2] ex0 pos) := by
  intro c G env σ H D hp st po
  unfold ex at po
  refine SW.of (ps_asg pe_W pg_W (sws_other rfl) rfl rfl) (he c G env σ H _ st ((ex_thn po).mono ?_))
  rintro ⟨o, env1⟩ _ po1 v H1 st1 a1
  dsimp only at po1
  cases h : frz o env1 with
  | none => rw [h] at po1; exact po1.elim
  | some q =>
    rw [h] at po1
    have po2 : PX T c G (fun _ => True) W ((sets P cl a b q.1 q.2).bind fun env3 => R.ok (Fl.nx, env3)) (KS T c G D) := po1
    exact hs c G q.2 σ H1 q.1 v _ (frz_ok st1 a1 h) ((ex_bind po2).mono fun env' _ k H' st' => k σ H' st')
theorem sndS_sub2 {a2 b2 : IE} {t1 t2 : Expr} {kk : Nat} (g : Gd T X W k) (hs : SndSub T P cl X W a b t1) (hs2 : SndSub T P cl X W a2 b2 t2) (he : Snd T P cl X W e ex0) (hn : NoLc ex0 = true) (hw : swappedStores [.Tuple [t1, t2] kk p2] ex0 X.env = pure none)
    (n1 : NoSt t1 = true) (n2 : NoSt t2 = true) : SndS T P cl X W pr (.ssub2 a b a2 b2 e) (.Assign [.Tuple [t1, t2] kk p2] ex0 pos) := by
  intro c G env σ H D hp st po
  unfold ex at po
  obtain ⟨m1, m2⟩ := asg_all (env := X.env) (es := [t1, t2]) (by rw [List.all_cons, List.all_cons, n1, n2]; rfl)
  refine SW.of (ps_asg pe_W (pg_tup g.calm (pgs_cons pg_W (pgs_cons pg_W pgs_nil (by rw [noSt_asg n2]; rfl)) (by rw [noSt_asg n1]; rfl)) m1 m2) (sws_plain hn) hw rfl) (he c G env σ H _ st ((ex_thn po).mono ?_))
  rintro ⟨o, env1⟩ _ po1 v H1 st1 a1
  dsimp only at po1
  cases h : frz o env1 with
  | none => rw [h] at po1; exact po1.elim
  | some q =>
    rw [h] at po1
    obtain ⟨d, env2⟩ := q
    have st2 := frz_ok st1 a1 h
    have po2 : PX T c G (fun _ => True) W (match d with
      | .tup [dz, dw] => (sets P cl a b dz env2).bind fun env3 => (sets P cl a2 b2 dw env3).bind fun env4 => R.ok (Fl.nx, env4)
      | _ => R.stuck) (KS T c G D) := po1
    split at po2
    · rename_i dz dw
      obtain ⟨F, r, ko⟩ := st2
      obtain ⟨p, vs, rfl, q, rs⟩ : Rep T F (.tup [dz, dw]) v := r.each (.val (.tup [dz, dw]), v) List.mem_cons_self
      have q' : SqT X.K H1 p vs := by rw [g.K]; exact r.hp.sub.st q
      have rs' := rs
      obtain ⟨v1, vr, rfl, r1, v2, vr2, rfl, r2, hnil⟩ := rs'
      have hnil' : vr2 = [] := hnil
      subst hnil'
      refine ⟨p, [v1, v2], rfl, q', rfl, v1, [v2], rfl, ?_⟩
      have st3 : Stt T c ((.val dz, v1) :: ((.val dw, v2) :: G)) env2 σ H1 := ⟨F, (r.uncons.val r2).val r1, ko⟩
      have po3 := ex_bind (S := (· = σ)) po2
      refine hs c ((.val dw, v2) :: G) env2 σ H1 dz v1 _ st3 (PX.frame [(Slot.val dw, v2)] (po3.mono ?_))
      intro env3 _ po4 H2 st4
      refine ⟨v2, [], rfl, ?_⟩
      refine hs2 c G env3 σ H2 dw v2 _ st4 ((ex_bind po4).mono fun env4 _ k H' st' => ⟨rfl, k σ H' st'⟩)
    · exact po2.elim
end
end Fm
end

section
set_option Elab.async false
set_option linter.all false
set_option maxRecDepth 10000
set_option autoImplicit false
set_option maxHeartbeats 1000000
namespace Fm
open PySem L2
/-! the other statements -/
section
variable {T : Wd} {P : Pg} {cl : Cl} {X : Cx} {W : WX} {k : Nat} {pr : List Nat} {a b e : IE} {ax bx ex0 : Expr} {pos p2 p3 : Pos}
theorem sndS_pass : SndS T P cl X W pr .pass (.Pass pos) := by
  intro c G env σ H D hp st po
  unfold ex at po
  exact SW.of ps_pass (po σ H st)
theorem sndS_doc {x : Str} {j : Nat} : SndS T P cl X W pr .pass (.Expr (.Constant (.str x) j p2) pos) := by
  intro c G env σ H D hp st po
  unfold ex at po
  exact SW.of ps_doc (po σ H st)
theorem sndS_brk : SndS T P cl X W pr .brk (.Break pos) := by
  intro c G env σ H D hp st po
  unfold ex at po
  exact SW.of ps_break (po σ H st)
theorem sndS_cnt : SndS T P cl X W pr .cnt (.Continue pos) := by
  intro c G env σ H D hp st po
  unfold ex at po
  exact SW.of ps_continue (po σ H st)
theorem sndS_never {ax : Stmt} : SndS T P cl X W pr .never ax := by
  intro c G env σ H D hp st po
  unfold ex at po
  exact po.elim
theorem sndS_xp (ha : Snd T P cl X W a ax) (hs : NoLc ax = true) : SndS T P cl X W pr (.xp a) (.Expr ax pos) := by
  intro c G env σ H D hp st po
  unfold ex at po
  refine SW.of (ps_expr pe_W (sw_plain hs)) (ha c G env σ H _ st ((ex_thn po).mono ?_))
  rintro ⟨o, env1⟩ _ po1 v H1 st1 a1
  exact po1 σ H1 st1.right
theorem sndS_retN : SndS T P cl X W pr (.ret (.cn .non)) (.Return none pos) := by
  intro c G env σ H D hp st po
  unfold ex ev at po
  have po' : KS T c G D (.rt (.val .non), env) := po
  exact SW.of ps_retN (po' .non σ H st.non)
theorem sndS_ret (ha : Snd T P cl X W a ax) : SndS T P cl X W pr (.ret a) (.Return (some ax) pos) := by
  intro c G env σ H D hp st po
  unfold ex at po
  refine SW.of (ps_ret pe_W) (ha c G env σ H _ st ((ex_thn po).mono ?_))
  rintro ⟨o, env1⟩ _ po1 v H1 st1 a1
  dsimp only at po1
  cases o with
  | tmp s =>
    cases s with
    | emp => exact po1.elim
    | val d => exact po1 v σ H1 st1
    | own d => exact po1 v σ H1 st1
  | pk i =>
    dsimp only at po1
    split at po1
    · cases h : frz (.pk i) env1 with
      | none => rw [h] at po1; exact po1.elim
      | some q =>
        rw [h] at po1
        exact po1 v σ H1 (frz_ok st1 a1 h)
    · have a1' : σ[i]? = some (some v) := a1
      have st1' : Stt T c G env1 σ H1 := st1
      have go : ∀ {s : Slot}, env1.getD i .emp = s → s ≠ .emp → Stt T c ((s, v) :: G) (env1.set i .emp) σ H1 := by
        intro s hs hn
        obtain ⟨F, r, ko⟩ := st1'
        obtain ⟨w, A, B, hw, e1, e2, _, r1⟩ := r.atName ko (getD_some hs hn) hn
        rw [a1'] at hw
        cases hw
        refine ⟨F, ?_, ko.gone⟩
        rw [e2 .emp]
        have r2 : Rel T c ((.emp, v) :: ((s, v) :: (G ++ (A ++ B)))) F H1 := r1.emp
        have r3 : Rel T c ((.emp, v) :: (((s, v) :: G) ++ (A ++ B))) F H1 := r2
        exact Rel.unName (G := (s, v) :: G) r3
      cases hs : env1.getD i .emp with
      | emp => rw [hs] at po1; exact po1.elim
      | val d => rw [hs] at po1; exact po1 v σ H1 (go hs (fun z => nomatch z))
      | own d => rw [hs] at po1; exact po1 v σ H1 (go hs (fun z => nomatch z))
theorem sndB_nil : SndB T P cl X W pr [] [] := by
  intro c G env σ H D hp st po
  unfold exs at po
  exact SsW.of pss_nil (po σ H st)
theorem sndB_cons {s : IS} {ss : List IS} {sx : Stmt} {ssx : List Stmt} (h : SndS T P cl X W pr s sx) (hr : SndB T P cl X W pr ss ssx) : SndB T P cl X W pr (s :: ss) (sx :: ssx) := by
  intro c G env σ H D hp st po
  unfold exs at po
  refine SsW.of (pss_cons ps_W pss_W) (h c G env σ H { D with nx := fun σ' H' => SsW X ssx D σ' H' } hp st ?_)
  cases h1 : ex P cl pr s env with
  | stuck => rw [h1] at po; exact po.elim
  | exc ci x e => rw [h1] at po; exact po
  | ok q =>
    obtain ⟨f, env1⟩ := q
    rw [h1] at po
    cases f with
    | nx => exact fun σ' H' st' => hr c G env1 σ' H' D hp st' po
    | bk => exact po
    | ct => exact po
    | rt s => exact po
theorem sndS_if {x y : List IS} {xs ys : List Stmt} (hc : SndT T P cl X W a ax) (h1 : SndB T P cl X W pr x xs) (h2 : SndB T P cl X W pr y ys) : SndS T P cl X W pr (.ife a x y) (.If ax xs ys pos) := by
  intro c G env σ H D hp st po
  unfold ex at po
  refine SW.of (ps_if pt_W pss_W pss_W) (hc c G env σ H _ st ((ex_thn po).mono ?_))
  rintro ⟨k, env1⟩ _ po1 H1 st1
  cases k with
  | true => exact h1 c G env1 σ H1 D hp st1 po1
  | false => exact h2 c G env1 σ H1 D hp st1 po1
theorem sndS_fld {f : Nat} (g : Gd T X W k) (inj : ∀ a b, T.fld a = T.fld b → a = b) (hf : ∀ c, P.fok c f = true → L2.Cls T.K (T.cls c) ∧ NoAttr T.K (T.cls c) (T.fld f)) (ha : Snd T P cl X W a ax) (he : Snd T P cl X W e ex0) :
    SndS T P cl X W pr (.sfd a f e) (.Assign [.Attribute ax (T.fld f) p2] ex0 pos) := by
  intro c G env σ H D hp st po
  unfold ex at po
  refine SW.of (ps_fld pe_W pe_W (sw_other rfl)) (he c G env σ H _ st ((ex_thn po).mono ?_))
  rintro ⟨o, env1⟩ _ po1 v H1 st1 a1
  dsimp only at po1
  cases h : frz o env1 with
  | none => rw [h] at po1; exact po1.elim
  | some q =>
  rw [h] at po1
  obtain ⟨d, env2⟩ := q
  have st2 := frz_ok st1 a1 h
  have po2 : PX T c G (fun _ => True) W ((ev P cl a env2).thn fun x env3 => match ownD x env3 with
    | some (k, .ins c fs vs) => if P.fok c f && decide (fs.length < 1000) then R.ok (Fl.nx, env3.set k (.own (.ins c (putKs fs f) (putVs fs vs f d)))) else R.stuck
    | _ => R.stuck) (KS T c G D) := po1
  refine ha c ((.val d, v) :: G) env2 σ H1 _ st2 (PX.frame [(Slot.val d, v)] ((ex_thn po2).mono ?_))
  rintro ⟨x, env3⟩ _ po3 v2 H2 st3 a3
  dsimp only at po3 st3
  split at po3
  · rename_i i ci fs ds h0
    obtain ⟨rfl, h1⟩ := ownD_ok h0
    split at po3
    · rename_i hk
      rw [Bool.and_eq_true, decide_eq_true_iff] at hk
      obtain ⟨c1, c2⟩ := hf ci hk.1
      obtain ⟨F, p, o, rfl, q, ⟨dx, vs, rfl, l, rs⟩, r, ch⟩ := st3.ownAt h1 a3
      have rp : Rep T F d v := r.each (.val d, v) (List.mem_append_left _ (List.mem_append_right _ List.mem_cons_self))
      rw [← g.K] at c1 c2
      have hl : ((fs.map T.fld).zip vs).length < 1000 := by
        rw [List.length_zip, List.length_map, ← l, Nat.min_self]
        exact hk.2
      obtain ⟨ws, e1, e2, e3⟩ := putF_zip inj l rs rp
      refine ⟨p, _, dx, _, rfl, q, c1, c2, hl, po3 σ _ ?_⟩
      rw [e1]
      exact (ch (.ins ci (putKs fs f) (putVs fs ds f d)) _ ⟨dx, ws, rfl, e2, e3⟩).right.tail
    · exact po3.elim
  · exact po3.elim
where
  putF_zip {H : Hp} {f : Nat} {d : D} {v : V} (inj : ∀ a b, T.fld a = T.fld b → a = b) : ∀ {fs : List Nat} {vs : List V} {ds : List D}, fs.length = vs.length → Reps T H ds vs → Rep T H d v →
      ∃ ws, putF (T.fld f) v ((fs.map T.fld).zip vs) = ((putKs fs f).map T.fld).zip ws ∧ (putKs fs f).length = ws.length ∧ Reps T H (putVs fs ds f d) ws
    | [], vs, ds, l, r, q => by
      have hv : vs = [] := List.length_eq_zero_iff.mp l.symm
      subst hv
      exact ⟨[v], rfl, rfl, ⟨v, [], rfl, q, rfl⟩⟩
    | x :: fs, [], _, l, _, _ => by cases l
    | x :: fs, w :: vs, [], l, r, _ => by cases (show w :: vs = [] from r)
    | x :: fs, w :: vs, y :: ds, l, r, q => by
      obtain ⟨q1, qs⟩ := r.uncons
      show ∃ ws, (if T.fld x = T.fld f then (T.fld x, v) :: (fs.map T.fld).zip vs else (T.fld x, w) :: putF (T.fld f) v ((fs.map T.fld).zip vs)) = _ ∧ _
      by_cases h : x = f
      · subst h
        have hk : putKs (x :: fs) x = x :: fs := by
          unfold putKs hasK
          rw [List.any_cons, decide_eq_true rfl]
          rfl
        rw [hk, if_pos rfl]
        refine ⟨v :: vs, rfl, by simpa using l, ?_⟩
        show Reps T H (if x = x then d :: ds else _) _
        rw [if_pos rfl]
        exact qs.cons q
      · obtain ⟨ws, e1, e2, e3⟩ := putF_zip inj (fs := fs) (vs := vs) (ds := ds) (by simpa using l) qs q
        have hk : putKs (x :: fs) f = x :: putKs fs f := by
          unfold putKs hasK
          rw [List.any_cons, decide_eq_false h, Bool.false_or]
          split <;> rfl
        rw [hk, if_neg (fun z => h (inj _ _ z)), e1]
        refine ⟨w :: ws, rfl, by simp [e2], ?_⟩
        show Reps T H (if x = f then d :: ds else y :: putVs fs ds f d) _
        rw [if_neg h]
        exact e3.cons q1
/-! two names at once -/
theorem sndS_par {i j : Nat} {x y : Str} {kt k2 : Nat} {pt pt2 : Pos} (g : Gd T X W k) (hi : X.N[i]? = some x) (hj : X.N[j]? = some y) (hij : i ≠ j) (hx : X.env.scope.names.lookup x = some .local) (hy : X.env.scope.names.lookup y = some .local)
    (ha : Snd T P cl X W a ax) (hb : Snd T P cl X W b bx) (hs : NoSt ax = true) (hs' : NoSt bx = true) (hw : swappedStores [.Tuple [.Name x p2, .Name y p3] kt pt] (.Tuple [ax, bx] k2 pt2) X.env = pure (some [x, y])) :
    SndS T P cl X W pr (.par2 i j a b) (.Assign [.Tuple [.Name x p2, .Name y p3] kt pt] (.Tuple [ax, bx] k2 pt2) pos) := by
  intro c G env σ H D hp st po
  unfold ex at po
  refine SW.of (ps_par g.calm g.nd hi hj hij hx hy (pa_cons pe_W (pa_one pe_W hs') (noSt_each hs)) hw rfl) ?_
  refine ha c G env σ H _ st ((ex_thn po).mono ?_)
  rintro ⟨x1, env1⟩ _ po1 v1 H1 st1 a1
  refine hb c (x1.tm v1 ++ G) env1 σ H1 _ st1 (((ex_thn po1).mono ?_).frame _)
  rintro ⟨x2, env2⟩ _ po2 v2 H2 st2 a2
  dsimp only at po2 st2
  cases h : frz x1 env2 with
  | none => rw [h] at po2; exact po2.elim
  | some q =>
  obtain ⟨d1, env3⟩ := q
  rw [h] at po2
  dsimp only [R.of, R.thn] at po2
  have st3 : Stt T c (x1.tm v1 ++ (x2.tm v2 ++ G)) env2 σ H2 := by
    refine st2.perm ?_
    rw [← List.append_assoc, ← List.append_assoc]
    exact List.Perm.append_right _ List.perm_append_comm
  have st4 : Stt T c ((.val d1, v1) :: (x2.tm v2 ++ G)) env3 σ H2 := frz_ok st3 a1 h
  cases h2 : frz x2 env3 with
  | none => rw [h2] at po2; exact po2.elim
  | some q =>
  obtain ⟨d2, env4⟩ := q
  rw [h2] at po2
  have st5 : Stt T c (x2.tm v2 ++ ((.val d1, v1) :: G)) env3 σ H2 := st4.perm List.perm_middle.symm
  have st6 : Stt T c ((.val d2, v2) :: ((.val d1, v1) :: G)) env4 σ H2 := frz_ok st5 a2 h2
  have po3 : PX T c G (fun _ => True) W ((R.of (put pr i (.val d1) env4)).bind fun env5 => (R.of (put pr j (.val d2) env5)).bind fun env6 => R.ok (Fl.nx, env6)) (KS T c G D) := po2
  obtain ⟨env5, e5, po4⟩ := PX.of2 po3
  obtain ⟨env6, e6, po5⟩ := PX.of2 po4
  obtain ⟨n1, n2, rfl⟩ := put_ok e5
  obtain ⟨n3, n4, rfl⟩ := put_ok e6
  have st7 : Stt T c ((.val d1, v1) :: ((.val d2, v2) :: G)) env4 σ H2 := st6.perm (List.Perm.swap _ _ _)
  have st8 := st7.put n2 fun p hpp z => n1 (z ▸ hp p hpp)
  have st9 := st8.put n4 fun p hpp z => n3 (z ▸ hp p hpp)
  exact ⟨v1, v2, rfl, po5 _ _ st9⟩
/-! for -/
def NoSet : Expr → Bool
  | .Set _ _ _ => false
  | _ => true
theorem noSet_it {e : Expr} {env : PySem.Env} (h : NoSet e = true) : ∀ x, foldedSetIterable e env x = pure x := by
  intro x
  cases e <;> first | (cases h; done) | rfl
theorem sndS_for {it : It} {t : Tg} {tg iter : Expr} {body : List IS} {bodyx : List Stmt} (g : Gd T X W k) (hi : SndI T P cl X W it tg iter) (ht : SndG T X pr t tg) (hb : SndB T P cl X W pr body bodyx) (hs : NoSet iter = true) :
    SndS T P cl X W pr (.for_ t it body) (.For tg iter bodyx [] pos) := by
  intro c G env σ H D hp st po
  unfold ex at po
  refine SW.of (ps_for g.pass g.calm pi_W pg_W pss_W (noSet_it hs)) (hi c G env σ H _ st ((ex_thn po).mono ?_))
  rintro ⟨ds, env1⟩ _ po1 J s v H1 wk st1
  dsimp only at po1 wk st1
  let Wv : Nat → St → Hp → Prop := fun i σ H => ∃ env, Stt T c ((s, v) :: G) env σ H ∧ PX T c G (fun _ => True) W (loop pr t (fun env => exs P cl pr body env) (ds.drop i) env) (KS T c G D)
  refine ⟨fun i m σ H => m = ds.length - i ∧ i ≤ ds.length ∧ Wv i σ H, ⟨ds.length, rfl, Nat.zero_le _, env1, st1, po1⟩, ?_⟩
  rintro i m σ2 H2 ⟨rfl, hle, env2, st2, po2⟩
  obtain ⟨w1, w2⟩ := wk c G env2 σ2 H2 i st2
  by_cases hlt : i < ds.length
  · have hd : ds[i]? = some ds[i] := List.getElem?_eq_getElem hlt
    obtain ⟨w3, w4⟩ := w2 _ hd
    refine .inr ⟨w3, Wv (i + 1), fun σ' H' q => ⟨ds.length - (i + 1), by omega, rfl, hlt, q⟩, fun x H3 hy => ?_⟩
    have st3 := w4 x H3 hy
    rw [List.drop_eq_getElem_cons hlt] at po2
    unfold loop at po2
    cases hbn : bnd pr t ds[i] env2 with
    | none => rw [hbn] at po2; exact po2.elim
    | some env3 =>
    rw [hbn] at po2
    refine ht c ((s, v) :: G) env2 env3 σ2 H3 _ x _ hp st3 hbn fun σ4 st4 _ => ?_
    refine hb c ((s, v) :: G) env3 σ4 H3 { D with nx := Wv (i + 1), ct := Wv (i + 1), bk := D.nx } hp st4 ?_
    dsimp only at po2
    cases h1 : exs P cl pr body env3 with
    | stuck => rw [h1] at po2; exact po2.elim
    | exc ci x e =>
      rw [h1] at po2
      exact PX.frame (K := KS T c ((s, v) :: G) { D with nx := Wv (i + 1), ct := Wv (i + 1), bk := D.nx }) [(s, v)] po2
    | ok q =>
      obtain ⟨f, env4⟩ := q
      rw [h1] at po2
      cases f with
      | nx => exact fun σ' H' st' => ⟨env4, st', po2⟩
      | ct => exact fun σ' H' st' => ⟨env4, st', po2⟩
      | bk => exact fun σ' H' st' => po2 σ' H' st'.tail
      | rt s' => exact fun v' σ' H' st' => po2 v' σ' H' (st'.less (List.Sublist.cons_cons _ (List.sublist_cons_self _ _)))
  · have e : i = ds.length := by omega
    refine .inl ⟨w1 e, ?_⟩
    rw [e, List.drop_length] at po2
    unfold loop at po2
    exact po2 σ2 H2 st2.tail
end
end Fm
end

section
set_option Elab.async false
set_option linter.all false
set_option maxRecDepth 10000
set_option autoImplicit false
set_option maxHeartbeats 1000000
namespace Fm
open PySem L2
/-! the own names of a block -/
section
variable {T : Wd} {c : Fr} {G A : List SV} {env : Env} {σ : St} {F H : Hp}
theorem Rel.emp_any {v w : V} {B : List SV} (r : Rel T c (A ++ (.emp, v) :: B) F H) : Rel T c (A ++ (.emp, w) :: B) F H := by
  have h1 : Rel T c ((.emp, v) :: (A ++ B)) F H := r.perm List.perm_middle
  have h2 : Rel T c ((.emp, w) :: (A ++ B)) F H := h1.uncons.emp
  exact h2.perm List.perm_middle.symm
/-- without pins -/
def Fr.bare (c : Fr) : Fr := { c with pin := [] }
theorem Rel.bare (r : Rel T c A F H) : Rel T c.bare A F H := ⟨⟨r.hp.sub, r.hp.base, r.hp.new, r.hp.prot, r.hp.dom⟩, r.each, r.nd⟩
theorem Rel.unbare (r : Rel T c.bare A F H) : Rel T c A F H := ⟨⟨r.hp.sub, r.hp.base, r.hp.new, r.hp.prot, r.hp.dom⟩, r.each, r.nd⟩
theorem Stt.bare (h : Stt T c G env σ H) : Stt T c.bare G env σ H := by
  obtain ⟨F, r, k⟩ := h
  exact ⟨F, r.bare, ⟨k.len, k.has, fun p hp => by cases hp⟩⟩
theorem wipeE_len : ∀ {vs : List Nat} {env : Env}, (wipeE env vs).length = env.length
  | [], _ => rfl
  | v :: vs, env => by unfold wipeE; rw [List.length_set, wipeE_len]
theorem wipe_get : ∀ {vs : List Nat} {σ : St} {i : Nat}, (wipe σ vs)[i]? = if i ∈ vs then (if i < σ.length then some none else none) else σ[i]?
  | [], σ, i => by simp [wipe]
  | v :: vs, σ, i => by
    unfold wipe
    rw [set_get, wipe_length, wipe_get]
    by_cases h : v = i
    · subst h
      rw [if_pos rfl, if_pos List.mem_cons_self]
    · rw [if_neg h]
      by_cases h2 : i ∈ vs
      · rw [if_pos h2, if_pos (List.mem_cons_of_mem _ h2)]
      · rw [if_neg h2, if_neg (fun z => (List.mem_cons.mp z).elim (fun e => h e.symm) h2)]
theorem wipeE_get : ∀ {vs : List Nat} {env : Env} {i : Nat}, (wipeE env vs)[i]? = if i ∈ vs then (if i < env.length then some .emp else none) else env[i]?
  | [], env, i => by simp [wipeE]
  | v :: vs, env, i => by
    unfold wipeE
    rw [set_get, wipeE_len, wipeE_get]
    by_cases h : v = i
    · subst h
      rw [if_pos rfl, if_pos List.mem_cons_self]
    · rw [if_neg h]
      by_cases h2 : i ∈ vs
      · rw [if_pos h2, if_pos (List.mem_cons_of_mem _ h2)]
      · rw [if_neg h2, if_neg (fun z => (List.mem_cons.mp z).elim (fun e => h e.symm) h2)]
theorem unwipe_len : ∀ {vs : List Nat} {env0 env : Env}, (unwipe env0 env vs).length = env.length
  | [], _, _ => rfl
  | v :: vs, env0, env => by unfold unwipe; rw [List.length_set, unwipe_len]
theorem unwipe_get : ∀ {vs : List Nat} {env0 env : Env} {i : Nat}, (unwipe env0 env vs)[i]? = if i ∈ vs then (if i < env.length then some (env0.getD i .emp) else none) else env[i]?
  | [], _, env, i => by simp [unwipe]
  | v :: vs, env0, env, i => by
    unfold unwipe
    rw [set_get, unwipe_len, unwipe_get]
    by_cases h : v = i
    · subst h
      rw [if_pos rfl, if_pos List.mem_cons_self]
    · rw [if_neg h]
      by_cases h2 : i ∈ vs
      · rw [if_pos h2, if_pos (List.mem_cons_of_mem _ h2)]
      · rw [if_neg h2, if_neg (fun z => (List.mem_cons.mp z).elim (fun e => h e.symm) h2)]
theorem wipe_dif {vs l : List Nat} {σ' : St} (d : Dif l σ σ') (h : ∀ i ∈ l, i ∈ vs) : wipe σ' vs = wipe σ vs := by
  refine List.ext_getElem? fun i => ?_
  rw [wipe_get, wipe_get, d.1]
  by_cases hi : i ∈ vs
  · rw [if_pos hi, if_pos hi]
  · rw [if_neg hi, if_neg hi, d.2 i fun z => hi (h i z)]
theorem wipe_wipe {vs : List Nat} : wipe (wipe σ vs) vs = wipe σ vs := by
  refine List.ext_getElem? fun i => ?_
  rw [wipe_get, wipe_length]
  by_cases hi : i ∈ vs
  · rw [if_pos hi, wipe_get, if_pos hi]
  · rw [if_neg hi]
/-- one name forgotten: its pair goes into the frame -/
theorem Rel.forget {v : Nat} (r : Rel T c (A ++ zp env σ) F H) (l : env.length = σ.length) : Rel T c ((env.getD v .emp, ((σ[v]?).getD none).getD .non) :: (A ++ zp (env.set v .emp) (σ.set v none))) F H := by
  by_cases hv : v < env.length
  · have h1 : env[v]? = some env[v] := List.getElem?_eq_getElem hv
    have h2 : σ[v]? = some σ[v] := List.getElem?_eq_getElem (by rw [← l]; exact hv)
    obtain ⟨B1, B2, e1, _, e3⟩ := split_at (zp_get h1 h2)
    rw [zp_set, e3]
    have hs : env.getD v .emp = env[v] := by rw [List.getD_eq_getElem?_getD, h1]; rfl
    have hx : ((σ[v]?).getD none).getD .non = (σ[v]).getD .non := by rw [h2]; rfl
    rw [hs, hx]
    rw [e1] at r
    have r1 : Rel T c ((env[v], (σ[v]).getD .non) :: (A ++ (B1 ++ B2))) F H := by
      refine r.perm ?_
      rw [← List.append_assoc, ← List.append_assoc]
      exact List.perm_middle
    have r2 : Rel T c ((.emp, (none : Option V).getD .non) :: ((env[v], (σ[v]).getD .non) :: (A ++ (B1 ++ B2)))) F H := r1.emp
    refine r2.perm ?_
    refine (List.Perm.swap _ _ _).trans (List.Perm.cons _ ?_)
    rw [← List.append_assoc, ← List.append_assoc]
    exact List.perm_middle.symm
  · have h1 : env.set v .emp = env := List.set_eq_of_length_le (by omega)
    have h2 : σ.set v none = σ := List.set_eq_of_length_le (by omega)
    have h3 : env.getD v .emp = .emp := by rw [List.getD_eq_getElem?_getD, List.getElem?_eq_none (by omega)]; rfl
    rw [h1, h2, h3]
    exact r.emp
/-- the pairs of the names that a block forgets -/
def forg (env : Env) (σ : St) : List Nat → List SV
  | [] => []
  | v :: vs => (env.getD v .emp, ((σ[v]?).getD none).getD .non) :: forg env σ vs
theorem wipe_getD {vs : List Nat} {v : Nat} (h : v ∉ vs) : (wipeE env vs).getD v .emp = env.getD v .emp ∧ ((wipe σ vs)[v]?).getD none = (σ[v]?).getD none := by
  rw [List.getD_eq_getElem?_getD, wipeE_get, if_neg h, wipe_get, if_neg h, List.getD_eq_getElem?_getD]
  exact ⟨rfl, rfl⟩
theorem Rel.wiped : ∀ {vs : List Nat}, vs.Nodup → env.length = σ.length → Rel T c (A ++ zp env σ) F H → Rel T c (forg env σ vs ++ (A ++ zp (wipeE env vs) (wipe σ vs))) F H
  | [], _, _, r => r
  | v :: vs, nd, l, r => by
    obtain ⟨nv, nd⟩ := List.nodup_cons.mp nd
    have ih := Rel.wiped nd l r
    have l2 : (wipeE env vs).length = (wipe σ vs).length := by rw [wipeE_len, wipe_length, l]
    have ih' : Rel T c ((forg env σ vs ++ A) ++ zp (wipeE env vs) (wipe σ vs)) F H := by
      rw [List.append_assoc]
      exact ih
    have r2 := Rel.forget (v := v) ih' l2
    obtain ⟨e1, e2⟩ := wipe_getD (env := env) (σ := σ) nv
    rw [e1, e2, List.append_assoc] at r2
    exact r2
theorem set_getD_self {v : Nat} {s : Slot} {o : Option V} : True := trivial
/-- .. and the names stand again as they stood -/
theorem Rel.again : ∀ {vs : List Nat} {env0 env : Env} {A : List SV}, vs.Nodup → env.length = σ.length → Rel T c (forg env0 σ vs ++ (A ++ zp (wipeE env vs) (wipe σ vs))) F H → Rel T c (A ++ zp (unwipe env0 env vs) σ) F H
  | [], _, _, _, _, _, r => r
  | v :: vs, env0, env, A, nd, l, r => by
    obtain ⟨nv, nd⟩ := List.nodup_cons.mp nd
    by_cases hv : v < env.length
    · -- v stands empty meanwhile
      have e1 : wipeE (env.set v .emp) vs = (wipeE env vs).set v .emp := by
        refine List.ext_getElem? fun i => ?_
        rw [wipeE_get, set_get, set_get, wipeE_len, wipeE_get, List.length_set]
        by_cases h : v = i
        · subst h
          rw [if_neg nv, if_pos rfl, if_pos rfl]
        · rw [if_neg h, if_neg h]
      have g1 : (wipeE (env.set v .emp) vs)[v]? = some .emp := by
        rw [wipeE_get, if_neg nv, set_get, if_pos rfl, if_pos hv]
      have hσ : v < σ.length := by rw [← l]; exact hv
      have g2 : (wipe σ vs)[v]? = some σ[v] := by rw [wipe_get, if_neg nv]; exact List.getElem?_eq_getElem hσ
      obtain ⟨B1, B2, e2, _, e3⟩ := split_at (zp_get g1 g2)
      have r1 : Rel T c (forg env0 σ (v :: vs) ++ (A ++ zp (wipeE (env.set v .emp) vs) ((wipe σ vs).set v none))) F H := by
        rw [e1]
        exact r
      have e4 : zp (wipeE (env.set v .emp) vs) ((wipe σ vs).set v none) = B1 ++ (.emp, (none : Option V).getD .non) :: B2 := by
        have h := e3 (.emp, (none : Option V).getD .non)
        rw [← h, ← zp_set]
        congr 1
        refine (List.ext_getElem? fun i => ?_)
        rw [set_get]
        by_cases h : v = i
        · subst h
          rw [if_pos rfl, wipeE_len, List.length_set, if_pos hv, g1]
        · rw [if_neg h]
      rw [e4] at r1
      have r2 : Rel T c ((env0.getD v .emp, ((σ[v]?).getD none).getD .non) :: (forg env0 σ vs ++ (A ++ zp (wipeE (env.set v .emp) vs) (wipe σ vs)))) F H := by
        rw [e2]
        have r1' : Rel T c (((env0.getD v .emp, ((σ[v]?).getD none).getD .non) :: (forg env0 σ vs ++ (A ++ B1))) ++ (.emp, (none : Option V).getD .non) :: B2) F H := by
          refine r1.perm ?_
          show ((env0.getD v .emp, ((σ[v]?).getD none).getD .non) :: (forg env0 σ vs ++ (A ++ (B1 ++ (Slot.emp, (none : Option V).getD .non) :: B2)))).Perm _
          have q : ((env0.getD v .emp, ((σ[v]?).getD none).getD .non) :: (forg env0 σ vs ++ (A ++ B1))) ++ (Slot.emp, (none : Option V).getD .non) :: B2 = (env0.getD v .emp, ((σ[v]?).getD none).getD .non) :: (forg env0 σ vs ++ (A ++ (B1 ++ (Slot.emp, (none : Option V).getD .non) :: B2))) := by simp
          rw [q]
        have r1'' := Rel.emp_any (w := (σ[v]).getD .non) r1'
        refine r1''.perm ?_
        have q : ((env0.getD v .emp, ((σ[v]?).getD none).getD .non) :: (forg env0 σ vs ++ (A ++ B1))) ++ (Slot.emp, (σ[v]).getD .non) :: B2 = (env0.getD v .emp, ((σ[v]?).getD none).getD .non) :: (forg env0 σ vs ++ (A ++ (B1 ++ (Slot.emp, (σ[v]).getD .non) :: B2))) := by simp
        rw [q]
      have r3 : Rel T c (forg env0 σ vs ++ (((env0.getD v .emp, ((σ[v]?).getD none).getD .non) :: A) ++ zp (wipeE (env.set v .emp) vs) (wipe σ vs))) F H := r2.perm List.perm_middle.symm
      have r4 := Rel.again nd (by rw [List.length_set]; exact l) r3
      -- it comes back
      have e5 : unwipe env0 (env.set v .emp) vs = (unwipe env0 env vs).set v .emp := by
        refine List.ext_getElem? fun i => ?_
        rw [unwipe_get, set_get, set_get, unwipe_len, unwipe_get, List.length_set]
        by_cases h : v = i
        · subst h
          rw [if_neg nv, if_pos rfl, if_pos rfl]
        · rw [if_neg h, if_neg h]
      rw [e5] at r4
      have g3 : (unwipe env0 env vs)[v]? = some env[v] := by rw [unwipe_get, if_neg nv]; exact List.getElem?_eq_getElem hv
      have g4 : σ[v]? = some σ[v] := List.getElem?_eq_getElem hσ
      obtain ⟨C1, C2, e6, _, e7⟩ := split_at (zp_get g3 g4)
      rw [zp_set1 g4, e7] at r4
      show Rel T c (A ++ zp ((unwipe env0 env vs).set v (env0.getD v .emp)) σ) F H
      rw [zp_set1 g4, e7]
      rw [g4] at r4
      have r5 : Rel T c ((Slot.emp, (σ[v]).getD .non) :: ((env0.getD v .emp, (σ[v]).getD .non) :: (A ++ (C1 ++ C2)))) F H := by
        refine r4.perm ?_
        have q : ((env0.getD v .emp, ((some σ[v]).getD none).getD .non) :: A) ++ (C1 ++ (Slot.emp, (σ[v]).getD .non) :: C2) = ((env0.getD v .emp, (σ[v]).getD .non) :: (A ++ C1)) ++ (Slot.emp, (σ[v]).getD .non) :: C2 := by simp
        rw [q]
        refine List.perm_middle.trans ?_
        rw [List.cons_append, List.append_assoc]
      refine r5.uncons.perm ?_
      rw [← List.append_assoc, ← List.append_assoc]
      exact List.perm_middle.symm
    · have h1 : ∀ x : Slot, (unwipe env0 env vs).set v x = unwipe env0 env vs := fun x => List.set_eq_of_length_le (by rw [unwipe_len]; omega)
      have h2 : (wipeE env vs).set v .emp = wipeE env vs := List.set_eq_of_length_le (by rw [wipeE_len]; omega)
      have h3 : (wipe σ vs).set v none = wipe σ vs := List.set_eq_of_length_le (by rw [wipe_length, ← l]; omega)
      show Rel T c (A ++ zp ((unwipe env0 env vs).set v (env0.getD v .emp)) σ) F H
      rw [h1]
      refine Rel.again (vs := vs) nd l ?_
      have r' : Rel T c ((env0.getD v .emp, ((σ[v]?).getD none).getD .non) :: (forg env0 σ vs ++ (A ++ zp ((wipeE env vs).set v .emp) ((wipe σ vs).set v none)))) F H := r
      rw [h2, h3] at r'
      exact r'.uncons
theorem Stt.wiped {vs : List Nat} (nd : vs.Nodup) (h : Stt T c G env σ H) : Stt T c.bare (forg env σ vs ++ G) (wipeE env vs) (wipe σ vs) H := by
  obtain ⟨F, r, k⟩ := h
  refine ⟨F, ?_, ⟨by rw [wipeE_len, wipe_length]; exact k.len, fun i s hs hn => ?_, fun p hp => by cases hp⟩⟩
  · rw [List.append_assoc]
    exact (Rel.wiped nd k.len r).bare
  · rw [wipeE_get] at hs
    split at hs
    · split at hs
      · cases hs; exact absurd rfl hn
      · cases hs
    · rename_i hi
      rw [wipe_get, if_neg hi]
      exact k.has i s hs hn
/-- a turn's end -/
theorem Stt.drop {vs : List Nat} (nd : vs.Nodup) (h : Stt T c.bare G env σ H) : Stt T c.bare G (wipeE env vs) (wipe σ vs) H := by
  have h2 := h.wiped nd
  exact h2.right
theorem Stt.again {vs : List Nat} {env0 : Env} (nd : vs.Nodup) (k0 : EnvOk c env0 σ) (l : env.length = σ.length) (h : Stt T c.bare (forg env0 σ vs ++ G) (wipeE env vs) (wipe σ vs) H) : Stt T c G (unwipe env0 env vs) σ H := by
  obtain ⟨F, r, k⟩ := h
  rw [List.append_assoc] at r
  refine ⟨F, (Rel.again nd l r).unbare, ⟨by rw [unwipe_len]; exact l, fun i s hs hn => ?_, k0.pins⟩⟩
  rw [unwipe_get] at hs
  split at hs
  · split at hs
    · rename_i hi hl
      have e := Option.some.inj hs
      exact k0.has i s (getD_some e hn) hn
    · cases hs
  · rename_i hi
    have := k.has i s (by rw [wipeE_get, if_neg hi]; exact hs) hn
    rw [wipe_get, if_neg hi] at this
    exact this
end
end Fm
end

section
set_option Elab.async false
set_option linter.all false
set_option maxRecDepth 10000
set_option autoImplicit false
set_option maxHeartbeats 1000000
namespace Fm
open PySem L2
/-! comprehensions -/
/-- in a block nothing may be raised -/
abbrev W0 : WX := fun _ _ _ _ => False
section
variable (X : Cx) (scope : Scope)
/-- the contexts of a block's body -/
abbrev Bx (s : Shared) (H : Hp) (C : Addr) (cl : List (Str × Addr)) (fp : List Addr) : Cx := X.blk s H scope (compEnvC scope cl C X.env) fp
def EWb (e : Expr) : TE := fun σ H Q => ∀ s0 H0 C cl fp, EW (Bx X scope s0 H0 C cl fp) e σ H Q
def GWb (tg : Expr) : TG := fun v σ H Q => ∀ s0 H0 C cl fp, GW (Bx X scope s0 H0 C cl fp) tg v σ H Q
def PWb (cs : List Expr) : TT := fun σ H Q => ∀ s0 H0 C cl fp (pins : List (Addr × Obj)) (s : Shared), L2.Inv (Bx X scope s0 H0 C cl fp) pins σ H s →
  wpAny (model X.prog X.w) X.A (forIn cs true fun c r => if r = true then do let ok ← isTrue c (compEnvC scope cl C X.env) (eval c (compEnvC scope cl C X.env)); pure (ForInStep.yield ok) else pure (ForInStep.yield r)) (TP (Bx X scope s0 H0 C cl fp) pins σ Q) (fun _ _ => False) s
end
section
variable {X : Cx} {scope : Scope}
theorem pe_Wb {e : Expr} (s : Shared) (H : Hp) (C : Addr) (cl : List (Str × Addr)) (fp : List Addr) : PE (Bx X scope s H C cl fp) e (EWb X scope e) := ⟨fun pins s1 σ H1 Q I h => h s H C cl fp pins s1 I⟩
theorem pg_Wb {e : Expr} (s : Shared) (H : Hp) (C : Addr) (cl : List (Str × Addr)) (fp : List Addr) : PG (Bx X scope s H C cl fp) e (GWb X scope e) := ⟨fun pins s1 σ H1 v u Q I r h => h s H C cl fp pins s1 u I r⟩
theorem pts_Wb {cs : List Expr} (s : Shared) (H : Hp) (C : Addr) (cl : List (Str × Addr)) (fp : List Addr) : PTs (Bx X scope s H C cl fp) cs (PWb X scope cs) := ⟨fun pins s1 σ H1 Q I h => h s H C cl fp pins s1 I⟩
end
inductive Cs (S : IE → Expr → Prop) : List IE → List Expr → Prop where
  | nil : Cs S [] []
  | one {c : IE} {cx : Expr} : S c cx → Cs S [c] [cx]
section
variable {T : Wd} {P : Pg} {cl : Cl} {X : Cx} {W : WX} {k : Nat} {scope : Scope} {own : List (Str × Nat)} {pos p2 : Pos}
theorem thn_ok {α β γ : Type} {r : R (α × β)} {f : α → β → R γ} {x : γ} (h : r.thn f = .ok x) : ∃ a b, r = .ok (a, b) ∧ f a b = .ok x := by
  cases r with
  | ok p => exact ⟨p.1, p.2, rfl, h⟩
  | exc _ _ _ => cases h
  | stuck => cases h
theorem of_ok {α : Type} {o : Option α} {x : α} (h : R.of o = .ok x) : o = some x := by
  cases o with
  | none => cases h
  | some a => cases h; rfl
/-- the tests of a clause -/
theorem cs_ok {cs : List IE} {csx : List Expr} (h : ∀ s H C cl' fp, Cs (SndT T P cl (Bx X scope s H C cl' fp) W0) cs csx) {c : Fr} {G : List SV} {env env3 : Env} {σ : St} {H : Hp} {b : Bool} {Q : Bool → Hp → Prop} (st : Stt T c G env σ H)
    (e : evAnd P cl cs env = .ok (b, env3)) (k : ∀ H3, Stt T c G env3 σ H3 → Q b H3) : PWb X scope csx σ H Q := by
  intro s0 H0 C cl' fp pins s I
  have h' := h s0 H0 C cl' fp
  cases h' with
  | nil =>
    unfold evAnd at e
    cases e
    exact (pts_nil (X := Bx X scope s0 H0 C cl' fp)).run pins s σ H Q I (k H st)
  | @one c0 cx hs =>
    rw [evAnd_B] at e
    obtain ⟨b1, env4, e1, e2⟩ := thn_ok e
    have hb : b1 = b ∧ env4 = env3 := by
      cases b1 with
      | true =>
        rw [if_pos rfl] at e2
        unfold evAnd at e2
        cases e2
        exact ⟨rfl, rfl⟩
      | false =>
        rw [if_neg Bool.false_ne_true] at e2
        cases e2
        exact ⟨rfl, rfl⟩
    obtain ⟨rfl, rfl⟩ := hb
    refine (pts_one (X := Bx X scope s0 H0 C cl' fp) pt_W).run pins s σ H Q I (hs c G env σ H Q st ?_)
    rw [e1]
    exact k
/-- what a turn of a list's comprehension makes -/
def lcF (P : Pg) (cl : Cl) (t : Tg) (cs : List IE) (e : IE) (d : D) (env : Env) : R (Option D × Env) := match bnd [] t d env with
  | none => .stuck
  | some env2 => (evAnd P cl cs env2).thn fun b env3 => if b then (ev P cl e env3).thn fun o env4 => (R.of (frz o env4)).thn fun y env5 => .ok (some y, env5) else .ok (none, env3)
theorem lc_turn {t : Tg} {tg : Expr} {cs : List IE} {csx : List Expr} {e : IE} {ex0 : Expr} (ht : ∀ s H C cl' fp, SndG T (Bx X scope s H C cl' fp) [] t tg) (hcs : ∀ s H C cl' fp, Cs (SndT T P cl (Bx X scope s H C cl' fp) W0) cs csx)
    (he : ∀ s H C cl' fp, Snd T P cl (Bx X scope s H C cl' fp) W0 e ex0) {vs : List Nat} (hv : ∀ i ∈ t.nms, i ∈ vs) {c : Fr} {G : List SV} {env env5 : Env} {σ : St} {H : Hp} {d : D} {x : V} {o : Option D} {w : St} (hw : wipe σ vs = w) (hp : c.pin = [])
    (st : Stt T c ((.val d, x) :: G) env σ H) (e1 : lcF P cl t cs e d env = .ok (o, env5)) {K : St → V → Hp → Prop} {K0 : St → Hp → Prop}
    (k1 : ∀ y, o = some y → ∀ σ2 v H2, wipe σ2 vs = w → Stt T c ((.val y, v) :: G) env5 σ2 H2 → K σ2 v H2) (k0 : o = none → ∀ σ2 H2, wipe σ2 vs = w → Stt T c G env5 σ2 H2 → K0 σ2 H2) :
    GWb X scope tg x σ H fun σ2 H2 => wipe σ2 vs = w ∧ PWb X scope csx σ2 H2 fun b H3 => if b = true then EWb X scope ex0 σ2 H3 fun v H4 => K σ2 v H4 else K0 σ2 H3 := by
  subst hw
  intro s0 H0 C cl' fp
  unfold lcF at e1
  cases hb : bnd [] t d env with
  | none => rw [hb] at e1; cases e1
  | some env2 =>
  rw [hb] at e1
  obtain ⟨b, env3, e2, e3⟩ := thn_ok e1
  refine ht s0 H0 C cl' fp c G env env2 σ H d x _ (by rw [hp]; exact fun p h => by cases h) st hb fun σ2 st2 df => ⟨wipe_dif df hv, ?_⟩
  refine cs_ok hcs st2 e2 fun H3 st3 => ?_
  cases b with
  | false =>
    rw [if_neg Bool.false_ne_true] at e3 ⊢
    cases e3
    exact k0 rfl σ2 H3 (wipe_dif df hv) st3
  | true =>
    rw [if_pos rfl] at e3 ⊢
    obtain ⟨o2, env4, e4, e5⟩ := thn_ok e3
    obtain ⟨y, env6, e6, e7⟩ := thn_ok e5
    cases e7
    intro s1 H1 C1 cl1 fp1
    refine he s1 H1 C1 cl1 fp1 c G env3 σ2 H3 _ st3 ?_
    rw [e4]
    intro v H4 st4 a4
    exact k1 y rfl σ2 v H4 (wipe_dif df hv) (frz_ok st4 a4 (of_ok e6))
theorem turns_cons {vs : List Nat} {f : D → Env → R (Option D × Env)} {d : D} {ds : List D} {env : Env} {acc : List D} {r : List D × Env} (h : turns vs f (d :: ds) env acc = .ok r) :
    (∃ env1, f d (wipeE env vs) = .ok (none, env1) ∧ turns vs f ds env1 acc = .ok r) ∨ ∃ y env1, f d (wipeE env vs) = .ok (some y, env1) ∧ acc.length < big ∧ turns vs f ds env1 (acc ++ [y]) = .ok r := by
  unfold turns at h
  split at h
  · rename_i env1 h1
    exact .inl ⟨env1, h1, h⟩
  · rename_i y env1 h1
    split at h
    · rename_i hz
      exact .inr ⟨y, env1, h1, hz, h⟩
    · cases h
  · cases h
theorem lcF_len {t : Tg} {cs : List IE} {e : IE} : True := trivial
theorem lc_ok {it : It} {t : Tg} {tg iter : Expr} {cs : List IE} {csx : List Expr} {e : IE} {ex0 : Expr} (g : Gd T X W k) (hi : SndI T P cl X W it tg iter) (ht : ∀ s H C cl' fp, SndG T (Bx X scope s H C cl' fp) [] t tg)
    (hcs : ∀ s H C cl' fp, Cs (SndT T P cl (Bx X scope s H C cl' fp) W0) cs csx) (he : ∀ s H C cl' fp, Snd T P cl (Bx X scope s H C cl' fp) W0 e ex0) {vs : List Nat} (hv : ∀ i ∈ t.nms, i ∈ vs) (nd : vs.Nodup)
    {c : Fr} {G : List SV} {env : Env} {σ : St} {H : Hp} {Q : VK} (st : Stt T c G env σ H)
    (po : PX T c G (· = σ) W (ev P cl (.lc vs t it cs e) env) (KE T c G σ Q)) : tLc (IW X tg iter) (GWb X scope tg) (PWb X scope csx) (EWb X scope ex0) vs σ H Q := by
  unfold ev at po
  refine hi c G env σ H _ st (po.thn.mono ?_)
  rintro ⟨ds, env1⟩ _ po1 J s v H1 wk st1
  dsimp only at po1 wk st1
  replace po1 : PX T c G (· = σ) W ((turns vs (lcF P cl t cs e) ds env1 []).thn fun ds env2 => R.ok (Opd.tmp (.own (.lst ds)), unwipe env1 env2 vs)) (KE T c G σ Q) := po1
  cases hts : turns vs (lcF P cl t cs e) ds env1 [] with
  | stuck => rw [hts] at po1; exact po1.elim
  | exc ci x e1 => exact absurd hts (turns_noexc _ _ _ ())
  | ok q =>
  obtain ⟨out, envN⟩ := q
  have po2 : KE T c G σ Q (.tmp (.own (.lst out)), unwipe env1 envN vs) := by
    rw [hts] at po1
    exact po1
  intro Dd hD
  obtain ⟨F1, r1, k1⟩ := id st1
  -- the names step aside, the new list stands
  have stw := st1.wiped nd
  have stD : Stt T c.bare ((.own (.lst []), .ref Dd) :: (forg env1 σ vs ++ ((s, v) :: G))) (wipeE env1 vs) (wipe σ vs) (upd H1 Dd (.lst [])) := by
    obtain ⟨F, r, k⟩ := stw
    exact ⟨F, Rel.made r hD ⟨[], rfl, rfl⟩, k⟩
  let Wv : Nat → Hp → Prop := fun i H => ∃ env acc vacc, Stt T c.bare ((.own (.lst acc), .ref Dd) :: (forg env1 σ vs ++ ((s, v) :: G))) (wipeE env vs) (wipe σ vs) H ∧ H Dd = some (.lst vacc) ∧ acc.length = vacc.length ∧ env.length = σ.length ∧ turns vs (lcF P cl t cs e) (ds.drop i) env acc = .ok (out, envN)
  refine ⟨fun i m H => m = ds.length - i ∧ i ≤ ds.length ∧ Wv i H, ⟨ds.length, rfl, Nat.zero_le _, env1, [], [], stD, upd_same, rfl, k1.len, hts⟩, ?_⟩
  rintro i m H2 ⟨rfl, hle, env2, acc, vacc, st2, hD2, hl2, hle2, ht2⟩
  have st2' : Stt T c.bare ((s, v) :: ((.own (.lst acc), .ref Dd) :: (forg env1 σ vs ++ G))) (wipeE env2 vs) (wipe σ vs) H2 := by
    refine st2.perm ?_
    refine List.Perm.trans (List.Perm.cons _ List.perm_middle) (List.Perm.swap _ _ _)
  obtain ⟨w1, w2⟩ := wk c.bare _ _ _ H2 i st2'
  by_cases hlt : i < ds.length
  · have hd : ds[i]? = some ds[i] := List.getElem?_eq_getElem hlt
    obtain ⟨w3, w4⟩ := w2 _ hd
    refine .inr ⟨w3, Wv (i + 1), fun H' q => ⟨ds.length - (i + 1), by omega, rfl, hlt, q⟩, fun x H3 hy => ?_⟩
    have st3 := w4 x H3 hy
    rw [List.drop_eq_getElem_cons hlt] at ht2
    have back : ∀ {G' : List SV} {env5 : Env} {σ2 : St} {H4 : Hp}, wipe σ2 vs = wipe σ vs → Stt T c.bare G' env5 σ2 H4 → Stt T c.bare G' (wipeE env5 vs) (wipe σ vs) H4 := by
      intro G' env5 σ2 H4 hw h
      have h2 : Stt T c.bare G' (wipeE env5 vs) (wipe σ2 vs) H4 := Stt.drop (c := c.bare) nd h
      rw [hw] at h2
      exact h2
    have shape : ∀ {acc' : List D} {env' : Env} {σ' : St} {H' : Hp}, Stt T c.bare ((s, v) :: ((.own (.lst acc'), .ref Dd) :: (forg env1 σ vs ++ G))) env' σ' H' → Stt T c.bare ((.own (.lst acc'), .ref Dd) :: (forg env1 σ vs ++ ((s, v) :: G))) env' σ' H' := by
      intro acc' env' σ' H' h
      refine h.perm ?_
      exact List.Perm.trans (List.Perm.swap _ _ _) (List.Perm.cons _ List.perm_middle.symm)
    have owned : ∀ {acc' : List D} {env' : Env} {σ' : St} {H' : Hp} {A : List SV}, Stt T c.bare (A ++ ((.own (.lst acc'), .ref Dd) :: (forg env1 σ vs ++ G))) env' σ' H' → ∃ vacc', H' Dd = some (.lst vacc') ∧ acc'.length = vacc'.length := by
      intro acc' env' σ' H' A h
      obtain ⟨F, r, k⟩ := h
      obtain ⟨a, o, e, q, _, ⟨vs', rfl, rs⟩, _⟩ := r.each (.own (.lst acc'), .ref Dd) (List.mem_append_left _ (List.mem_append_right _ List.mem_cons_self))
      cases e
      exact ⟨vs', q, rs.len⟩
    rcases turns_cons ht2 with ⟨env5, e5, e6⟩ | ⟨y, env5, e5, hz, e6⟩
    · refine lc_turn ht hcs he hv wipe_wipe rfl st3 e5 (K := fun σ2 v H4 => ∃ acc, H4 Dd = some (.lst acc) ∧ acc.length < sizeLine ∧ Wv (i + 1) (upd H4 Dd (.lst (acc ++ [v])))) (K0 := fun σ2 H4 => Wv (i + 1) H4)
        (fun y e => nomatch e) (fun _ σ2 H4 hw h4 => ?_)
      obtain ⟨vacc', q1, q2⟩ := owned (A := [(s, v)]) h4
      have hlen : env5.length = σ.length := by
        obtain ⟨F, r, k⟩ := h4
        have := k.len
        have h3 : σ2.length = σ.length := by
          have := congrArg List.length hw
          rw [wipe_length, wipe_length] at this
          exact this
        omega
      exact ⟨env5, acc, vacc', shape (back hw h4), q1, q2, hlen, e6⟩
    · refine lc_turn ht hcs he hv wipe_wipe rfl st3 e5 (K := fun σ2 v H4 => ∃ acc, H4 Dd = some (.lst acc) ∧ acc.length < sizeLine ∧ Wv (i + 1) (upd H4 Dd (.lst (acc ++ [v])))) (K0 := fun σ2 H4 => Wv (i + 1) H4)
        (fun y' ey σ2 v' H4 hw h4 => ?_) (fun e => nomatch e)
      cases ey
      obtain ⟨vacc', q1, q2⟩ := owned (A := [(.val y, v'), (s, v)]) h4
      have hlen : env5.length = σ.length := by
        obtain ⟨F, r, k⟩ := h4
        have := k.len
        have h3 : σ2.length = σ.length := by
          have := congrArg List.length hw
          rw [wipe_length, wipe_length] at this
          exact this
        omega
      refine ⟨vacc', q1, by rw [← q2]; exact big_lt hz, env5, acc ++ [y], vacc' ++ [v'], ?_, upd_same, by simp [q2], hlen, e6⟩
      have h5 : Stt T c.bare ((.own (.lst acc), .ref Dd) :: ((.val y, v') :: ((s, v) :: (forg env1 σ vs ++ G)))) env5 σ2 H4 := by
        refine h4.perm ?_
        exact (List.Perm.cons _ (List.Perm.swap _ _ _)).trans (List.Perm.swap _ _ _)
      have h6 : Stt T c.bare ((.own (.lst (acc ++ [y])), .ref Dd) :: ((s, v) :: (forg env1 σ vs ++ G))) env5 σ2 (upd H4 Dd (.lst (vacc' ++ [v']))) := by
        obtain ⟨F, r, k⟩ := h5
        have rv : Rep T F y v' := r.each (.val y, v') (List.mem_cons_of_mem _ List.mem_cons_self)
        obtain ⟨a, o, e, q, _, ⟨vs', rfl, rs⟩, _⟩ := r.each (.own (.lst acc), .ref Dd) List.mem_cons_self
        cases e
        rw [q1] at q
        cases q
        have r2 := Rel.changed (d' := .lst (acc ++ [y])) (o' := .lst (vacc' ++ [v'])) r ⟨_, rfl, rs.app ⟨v', [], rfl, rv, rfl⟩⟩
        exact ⟨F, r2.less (List.Sublist.cons_cons _ (List.sublist_cons_self _ _)), k⟩
      refine (back hw h6).perm ?_
      exact List.Perm.cons _ List.perm_middle.symm
  · have e : i = ds.length := by omega
    refine .inl ⟨w1 e, ?_⟩
    rw [e, List.drop_length] at ht2
    unfold turns at ht2
    cases ht2
    have h3 : Stt T c.bare (forg env1 σ vs ++ ((.own (.lst out), .ref Dd) :: G)) (wipeE envN vs) (wipe σ vs) H2 := by
      have h3' : Stt T c.bare ((.own (.lst out), .ref Dd) :: (forg env1 σ vs ++ G)) (wipeE envN vs) (wipe σ vs) H2 := by
        refine st2.less (List.Sublist.cons_cons _ (List.Sublist.append_left (List.sublist_cons_self _ _) _))
      exact h3'.perm List.perm_middle.symm
    exact po2 (.ref Dd) H2 (Stt.again nd k1 hle2 h3) trivial
where
  turns_noexc {vs : List Nat} {f : D → Env → R (Option D × Env)} {c : Nat} {x : List D} {e : Env} : ∀ (ds : List D) (env : Env) (acc : List D) (_ : Unit), turns vs f ds env acc ≠ .exc c x e
    | [], env, acc, _, h => by unfold turns at h; cases h
    | d :: ds, env, acc, u, h => by
      unfold turns at h
      split at h
      · exact turns_noexc ds _ _ u h
      · split at h
        · exact turns_noexc ds _ _ u h
        · cases h
      · cases h
end
end Fm
end

section
set_option Elab.async false
set_option linter.all false
set_option maxRecDepth 10000
set_option autoImplicit false
set_option maxHeartbeats 1000000
namespace Fm
open PySem L2
/-! comprehensions as nodes -/
section
variable {T : Wd} {P : Pg} {cl : Cl} {X : Cx} {W : WX} {k : Nat} {scope : Scope} {own : List (Str × Nat)} {pos p2 : Pos} {pr : List Nat}
theorem snd_lc {it : It} {t : Tg} {tg iter : Expr} {cs : List IE} {csx : List Expr} {e : IE} {ex0 : Expr} (g : Gd T X W k) (hi : SndI T P cl X W it tg iter) (ok : BlkOk X.N X.env.scope scope own) (ht : ∀ s H C cl' fp, SndG T (Bx X scope s H C cl' fp) [] t tg)
    (hcs : ∀ s H C cl' fp, Cs (SndT T P cl (Bx X scope s H C cl' fp) W0) cs csx) (he : ∀ s H C cl' fp, Snd T P cl (Bx X scope s H C cl' fp) W0 e ex0) (hv : ∀ i ∈ t.nms, i ∈ own.map (·.2)) (nd : (own.map (·.2)).Nodup) (hs : NoSet iter = true) :
    Snd T P cl X W (.lc (own.map (·.2)) t it cs e) (.ListComp ex0 [⟨tg, iter, csx, 0⟩] scope pos) := by
  intro c G env σ H Q st po
  exact EW.of (pe_lc g.calm g.nd pi_W ok pg_Wb pts_Wb pe_Wb (noSet_it hs)) (lc_ok g hi ht hcs he hv nd st po)
/-- name = [..] on one line -/
theorem sndS_lc {i : Nat} {x : Str} {it : It} {t : Tg} {tg iter : Expr} {cs : List IE} {csx : List Expr} {e : IE} {ex0 : Expr} (g : Gd T X W k) (hN : X.N[i]? = some x) (hx : X.env.scope.names.lookup x = some .local)
    {spos : Pos} (hsw : swapsWith (.ListComp ex0 [⟨tg, iter, csx, 0⟩] scope p2) (some (.Name x pos)) spos.line X.env = pure true)
    (hi : SndI T P cl X W it tg iter) (ok : BlkOk X.N X.env.scope scope own) (ht : ∀ s H C cl' fp, SndG T (Bx X scope s H C cl' fp) [] t tg)
    (hcs : ∀ s H C cl' fp, Cs (SndT T P cl (Bx X scope s H C cl' fp) W0) cs csx) (he : ∀ s H C cl' fp, Snd T P cl (Bx X scope s H C cl' fp) W0 e ex0) (hv : ∀ i ∈ t.nms, i ∈ own.map (·.2)) (nd : (own.map (·.2)).Nodup) (hs : NoSet iter = true) :
    SndS T P cl X W pr (.asg (.nm i) (.lc (own.map (·.2)) t it cs e)) (.Assign [.Name x pos] (.ListComp ex0 [⟨tg, iter, csx, 0⟩] scope p2) spos) := by
  intro c G env σ H D hp st po
  unfold ex at po
  refine SW.of (ps_setLc g.calm g.nd hN hx hsw pi_W ok pg_Wb pts_Wb pe_Wb (noSet_it hs)) ?_
  show tLc _ _ _ _ _ σ H _
  refine lc_ok g hi ht hcs he hv nd st ((ex_thn po).mono ?_)
  rintro ⟨o, env1⟩ _ po1 v H1 st1 a1
  exact asg_end hp st1 a1 po1
end
/-! a dict's comprehension -/
section
variable {X : Cx}
theorem ps_setDc {i : Nat} {y : Str} {py : Pos} {kx vx tg iter : Expr} {ifs : List Expr} {scope : Scope} {own : List (Str × Nat)} {pos spos : Pos} {wi : TI} {g : TG} {tt : TT} {tk tv : TE} (hc : X.calm = true) (hN : X.N.Nodup) (hy : X.N[i]? = some y) (hyl : X.env.scope.names.lookup y = some .local)
    (hsw : swapsWith (.DictComp kx vx [⟨tg, iter, ifs, 0⟩] scope pos) (some (.Name y py)) spos.line X.env = pure true) (hi : PI X tg iter wi) (ok : BlkOk X.N X.env.scope scope own)
    (hg : ∀ s H C cl fp, PG (Bx X scope s H C cl fp) tg g) (ht : ∀ s H C cl fp, PTs (Bx X scope s H C cl fp) ifs tt) (hk : ∀ s H C cl fp, PE (Bx X scope s H C cl fp) kx tk)
    (he : ∀ s H C cl fp, PE (Bx X scope s H C cl fp) vx tv) (hs : ∀ x, foldedSetIterable iter X.env x = pure x) :
    PS X (.Assign [.Name y py] (.DictComp kx vx [⟨tg, iter, ifs, 0⟩] scope pos) spos) (tAsg (tDc wi g tt tk tv (own.map (·.2))) (gName i)) := by
  refine ⟨fun pins s σ H D I h => ?_⟩
  rw [exec_Assign_Name_used _ _ _ _ hsw]
  refine wpAny_bind (wpAny_standAt (wpAny_bind ?_))
  show wpAny _ X.A (do let _ ← comprehension (.DictComp kx vx [⟨tg, iter, ifs, 0⟩] scope pos) scope X.env (firstIterPos [⟨tg, iter, ifs, 0⟩] pos) newDict false (eval iter X.env) (some (assign (.Name y py) X.env))) _ _ s
  have h' : tDc wi g tt tk tv (own.map (·.2)) σ H (fun x H1 => gName i x σ H1 D.nx) := h
  have core := dc_core (pos := pos) (Qf := fun _ s' => SP X pins D .next s') (pos' := firstIterPos [⟨tg, iter, ifs, 0⟩] pos) (use := some (assign (.Name y py) X.env)) hc hN I hi ok hg ht hk he hs h' fun L C s' m H' I' q hn f => by
    show wpAny _ _ (assign (.Name y py) X.env (.ref L)) _ _ _
    refine wpAny_assign_Name (store_ok2 (v := V.ref L) I' hN hy (.inl hyl) rfl (fun s2 I2 ⟨a, sb, ha⟩ => ?_) (.inr hyl))
    obtain ⟨f0, f1, f2, f3, f4, f5⟩ := f
    have hCa : C ≠ a := by
      rcases ha with z | z
      · rw [z]; exact f1
      · exact fun e => f4 y a z e.symm
    refine ⟨m, hn.sameBut sb hCa, fun h3 sb3 => ⟨_, H', I2.turned (t' := s2.toks) (fun b o hb e => (sb3.2 b hb).trans e) f0 f1 f3 f4 f5, q⟩⟩
  exact wpAny_bind (thn core fun _ s' hq => wpAny_pure (wpAny_pure hq))
theorem swD_true {kx vx : Expr} {gs : List Comprehension} {scope : Scope} {pos py : Pos} {y : Str} {l : Nat} {env : PySem.Env} (hk : env.scope.kind = .function) (hy : env.scope.names.lookup y = some .local) (hl : (py.line == pos.line) = true)
    (ha : (scope.names.any fun (n, k) => n == y && (k == .local || k == .cell)) = false) : swapsWith (.DictComp kx vx gs scope pos) (some (.Name y py)) l env = pure true := by
  have e1 : env.kindOf y = some .local := hy
  have e2 : env.blockKind = .function := by unfold Env.blockKind; rw [hk]; rfl
  unfold swapsWith
  simp only [e2, e1, ha, Expr.pos, hl]
  rfl
end
theorem dturns_cons {vs : List Nat} {f : D → Env → R ((Key × D) × Env)} {d : D} {ds : List D} {env : Env} {ks : List Key} {ws : List D} {r : (List Key × List D) × Env} (h : dturns vs f (d :: ds) env ks ws = .ok r) :
    ∃ k y env1, f d (wipeE env vs) = .ok ((k, y), env1) ∧ ks.length < big ∧ dturns vs f ds env1 (putKs ks k) (putVs ks ws k y) = .ok r := by
  unfold dturns at h
  split at h
  · rename_i k y env1 h1
    split at h
    · rename_i hz
      exact ⟨k, y, env1, h1, hz, h⟩
    · cases h
  · cases h
def dcF (P : Pg) (cl : Cl) (t : Tg) (ke ve : IE) (d : D) (env : Env) : R ((Key × D) × Env) := match bnd [] t d env with
  | none => .stuck
  | some env2 => (ev P cl ke env2).thn fun ko env3 => (ev P cl ve env3).thn fun vo env4 => (match ko.data env4 with
    | some kd => (R.of kd.key).bind fun kk => (R.of (frz vo env4)).thn fun y env5 => .ok ((kk, y), env5)
    | none => .stuck)
section
variable {T : Wd} {P : Pg} {cl : Cl} {X : Cx} {W : WX} {k : Nat} {scope : Scope} {own : List (Str × Nat)} {pos p2 : Pos} {pr : List Nat}
theorem bind_ok {α β : Type} {r : R α} {f : α → R β} {x : β} (h : r.bind f = .ok x) : ∃ a, r = .ok a ∧ f a = .ok x := by
  cases r with
  | ok p => exact ⟨p, rfl, h⟩
  | exc _ _ _ => cases h
  | stuck => cases h
theorem dc_turn {t : Tg} {tg : Expr} {ke ve : IE} {kx vx : Expr} (ht : ∀ s H C cl' fp, SndG T (Bx X scope s H C cl' fp) [] t tg)
    (hk : ∀ s H C cl' fp, Snd T P cl (Bx X scope s H C cl' fp) W0 ke kx) (he : ∀ s H C cl' fp, Snd T P cl (Bx X scope s H C cl' fp) W0 ve vx) {vs : List Nat} (hv : ∀ i ∈ t.nms, i ∈ vs) {c : Fr} {G : List SV} {env env5 : Env} {σ : St} {H : Hp} {d : D} {x : V} {kk : Key} {y : D} {w : St} (hw : wipe σ vs = w) (hp : c.pin = [])
    (st : Stt T c ((.val d, x) :: G) env σ H) (e1 : dcF P cl t ke ve d env = .ok ((kk, y), env5)) {K : St → V → V → Hp → Prop}
    (k1 : ∀ σ2 v H2, wipe σ2 vs = w → Stt T c ((.val y, v) :: G) env5 σ2 H2 → K σ2 (kV kk) v H2) :
    GWb X scope tg x σ H fun σ2 H2 => wipe σ2 vs = w ∧ PWb X scope [] σ2 H2 fun b H3 => if b = true then EWb X scope kx σ2 H3 fun yk H4 => EWb X scope vx σ2 H4 fun yv H5 => K σ2 yk yv H5 else False := by
  subst hw
  intro s0 H0 C cl' fp
  unfold dcF at e1
  cases hb : bnd [] t d env with
  | none => rw [hb] at e1; cases e1
  | some env2 =>
  rw [hb] at e1
  obtain ⟨ko, env3, e2, e3⟩ := thn_ok e1
  obtain ⟨vo, env4, e4, e5⟩ := thn_ok e3
  refine ht s0 H0 C cl' fp c G env env2 σ H d x _ (by rw [hp]; exact fun p h => by cases h) st hb fun σ2 st2 df => ⟨wipe_dif df hv, ?_⟩
  intro s1 H1 C1 cl1 fp1 pins s I
  refine (pts_nil (X := Bx X scope s1 H1 C1 cl1 fp1)).run pins s σ2 H _ I ?_
  show (if true = true then _ else False)
  rw [if_pos rfl]
  intro s3 H3 C3 cl3 fp3
  refine hk s3 H3 C3 cl3 fp3 c G env2 σ2 H _ st2 ?_
  rw [e2]
  intro yk H4 st4 a4 s5 H5 C5 cl5 fp5
  refine he s5 H5 C5 cl5 fp5 c (ko.tm yk ++ G) env3 σ2 H4 _ st4 ?_
  rw [e4]
  intro yv H6 st6 a6
  dsimp only at st6 a6
  split at e5
  · rename_i kd hkd
    obtain ⟨kk', e7, e8⟩ := bind_ok e5
    obtain ⟨y', env6, e9, e10⟩ := thn_ok e8
    cases e10
    have rk := Opd.rep st6 a4 hkd fun p h => List.mem_append_right _ (List.mem_append_left _ h)
    have := rk.key (of_ok e7)
    subst this
    exact k1 σ2 yv H6 (wipe_dif df hv) ((frz_ok st6 a6 (of_ok e9)).less (List.Sublist.cons_cons _ (List.sublist_append_right _ _)))
  · cases e5
theorem dc_ok {it : It} {t : Tg} {tg iter : Expr} {ke ve : IE} {kx vx : Expr} (g : Gd T X W k) (hi : SndI T P cl X W it tg iter) (ht : ∀ s H C cl' fp, SndG T (Bx X scope s H C cl' fp) [] t tg)
    (hk : ∀ s H C cl' fp, Snd T P cl (Bx X scope s H C cl' fp) W0 ke kx) (he : ∀ s H C cl' fp, Snd T P cl (Bx X scope s H C cl' fp) W0 ve vx) {vs : List Nat} (hv : ∀ i ∈ t.nms, i ∈ vs) (nd : vs.Nodup)
    {c : Fr} {G : List SV} {env : Env} {σ : St} {H : Hp} {Q : VK} (st : Stt T c G env σ H)
    (po : PX T c G (· = σ) W (ev P cl (.dc vs t it ke ve) env) (KE T c G σ Q)) : tDc (IW X tg iter) (GWb X scope tg) (PWb X scope []) (EWb X scope kx) (EWb X scope vx) vs σ H Q := by
  unfold ev at po
  refine hi c G env σ H _ st (po.thn.mono ?_)
  rintro ⟨ds, env1⟩ _ po1 J s v H1 wk st1
  dsimp only at po1 wk st1
  replace po1 : PX T c G (· = σ) W ((dturns vs (dcF P cl t ke ve) ds env1 [] []).thn fun kw env2 => R.ok (Opd.tmp (.own (.dk kw.1 kw.2)), unwipe env1 env2 vs)) (KE T c G σ Q) := po1
  cases hts : dturns vs (dcF P cl t ke ve) ds env1 [] [] with
  | stuck => rw [hts] at po1; exact po1.elim
  | exc ci x e1 => exact absurd hts (noexc _ _ _ _ ())
  | ok q =>
  obtain ⟨⟨oks, ows⟩, envN⟩ := q
  have po2 : KE T c G σ Q (.tmp (.own (.dk oks ows)), unwipe env1 envN vs) := by
    rw [hts] at po1
    exact po1
  intro Dd hD
  obtain ⟨F1, r1, k1⟩ := id st1
  have stw := st1.wiped nd
  have stD : Stt T c.bare ((.own (.dk [] []), .ref Dd) :: (forg env1 σ vs ++ ((s, v) :: G))) (wipeE env1 vs) (wipe σ vs) (upd H1 Dd (.dK [])) := by
    obtain ⟨F, r, k⟩ := stw
    exact ⟨F, Rel.made r hD ⟨[], rfl, ⟨rfl, List.nodup_nil⟩, rfl⟩, k⟩
  let Wv : Nat → Hp → Prop := fun i H => ∃ env ks ws, Stt T c.bare ((.own (.dk ks ws), .ref Dd) :: (forg env1 σ vs ++ ((s, v) :: G))) (wipeE env vs) (wipe σ vs) H ∧ env.length = σ.length ∧ dturns vs (dcF P cl t ke ve) (ds.drop i) env ks ws = .ok ((oks, ows), envN)
  refine ⟨fun i m H => m = ds.length - i ∧ i ≤ ds.length ∧ Wv i H, ⟨ds.length, rfl, Nat.zero_le _, env1, [], [], stD, k1.len, hts⟩, ?_⟩
  rintro i m H2 ⟨rfl, hle, env2, ks, ws, st2, hle2, ht2⟩
  have st2' : Stt T c.bare ((s, v) :: ((.own (.dk ks ws), .ref Dd) :: (forg env1 σ vs ++ G))) (wipeE env2 vs) (wipe σ vs) H2 := by
    refine st2.perm ?_
    exact List.Perm.trans (List.Perm.cons _ List.perm_middle) (List.Perm.swap _ _ _)
  obtain ⟨w1, w2⟩ := wk c.bare _ _ _ H2 i st2'
  by_cases hlt : i < ds.length
  · have hd : ds[i]? = some ds[i] := List.getElem?_eq_getElem hlt
    obtain ⟨w3, w4⟩ := w2 _ hd
    refine .inr ⟨w3, Wv (i + 1), fun H' q => ⟨ds.length - (i + 1), by omega, rfl, hlt, q⟩, fun x H3 hy => ?_⟩
    have st3 := w4 x H3 hy
    rw [List.drop_eq_getElem_cons hlt] at ht2
    obtain ⟨kk, y, env5, e5, hz, e6⟩ := dturns_cons ht2
    have main := dc_turn ht hk he hv wipe_wipe rfl st3 e5 (K := fun σ2 yk yv H5 => ∃ kvs k, yk = kV k ∧ H5 Dd = some (.dK kvs) ∧ kvs.length < sizeLine ∧ Wv (i + 1) (upd H5 Dd (.dK (putK kvs k yv)))) fun σ2 v' H4 hw h4 => by
      have hlen : env5.length = σ.length := by
        obtain ⟨F, r, k⟩ := h4
        have := k.len
        have h3 : σ2.length = σ.length := by
          have := congrArg List.length hw
          rw [wipe_length, wipe_length] at this
          exact this
        omega
      have h5 : Stt T c.bare ((.own (.dk ks ws), .ref Dd) :: ((.val y, v') :: ((s, v) :: (forg env1 σ vs ++ G)))) env5 σ2 H4 := by
        refine h4.perm ?_
        exact (List.Perm.cons _ (List.Perm.swap _ _ _)).trans (List.Perm.swap _ _ _)
      obtain ⟨F, r, k⟩ := h5
      have rv : Rep T F y v' := r.each (.val y, v') (List.mem_cons_of_mem _ List.mem_cons_self)
      obtain ⟨a, o, e, q, _, ⟨vs', rfl, ⟨l, ndk⟩, rs⟩, _⟩ := r.each (.own (.dk ks ws), .ref Dd) List.mem_cons_self
      cases e
      obtain ⟨ws', z1, z2, z3⟩ := putK_zip l rs ndk rv
      refine ⟨ks.zip vs', kk, rfl, q, by rw [List.length_zip, ← l, Nat.min_self]; exact big_lt hz, env5, putKs ks kk, putVs ks ws kk y, ?_, hlen, e6⟩
      rw [z1]
      have r2 := Rel.changed (d' := .dk (putKs ks kk) (putVs ks ws kk y)) (o' := .dK ((putKs ks kk).zip ws')) r ⟨_, rfl, ⟨z2, putKs_nodup ndk⟩, z3⟩
      have h6 : Stt T c.bare ((.own (.dk (putKs ks kk) (putVs ks ws kk y)), .ref Dd) :: ((s, v) :: (forg env1 σ vs ++ G))) env5 σ2 (upd H4 Dd (.dK ((putKs ks kk).zip ws'))) :=
        ⟨F, r2.less (List.Sublist.cons_cons _ (List.sublist_cons_self _ _)), k⟩
      have h7 := Stt.drop (c := c) nd h6
      rw [hw] at h7
      exact h7.perm (List.Perm.cons _ List.perm_middle.symm)
    intro s0 H0 C cl' fp pins s1 u I r
    refine thn (main s0 H0 C cl' fp pins s1 u I r) fun _ s2 ⟨σ', H', I', hw, q⟩ => ⟨σ', H', I', hw, ?_⟩
    intro s3 H3' C3 cl3 fp3 pins3 s4 I4
    refine thn (q s3 H3' C3 cl3 fp3 pins3 s4 I4) fun b s5 ⟨H5, I5, q5⟩ => ⟨H5, I5, ?_⟩
    cases b with
    | true => exact q5
    | false => exact (show False from q5).elim
  · have e : i = ds.length := by omega
    refine .inl ⟨w1 e, ?_⟩
    rw [e, List.drop_length] at ht2
    unfold dturns at ht2
    cases ht2
    have h3 : Stt T c.bare (forg env1 σ vs ++ ((.own (.dk oks ows), .ref Dd) :: G)) (wipeE envN vs) (wipe σ vs) H2 := by
      have h3' : Stt T c.bare ((.own (.dk oks ows), .ref Dd) :: (forg env1 σ vs ++ G)) (wipeE envN vs) (wipe σ vs) H2 :=
        st2.less (List.Sublist.cons_cons _ (List.Sublist.append_left (List.sublist_cons_self _ _) _))
      exact h3'.perm List.perm_middle.symm
    exact po2 (.ref Dd) H2 (Stt.again nd k1 hle2 h3) trivial
where
  noexc {vs : List Nat} {f : D → Env → R ((Key × D) × Env)} {c : Nat} {x : List D} {e : Env} : ∀ (ds : List D) (env : Env) (ks : List Key) (ws : List D) (_ : Unit), dturns vs f ds env ks ws ≠ .exc c x e
    | [], env, ks, ws, _, h => by unfold dturns at h; cases h
    | d :: ds, env, ks, ws, u, h => by
      unfold dturns at h
      split at h
      · split at h
        · exact noexc ds _ _ _ u h
        · cases h
      · cases h
theorem snd_dc {it : It} {t : Tg} {tg iter : Expr} {ke ve : IE} {kx vx : Expr} (g : Gd T X W k) (hi : SndI T P cl X W it tg iter) (ok : BlkOk X.N X.env.scope scope own) (ht : ∀ s H C cl' fp, SndG T (Bx X scope s H C cl' fp) [] t tg)
    (hk : ∀ s H C cl' fp, Snd T P cl (Bx X scope s H C cl' fp) W0 ke kx) (he : ∀ s H C cl' fp, Snd T P cl (Bx X scope s H C cl' fp) W0 ve vx) (hv : ∀ i ∈ t.nms, i ∈ own.map (·.2)) (nd : (own.map (·.2)).Nodup) (hs : NoSet iter = true) :
    Snd T P cl X W (.dc (own.map (·.2)) t it ke ve) (.DictComp kx vx [⟨tg, iter, [], 0⟩] scope pos) := by
  intro c G env σ H Q st po
  exact EW.of (pe_dc g.calm g.nd pi_W ok pg_Wb pts_Wb pe_Wb pe_Wb (noSet_it hs)) (dc_ok g hi ht hk he hv nd st po)
theorem sndS_dc {i : Nat} {x : Str} {it : It} {t : Tg} {tg iter : Expr} {ke ve : IE} {kx vx : Expr} (g : Gd T X W k) (hN : X.N[i]? = some x) (hx : X.env.scope.names.lookup x = some .local)
    {spos : Pos} (hsw : swapsWith (.DictComp kx vx [⟨tg, iter, [], 0⟩] scope p2) (some (.Name x pos)) spos.line X.env = pure true)
    (hi : SndI T P cl X W it tg iter) (ok : BlkOk X.N X.env.scope scope own) (ht : ∀ s H C cl' fp, SndG T (Bx X scope s H C cl' fp) [] t tg)
    (hk : ∀ s H C cl' fp, Snd T P cl (Bx X scope s H C cl' fp) W0 ke kx) (he : ∀ s H C cl' fp, Snd T P cl (Bx X scope s H C cl' fp) W0 ve vx) (hv : ∀ i ∈ t.nms, i ∈ own.map (·.2)) (nd : (own.map (·.2)).Nodup) (hs : NoSet iter = true) :
    SndS T P cl X W pr (.asg (.nm i) (.dc (own.map (·.2)) t it ke ve)) (.Assign [.Name x pos] (.DictComp kx vx [⟨tg, iter, [], 0⟩] scope p2) spos) := by
  intro c G env σ H D hp st po
  unfold ex at po
  refine SW.of (ps_setDc g.calm g.nd hN hx hsw pi_W ok pg_Wb pts_Wb pe_Wb pe_Wb (noSet_it hs)) ?_
  show tDc _ _ _ _ _ _ σ H _
  refine dc_ok g hi ht hk he hv nd st ((ex_thn po).mono ?_)
  rintro ⟨o, env1⟩ _ po1 v H1 st1 a1
  exact asg_end hp st1 a1 po1
end
end Fm
end

section
set_option Elab.async false
set_option linter.all false
set_option maxRecDepth 10000
set_option autoImplicit false
set_option maxHeartbeats 1000000
namespace Fm
open PySem L2
/-! a def's run -/
section
variable {T : Wd} {c : Fr} {A : List SV} {F H : Hp}
theorem given_ok {env : Env} {σ : St} : ∀ {ss : List Slot} {vs : List V} {k : Nat} {A : List SV}, ss.length = vs.length → env.length = σ.length → (∀ (i : Nat) (s : Slot) (v : V), ss[i]? = some s → vs[i]? = some v → s.isOwn = true → σ[k + i]? = some (some v)) →
    Rel T c (A ++ zp (env.drop k) (σ.drop k)) F H → Rel T c (A ++ (given k ss env).zip vs) F H
  | [], [], k, A, _, _, _, r => r.less (List.Sublist.append_left (List.nil_sublist _) _)
  | [], _ :: _, _, _, l, _, _, _ => by cases l
  | _ :: _, [], _, _, l, _, _, _ => by cases l
  | s :: ss, v :: vs, k, A, l, le, hp, r => by
    have hp' : ∀ (i : Nat) (s : Slot) (v : V), ss[i]? = some s → vs[i]? = some v → s.isOwn = true → σ[k + 1 + i]? = some (some v) := fun i s' v' h1 h2 h3 => by
      have := hp (i + 1) s' v' (by simpa using h1) (by simpa using h2) h3
      have e : k + (i + 1) = k + 1 + i := by omega
      rw [e] at this
      exact this
    have go : ∀ {x : Slot}, Rel T c ((A ++ [(x, v)]) ++ zp (env.drop (k + 1)) (σ.drop (k + 1))) F H → Rel T c (A ++ ((x :: given (k + 1) ss env).zip (v :: vs))) F H := fun {x} h => by
      have h2 := given_ok (A := A ++ [(x, v)]) (k := k + 1) (by simpa using l) le hp' h
      rw [List.append_assoc] at h2
      exact h2
    show Rel T c (A ++ (((if s.isOwn then env.getD k .emp else .emp) :: given (k + 1) ss env).zip (v :: vs))) F H
    by_cases hk : k < env.length
    · have hs : k < σ.length := by rw [← le]; exact hk
      have e1 : env.drop k = env[k] :: env.drop (k + 1) := List.drop_eq_getElem_cons hk
      have e2 : σ.drop k = σ[k] :: σ.drop (k + 1) := List.drop_eq_getElem_cons hs
      rw [e1, e2] at r
      have r' : Rel T c (A ++ ((env[k], (σ[k]).getD .non) :: zp (env.drop (k + 1)) (σ.drop (k + 1)))) F H := r
      by_cases ho : s.isOwn = true
      · rw [if_pos ho]
        have hv := hp 0 s v rfl rfl ho
        rw [Nat.add_zero, List.getElem?_eq_getElem hs] at hv
        have hv' : σ[k] = some v := Option.some.inj hv
        have hg : env.getD k .emp = env[k] := by rw [List.getD_eq_getElem?_getD, List.getElem?_eq_getElem hk]; rfl
        rw [hg]
        refine go ?_
        rw [List.append_assoc]
        rw [hv'] at r'
        exact r'
      · rw [if_neg ho]
        refine go ?_
        rw [List.append_assoc]
        have r2 : Rel T c (A ++ zp (env.drop (k + 1)) (σ.drop (k + 1))) F H := r'.less (List.Sublist.append_left (List.sublist_cons_self _ _) _)
        exact (r2.emp (v := v)).perm List.perm_middle.symm
    · have e1 : env.drop k = [] := List.drop_eq_nil_of_le (by omega)
      have e3 : env.drop (k + 1) = [] := List.drop_eq_nil_of_le (by omega)
      have hg : env.getD k .emp = .emp := by rw [List.getD_eq_getElem?_getD, List.getElem?_eq_none (by omega)]; rfl
      have hx : (if s.isOwn then env.getD k .emp else .emp) = Slot.emp := by rw [hg]; split <;> rfl
      rw [hx]
      refine go ?_
      rw [List.append_assoc]
      have r2 : Rel T c (A ++ zp (env.drop (k + 1)) (σ.drop (k + 1))) F H := r.less (List.Sublist.append_left (by rw [e3]; exact List.nil_sublist _) _)
      exact (r2.emp (v := v)).perm List.perm_middle.symm
theorem Rel.emps : ∀ {n : Nat} {A : List SV} {v : V}, Rel T c A F H → Rel T c (A ++ List.replicate n (.emp, v)) F H
  | 0, A, v, r => by simpa using r
  | n + 1, A, v, r => by
    rw [List.replicate_succ]
    exact ((Rel.emps (n := n) r).emp).perm List.perm_middle.symm
theorem zp_start {N : List Str} : ∀ {ss : List Slot} {vs : List V} {m : Nat}, ss.length = vs.length → zp (ss ++ List.replicate m .emp) (vs.map some ++ List.replicate m none) = ss.zip vs ++ List.replicate m (Slot.emp, V.non)
  | [], [], m, _ => by
    show List.zipWith _ (List.replicate m Slot.emp) (List.replicate m none) = List.replicate m (Slot.emp, V.non)
    rw [List.zipWith_replicate, Nat.min_self]
    rfl
  | [], _ :: _, _, l => by cases l
  | _ :: _, [], _, l => by cases l
  | s :: ss, v :: vs, m, l => by
    have ih := zp_start (N := N) (ss := ss) (vs := vs) (m := m) (by simpa using l)
    show (s, (some v : Option V).getD .non) :: zp (ss ++ List.replicate m .emp) (vs.map some ++ List.replicate m none) = (s, v) :: (ss.zip vs ++ List.replicate m (Slot.emp, V.non))
    rw [ih]
    rfl
/-- the parameters that stay -/
def pinsOf (k : Nat) : List Slot → List V → List (Nat × V)
  | s :: ss, v :: vs => if s.isOwn then (k, v) :: pinsOf (k + 1) ss vs else pinsOf (k + 1) ss vs
  | _, _ => []
theorem pinsOf_mem : ∀ {ss : List Slot} {vs : List V} {k : Nat} {p : Nat × V}, p ∈ pinsOf k ss vs → ∃ i s, p.1 = k + i ∧ ss[i]? = some s ∧ s.isOwn = true ∧ vs[i]? = some p.2
  | [], vs, k, p, h => by cases vs <;> cases h
  | _ :: _, [], k, p, h => by cases h
  | s :: ss, v :: vs, k, p, h => by
    have tail : p ∈ pinsOf (k + 1) ss vs → ∃ i s', p.1 = k + i ∧ (s :: ss)[i]? = some s' ∧ s'.isOwn = true ∧ (v :: vs)[i]? = some p.2 := fun h => by
      obtain ⟨i, s', e, h1, h2, h3⟩ := pinsOf_mem h
      exact ⟨i + 1, s', by omega, by simpa using h1, h2, by simpa using h3⟩
    unfold pinsOf at h
    split at h
    · rename_i ho
      rcases List.mem_cons.mp h with rfl | h
      · exact ⟨0, s, rfl, rfl, ho, rfl⟩
      · exact tail h
    · exact tail h
theorem pinsOf_get : ∀ {ss : List Slot} {vs : List V} {k i : Nat} {s : Slot} {v : V}, ss[i]? = some s → vs[i]? = some v → s.isOwn = true → (k + i, v) ∈ pinsOf k ss vs
  | [], vs, k, i, s, v, h, _, _ => by simp at h
  | _ :: _, [], k, i, s, v, _, h, _ => by simp at h
  | x :: ss, y :: vs, k, 0, s, v, h1, h2, ho => by
    simp at h1 h2
    subst h1; subst h2
    unfold pinsOf
    rw [if_pos ho]
    exact List.mem_cons_self
  | x :: ss, y :: vs, k, i + 1, s, v, h1, h2, ho => by
    have ih := pinsOf_get (k := k + 1) (i := i) (ss := ss) (vs := vs) (by simpa using h1) (by simpa using h2) ho
    have e : k + 1 + i = k + (i + 1) := by omega
    rw [e] at ih
    unfold pinsOf
    split
    · exact List.mem_cons_of_mem _ ih
    · exact ih
theorem ownIx_mem : ∀ {ss : List Slot} {k i : Nat} {s : Slot}, ss[i]? = some s → s.isOwn = true → k + i ∈ ownIx k ss
  | [], k, i, s, h, _ => by simp at h
  | x :: ss, k, 0, s, h, ho => by
    simp at h
    subst h
    unfold ownIx
    rw [if_pos ho]
    exact List.mem_cons_self
  | x :: ss, k, i + 1, s, h, ho => by
    have ih := ownIx_mem (k := k + 1) (i := i) (ss := ss) (by simpa using h) ho
    have e : k + 1 + i = k + (i + 1) := by omega
    rw [e] at ih
    unfold ownIx
    split
    · exact List.mem_cons_of_mem _ ih
    · exact ih
end
theorem given_len : ∀ {ss : List Slot} {k : Nat} {env : Env}, (given k ss env).length = ss.length
  | [], _, _ => rfl
  | s :: ss, k, env => by
    show (given (k + 1) ss env).length + 1 = ss.length + 1
    rw [given_len]
def Pg.np (P : Pg) (j : Nat) : Nat := match P.defs[j]? with
  | some f => f.np
  | none => 0
theorem callN_ok (P : Pg) : ∀ n, ClOk (callN P n) P.np
  | 0, j, ss => trivial
  | n + 1, j, ss => by
    unfold callN
    unfold Pg.np
    cases h : P.defs[j]? with
    | none => trivial
    | some f =>
      dsimp only
      unfold run
      by_cases hl : ss.length = f.np
      · rw [if_pos hl]
        cases exs P (callN P n) (ownIx 0 ss) f.body (ss ++ List.replicate (f.nl - f.np) .emp) with
        | stuck => trivial
        | exc c x e => exact ⟨hl, given_len⟩
        | ok q =>
          obtain ⟨fl, env⟩ := q
          cases fl with
          | nx => exact ⟨hl, given_len⟩
          | rt s => exact ⟨hl, given_len⟩
          | bk => trivial
          | ct => trivial
      · rw [if_neg hl]
        trivial
section
variable {T : Wd} {P : Pg} {Pr : Program} {w : World} {K : PySem.W.Frag} {mg : Str → Option Value} {base : Heap}
/-- a def keeps its promise, if its body is sound -/
theorem fn_run {n j k : Nat} {f : Def} {x qual : Str} {params : Arguments} {body : List Stmt} {scope : Scope} {dvs : List V} {kws : List (Str × V)} {fa : Addr} {fd : FuncData} {N ps : List Str} (hj : P.defs[j]? = some f) (D : FunD K x qual params body scope dvs kws fa fd) (S : FnScope N ps scope)
    (hnp : f.np = ps.length) (hnl : f.nl = N.length)
    (hb : ∀ (cdv : Value) (A : Around) (outer : List PySem.Env) (s : Shared) (H : Hp) (E : XK) (pr : List Nat), Room k (A.deeper (PyProof.Rows.envOfC qual scope s.heap.objs.size fa cdv)) →
      SndB T P (callN P n) (cxOf (L2.CX Pr w) Pr w K mg base N qual scope fa cdv A outer s H E) (fun cls d _ H => E cls d H) pr f.body body) :
    FnOk Pr w K mg base (L2.CX Pr w) (k + 1) fa fd ps (spOf T (callN P (n + 1)) j) := by
  refine FunD.ok D S (fun vs H Q E h => ?_) fun cdv A outer s H vs Q E hr hsp => ⟨_, pss_W, ?_⟩
  · rw [spOf.len (callN_ok P (n + 1)) h]
    unfold Pg.np
    rw [hj]
    exact hnp
  · obtain ⟨F0, ss, l, r, m⟩ := hsp
    unfold callN at m
    rw [hj] at m
    dsimp only at m
    unfold run at m
    by_cases hl : ss.length = f.np
    · rw [if_pos hl] at m
      have hvs : vs.length = ps.length := by rw [← l, hl, hnp]
      have hle : ps.length ≤ N.length := by have := congrArg List.length S.pre; rw [List.length_take] at this; omega
      have hm : f.nl - f.np = N.length - vs.length := by rw [hnl, hnp, hvs]
      let c : Fr := ⟨F0, H, (ss.zip vs).filterMap oad, pinsOf 0 ss vs⟩
      have toC : ∀ {ps : List SV} {F H'}, Rel T ⟨F0, H, (ss.zip vs).filterMap oad, []⟩ ps F H' → Rel T c ps F H' := fun r => ⟨⟨r.hp.sub, r.hp.base, r.hp.new, r.hp.prot, r.hp.dom⟩, r.each, r.nd⟩
      have ofC : ∀ {ps : List SV} {F H'}, Rel T c ps F H' → Rel T ⟨F0, H, (ss.zip vs).filterMap oad, []⟩ ps F H' := fun r => ⟨⟨r.hp.sub, r.hp.base, r.hp.new, r.hp.prot, r.hp.dom⟩, r.each, r.nd⟩
      have hst : Stt T c [] (ss ++ List.replicate (f.nl - f.np) .emp) (L2.start N vs) H := by
        refine ⟨F0, ?_, ?_⟩
        · rw [hm]
          unfold L2.start
          show Rel T c ([] ++ zp _ _) F0 H
          rw [zp_start (N := N) l]
          exact toC (Rel.emps r)
        · refine ⟨?_, fun i s hs hn => ?_, fun p hp => ?_⟩
          · unfold L2.start
            rw [hm, List.length_append, List.length_append, List.length_map, List.length_replicate, List.length_replicate, l]
          · by_cases hi : i < ss.length
            · have hv : i < vs.length := by rw [← l]; exact hi
              refine ⟨vs[i], ?_⟩
              unfold L2.start
              rw [List.getElem?_append_left (by simpa using hv), List.getElem?_map, List.getElem?_eq_getElem hv]
              rfl
            · rw [List.getElem?_append_right (by omega), List.getElem?_replicate] at hs
              split at hs
              · cases hs; exact absurd rfl hn
              · cases hs
          · obtain ⟨i, s, e, h1, h2, h3⟩ := pinsOf_mem hp
            have hv : i < vs.length := (List.getElem?_eq_some_iff.mp h3).1
            unfold L2.start
            rw [e, Nat.zero_add, List.getElem?_append_left (by simpa using hv), List.getElem?_map, h3]
            rfl
      have hpin : ∀ p ∈ c.pin, p.1 ∈ ownIx 0 ss := fun p hp => by
        obtain ⟨i, s, e, h1, h2, h3⟩ := pinsOf_mem hp
        rw [e]
        exact ownIx_mem h1 h2
      -- behind the body: what is given back
      have fin : ∀ {A : List SV} {env : Env} {σ' : St} {H' : Hp}, Stt T c A env σ' H' → ∃ F', Rel T ⟨F0, H, (ss.zip vs).filterMap oad, []⟩ (A ++ (given 0 ss env).zip vs) F' H' := by
        intro A env σ' H' st
        obtain ⟨F', r', k'⟩ := st
        refine ⟨F', ofC (given_ok (k := 0) l k'.len (fun i s v h1 h2 h3 => ?_) (by simpa using r'))⟩
        exact k'.pins (0 + i, v) (pinsOf_get h1 h2 h3)
      refine hb cdv A outer s H E (ownIx 0 ss) hr c [] _ _ H _ hpin hst ?_
      cases h1 : exs P (callN P n) (ownIx 0 ss) f.body (ss ++ List.replicate (f.nl - f.np) .emp) with
      | stuck => rw [h1] at m; exact m.elim
      | exc ci x env =>
        rw [h1] at m
        intro σ' d H' ps _ hx st
        rw [List.append_nil] at st
        obtain ⟨F', r'⟩ := fin st
        exact m d F' H' ps hx r'
      | ok q =>
        obtain ⟨fl, env⟩ := q
        rw [h1] at m
        cases fl with
        | nx =>
          intro σ' H' st
          obtain ⟨F', r'⟩ := fin (A := [(.val .non, .non)]) st.non
          exact m .non F' H' r'
        | rt s' =>
          intro v σ' H' st
          obtain ⟨F', r'⟩ := fin st
          exact m v F' H' r'
        | bk => exact m.elim
        | ct => exact m.elim
    · rw [if_neg hl] at m
      exact m.elim
end
end Fm
end

section
set_option Elab.async false
set_option linter.all false
set_option maxRecDepth 10000
set_option autoImplicit false
set_option maxHeartbeats 2000000
namespace Fm
open PySem PySem.Spec PyProof.Rows Builtin Builtin.ObjectAttr
open L2 hiding St
/-! an own exception's __init__: super().__init__(text), self.f = x -/
structure ExI (K : PySem.W.Frag) (C : Addr) (f : Str) : Prop where
  oex : OexC K C
  sup : PySem.W.ks_superIn K C C "__init__" = some (some (.builtin "ValueError.__init__"))
  sub : PySem.W.subIn K (.ref C) (.type "ValueError") = some true
  mro : PySem.W.mroIn K C (.ref C) = some true
  st : PySem.W.nsIn K cStatics "thirdparty.any" = some none
  no : PySem.W.findIn K (.ref C) f = some none
structure InitD (P : Program) (K : PySem.W.Frag) (fI C cc cda : Addr) (fd : FuncData) (sx nx f : Str) : Prop where
  run : ∃ (name qual : Str) (params : Arguments) (body : List Stmt) (scope : Scope) (dV kV doc pm ct oc : Value) (an od : Option Addr) (osl : Array (Option Value)) (ar : Arg) (p0 p1 p2 p3 p4 p5 p6 p7 p8 p9 : Pos) (text : Str) (j : Nat),
    fd = PySem.W.fnX name qual params body scope [("__class__", cc)] dV kV doc pm an (.ref cda) ct ∧ K.lookup fI = some ⟨oc, od, .func fd, osl⟩ ∧ PySem.W.codeIn K (.ref cda) qual = true ∧
    (params.posonlyargs ++ params.args).head? = some ar ∧ ar.arg = sx ∧
    scope.names.lookup ("super" : Str) = some .globalImplicit ∧ scope.names.lookup ("__class__" : Str) = some .free ∧ scope.names.lookup sx = some .local ∧ scope.names.lookup nx = some .local ∧
    (∀ y ∈ scope.names, y.2 ≠ .cell ∧ (y.2 = .free → y.1 = ("__class__" : Str))) ∧ scope.kind = .function ∧ scope.isCoroutine = false ∧ scope.isGenerator = false ∧
    (p2.endLine == p4.line) = true ∧ body = [.Expr (.Call (.Attribute (.Call (.Name "super" p0) [] [] p1) "__init__" p2) [.Constant (.str text) j p3] [] p4) p5, .Assign [.Attribute (.Name sx p6) f p7] (.Name nx p8) p9]
  code : ∃ (ccl : Value) (cdd : Option Addr) (vs : Array Value) (ccs : Array (Option Value)) (file : Str) (tf : Tok), K.lookup cda = some ⟨ccl, cdd, .fields vs, ccs⟩ ∧ vs[2]? = some (.str file tf) ∧ ((P.main.file : Str) == file) = true
  cell : ∃ (cl : Value) (cld : Option Addr) (csl : Array (Option Value)), K.lookup cc = some ⟨cl, cld, .cell (some (.ref C)), csl⟩
  ne : sx ≠ nx
  dsx : (sx == ("__debug__" : Str)) = false ∧ (sx == ("__classdict__" : Str)) = false
  dnx : (nx == ("__debug__" : Str)) = false ∧ (nx == ("__classdict__" : Str)) = false
  top : (P.main.scope.names.lookup ("super" : Str)).isSome = false
def spI (f : Str) (C : Addr) : Sp := fun vs H Q _ => ∃ (a : Addr) (y : V), vs = [.ref a, y] ∧ H a = some (exo a C none) ∧ ∀ dx, H dx = none → dx ≠ a → Q .non (upd (upd H dx (exd dx [(f, y)])) a (exo a C (some dx)))
def cxI (P : Program) (w : World) (K : PySem.W.Frag) (mg : Str → Option Value) (base : Heap) (N : List Str) (qual : Str) (scope : Scope) (f : Addr) (cd : Value) (cc : Addr) (A : Around) (outer : List PySem.Env) (s : Shared) (H : Hp) : Cx where
  prog := P
  w := w
  K := K
  mg := mg
  base := base
  A := A.deeper (PySem.W.envX qual scope s.heap.objs.size f cd [("__class__", cc)])
  N := N
  s_0 := s
  H_0 := H
  env := PySem.W.envX qual scope s.heap.objs.size f cd [("__class__", cc)]
  outer := outer
  stack := PySem.W.envX qual scope s.heap.objs.size f cd [("__class__", cc)] :: outer
  ex := []
  calm := true
  fn := fun x => decide (x ≠ ("__class__" : Str))
  pn := []
  xe := fun _ _ => False
theorem one_cell {x : Str} {c cc : Addr} (h : List.lookup x [(("__class__" : Str), cc)] = some c) : x = ("__class__" : Str) ∧ c = cc := by
  unfold List.lookup at h
  split at h
  · rename_i e
    exact ⟨eq_of_beq e, (Option.some.inj h).symm⟩
  · simp [List.lookup] at h
section
variable {P : Program} {w : World} {K : PySem.W.Frag} {mg : Str → Option Value} {base : Heap} {k : Nat} {fI C cc cda : Addr} {fd : FuncData} {sx nx f : Str} {qual : Str} {scope : Scope} {cd : Value} {A : Around} {outer : List PySem.Env} {s : Shared} {H : Hp}
theorem inv_init {m : Str → Option Value} {h1 : Heap} {tk : Nat} {N : List Str} {σ : L2.St} (hkind : scope.kind = .function) (hsc : ∀ y ∈ scope.names, y.2 ≠ .cell ∧ (y.2 = .free → y.1 = ("__class__" : Str))) (hd : A.handled = none) (e0 : Env0 P w K mg base A outer s H)
    (hcell : ∃ (cl : Value) (cld : Option Addr) (csl : Array (Option Value)), K.lookup cc = some ⟨cl, cld, .cell (some (.ref C)), csl⟩) (hn : h1.Ns s.heap.objs.size m) (hk : ∀ b o, s.heap.get? b = some o → h1.get? b = some o)
    (hl : σ.length = N.length) (hv : ∀ (i : Nat) (x : Str) (v : V), N[i]? = some x → σ[i]? = some (some v) → scope.names.lookup x = some .local ∧ ∃ u, RelV v u ∧ m x = some u) :
    Inv (cxI P w K mg base N qual scope fI cd cc A outer s H) [] σ H { s with heap := h1, toks := tk } := by
  obtain ⟨cl, cld, csl, hcl⟩ := hcell
  have noA : ∀ b : Addr, b ∉ (cxI P w K mg base N qual scope fI cd cc A outer s H).ex := fun b z => absurd (show b ∈ ([] : List Addr) from z) (by simp)
  have hcb := e0.mod.kin _ _ hcl
  refine ⟨⟨e0.mod, hkind, rfl, rfl, Nat.le_refl _, fun x y c h1 h2 => ?_, fun x hx => ?_, fun x c h1 h2 => ?_, fun _ => hd, Around.frames_deeper e0.frames, .inr ⟨rfl, rfl⟩, fun b z => absurd z (noA b), e0.bs, e0.bsz, fun b _ _ => noA b, fun b z => absurd z (noA b), e0.funs, e0.frf⟩,
    rfl, e0.bare, Un.kept hk, ⟨_, hn, fun i x v q1 q2 _ => ?_⟩, fun x c h => ?_, e0.hok.fresh (Nat.le_refl _), fun x c h => ?_, fun p hp => absurd (show p ∈ ([] : List (Addr × Obj)) from hp) (by simp), e0.hok.kept hk, hl⟩
  · exact (one_cell h1).1.trans (one_cell h2).1.symm
  · have hx' : scope.names.lookup x = some .cell ∨ scope.names.lookup x = some .free := hx
    rcases hx' with z | z
    · exact absurd rfl ((hsc _ (PySem.mem_of_lookup z)).1)
    · have e : x = ("__class__" : Str) := (hsc _ (PySem.mem_of_lookup z)).2 rfl
      subst e
      exact ⟨cc, rfl⟩
  · have e := (one_cell h2).1
    subst e
    cases h1
  · obtain ⟨z, u, ru, hm⟩ := hv i x v q1 q2
    exact ⟨u, ru, .inl ⟨z, hm⟩⟩
  · obtain ⟨_, rfl⟩ := one_cell h
    exact ⟨_, _, hk _ _ (e0.bs _ _ hcb).1, rfl⟩
  · obtain ⟨_, rfl⟩ := one_cell h
    exact (e0.bs _ _ hcb).2
end
/-- the bound built-in __init__, called -/
theorem call_vei {X : Cx} {pins : List (Addr × Obj)} {σ : L2.St} {H : Hp} {s : Shared} {a C u : Addr} {us : List Value} {B : Around} {Q : Value → Shared → Prop} {E : Value → Shared → Prop} (T : OexC X.K C) (I : Inv X pins σ H s) (e : H a = some (exo a C none)) (hu : s.heap.get? u = some (PySem.W.kxs_mw "ValueError.__init__" a)) (hl : us.length ≤ sizeLine)
    (h : ∀ s', Inv X pins σ H s' → Q .none s') : wpAny (model X.prog X.w) B (call (.ref u) us) Q E s := by
  obtain ⟨nm, q, N, bs, bm, sn, sub, ab, col, dd, k0, k1, k2, k3, k5, hC, hbm⟩ := T.cls
  obtain ⟨t1, ho⟩ := exo_at I.hok e
  obtain ⟨hp, g, d, t, os⟩ := s
  refine wpAny_call (codeAny_of_tree ?_)
  show wpAny (model X.prog X.w) B.in1 (callAny (.ref u) ⟨us, []⟩) _ _ _
  simp only [callAny]
  refine wpAny_bind (wpAny_load hu ?_)
  have hb : (Value.type "method-wrapper" == Value.type "method" || Value.type "method-wrapper" == Value.type "builtin_function_or_method" || Value.type "method-wrapper" == Value.type "method-wrapper") = true := by decide
  simp only [PySem.W.kxs_mw, hb, if_true]
  refine W.KFB.if_so (by decide) ?_
  refine wpAny_bind (PySem.ESX.check_bound F.excBase_ValueError (I.kIn _ _ hC) ho rfl ?_)
  refine wpAny_bind (wpAny_pure (wpAny_pure ?_))
  refine ⟨Code.quiet_builtin _ (by decide +kernel), codeAny_builtin F.excBase_ValueError.initEntry ?_⟩
  rw [Around.under_plainId F.excBase_ValueError.init.plain _]
  wp_walk
  have eu : upd H a (exo a C none) = H := by
    funext b
    by_cases hb : b = a
    · rw [hb, upd_same, e]
    · rw [upd_ne hb]
  have fin : ∀ h' t1, (∀ b o, b ≠ a → hp.get? b = some o → h'.get? b = some o) → h'.get? a = some (PySem.HandSPX.excO C t1) → Q .none ⟨h', g, d, t, os⟩ := fun h' t2 k hx => by
    have J := I.write (t' := t) (x := a) (e := a) (o := exo a C none) (by rw [e]; exact True.intro) (.inl rfl) k ⟨_, hx⟩ (exo_ok hx)
    rw [eu] at J
    exact h _ J
  refine fin _ hp.objs.size (fun b o hb ho' => ?_) ?_
  · rw [Heap.get?_update_other _ _ (Ne.symm hb)]
    exact Heap.get?_push_of_some _ ho'
  · rw [Heap.get?_update_self _ (Heap.get?_push_of_some _ ho) rfl]
    rfl

theorem Inv.one {X : Cx} {σ : L2.St} {H : Hp} {s : Shared} {p : Addr × Obj} (hp : X.pn = []) (I : Inv X [] σ H s) (h : s.heap.get? p.1 = some p.2 ∧ H p.1 = none ∧ p.1 ≠ X.env.locals ∧ p.1 ∉ X.fs ∧ ∀ v, p.2.data ≠ .cell v) : Inv X [p] σ H s :=
  ⟨I.ok, I.os, I.bare, I.base, I.loc, I.cell, I.free, I.freeC, fun q hq => by
    rw [hp, List.nil_append] at hq
    rw [List.mem_singleton.mp hq]
    exact h, I.hok, I.len⟩
theorem Inv.zero {X : Cx} {σ : L2.St} {H : Hp} {s : Shared} {p : List (Addr × Obj)} (hp : X.pn = []) (I : Inv X p σ H s) : Inv X [] σ H s :=
  ⟨I.ok, I.os, I.bare, I.base, I.loc, I.cell, I.free, I.freeC, fun q hq => by
    rw [hp] at hq
    exact absurd hq (by simp), I.hok, I.len⟩
theorem mth_eqA {o : Expr} {m : Str} {apos pos : Pos} {es : List Expr} {env : PySem.Env} (hn : es.all NoSt = true) (hl : es.length < 30) (hp : (apos.endLine == pos.line) = true) :
    eval (.Call (.Attribute o m apos) es [] pos) env = (do
      let ov ← attributeBase o m env (eval o env)
      standAt apos.atName
      let (f, first) ← holding [ov] (getMethod ov m (do return (← importBound o env).getD true))
      callWith pos f first (backTo pos (starEach es env)) []) := by
  have hform : methodCallForm (es.length + ([] : List Keyword).length) (backTo pos (starEach es env)) (backToKw pos (keywordEach [] env)) = true := by
    unfold methodCallForm
    rw [noSt_all hn]
    show (true && true && decide (es.length + 0 + 0 < 30)) = true
    rw [decide_eq_true (by omega)]
    rfl
  have hpos : methodCallPos true o env apos pos = pure pos := by unfold methodCallPos; simp [hp]
  rw [arm_eval_Call]
  unfold methodCall calleeOf
  rw [hform, hpos]
  simp only [if_true, pure_bind]
  rfl
theorem two_lookup {α : Type} {sx nx : Str} {u v : α} (ne : sx ≠ nx) : (([sx, nx].zip [u, v]).reverse).lookup sx = some u ∧ (([sx, nx].zip [u, v]).reverse).lookup nx = some v := by
  have e : (sx == nx) = false := beq_eq_false_iff_ne.mpr ne
  constructor
  · simp [List.lookup, e]
  · simp [List.lookup]
theorem fn_init {P : Program} {w : World} {K : PySem.W.Frag} {mg : Str → Option Value} {base : Heap} {k : Nat} {fI C cc cda : Addr} {fd : FuncData} {sx nx f : Str} (F : InitD P K fI C cc cda fd sx nx f) (T : ExI K C f) (hsup : mg "super" = none) :
    FnOk P w K mg base (L2.CX P w) (k + 1) fI fd [sx, nx] (spI f C) := by
  obtain ⟨⟨name, qual, params, body, scope, dV, kV, doc, pm, ct, oc, an, od, osl, ar, p0, p1, p2, p3, p4, p5, p6, p7, p8, p9, text, j, rfl, lk, hcd, hp, rfl, hks, hkc, hsx, hnx, hsc, hkind, hco, hgen, hline, rfl⟩, ⟨ccl, cdd, vs0, ccs, file, tf, hcode, hvs, hfile⟩, hcell, ne, dsx, dnx, htop⟩ := F
  refine ⟨fun vs H Q E ⟨a, y, e, _⟩ => by rw [e]; rfl, fun A outer s H args us vs Q E hr e0 hb hv hs => ?_⟩
  obtain ⟨a, y, rfl, ea, q⟩ := hs
  obtain ⟨u1, u2, rfl, r1, r2⟩ : ∃ u1 u2, us = [u1, u2] ∧ RelV (.ref a) u1 ∧ RelV y u2 := by
    cases hv with
    | cons r1 rr =>
      cases rr with
      | cons r2 rr =>
        cases rr
        exact ⟨_, _, rfl, r1, r2⟩
  obtain rfl : u1 = Value.ref a := r1
  have KX : K.In s.heap := e0.mod.kin.keeps fun b o e => (e0.bs b o e).1
  have lim : s.heap.NoLimit := e0.mod.nolimit.keeps fun b o e => (e0.bs b o e).1
  obtain ⟨l1, l2⟩ := two_lookup (α := Value) (u := .ref a) (v := u2) ne
  refine ks_codeAny_call_defAt hr.depth (KX _ _ lk) rfl lim (PySem.W.codeRec_of KX hcd) rfl hb (fun y hy => (hsc y hy).1) (fun y hy => ?_) (fun h1 hns hk => ?_) hco hgen hkind
  · have : y = (ar.arg, Value.ref a) ∨ y = (nx, u2) := by simpa using hy
    rcases this with z | z
    · rw [z]; exact hsx
    · rw [z]; exact hnx
  have I : Inv (cxI P w K mg base [ar.arg, nx] qual scope fI (.ref cda) cc A outer s H) [] [some (.ref a), some y] H { s with heap := h1, toks := s.toks + ([ar.arg, nx].zip [Value.ref a, u2]).length } := by
    refine inv_init hkind hsc hr.hd e0 hcell hns hk rfl fun i x v z1 z2 => ?_
    match i, z1, z2 with
    | 0, z1, z2 =>
      cases z1
      cases z2
      exact ⟨hsx, _, rfl, l1⟩
    | 1, z1, z2 =>
      cases z1
      cases z2
      exact ⟨hnx, _, r2, l2⟩
    | i + 2, z1, z2 => simp at z1
  obtain ⟨hp0, g0, d0, tk0, os0⟩ := s
  obtain ⟨clC, cldC, cslC, hcl⟩ := hcell
  obtain ⟨nm, qn, NC, bs, bm, sn, sub, ab, col, dd, k0, k1, k2, k3, k5, hC, hbm⟩ := T.oex.cls
  obtain ⟨mb, hmb1, hmb2⟩ := e0.mod.blt
  have KX1 : K.In h1 := I.kIn
  have boot : bootBuiltins "super" = some (.type "super") := by decide +kernel
  obtain ⟨t1, hx⟩ := exo_at I.hok ea
  refine ks_wpAt_mono (Q := fun fl s' => SP (cxI P w K mg base [ar.arg, nx] qual scope fI (.ref cda) cc A outer ⟨hp0, g0, d0, tk0, os0⟩ H) [] { nx := fun _ H' => Q .non H', rt := Q } fl s') (E := fun _ _ => False) ?_ (fun fl s' hs => ?_) (fun _ _ z => z.elim)
  · refine ks_wpAt_execs_cons (ks_wpAt_Expr_any (ks_wpAt_MethodCall (ks_wpAt_super_base hks hkc (by decide) rfl (hk _ _ (KX _ _ lk)) rfl hp rfl (hk _ _ (KX _ _ hcode)) rfl hvs hfile htop ?_) (mth_eqA rfl (show 1 < 30 by decide) hline)) (by unfold interactive; rw [show (callEnv (PySem.W.fnX name qual params _ scope [("__class__", cc)] dV kV doc pm an (.ref cda) ct) hp0.objs.size fI).scope.kind = .function from hkind]; rfl))
    refine PySem.W.ks_loadName_global hkind hks (Calls.loadGlobal_builtin (e0.mod.glob.keeps I.bk) hsup (hmb1.keeps I.bk) ((hmb2 _ (by decide)).trans boot) ⟨rfl, ?_⟩)
    refine wpAny_loadName_free hkind hkc rfl ⟨_, KX1 _ _ hcl, rfl⟩ ?_
    refine wpAny_loadName_local hkind hsx hns l1 ?_
    refine ks_wpAny_isType_cls (KX1 _ _ hC) rfl ⟨rfl, ?_⟩
    refine ks_wpAny_call_super (KX1 _ _ hC) rfl hx rfl (fun c z => by cases z) (PySem.W.looks_mroIn KX1 T.mro) (fun h2 e2 kk => ?_)
    have I2 : Inv (cxI P w K mg base [ar.arg, nx] qual scope fI (.ref cda) cc A outer ⟨hp0, g0, d0, tk0, os0⟩ H) [] [some (.ref a), some y] H ⟨h2, g0, d0, tk0 + ([ar.arg, nx].zip [Value.ref a, u2]).length, os0⟩ := I.kept kk
    have KX2 : K.In h2 := I2.kIn
    obtain ⟨t2, hx2⟩ := exo_at I2.hok ea
    obtain ⟨cdC, hcd1, hcd2⟩ : ∃ cdC, PySem.W.clsIn K C = some cdC ∧ PySem.W.alongIn K "__init__" ((cdC.mro.dropWhile (· != .ref C)).drop 1) = some (some (.builtin "ValueError.__init__")) := by
      have z := T.sup
      unfold PySem.W.ks_superIn at z
      cases hc : PySem.W.clsIn K C with
      | none => rw [hc] at z; cases z
      | some c => rw [hc] at z; exact ⟨c, rfl, z⟩
    have IA : PySem.W.InstAt h2 a _ C none := ⟨hx2, rfl, rfl, trivial⟩
    have hmro : PySem.W.Looks (model P w) h2 (mroOf (.ref C)) cdC.mro := fun A Q E s k q => wpAny_bind ((PySem.W.looks_clsIn KX2 hcd1) A _ E s k (wpAny_pure q))
    refine PySem.W.kxs_getMethod PySem.W.kxs_ValueError e2 (PySem.W.looks_opaque KX2 T.st) hmro rfl KX2 hcd2 (IA.type.andThen (PySem.W.looks_subIn KX2 T.sub)) (PySem.W.ks_ne KX2 IA hcd1) (by decide) ?_
    have kp : ∀ b o, h2.get? b = some o → (h2.push (PySem.W.kxs_mw "ValueError.__init__" a)).get? b = some o := fun b o e => Heap.get?_push_of_some _ e
    have I3 : Inv (cxI P w K mg base [ar.arg, nx] qual scope fI (.ref cda) cc A outer ⟨hp0, g0, d0, tk0, os0⟩ H) [] [some (.ref a), some y] H ⟨h2.push (PySem.W.kxs_mw "ValueError.__init__" a), g0, d0, tk0 + ([ar.arg, nx].zip [Value.ref a, u2]).length + 1, os0⟩ := I2.kept kp
    have hu : (h2.push (PySem.W.kxs_mw "ValueError.__init__" a)).get? h2.objs.size = some (PySem.W.kxs_mw "ValueError.__init__" a) := Heap.get?_push_size _ rfl
    have I4 := Inv.one (p := (h2.objs.size, PySem.W.kxs_mw "ValueError.__init__" a)) rfl I3 ⟨hu, I2.hok.fresh (Nat.le_refl _), fun z => absurd I2.lt (by rw [← z]; exact Nat.lt_irrefl _), I2.nofs (Nat.le_refl _), fun v z => by cases z⟩
    refine PySem.W.kxs_callWith (i := "ValueError.__init__") (x := a) rfl ?_
    refine Calls.evalArgs_plain (thn ((pa_one (pe_str (x := text) (j := j) (pos := p3)) rfl).run p4 _ _ _ H (fun vs H1 => (∃ v, vs = [v]) ∧ H1 = H) I4 ⟨⟨_, rfl⟩, rfl⟩) fun us s4 hh => ?_)
    obtain ⟨vs, H1, I5, r5, ⟨v5, rfl⟩, rfl⟩ := hh
    have hp5 := I5.pin _ (List.mem_append_right _ List.mem_cons_self)
    refine ⟨hp5.1, ?_⟩
    refine call_vei T.oex I5 ea hp5.1 ?_ fun s6 J => ?_
    · have := r5.length
      rw [show ([] ++ us : List Value) = us from rfl, ← this]
      show 1 ≤ sizeLine
      decide
    · exact wpAt_of_wpAny ((pss_cons (ps_ost (pe_var (i := 0) rfl (.inl hsx) dsx.1 dsx.2) (pe_var (i := 1) rfl (.inl hnx) dnx.1 dnx.2)) pss_nil).run [] s6 _ _ _ (Inv.zero rfl J) ⟨y, rfl, .ref a, rfl, a, C, rfl, T.oex, T.no, .inl ⟨ea, q⟩⟩)
  · have fin : ∀ {σ' : L2.St} {H' : Hp} {v : V} {u : Value}, Inv (cxI P w K mg base [ar.arg, nx] qual scope fI (.ref cda) cc A outer ⟨hp0, g0, d0, tk0, os0⟩ H) [] σ' H' s' → RelV v u → Q v H' → CE outer P w H ⟨hp0, g0, d0, tk0, os0⟩ Q u s' :=
      fun {σ' H' v u} J rv q => ⟨v, H', J.os, J.bare, J.base, J.hok, rv, q⟩
    cases fl with
    | ret u =>
      obtain ⟨v, σ', H', J, rv, q⟩ := hs
      exact fin J rv q
    | next =>
      obtain ⟨σ', H', J, q⟩ := hs
      exact fin (v := V.non) (u := Value.none) J rfl q
    | brk =>
      obtain ⟨_, _, _, q⟩ := hs
      exact q.elim
    | cont =>
      obtain ⟨_, _, _, q⟩ := hs
      exact q.elim
end Fm
end

section
set_option Elab.async false
set_option linter.all false
set_option maxRecDepth 10000
set_option autoImplicit false
set_option maxHeartbeats 2000000
namespace Fm
open PySem L2
/-! raise C(x) -/
/-- an exception's class as the program's name says it -/
structure ExA (T : Wd) (X : Cx) (kf ci : Nat) (x : Str) : Prop where
  mg : X.mg x = some (.ref (T.cls ci))
  oex : OexC X.K (T.cls ci)
  ini : ∃ fI fd ps, PySem.W.findIn X.K (.ref (T.cls ci)) "__init__" = some (some (.ref fI)) ∧ PySem.W.typeIn X.K (.ref fI) = some (.type "function") ∧ FnOk X.prog X.w X.K X.mg X.base (L2.CX X.prog X.w) kf fI fd ps (spI (T.xf ci) (T.cls ci)) ∧ Binds X.K fd ps []
theorem exo_out {H : Hp} {a C dx : Addr} {f : Str} {y : V} (h : H a = none) (n : dx ≠ a) :
    upd (del (upd (upd (upd H a (exo a C none)) dx (exd dx [(f, y)])) a (exo a C (some dx))) a) dx (.xd [(f, y)]) = upd H dx (.xd [(f, y)]) := by
  funext b
  by_cases h1 : b = dx
  · subst h1
    rw [upd_same, upd_same]
  · rw [upd_ne h1, upd_ne h1]
    by_cases h2 : b = a
    · subst h2
      rw [del_same, h]
    · rw [del_ne h2, upd_ne h2, upd_ne h1, upd_ne h2]
section
variable {T : Wd} {P : Pg} {cl : Cl} {X : Cx} {W : WX} {pr : List Nat} {kf ci : Nat} {x : Str} {a : IE} {ax : Expr} {p pos p2 : Pos}
theorem sndS_raise (g : Gd T X W (kf + 1)) (E : ExA T X kf ci x) (hg : Gl X x) (hdb : (x == ("__debug__" : Str)) = false) (ha : Snd T P cl X W a ax) (hst : a.isStar = false) (hs : NoSt ax = true) :
    SndS T P cl X W pr (.raise ci [a]) (.Raise (some (.Call (.Name x p) [ax] [] pos)) none p2) := by
  intro c G env σ H D hp st po
  obtain ⟨fI, fd, ps, i1, i2, F1, hb⟩ := E.ini
  unfold ex at po
  refine SW.of (ps_raise g.calm g.takes (pmk_oex E.oex i1 i2 F1 g.room hb (.nil : Vals [] []) (passes_call g.takes fun cls d σ H z => z.elim) hg E.mg (pa_one pe_W hs) hdb (noSt_each hs))) ?_
  have po0 : PX T c G (fun _ => True) W ((ev P cl a env).thn fun o env1 => (R.of (frzs [o] env1)).thn fun ds env2 => (R.exc ci ds env2 : R (Fl × Env))) (KS T c G D) := by
    have e : (evs P cl [a] env).thn (fun os env1 => (R.of (frzs os env1)).thn fun ds env2 => (R.exc ci ds env2 : R (Fl × Env))) = (ev P cl a env).thn fun o env1 => (R.of (frzs [o] env1)).thn fun ds env2 => (R.exc ci ds env2 : R (Fl × Env)) := by
      rw [evs_cons _ _ hst]
      cases ev P cl a env with
      | ok q =>
        show ((evs P cl [] q.2).thn fun xs env2 => R.ok (q.1 :: xs, env2)).thn _ = _
        unfold evs
        rfl
      | exc _ _ _ => rfl
      | stuck => rfl
    rw [← e]
    exact po
  show EW X ax σ H _
  refine ha c G env σ H _ st ((ex_thn po0).mono ?_)
  rintro ⟨o, env1⟩ _ po1 v H1 st1 a1
  dsimp only at po1 st1
  refine ⟨by show 1 ≤ 1000; decide, fun b hb0 => ⟨b, v, rfl, upd_same, fun dx hdx hne => ?_⟩⟩
  have hdx' : H1 dx = none := by rw [upd_ne hne] at hdx; exact hdx
  refine ⟨rfl, dx, [(T.xf ci, v)], upd_same, by rw [upd_ne hne, upd_same], hdx', ?_⟩
  show W (.ref (T.cls ci)) (some dx) σ _
  rw [exo_out hb0 hne]
  cases h : frz o env1 with
  | none =>
    have e : frzs [o] env1 = none := by unfold frzs; rw [h]; rfl
    rw [e] at po1
    exact po1.elim
  | some q =>
  obtain ⟨d, env2⟩ := q
  have e : frzs [o] env1 = some ([d], env2) := by unfold frzs; rw [h]; unfold frzs; rfl
  rw [e] at po1
  have st2 := frz_ok st1 a1 h
  obtain ⟨F, r, k⟩ := st2
  exact po1 σ (some dx) _ [(.val d, v)] trivial (.inr ⟨d, dx, v, rfl, rfl, upd_same, rfl⟩) ⟨F, Rel.junk r hdx', k⟩
end
end Fm
end

section
set_option Elab.async false
set_option linter.all false
set_option maxRecDepth 10000
set_option autoImplicit false
set_option maxHeartbeats 2000000
namespace Fm
open PySem PySem.Spec PyProof.Rows
open L2 hiding St
/-! several clauses, each with a name -/
abbrev Cla := Value × Nat × (Addr → Value → Option Addr → TS)
def wMa (K : PySem.W.Frag) (Wo : L2.WX) (D : Ends) : List Cla → L2.WX
  | [] => Wo
  | (c, i, ts) :: r => fun cls d σ H => ∃ b, PySem.W.exmOne K cls c = some b ∧
      (b = true → ∀ a, H a = none → ts a cls d { nx := fun σ' H' => D.nx (σ'.set i none) H', rt := D.rt, bk := fun σ' H' => D.bk (σ'.set i none) H', ct := fun σ' H' => D.ct (σ'.set i none) H' } (σ.set i (some (.ref a))) H) ∧
      (b = false → wMa K Wo D r cls d σ H)
inductive HdA (X : Cx) : List ExceptHandler → List Cla → Prop
  | nil : HdA X [] []
  | cons {x n : Str} {c : Value} {i : Nat} {ts : Addr → Value → Option Addr → TS} {st : Stmt} {sts : List Stmt} {np pos' : Pos} {hds : List ExceptHandler} {l : List Cla} (hc : Names X x c) (hi : X.N[i]? = some n) (hl : X.env.kindOf n = some .local)
      (hsu : ∀ (a : Addr) (ob : Obj) (cls : Value) (d : Option Addr) (pn : List (Addr × Obj)), Zc cls d ob → (∃ vs, ob.data = .fields vs) → PSs (X.suite a ((a, ob) :: pn)) (st :: sts) (ts a cls d)) (r : HdA X hds l) :
      HdA X (.ExceptHandler (some (.Name x np)) (some n) (st :: sts) pos' :: hds) ((c, i, ts) :: l)
section
variable {X : Cx} {body : List Stmt} {hd0 : ExceptHandler} {hds : List ExceptHandler} {l : List Cla} {pos : Pos} {tb : L2.WX → TS} {Wo : L2.WX}
theorem ps_try_ma (hs : X.stack = X.env :: X.outer) (hf : X.env.frame = some X.env.locals) (hN : X.N.Nodup) (tk : Takes X Wo)
    (hb : ∀ (W : L2.WX) (pn : List (Addr × Obj)) (xe : Value → Shared → Prop), Takes (X.tr pn xe) W → PassesOwn (model X.prog X.w) X.A X.env xe → PSs (X.tr pn xe) body (tb W))
    (hh : HdA X (hd0 :: hds) l) : PS X (.Try body (hd0 :: hds) [] [] pos) (fun D σ H => tb (wMa X.K Wo D l) D σ H) := by
  refine ⟨fun pins s σ H D I h => ?_⟩
  have ok := I.ok
  have hfr : X.A.frames = some (X.env :: X.outer) := by rw [ok.frames, hs]
  let M := model X.prog X.w
  refine wpAny_Try_except ?_
  refine wpAny_mono ((hb (wMa X.K Wo D l) (X.pn ++ pins) (fun e s1 => wpAny M X.A (noteFrame e X.env) (fun _ s2 => wpAny M X.A (setFlight e none) (fun _ s3 => wpAny M X.A (handleBy e X.env (hd0 :: hds)) (SP X pins D) X.xe s3) X.xe s2) X.xe s1) (fun u sx hx => ?_) PassesOwn.looking).run [] s σ H D (I.toTry _) h) (fun f s1 hsp => ?_) (fun e s1 he => he)
  · obtain ⟨a, B, sI, pins', σ', H', cls, d, rfl, JT, nb, up, sky, na, os, ag, w⟩ := hx
    have J : Inv X pins σ' H' sI := JT.ofTry ok
    have skyX : Sky B (X.env :: X.outer) a (Zc cls d) X.env.locals sx.heap := by rw [← hs]; exact sky
    show wpAny M X.A (noteFrame (.ref a) X.env) _ _ _
    refine Sky.land Zc.steady hfr hf skyX fun h3 fl3 up3 => ?_
    have J3 : Inv X pins σ' H' { sx with heap := h3 } := J.landed nb fl3.1 (up.trans up3) os ag
    obtain ⟨ob3, vs3, he3, hz3, hd3⟩ := fl3.there
    have outFr : ∀ {h : Heap} {o : Obj} {vs : Array Value}, h.FunFrames B (X.env :: X.outer) → h.get? a = some o → o.data = .fields vs → a ∉ frs (X.env :: X.outer) := by
      intro h o vs ff e dd hm
      obtain ⟨_, o2, e2, hnf⟩ := ff.mem hm
      rw [e] at e2
      cases e2
      exact hnf _ dd
    have nfr := outFr fl3.2.2.1 he3 hd3
    have nL : a ≠ X.env.locals := by
      intro z
      exact nfr (List.mem_filterMap.mpr ⟨X.env, List.mem_cons_self, by rw [hf, z]⟩)
    have nF : a ∉ X.fs := by
      intro hm
      obtain ⟨e, he, q⟩ := List.mem_filterMap.mp hm
      exact nfr (List.mem_filterMap.mpr ⟨e, List.mem_cons_of_mem _ he, q⟩)
    have S3 := J3.suite he3 hd3 na nL nF
    have go : ∀ {hk : List ExceptHandler} {lk : List Cla}, HdA X hk lk → wMa X.K Wo D lk cls d σ' H' → wpAny M X.A (handleBy (.ref a) X.env hk) (SP X pins D) X.xe { sx with heap := h3 } := by
      intro hk lk hka
      induction hka with
      | nil =>
        intro w
        refine wpAny_handleBy_nil ?_
        obtain ⟨k1, k2, k3, oe, vs, T, oT, ts', he, hz, hdt, h1, hr⟩ := id fl3
        unfold PySem.passOn
        refine wpAny_bind (wpAny_field he hdt h1 ?_)
        rw [if_neg (show ¬ ((Value.ref T == Value.none) = true) from by simp)]
        have fin : wpAny M X.A (setFlight (.ref a) X.env.frame) (fun _ s4 => wpAny M X.A (throw (.ref a) : Sem Flow) (SP X pins D) X.xe s4) X.xe { sx with heap := h3 } := by
          rw [hf]
          refine HandSPX.setFlight_upZ fl3 fun h4 hh4 up4 => wpAny_throw (tk _ _ ?_)
          refine ⟨a, B, sI, pins, σ', H', cls, d, rfl, J, nb, (up.trans up3).trans up4, .inr (.inr ?_), na, os, ag, w⟩
          rw [hs]
          exact hh4
        first
          | exact wpAny_bind (wpAny_pure (wpAny_bind fin))
          | exact wpAny_bind fin
      | @cons x n c i ts st sts np pos' hds2 l2 hc hi hl hsu r ih =>
        intro w
        obtain ⟨b, hb1, hyes, hno⟩ := w
        refine wpAny_handleBy_cons (codeAny_handlers_test ?_) (by intro q; cases q)
        have LT : PySem.W.Looks M h3 (typeOf (.ref a)) cls := by
          intro A Q E s k q
          exact wpAny_typeOf_ref (k _ _ he3) (by rw [hz3.1]; exact q)
        have LM := PySem.W.exm_one (M := M) (J3.kIn) LT hb1
        have test : ∀ {Q : Value → Shared → Prop} {E : Value → Shared → Prop}, Q c { sx with heap := h3 } → wpAny M (X.A.mark (some (.ref a))) (eval (.Name x np) X.env) Q E { sx with heap := h3 } := by
          intro Q E q
          obtain ⟨hg, hdbg, hm | ⟨hm, hv, hnn⟩⟩ := hc
          · exact ld_glob (X := X.suite a ((a, ob3) :: (X.pn ++ pins))) S3 hg hm q hdbg
          · exact ld_blt (X := X.suite a ((a, ob3) :: (X.pn ++ pins))) S3 hg hm hv q hnn hdbg
        refine test (LM.here ?_)
        cases b with
        | true =>
          refine codeAny_handlers_suite_as ?_
          refine HandSPX.lands_againZ fl3 fun h4 fl4 up4 => ?_
          have J4 : Inv X pins σ' H' { sx with heap := h4 } := J.landed nb fl4.1 ((up.trans up3).trans up4) os ag
          obtain ⟨ob4, vs4, he4, hz4, hd4⟩ := fl4.there
          have S4 := J4.suite he4 hd4 na nL nF
          refine store_ok (X := X.suite a ((a, ob4) :: (X.pn ++ pins))) (v := .ref a) S4 hN hi (.inl hl) rfl (fun s5 S5 => ?_) (.inr hl)
          refine wpAny_mono ((hsu a ob4 cls d (X.pn ++ pins) hz4 ⟨_, hd4⟩).run [] s5 _ H' _ S5 (hyes rfl a na)) (fun f s6 hsp => ?_) (fun _ _ z => False.elim z)
          have last : ∀ {σ6 : L2.St} {H6 : Hp} {Q : Shared → Prop}, Inv (X.suite a ((a, ob4) :: (X.pn ++ pins))) [] σ6 H6 s6 → (∀ s7, Inv X pins (σ6.set i none) H6 s7 → Q s7) →
              wpAny M X.A (do bindName X.env n .none; unbindBehindTheSuite X.env n pos') (fun _ s7 => Q s7) X.xe s6 := fun S6 hq => gone_ok (S6.unsuite ok) hN hi hl hq
          cases f with
          | next =>
            obtain ⟨_, _, S6, q6⟩ := hsp
            exact last S6 fun s7 J7 => ⟨_, _, J7, q6⟩
          | brk =>
            obtain ⟨_, _, S6, q6⟩ := hsp
            exact last S6 fun s7 J7 => ⟨_, _, J7, q6⟩
          | cont =>
            obtain ⟨_, _, S6, q6⟩ := hsp
            exact last S6 fun s7 J7 => ⟨_, _, J7, q6⟩
          | ret u =>
            obtain ⟨_, _, _, S6, r6, q6⟩ := hsp
            exact last S6 fun s7 J7 => ⟨_, _, _, J7, r6, q6⟩
        | false =>
          show wpAny M X.A (handleBy (.ref a) X.env hds2) _ _ _
          exact ih (hno rfl)
    exact go hh w
  · cases f with
    | next =>
      obtain ⟨_, _, JN, q⟩ := hsp
      exact wpAny_execs_nil ⟨_, _, JN.ofTry ok, q⟩
    | brk =>
      obtain ⟨_, _, JN, q⟩ := hsp
      exact ⟨_, _, JN.ofTry ok, q⟩
    | cont =>
      obtain ⟨_, _, JN, q⟩ := hsp
      exact ⟨_, _, JN.ofTry ok, q⟩
    | ret u =>
      obtain ⟨_, _, _, JN, r, q⟩ := hsp
      exact ⟨_, _, _, JN.ofTry ok, r, q⟩
end
/-! isinstance(e, C) in a suite -/
structure ExC (K : PySem.W.Frag) (D : Addr) : Prop where
  cl : (PySem.W.clsIn K D).isSome = true
  ga : PySem.W.findIn K (.ref D) "__getattribute__" = some (some (.builtin "BaseException.__getattribute__"))
  gg : PySem.W.findIn K (.ref D) "__getattr__" = some none
  sub : PySem.W.subIn K (.ref D) (.type "BaseException") = some true
  hd : PySem.W.hasDictIn K D = true
  ha : PySem.W.findIn K (.ref D) "__class__" = some (some (.builtin "object.__class__"))
  hn : PySem.W.specialIn K (.builtin "object.__class__") "__get__" = some (some (.builtin "getset_descriptor.__get__"))
  ht : PySem.W.takesIn K (.builtin "object.__class__") = some true
  hm : PySem.W.mroIn K D (.type "object") = some true
def rIsD (K : PySem.W.Frag) (D a dd : Addr) : List V → Hp → VK → Prop := fun xs H Q => ∃ (c : V) (cv : Value) (b : Bool) (fs : List (Str × V)), xs = [.ref a, c] ∧ (∀ u, RelV c u → u = cv) ∧ PySem.W.kitOne K (.ref D) cv = some b ∧ H dd = some (.xd fs) ∧ Q (.bl b) H
theorem call_isD {X : Cx} {a D dd : Addr} {ob : Obj} {pn : List (Addr × Obj)} (C : ExC X.K D) (hz : Zc (.ref D) (some dd) ob) (hf : ∃ vs, ob.data = .fields vs) : CallR (X.suite a ((a, ob) :: pn)) (.builtin "isinstance") (rIsD X.K D a dd) := by
  intro pins s σ H xs us Q I r h
  obtain ⟨c, cv, b, fs, rfl, hcv, e, hdd, q⟩ := h
  cases r with
  | cons rx rr =>
    cases rr with
    | cons rt rr =>
      cases rr
      cases rx
      have ec := hcv _ rt
      subst ec
      obtain ⟨hget, _⟩ := I.pin (a, ob) (List.mem_append.mpr (.inl List.mem_cons_self))
      obtain ⟨vs, hv⟩ := hf
      have hx : ObjOk X.prog X.w H s.heap dd (.xd fs) := I.hok dd _ hdd
      obtain ⟨mA, hns, hr⟩ := hx
      obtain ⟨od, ho, _⟩ := lookIn_ns hns
      have J : PySem.W.InstAt s.heap a ob D (some od) := ⟨hget, hz.1, by unfold PySem.W.notCls; rw [hv], by rw [hz.2]; exact ho⟩
      exact PySem.W.kia_one (PySem.W.kitx_exc C.cl C.ga C.gg C.sub C.ha C.hn C.ht C.hm) I.kIn J e (fun z => nomatch z) fun tk => ⟨.bl b, H, I.kept (t' := tk) fun _ _ z => z, rfl, q⟩
end Fm
end

section
set_option Elab.async false
set_option linter.all false
set_option maxRecDepth 10000
set_option autoImplicit false
set_option maxHeartbeats 2000000
namespace Fm
open PySem L2
/-! try: .. except C as e: t = [..] -/
section
variable {T : Wd} {c : Fr} {G : List SV} {env : Env} {σ : St} {H : Hp}
theorem Stt.gone {i : Nat} (h : Stt T c G env σ H) (hp : ∀ p ∈ c.pin, p.1 ≠ i) : Stt T c G (env.set i .emp) (σ.set i none) H := by
  obtain ⟨F, r, k⟩ := h
  have k2 : EnvOk c (env.set i .emp) (σ.set i none) := by
    refine ⟨by rw [List.length_set, List.length_set]; exact k.len, fun j s' hj hn => ?_, fun p hpp => ?_⟩
    · rw [set_get] at hj ⊢
      split at hj
      · split at hj
        · cases hj; exact absurd rfl hn
        · cases hj
      · rename_i e
        rw [if_neg e]
        exact k.has j s' hj hn
    · rw [set_get, if_neg (Ne.symm (hp p hpp))]
      exact k.pins p hpp
  refine ⟨F, ?_, k2⟩
  by_cases hi : i < env.length
  · have h1 : env[i]? = some env[i] := List.getElem?_eq_getElem hi
    obtain ⟨o, h2⟩ := k.sig h1
    obtain ⟨A, B, e1, _, e3⟩ := split_at (zp_get h1 h2)
    rw [zp_set, e3]
    have r1 : Rel T c (G ++ (A ++ B)) F H := by
      refine r.less ?_
      rw [e1]
      exact List.Sublist.append_left (List.Sublist.append_left (List.sublist_cons_self _ _) _) _
    exact (r1.emp (v := (none : Option V).getD .non)).unName
  · rw [List.set_eq_of_length_le (by omega), List.set_eq_of_length_le (by rw [← k.len]; omega)]
    exact r
end
/-- what a suite's element must be -/
def HEOk (T : Wd) (P : Pg) (X : Cx) (S : Nat → Prop) (n : Str) : HE → Expr → Prop
  | .cn k, ax => NoSt ax = true ∧ ∃ u, (∀ F, Rep T F k.d u) ∧ ∀ (Y : Cx) (σ : St) (H : Hp) (Q : VK), Q u H → EW Y ax σ H Q
  | .fd, ax => ∃ (f : Str) (p p2 : Pos), ax = .Attribute (.Name n p) f p2 ∧ ∀ ci, S ci → T.xf ci = f ∧ XfC X.K (T.cls ci) ∧ PySem.W.findIn X.K (.ref (T.cls ci)) f = some none
  | .is k, ax => ∃ (y : Str) (p p2 p3 pos : Pos), ax = .Call (.Name "isinstance" p) [.Name n p2, .Name y p3] [] pos ∧ Gl X y ∧ (y == ("__debug__" : Str)) = false ∧ X.mg y = some (.ref (T.cls k)) ∧
      ∀ ci, S ci → ExC X.K (T.cls ci) ∧ PySem.W.kitOne X.K (.ref (T.cls ci)) (.ref (T.cls k)) = some (P.sub ci k)
  | .isv, ax => ∃ (p p2 p3 pos : Pos), ax = .Call (.Name "isinstance" p) [.Name n p2, .Name "ValueError" p3] [] pos ∧ Blt X "ValueError" (.type "ValueError") ∧
      ∀ ci, S ci → ExC X.K (T.cls ci) ∧ PySem.W.kitOne X.K (.ref (T.cls ci)) (.type "ValueError") = some true
def HEs (T : Wd) (P : Pg) (X : Cx) (S : Nat → Prop) (n : Str) : List HE → List Expr → Prop
  | [], [] => True
  | e :: es, a :: axs => HEOk T P X S n e a ∧ HEs T P X S n es axs
  | _, _ => False
def RepPs (T : Wd) (F : Hp) (ps : List SV) : Prop := ∀ d v, (Slot.val d, v) ∈ ps → Rep T F d v
section
variable {T : Wd} {P : Pg} {X : Cx} {S : Nat → Prop} {n : Str} {ci i : Nat} {x : List D} {dd : Option Addr} {H : Hp} {ps : List SV} {σ : St} {a : Addr} {ob : Obj} {pn : List (Addr × Obj)}
theorem he_ok {e : HE} {ax : Expr} {d : D} (h : HEOk T P X S n e ax) (hb : Blt X "isinstance" (.builtin "isinstance")) (hN : X.N[i]? = some n) (hl : X.env.scope.names.lookup n = some .local) (hd : (n == ("__debug__" : Str)) = false) (hcd : (n == ("__classdict__" : Str)) = false)
    (hci : S ci) (hx : XArgs T ci x dd H ps) (ev : hev P ci x e = some d) (hz : Zc (.ref (T.cls ci)) dd ob) (hf : ∃ vs, ob.data = .fields vs) (hσ : σ[i]? = some (some (.ref a))) :
    NoSt ax = true ∧ ∃ u, (∀ F, RepPs T F ps → Rep T F d u) ∧ ∀ Q : VK, Q u H → EW (X.suite a ((a, ob) :: pn)) ax σ H Q := by
  have pv : ∀ {p : Pos}, PE (X.suite a ((a, ob) :: pn)) (.Name n p) (tVar i) := pe_var hN (.inl hl) hd hcd
  cases e with
  | cn k =>
    obtain ⟨h0, u, h1, h2⟩ := h
    cases ev
    exact ⟨h0, u, fun F _ => h1 F, fun Q q => h2 _ _ _ _ q⟩
  | fd =>
    obtain ⟨f, p, p2, rfl, h1⟩ := h
    obtain ⟨e1, e2, e3⟩ := h1 ci hci
    rcases hx with ⟨rfl, _, _⟩ | ⟨y, d2, v, rfl, rfl, hd2, rfl⟩
    · cases ev
    · cases ev
      refine ⟨rfl, v, fun F q => q _ _ List.mem_cons_self, fun Q q => EW.of (pe_xf e2 e3 hz hf pv rfl) ⟨_, hσ, rfl, rfl, d2, _, v, rfl, hd2, ?_, q⟩⟩
      rw [e1]
      simp [List.lookup]
  | is k =>
    obtain ⟨y, p, p2, p3, pos, rfl, h1, h2, h3, h4⟩ := h
    obtain ⟨e1, e2⟩ := h4 ci hci
    rcases hx with ⟨rfl, _, _⟩ | ⟨z, d2, v, rfl, rfl, hd2, rfl⟩
    · cases ev
    · cases ev
      refine ⟨rfl, .bl (P.sub ci k), fun F _ => rfl, fun Q q => ?_⟩
      refine EW.of (pe_callB (call_isD e1 hz hf) hb.gl hb.mg hb.bt (pa_cons pv (pa_one (pe_glob h1 h3 (show RelV (.ref (T.cls k)) (.ref (T.cls k)) from rfl) h2) rfl) (noSt_each rfl)) (by decide) (by decide) (noSt_each rfl) rfl) ?_
      exact ⟨_, hσ, .ref (T.cls k), .ref (T.cls k), _, _, rfl, fun u hu => hu, e2, hd2, q⟩
  | isv =>
    obtain ⟨p, p2, p3, pos, rfl, h1, h4⟩ := h
    obtain ⟨e1, e2⟩ := h4 ci hci
    rcases hx with ⟨rfl, _, _⟩ | ⟨z, d2, v, rfl, rfl, hd2, rfl⟩
    · cases ev
    · cases ev
      refine ⟨rfl, .bl true, fun F _ => rfl, fun Q q => ?_⟩
      refine EW.of (pe_callB (call_isD e1 hz hf) hb.gl hb.mg hb.bt (pa_cons pv (pa_one (pe_bltn h1.gl h1.mg h1.bt (show RelV (.ty "ValueError") (.type "ValueError") from rfl) (by decide) (by decide)) rfl) (noSt_each rfl)) (by decide) (by decide) (noSt_each rfl) rfl) ?_
      exact ⟨_, hσ, .ty "ValueError", .type "ValueError", _, _, rfl, fun u hu => hu, e2, hd2, q⟩
theorem hes_ok (hb : Blt X "isinstance" (.builtin "isinstance")) (hN : X.N[i]? = some n) (hl : X.env.scope.names.lookup n = some .local) (hd : (n == ("__debug__" : Str)) = false) (hcd : (n == ("__classdict__" : Str)) = false)
    (hci : S ci) (hx : XArgs T ci x dd H ps) (hz : Zc (.ref (T.cls ci)) dd ob) (hf : ∃ vs, ob.data = .fields vs) (hσ : σ[i]? = some (some (.ref a))) :
    ∀ {es : List HE} {axs : List Expr} {ds : List D}, HEs T P X S n es axs → hevs P ci x es = some ds →
      ∃ us, us.length = axs.length ∧ (∀ F, RepPs T F ps → Reps T F ds us) ∧ ∀ Q : List V → Hp → Prop, Q us H → AW (X.suite a ((a, ob) :: pn)) axs σ H Q
  | [], [], ds, _, e => by
    cases e
    exact ⟨[], rfl, fun F _ => rfl, fun Q q => AW.of pa_nil q⟩
  | [], _ :: _, _, h, _ => h.elim
  | _ :: _, [], _, h, _ => h.elim
  | e :: es, ax :: axs, ds, h, e1 => by
    obtain ⟨h1, h2⟩ := h
    unfold hevs at e1
    cases e2 : hev P ci x e with
    | none => rw [e2] at e1; cases e1
    | some d =>
    rw [e2] at e1
    obtain ⟨ds', e3, rfl⟩ := Option.map_eq_some_iff.mp (show (hevs P ci x es).map (d :: ·) = some ds from e1)
    obtain ⟨n1, u, r1, q1⟩ := he_ok h1 hb hN hl hd hcd hci hx e2 hz hf hσ (pn := pn)
    obtain ⟨us, l, r2, q2⟩ := hes_ok hb hN hl hd hcd hci hx hz hf hσ h2 e3
    refine ⟨u :: us, by simp [l], fun F q => (r2 F q).cons (r1 F q), fun Q q => AW.of (pa_cons pe_W pa_W (noSt_each n1)) (q1 _ (q2 _ q))⟩
end
/-- a clause -/
def HdOk (T : Wd) (P : Pg) (X : Cx) (h : Hd) (hx : ExceptHandler) : Prop := ∃ (x n t : Str) (np p p2 q pos' : Pos) (elts : List Expr),
  hx = .ExceptHandler (some (.Name x np)) (some n) [.Assign [.Name t p] (.List elts q) p2] pos' ∧ Names X x (.ref (T.cls h.cls)) ∧ X.N[h.esl]? = some n ∧ X.env.scope.names.lookup n = some .local ∧
  (n == ("__debug__" : Str)) = false ∧ (n == ("__classdict__" : Str)) = false ∧ X.N[h.dst]? = some t ∧ X.env.scope.names.lookup t = some .local ∧ h.dst ≠ h.esl ∧ elts.length ≤ 1000 ∧
  HEs T P X (fun ci => P.exk ci = true ∧ P.sub ci h.cls = true) n h.es elts ∧ ∀ ci, P.exk ci = true → PySem.W.exmOne X.K (.ref (T.cls ci)) (.ref (T.cls h.cls)) = some (P.sub ci h.cls)
def HdsOk' (T : Wd) (P : Pg) (X : Cx) : List Hd → List ExceptHandler → Prop
  | [], [] => True
  | h :: hs, hx :: hxs => HdOk T P X h hx ∧ HdsOk' T P X hs hxs
  | _, _ => False
def tsW (X : Cx) (sts : List Stmt) (a : Addr) (cls : Value) (d : Option Addr) : TS := fun D σ H => ∀ (ob : Obj) (pn : List (Addr × Obj)), Zc cls d ob → (∃ vs, ob.data = .fields vs) → SsW (X.suite a ((a, ob) :: pn)) sts D σ H
def clas (T : Wd) (X : Cx) : List Hd → List ExceptHandler → List Cla
  | h :: hs, .ExceptHandler _ _ sts _ :: hxs => (.ref (T.cls h.cls), h.esl, tsW X sts) :: clas T X hs hxs
  | _, _ => []
section
variable {T : Wd} {P : Pg} {cl : Cl} {X : Cx} {W : WX} {pr : List Nat} {k : Nat}
theorem hda_of : ∀ {hs : List Hd} {hxs : List ExceptHandler}, HdsOk' T P X hs hxs → HdA X hxs (clas T X hs hxs)
  | [], [], _ => .nil
  | [], _ :: _, h => h.elim
  | _ :: _, [], h => h.elim
  | h :: hs, hx :: hxs, ⟨⟨x, n, t, np, p, p2, q, pos', elts, e, h1, h2, h3, _⟩, hr⟩ => by
    subst e
    exact .cons h1 h2 h3 (fun a ob cls d pn hz hf => ⟨fun pins s σ H D I w => w ob pn hz hf pins s I⟩) (hda_of hr)
theorem handle_ok (g : Gd T X W k) (hb : Blt X "isinstance" (.builtin "isinstance")) {c : Fr} {G : List SV} {env : Env} {ci : Nat} {x : List D} (hp : ∀ p ∈ c.pin, p.1 ∈ pr) (hk : P.exk ci = true) {Ds : Ends} {σ : St} {dd : Option Addr} {H : Hp} {ps : List SV} (hx : XArgs T ci x dd H ps) (st : Stt T c (ps ++ G) env σ H) :
    ∀ {hs : List Hd} {hxs : List ExceptHandler}, HdsOk' T P X hs hxs → PX T c G (fun _ => True) W (handle P pr ci x env hs) (KS T c G Ds) → wMa X.K W Ds (clas T X hs hxs) (.ref (T.cls ci)) dd σ H
  | [], [], _, po => po σ dd H ps trivial hx st
  | [], _ :: _, h, _ => h.elim
  | _ :: _, [], h, _ => h.elim
  | h :: hs, hy :: hxs, ⟨⟨y, n, t, np, p, p2, q, pos', elts, e, h1, h2, h3, h4, h5, h6, h7, h8, h9, h10, h11⟩, hr⟩, po => by
    subst e
    unfold handle at po
    refine ⟨P.sub ci h.cls, h11 ci hk, fun hs1 => ?_, fun hs1 => ?_⟩
    · rw [if_pos hs1] at po
      obtain ⟨ds, e1, po⟩ := PX.of2 po
      obtain ⟨env1, e2, po⟩ := PX.of2 po
      obtain ⟨env2, e3, po⟩ := PX.of2 po
      obtain ⟨n1, n2, rfl⟩ := put_ok e2
      obtain ⟨n3, n4, rfl⟩ := put_ok e3
      intro a ha ob pn hz hf
      have hl : h.esl < σ.length := by
        obtain ⟨F, r, ko⟩ := id st
        rw [← ko.len]
        rw [List.length_set] at n4
        exact n4
      have hσ : (σ.set h.esl (some (.ref a)))[h.esl]? = some (some (.ref a)) := by rw [set_get, if_pos rfl, if_pos hl]
      obtain ⟨us, l, r2, q2⟩ := hes_ok hb h2 h3 h4 h5 ⟨hk, hs1⟩ hx hz hf hσ h10 e1 (pn := pn)
      refine SsW.of (pss_cons (ps_set g.nd h6 (.inl h7) (pe_lst pa_W) rfl (.inr h7)) pss_nil) ?_
      refine q2 _ ⟨by rw [l, sizeLine_eq]; omega, fun p0 hp0 => ?_⟩
      refine po _ _ ?_
      obtain ⟨F, r, ko⟩ := id st
      have rp : RepPs T F ps := fun d v m => r.each (.val d, v) (List.mem_append_left _ (List.mem_append_left _ m))
      have st1 : Stt T c ((.own (.lst ds), .ref p0) :: (ps ++ G)) env σ (upd H p0 (.lst us)) := ⟨F, Rel.made r hp0 ⟨us, rfl, r2 F rp⟩, ko⟩
      have st2 : Stt T c ((.own (.lst ds), .ref p0) :: G) env σ (upd H p0 (.lst us)) := st1.less (List.Sublist.cons_cons _ (List.sublist_append_right _ _))
      have st3 := (st2.put n2 fun p hpp z => n1 (z ▸ hp p hpp)).gone (i := h.esl) fun p hpp z => n3 (z ▸ hp p hpp)
      have eσ : ((σ.set h.esl (some (V.ref a))).set h.dst (some (V.ref p0))).set h.esl none = (σ.set h.dst (some (V.ref p0))).set h.esl none := by
        rw [List.set_comm _ _ (Ne.symm h8), List.set_set]
      rw [eσ]
      exact st3
    · rw [hs1, if_neg Bool.false_ne_true] at po
      exact handle_ok g hb hp hk hx st hr po
theorem sndS_try {body : List IS} {bodyx : List Stmt} {hs : List Hd} {hxs : List ExceptHandler} {pos : Pos} (g : Gd T X W k) (hb : Blt X "isinstance" (.builtin "isinstance")) (hs0 : X.stack = X.env :: X.outer) (hf : X.env.frame = some X.env.locals) (hne : hxs ≠ [])
    (hh : HdsOk' T P X hs hxs) (hbody : ∀ (W' : WX) (pn : List (Addr × Obj)) (xe : Value → Shared → Prop), Takes (X.tr pn xe) W' → PassesOwn (model X.prog X.w) X.A X.env xe → SndB T P cl (X.tr pn xe) W' pr body bodyx) :
    SndS T P cl X W pr (.try_ body hs) (.Try bodyx hxs [] [] pos) := by
  intro c G env σ H D hp st po
  unfold ex at po
  cases hxs with
  | nil => exact absurd rfl hne
  | cons hx0 hxs =>
  refine SW.of (ps_try_ma (tb := fun W' D σ H => ∀ (pn : List (Addr × Obj)) (xe : Value → Shared → Prop), Takes (X.tr pn xe) W' → PassesOwn (model X.prog X.w) X.A X.env xe → SsW (X.tr pn xe) bodyx D σ H) hs0 hf g.nd g.takes
    (fun W' pn xe t1 t2 => ⟨fun pins s σ H D I w => w pn xe t1 t2 pins s I⟩) (hda_of hh)) ?_
  intro pn xe t1 t2
  refine hbody _ pn xe t1 t2 c G env σ H D hp st ?_
  cases h1 : exs P cl pr body env with
  | stuck => rw [h1] at po; exact po.elim
  | ok q => rw [h1] at po; exact po
  | exc ci x env1 =>
    rw [h1] at po
    dsimp only at po
    split at po
    · rename_i hk
      exact fun σ2 d H2 ps _ hxa st2 => handle_ok g hb hp hk hxa st2 hh po
    · exact po.elim
end
end Fm
end

section
set_option Elab.async false
set_option linter.all false
set_option maxRecDepth 10000
set_option autoImplicit false
set_option maxHeartbeats 1000000
namespace Fm
open PySem L2
/-! the check of a text against its intermediate form -/
/-- what is known of a scope -/
structure Sx where
  N : List Str
  sc : Scope
  fnb : Bool
/-- the names that the text uses -/
structure Tb where
  fns : List (Str × Nat)
  mks : List (Str × Nat × Nat × Nat × List Str)
  cls : List (Str × Nat)
  glb : List (Str × Nat)
  flds : List Str
  mts : List Str
  cns : List Str
  exs : List (Str × Nat)
  ecl : List (Str × Nat)
  xfd : List (Nat × Str)
def Sx.nm (s : Sx) (i : Nat) (x : Str) : Bool := decide (s.N[i]? = some x)
def Sx.vis (s : Sx) (x : Str) : Bool := match s.sc.names.lookup x with
  | some .local => true
  | some .cell => true
  | some .free => true
  | _ => false
def Sx.loc (s : Sx) (x : Str) : Bool := match s.sc.names.lookup x with
  | some .local => true
  | some .cell => s.fnb
  | _ => false
def Sx.isL (s : Sx) (x : Str) : Bool := match s.sc.names.lookup x with
  | some .local => true
  | _ => false
def Sx.isC (s : Sx) (x : Str) : Bool := match s.sc.names.lookup x with
  | some .cell => true
  | _ => false
def Sx.gl (s : Sx) (x : Str) : Bool := match s.sc.names.lookup x with
  | some .globalImplicit => true
  | _ => false
def dbg (x : Str) : Bool := (x == ("__debug__" : Str)) || (x == ("__classdict__" : Str)) || (x == ("__name__" : Str))
def ckCn (k : Cn) (ax : Expr) : Bool := match k, ax with
  | .non, .Constant .none _ _ => true
  | .bl b, .Constant (.bool d) _ _ => b == d
  | .int i, .Constant (.int l) _ _ => decide (i = l)
  | .int i, .UnaryOp .USub (.Constant (.int l) _ _) _ => decide (i = -l)
  | .str x, .Constant (.str y) _ _ => decide (x = y)
  | _, _ => false
def ckBOp (o : BOp) (p : Operator) : Bool := match o, p with
  | .add, .Add => true
  | .sub, .Sub => true
  | .mul, .Mult => true
  | .mod, .Mod => true
  | .fdiv, .FloorDiv => true
  | .pow, .Pow => true
  | _, _ => false
def ckCOp (o : COp) (p : CmpOp) : Bool := match o, p with
  | .eq, .Eq => true
  | .ne, .NotEq => true
  | .lt, .Lt => true
  | .le, .LtE => true
  | .gt, .Gt => true
  | .ge, .GtE => true
  | .inn, .In => true
  | .nin, .NotIn => true
  | _, _ => false
def ckIs (neg : Bool) (p : CmpOp) : Bool := match neg, p with
  | true, .IsNot => true
  | false, .Is => true
  | _, _ => false
def ckK (c : Cn) (k : Const) : Bool := match c, k with
  | .non, .none => true
  | .bl b, .bool d => b == d
  | _, _ => false
def noCall0 (ax : Expr) : Bool := match ax with
  | .Call (.Name _ _) [] [] _ => false
  | _ => true
def ckCls (tb : Tb) (s : Sx) (c : Cls) (x : Str) : Bool := match c with
  | .own m => s.gl x && decide ((x, m) ∈ tb.cls) && !dbg x
  | c => s.gl x && decide (x = Str.ofString c.tn) && !dbg x
/-- the own names of a block, with their places -/
def ownOf (N : List Str) (vs : List Nat) : List (Str × Nat) := vs.map fun i => (N.getD i ⟨#[]⟩, i)
def Sx.blk (s : Sx) (scope : Scope) : Sx := ⟨s.N, relS scope s.sc, false⟩
mutual
def ckG (s : Sx) : Tg → Expr → Bool
  | .nm i, .Name x _ => s.nm i x && s.loc x
  | .tp ts, .Tuple tgs _ _ => ckGs s ts tgs && tgs.all NoSt
  | _, _ => false
def ckGs (s : Sx) : List Tg → List Expr → Bool
  | [], [] => true
  | t :: ts, e :: es => ckG s t e && ckGs s ts es
  | _, _ => false
end
section
variable (tb : Tb)
mutual
def ckE : Sx → IE → Expr → Bool
  | s, .nm i, .Name x _ => s.nm i x && s.vis x && !dbg x
  | s, .cn k, ax => ckCn k ax
  | s, .gl k, .Name x _ => s.gl x && decide ((x, k) ∈ tb.glb) && !dbg x
  | s, .bin o a b, .BinOp ax op bx _ => ckBOp o op && ckE s a ax && ckE s b bx
  | s, .cmp o a b, .Compare ax [op] [bx] _ => ckCOp o op && ckE s a ax && ckE s b bx && !behindInMarks op bx
  | s, .ch o p a b c, .Compare ax [op, oq] [bx, cx] _ => ckCOp o op && ckCOp p oq && ckE s a ax && ckE s b bx && ckE s c cx && !lastMarks [op, oq] [bx, cx]
  | s, .isc neg c a, .Compare ax [op] [.Constant k _ _] _ => ckIs neg op && ckK c k && ckE s a ax
  | s, .nt a, .UnaryOp .Not ax _ => ckE s a ax
  | s, .an es, .BoolOp .And axs _ => ckL s es axs && !es.isEmpty
  | s, .or es, .BoolOp .Or axs _ => ckL s es axs && !es.isEmpty
  | s, .ix a i, .Subscript ax bx _ => ckE s a ax && ckE s i bx && NoSlc bx
  | s, .sl a lo hi, .Subscript ax (.Slice l h none _) _ => ckE s a ax && ckP s lo l && ckP s hi h
  | s, .fd a f, .Attribute ax n _ => decide (tb.flds[f]? = some n) && ckE s a ax && noCall0 ax
  | s, .cc a k, .Attribute ax n _ => decide (tb.cns[k]? = some n) && ckE s a ax && noCall0 ax
  | s, .b1 f a, .Call (.Name x _) [ax] [] _ => decide (x = f.nm) && s.gl x && ckE s a ax && NoSt ax
  | s, .b2 f a b, .Call (.Name x _) [ax, bx] [] _ => decide (x = f.nm) && s.gl x && ckE s a ax && ckE s b bx && NoSt ax && NoSt bx
  | s, .isi a c, .Call (.Name x _) [ax, .Name y _] [] _ => decide (x = ("isinstance" : Str)) && s.gl x && ckCls tb s c y && ckE s a ax && NoSt ax
  | s, .tp es, .Tuple axs _ _ => ckA s es axs
  | s, .ls es, .List axs _ => ckA s es axs
  | s, .d0 _, .Dict [] [] _ => true
  | s, .call j es, .Call (.Name x _) axs [] _ => s.gl x && decide ((x, j) ∈ tb.fns) && !dbg x && ckA s es axs && axs.all NoSt
  | s, .meth m o es, .Call (.Attribute ox n ap) axs [] p => decide (tb.mts[m]? = some n) && ckE s o ox && noCall0 ox && ckA s es axs && axs.all NoSt && decide (axs.length < 30) && (ap.endLine == p.line)
  | s, .mk c j es kes, .Call (.Name x _) (e0 :: axs) kws _ => s.gl x && !dbg x && ckA s es (e0 :: axs) && (e0 :: axs).all NoSt && (match ckKs s kes kws with
      | some ks => decide ((x, c, j, (e0 :: axs).length, ks) ∈ tb.mks)
      | none => false)
  | s, .lc vs t it cs e, .ListComp ex0 [⟨tg, iter, csx, 0⟩] scope _ => blkC s.N s.sc scope (ownOf s.N vs) && decide vs.Nodup && t.nms.all (fun i => decide (i ∈ vs)) && NoSet iter && ckI s it tg iter && ckG (s.blk scope) t tg && ckC (s.blk scope) cs csx && ckE (s.blk scope) e ex0
  | s, .dc vs t it k v, .DictComp kx vx [⟨tg, iter, [], 0⟩] scope _ => blkC s.N s.sc scope (ownOf s.N vs) && decide vs.Nodup && t.nms.all (fun i => decide (i ∈ vs)) && NoSet iter && ckI s it tg iter && ckG (s.blk scope) t tg && ckE (s.blk scope) k kx && ckE (s.blk scope) v vx
  | s, .app a e, .Call (.Attribute ax n ap) [bx] [] p => decide (n = ("append" : Str)) && ckE s a ax && noCall0 ax && ckE s e bx && NoSt bx && (ap.endLine == p.line)
  | s, .ext a e, .Call (.Attribute ax n ap) [bx] [] p => decide (n = ("extend" : Str)) && ckE s a ax && noCall0 ax && ckE s e bx && NoSt bx && (ap.endLine == p.line)
  | _, _, _ => false
def ckL : Sx → List IE → List Expr → Bool
  | _, [], [] => true
  | s, e :: es, a :: axs => ckE s e a && ckL s es axs
  | _, _, _ => false
def ckP : Sx → List IE → Option Expr → Bool
  | _, [], none => true
  | s, [e], some a => ckE s e a && !e.isStar
  | _, _, _ => false
def ckC : Sx → List IE → List Expr → Bool
  | _, [], [] => true
  | s, [e], [a] => ckE s e a
  | _, _, _ => false
def ckA : Sx → List IE → List Expr → Bool
  | _, [], [] => true
  | s, .star e :: es, .Starred a _ :: axs => ckE s e a && ckA s es axs
  | s, e :: es, a :: axs => ckE s e a && !e.isStar && NoSt a && ckA s es axs
  | _, _, _ => false
def ckKs : Sx → List IE → List Keyword → Option (List Str)
  | _, [], [] => some []
  | s, e :: es, ⟨some x, a, _⟩ :: kws => if ckE s e a && !e.isStar then (ckKs s es kws).map (x :: ·) else none
  | _, _, _ => none
def ckI : Sx → It → Expr → Expr → Bool
  | s, .e a, _, ax => ckE s a ax
  | s, .r1 a, _, .Call (.Name x _) [ax] [] _ => decide (x = ("range" : Str)) && s.gl x && ckE s a ax && NoSt ax
  | s, .r2 a b, _, .Call (.Name x _) [ax, bx] [] _ => decide (x = ("range" : Str)) && s.gl x && ckE s a ax && ckE s b bx && NoSt ax && NoSt bx
  | s, .en a, .Tuple _ _ _, .Call (.Name x _) [ax] [] _ => decide (x = ("enumerate" : Str)) && s.gl x && ckE s a ax && NoSt ax
  | _, _, _, _ => false
end
end
end Fm
end

section
set_option Elab.async false
set_option linter.all false
set_option maxRecDepth 10000
set_option autoImplicit false
set_option maxHeartbeats 1000000
namespace Fm
open PySem L2
/-! what the check asks is sound -/
/-- what is known of a context, beside its scope -/
structure Ct (T : Wd) (P : Pg) (cl : Cl) (np : Nat → Nat) (W : WX) (kf : Nat) (tb : Tb) (X : Cx) : Prop where
  gd : Gd T X W (kf + 1)
  hcl : ClOk cl np
  fn : ∀ x j, (x, j) ∈ tb.fns → ∃ f, X.mg x = some (.ref f) ∧ PySem.W.keepIn X.K (.ref f) = true ∧ FnA T X cl kf j f
  mks : ∀ x c j n ks, (x, c, j, n, ks) ∈ tb.mks → ∃ f, X.mg x = some (.ref (T.cls c)) ∧ Mk X.K (T.cls c) f ∧ FnK T X cl kf j f n ks
  cls : ∀ x m, (x, m) ∈ tb.cls → X.mg x = some (.ref (T.cls m)) ∧ IsO T m
  glb : ∀ x k, (x, k) ∈ tb.glb → ∃ d v u, P.glob[k]? = some d ∧ X.mg x = some u ∧ RelV v u ∧ ∀ F, Rep T F d v
  fld : ∀ i f, tb.flds[i]? = some f → T.fld i = f
  inj : ∀ a b, T.fld a = T.fld b → a = b
  fok : ∀ c f, P.fok c f = true → L2.Cls T.K (T.cls c) ∧ NoAttr T.K (T.cls c) (T.fld f)
  mts : ∀ m mn, tb.mts[m]? = some mn → (∀ a, T.fld a ≠ mn) ∧ ∀ c j, P.mth c m = some j → ∃ f, FnA T X cl kf j f ∧ L2.Cls T.K (T.cls c) ∧ Meth T.K (T.cls c) mn f
  cns : ∀ k n, tb.cns[k]? = some n → (∀ a, T.fld a ≠ n) ∧ ∃ i, P.con[k]? = some i ∧ ∀ c, P.cok c k = true → L2.Cls T.K (T.cls c) ∧ ∃ u, Con T.K (T.cls c) n (.int i) u
  b1 : ∀ f : B1, X.mg f.nm = none
  b2 : ∀ f : B2, X.mg f.nm = none
  bi : X.mg "isinstance" = none
  br : X.mg "range" = none
  be : X.mg "enumerate" = none
  bt : ∀ n ∈ ["int", "bool", "str", "dict", "list", "tuple"], X.mg (Str.ofString n) = none
  exs : ∀ x ci, (x, ci) ∈ tb.exs → ExA T X kf ci x
  ecl : ∀ x m, (x, m) ∈ tb.ecl → X.mg x = some (.ref (T.cls m)) ∧ ∀ ci, P.exk ci = true → PySem.W.exmOne X.K (.ref (T.cls ci)) (.ref (T.cls m)) = some (P.sub ci m) ∧ PySem.W.kitOne X.K (.ref (T.cls ci)) (.ref (T.cls m)) = some (P.sub ci m)
  exk : ∀ ci, P.exk ci = true → ExC X.K (T.cls ci) ∧ PySem.W.kitOne X.K (.ref (T.cls ci)) (.type "ValueError") = some true
  xfd : ∀ m f, (m, f) ∈ tb.xfd → ∀ ci, P.exk ci = true → P.sub ci m = true → T.xf ci = f ∧ XfC X.K (T.cls ci) ∧ PySem.W.findIn X.K (.ref (T.cls ci)) f = some none
  bv : X.mg "ValueError" = none
structure Sk (X : Cx) (s : Sx) : Prop where
  N : X.N = s.N
  sc : X.env.scope = s.sc
  fn : s.fnb = true → ∀ x, X.fn x = true
  fx : s.fnb = true → X.stack = X.env :: X.outer ∧ X.env.frame = some X.env.locals
section
variable {X : Cx} {s : Sx} {x : Str}
theorem Sk.nm (h : Sk X s) {i : Nat} (e : s.nm i x = true) : X.N[i]? = some x := by
  rw [h.N]
  exact of_decide_eq_true e
theorem Sk.vis (h : Sk X s) (e : s.vis x = true) : Vis X.env.scope x := by
  rw [h.sc]
  unfold Sx.vis at e
  split at e
  · exact .inl (by assumption)
  · exact .inr (.inl (by assumption))
  · exact .inr (.inr (by assumption))
  · cases e
theorem Sk.gl (h : Sk X s) (e : s.gl x = true) : Gl X x := by
  show X.env.scope.names.lookup x = _
  rw [h.sc]
  unfold Sx.gl at e
  split at e
  · assumption
  · cases e
theorem Sk.isL (h : Sk X s) (e : s.isL x = true) : X.env.scope.names.lookup x = some .local := by
  rw [h.sc]
  unfold Sx.isL at e
  split at e
  · assumption
  · cases e
theorem Sk.isC (h : Sk X s) (e : s.isC x = true) : X.env.scope.names.lookup x = some .cell := by
  rw [h.sc]
  unfold Sx.isC at e
  split at e
  · assumption
  · cases e
theorem Sk.loc (h : Sk X s) (e : s.loc x = true) : Loc X.env.scope x ∧ (X.fn x = true ∨ X.env.scope.names.lookup x = some .local) := by
  unfold Sx.loc at e
  unfold L2.Loc
  rw [h.sc]
  split at e
  · rename_i q
    exact ⟨.inl q, .inr q⟩
  · rename_i q
    exact ⟨.inr q, .inl (h.fn e x)⟩
  · cases e
theorem Sk.blk (h : Sk X s) {scope : Scope} {s0 : Shared} {H0 : Hp} {C : Addr} {cl : List (Str × Addr)} {fp : List Addr} : Sk (Bx X scope s0 H0 C cl fp) (s.blk scope) := by
  refine ⟨h.N, ?_, fun e => (by cases e), fun e => (by cases e)⟩
  show relabel scope X.env = relS scope s.sc
  rw [← h.sc]
  rfl
theorem dbg_no (h : (!dbg x) = true) : (x == ("__debug__" : Str)) = false ∧ (x == ("__classdict__" : Str)) = false ∧ x ≠ "__name__" := by
  unfold dbg at h
  rw [Bool.not_eq_true', Bool.or_eq_false_iff, Bool.or_eq_false_iff] at h
  exact ⟨h.1.1, h.1.2, fun z => by rw [z] at h; simp at h⟩
theorem bas_ok {ax : Expr} {f : Str} (h : noCall0 ax = true) : Bas X ax f := by
  unfold Bas
  cases ax with
  | Call fn args kws pos =>
    cases fn with
    | Name id p =>
      cases args with
      | nil =>
        cases kws with
        | nil => cases h
        | cons _ _ => rfl
      | cons _ _ => rfl
    | _ => rfl
  | _ => rfl
end
theorem Ct.blk {T : Wd} {P : Pg} {cl : Cl} {np : Nat → Nat} {W : WX} {kf : Nat} {tb : Tb} {X : Cx} (h : Ct T P cl np W kf tb X) {scope : Scope} {s0 : Shared} {H0 : Hp} {C : Addr} {cl' : List (Str × Addr)} {fp : List Addr} : Ct T P cl np W0 kf tb (Bx X scope s0 H0 C cl' fp) :=
  ⟨⟨h.gd.K, h.gd.calm, h.gd.room, h.gd.nd, fun u s' x => by
      obtain ⟨_, _, _, _, _, _, _, _, _, _, _, _, _, _, _, _, z⟩ := x
      exact z.elim, PassesOwn.never⟩, h.hcl, h.fn, h.mks, h.cls, h.glb, h.fld, h.inj, h.fok, h.mts, h.cns, h.b1, h.b2, h.bi, h.br, h.be, h.bt, fun x ci z => by obtain ⟨a, b, c⟩ := h.exs x ci z; exact ⟨a, b, c⟩, h.ecl, h.exk, h.xfd, h.bv⟩
theorem Ct.tr {T : Wd} {P : Pg} {cl : Cl} {np : Nat → Nat} {W W' : WX} {kf : Nat} {tb : Tb} {X : Cx} (h : Ct T P cl np W kf tb X) {pn : List (Addr × Obj)} {xe : Value → Shared → Prop} (t1 : Takes (X.tr pn xe) W') (t2 : PassesOwn (model X.prog X.w) X.A X.env xe) : Ct T P cl np W' kf tb (X.tr pn xe) :=
  ⟨⟨h.gd.K, h.gd.calm, h.gd.room, h.gd.nd, t1, t2⟩, h.hcl, h.fn, h.mks, h.cls, h.glb, h.fld, h.inj, h.fok, h.mts, h.cns, h.b1, h.b2, h.bi, h.br, h.be, h.bt, fun x ci z => by obtain ⟨a, b, c⟩ := h.exs x ci z; exact ⟨a, b, c⟩, h.ecl, h.exk, h.xfd, h.bv⟩
theorem Sk.tr {X : Cx} {s : Sx} (h : Sk X s) {pn : List (Addr × Obj)} {xe : Value → Shared → Prop} : Sk (X.tr pn xe) s := ⟨h.N, h.sc, h.fn, h.fx⟩
theorem boot_b1 (f : B1) : bootBuiltins f.nm = some f.val := by
  cases f <;> decide +kernel
theorem boot_b2 (f : B2) : bootBuiltins f.nm = some f.val := by
  cases f <;> decide +kernel
theorem boot_isi : bootBuiltins "isinstance" = some (.builtin "isinstance") := by decide +kernel
theorem boot_rng : bootBuiltins "range" = some (.type "range") := by decide +kernel
theorem boot_enu : bootBuiltins "enumerate" = some (.type "enumerate") := by decide +kernel
theorem boot_ve : bootBuiltins "ValueError" = some (.type "ValueError") := by decide +kernel
theorem boot_ty : ∀ n ∈ ["int", "bool", "str", "dict", "list", "tuple"], bootBuiltins (Str.ofString n) = some (.type n) := by decide +kernel
theorem ckBOp_ok {o : BOp} {p : Operator} (h : ckBOp o p = true) : p = o.op := by
  cases o <;> cases p <;> first | rfl | cases h
theorem ckCOp_ok {o : COp} {p : CmpOp} (h : ckCOp o p = true) : p = o.op := by
  cases o <;> cases p <;> first | rfl | cases h
theorem ckIs_ok {neg : Bool} {p : CmpOp} (h : ckIs neg p = true) : p = isOp neg := by
  cases neg <;> cases p <;> first | rfl | cases h
theorem ckK_ok {c : Cn} {k : Const} (h : ckK c k = true) : k = c.kst ∧ (fun c : Cn => match c with | .non => true | .bl _ => true | _ => false) c = true := by
  cases c with
  | non => cases k <;> first | exact ⟨rfl, rfl⟩ | cases h
  | bl b =>
    cases k with
    | bool d =>
      have : b = d := eq_of_beq h
      exact ⟨by rw [this]; rfl, rfl⟩
    | _ => cases h
  | _ => cases k <;> cases h
section
variable {T : Wd} {P : Pg} {cl : Cl} {X : Cx} {W : WX}
theorem ckCn_ok {k : Cn} {ax : Expr} (h : ckCn k ax = true) : Snd T P cl X W (.cn k) ax ∧ Tru X ax := by
  unfold ckCn at h
  split at h
  · exact ⟨snd_cn trivial, fun _ => rfl⟩
  · exact ⟨snd_cn (eq_of_beq h), fun _ => rfl⟩
  · exact ⟨snd_cn (of_decide_eq_true h), fun _ => rfl⟩
  · exact ⟨snd_neg (of_decide_eq_true h), fun _ => rfl⟩
  · exact ⟨snd_cn (of_decide_eq_true h), fun _ => rfl⟩
  · cases h
theorem plain_ix {bx : Expr} (h : NoSlc bx = true) : PlainIx bx := by
  intro o i
  cases bx <;> first | (cases h; done) | rfl
end
end Fm
end

section
set_option Elab.async false
set_option linter.all false
set_option maxRecDepth 10000
set_option autoImplicit false
set_option maxHeartbeats 4000000
namespace Fm
open PySem L2
/-! the check is sound: expressions -/
section
variable {T : Wd} {P : Pg} {cl : Cl} {np : Nat → Nat} {kf : Nat} {tb : Tb}
variable (T P cl np kf tb) in
def OkE (s : Sx) (e : IE) (ax : Expr) : Prop := ∀ (X : Cx) (W : WX), Ct T P cl np W kf tb X → Sk X s → Snd T P cl X W e ax ∧ SndT T P cl X W e ax
variable (T P cl np kf tb) in
def OkI (s : Sx) (it : It) (tg ax : Expr) : Prop := ∀ (X : Cx) (W : WX), Ct T P cl np W kf tb X → Sk X s → SndI T P cl X W it tg ax
theorem and2 {a b : Bool} (h : (a && b) = true) : a = true ∧ b = true := Bool.and_eq_true_iff.mp h
mutual
theorem ckG_ok (s : Sx) : ∀ (t : Tg) (tg : Expr), ckG s t tg = true → ∀ (X : Cx) (W : WX) (k : Nat) (pr : List Nat), Gd T X W k → Sk X s → SndG T X pr t tg
  | .nm i, tg, h, X, W, k, pr, g, sk => by
    unfold ckG at h
    split at h <;> (try contradiction)
    rename_i e1
    cases e1
    obtain ⟨h1, h2⟩ := and2 h
    obtain ⟨l1, l2⟩ := sk.loc h2
    exact sndG_nm g.nd (sk.nm h1) l1 l2
  | .tp ts, tg, h, X, W, k, pr, g, sk => by
    unfold ckG at h
    split at h <;> (try contradiction)
    rename_i e1
    cases e1
    obtain ⟨h1, h2⟩ := and2 h
    exact sndG_tp g (ckGs_ok s ts _ h1 X W k pr g sk h2).1 h2 (ckGs_ok s ts _ h1 X W k pr g sk h2).2
theorem ckGs_ok (s : Sx) : ∀ (ts : List Tg) (tgs : List Expr), ckGs s ts tgs = true → ∀ (X : Cx) (W : WX) (k : Nat) (pr : List Nat), Gd T X W k → Sk X s → tgs.all NoSt = true → SndGs T X pr ts tgs ∧ ts.length = tgs.length
  | [], tgs, h, X, W, k, pr, g, sk, hs => by
    cases tgs with
    | nil => exact ⟨sndGs_nil, rfl⟩
    | cons _ _ => unfold ckGs at h; cases h
  | t :: ts, tgs, h, X, W, k, pr, g, sk, hs => by
    cases tgs with
    | nil => unfold ckGs at h; cases h
    | cons tg tgs =>
      unfold ckGs at h
      obtain ⟨h1, h2⟩ := and2 h
      rw [List.all_cons] at hs
      obtain ⟨h3, h4⟩ := and2 hs
      obtain ⟨k1, k2⟩ := ckGs_ok s ts tgs h2 X W k pr g sk h4
      exact ⟨sndGs_cons (ckG_ok s t tg h1 X W k pr g sk) k1 h3, by rw [List.length_cons, List.length_cons, k2]⟩
end
theorem own_snd (N : List Str) (vs : List Nat) : (ownOf N vs).map (·.2) = vs := by
  unfold ownOf
  rw [List.map_map]
  exact List.map_id vs
theorem both {X : Cx} {W : WX} {e : IE} {ax : Expr} (h : Snd T P cl X W e ax) (t : Tru X ax) : Snd T P cl X W e ax ∧ SndT T P cl X W e ax := ⟨h, sndT_val h t⟩
theorem ckCls_ok {X : Cx} {W : WX} {s : Sx} {c : Cls} {x : Str} (ct : Ct T P cl np W kf tb X) (sk : Sk X s) (h : ckCls tb s c x = true) : IsC T X x c ∧ x ≠ "__name__" ∧ (x == ("__debug__" : Str)) = false := by
  have go : ∀ n, n ∈ ["int", "bool", "str", "dict", "list", "tuple"] → (s.gl x && decide (x = Str.ofString n) && !dbg x) = true → Blt X x (.type n) ∧ x ≠ "__name__" ∧ (x == ("__debug__" : Str)) = false := by
    intro n hn h
    obtain ⟨h, h3⟩ := and2 h
    obtain ⟨h1, h2⟩ := and2 h
    obtain ⟨d1, _, d3⟩ := dbg_no h3
    have e1 := of_decide_eq_true h2
    refine ⟨⟨sk.gl h1, ?_, ?_⟩, d3, d1⟩
    · rw [e1]; exact ct.bt n hn
    · rw [e1]; exact boot_ty n hn
  cases c with
  | own m =>
    obtain ⟨h, h3⟩ := and2 (show (s.gl x && decide ((x, m) ∈ tb.cls) && !dbg x) = true from h)
    obtain ⟨h1, h2⟩ := and2 h
    obtain ⟨d1, _, d3⟩ := dbg_no h3
    obtain ⟨c1, c2⟩ := ct.cls _ _ (of_decide_eq_true h2)
    exact ⟨⟨sk.gl h1, c1, c2⟩, d3, d1⟩
  | int => exact go "int" (by decide) h
  | bool => exact go "bool" (by decide) h
  | str => exact go "str" (by decide) h
  | dict => exact go "dict" (by decide) h
  | list => exact go "list" (by decide) h
  | tuple => exact go "tuple" (by decide) h
mutual
theorem ckE_ok : ∀ (e : IE) (s : Sx) (ax : Expr), ckE tb s e ax = true → OkE T P cl np kf tb s e ax
  | .nm i, s, ax, h, X, W, ct, sk => by
    unfold ckE at h
    split at h <;> (try contradiction)
    rename_i e1
    cases e1
    obtain ⟨h, h3⟩ := and2 h
    obtain ⟨h1, h2⟩ := and2 h
    obtain ⟨d1, d2, _⟩ := dbg_no h3
    exact both (snd_nm (sk.nm h1) (sk.vis h2) d1 d2) fun _ => rfl
  | .cn k, s, ax, h, X, W, ct, sk => by
    unfold ckE at h
    obtain ⟨h1, h2⟩ := ckCn_ok (T := T) (P := P) (cl := cl) (X := X) (W := W) h
    exact both h1 h2
  | .gl k, s, ax, h, X, W, ct, sk => by
    unfold ckE at h
    split at h <;> (try contradiction)
    rename_i e1
    cases e1
    obtain ⟨h, h3⟩ := and2 h
    obtain ⟨h1, h2⟩ := and2 h
    obtain ⟨d1, d2, _⟩ := dbg_no h3
    obtain ⟨d, v, u, g1, g2, g3, g4⟩ := ct.glb _ _ (of_decide_eq_true h2)
    exact both (snd_gl g1 (sk.gl h1) g2 g3 g4 d1) fun _ => rfl
  | .bin o a b, s, ax, h, X, W, ct, sk => by
    unfold ckE at h
    split at h <;> (try contradiction)
    rename_i e1
    cases e1
    obtain ⟨h, h3⟩ := and2 h
    obtain ⟨h1, h2⟩ := and2 h
    have := ckBOp_ok h1
    subst this
    exact both (snd_bin ct.gd (ckE_ok a _ _ h2 X W ct sk).1 (ckE_ok b _ _ h3 X W ct sk).1) fun _ => rfl
  | .cmp o a b, s, ax, h, X, W, ct, sk => by
    unfold ckE at h
    split at h <;> (try contradiction)
    rename_i e1
    cases e1
    obtain ⟨h, h4⟩ := and2 h
    obtain ⟨h, h3⟩ := and2 h
    obtain ⟨h1, h2⟩ := and2 h
    have := ckCOp_ok h1
    subst this
    have hm := Bool.not_eq_true' _ |>.mp h4
    exact ⟨snd_cmp ct.gd (ckE_ok a _ _ h2 X W ct sk).1 (ckE_ok b _ _ h3 X W ct sk).1 hm, sndT_cmp ct.gd (ckE_ok a _ _ h2 X W ct sk).1 (ckE_ok b _ _ h3 X W ct sk).1 hm⟩
  | .ch o p a b c, s, ax, h, X, W, ct, sk => by
    unfold ckE at h
    split at h <;> (try contradiction)
    rename_i e1
    cases e1
    obtain ⟨h, h6⟩ := and2 h
    obtain ⟨h, h5⟩ := and2 h
    obtain ⟨h, h4⟩ := and2 h
    obtain ⟨h, h3⟩ := and2 h
    obtain ⟨h1, h2⟩ := and2 h
    have e1 := ckCOp_ok h1
    subst e1
    have e2 := ckCOp_ok h2
    subst e2
    have hm := Bool.not_eq_true' _ |>.mp h6
    exact ⟨snd_ch ct.gd (ckE_ok a _ _ h3 X W ct sk).1 (ckE_ok b _ _ h4 X W ct sk).1 (ckE_ok c _ _ h5 X W ct sk).1 hm, sndT_ch ct.gd (ckE_ok a _ _ h3 X W ct sk).1 (ckE_ok b _ _ h4 X W ct sk).1 (ckE_ok c _ _ h5 X W ct sk).1 hm⟩
  | .isc neg c a, s, ax, h, X, W, ct, sk => by
    unfold ckE at h
    split at h <;> (try contradiction)
    rename_i e1
    cases e1
    obtain ⟨h, h3⟩ := and2 h
    obtain ⟨h1, h2⟩ := and2 h
    have e1 := ckIs_ok h1
    subst e1
    obtain ⟨e2, e3⟩ := ckK_ok h2
    subst e2
    exact ⟨snd_isc e3 (ckE_ok a _ _ h3 X W ct sk).1, sndT_isc e3 (ckE_ok a _ _ h3 X W ct sk).1⟩
  | .nt a, s, ax, h, X, W, ct, sk => by
    unfold ckE at h
    split at h <;> (try contradiction)
    rename_i e1
    cases e1
    exact ⟨snd_nt (ckE_ok a _ _ h X W ct sk).1, sndT_nt (ckE_ok a _ _ h X W ct sk).2⟩
  | .an es, s, ax, h, X, W, ct, sk => by
    unfold ckE at h
    split at h <;> (try contradiction)
    rename_i e1
    cases e1
    obtain ⟨h1, h2⟩ := and2 h
    have hn : es ≠ [] := fun z => by rw [z] at h2; cases h2
    have hl := ckL_ok es _ _ h1 X W ct sk
    exact ⟨snd_an (hl.imp fun _ _ z => z.1) hn, sndT_an (hl.imp fun _ _ z => z.2) hn⟩
  | .or es, s, ax, h, X, W, ct, sk => by
    unfold ckE at h
    split at h <;> (try contradiction)
    rename_i e1
    cases e1
    obtain ⟨h1, h2⟩ := and2 h
    have hn : es ≠ [] := fun z => by rw [z] at h2; cases h2
    have hl := ckL_ok es _ _ h1 X W ct sk
    exact ⟨snd_or (hl.imp fun _ _ z => z.1) hn, sndT_or (hl.imp fun _ _ z => z.2) hn⟩
  | .ix a i, s, ax, h, X, W, ct, sk => by
    unfold ckE at h
    split at h <;> (try contradiction)
    rename_i e1
    cases e1
    obtain ⟨h, h3⟩ := and2 h
    obtain ⟨h1, h2⟩ := and2 h
    exact both (snd_ix ct.gd (ckE_ok a _ _ h1 X W ct sk).1 (ckE_ok i _ _ h2 X W ct sk).1 (plain_ix h3)) fun _ => rfl
  | .sl a lo hi, s, ax, h, X, W, ct, sk => by
    unfold ckE at h
    split at h <;> (try contradiction)
    rename_i e1
    cases e1
    obtain ⟨h, h3⟩ := and2 h
    obtain ⟨h1, h2⟩ := and2 h
    exact both (snd_sl ct.gd (ckE_ok a _ _ h1 X W ct sk).1 (ckP_ok lo _ _ h2 X W ct sk) (ckP_ok hi _ _ h3 X W ct sk)) fun _ => rfl
  | .fd a f, s, ax, h, X, W, ct, sk => by
    unfold ckE at h
    split at h <;> (try contradiction)
    rename_i e1
    cases e1
    obtain ⟨h, h3⟩ := and2 h
    obtain ⟨h1, h2⟩ := and2 h
    have e1 := ct.fld _ _ (of_decide_eq_true h1)
    subst e1
    exact both (snd_fd ct.gd ct.inj (fun c => ct.fok c f) (ckE_ok a _ _ h2 X W ct sk).1 (bas_ok h3)) fun _ => rfl
  | .cc a k, s, ax, h, X, W, ct, sk => by
    unfold ckE at h
    split at h <;> (try contradiction)
    rename_i e1
    cases e1
    obtain ⟨h, h3⟩ := and2 h
    obtain ⟨h1, h2⟩ := and2 h
    obtain ⟨c1, i, c2, c3⟩ := ct.cns _ _ (of_decide_eq_true h1)
    exact both (snd_cc ct.gd c1 c2 c3 (ckE_ok a _ _ h2 X W ct sk).1 (bas_ok h3)) fun _ => rfl
  | .b1 f a, s, ax, h, X, W, ct, sk => by
    unfold ckE at h
    split at h <;> (try contradiction)
    rename_i e1
    cases e1
    obtain ⟨h, h4⟩ := and2 h
    obtain ⟨h, h3⟩ := and2 h
    obtain ⟨h1, h2⟩ := and2 h
    have e1 := of_decide_eq_true h1
    subst e1
    exact both (snd_b1 ct.gd ⟨sk.gl h2, ct.b1 f, boot_b1 f⟩ (ckE_ok a _ _ h3 X W ct sk).1 h4) fun _ => rfl
  | .b2 f a b, s, ax, h, X, W, ct, sk => by
    unfold ckE at h
    split at h <;> (try contradiction)
    rename_i e1
    cases e1
    obtain ⟨h, h6⟩ := and2 h
    obtain ⟨h, h5⟩ := and2 h
    obtain ⟨h, h4⟩ := and2 h
    obtain ⟨h, h3⟩ := and2 h
    obtain ⟨h1, h2⟩ := and2 h
    have e1 := of_decide_eq_true h1
    subst e1
    exact both (snd_b2 ct.gd ⟨sk.gl h2, ct.b2 f, boot_b2 f⟩ (ckE_ok a _ _ h3 X W ct sk).1 (ckE_ok b _ _ h4 X W ct sk).1 h5 h6) fun _ => rfl
  | .isi a c, s, ax, h, X, W, ct, sk => by
    unfold ckE at h
    split at h <;> (try contradiction)
    rename_i e1
    cases e1
    obtain ⟨h, h5⟩ := and2 h
    obtain ⟨h, h4⟩ := and2 h
    obtain ⟨h, h3⟩ := and2 h
    obtain ⟨h1, h2⟩ := and2 h
    have e1 := of_decide_eq_true h1
    subst e1
    obtain ⟨c1, c2, c3⟩ := ckCls_ok ct sk h3
    exact both (snd_isi ct.gd ⟨sk.gl h2, ct.bi, boot_isi⟩ c1 c2 c3 (ckE_ok a _ _ h4 X W ct sk).1 h5) fun _ => rfl
  | .tp es, s, ax, h, X, W, ct, sk => by
    unfold ckE at h
    split at h <;> (try contradiction)
    rename_i e1
    cases e1
    exact both (snd_tp ct.gd (ckA_ok es _ _ h X W ct sk)) fun _ => rfl
  | .ls es, s, ax, h, X, W, ct, sk => by
    unfold ckE at h
    split at h <;> (try contradiction)
    rename_i e1
    cases e1
    exact both (snd_ls ct.gd (ckA_ok es _ _ h X W ct sk)) fun _ => rfl
  | .star e, s, ax, h, X, W, ct, sk => by
    unfold ckE at h
    cases h
  | .d0 b, s, ax, h, X, W, ct, sk => by
    unfold ckE at h
    split at h <;> (try contradiction)
    rename_i e1
    cases e1
    exact both snd_d0 fun _ => rfl
  | .call j es, s, ax, h, X, W, ct, sk => by
    unfold ckE at h
    split at h <;> (try contradiction)
    rename_i e1
    cases e1
    obtain ⟨h, h5⟩ := and2 h
    obtain ⟨h, h4⟩ := and2 h
    obtain ⟨h, h3⟩ := and2 h
    obtain ⟨h1, h2⟩ := and2 h
    obtain ⟨d1, _, _⟩ := dbg_no h3
    obtain ⟨f, f1, f2, f3⟩ := ct.fn _ _ (of_decide_eq_true h2)
    exact both (snd_call ct.gd ct.hcl f3 (ct.gd.room.mono (Nat.le_succ _)) (sk.gl h1) f1 f2 (ckA_ok es _ _ h4 X W ct sk) h5 d1) fun _ => rfl
  | .meth m o es, s, ax, h, X, W, ct, sk => by
    unfold ckE at h
    split at h <;> (try contradiction)
    rename_i e1
    cases e1
    obtain ⟨h, h7⟩ := and2 h
    obtain ⟨h, h6⟩ := and2 h
    obtain ⟨h, h5⟩ := and2 h
    obtain ⟨h, h4⟩ := and2 h
    obtain ⟨h, h3⟩ := and2 h
    obtain ⟨h1, h2⟩ := and2 h
    obtain ⟨m1, m2⟩ := ct.mts _ _ (of_decide_eq_true h1)
    exact both (snd_meth ct.gd ct.hcl m1 m2 (ct.gd.room.mono (Nat.le_succ _)) (ckE_ok o _ _ h2 X W ct sk).1 (bas_ok h3) (ckA_ok es _ _ h4 X W ct sk) h5 (of_decide_eq_true h6) h7) fun _ => rfl
  | .mk c j es kes, s, ax, h, X, W, ct, sk => by
    unfold ckE at h
    split at h <;> (try contradiction)
    rename_i e1
    cases e1
    obtain ⟨h, h5⟩ := and2 h
    obtain ⟨h, h4⟩ := and2 h
    obtain ⟨h, h3⟩ := and2 h
    obtain ⟨h1, h2⟩ := and2 h
    obtain ⟨d1, _, _⟩ := dbg_no h2
    split at h5
    · rename_i ks hk
      obtain ⟨f, f1, f2, f3⟩ := ct.mks _ _ _ _ _ (of_decide_eq_true h5)
      exact both (snd_mk ct.gd ct.hcl f2 f3 ct.gd.room (sk.gl h1) f1 (ckA_ok es _ _ h3 X W ct sk) h4 (ckKs_ok kes _ _ _ hk X W ct sk) d1) fun _ => rfl
    · cases h5
  | .lc vs t it cs e, s, ax, h, X, W, ct, sk => by
    unfold ckE at h
    split at h <;> (try contradiction)
    rename_i e1
    cases e1
    obtain ⟨h, h8⟩ := and2 h
    obtain ⟨h, h7⟩ := and2 h
    obtain ⟨h, h6⟩ := and2 h
    obtain ⟨h, h5⟩ := and2 h
    obtain ⟨h, h4⟩ := and2 h
    obtain ⟨h, h3⟩ := and2 h
    obtain ⟨h1, h2⟩ := and2 h
    have ok := blkOk_by h1
    rw [← sk.N, ← sk.sc] at ok
    have := snd_lc (pos := by assumption) (own := ownOf X.N vs) ct.gd (ckI_ok it _ _ _ h5 X W ct sk) ok (fun s0 H0 C cl' fp => ckG_ok _ t _ h6 _ W0 _ [] ct.blk.gd sk.blk)
      (fun s0 H0 C cl' fp => ckC_ok cs _ _ h7 _ W0 ct.blk sk.blk) (fun s0 H0 C cl' fp => (ckE_ok e _ _ h8 _ W0 ct.blk sk.blk).1)
      (fun i hi => by rw [own_snd]; exact of_decide_eq_true (List.all_eq_true.mp h3 i hi)) (by rw [own_snd]; exact of_decide_eq_true h2) h4
    rw [own_snd] at this
    exact both this fun _ => rfl
  | .dc vs t it ke ve, s, ax, h, X, W, ct, sk => by
    unfold ckE at h
    split at h <;> (try contradiction)
    rename_i e1
    cases e1
    obtain ⟨h, h8⟩ := and2 h
    obtain ⟨h, h7⟩ := and2 h
    obtain ⟨h, h6⟩ := and2 h
    obtain ⟨h, h5⟩ := and2 h
    obtain ⟨h, h4⟩ := and2 h
    obtain ⟨h, h3⟩ := and2 h
    obtain ⟨h1, h2⟩ := and2 h
    have ok := blkOk_by h1
    rw [← sk.N, ← sk.sc] at ok
    have := snd_dc (pos := by assumption) (own := ownOf X.N vs) ct.gd (ckI_ok it _ _ _ h5 X W ct sk) ok (fun s0 H0 C cl' fp => ckG_ok _ t _ h6 _ W0 _ [] ct.blk.gd sk.blk)
      (fun s0 H0 C cl' fp => (ckE_ok ke _ _ h7 _ W0 ct.blk sk.blk).1) (fun s0 H0 C cl' fp => (ckE_ok ve _ _ h8 _ W0 ct.blk sk.blk).1)
      (fun i hi => by rw [own_snd]; exact of_decide_eq_true (List.all_eq_true.mp h3 i hi)) (by rw [own_snd]; exact of_decide_eq_true h2) h4
    rw [own_snd] at this
    exact both this fun _ => rfl
  | .app a e, s, ax, h, X, W, ct, sk => by
    unfold ckE at h
    split at h <;> (try contradiction)
    rename_i e1
    cases e1
    obtain ⟨h, h6⟩ := and2 h
    obtain ⟨h, h5⟩ := and2 h
    obtain ⟨h, h4⟩ := and2 h
    obtain ⟨h, h3⟩ := and2 h
    obtain ⟨h1, h2⟩ := and2 h
    have e1 := of_decide_eq_true h1
    subst e1
    exact both (snd_app (ckE_ok a _ _ h2 X W ct sk).1 (ckE_ok e _ _ h4 X W ct sk).1 h5 (bas_ok h3) h6) fun _ => rfl
  | .ext a e, s, ax, h, X, W, ct, sk => by
    unfold ckE at h
    split at h <;> (try contradiction)
    rename_i e1
    cases e1
    obtain ⟨h, h6⟩ := and2 h
    obtain ⟨h, h5⟩ := and2 h
    obtain ⟨h, h4⟩ := and2 h
    obtain ⟨h, h3⟩ := and2 h
    obtain ⟨h1, h2⟩ := and2 h
    have e1 := of_decide_eq_true h1
    subst e1
    exact both (snd_ext (ckE_ok a _ _ h2 X W ct sk).1 (ckE_ok e _ _ h4 X W ct sk).1 h5 (bas_ok h3) h6) fun _ => rfl
theorem ckL_ok : ∀ (es : List IE) (s : Sx) (axs : List Expr), ckL tb s es axs = true → ∀ (X : Cx) (W : WX), Ct T P cl np W kf tb X → Sk X s → Al (fun e a => Snd T P cl X W e a ∧ SndT T P cl X W e a) es axs
  | [], s, axs, h, X, W, ct, sk => by
    cases axs with
    | nil => exact .nil
    | cons _ _ => unfold ckL at h; cases h
  | e :: es, s, axs, h, X, W, ct, sk => by
    cases axs with
    | nil => unfold ckL at h; cases h
    | cons a axs =>
      unfold ckL at h
      obtain ⟨h1, h2⟩ := and2 h
      exact .cons (ckE_ok e _ _ h1 X W ct sk) (ckL_ok es _ _ h2 X W ct sk)
theorem ckP_ok : ∀ (es : List IE) (s : Sx) (o : Option Expr), ckP tb s es o = true → ∀ (X : Cx) (W : WX), Ct T P cl np W kf tb X → Sk X s → Pt (Snd T P cl X W) es o
  | [], s, o, h, X, W, ct, sk => by
    cases o with
    | none => exact .none
    | some _ => unfold ckP at h; cases h
  | [e], s, o, h, X, W, ct, sk => by
    cases o with
    | none => unfold ckP at h; cases h
    | some a =>
      unfold ckP at h
      obtain ⟨h1, h2⟩ := and2 h
      exact .some (ckE_ok e _ _ h1 X W ct sk).1 (by simpa using h2)
  | _ :: _ :: _, s, o, h, X, W, ct, sk => by
    cases o <;> (unfold ckP at h; cases h)
theorem ckC_ok : ∀ (es : List IE) (s : Sx) (axs : List Expr), ckC tb s es axs = true → ∀ (X : Cx) (W : WX), Ct T P cl np W kf tb X → Sk X s → Cs (SndT T P cl X W) es axs
  | [], s, axs, h, X, W, ct, sk => by
    cases axs with
    | nil => exact .nil
    | cons _ _ => unfold ckC at h; cases h
  | [e], s, axs, h, X, W, ct, sk => by
    cases axs with
    | nil => unfold ckC at h; cases h
    | cons a axs =>
      cases axs with
      | nil => unfold ckC at h; exact .one (ckE_ok e _ _ h X W ct sk).2
      | cons _ _ => unfold ckC at h; cases h
  | _ :: _ :: _, s, axs, h, X, W, ct, sk => by
    unfold ckC at h
    cases h
theorem ckA_ok : ∀ (es : List IE) (s : Sx) (axs : List Expr), ckA tb s es axs = true → ∀ (X : Cx) (W : WX), Ct T P cl np W kf tb X → Sk X s → As (Snd T P cl X W) es axs
  | [], s, axs, h, X, W, ct, sk => by
    cases axs with
    | nil => exact .nil
    | cons _ _ => unfold ckA at h; cases h
  | e :: es, s, axs, h, X, W, ct, sk => by
    cases axs with
    | nil => unfold ckA at h; split at h <;> contradiction
    | cons a axs =>
      unfold ckA at h
      split at h <;> (try contradiction)
      · rename_i e1 e2
        injection e1 with e3 e4
        cases e2
        rw [e3]
        rw [← e4] at h
        obtain ⟨h1, h2⟩ := and2 h
        exact .star (ckSt_ok e _ e3 _ _ h1 X W ct sk).1 (ckA_ok es _ _ h2 X W ct sk)
      · rename_i e1 e2
        cases e1; cases e2
        obtain ⟨h, h4⟩ := and2 h
        obtain ⟨h, h3⟩ := and2 h
        obtain ⟨h1, h2⟩ := and2 h
        exact .one (ckE_ok e _ _ h1 X W ct sk).1 (by simpa using h2) h3 (ckA_ok es _ _ h4 X W ct sk)
theorem ckSt_ok : ∀ (e e0 : IE), e = .star e0 → ∀ (s : Sx) (ax : Expr), ckE tb s e0 ax = true → OkE T P cl np kf tb s e0 ax
  | .star e, e0, q, s, ax, h => by
    cases q
    exact ckE_ok e s ax h
  | .nm _, e0, q, s, ax, h => by cases q
  | .cn _, e0, q, s, ax, h => by cases q
  | .gl _, e0, q, s, ax, h => by cases q
  | .bin _ _ _, e0, q, s, ax, h => by cases q
  | .cmp _ _ _, e0, q, s, ax, h => by cases q
  | .ch _ _ _ _ _, e0, q, s, ax, h => by cases q
  | .isc _ _ _, e0, q, s, ax, h => by cases q
  | .nt _, e0, q, s, ax, h => by cases q
  | .an _, e0, q, s, ax, h => by cases q
  | .or _, e0, q, s, ax, h => by cases q
  | .ix _ _, e0, q, s, ax, h => by cases q
  | .sl _ _ _, e0, q, s, ax, h => by cases q
  | .fd _ _, e0, q, s, ax, h => by cases q
  | .cc _ _, e0, q, s, ax, h => by cases q
  | .b1 _ _, e0, q, s, ax, h => by cases q
  | .b2 _ _ _, e0, q, s, ax, h => by cases q
  | .isi _ _, e0, q, s, ax, h => by cases q
  | .tp _, e0, q, s, ax, h => by cases q
  | .ls _, e0, q, s, ax, h => by cases q
  | .d0 _, e0, q, s, ax, h => by cases q
  | .call _ _, e0, q, s, ax, h => by cases q
  | .meth _ _ _, e0, q, s, ax, h => by cases q
  | .mk _ _ _ _, e0, q, s, ax, h => by cases q
  | .lc _ _ _ _ _, e0, q, s, ax, h => by cases q
  | .dc _ _ _ _ _, e0, q, s, ax, h => by cases q
  | .app _ _, e0, q, s, ax, h => by cases q
  | .ext _ _, e0, q, s, ax, h => by cases q
theorem ckKs_ok : ∀ (es : List IE) (s : Sx) (kws : List Keyword) (ks : List Str), ckKs tb s es kws = some ks → ∀ (X : Cx) (W : WX), Ct T P cl np W kf tb X → Sk X s → Ks (Snd T P cl X W) es kws ks
  | [], s, kws, ks, h, X, W, ct, sk => by
    cases kws with
    | nil => unfold ckKs at h; cases h; exact .nil
    | cons _ _ => unfold ckKs at h; cases h
  | e :: es, s, kws, ks, h, X, W, ct, sk => by
    cases kws with
    | nil => unfold ckKs at h; cases h
    | cons kw kws =>
      obtain ⟨nm, a, p⟩ := kw
      cases nm with
      | none => unfold ckKs at h; cases h
      | some x =>
        unfold ckKs at h
        split at h
        · rename_i hc
          obtain ⟨h1, h2⟩ := and2 hc
          obtain ⟨ks', e1, rfl⟩ := Option.map_eq_some_iff.mp h
          exact .one (ckE_ok e _ _ h1 X W ct sk).1 (by simpa using h2) (ckKs_ok es _ _ _ e1 X W ct sk)
        · cases h
theorem ckI_ok : ∀ (it : It) (s : Sx) (tg ax : Expr), ckI tb s it tg ax = true → OkI T P cl np kf tb s it tg ax
  | .e a, s, tg, ax, h, X, W, ct, sk => by
    unfold ckI at h
    exact sndI_e ct.gd (ckE_ok a _ _ h X W ct sk).1
  | .r1 a, s, tg, ax, h, X, W, ct, sk => by
    unfold ckI at h
    split at h <;> (try contradiction)
    rename_i e1
    cases e1
    obtain ⟨h, h4⟩ := and2 h
    obtain ⟨h, h3⟩ := and2 h
    obtain ⟨h1, h2⟩ := and2 h
    have e1 := of_decide_eq_true h1
    subst e1
    exact sndI_r1 ct.gd ⟨sk.gl h2, ct.br, boot_rng⟩ (ckE_ok a _ _ h3 X W ct sk).1 h4
  | .r2 a b, s, tg, ax, h, X, W, ct, sk => by
    unfold ckI at h
    split at h <;> (try contradiction)
    rename_i e1
    cases e1
    obtain ⟨h, h6⟩ := and2 h
    obtain ⟨h, h5⟩ := and2 h
    obtain ⟨h, h4⟩ := and2 h
    obtain ⟨h, h3⟩ := and2 h
    obtain ⟨h1, h2⟩ := and2 h
    have e1 := of_decide_eq_true h1
    subst e1
    exact sndI_r2 ct.gd ⟨sk.gl h2, ct.br, boot_rng⟩ (ckE_ok a _ _ h3 X W ct sk).1 (ckE_ok b _ _ h4 X W ct sk).1 h5 h6
  | .en a, s, tg, ax, h, X, W, ct, sk => by
    unfold ckI at h
    split at h <;> (try contradiction)
    rename_i e1
    cases e1
    obtain ⟨h, h4⟩ := and2 h
    obtain ⟨h, h3⟩ := and2 h
    obtain ⟨h1, h2⟩ := and2 h
    have e1 := of_decide_eq_true h1
    subst e1
    exact sndI_en ct.gd ⟨sk.gl h2, ct.be, boot_enu⟩ (ckE_ok a _ _ h3 X W ct sk).1 h4
end
end
end Fm
end

section
set_option Elab.async false
set_option linter.all false
set_option maxRecDepth 10000
set_option autoImplicit false
set_option maxHeartbeats 4000000
namespace Fm
open PySem L2
/-! the check of statements -/
def noOwn (scope : Scope) (x : Str) : Bool := !(scope.names.any fun (n, k) => n == x && (k == .local || k == .cell))
def isTup (e : Expr) : Bool := match e with
  | .Tuple _ _ _ => true
  | .List _ _ => true
  | _ => false
def isFn (s : Sx) : Bool := match s.sc.kind with
  | .function => true
  | _ => false
def isSubs (e : Expr) : Bool := match e with
  | .Subscript _ b _ => NoSlc b
  | _ => false
section
variable (tb : Tb)
/-- an expression that a name on its line takes at once -/
def ckLc (s : Sx) (x : Str) (p : Pos) (e : IE) (ax : Expr) : Bool := match e, ax with
  | .lc vs t it cs e, .ListComp ex0 [⟨tg, iter, csx, 0⟩] scope q => isFn s && s.isL x && (p.line == q.line) && noOwn scope x
  | .dc vs t it ke ve, .DictComp kx vx [⟨tg, iter, [], 0⟩] scope q => isFn s && s.isL x && (p.line == q.line) && noOwn scope x
  | _, _ => false
def ckSub (s : Sx) (a i : IE) (ax : Expr) : Bool := match ax with
  | .Subscript o b _ => ckE tb s a o && ckE tb s i b && NoSlc b
  | _ => false
def ckHe (s : Sx) (n : Str) (cls : Nat) : HE → Expr → Bool
  | .cn k, ax => ckCn k ax && NoSt ax
  | .fd, .Attribute (.Name y _) f _ => decide (y = n) && decide ((cls, f) ∈ tb.xfd)
  | .is k, .Call (.Name z _) [.Name y _, .Name c _] [] _ => decide (z = ("isinstance" : Str)) && decide (y = n) && s.gl c && !dbg c && decide ((c, k) ∈ tb.ecl)
  | .isv, .Call (.Name z _) [.Name y _, .Name c _] [] _ => decide (z = ("isinstance" : Str)) && decide (y = n) && decide (c = ("ValueError" : Str)) && s.gl c
  | _, _ => false
def ckHes (s : Sx) (n : Str) (cls : Nat) : List HE → List Expr → Bool
  | [], [] => true
  | e :: es, a :: axs => ckHe tb s n cls e a && ckHes s n cls es axs
  | _, _ => false
def ckHd (s : Sx) (h : Hd) : ExceptHandler → Bool
  | .ExceptHandler (some (.Name x _)) (some n) [.Assign [.Name t _] (.List elts _) _] _ => s.gl x && !dbg x && decide ((x, h.cls) ∈ tb.ecl) && s.nm h.esl n && s.isL n && !dbg n && s.nm h.dst t && s.isL t && decide (h.dst ≠ h.esl) && decide (elts.length ≤ 1000) && ckHes tb s n h.cls h.es elts
  | _ => false
def ckHds (s : Sx) : List Hd → List ExceptHandler → Bool
  | [], [] => true
  | h :: hs, a :: axs => ckHd tb s h a && ckHds s hs axs
  | _, _ => false
mutual
def ckS : Sx → IS → Stmt → Bool
  | s, .asg (.nm i) e, .Assign [.Name x p] ax _ => s.nm i x && s.loc x && ckE tb s e ax && (NoLc ax || s.isC x || ckLc s x p e ax)
  | s, .asg (.tp ts) e, .Assign [.Tuple tgs kk p] ax _ => ckG s (.tp ts) (.Tuple tgs kk p) && ckE tb s e ax && NoLc ax && !isTup ax
  | s, .ssub a i e, .Assign [t] ax _ => isSubs t && ckSub tb s a i t && ckE tb s e ax
  | s, .ssub2 a i b j e, .Assign [.Tuple [t1, t2] _ _] (.Tuple [u1, u2] k q) _ => isSubs t1 && isSubs t2 && ckSub tb s a i t1 && ckSub tb s b j t2 && ckE tb s e (.Tuple [u1, u2] k q)
  | s, .par2 i j a b, .Assign [.Tuple [.Name x p1, .Name y p2] _ _] (.Tuple [ax, bx] _ _) _ => s.nm i x && s.nm j y && decide (i ≠ j) && s.isL x && s.isL y && ckE tb s a ax && ckE tb s b bx && NoSt ax && NoSt bx && isFn s && (p1.line == p2.line) && decide (x ≠ y)
      && !([ax, bx].all (foldedForSure 8)) && !([ax, bx].all (constantsAlone 8))
  | s, .sfd o f e, .Assign [.Attribute ox n _] ax _ => decide (tb.flds[f]? = some n) && ckE tb s o ox && ckE tb s e ax
  | s, .xp e, .Expr ax _ => ckE tb s e ax && NoLc ax
  | s, .ret (.cn .non), .Return none _ => true
  | s, .ret e, .Return (some ax) _ => ckE tb s e ax
  | s, .ife c a b, .If cx xs ys _ => ckE tb s c cx && ckB s a xs && ckB s b ys
  | s, .for_ t it body, .For tg iter bodyx [] _ => ckI tb s it tg iter && ckG s t tg && ckB s body bodyx && NoSet iter
  | _, .pass, .Pass _ => true
  | _, .pass, .Expr (.Constant (.str _) _ _) _ => true
  | _, .brk, .Break _ => true
  | _, .cnt, .Continue _ => true
  | _, .never, _ => true
  | s, .raise ci [e], .Raise (some (.Call (.Name x _) [ax] [] _)) none _ => s.gl x && decide ((x, ci) ∈ tb.exs) && !dbg x && ckE tb s e ax && !e.isStar && NoSt ax
  | s, .try_ body hs, .Try bodyx hxs [] [] _ => s.fnb && s.gl ("isinstance" : Str) && ckHds tb s hs hxs && !hxs.isEmpty && ckB s body bodyx
  | _, _, _ => false
def ckB : Sx → List IS → List Stmt → Bool
  | _, [], [] => true
  | s, st :: r, sx :: rx => ckS s st sx && ckB s r rx
  | _, _, _ => false
end
end
section
variable {T : Wd} {P : Pg} {cl : Cl} {np : Nat → Nat} {kf : Nat} {tb : Tb} {X : Cx} {W : WX} {s : Sx}
theorem isFn_ok (sk : Sk X s) (h : isFn s = true) : X.env.scope.kind = .function := by
  rw [sk.sc]
  unfold isFn at h
  split at h
  · assumption
  · cases h
theorem noOwn_ok {scope : Scope} {x : Str} (h : noOwn scope x = true) : (scope.names.any fun (n, k) => n == x && (k == .local || k == .cell)) = false := by
  unfold noOwn at h
  exact Bool.not_eq_true' _ |>.mp h
theorem sw_none {tgs : List Expr} {kk : Nat} {p : Pos} {ax : Expr} {env : PySem.Env} (h : (!isTup ax) = true) : swappedStores [.Tuple tgs kk p] ax env = pure none := by
  cases ax <;> first | rfl | (cases h; done)
theorem sw_two {t1 t2 u1 u2 : Expr} {kk k2 : Nat} {p p2 : Pos} {env : PySem.Env} (h1 : isSubs t1 = true) (h2 : isSubs t2 = true) : swappedStores [.Tuple [t1, t2] kk p] (.Tuple [u1, u2] k2 p2) env = pure none := by
  cases t1 <;> first | (cases h1; done) | skip
  cases t2 <;> first | (cases h2; done) | skip
  unfold swappedStores
  simp
theorem sw_par {x y : Str} {ax bx : Expr} {p1 p2 pt pt2 : Pos} {kt k2 : Nat} {env : PySem.Env} (hk : env.scope.kind = .function) (hx : env.scope.names.lookup x = some .local) (hy : env.scope.names.lookup y = some .local) (hl : (p1.line == p2.line) = true) (hne : x ≠ y)
    (h1 : NoSt ax = true) (h2 : NoSt bx = true) (h3 : [ax, bx].all (foldedForSure 8) = false) (h4 : [ax, bx].all (constantsAlone 8) = false) :
    swappedStores [.Tuple [.Name x p1, .Name y p2] kt pt] (.Tuple [ax, bx] k2 pt2) env = pure (some [x, y]) := by
  have e1 : env.kindOf x = some .local := hx
  have e2 : env.kindOf y = some .local := hy
  have e3 : env.blockKind = .function := by unfold Env.blockKind; rw [hk]; rfl
  have e4 : ([ax, bx].any fun | .Starred .. => true | _ => false) = false := by
    cases ax <;> first | (cases h1; done) | skip
    all_goals cases bx <;> first | (cases h2; done) | rfl
  have e5 : p2.line = p1.line := (eq_of_beq hl).symm
  have e6 : (x == y) = false := beq_eq_false_iff_ne.mpr hne
  unfold swappedStores
  simp only [e3, e4, h3, h4]
  simp [e1, e2, e5, Expr.pos, List.eraseDups_cons, hne, Ne.symm hne]
  rintro (h | h)
  · cases ax <;> first | (cases h1; done) | (cases h; done)
  · cases bx <;> first | (cases h2; done) | (cases h; done)
end
section
variable {T : Wd} {P : Pg} {cl : Cl} {np : Nat → Nat} {kf : Nat} {tb : Tb}
theorem ckCn_he {k : Cn} {ax : Expr} (h : ckCn k ax = true) : ∃ u, (∀ F, Rep T F k.d u) ∧ ∀ (Y : Cx) (σ : St) (H : Hp) (Q : VK), Q u H → EW Y ax σ H Q := by
  unfold ckCn at h
  split at h
  · exact ⟨.non, fun _ => rfl, fun Y σ H Q q => EW.of pe_non q⟩
  · exact ⟨.bl _, fun _ => congrArg V.bl (eq_of_beq h).symm, fun Y σ H Q q => EW.of pe_bl q⟩
  · exact ⟨.int _, fun _ => congrArg V.int (of_decide_eq_true h).symm, fun Y σ H Q q => EW.of pe_int q⟩
  · exact ⟨.int _, fun _ => congrArg V.int (of_decide_eq_true h).symm, fun Y σ H Q q => EW.of (pe_un un_neg pe_int) ⟨_, rfl, q⟩⟩
  · exact ⟨.str _, fun _ => congrArg V.str (of_decide_eq_true h).symm, fun Y σ H Q q => EW.of pe_str q⟩
  · cases h
theorem ckHe_ok {X : Cx} {W : WX} {s : Sx} {n : Str} {cls : Nat} {e : HE} {ax : Expr} (ct : Ct T P cl np W kf tb X) (sk : Sk X s) (h : ckHe tb s n cls e ax = true) : HEOk T P X (fun ci => P.exk ci = true ∧ P.sub ci cls = true) n e ax := by
  unfold ckHe at h
  split at h
  · obtain ⟨h1, h2⟩ := and2 h
    exact ⟨h2, ckCn_he h1⟩
  · obtain ⟨h1, h2⟩ := and2 h
    have e1 := of_decide_eq_true h1
    subst e1
    exact ⟨_, _, _, rfl, fun ci hc => ct.xfd _ _ (of_decide_eq_true h2) ci hc.1 hc.2⟩
  · obtain ⟨h, h5⟩ := and2 h
    obtain ⟨h, h4⟩ := and2 h
    obtain ⟨h, h3⟩ := and2 h
    obtain ⟨h1, h2⟩ := and2 h
    have e1 := of_decide_eq_true h1
    have e2 := of_decide_eq_true h2
    subst e1 e2
    obtain ⟨m1, m2⟩ := ct.ecl _ _ (of_decide_eq_true h5)
    exact ⟨_, _, _, _, _, rfl, sk.gl h3, (dbg_no h4).1, m1, fun ci hc => ⟨(ct.exk ci hc.1).1, (m2 ci hc.1).2⟩⟩
  · obtain ⟨h, h4⟩ := and2 h
    obtain ⟨h, h3⟩ := and2 h
    obtain ⟨h1, h2⟩ := and2 h
    have e1 := of_decide_eq_true h1
    have e2 := of_decide_eq_true h2
    have e3 := of_decide_eq_true h3
    subst e1 e2 e3
    exact ⟨_, _, _, _, rfl, ⟨sk.gl h4, ct.bv, boot_ve⟩, fun ci hc => ct.exk ci hc.1⟩
  · cases h
theorem ckHes_ok {X : Cx} {W : WX} {s : Sx} {n : Str} {cls : Nat} (ct : Ct T P cl np W kf tb X) (sk : Sk X s) : ∀ {es : List HE} {axs : List Expr}, ckHes tb s n cls es axs = true → HEs T P X (fun ci => P.exk ci = true ∧ P.sub ci cls = true) n es axs
  | [], [], _ => trivial
  | [], _ :: _, h => by unfold ckHes at h; cases h
  | _ :: _, [], h => by unfold ckHes at h; cases h
  | e :: es, a :: axs, h => by
    unfold ckHes at h
    obtain ⟨h1, h2⟩ := and2 h
    exact ⟨ckHe_ok ct sk h1, ckHes_ok ct sk h2⟩
theorem ckHd_ok {X : Cx} {W : WX} {s : Sx} {hh : Hd} {hx : ExceptHandler} (ct : Ct T P cl np W kf tb X) (sk : Sk X s) (h : ckHd tb s hh hx = true) : HdOk T P X hh hx := by
  unfold ckHd at h
  split at h
  · obtain ⟨h, h11⟩ := and2 h
    obtain ⟨h, h10⟩ := and2 h
    obtain ⟨h, h9⟩ := and2 h
    obtain ⟨h, h8⟩ := and2 h
    obtain ⟨h, h7⟩ := and2 h
    obtain ⟨h, h6⟩ := and2 h
    obtain ⟨h, h5⟩ := and2 h
    obtain ⟨h, h4⟩ := and2 h
    obtain ⟨h, h3⟩ := and2 h
    obtain ⟨h1, h2⟩ := and2 h
    obtain ⟨m1, m2⟩ := ct.ecl _ _ (of_decide_eq_true h3)
    exact ⟨_, _, _, _, _, _, _, _, _, rfl, ⟨sk.gl h1, (dbg_no h2).1, .inl m1⟩, sk.nm h4, sk.isL h5, (dbg_no h6).1, (dbg_no h6).2.1, sk.nm h7, sk.isL h8, of_decide_eq_true h9, of_decide_eq_true h10, ckHes_ok ct sk h11, fun ci hc => (m2 ci hc).1⟩
  · cases h
theorem ckHds_ok {X : Cx} {W : WX} {s : Sx} (ct : Ct T P cl np W kf tb X) (sk : Sk X s) : ∀ {hs : List Hd} {hxs : List ExceptHandler}, ckHds tb s hs hxs = true → HdsOk' T P X hs hxs
  | [], [], _ => trivial
  | [], _ :: _, h => by unfold ckHds at h; cases h
  | _ :: _, [], h => by unfold ckHds at h; cases h
  | e :: es, a :: axs, h => by
    unfold ckHds at h
    obtain ⟨h1, h2⟩ := and2 h
    exact ⟨ckHd_ok ct sk h1, ckHds_ok ct sk h2⟩
theorem ckSub_ok {X : Cx} {W : WX} {s : Sx} {a i : IE} {t : Expr} (ct : Ct T P cl np W kf tb X) (sk : Sk X s) (h0 : isSubs t = true) (h : ckSub tb s a i t = true) : SndSub T P cl X W a i t ∧ NoSt t = true := by
  cases t with
  | Subscript o b p =>
    unfold ckSub at h
    obtain ⟨h, h3⟩ := and2 h
    obtain ⟨h1, h2⟩ := and2 h
    exact ⟨snd_sub ct.gd h3 (ckE_ok a _ _ h1 X W ct sk).1 (ckE_ok i _ _ h2 X W ct sk).1, rfl⟩
  | _ => cases h0
theorem ckLc_ok {X : Cx} {W : WX} {s : Sx} {i : Nat} {x : Str} {p sp : Pos} {e : IE} {ax : Expr} {pr : List Nat} (ct : Ct T P cl np W kf tb X) (sk : Sk X s) (hi : X.N[i]? = some x) (he : ckE tb s e ax = true) (h : ckLc s x p e ax = true) :
    SndS T P cl X W pr (.asg (.nm i) e) (.Assign [.Name x p] ax sp) := by
  unfold ckLc at h
  split at h
  · rename_i vs t it cs e tg iter csx ex0 scope q
    unfold ckE at he
    obtain ⟨he, h8⟩ := and2 he
    obtain ⟨he, h7⟩ := and2 he
    obtain ⟨he, h6⟩ := and2 he
    obtain ⟨he, h5⟩ := and2 he
    obtain ⟨he, h4⟩ := and2 he
    obtain ⟨he, h3⟩ := and2 he
    obtain ⟨h1, h2⟩ := and2 he
    obtain ⟨h, g4⟩ := and2 h
    obtain ⟨h, g3⟩ := and2 h
    obtain ⟨g1, g2⟩ := and2 h
    have ok := blkOk_by h1
    rw [← sk.N, ← sk.sc] at ok
    have := sndS_lc (T := T) (P := P) (cl := cl) (X := X) (W := W) (pr := pr) (pos := p) (spos := sp) (p2 := q) (own := ownOf X.N vs) ct.gd hi (sk.isL g2) (sw_true (isFn_ok sk g1) (sk.isL g2) g3 (noOwn_ok g4)) (ckI_ok it _ _ _ h5 X W ct sk) ok (fun s0 H0 C cl' fp => ckG_ok _ t _ h6 _ W0 _ [] ct.blk.gd sk.blk)
      (fun s0 H0 C cl' fp => ckC_ok cs _ _ h7 _ W0 ct.blk sk.blk) (fun s0 H0 C cl' fp => (ckE_ok e _ _ h8 _ W0 ct.blk sk.blk).1)
      (fun i hi => by rw [own_snd]; exact of_decide_eq_true (List.all_eq_true.mp h3 i hi)) (by rw [own_snd]; exact of_decide_eq_true h2) h4
    rw [own_snd] at this
    exact this
  · rename_i vs t it ke ve kx vx tg iter scope q
    unfold ckE at he
    obtain ⟨he, h8⟩ := and2 he
    obtain ⟨he, h7⟩ := and2 he
    obtain ⟨he, h6⟩ := and2 he
    obtain ⟨he, h5⟩ := and2 he
    obtain ⟨he, h4⟩ := and2 he
    obtain ⟨he, h3⟩ := and2 he
    obtain ⟨h1, h2⟩ := and2 he
    obtain ⟨h, g4⟩ := and2 h
    obtain ⟨h, g3⟩ := and2 h
    obtain ⟨g1, g2⟩ := and2 h
    have ok := blkOk_by h1
    rw [← sk.N, ← sk.sc] at ok
    have := sndS_dc (T := T) (P := P) (cl := cl) (X := X) (W := W) (pr := pr) (pos := p) (spos := sp) (p2 := q) (own := ownOf X.N vs) ct.gd hi (sk.isL g2) (swD_true (isFn_ok sk g1) (sk.isL g2) g3 (noOwn_ok g4)) (ckI_ok it _ _ _ h5 X W ct sk) ok (fun s0 H0 C cl' fp => ckG_ok _ t _ h6 _ W0 _ [] ct.blk.gd sk.blk)
      (fun s0 H0 C cl' fp => (ckE_ok ke _ _ h7 _ W0 ct.blk sk.blk).1) (fun s0 H0 C cl' fp => (ckE_ok ve _ _ h8 _ W0 ct.blk sk.blk).1)
      (fun i hi => by rw [own_snd]; exact of_decide_eq_true (List.all_eq_true.mp h3 i hi)) (by rw [own_snd]; exact of_decide_eq_true h2) h4
    rw [own_snd] at this
    exact this
  · cases h
variable (T P cl np kf tb) in
def OkS (s : Sx) (st : IS) (sx : Stmt) : Prop := ∀ (X : Cx) (W : WX) (pr : List Nat), Ct T P cl np W kf tb X → Sk X s → SndS T P cl X W pr st sx
mutual
theorem ckS_ok : ∀ (st : IS) (s : Sx) (sx : Stmt), ckS tb s st sx = true → OkS T P cl np kf tb s st sx
  | .asg t e, s, sx, h, X, W, pr, ct, sk => by
    unfold ckS at h
    split at h <;> (try contradiction)
    · rename_i e1
      cases e1
      obtain ⟨h, h4⟩ := and2 h
      obtain ⟨h, h3⟩ := and2 h
      obtain ⟨h1, h2⟩ := and2 h
      rcases Bool.or_eq_true_iff.mp h4 with h4 | h4
      · obtain ⟨l1, l2⟩ := sk.loc h2
        refine sndS_nm ct.gd (sk.nm h1) l1 l2 (ckE_ok e _ _ h3 X W ct sk).1 ?_
        rcases Bool.or_eq_true_iff.mp h4 with h4 | h4
        · exact sw_plain h4
        · exact sw_cell (sk.isC h4)
      · exact ckLc_ok ct sk (sk.nm h1) h3 h4
    · rename_i e1
      cases e1
      obtain ⟨h, h4⟩ := and2 h
      obtain ⟨h, h3⟩ := and2 h
      obtain ⟨h1, h2⟩ := and2 h
      exact sndS_tp ct.gd (ckG_ok _ _ _ h1 X W _ pr ct.gd sk) (ckE_ok e _ _ h2 X W ct sk).1 h3 (sw_none h4)
  | .ssub a i e, s, sx, h, X, W, pr, ct, sk => by
    unfold ckS at h
    split at h <;> (try contradiction)
    rename_i t ax p e1
    cases e1
    obtain ⟨h, h3⟩ := and2 h
    obtain ⟨h1, h2⟩ := and2 h
    obtain ⟨k1, _⟩ := ckSub_ok (T := T) (P := P) (cl := cl) ct sk h1 h2
    cases t with
    | Subscript o b p => exact sndS_sub ct.gd k1 (ckE_ok e _ _ h3 X W ct sk).1
    | _ => cases h1
  | .ssub2 a i b j e, s, sx, h, X, W, pr, ct, sk => by
    unfold ckS at h
    split at h <;> (try contradiction)
    rename_i e1
    cases e1
    obtain ⟨h, h5⟩ := and2 h
    obtain ⟨h, h4⟩ := and2 h
    obtain ⟨h, h3⟩ := and2 h
    obtain ⟨h1, h2⟩ := and2 h
    obtain ⟨k1, k2⟩ := ckSub_ok (T := T) (P := P) (cl := cl) ct sk h1 h3
    obtain ⟨k3, k4⟩ := ckSub_ok (T := T) (P := P) (cl := cl) ct sk h2 h4
    exact sndS_sub2 ct.gd k1 k3 (ckE_ok e _ _ h5 X W ct sk).1 rfl (sw_two h1 h2) k2 k4
  | .par2 i j a b, s, sx, h, X, W, pr, ct, sk => by
    unfold ckS at h
    split at h <;> (try contradiction)
    rename_i e1
    cases e1
    obtain ⟨h, h14⟩ := and2 h
    obtain ⟨h, h13⟩ := and2 h
    obtain ⟨h, h12⟩ := and2 h
    obtain ⟨h, h11⟩ := and2 h
    obtain ⟨h, h10⟩ := and2 h
    obtain ⟨h, h9⟩ := and2 h
    obtain ⟨h, h8⟩ := and2 h
    obtain ⟨h, h7⟩ := and2 h
    obtain ⟨h, h6⟩ := and2 h
    obtain ⟨h, h5⟩ := and2 h
    obtain ⟨h, h4⟩ := and2 h
    obtain ⟨h, h3⟩ := and2 h
    obtain ⟨h1, h2⟩ := and2 h
    exact sndS_par ct.gd (sk.nm h1) (sk.nm h2) (of_decide_eq_true h3) (sk.isL h4) (sk.isL h5) (ckE_ok a _ _ h6 X W ct sk).1 (ckE_ok b _ _ h7 X W ct sk).1 h8 h9
      (sw_par (isFn_ok sk h10) (sk.isL h4) (sk.isL h5) h11 (of_decide_eq_true h12) h8 h9 (Bool.not_eq_true' _ |>.mp h13) (Bool.not_eq_true' _ |>.mp h14))
  | .sfd o f e, s, sx, h, X, W, pr, ct, sk => by
    unfold ckS at h
    split at h <;> (try contradiction)
    rename_i e1
    cases e1
    obtain ⟨h, h3⟩ := and2 h
    obtain ⟨h1, h2⟩ := and2 h
    have e1 := ct.fld _ _ (of_decide_eq_true h1)
    subst e1
    exact sndS_fld ct.gd ct.inj (fun c => ct.fok c f) (ckE_ok o _ _ h2 X W ct sk).1 (ckE_ok e _ _ h3 X W ct sk).1
  | .xp e, s, sx, h, X, W, pr, ct, sk => by
    unfold ckS at h
    split at h <;> (try contradiction)
    rename_i e1
    cases e1
    obtain ⟨h1, h2⟩ := and2 h
    exact sndS_xp (ckE_ok e _ _ h1 X W ct sk).1 h2
  | .ret e, s, sx, h, X, W, pr, ct, sk => by
    unfold ckS at h
    split at h <;> (try contradiction)
    · rename_i e1
      cases e1
      exact sndS_retN
    · rename_i e1
      cases e1
      exact sndS_ret (ckE_ok e _ _ h X W ct sk).1
  | .ife c a b, s, sx, h, X, W, pr, ct, sk => by
    unfold ckS at h
    split at h <;> (try contradiction)
    rename_i e1
    cases e1
    obtain ⟨h, h3⟩ := and2 h
    obtain ⟨h1, h2⟩ := and2 h
    exact sndS_if (ckE_ok c _ _ h1 X W ct sk).2 (ckB_ok a _ _ h2 X W pr ct sk) (ckB_ok b _ _ h3 X W pr ct sk)
  | .for_ t it body, s, sx, h, X, W, pr, ct, sk => by
    unfold ckS at h
    split at h <;> (try contradiction)
    rename_i e1
    cases e1
    obtain ⟨h, h4⟩ := and2 h
    obtain ⟨h, h3⟩ := and2 h
    obtain ⟨h1, h2⟩ := and2 h
    exact sndS_for ct.gd (ckI_ok it _ _ _ h1 X W ct sk) (ckG_ok _ t _ h2 X W _ pr ct.gd sk) (ckB_ok body _ _ h3 X W pr ct sk) h4
  | .raise c es, s, sx, h, X, W, pr, ct, sk => by
    unfold ckS at h
    split at h <;> (try contradiction)
    rename_i e1
    cases e1
    obtain ⟨h, h6⟩ := and2 h
    obtain ⟨h, h5⟩ := and2 h
    obtain ⟨h, h4⟩ := and2 h
    obtain ⟨h, h3⟩ := and2 h
    obtain ⟨h1, h2⟩ := and2 h
    exact sndS_raise ct.gd (ct.exs _ _ (of_decide_eq_true h2)) (sk.gl h1) (dbg_no h3).1 (ckE_ok _ _ _ h4 X W ct sk).1 (by simpa using h5) h6
  | .try_ b hs, s, sx, h, X, W, pr, ct, sk => by
    unfold ckS at h
    split at h <;> (try contradiction)
    rename_i e1
    cases e1
    obtain ⟨h, h5⟩ := and2 h
    obtain ⟨h, h4⟩ := and2 h
    obtain ⟨h, h3⟩ := and2 h
    obtain ⟨h1, h2⟩ := and2 h
    obtain ⟨f1, f2⟩ := sk.fx h1
    exact sndS_try ct.gd ⟨sk.gl h2, ct.bi, boot_isi⟩ f1 f2 (fun z => by rw [z] at h4; cases h4) (ckHds_ok ct sk h3) (fun W' pn xe t1 t2 => ckB_ok b _ _ h5 _ _ pr (ct.tr t1 t2) sk.tr)
  | .pass, s, sx, h, X, W, pr, ct, sk => by
    unfold ckS at h
    split at h <;> (try contradiction)
    · exact sndS_pass
    · exact sndS_doc
  | .brk, s, sx, h, X, W, pr, ct, sk => by
    unfold ckS at h
    split at h <;> (try contradiction)
    exact sndS_brk
  | .cnt, s, sx, h, X, W, pr, ct, sk => by
    unfold ckS at h
    split at h <;> (try contradiction)
    exact sndS_cnt
  | .never, s, sx, h, X, W, pr, ct, sk => sndS_never
theorem ckB_ok : ∀ (ss : List IS) (s : Sx) (sxs : List Stmt), ckB tb s ss sxs = true → ∀ (X : Cx) (W : WX) (pr : List Nat), Ct T P cl np W kf tb X → Sk X s → SndB T P cl X W pr ss sxs
  | [], s, sxs, h, X, W, pr, ct, sk => by
    cases sxs with
    | nil => exact sndB_nil
    | cons _ _ => unfold ckB at h; cases h
  | st :: ss, s, sxs, h, X, W, pr, ct, sk => by
    cases sxs with
    | nil => unfold ckB at h; cases h
    | cons sx sxs =>
      unfold ckB at h
      obtain ⟨h1, h2⟩ := and2 h
      exact sndB_cons (ckS_ok st _ _ h1 X W pr ct sk) (ckB_ok ss _ _ h2 X W pr ct sk)
end
end
end Fm
end

section
set_option Elab.async false
set_option linter.all false
set_option maxRecDepth 10000
set_option autoImplicit false
set_option maxHeartbeats 1000000
namespace Fm
open PySem L2
/-! all defs of a module -/
section
variable (T : Wd) (P : Pg) (tb : Tb) (Pr : Program) (w : World) (K : PySem.W.Frag) (mg : Str → Option Value) (base : Heap)
/-- a def stands as the text says, and its form is checked -/
def FF (j : Nat) (fa : Addr) (fd : FuncData) (ps : List Str) : Prop := ∃ (x qual : Str) (params : Arguments) (body : List Stmt) (scope : Scope) (dvs : List V) (kws : List (Str × V)) (N : List Str) (f : Def),
  P.defs[j]? = some f ∧ FunD K x qual params body scope dvs kws fa fd ∧ FnScope N ps scope ∧ f.np = ps.length ∧ f.nl = N.length ∧ ckB tb ⟨N, scope, true⟩ f.body body = true
structure Md : Prop where
  eqK : T.K = K
  fn : ∀ x j, (x, j) ∈ tb.fns → ∃ fa fd ps, mg x = some (.ref fa) ∧ PySem.W.keepIn K (.ref fa) = true ∧ FF P tb K j fa fd ps ∧ Binds K fd ps []
  mks : ∀ x c j n ks, (x, c, j, n, ks) ∈ tb.mks → ∃ fa fd ps g, mg x = some (.ref (T.cls c)) ∧ Mk K (T.cls c) fa ∧ FF P tb K j fa fd ps ∧ KBn K fd ps (n + 1) ks g (fun vs zs => vs ++ zs)
  cls : ∀ x m, (x, m) ∈ tb.cls → mg x = some (.ref (T.cls m)) ∧ IsO T m
  glb : ∀ x k, (x, k) ∈ tb.glb → ∃ d v u, P.glob[k]? = some d ∧ mg x = some u ∧ RelV v u ∧ ∀ F, Rep T F d v
  fld : ∀ i f, tb.flds[i]? = some f → T.fld i = f
  inj : ∀ a b, T.fld a = T.fld b → a = b
  fok : ∀ c f, P.fok c f = true → L2.Cls T.K (T.cls c) ∧ NoAttr T.K (T.cls c) (T.fld f)
  mts : ∀ m mn, tb.mts[m]? = some mn → (∀ a, T.fld a ≠ mn) ∧ ∀ c j, P.mth c m = some j → ∃ fa fd ps, FF P tb K j fa fd ps ∧ Binds K fd ps [] ∧ L2.Cls T.K (T.cls c) ∧ Meth T.K (T.cls c) mn fa
  cns : ∀ k n, tb.cns[k]? = some n → (∀ a, T.fld a ≠ n) ∧ ∃ i, P.con[k]? = some i ∧ ∀ c, P.cok c k = true → L2.Cls T.K (T.cls c) ∧ ∃ u, Con T.K (T.cls c) n (.int i) u
  b1 : ∀ f : B1, mg f.nm = none
  b2 : ∀ f : B2, mg f.nm = none
  bi : mg "isinstance" = none
  br : mg "range" = none
  be : mg "enumerate" = none
  bt : ∀ n ∈ ["int", "bool", "str", "dict", "list", "tuple"], mg (Str.ofString n) = none
  exs : ∀ x ci, (x, ci) ∈ tb.exs → mg x = some (.ref (T.cls ci)) ∧ ExI K (T.cls ci) (T.xf ci) ∧ ∃ fI fd sx nx cc cda, PySem.W.findIn K (.ref (T.cls ci)) "__init__" = some (some (.ref fI)) ∧ PySem.W.typeIn K (.ref fI) = some (.type "function") ∧ InitD Pr K fI (T.cls ci) cc cda fd sx nx (T.xf ci) ∧ Binds K fd [sx, nx] []
  sup : mg "super" = none
  ecl : ∀ x m, (x, m) ∈ tb.ecl → mg x = some (.ref (T.cls m)) ∧ ∀ ci, P.exk ci = true → PySem.W.exmOne K (.ref (T.cls ci)) (.ref (T.cls m)) = some (P.sub ci m) ∧ PySem.W.kitOne K (.ref (T.cls ci)) (.ref (T.cls m)) = some (P.sub ci m)
  exk : ∀ ci, P.exk ci = true → ExC K (T.cls ci) ∧ PySem.W.kitOne K (.ref (T.cls ci)) (.type "ValueError") = some true
  xfd : ∀ m f, (m, f) ∈ tb.xfd → ∀ ci, P.exk ci = true → P.sub ci m = true → T.xf ci = f ∧ XfC K (T.cls ci) ∧ PySem.W.findIn K (.ref (T.cls ci)) f = some none
  bv : mg "ValueError" = none
end
section
variable {T : Wd} {P : Pg} {tb : Tb} {Pr : Program} {w : World} {K : PySem.W.Frag} {mg : Str → Option Value} {base : Heap}
/-- .. and keeps its promise, at any depth of calls -/
def Lv (T : Wd) (P : Pg) (tb : Tb) (Pr : Program) (w : World) (K : PySem.W.Frag) (mg : Str → Option Value) (base : Heap) (n : Nat) : Prop := ∀ j fa fd ps, FF P tb K j fa fd ps → FnOk Pr w K mg base (L2.CX Pr w) (2 * n + 1) fa fd ps (spOf T (callN P n) j)
theorem Md.ct (m : Md T P tb Pr K mg) {n : Nat} (ih : Lv T P tb Pr w K mg base n) {X : Cx} {W : WX} (h1 : X.prog = Pr) (h2 : X.w = w) (h3 : X.K = K) (h4 : X.mg = mg) (h5 : X.base = base) (g : Gd T X W (2 * n + 1 + 1)) : Ct T P (callN P n) P.np W (2 * n + 1) tb X := by
  subst h1 h2 h3 h4 h5
  refine ⟨g, callN_ok P n, fun x j h => ?_, fun x c j n ks h => ?_, m.cls, m.glb, m.fld, m.inj, m.fok, fun k mn h => ?_, m.cns, m.b1, m.b2, m.bi, m.br, m.be, m.bt, fun x ci h => ?_, m.ecl, m.exk, m.xfd, m.bv⟩
  · obtain ⟨fa, fd, ps, e1, e2, e3, e4⟩ := m.fn x j h
    exact ⟨fa, e1, e2, fd, ps, ih j fa fd ps e3, e4⟩
  · obtain ⟨fa, fd, ps, gg, e1, e2, e3, e4⟩ := m.mks x c j n ks h
    exact ⟨fa, e1, e2, fd, ps, gg, ih j fa fd ps e3, e4⟩
  · obtain ⟨z1, z2⟩ := m.mts k mn h
    refine ⟨z1, fun c j hj => ?_⟩
    obtain ⟨fa, fd, ps, e1, e2, e3, e4⟩ := z2 c j hj
    exact ⟨fa, ⟨fd, ps, ih j fa fd ps e1, e2⟩, e3, e4⟩
  · obtain ⟨e1, e2, fI, fd, sx, nx, cc, cda, e3, e4, e5, e6⟩ := m.exs x ci h
    exact ⟨e1, e2.oex, fI, fd, [sx, nx], e3, e4, fn_init e5 e2 m.sup, e6⟩
theorem Md.all (m : Md T P tb Pr K mg) : ∀ n, Lv T P tb Pr w K mg base n
  | 0, j, fa, fd, ps, h => by
    have no : ∀ {vs : List V} {H : Hp} {Q : VK} {E : XK}, spOf T (callN P 0) j vs H Q E → False := fun ⟨_, _, _, _, q⟩ => q
    exact ⟨fun vs H Q E h => (no h).elim, fun A outer s H args us vs Q E hr he hb hv hs => (no hs).elim⟩
  | n + 1, j, fa, fd, ps, h => by
    obtain ⟨x, qual, params, body, scope, dvs, kws, N, f, hj, D, S, hnp, hnl, hck⟩ := h
    refine fn_run (k := 2 * n + 1 + 1) hj D S hnp hnl fun cdv A outer s H E pr hr => ?_
    have tk := takes_of (X := cxOf (L2.CX Pr w) Pr w K mg base N qual scope fa cdv A outer s H E) (E := E) rfl rfl rfl rfl
    have g : Gd T (cxOf (L2.CX Pr w) Pr w K mg base N qual scope fa cdv A outer s H E) (fun cls d _ H => E cls d H) (2 * n + 1 + 1) :=
      ⟨m.eqK.symm, rfl, hr, S.nd, tk, passes_of rfl⟩
    exact ckB_ok f.body ⟨N, scope, true⟩ body hck _ _ pr (m.ct (Md.all m n) rfl rfl rfl rfl rfl g) ⟨rfl, rfl, fun _ _ => rfl, fun _ => ⟨rfl, rfl⟩⟩
end
end Fm
end

section
set_option Elab.async false
set_option linter.all false
set_option maxRecDepth 10000
set_option autoImplicit false
set_option maxHeartbeats 1000000
namespace Fm
open PySem L2
/-! parameters that are all written -/
theorem fm_congr {α β : Type} {f g : α → Option β} : ∀ {l : List α}, (∀ n ∈ l, f n = g n) → l.filterMap f = l.filterMap g
  | [], _ => rfl
  | a :: l, h => by
    rw [List.filterMap_cons, List.filterMap_cons, h a List.mem_cons_self, fm_congr (l := l) fun n hn => h n (List.mem_cons_of_mem _ hn)]
theorem look_zip {ps : List Str} {us : List Value} (nd : ps.Nodup) (hl : us.length = ps.length) : ps.filterMap (fun n => ((ps.zip us).lookup n).map (n, ·)) = ps.zip us := by
  induction ps generalizing us with
  | nil => rfl
  | cons p ps ih =>
    cases us with
    | nil => cases hl
    | cons u us =>
      obtain ⟨n1, n2⟩ := List.nodup_cons.mp nd
      have hl' : us.length = ps.length := by simpa using hl
      have e : ∀ n ∈ ps, List.lookup n ((p, u) :: ps.zip us) = (ps.zip us).lookup n := fun n hn => by
        have : (n == p) = false := beq_eq_false_iff_ne.mpr fun z => n1 (z ▸ hn)
        simp [List.lookup, this]
      show List.filterMap _ (p :: ps) = (p, u) :: ps.zip us
      rw [List.filterMap_cons_some (b := (p, u)) (by simp [List.lookup])]
      congr 1
      refine (fm_congr fun n hn => ?_).trans (ih n2 hl')
      show (List.lookup n ((p, u) :: ps.zip us)).map _ = _
      rw [e n hn]
theorem look_some {ps : List Str} {us : List Value} (hl : us.length = ps.length) : ∀ n ∈ ps, ((ps.zip us).lookup n).isNone = false := by
  induction ps generalizing us with
  | nil => intro n hn; cases hn
  | cons p ps ih =>
    cases us with
    | nil => cases hl
    | cons u us =>
      intro n hn
      show (List.lookup n ((p, u) :: ps.zip us)).isNone = false
      cases h : (n == p) with
      | true => simp [List.lookup, h]
      | false =>
        have hne : n ≠ p := fun z => by rw [z] at h; simp at h
        have : n ∈ ps := by
          rcases List.mem_cons.mp hn with z | z
          · exact absurd z hne
          · exact z
        simpa [List.lookup, h] using ih (us := us) (by simpa using hl) n this
theorem binds_plain {x qual : Str} {params : Arguments} {body : List Stmt} {scope : Scope} {kV doc pm cdv ct : Value} {an : Option Addr} {ps : List Str} (h1 : params.posonlyargs = []) (h2 : params.args.map (·.arg) = ps) (h3 : params.vararg = none) (h4 : params.kwonlyargs = []) (h5 : params.kwarg = none) (nd : ps.Nodup)
    (us : List Value) (hl : us.length = ps.length) : bindArgs (PySem.W.fnOf x qual params body scope .none kV doc pm an cdv ct) ⟨us, []⟩ = pure (ps.zip us) := by
  have hs : seqItems? Value.none = pure none := rfl
  have hm : ps.filter (fun n => ((ps.zip us).lookup n).isNone) = [] := List.filter_eq_nil_iff.mpr fun n hn => by rw [look_some hl n hn]; exact Bool.false_ne_true
  unfold bindArgs
  simp only [h1, h2, h3, h4, h5, hs, hl, List.map_nil, List.nil_append, List.append_nil, pure_bind, Option.getD_none, List.forIn_nil, List.forIn_pure_yield_eq_foldl, Option.isNone_none, List.drop_nil, List.zip_nil_right, List.length_nil, Nat.sub_zero, List.take_length, hm, List.isEmpty_nil, look_zip nd hl, gt_iff_lt, Nat.lt_irrefl]
  simp
end Fm
end

section
set_option Elab.async false
set_option linter.all false
set_option maxRecDepth 10000
set_option autoImplicit false
set_option maxHeartbeats 1000000
namespace Fm
open PySem L2
/-! facts of a part of the heap, by booleans -/
section
variable {K : PySem.W.Frag} {C : Addr}
def oexB (K : PySem.W.Frag) (C : Addr) : Bool := (match K.lookup C with
  | some ⟨.type "type", _, .cls cd, sl⟩ => (match cd.mro, sl.toList with
    | .ref C' :: bm, [_, _, _, _, some (.builtin n), _] => C' == C && n == "ValueError.__new__" && !cd.hasDel && cd.hasDict && PySem.HandSPX.refsVE bm
    | _, _ => false)
  | _ => false) && decide (PySem.W.findIn K (.ref C) "__setattr__" = some (some (.builtin "object.__setattr__"))) && decide (PySem.W.subIn K (.ref C) (.type "BaseException") = some true) && decide (PySem.W.typeIn K (.ref C) = some (.type "type")) && PySem.W.keepIn K (.ref C)
theorem oexB_ok (h : oexB K C = true) : OexC K C := by
  unfold oexB at h
  obtain ⟨h, h5⟩ := and2 h
  obtain ⟨h, h4⟩ := and2 h
  obtain ⟨h, h3⟩ := and2 h
  obtain ⟨q, h2⟩ := and2 h
  refine ⟨?_, of_decide_eq_true h2, of_decide_eq_true h3, of_decide_eq_true h4, h5⟩
  split at q
  · rename_i dd cd sl ho
    split at q
    · rename_i C' bm k0 k1 k2 k3 n k5 hm hs
      simp only [Bool.and_eq_true, beq_iff_eq, Bool.not_eq_true'] at q
      obtain ⟨⟨⟨⟨rfl, rfl⟩, hdel⟩, hdi⟩, ht⟩ := q
      obtain ⟨nm, bs, mro, ns, qn, hd, sn, sub, ab, col, del⟩ := cd
      dsimp only at hm hdel hdi
      subst hm hdel hdi
      have hsl : sl = #[k0, k1, k2, k3, some (.builtin "ValueError.__new__"), k5] := by
        obtain ⟨l⟩ := sl
        simp only at hs
        rw [hs]
      subst hsl
      exact ⟨nm, qn, ns, bs, bm, sn, sub, ab, col, dd, k0, k1, k2, k3, k5, ho, ht⟩
    · cases q
  · cases q
def exiB (K : PySem.W.Frag) (C : Addr) (f : Str) : Bool := oexB K C && decide (PySem.W.ks_superIn K C C "__init__" = some (some (.builtin "ValueError.__init__"))) && decide (PySem.W.subIn K (.ref C) (.type "ValueError") = some true) && decide (PySem.W.mroIn K C (.ref C) = some true) &&
  decide (PySem.W.nsIn K cStatics "thirdparty.any" = some none) && decide (PySem.W.findIn K (.ref C) f = some none)
theorem exiB_ok {f : Str} (h : exiB K C f = true) : ExI K C f := by
  unfold exiB at h
  obtain ⟨h, h6⟩ := and2 h
  obtain ⟨h, h5⟩ := and2 h
  obtain ⟨h, h4⟩ := and2 h
  obtain ⟨h, h3⟩ := and2 h
  obtain ⟨h1, h2⟩ := and2 h
  exact ⟨oexB_ok h1, of_decide_eq_true h2, of_decide_eq_true h3, of_decide_eq_true h4, of_decide_eq_true h5, of_decide_eq_true h6⟩
def excB (K : PySem.W.Frag) (C : Addr) : Bool := (PySem.W.clsIn K C).isSome && decide (PySem.W.findIn K (.ref C) "__getattribute__" = some (some (.builtin "BaseException.__getattribute__"))) && decide (PySem.W.findIn K (.ref C) "__getattr__" = some none) &&
  decide (PySem.W.subIn K (.ref C) (.type "BaseException") = some true) && PySem.W.hasDictIn K C && decide (PySem.W.findIn K (.ref C) "__class__" = some (some (.builtin "object.__class__"))) &&
  decide (PySem.W.specialIn K (.builtin "object.__class__") "__get__" = some (some (.builtin "getset_descriptor.__get__"))) && decide (PySem.W.takesIn K (.builtin "object.__class__") = some true) && decide (PySem.W.mroIn K C (.type "object") = some true)
theorem excB_ok (h : excB K C = true) : ExC K C ∧ XfC K C := by
  unfold excB at h
  obtain ⟨h, h9⟩ := and2 h
  obtain ⟨h, h8⟩ := and2 h
  obtain ⟨h, h7⟩ := and2 h
  obtain ⟨h, h6⟩ := and2 h
  obtain ⟨h, h5⟩ := and2 h
  obtain ⟨h, h4⟩ := and2 h
  obtain ⟨h, h3⟩ := and2 h
  obtain ⟨h1, h2⟩ := and2 h
  exact ⟨⟨h1, of_decide_eq_true h2, of_decide_eq_true h3, of_decide_eq_true h4, h5, of_decide_eq_true h6, of_decide_eq_true h7, of_decide_eq_true h8, of_decide_eq_true h9⟩, ⟨of_decide_eq_true h2, of_decide_eq_true h3, of_decide_eq_true h4, h5⟩⟩
def clsB (K : PySem.W.Frag) (C : Addr) : Bool := PySem.W.plainGet K C Str.empty && PySem.W.hasDictIn K C && PySem.W.plainOver K C && decide (PySem.W.findIn K (.ref C) "__setattr__" = some (some (.builtin "object.__setattr__")))
theorem clsB_ok (h : clsB K C = true) : L2.Cls K C := by
  unfold clsB at h
  obtain ⟨h, h4⟩ := and2 h
  obtain ⟨h, h3⟩ := and2 h
  obtain ⟨h1, h2⟩ := and2 h
  exact ⟨h1, h2, h3, of_decide_eq_true h4⟩
def methB (K : PySem.W.Frag) (C : Addr) (m : Str) (f : Addr) : Bool := decide (PySem.W.findIn K (.ref C) m = some (some (.ref f))) && PySem.W.isFn K (.ref f) && PySem.W.keepIn K (.ref f)
theorem methB_ok {m : Str} {f : Addr} (h : methB K C m f = true) : Meth K C m f := by
  unfold methB at h
  obtain ⟨h, h3⟩ := and2 h
  obtain ⟨h1, h2⟩ := and2 h
  exact ⟨of_decide_eq_true h1, h2, h3⟩
def mkB (K : PySem.W.Frag) (C f : Addr) : Bool := PySem.W.makesIn K C && decide (PySem.W.findIn K (.ref C) "__init__" = some (some (.ref f))) && PySem.W.isFn K (.ref f) && PySem.W.keepIn K (.ref C)
theorem mkB_ok {f : Addr} (h : mkB K C f = true) : Mk K C f := by
  unfold mkB at h
  obtain ⟨h, h4⟩ := and2 h
  obtain ⟨h, h3⟩ := and2 h
  obtain ⟨h1, h2⟩ := and2 h
  exact ⟨h1, of_decide_eq_true h2, h3, h4⟩
def conB (K : PySem.W.Frag) (C : Addr) (f : Str) (i : Int) : Bool := (match PySem.W.findIn K (.ref C) f with
  | some (some u) => He.relB (.int i) u && decide (PySem.W.specialIn K u "__get__" = some none)
  | _ => false) && !PySem.W.copiedNames.contains f
theorem conB_ok {f : Str} {i : Int} (h : conB K C f i = true) : ∃ u, Con K C f (.int i) u := by
  unfold conB at h
  obtain ⟨h, h3⟩ := and2 h
  split at h
  · rename_i u e
    obtain ⟨h1, h2⟩ := and2 h
    exact ⟨u, e, He.relB_ok h1, of_decide_eq_true h2, by simpa using h3⟩
  · cases h
def isoB (K : PySem.W.Frag) (C : Addr) : Bool := clsB K C && decide (PySem.W.findIn K (.ref C) "__class__" = some (some (.builtin "object.__class__"))) && decide (PySem.W.specialIn K (.builtin "object.__class__") "__get__" = some (some (.builtin "getset_descriptor.__get__"))) &&
  decide (PySem.W.takesIn K (.builtin "object.__class__") = some true) && decide (PySem.W.mroIn K C (.type "object") = some true) && tys.all fun n => decide (PySem.W.kitOne K (.type n) (.ref C) = some false)
theorem isoB_ok {T : Wd} {m : Nat} (h : isoB T.K (T.cls m) = true) : IsO T m := by
  unfold isoB at h
  obtain ⟨h, h6⟩ := and2 h
  obtain ⟨h, h5⟩ := and2 h
  obtain ⟨h, h4⟩ := and2 h
  obtain ⟨h, h3⟩ := and2 h
  obtain ⟨h1, h2⟩ := and2 h
  exact ⟨clsB_ok h1, of_decide_eq_true h2, of_decide_eq_true h3, of_decide_eq_true h4, of_decide_eq_true h5, fun n hn => of_decide_eq_true (List.all_eq_true.mp h6 n hn)⟩
end
/-! the numbered names -/
def fldOf (fl : List Str) (i : Nat) : Str := match fl[i]? with
  | some f => f
  | none => ⟨#[0, 0, i]⟩
def wild (f : Str) : Bool := f.cps[0]? == some 0
theorem fldOf_inj {fl : List Str} (nd : fl.Nodup) (hw : ∀ f ∈ fl, wild f = false) : ∀ a b, fldOf fl a = fldOf fl b → a = b := by
  intro a b h
  unfold fldOf at h
  cases ha : fl[a]? with
  | some f =>
    rw [ha] at h
    cases hb : fl[b]? with
    | some g =>
      rw [hb] at h
      have h' : f = g := h
      subst h'
      exact (List.getElem?_inj (List.getElem?_eq_some_iff.mp ha).1 nd).mp (ha.trans hb.symm)
    | none =>
      rw [hb] at h
      have h' : f = ⟨#[0, 0, b]⟩ := h
      have := hw f (List.mem_of_getElem? ha)
      rw [h'] at this
      cases this
  | none =>
    rw [ha] at h
    cases hb : fl[b]? with
    | some g =>
      rw [hb] at h
      have h' : (⟨#[0, 0, a]⟩ : Str) = g := h
      have := hw g (List.mem_of_getElem? hb)
      rw [← h'] at this
      cases this
    | none =>
      rw [hb] at h
      have h' : (⟨#[0, 0, a]⟩ : Str) = ⟨#[0, 0, b]⟩ := h
      injection h' with h'
      simpa using h'
end Fm
end

section
set_option Elab.async false
set_option linter.all false
set_option maxRecDepth 10000
set_option autoImplicit false
set_option maxHeartbeats 1000000
namespace Fm
open PySem L2
/-! the defs -/
def scB (N ps : List Str) (sc : Scope) : Bool := (match sc.kind with
  | .function => true
  | _ => false) && !sc.isCoroutine && !sc.isGenerator && decide N.Nodup && decide (N.take ps.length = ps) && (ps.all fun x => match sc.names.lookup x with
  | some .local => true
  | some .cell => true
  | _ => false) && sc.names.all fun y => match y.2 with
  | .free => false
  | _ => true
theorem scB_ok {N ps : List Str} {sc : Scope} (h : scB N ps sc = true) : FnScope N ps sc := by
  unfold scB at h
  obtain ⟨h, h7⟩ := and2 h
  obtain ⟨h, h6⟩ := and2 h
  obtain ⟨h, h5⟩ := and2 h
  obtain ⟨h, h4⟩ := and2 h
  obtain ⟨h, h3⟩ := and2 h
  obtain ⟨h1, h2⟩ := and2 h
  refine ⟨?_, by simpa using h2, by simpa using h3, of_decide_eq_true h4, of_decide_eq_true h5, fun x hx => ?_, fun y hy e => ?_⟩
  · split at h1
    · assumption
    · cases h1
  · have := List.all_eq_true.mp h6 x hx
    split at this
    · exact .inl (by assumption)
    · exact .inr (by assumption)
    · cases this
  · have := List.all_eq_true.mp h7 y hy
    rw [e] at this
    cases this
/-- parameters that are all written, none else -/
def plB (params : Arguments) (ps : List Str) : Bool := params.posonlyargs.isEmpty && decide (params.args.map (·.arg) = ps) && params.vararg.isNone && params.kwonlyargs.isEmpty && params.kwarg.isNone && decide ps.Nodup
theorem plB_ok {params : Arguments} {ps : List Str} (h : plB params ps = true) {x qual : Str} {body : List Stmt} {scope : Scope} {kV doc pm cdv ct : Value} {an : Option Addr} (us : List Value) (hl : us.length = ps.length) :
    bindArgs (PySem.W.fnOf x qual params body scope .none kV doc pm an cdv ct) ⟨us, []⟩ = pure (ps.zip us) := by
  unfold plB at h
  obtain ⟨h, h6⟩ := and2 h
  obtain ⟨h, h5⟩ := and2 h
  obtain ⟨h, h4⟩ := and2 h
  obtain ⟨h, h3⟩ := and2 h
  obtain ⟨h1, h2⟩ := and2 h
  exact binds_plain (List.isEmpty_iff.mp h1) (of_decide_eq_true h2) (Option.isNone_iff_eq_none.mp h3) (List.isEmpty_iff.mp h4) (Option.isNone_iff_eq_none.mp h5) (of_decide_eq_true h6) us hl
/-- one def: where it stands, its parameters, its names -/
structure DD where
  d : He.DefD
  ps : List Str
  N : List Str
/-- what needs no heap -/
def ddB (tb : Tb) (q : DD) (f : Def) : Bool := q.d.dfl.isEmpty && q.d.kwd.isEmpty && scB q.N q.ps q.d.scope && decide (f.np = q.ps.length) && decide (f.nl = q.N.length) && ckB tb ⟨q.N, q.d.scope, true⟩ f.body q.d.body
theorem dd_ok {P : Pg} {tb : Tb} {K : PySem.W.Frag} {j : Nat} {q : DD} {f : Def} (hj : P.defs[j]? = some f) (h : ddB tb q f = true) (e : He.fnW K q.d.at_ = q.d.val) (c : q.d.ok K = true) :
    ∃ fd, FF P tb K j (He.fAd K q.d.at_) fd q.ps ∧ FunD K q.d.name q.d.qual q.d.params q.d.body q.d.scope [] [] (He.fAd K q.d.at_) fd := by
  unfold ddB at h
  obtain ⟨h, h6⟩ := and2 h
  obtain ⟨h, h5⟩ := and2 h
  obtain ⟨h, h4⟩ := and2 h
  obtain ⟨h, h3⟩ := and2 h
  obtain ⟨h1, h2⟩ := and2 h
  obtain ⟨fd, F⟩ := He.DefD.funD e c
  have e1 : q.d.dvs K = [] := by unfold He.DefD.dvs; rw [List.isEmpty_iff.mp h1]; rfl
  have e2 : q.d.kws K = [] := by unfold He.DefD.kws; rw [List.isEmpty_iff.mp h2]; rfl
  rw [e1, e2] at F
  exact ⟨fd, ⟨_, _, _, _, _, _, _, q.N, f, hj, F, scB_ok h3, of_decide_eq_true h4, of_decide_eq_true h5, h6⟩, F⟩
/-! an own exception's __init__ -/
structure ED where
  x : Str
  name : Str
  qual : Str
  params : Arguments
  body : List Stmt
  scope : Scope
  sx : Str
  nx : Str
  f : Str
abbrev FnE : Type := Option (Str × Str × Arguments × FuncBody × Scope × Addr × List Str × Addr)
def fnE (K : PySem.W.Frag) (x : Str) : FnE := match K.lookup (He.ma K (He.ga K x) "__init__") with
  | some ⟨_, _, .func fd, _⟩ => some (fd.name, fd.qualname, fd.params, fd.body, fd.scope, fd.globals, fd.closure.map (·.1), fd.builtins)
  | _ => none
def ED.val (d : ED) : FnE := some (d.name, d.qual, d.params, .stmts d.body, d.scope, mainGlobals, [("__class__" : Str)], builtinsNs)
def codB (K : PySem.W.Frag) (file : Str) (cdv : Value) : Bool := match cdv with
  | .ref cda => (match K.lookup cda with
    | some ⟨_, _, .fields vs, _⟩ => (match (vs[2]? : Option Value) with
      | some (.str fl _) => file == fl
      | _ => false)
    | _ => false)
  | _ => false
def cloB (K : PySem.W.Frag) (C : Addr) (cl : List (Str × Addr)) : Bool := match cl with
  | [(_, cc)] => (match K.lookup cc with
    | some ⟨_, _, .cell (some (.ref D)), _⟩ => decide (D = C)
    | _ => false)
  | _ => false
def edB (K : PySem.W.Frag) (file : Str) (d : ED) : Bool := match K.lookup (He.ma K (He.ga K d.x) "__init__") with
  | some ⟨_, _, .func fd, _⟩ => PySem.W.codeIn K fd.code d.qual && codB K file fd.code && cloB K (He.ga K d.x) fd.closure && (match fd.defaults with
    | .none => true
    | _ => false)
  | _ => false
def inB (sx nx f : Str) : List Stmt → Bool
  | [.Expr (.Call (.Attribute (.Call (.Name a _) [] [] _) b p2) [.Constant (.str _) _ _] [] p4) _, .Assign [.Attribute (.Name c _) g _] (.Name e _) _] => decide (a = ("super" : Str)) && decide (b = ("__init__" : Str)) && decide (c = sx) && decide (g = f) && decide (e = nx) && (p2.endLine == p4.line)
  | _ => false
def edS (P : Program) (d : ED) : Bool := (match (d.params.posonlyargs ++ d.params.args).head? with
  | some ar => decide (ar.arg = d.sx)
  | none => false) && decide (d.scope.names.lookup ("super" : Str) = some .globalImplicit) && decide (d.scope.names.lookup ("__class__" : Str) = some .free) && decide (d.scope.names.lookup d.sx = some .local) && decide (d.scope.names.lookup d.nx = some .local) &&
  (d.scope.names.all fun y => match y.2 with
    | .cell => false
    | .free => decide (y.1 = ("__class__" : Str))
    | _ => true) && (match d.scope.kind with
    | .function => true
    | _ => false) && !d.scope.isCoroutine && !d.scope.isGenerator && inB d.sx d.nx d.f d.body && decide (d.sx ≠ d.nx) && !dbg d.sx && !dbg d.nx && !(P.main.scope.names.lookup ("super" : Str)).isSome && plB d.params [d.sx, d.nx]
theorem ed_ok {P : Program} {K : PySem.W.Frag} {d : ED} (h : edS P d = true) (e : fnE K d.x = d.val) (c : edB K P.main.file d = true) :
    ∃ fd cc cda, InitD P K (He.ma K (He.ga K d.x) "__init__") (He.ga K d.x) cc cda fd d.sx d.nx d.f ∧ Binds K fd [d.sx, d.nx] [] := by
  unfold edS at h
  obtain ⟨h, h15⟩ := and2 h
  obtain ⟨h, h14⟩ := and2 h
  obtain ⟨h, h13⟩ := and2 h
  obtain ⟨h, h12⟩ := and2 h
  obtain ⟨h, h11⟩ := and2 h
  obtain ⟨h, h10⟩ := and2 h
  obtain ⟨h, h9⟩ := and2 h
  obtain ⟨h, h8⟩ := and2 h
  obtain ⟨h, h7⟩ := and2 h
  obtain ⟨h, h6⟩ := and2 h
  obtain ⟨h, h5⟩ := and2 h
  obtain ⟨h, h4⟩ := and2 h
  obtain ⟨h, h3⟩ := and2 h
  obtain ⟨h1, h2⟩ := and2 h
  unfold edB at c
  unfold fnE at e
  cases q : K.lookup (He.ma K (He.ga K d.x) "__init__") with
  | none => rw [q] at c; cases c
  | some o =>
  obtain ⟨oc, od, dt, osl⟩ := o
  rw [q] at c e
  cases dt with
  | func fd =>
    obtain ⟨n1, n2, n3, n4, n5, n6, n7, n8, n9, n10, n11, n12, n13, n14, n15⟩ := fd
    have e2 : (some (n1, n2, n3, n4, n5, n6, n7.map (·.1), n15) : FnE) = some (d.name, d.qual, d.params, .stmts d.body, d.scope, mainGlobals, [("__class__" : Str)], builtinsNs) := e
    simp only [Option.some.injEq, Prod.mk.injEq] at e2
    obtain ⟨rfl, rfl, rfl, rfl, rfl, rfl, hcl, rfl⟩ := e2
    dsimp only at c
    obtain ⟨c, c4⟩ := and2 c
    obtain ⟨c, c3⟩ := and2 c
    obtain ⟨c1, c2⟩ := and2 c
    unfold codB at c2
    cases n13 with
    | ref cda =>
      dsimp only at c2
      split at c2
      · rename_i ccl cdd vs ccs hcda
        split at c2
        · rename_i fl tf hvs
          have hsh : ∃ cc, n7 = [(("__class__" : Str), cc)] := by
            rcases n7 with _ | ⟨⟨a, cc⟩, _ | ⟨z, zs⟩⟩
            · cases hcl
            · have : [a] = [("__class__" : Str)] := hcl
              exact ⟨cc, by rw [(List.cons.inj this).1]⟩
            · cases hcl
          obtain ⟨cc, rfl⟩ := hsh
          · unfold cloB at c3
            dsimp only at c3
            split at c3
            · rename_i cl cld D csl hcc
              have hD := of_decide_eq_true c3
              subst hD
              split at c4
              · unfold inB at h10
                split at h10
                · rename_i a p0 p1 b p2 text j p3 p4 p5 cn p6 g p7 e2 p8 p9 hb
                  obtain ⟨h10, i6⟩ := and2 h10
                  obtain ⟨h10, i5⟩ := and2 h10
                  obtain ⟨h10, i4⟩ := and2 h10
                  obtain ⟨h10, i3⟩ := and2 h10
                  obtain ⟨i1, i2⟩ := and2 h10
                  have j1 := of_decide_eq_true i1
                  have j2 := of_decide_eq_true i2
                  have j3 := of_decide_eq_true i3
                  have j4 := of_decide_eq_true i4
                  have j5 := of_decide_eq_true i5
                  subst j1 j2
                  split at h1
                  · rename_i ar har
                    have hk : d.scope.kind = .function := by
                      split at h7
                      · assumption
                      · cases h7
                    refine ⟨_, cc, cda, ⟨⟨d.name, d.qual, d.params, _, d.scope, .none, n9, n10, n11, n14, oc, n12, od, osl, ar, p0, p1, p2, p3, p4, p5, p6, p7, p8, p9, text, j, rfl, q, c1, har, of_decide_eq_true h1, of_decide_eq_true h2, of_decide_eq_true h3, of_decide_eq_true h4, of_decide_eq_true h5, fun y hy => ?_, hk, by simpa using h8, by simpa using h9, i6, ?_⟩, ⟨_, _, _, _, _, _, hcda, hvs, c2⟩, ⟨_, _, _, hcc⟩, of_decide_eq_true h11, ⟨(dbg_no h12).1, (dbg_no h12).2.1⟩, ⟨(dbg_no h13).1, (dbg_no h13).2.1⟩, by simpa using h14⟩, .all fun us hl => plB_ok (x := d.name) (qual := d.qual) (body := d.body) (scope := d.scope) (kV := n9) (doc := n10) (pm := n11) (cdv := .ref cda) (ct := n14) (an := n12) h15 us hl⟩
                    · have := List.all_eq_true.mp h6 y hy
                      refine ⟨fun z => ?_, fun z => ?_⟩
                      · rw [z] at this; cases this
                      · rw [z] at this; exact of_decide_eq_true this
                    · rw [hb, ← j3, ← j4, ← j5]
                  · cases h1
                · cases h10
              · cases c4
            · cases c3
        · cases c2
      · cases c2
    | _ => cases c2
  | _ => cases c
end Fm
end

section
set_option Elab.async false
set_option linter.all false
set_option maxRecDepth 10000
set_option autoImplicit false
set_option maxHeartbeats 1000000
namespace Fm
open PySem L2
/-! all facts of a module -/
structure Tabs where
  tb : Tb
  df : List Def
  dd : List DD
  cn : List Str
  xf : List Str
  gl : List D
  con : List Int
  cokT : List (Nat × Nat)
  fokT : List (Nat × Nat)
  mthT : List ((Nat × Nat) × Nat)
  subT : List (Nat × Nat)
  exT : List Nat
  ed : List (Nat × ED)
def nil0 : Str := ⟨#[]⟩
def Tabs.P (t : Tabs) : Pg where
  defs := t.df
  glob := t.gl
  con := t.con
  cok := fun c k => decide ((c, k) ∈ t.cokT)
  fok := fun c f => decide ((c, f) ∈ t.fokT)
  mth := fun c m => t.mthT.lookup (c, m)
  sub := fun c k => decide ((c, k) ∈ t.subT)
  exk := fun c => decide (c ∈ t.exT)
def Tabs.C (t : Tabs) (K : PySem.W.Frag) (c : Nat) : Addr := He.ga K (t.cn.getD c nil0)
def Tabs.T (t : Tabs) (K : PySem.W.Frag) : Wd := ⟨K, t.C K, fldOf t.tb.flds, fun c => t.xf.getD c nil0⟩
/-! without a heap -/
def frees : List Str := ["isinstance", "range", "enumerate", "super", "ValueError", "int", "bool", "str", "dict", "list", "tuple", "len", "abs", "sorted", "all", "max", "min"].map Str.ofString
def Tabs.sDef (t : Tabs) : Bool := decide (t.df.length = t.dd.length) && (t.df.zip t.dd).all fun p => ddB t.tb p.2 p.1
def Tabs.sAt (t : Tabs) (j : Nat) (at_ : Str × Option Str) : Bool := match t.dd[j]? with
  | some q => decide (q.d.at_ = at_) && plB q.d.params q.ps
  | none => false
def Tabs.sMk (t : Tabs) (j : Nat) (x : Str) : Bool := match t.dd[j]? with
  | some q => decide (q.d.at_ = (x, some ("__init__" : Str)))
  | none => false
def Tabs.nmB (t : Tabs) (c : Nat) (x : Str) : Bool := decide (t.cn[c]? = some x)
def Tabs.sMth (t : Tabs) (p : (Nat × Nat) × Nat) : Bool := match t.tb.mts[p.1.2]?, t.cn[p.1.1]? with
  | some mn, some x => t.sAt p.2 (x, some mn)
  | _, _ => false
def D.dv : D → Option He.Dv
  | .non => some .non
  | .bl b => some (.bl b)
  | .int i => some (.int i)
  | .str x => some (.str x)
  | _ => none
def D.dvs : List D → Option (List He.Dv)
  | [] => some []
  | d :: ds => match d.dv, D.dvs ds with
    | some v, some vs => some (v :: vs)
    | _, _ => none
def Tabs.sGl (t : Tabs) (k : Nat) : Bool := match t.gl[k]? with
  | some (.tup ds) => (D.dvs ds).isSome
  | some d => d.flat.isSome
  | none => false
def Tabs.sEx (t : Tabs) (Pr : Program) (x : Str) (ci : Nat) : Bool := t.nmB ci x && (match t.ed.lookup ci with
  | some e => decide (e.x = x) && edS Pr e && decide (t.xf[ci]? = some e.f)
  | none => false)
def Tabs.st (t : Tabs) (Pr : Program) : Bool := t.sDef && (t.tb.fns.all fun p => t.sAt p.2 (p.1, none)) && (t.tb.mks.all fun p => t.sMk p.2.2.1 p.1 && t.nmB p.2.1 p.1) && (t.tb.cls.all fun p => t.nmB p.2 p.1) && decide t.tb.flds.Nodup && (t.tb.flds.all fun f => !wild f) &&
  (t.tb.mts.all fun mn => !wild mn && !decide (mn ∈ t.tb.flds)) && (t.tb.cns.all fun mn => !wild mn && !decide (mn ∈ t.tb.flds)) && decide (t.tb.cns.length = t.con.length) && t.mthT.all t.sMth && (t.tb.glb.all fun p => t.sGl p.2) &&
  (t.tb.exs.all fun p => t.sEx Pr p.1 p.2) && (t.tb.ecl.all fun p => t.nmB p.2 p.1) && (t.tb.xfd.all fun p => t.exT.all fun ci => !decide ((ci, p.1) ∈ t.subT) || decide (t.xf[ci]? = some p.2))
/-! of a part of the heap -/
def gloB (K : PySem.W.Frag) (x : Str) : Bool := decide (PySem.W.nsIn K mainGlobals x = some (some (.ref (He.ga K x))))
def Tabs.kGl (t : Tabs) (K : PySem.W.Frag) (x : Str) (k : Nat) : Bool := match t.gl[k]? with
  | some (.tup ds) => (match D.dvs ds with
    | some vs => gloB K x && He.tupB K x vs
    | none => false)
  | some d => (match d.flat, PySem.W.nsIn K mainGlobals x with
    | some v, some (some u) => He.relB v u
    | _, _ => false)
  | none => false
def Tabs.kMth (t : Tabs) (K : PySem.W.Frag) (p : (Nat × Nat) × Nat) : Bool := match t.tb.mts[p.1.2]? with
  | some mn => clsB K (t.C K p.1.1) && methB K (t.C K p.1.1) mn (He.ma K (t.C K p.1.1) mn)
  | none => false
def Tabs.kCon (t : Tabs) (K : PySem.W.Frag) (p : Nat × Nat) : Bool := match t.tb.cns[p.2]?, t.con[p.2]? with
  | some n, some i => clsB K (t.C K p.1) && conB K (t.C K p.1) n i
  | _, _ => false
def Tabs.kEx (t : Tabs) (K : PySem.W.Frag) (file : Str) (x : Str) (ci : Nat) : Bool := gloB K x && exiB K (t.C K ci) (t.xf.getD ci nil0) && decide (PySem.W.findIn K (.ref (He.ga K x)) "__init__" = some (some (.ref (He.ma K (He.ga K x) "__init__")))) && decide (PySem.W.typeIn K (.ref (He.ma K (He.ga K x) "__init__")) = some (.type "function")) && (match t.ed.lookup ci with
  | some e => edB K file e
  | none => false)
def Tabs.kEcl (t : Tabs) (K : PySem.W.Frag) (x : Str) (m : Nat) : Bool := gloB K x && t.exT.all fun ci => decide (PySem.W.exmOne K (.ref (t.C K ci)) (.ref (t.C K m)) = some (decide ((ci, m) ∈ t.subT))) && decide (PySem.W.kitOne K (.ref (t.C K ci)) (.ref (t.C K m)) = some (decide ((ci, m) ∈ t.subT)))
def Tabs.kn (t : Tabs) (file : Str) (K : PySem.W.Frag) : Bool := (t.dd.all fun q => q.d.ok K) && (t.tb.fns.all fun p => gloB K p.1) && (t.tb.mks.all fun p => gloB K p.1 && mkB K (He.ga K p.1) (He.ma K (He.ga K p.1) "__init__")) && (t.tb.cls.all fun p => gloB K p.1 && isoB K (t.C K p.2)) && (t.tb.glb.all fun p => t.kGl K p.1 p.2) &&
  (t.fokT.all fun p => clsB K (t.C K p.1) && decide (PySem.W.findIn K (.ref (t.C K p.1)) (fldOf t.tb.flds p.2) = some none)) && t.mthT.all (t.kMth K) && t.cokT.all (t.kCon K) && (frees.all fun x => decide (PySem.W.nsIn K mainGlobals x = some none)) && (t.tb.exs.all fun p => t.kEx K file p.1 p.2) && (t.tb.ecl.all fun p => t.kEcl K p.1 p.2) &&
  (t.exT.all fun ci => excB K (t.C K ci) && decide (PySem.W.kitOne K (.ref (t.C K ci)) (.type "ValueError") = some true)) && (t.tb.xfd.all fun p => t.exT.all fun ci => !decide ((ci, p.1) ∈ t.subT) || decide (PySem.W.findIn K (.ref (t.C K ci)) p.2 = some none))
abbrev AlM : Type := Bool × List He.FnW × List FnE
def Tabs.obs (t : Tabs) (file : Str) (K : PySem.W.Frag) : AlM := (t.kn file K, t.dd.map (fun q => He.fnW K q.d.at_), t.ed.map fun e => fnE K e.2.x)
def Tabs.val (t : Tabs) : AlM := (true, t.dd.map (fun q => q.d.val), t.ed.map fun e => e.2.val)
end Fm
end

section
set_option Elab.async false
set_option linter.all false
set_option maxRecDepth 10000
set_option autoImplicit false
set_option maxHeartbeats 1000000
namespace Fm
open PySem L2
/-! all facts of a module stand -/
section
variable {t : Tabs} {Pr : Program} {K : PySem.W.Frag} {mg : Str → Option Value} {h : Heap}
theorem Tabs.at_C {c : Nat} {x : Str} (e : t.nmB c x = true) : t.C K c = He.ga K x := by
  have e' : t.cn[c]? = some x := of_decide_eq_true e
  show He.ga K (t.cn.getD c nil0) = _
  rw [List.getD_eq_getElem?_getD, e']
  rfl
theorem glo_mg (X : K.In h) (G : h.Ns mainGlobals mg) {x : Str} (e : gloB K x = true) : mg x = some (.ref (He.ga K x)) := PySem.W.mg_of X G (of_decide_eq_true e)
theorem flat_rep {T : Wd} {d : D} {v : V} (e : d.flat = some v) : ∀ F, Rep T F d v := by
  intro F
  cases d <;> first | (cases e; rfl) | cases e
theorem not_fld {fl : List Str} {mn : Str} (hw : wild mn = false) (hm : mn ∉ fl) : ∀ a, fldOf fl a ≠ mn := by
  intro a e
  unfold fldOf at e
  split at e
  · rename_i f ha
    exact hm (e ▸ List.mem_of_getElem? ha)
  · rw [← e] at hw
    cases hw
def KbOk (t : Tabs) : Prop := ∀ x c j n ks, (x, c, j, n, ks) ∈ t.tb.mks → ∀ q, t.dd[j]? = some q → ∀ (kV doc pm cdv ct : Value) (an : Option Addr) (us ws : List Value), us.length = n + 1 → ws.length = ks.length →
  bindArgs (PySem.W.fnOf q.d.name q.d.qual q.d.params q.d.body q.d.scope .none kV doc pm an cdv ct) ⟨us, ks.zip ws⟩ = pure (q.ps.zip (us ++ ws))
theorem map_at {α β : Type} {f g : α → β} {l : List α} (e : l.map f = l.map g) {j : Nat} {a : α} (h : l[j]? = some a) : f a = g a := by
  have e2 : (l.map f)[j]? = (l.map g)[j]? := by rw [e]
  rw [List.getElem?_map, List.getElem?_map, h] at e2
  exact Option.some.inj e2
theorem dvs_rep {T : Wd} {F : Hp} : ∀ {ds : List D} {vs : List He.Dv}, D.dvs ds = some vs → Reps T F ds (vs.map (He.Dv.v K))
  | [], vs, e => by
    rw [← Option.some.inj e]
    exact rfl
  | d :: ds, vs, e => by
    unfold D.dvs at e
    cases h1 : d.dv with
    | none => rw [h1] at e; cases e
    | some v =>
      cases h2 : D.dvs ds with
      | none => rw [h1, h2] at e; cases e
      | some ws =>
        rw [h1, h2] at e
        rw [← Option.some.inj e]
        refine ⟨_, _, rfl, ?_, dvs_rep h2⟩
        cases d <;> first | (cases h1; rfl) | cases h1
theorem Tabs.kGl_ok (t : Tabs) (X : K.In h) (G : h.Ns mainGlobals mg) {x : Str} {k : Nat} (b1 : t.kGl K x k = true) : ∃ d v u, t.P.glob[k]? = some d ∧ mg x = some u ∧ RelV v u ∧ ∀ F, Rep (t.T K) F d v := by
  unfold Tabs.kGl at b1
  split at b1
  · rename_i ds hd
    split at b1
    · rename_i vs hv
      obtain ⟨c1, c2⟩ := and2 b1
      exact ⟨_, .ref (He.ga K x), _, hd, glo_mg X G c1, rfl, fun F => ⟨_, _, rfl, He.tupB_ok c2 F, dvs_rep hv⟩⟩
    · cases b1
  · rename_i d _ hd
    split at b1
    · rename_i v u hv hu
      exact ⟨d, v, u, hd, PySem.W.mg_of X G hu, He.relB_ok b1, flat_rep hv⟩
    · cases b1
  · cases b1
theorem lookup_mem {α β : Type} [BEq α] [LawfulBEq α] : ∀ {l : List (α × β)} {a : α} {b : β}, l.lookup a = some b → (a, b) ∈ l
  | [], _, _, h => by cases h
  | (x, y) :: l, a, b, h => by
    rw [List.lookup_cons] at h
    cases e : (a == x) with
    | true =>
      rw [e] at h
      rw [eq_of_beq e, ← Option.some.inj h]
      exact List.mem_cons_self
    | false =>
      rw [e] at h
      exact List.mem_cons_of_mem _ (lookup_mem h)
theorem md_of (hs : t.st Pr = true) (ho : t.obs Pr.main.file K = t.val) (hkb : KbOk t) (X : K.In h) (G : h.Ns mainGlobals mg) : Md (t.T K) t.P t.tb Pr K mg := by
  have hk : t.kn Pr.main.file K = true := congrArg (fun z : AlM => z.1) ho
  have hf : t.dd.map (fun q => He.fnW K q.d.at_) = t.dd.map (fun q => q.d.val) := congrArg (fun z : AlM => z.2.1) ho
  have hE : t.ed.map (fun e => fnE K e.2.x) = t.ed.map fun e => e.2.val := congrArg (fun z : AlM => z.2.2) ho
  unfold Tabs.st at hs
  obtain ⟨hs, s14⟩ := and2 hs
  obtain ⟨hs, s13⟩ := and2 hs
  obtain ⟨hs, s12⟩ := and2 hs
  obtain ⟨hs, s11⟩ := and2 hs
  obtain ⟨hs, s10⟩ := and2 hs
  obtain ⟨hs, s9⟩ := and2 hs
  obtain ⟨hs, s8⟩ := and2 hs
  obtain ⟨hs, s7⟩ := and2 hs
  obtain ⟨hs, s6⟩ := and2 hs
  obtain ⟨hs, s5⟩ := and2 hs
  obtain ⟨hs, s4⟩ := and2 hs
  obtain ⟨hs, s3⟩ := and2 hs
  obtain ⟨s1, s2⟩ := and2 hs
  unfold Tabs.kn at hk
  obtain ⟨hk, k13⟩ := and2 hk
  obtain ⟨hk, k12⟩ := and2 hk
  obtain ⟨hk, k11⟩ := and2 hk
  obtain ⟨hk, k10⟩ := and2 hk
  obtain ⟨hk, k9⟩ := and2 hk
  obtain ⟨hk, k8⟩ := and2 hk
  obtain ⟨hk, k7⟩ := and2 hk
  obtain ⟨hk, k6⟩ := and2 hk
  obtain ⟨hk, k5⟩ := and2 hk
  obtain ⟨hk, k4⟩ := and2 hk
  obtain ⟨hk, k3⟩ := and2 hk
  obtain ⟨k1, k2⟩ := and2 hk
  have free : ∀ x ∈ frees, mg x = none := fun x hx => PySem.W.mg_none_of X G (of_decide_eq_true (List.all_eq_true.mp k9 x hx))
  have ff : ∀ {j : Nat} {q : DD}, t.dd[j]? = some q → ∃ fd, FF t.P t.tb K j (He.fAd K q.d.at_) fd q.ps ∧ FunD K q.d.name q.d.qual q.d.params q.d.body q.d.scope [] [] (He.fAd K q.d.at_) fd := by
    intro j q hq
    unfold Tabs.sDef at s1
    obtain ⟨z1, z2⟩ := and2 s1
    have hl := of_decide_eq_true z1
    have hj : j < t.df.length := by rw [hl]; exact (List.getElem?_eq_some_iff.mp hq).1
    have hd : t.df[j]? = some t.df[j] := List.getElem?_eq_getElem hj
    have hz : (t.df.zip t.dd)[j]? = some (t.df[j], q) := by rw [List.getElem?_zip_eq_some]; exact ⟨hd, hq⟩
    exact dd_ok (P := t.P) hd (List.all_eq_true.mp z2 _ (List.mem_of_getElem? hz)) (map_at hf hq) (List.all_eq_true.mp k1 _ (List.mem_of_getElem? hq))
  have fa : ∀ {j : Nat} {a : Str × Option Str}, t.sAt j a = true → ∃ fd ps, FF t.P t.tb K j (He.fAd K a) fd ps ∧ PySem.W.keepIn K (.ref (He.fAd K a)) = true ∧ Binds K fd ps [] := by
    intro j a ha
    unfold Tabs.sAt at ha
    split at ha
    · rename_i q hq
      obtain ⟨z1, z2⟩ := and2 ha
      have e := of_decide_eq_true z1
      obtain ⟨fd, z3, z4⟩ := ff hq
      rw [e] at z3 z4
      exact ⟨fd, q.ps, z3, z4.kp, FunD.bindsN z4 fun kV doc pm an cdv ct us hl => plB_ok z2 us hl⟩
    · cases ha
  refine ⟨rfl, fun x j hm => ?_, fun x c j n ks hm => ?_, fun x m hm => ?_, fun x k hm => ?_, fun i f hi => ?_, ?_, fun c f hcf => ?_, fun m mn hm => ?_, fun k n hk => ?_, fun f => ?_, fun f => ?_, free _ (by decide), free _ (by decide), free _ (by decide), fun n hn => ?_, fun x ci hm => ?_, free _ (by decide), fun x m hm => ?_, fun ci hci => ?_, fun m f hm ci hci hsub => ?_, free _ (by decide)⟩
  · obtain ⟨fd, ps, z1, z2, z3⟩ := fa (List.all_eq_true.mp s2 (x, j) hm)
    exact ⟨He.ga K x, fd, ps, glo_mg X G (List.all_eq_true.mp k2 (x, j) hm), z2, z1, z3⟩
  · obtain ⟨a1, a2⟩ := and2 (List.all_eq_true.mp s3 (x, c, j, n, ks) hm)
    obtain ⟨b1, b2⟩ := and2 (List.all_eq_true.mp k3 (x, c, j, n, ks) hm)
    have eC : t.C K c = He.ga K x := Tabs.at_C a2
    unfold Tabs.sMk at a1
    split at a1
    · rename_i q hq
      have e : q.d.at_ = (x, some ("__init__" : Str)) := of_decide_eq_true a1
      obtain ⟨fd, z3, z4⟩ := ff hq
      rw [e] at z3 z4
      obtain ⟨oc, od, dV, kV, doc, pm, an, cdv, ct, osl, rfl, lk, hcd, hD, hK⟩ := z4.ex
      rcases hD with ⟨_, rfl⟩ | ⟨h0, _⟩
      · refine ⟨He.ma K (He.ga K x) "__init__", _, q.ps, fun us ws => us ++ ws, ?_, ?_, z3, ⟨fun s us ws _ l1 l2 => .of_eq (hkb x c j n ks hm q hq kV doc pm cdv ct an us ws l1 l2), fun r1 r2 => r1.append r2⟩⟩
        · show mg x = some (.ref (t.C K c))
          rw [eC]
          exact glo_mg X G b1
        · show Mk K (t.C K c) _
          rw [eC]
          exact mkB_ok b2
      · exact absurd rfl h0
    · cases a1
  · obtain ⟨b1, b2⟩ := and2 (List.all_eq_true.mp k4 (x, m) hm)
    have eC : t.C K m = He.ga K x := Tabs.at_C (List.all_eq_true.mp s4 (x, m) hm)
    refine ⟨?_, isoB_ok b2⟩
    show mg x = some (.ref (t.C K m))
    rw [eC]
    exact glo_mg X G b1
  · exact t.kGl_ok X G (List.all_eq_true.mp k5 (x, k) hm)
  · show fldOf t.tb.flds i = f
    unfold fldOf
    rw [hi]
  · exact fldOf_inj (of_decide_eq_true s5) fun f hf => by simpa using List.all_eq_true.mp s6 f hf
  · obtain ⟨z1, z2⟩ := and2 (List.all_eq_true.mp k6 (c, f) (of_decide_eq_true hcf))
    have z3 : PySem.W.findIn K (.ref (t.C K c)) (fldOf t.tb.flds f) = some none := of_decide_eq_true z2
    exact ⟨clsB_ok z1, z3⟩
  · obtain ⟨w1, w2⟩ := and2 (List.all_eq_true.mp s7 mn (List.mem_of_getElem? hm))
    refine ⟨not_fld (by simpa using w1) (by simpa using w2), fun c j hj => ?_⟩
    have hmem := lookup_mem (show t.mthT.lookup (c, m) = some j from hj)
    have a1 : t.sMth ((c, m), j) = true := List.all_eq_true.mp s10 _ hmem
    have b1 : t.kMth K ((c, m), j) = true := List.all_eq_true.mp k7 _ hmem
    unfold Tabs.sMth at a1
    unfold Tabs.kMth at b1
    dsimp only at a1 b1
    rw [hm] at a1 b1
    dsimp only at a1 b1
    cases hx : t.cn[c]? with
    | none => rw [hx] at a1; cases a1
    | some x =>
      rw [hx] at a1
      have eC : t.C K c = He.ga K x := Tabs.at_C (decide_eq_true hx)
      obtain ⟨fd, ps, z1, z2, z3⟩ := fa a1
      obtain ⟨c1, c2⟩ := and2 b1
      refine ⟨He.fAd K (x, some mn), fd, ps, z1, z3, clsB_ok c1, ?_⟩
      have := methB_ok c2
      rw [eC] at this
      show Meth K (t.C K c) mn _
      rw [eC]
      exact this
  · obtain ⟨w1, w2⟩ := and2 (List.all_eq_true.mp s8 n (List.mem_of_getElem? hk))
    refine ⟨not_fld (by simpa using w1) (by simpa using w2), ?_⟩
    have hlen : t.tb.cns.length = t.con.length := of_decide_eq_true s9
    have hlt : k < t.con.length := hlen ▸ (List.getElem?_eq_some_iff.mp hk).1
    refine ⟨t.con[k], List.getElem?_eq_getElem hlt, fun c hc => ?_⟩
    have b1 : t.kCon K (c, k) = true := List.all_eq_true.mp k8 _ (of_decide_eq_true hc)
    unfold Tabs.kCon at b1
    dsimp only at b1
    rw [hk, List.getElem?_eq_getElem hlt] at b1
    obtain ⟨c1, c2⟩ := and2 b1
    exact ⟨clsB_ok c1, conB_ok c2⟩
  · cases f <;> exact free _ (by decide)
  · cases f <;> exact free _ (by decide)
  · simp only [List.mem_cons, List.not_mem_nil, or_false] at hn
    rcases hn with rfl | rfl | rfl | rfl | rfl | rfl <;> exact free _ (by decide)
  · have a1 : t.sEx Pr x ci = true := List.all_eq_true.mp s12 _ hm
    have b1 : t.kEx K Pr.main.file x ci = true := List.all_eq_true.mp k10 _ hm
    unfold Tabs.sEx at a1
    unfold Tabs.kEx at b1
    obtain ⟨a1, a2⟩ := and2 a1
    obtain ⟨b1, b5⟩ := and2 b1
    obtain ⟨b1, b4⟩ := and2 b1
    obtain ⟨b1, b3⟩ := and2 b1
    obtain ⟨b1, b2⟩ := and2 b1
    have eC : t.C K ci = He.ga K x := Tabs.at_C a1
    cases hl : t.ed.lookup ci with
    | none => rw [hl] at a2; cases a2
    | some e =>
      rw [hl] at a2 b5
      dsimp only at a2 b5
      obtain ⟨a2, a4⟩ := and2 a2
      obtain ⟨a2, a3⟩ := and2 a2
      have ex : e.x = x := of_decide_eq_true a2
      have ef : t.xf.getD ci nil0 = e.f := by rw [List.getD_eq_getElem?_getD, of_decide_eq_true a4]; rfl
      have hfe : fnE K e.x = e.val := List.map_inj_left.mp hE (ci, e) (lookup_mem hl)
      obtain ⟨fd, cc, cda, z1, z2⟩ := ed_ok a3 hfe b5
      rw [ex] at z1
      refine ⟨?_, ?_, ?_⟩
      · show mg x = some (.ref (t.C K ci))
        rw [eC]
        exact glo_mg X G b1
      · exact exiB_ok b2
      · refine ⟨He.ma K (He.ga K x) "__init__", fd, e.sx, e.nx, cc, cda, ?_, of_decide_eq_true b4, ?_, z2⟩
        · show PySem.W.findIn K (.ref (t.C K ci)) "__init__" = _
          rw [eC]
          exact of_decide_eq_true b3
        · show InitD Pr K _ (t.C K ci) cc cda fd e.sx e.nx (t.xf.getD ci nil0)
          rw [eC, ef]
          exact z1
  · have eC : t.C K m = He.ga K x := Tabs.at_C (List.all_eq_true.mp s13 (x, m) hm)
    have b1 : t.kEcl K x m = true := List.all_eq_true.mp k11 _ hm
    unfold Tabs.kEcl at b1
    obtain ⟨b1, b2⟩ := and2 b1
    refine ⟨?_, fun ci hci => ?_⟩
    · show mg x = some (.ref (t.C K m))
      rw [eC]
      exact glo_mg X G b1
    · obtain ⟨c1, c2⟩ := and2 (List.all_eq_true.mp b2 ci (of_decide_eq_true hci))
      exact ⟨of_decide_eq_true c1, of_decide_eq_true c2⟩
  · obtain ⟨c1, c2⟩ := and2 (List.all_eq_true.mp k12 ci (of_decide_eq_true hci))
    exact ⟨(excB_ok c1).1, of_decide_eq_true c2⟩
  · have a1 := List.all_eq_true.mp (List.all_eq_true.mp s14 (m, f) hm) ci (of_decide_eq_true hci)
    have b1 := List.all_eq_true.mp (List.all_eq_true.mp k13 (m, f) hm) ci (of_decide_eq_true hci)
    have hs : ((ci, m) ∈ t.subT) := of_decide_eq_true hsub
    have a2 : t.xf[ci]? = some f := by simpa [hs] using a1
    have b2 : PySem.W.findIn K (.ref (t.C K ci)) f = some none := by simpa [hs] using b1
    refine ⟨?_, (excB_ok (and2 (List.all_eq_true.mp k12 ci (of_decide_eq_true hci))).1).2, b2⟩
    show t.xf.getD ci nil0 = f
    rw [List.getD_eq_getElem?_getD, a2]
    rfl
end
end Fm
end

section
set_option Elab.async false
set_option linter.all false
set_option maxRecDepth 10000
set_option autoImplicit false
/-! the head: what the top leaves, by a Hook -/
namespace Fm
open PySem L2
def dvals (g : Addr → Option Obj) (a : Addr) : List Addr := match g a with
  | some ⟨_, _, .dict es _, _⟩ => es.toList.flatMap fun e => He.refV e.val
  | _ => []
def frefs (g : Addr → Option Obj) (a : Addr) : List Addr := match g a with
  | some ⟨_, _, .func fd, _⟩ => He.refV fd.code ++ fd.closure.map (·.2)
  | some ⟨_, _, .cls cd, _⟩ => [cd.ns]
  | _ => []
def asM2 (g : Addr → Option Obj) (g1 c1 m1 : List Addr) : List Addr := [mainGlobals, cStatics] ++ g1 ++ c1 ++ m1 ++ m1.flatMap (frefs g)
def asM1 (g : Addr → Option Obj) (g1 c1 : List Addr) : List Addr := asM2 g g1 c1 (c1.flatMap (dvals g))
def asM0 (g : Addr → Option Obj) (g1 : List Addr) : List Addr := asM1 g g1 (g1.flatMap (frefs g))
def asM (g : Addr → Option Obj) : List Addr := asM0 g (dvals g mainGlobals)
def obM (t : Tabs) (file : Str) (g : Addr → Option Obj) : AlM := t.obs file (He.frG g (asM g))
def hookM (t : Tabs) (file : Str) : PySem.W.Hook where
  α := AlM
  obs := fun s => obM t file s.heap.get?
  val := fun _ => t.val
  says := fun _ h => ∃ K : PySem.W.Frag, K.In h ∧ t.obs file K = t.val
  of := fun _ _ e => ⟨_, He.frG_in, e⟩
  keeps := fun _ _ _ ⟨K, hK, c⟩ k => ⟨K, PySem.W.Frag.In.keeps hK k, c⟩
theorem obM_eq {t : Tabs} {file : Str} {g : Addr → Option Obj} {s : Shared} (h : ∀ a, g a = s.heap.get? a) : obM t file g = (hookM t file).obs s := by
  have e : g = s.heap.get? := funext h
  rw [e] <;> rfl
end Fm
end

section
set_option Elab.async false
set_option linter.all false
set_option maxRecDepth 10000
set_option autoImplicit false
set_option maxHeartbeats 1000000
/-! the end: a law from what its def gives by values -/
namespace Fm
open PySem L2
theorem cx_no {P : Program} {w : World} {H : Hp} {s s' : Shared} {u : Value} (h : L2.CX P w [] H s (fun _ _ _ => False) u s') : False := by
  obtain ⟨_, _, _, _, _, _, _, _, _, _, _, _, h⟩ := h
  exact h
theorem rel_scr {T : Wd} {H : Hp} {a : Addr} {ns : List Int} (h : SqL T.K H a (ns.map V.int)) : Rel T ⟨H, H, [], []⟩ [(.val (.scr ns), .ref a)] H H :=
  ⟨⟨.refl H, .refl H, fun b u e => .inl (by intro z; rw [show H b = none from z] at e; cases e), fun b u e _ => .inl e, fun b h => h⟩, fun p hp => by
    rcases List.mem_singleton.mp hp with rfl
    exact ⟨a, rfl, h⟩, .nil⟩
theorem ff_of {t : Tabs} {Pr : Program} {K : PySem.W.Frag} (hs : t.st Pr = true) (ho : t.obs Pr.main.file K = t.val) {j : Nat} {x : Str} (ha : t.sAt j (x, none) = true) :
    ∃ fd ps, FF t.P t.tb K j (He.ga K x) fd ps ∧ ∀ (s : Shared) (us : List Value), us.length = ps.length → BindsTo s fd ⟨us, []⟩ (ps.zip us) := by
  have hk : t.kn Pr.main.file K = true := congrArg (fun z : AlM => z.1) ho
  have hf : t.dd.map (fun q => He.fnW K q.d.at_) = t.dd.map (fun q => q.d.val) := congrArg (fun z : AlM => z.2.1) ho
  have s1 : t.sDef = true := by
    unfold Tabs.st at hs
    simp only [Bool.and_eq_true] at hs
    simp only [hs]
  have k1 : (t.dd.all fun q => q.d.ok K) = true := by
    unfold Tabs.kn at hk
    rw [Bool.and_eq_true, Bool.and_eq_true, Bool.and_eq_true, Bool.and_eq_true, Bool.and_eq_true, Bool.and_eq_true, Bool.and_eq_true, Bool.and_eq_true, Bool.and_eq_true, Bool.and_eq_true, Bool.and_eq_true, Bool.and_eq_true] at hk
    exact hk.1.1.1.1.1.1.1.1.1.1.1.1
  unfold Tabs.sAt at ha
  split at ha
  · rename_i q hq
    obtain ⟨z1, z2⟩ := and2 ha
    have e := of_decide_eq_true z1
    unfold Tabs.sDef at s1
    obtain ⟨y1, y2⟩ := and2 s1
    have hj : j < t.df.length := by rw [of_decide_eq_true y1]; exact (List.getElem?_eq_some_iff.mp hq).1
    have hd : t.df[j]? = some t.df[j] := List.getElem?_eq_getElem hj
    have hz : (t.df.zip t.dd)[j]? = some (t.df[j], q) := by rw [List.getElem?_zip_eq_some]; exact ⟨hd, hq⟩
    obtain ⟨fd, z3, z4⟩ := dd_ok (P := t.P) hd (List.all_eq_true.mp y2 _ (List.mem_of_getElem? hz)) (map_at hf hq) (List.all_eq_true.mp k1 _ (List.mem_of_getElem? hq))
    rw [e] at z3 z4
    exact ⟨fd, q.ps, z3, fun s us hl => FunD.bindsA z4 (fun kV doc pm an cdv ct us hl => plB_ok z2 us hl) s us hl⟩
  · cases ha
theorem law_end {l : PySem.W.OpenLaw} {q : Program} {loose : List Str} {XP : (Str → Option Value) → Heap → Prop} {d : DefRec} {t : Tabs} {j n : Nat} {f : Def} (hn : l.most = some 63) (hdf : d.params.defaults = []) (hst : t.st l.prog = true) (hkb : KbOk t)
    (hx : t.sAt j (d.name, none) = true) (hx2 : (d.name, j) ∈ t.tb.fns) (hj : t.P.defs[j]? = some f) (hf : f.np = 1) (hr : Room (2 * n + 1) callerA)
    (hlaw : ∀ ns : List Int, ns.length ≤ 63 → ∃ ss, callN t.P n j [.val (.scr ns)] = .ok (.val (.bl true), ss)) : PySem.W.WalkO q loose XP (hookM t l.prog.main.file).says l.row.toRowW d [] (fun f vs => PySem.call f vs) := by
  refine Att.attach_call hn hdf ?_
  intro w s₀ s₁ mg mb fa o pm cd doc a vs ns G Y ho hd hcd hmg hobj hints hlen hgens
  obtain ⟨K, KX, hob⟩ := Y
  have md := md_of hst hob hkb KX G.T.g
  obtain ⟨fd, ps, e3, hb0⟩ := ff_of hst hob hx
  obtain ⟨fb, _, _, e1, _, _, _⟩ := md.fn d.name j hx2
  have efa : He.ga K d.name = fa := by
    obtain ⟨fb, _, _, e1, e2, e4, _⟩ := md.fn d.name j hx2
    have kg : mg d.name = some (.ref (He.ga K d.name)) := by
      have hk : t.kn l.prog.main.file K = true := congrArg (fun z : AlM => z.1) hob
      unfold Tabs.kn at hk
      rw [Bool.and_eq_true, Bool.and_eq_true, Bool.and_eq_true, Bool.and_eq_true, Bool.and_eq_true, Bool.and_eq_true, Bool.and_eq_true, Bool.and_eq_true, Bool.and_eq_true, Bool.and_eq_true, Bool.and_eq_true, Bool.and_eq_true] at hk
      exact glo_mg KX G.T.g (List.all_eq_true.mp hk.1.1.1.1.1.1.1.1.1.1.1.2 (d.name, j) hx2)
    simpa using kg.symm.trans hmg
  rw [efa] at e3
  have hps : ∃ x, ps = [x] := by
    obtain ⟨x, qual, params, body, scope, dvs, kws, N, f', z1, z2, z3, z4, _⟩ := e3
    have z5 := Option.some.inj (z1.symm.trans hj)
    subst z5
    rw [hf] at z4
    match ps, z4 with
    | [x], _ => exact ⟨x, rfl⟩
  obtain ⟨x, rfl⟩ := hps
  have hF : ∀ base : Heap, K.In base → base.Ns mainGlobals mg → FnOk l.prog w K mg base (L2.CX l.prog w) (2 * n + 1) fa fd [x] (spOf (t.T K) (callN t.P n) j) := fun base _ _ => Md.all md n j fa fd [x] e3
  have hb : ∀ (s : Shared) (u : Value), BindsTo s fd ⟨[u], []⟩ [(x, u)] := fun s u => hb0 s [u] rfl
  exact law_call KX G.T.g G.T.b G.T.builtins G.T.nolimit hgens hobj hints (Nat.le_trans hlen (by decide)) hr hF hb (fun H hO hS => by
    obtain ⟨ss, hc⟩ := hlaw ns hlen
    refine ⟨H, [.val (.scr ns)], rfl, rel_scr hS, ?_⟩
    rw [hc]
    intro v F' H' hrel
    exact hrel.each _ List.mem_cons_self) fun H e s' h => cx_no h
end Fm
end

section
set_option Elab.async false
set_option linter.all false
set_option maxRecDepth 10000
set_option autoImplicit false
set_option maxHeartbeats 1000000
/-! What an evaluation gives: a calculus by continuations. -/
namespace Fm
open PySem L2

abbrev XE := Nat → List D → Env → Prop
/-- what is wanted of an outcome -/
class Kt (α : Type) where
  q : α → Prop
  e : XE
def NoE : XE := fun _ _ _ => False
/-- what simp shall not look into -/
class Hid where
  p : Prop
@[reducible] def Hide [b : Hid] : Prop := b.p
def R.wp {α : Type} (r : R α) [k : Kt α] : Prop := match r with
  | .ok a => k.q a
  | .exc c x e => k.e c x e
  | .stuck => False
section
variable {α β γ : Type}
@[simp ↓] theorem wp_ok (a : α) {k : Kt α} : @R.wp α (.ok a) k = k.q a := (rfl)
@[simp ↓] theorem wp_exc (c : Nat) (x : List D) (e : Env) {k : Kt α} : @R.wp α (.exc c x e) k = k.e c x e := (rfl)
@[simp ↓] theorem wp_stuck {k : Kt α} : @R.wp α .stuck k = False := (rfl)
theorem wp_mono {r : R α} {k k' : Kt α} (h : @R.wp α r k) (hq : ∀ a, k.q a → k'.q a) (he : ∀ c x e, k.e c x e → k'.e c x e) : @R.wp α r k' := by
  cases r with
  | ok a => exact hq _ h
  | exc c x e => exact he _ _ _ h
  | stuck => exact h
theorem wp_no {r : R α} {Q : α → Prop} {k' : Kt α} (h : @R.wp α r ⟨fun a => @Hide ⟨Q a⟩, NoE⟩) (hq : ∀ a, Q a → k'.q a) : @R.wp α r k' := wp_mono h hq fun _ _ _ h => h.elim
theorem wp_eq {r : R α} {a : α} {k : Kt α} (h : r = .ok a) (hq : k.q a) : @R.wp α r k := by rw [h]; exact hq
theorem wp_eqx {r : R α} {c : Nat} {x : List D} {e : Env} {k : Kt α} (h : r = .exc c x e) (hq : k.e c x e) : @R.wp α r k := by rw [h]; exact hq
theorem eq_of_wp {r : R α} {a : α} (h : @R.wp α r ⟨fun b => b = a, NoE⟩) : r = .ok a := by
  cases r with
  | ok b => exact congrArg R.ok h
  | exc c x e => exact h.elim
  | stuck => exact h.elim
@[simp ↓] theorem bind_wp (r : R α) (f : α → R β) {k : Kt β} : @R.wp β (r.bind f) k = @R.wp α r ⟨fun a => @R.wp β (f a) k, k.e⟩ := by cases r <;> rfl
@[simp ↓] theorem thn_wp (r : R (α × β)) (f : α → β → R γ) {k : Kt γ} : @R.wp γ (r.thn f) k = @R.wp _ r ⟨fun p => @R.wp γ (f p.1 p.2) k, k.e⟩ := by cases r <;> rfl
@[simp ↓] theorem of_some (a : α) {k : Kt α} : @R.wp α (R.of (some a)) k = k.q a := (rfl)
@[simp ↓] theorem of_none {k : Kt α} : @R.wp α (R.of none) k = False := (rfl)
theorem of_wp {o : Option α} {a : α} {k : Kt α} (h : o = some a) (hq : k.q a) : @R.wp α (R.of o) k := by rw [h]; exact hq
theorem ite_wp {c : Prop} [Decidable c] {r s : R α} {k : Kt α} (h1 : c → @R.wp α r k) (h2 : ¬c → @R.wp α s k) : @R.wp α (if c then r else s) k := by
  by_cases h : c
  · rw [if_pos h]; exact h1 h
  · rw [if_neg h]; exact h2 h
end
/-- a comprehension -/
def lcE (vs : List Nat) (f : D → Env → R (Option D × Env)) (xs : List D) (env1 : Env) : R (Opd × Env) := (turns vs f xs env1 []).thn fun ds env2 => .ok (.tmp (.own (.lst ds)), unwipe env1 env2 vs)
def dcE (vs : List Nat) (f : D → Env → R ((Key × D) × Env)) (xs : List D) (env1 : Env) : R (Opd × Env) := (dturns vs f xs env1 [] []).thn fun kw env2 => .ok (.tmp (.own (.dk kw.1 kw.2)), unwipe env1 env2 vs)
def kseq (Q : Fl × Env → Prop) (N : Env → Prop) (p : Fl × Env) : Prop := match p.1 with
  | .nx => N p.2
  | _ => Q p
@[simp ↓] theorem kseq_nx (Q : Fl × Env → Prop) (N : Env → Prop) (e : Env) : kseq Q N (.nx, e) = N e := (rfl)
@[simp ↓] theorem kseq_bk (Q : Fl × Env → Prop) (N : Env → Prop) (e : Env) : kseq Q N (.bk, e) = Q (.bk, e) := (rfl)
@[simp ↓] theorem kseq_ct (Q : Fl × Env → Prop) (N : Env → Prop) (e : Env) : kseq Q N (.ct, e) = Q (.ct, e) := (rfl)
@[simp ↓] theorem kseq_rt (Q : Fl × Env → Prop) (N : Env → Prop) (s : Slot) (e : Env) : kseq Q N (.rt s, e) = Q (.rt s, e) := (rfl)
section
variable {P : Pg} {cl : Cl} {pr : List Nat} {env : Env}
@[simp ↓] theorem wp_nm (i : Nat) {k : Kt (Opd × Env)} : @R.wp _ (ev P cl (.nm i) env) k = @R.wp _ (match env.getD i .emp with
    | .emp => .stuck
    | _ => .ok (.pk i, env)) k := by rw [ev] <;> rfl
@[simp ↓] theorem wp_cn (c : Cn) {k : Kt (Opd × Env)} : @R.wp _ (ev P cl (.cn c) env) k = @R.wp _ (.ok (.tmp (.val c.d), env)) k := by rw [ev] <;> rfl
@[simp ↓] theorem wp_gl (i : Nat) {k : Kt (Opd × Env)} : @R.wp _ (ev P cl (.gl i) env) k = @R.wp _ (match P.glob[i]? with
    | some d => .ok (.tmp (.val d), env)
    | none => .stuck) k := by rw [ev] <;> rfl
@[simp ↓] theorem wp_bin (o : BOp) (a b : IE) {k : Kt (Opd × Env)} : @R.wp _ (ev P cl (.bin o a b) env) k = @R.wp _ ((ev P cl a env).thn fun x env1 => (ev P cl b env1).thn fun y env2 => match x.data env2, y.data env2 with
    | some dx, some dy => (R.of (binD o dx dy x y)).bind fun r => .ok (r, env2)
    | _, _ => .stuck) k := by rw [ev] <;> rfl
@[simp ↓] theorem wp_cmp (o : COp) (a b : IE) {k : Kt (Opd × Env)} : @R.wp _ (ev P cl (.cmp o a b) env) k = @R.wp _ ((ev P cl a env).thn fun x env1 => (ev P cl b env1).thn fun y env2 => match x.data env2, y.data env2 with
    | some dx, some dy => (R.of (cmpD o dx dy)).bind fun r => .ok (.tmp (.val (.bl r)), env2)
    | _, _ => .stuck) k := by rw [ev] <;> rfl
@[simp ↓] theorem wp_ch (o p : COp) (a b c : IE) {k : Kt (Opd × Env)} : @R.wp _ (ev P cl (.ch o p a b c) env) k = @R.wp _ ((ev P cl a env).thn fun x env1 => (ev P cl b env1).thn fun y env2 => match x.data env2, y.data env2 with
    | some dx, some dy => (R.of (cmpD o dx dy)).bind fun r => if r then (ev P cl c env2).thn fun z env3 => (match y.data env3, z.data env3 with
        | some dy, some dz => (R.of (cmpD p dy dz)).bind fun r => .ok (.tmp (.val (.bl r)), env3)
        | _, _ => .stuck) else .ok (.tmp (.val (.bl false)), env2)
    | _, _ => .stuck) k := by rw [ev] <;> rfl
@[simp ↓] theorem wp_isc (neg : Bool) (c : Cn) (a : IE) {k : Kt (Opd × Env)} : @R.wp _ (ev P cl (.isc neg c a) env) k = @R.wp _ ((ev P cl a env).thn fun x env1 => match x.data env1 with
    | some dx => (R.of (isD c dx)).bind fun r => .ok (.tmp (.val (.bl (if neg then !r else r))), env1)
    | none => .stuck) k := by rw [ev] <;> rfl
@[simp ↓] theorem wp_nt (a : IE) {k : Kt (Opd × Env)} : @R.wp _ (ev P cl (.nt a) env) k = @R.wp _ ((ev P cl a env).thn fun x env1 => (asB x env1).thn fun b env2 => .ok (.tmp (.val (.bl (!b))), env2)) k := by rw [ev] <;> rfl
@[simp ↓] theorem wp_an (es : List IE) {k : Kt (Opd × Env)} : @R.wp _ (ev P cl (.an es) env) k = @R.wp _ ((evAnd P cl es env).thn fun b env1 => .ok (.tmp (.val (.bl b)), env1)) k := by rw [ev] <;> rfl
@[simp ↓] theorem wp_or (es : List IE) {k : Kt (Opd × Env)} : @R.wp _ (ev P cl (.or es) env) k = @R.wp _ ((evOr P cl es env).thn fun b env1 => .ok (.tmp (.val (.bl b)), env1)) k := by rw [ev] <;> rfl
@[simp ↓] theorem wp_ix (a i : IE) {k : Kt (Opd × Env)} : @R.wp _ (ev P cl (.ix a i) env) k = @R.wp _ ((ev P cl a env).thn fun x env1 => (ev P cl i env1).thn fun y env2 => match x.data env2, y.slot env2 with
    | some dx, .own dy => (R.of (ixD dx dy true)).bind fun r => .ok (.tmp (.val r), env2)
    | some dx, .val dy => (R.of (ixD dx dy false)).bind fun r => .ok (.tmp (.val r), env2)
    | _, _ => .stuck) k := by rw [ev] <;> rfl
@[simp ↓] theorem wp_sl (a : IE) (lo hi : List IE) {k : Kt (Opd × Env)} : @R.wp _ (ev P cl (.sl a lo hi) env) k = @R.wp _ ((ev P cl a env).thn fun x env1 => (part (evs P cl lo env1)).thn fun l env2 => (part (evs P cl hi env2)).thn fun h env3 => match x.data env3 with
    | some dx => (R.of (slD dx l h x)).bind fun r => .ok (r, env3)
    | none => .stuck) k := by rw [ev] <;> rfl
@[simp ↓] theorem wp_fd (a : IE) (f : Nat) {k : Kt (Opd × Env)} : @R.wp _ (ev P cl (.fd a f) env) k = @R.wp _ ((ev P cl a env).thn fun x env1 => match x.data env1 with
    | some (.ins c fs vs) => if P.fok c f then (R.of (getK fs vs f)).bind fun r => .ok (.tmp (.val r), env1) else .stuck
    | _ => .stuck) k := by rw [ev] <;> rfl
@[simp ↓] theorem wp_cc (a : IE) (k0 : Nat) {k : Kt (Opd × Env)} : @R.wp _ (ev P cl (.cc a k0) env) k = @R.wp _ ((ev P cl a env).thn fun x env1 => match x.data env1, P.con[k0]? with
    | some (.ins c _ _), some i => if P.cok c k0 then .ok (.tmp (.val (.int i)), env1) else .stuck
    | _, _ => .stuck) k := by rw [ev] <;> rfl
@[simp ↓] theorem wp_b1 (f : B1) (a : IE) {k : Kt (Opd × Env)} : @R.wp _ (ev P cl (.b1 f a) env) k = @R.wp _ ((ev P cl a env).thn fun x env1 => match x.data env1 with
    | some dx => (R.of (b1D f dx x)).bind fun r => .ok (r, env1)
    | none => .stuck) k := by rw [ev] <;> rfl
@[simp ↓] theorem wp_b2 (f : B2) (a b : IE) {k : Kt (Opd × Env)} : @R.wp _ (ev P cl (.b2 f a b) env) k = @R.wp _ ((ev P cl a env).thn fun x env1 => (ev P cl b env1).thn fun y env2 => match x.data env2, y.data env2 with
    | some dx, some dy => (R.of (b2D f dx dy)).bind fun r => .ok (.tmp (.val r), env2)
    | _, _ => .stuck) k := by rw [ev] <;> rfl
@[simp ↓] theorem wp_isi (a : IE) (c : Cls) {k : Kt (Opd × Env)} : @R.wp _ (ev P cl (.isi a c) env) k = @R.wp _ ((ev P cl a env).thn fun x env1 => match x.data env1 with
    | some dx => (R.of (isiD dx c)).bind fun r => .ok (.tmp (.val (.bl r)), env1)
    | none => .stuck) k := by rw [ev] <;> rfl
@[simp ↓] theorem wp_tp (es : List IE) {k : Kt (Opd × Env)} : @R.wp _ (ev P cl (.tp es) env) k = @R.wp _ ((evs P cl es env).thn fun os env1 => (R.of (frzs os env1)).thn fun ds env2 => if ds.length ≤ big then .ok (.tmp (.own (.tup ds)), env2) else .stuck) k := by rw [ev] <;> rfl
@[simp ↓] theorem wp_ls (es : List IE) {k : Kt (Opd × Env)} : @R.wp _ (ev P cl (.ls es) env) k = @R.wp _ ((evs P cl es env).thn fun os env1 => (R.of (frzs os env1)).thn fun ds env2 => if ds.length ≤ big then .ok (.tmp (.own (.lst ds)), env2) else .stuck) k := by rw [ev] <;> rfl
@[simp ↓] theorem wp_d0 (isK : Bool) {k : Kt (Opd × Env)} : @R.wp _ (ev P cl (.d0 isK) env) k = @R.wp _ (.ok (.tmp (.own (if isK then .dk [] [] else .dt [] [])), env)) k := by rw [ev] <;> rfl
@[simp ↓] theorem wp_call (j : Nat) (es : List IE) {k : Kt (Opd × Env)} : @R.wp _ (ev P cl (.call j es) env) k = @R.wp _ ((evs P cl es env).thn fun os env1 => docall cl j os env1) k := by rw [ev] <;> rfl
@[simp ↓] theorem wp_meth (m : Nat) (o : IE) (es : List IE) {k : Kt (Opd × Env)} : @R.wp _ (ev P cl (.meth m o es) env) k = @R.wp _ ((ev P cl o env).thn fun x env1 => match x.data env1 with
    | some (.ins c _ _) => (match P.mth c m with
      | some j => (evs P cl es env1).thn fun os env2 => docall cl j (x :: os) env2
      | none => .stuck)
    | _ => .stuck) k := by rw [ev] <;> rfl
@[simp ↓] theorem wp_mk (c j : Nat) (es kws : List IE) {k : Kt (Opd × Env)} : @R.wp _ (ev P cl (.mk c j es kws) env) k = @R.wp _ ((evs P cl es env).thn fun os env1 => (evs P cl kws env1).thn fun qs env2 => domake cl c j (os ++ qs) env2) k := by rw [ev] <;> rfl
@[simp ↓] theorem wp_app (a e : IE) {k : Kt (Opd × Env)} : @R.wp _ (ev P cl (.app a e) env) k = @R.wp _ ((ev P cl a env).thn fun x env1 => match ownL x env1 with
    | some i => (ev P cl e env1).thn fun y env2 => (R.of (frz y env2)).thn fun d env3 => (match env3.getD i .emp with
      | .own (.lst xs) => if xs.length < big then .ok (.tmp (.val .non), env3.set i (.own (.lst (xs ++ [d])))) else .stuck
      | _ => .stuck)
    | none => .stuck) k := by rw [ev] <;> rfl
@[simp ↓] theorem wp_ext (a e : IE) {k : Kt (Opd × Env)} : @R.wp _ (ev P cl (.ext a e) env) k = @R.wp _ ((ev P cl a env).thn fun x env1 => match ownL x env1 with
    | some i => (ev P cl e env1).thn fun y env2 => (match y with
      | .tmp (.own (.lst ys)) => (match env2.getD i .emp with
        | .own (.lst xs) => if xs.length + ys.length ≤ big then .ok (.tmp (.val .non), env2.set i (.own (.lst (xs ++ ys)))) else .stuck
        | _ => .stuck)
      | _ => .stuck)
    | none => .stuck) k := by rw [ev] <;> rfl
@[simp ↓] theorem wp_lc (vs : List Nat) (t : Tg) (it : It) (cs : List IE) (e : IE) {k : Kt (Opd × Env)} : @R.wp _ (ev P cl (.lc vs t it cs e) env) k = @R.wp _ ((evIt P cl it env).thn fun xs env1 => lcE vs (fun d env => (R.of (bnd [] t d env)).bind fun env2 => (evAnd P cl cs env2).thn fun b env3 => if b then (ev P cl e env3).thn fun o env4 => (R.of (frz o env4)).thn fun y env5 => .ok (some y, env5) else .ok (none, env3)) xs env1) k := by 
  rw [ev]
  first | unfold lcE | unfold dcE
  congr 1
  congr 1
  funext xs env1
  congr 2
  funext d env
  cases bnd [] t d env <;> rfl
@[simp ↓] theorem wp_dc (vs : List Nat) (t : Tg) (it : It) (a v : IE) {k : Kt (Opd × Env)} : @R.wp _ (ev P cl (.dc vs t it a v) env) k = @R.wp _ ((evIt P cl it env).thn fun xs env1 => dcE vs (fun d env => (R.of (bnd [] t d env)).bind fun env2 => (ev P cl a env2).thn fun ko env3 => (ev P cl v env3).thn fun vo env4 => (match ko.data env4 with
        | some kd => (R.of kd.key).bind fun kk => (R.of (frz vo env4)).thn fun y env5 => .ok ((kk, y), env5)
        | none => .stuck)) xs env1) k := by 
  rw [ev]
  first | unfold lcE | unfold dcE
  congr 1
  congr 1
  funext xs env1
  congr 2
  funext d env
  cases bnd [] t d env <;> rfl
@[simp ↓] theorem wp_evs_nil  {k : Kt (List Opd × Env)} : @R.wp _ (evs P cl [] env) k = @R.wp _ (.ok ([], env)) k := by rw [evs] <;> rfl
@[simp ↓] theorem wp_evs_cons (e : IE) (es : List IE) (h : e.isStar = false) {k : Kt (List Opd × Env)} : @R.wp _ (evs P cl (e :: es) env) k = @R.wp _ ((ev P cl e env).thn fun x env1 => (evs P cl es env1).thn fun xs env2 => .ok (x :: xs, env2)) k := by rw [evs_cons P cl h] <;> rfl
@[simp ↓] theorem wp_evs_star (e : IE) (es : List IE) {k : Kt (List Opd × Env)} : @R.wp _ (evs P cl (.star e :: es) env) k = @R.wp _ ((ev P cl e env).thn fun x env1 => (R.of (starD x env1)).bind fun here => (evs P cl es env1).thn fun xs env2 => .ok (here ++ xs, env2)) k := by rw [evs_star P cl] <;> rfl
@[simp ↓] theorem wp_evAnd_nil  {k : Kt (Bool × Env)} : @R.wp _ (evAnd P cl [] env) k = @R.wp _ (.ok (true, env)) k := by rw [evAnd] <;> rfl
@[simp ↓] theorem wp_evAnd_cons (e : IE) (es : List IE) {k : Kt (Bool × Env)} : @R.wp _ (evAnd P cl (e :: es) env) k = @R.wp _ ((ev P cl e env).thn fun x env1 => (asB x env1).thn fun b env2 => if b then evAnd P cl es env2 else .ok (false, env2)) k := by rw [evAnd] <;> rfl
@[simp ↓] theorem wp_evOr_nil  {k : Kt (Bool × Env)} : @R.wp _ (evOr P cl [] env) k = @R.wp _ (.ok (false, env)) k := by rw [evOr] <;> rfl
@[simp ↓] theorem wp_evOr_cons (e : IE) (es : List IE) {k : Kt (Bool × Env)} : @R.wp _ (evOr P cl (e :: es) env) k = @R.wp _ ((ev P cl e env).thn fun x env1 => (asB x env1).thn fun b env2 => if b then .ok (true, env2) else evOr P cl es env2) k := by rw [evOr] <;> rfl
@[simp ↓] theorem wp_it_e (a : IE) {k : Kt (List D × Env)} : @R.wp _ (evIt P cl (.e a) env) k = @R.wp _ ((ev P cl a env).thn fun x env1 => (R.of (frz x env1)).thn fun d env2 => (R.of (itemsOf d)).bind fun xs => .ok (xs, env2)) k := by rw [evIt] <;> rfl
@[simp ↓] theorem wp_it_r1 (a : IE) {k : Kt (List D × Env)} : @R.wp _ (evIt P cl (.r1 a) env) k = @R.wp _ ((ev P cl a env).thn fun x env1 => match x.data env1 with
    | some (.int n) => if smallR n then .ok (rangeD 0 n.toNat, env1) else .stuck
    | _ => .stuck) k := by rw [evIt] <;> rfl
@[simp ↓] theorem wp_it_r2 (a b : IE) {k : Kt (List D × Env)} : @R.wp _ (evIt P cl (.r2 a b) env) k = @R.wp _ ((ev P cl a env).thn fun x env1 => (ev P cl b env1).thn fun y env2 => match x.data env2, y.data env2 with
    | some (.int m), some (.int n) => if smallR m && smallR n then .ok (rangeD m (n - m).toNat, env2) else .stuck
    | _, _ => .stuck) k := by rw [evIt] <;> rfl
@[simp ↓] theorem wp_it_en (a : IE) {k : Kt (List D × Env)} : @R.wp _ (evIt P cl (.en a) env) k = @R.wp _ ((ev P cl a env).thn fun x env1 => (R.of (frz x env1)).thn fun d env2 => (R.of (enumOf d)).bind fun xs => .ok (xs, env2)) k := by rw [evIt] <;> rfl
@[simp ↓] theorem wp_part (r : R (List Opd × Env)) {k : Kt (Option Int × Env)} : @R.wp _ (part r) k = @R.wp _ r ⟨fun p => match optI p.1 p.2 with
    | some l => k.q (l, p.2)
    | none => False, k.e⟩ := by
  unfold part
  rw [thn_wp]
  congr 2
  funext p
  cases optI p.1 p.2 <;> rfl
@[simp ↓] theorem wp_asB (o : Opd) {k : Kt (Bool × Env)} : @R.wp _ (asB o env) k = match o.data env with
    | some (.bl b) => k.q (b, env)
    | _ => False := by
  unfold asB
  split <;> simp_all [R.wp]
@[simp ↓] theorem wp_docall (j : Nat) (os : List Opd) {k : Kt (Opd × Env)} : @R.wp _ (docall cl j os env) k = match args os env with
    | none => False
    | some ss => @R.wp _ (cl j ss) ⟨fun p => k.q (.tmp p.1, back os p.2 env), fun c x ss' => k.e c x (back os ss' env)⟩ := by
  unfold docall
  cases args os env with
  | none => rfl
  | some ss => dsimp only; cases cl j ss <;> rfl
def mkq (k : Kt (Opd × Env)) (os : List Opd) (env : Env) (p : Slot × List Slot) : Prop := match p with
  | (.val .non, s :: ss') => k.q (.tmp s, back os ss' env)
  | _ => False
def mke (k : Kt (Opd × Env)) (os : List Opd) (env : Env) : XE := fun c x ss => match ss with
  | _ :: ss' => k.e c x (back os ss' env)
  | [] => False
@[simp ↓] theorem mkq_ok (k : Kt (Opd × Env)) (os : List Opd) (env : Env) (s : Slot) (ss : List Slot) : mkq k os env (.val .non, s :: ss) = k.q (.tmp s, back os ss env) := (rfl)
@[simp ↓] theorem mke_ok (k : Kt (Opd × Env)) (os : List Opd) (env : Env) (c : Nat) (x : List D) (s : Slot) (ss : List Slot) : mke k os env c x (s :: ss) = k.e c x (back os ss env) := (rfl)
@[simp ↓] theorem wp_domake (c j : Nat) (os : List Opd) {k : Kt (Opd × Env)} : @R.wp _ (domake cl c j os env) k = match args os env with
    | none => False
    | some ss => @R.wp _ (cl j (.own (.ins c [] []) :: ss)) ⟨mkq k os env, mke k os env⟩ := by
  unfold domake
  cases args os env with
  | none => rfl
  | some ss =>
    dsimp only
    cases cl j (.own (.ins c [] []) :: ss) with
    | ok p =>
      obtain ⟨s, l⟩ := p
      cases s with
      | val d =>
        cases d with
        | non => cases l <;> rfl
        | _ => rfl
      | _ => rfl
    | exc c x e => cases e <;> rfl
    | stuck => rfl
@[simp ↓] theorem wp_exs_nil {k : Kt (Fl × Env)} : @R.wp _ (exs P cl pr [] env) k = k.q (.nx, env) := by rw [exs]; rfl
@[simp ↓] theorem wp_exs_cons (s : IS) (ss : List IS) {k : Kt (Fl × Env)} : @R.wp _ (exs P cl pr (s :: ss) env) k = @R.wp _ (ex P cl pr s env) ⟨kseq k.q fun e => @R.wp _ (exs P cl pr ss e) k, k.e⟩ := by
  rw [exs]
  rcases ex P cl pr s env with ⟨⟨f, e⟩⟩ | _ | _
  · cases f <;> rfl
  · rfl
  · rfl
theorem exs_append (ss ts : List IS) {k : Kt (Fl × Env)} : @R.wp _ (exs P cl pr (ss ++ ts) env) k = @R.wp _ (exs P cl pr ss env) ⟨kseq k.q fun e => @R.wp _ (exs P cl pr ts e) k, k.e⟩ := by
  induction ss generalizing env with
  | nil => rw [wp_exs_nil]; rfl
  | cons s ss ih =>
    rw [List.cons_append, wp_exs_cons, wp_exs_cons]
    congr 2
    funext p
    obtain ⟨f, e⟩ := p
    cases f with
    | nx => exact ih
    | _ => rfl
@[simp ↓] theorem wp_sasg (t : Tg) (e : IE) {k : Kt (Fl × Env)} : @R.wp _ (ex P cl pr (.asg t e) env) k = @R.wp _ ((ev P cl e env).thn fun x env1 => match t with
    | .nm i => (match x with
      | .tmp .emp => .stuck
      | .tmp s => (R.of (put pr i s env1)).bind fun env2 => .ok (.nx, env2)
      | .pk _ => (R.of (frz x env1)).thn fun d env2 => (R.of (put pr i (.val d) env2)).bind fun env3 => .ok (.nx, env3))
    | t => (R.of (frz x env1)).thn fun d env2 => (R.of (bnd pr t d env2)).bind fun env3 => .ok (.nx, env3)) k := by rw [ex] <;> rfl
@[simp ↓] theorem wp_sssub (a i e : IE) {k : Kt (Fl × Env)} : @R.wp _ (ex P cl pr (.ssub a i e) env) k = @R.wp _ ((ev P cl e env).thn fun z env1 => (R.of (frz z env1)).thn fun d env2 => (sets P cl a i d env2).bind fun env3 => .ok (.nx, env3)) k := by rw [ex] <;> rfl
@[simp ↓] theorem wp_spar2 (i j : Nat) (a b : IE) {k : Kt (Fl × Env)} : @R.wp _ (ex P cl pr (.par2 i j a b) env) k = @R.wp _ ((ev P cl a env).thn fun x env1 => (ev P cl b env1).thn fun y env2 => (R.of (frz x env2)).thn fun dx env3 => (R.of (frz y env3)).thn fun dy env4 =>
    (R.of (put pr i (.val dx) env4)).bind fun env5 => (R.of (put pr j (.val dy) env5)).bind fun env6 => .ok (.nx, env6)) k := by rw [ex] <;> rfl
@[simp ↓] theorem wp_sssub2 (a i b j e : IE) {k : Kt (Fl × Env)} : @R.wp _ (ex P cl pr (.ssub2 a i b j e) env) k = @R.wp _ ((ev P cl e env).thn fun z env1 => (R.of (frz z env1)).thn fun d env2 => match d with
    | .tup [dz, dw] => (sets P cl a i dz env2).bind fun env3 => (sets P cl b j dw env3).bind fun env4 => .ok (.nx, env4)
    | _ => .stuck) k := by rw [ex] <;> rfl
@[simp ↓] theorem wp_ssfd (o : IE) (f : Nat) (e : IE) {k : Kt (Fl × Env)} : @R.wp _ (ex P cl pr (.sfd o f e) env) k = @R.wp _ ((ev P cl e env).thn fun z env1 => (R.of (frz z env1)).thn fun d env2 => (ev P cl o env2).thn fun x env3 => match ownD x env3 with
    | some (k, .ins c fs vs) => if P.fok c f && decide (fs.length < 1000) then .ok (.nx, env3.set k (.own (.ins c (putKs fs f) (putVs fs vs f d)))) else .stuck
    | _ => .stuck) k := by rw [ex] <;> rfl
@[simp ↓] theorem wp_sxp (e : IE) {k : Kt (Fl × Env)} : @R.wp _ (ex P cl pr (.xp e) env) k = @R.wp _ ((ev P cl e env).thn fun _ env1 => .ok (.nx, env1)) k := by rw [ex] <;> rfl
@[simp ↓] theorem wp_sret (e : IE) {k : Kt (Fl × Env)} : @R.wp _ (ex P cl pr (.ret e) env) k = @R.wp _ ((ev P cl e env).thn fun x env1 => match x with
    | .tmp .emp => .stuck
    | .tmp s => .ok (.rt s, env1)
    | .pk i => if i ∈ pr then (R.of (frz x env1)).thn fun d env2 => .ok (.rt (.val d), env2) else (match env1.getD i .emp with
      | .emp => .stuck
      | s => .ok (.rt s, env1.set i .emp))) k := by rw [ex] <;> rfl
@[simp ↓] theorem wp_sife (c : IE) (a b : List IS) {k : Kt (Fl × Env)} : @R.wp _ (ex P cl pr (.ife c a b) env) k = @R.wp _ ((evB P cl c env).thn fun k env1 => if k then exs P cl pr a env1 else exs P cl pr b env1) k := by rw [ex] <;> rfl
@[simp ↓] theorem wp_sfor (t : Tg) (it : It) (body : List IS) {k : Kt (Fl × Env)} : @R.wp _ (ex P cl pr (.for_ t it body) env) k = @R.wp _ ((evIt P cl it env).thn fun xs env1 => loop pr t (fun env => exs P cl pr body env) xs env1) k := by rw [ex] <;> rfl
@[simp ↓] theorem wp_sraise (c : Nat) (es : List IE) {k : Kt (Fl × Env)} : @R.wp _ (ex P cl pr (.raise c es) env) k = @R.wp _ ((evs P cl es env).thn fun os env1 => (R.of (frzs os env1)).thn fun ds env2 => .exc c ds env2) k := by rw [ex] <;> rfl
@[simp ↓] theorem wp_spass  {k : Kt (Fl × Env)} : @R.wp _ (ex P cl pr (.pass) env) k = @R.wp _ (.ok (.nx, env)) k := by rw [ex] <;> rfl
@[simp ↓] theorem wp_sbrk  {k : Kt (Fl × Env)} : @R.wp _ (ex P cl pr (.brk) env) k = @R.wp _ (.ok (.bk, env)) k := by rw [ex] <;> rfl
@[simp ↓] theorem wp_scnt  {k : Kt (Fl × Env)} : @R.wp _ (ex P cl pr (.cnt) env) k = @R.wp _ (.ok (.ct, env)) k := by rw [ex] <;> rfl
def kbnd (pr : List Nat) (k : Kt (Fl × Env)) (t : Tg) (p : D × Env) : Prop := match bnd pr t p.1 p.2 with
  | some env3 => k.q (.nx, env3)
  | none => False
theorem wp_tryq {body : List IS} {hs : List Hd} {k : Kt (Fl × Env)} (h : @R.wp _ (exs P cl pr body env) ⟨k.q, fun c x env1 => P.exk c = true ∧ @R.wp _ (handle P pr c x env1 hs) k⟩) : @R.wp _ (ex P cl pr (.try_ body hs) env) k := by
  rw [ex]
  cases e : exs P cl pr body env with
  | ok a => rw [e] at h; exact h
  | exc c x env1 =>
    rw [e] at h
    have h' : P.exk c = true ∧ @R.wp _ (handle P pr c x env1 hs) k := h
    show @R.wp _ (if P.exk c = true then handle P pr c x env1 hs else .stuck) k
    rw [if_pos h'.1]
    exact h'.2
  | stuck => rw [e] at h; exact h
@[simp ↓] theorem wp_sets (a i : IE) (d : D) {k : Kt Env} : @R.wp _ (sets P cl a i d env) k = @R.wp _ ((ev P cl a env).thn fun x env1 => (ev P cl i env1).thn fun y env2 => match ownD x env2 with
  | some (k, c) => (match y.data env2 with
    | some di => (R.of (setD c di (y.slot env2).isOwn d)).bind fun c' => .ok (env2.set k (.own c'))
    | none => .stuck)
  | none => .stuck) k := (rfl)
@[simp ↓] theorem wp_evB (e : IE) {k : Kt (Bool × Env)} : @R.wp _ (evB P cl e env) k = @R.wp _ ((ev P cl e env).thn fun x env1 => asB x env1) k := (rfl)
/-! ### a call -/
def krun (k : Kt (Slot × List Slot)) (ss : List Slot) (p : Fl × Env) : Prop := match p.1 with
  | .nx => k.q (.val .non, given 0 ss p.2)
  | .rt s => k.q (s, given 0 ss p.2)
  | _ => False
@[simp ↓] theorem krun_nx (k : Kt (Slot × List Slot)) (ss : List Slot) (e : Env) : krun k ss (.nx, e) = k.q (.val .non, given 0 ss e) := (rfl)
@[simp ↓] theorem krun_rt (k : Kt (Slot × List Slot)) (ss : List Slot) (s : Slot) (e : Env) : krun k ss (.rt s, e) = k.q (s, given 0 ss e) := (rfl)
@[simp ↓] theorem krun_bk (k : Kt (Slot × List Slot)) (ss : List Slot) (e : Env) : krun k ss (.bk, e) = False := (rfl)
@[simp ↓] theorem krun_ct (k : Kt (Slot × List Slot)) (ss : List Slot) (e : Env) : krun k ss (.ct, e) = False := (rfl)
theorem call_wp {n j : Nat} {ss : List Slot} {f : Def} {k : Kt (Slot × List Slot)} (hj : P.defs[j]? = some f) (hl : ss.length = f.np) (h : @R.wp _ (exs P (callN P n) (ownIx 0 ss) f.body (ss ++ List.replicate (f.nl - f.np) .emp)) ⟨krun k ss, fun c x e => k.e c x (given 0 ss e)⟩) : @R.wp _ (callN P (n + 1) j ss) k := by
  rw [callN, hj]
  dsimp only
  unfold run
  rw [if_pos hl]
  cases e : exs P (callN P n) (ownIx 0 ss) f.body (ss ++ List.replicate (f.nl - f.np) .emp) with
  | ok p =>
    rw [e] at h
    obtain ⟨fl, env⟩ := p
    cases fl with
    | nx => exact h
    | rt s => exact h
    | bk => exact h.elim
    | ct => exact h.elim
  | exc c x env => rw [e] at h; exact h
  | stuck => rw [e] at h; exact h.elim
/-! ### loops -/
def kloop (k : Kt (Fl × Env)) (N : Env → Prop) (p : Fl × Env) : Prop := match p.1 with
  | .nx => @Hide ⟨N p.2⟩
  | .ct => @Hide ⟨N p.2⟩
  | .bk => k.q (.nx, p.2)
  | .rt s => k.q (.rt s, p.2)
@[simp ↓] theorem kloop_nx (k : Kt (Fl × Env)) (N : Env → Prop) (e : Env) : kloop k N (.nx, e) = @Hide ⟨N e⟩ := (rfl)
@[simp ↓] theorem kloop_ct (k : Kt (Fl × Env)) (N : Env → Prop) (e : Env) : kloop k N (.ct, e) = @Hide ⟨N e⟩ := (rfl)
@[simp ↓] theorem kloop_bk (k : Kt (Fl × Env)) (N : Env → Prop) (e : Env) : kloop k N (.bk, e) = k.q (.nx, e) := (rfl)
@[simp ↓] theorem kloop_rt (k : Kt (Fl × Env)) (N : Env → Prop) (s : Slot) (e : Env) : kloop k N (.rt s, e) = k.q (.rt s, e) := (rfl)
theorem loop_go {α : Type} (enc : α → D) (Inv : List α → Env → Prop) {t : Tg} {f : Env → R (Fl × Env)} {k : Kt (Fl × Env)} : ∀ (post pre : List α) (env : Env), Inv pre env →
    (∀ pre' x post' env, pre' ++ x :: post' = pre ++ post → Inv pre' env → @R.wp _ (R.of (bnd pr t (enc x) env)) ⟨fun env1 => @R.wp _ (f env1) ⟨kloop k (Inv (pre' ++ [x])), k.e⟩, k.e⟩) →
    (∀ env, Inv (pre ++ post) env → k.q (.nx, env)) → @R.wp _ (loop pr t f (post.map enc) env) k
  | [], pre, env, h0, hs, he => he env (by rw [List.append_nil]; exact h0)
  | x :: post, pre, env, h0, hs, he => by
    have h := hs pre x post env rfl h0
    show @R.wp _ (loop pr t f (enc x :: post.map enc) env) k
    rw [loop]
    cases e : bnd pr t (enc x) env with
    | none => rw [e] at h; exact h.elim
    | some env1 =>
      rw [e] at h
      have h : @R.wp _ (f env1) ⟨kloop k (Inv (pre ++ [x])), k.e⟩ := h
      have go : ∀ env, Inv (pre ++ [x]) env → @R.wp _ (loop pr t f (post.map enc) env) k := fun env h =>
        loop_go enc Inv post (pre ++ [x]) env h (fun p y q env e => hs p y q env (by rw [e, List.append_assoc]; rfl)) fun env h => he env (by rw [List.append_assoc] at h; exact h)
      dsimp only
      cases e2 : f env1 with
      | ok p =>
        rw [e2] at h
        obtain ⟨fl, env2⟩ := p
        cases fl with
        | nx => exact go _ h
        | ct => exact go _ h
        | bk => exact h
        | rt s => exact h
      | exc c x env => rw [e2] at h; exact h
      | stuck => rw [e2] at h; exact h.elim
/-- a for, by an invariant over what is done -/
theorem loop_wp {α : Type} (enc : α → D) (xs : List α) (Inv : List α → Env → Prop) {t : Tg} {f : Env → R (Fl × Env)} {k : Kt (Fl × Env)} {ds : List D} (hd : ds = xs.map enc) (h0 : Inv [] env)
    (hs : ∀ pre x post env, pre ++ x :: post = xs → Inv pre env → @R.wp _ (R.of (bnd pr t (enc x) env)) ⟨fun env1 => @R.wp _ (f env1) ⟨kloop k (Inv (pre ++ [x])), k.e⟩, k.e⟩)
    (he : ∀ env, Inv xs env → k.q (.nx, env)) : @R.wp _ (loop pr t f ds env) k := by
  rw [hd]
  exact loop_go enc Inv xs [] env h0 hs he
def kturn (Q : List D → Env → Prop) (acc : List D) (p : Option D × Env) : Prop := match p.1 with
  | none => @Hide ⟨Q acc p.2⟩
  | some y => acc.length < big ∧ @Hide ⟨Q (acc ++ [y]) p.2⟩
@[simp ↓] theorem kturn_none (Q : List D → Env → Prop) (acc : List D) (e : Env) : kturn Q acc (none, e) = @Hide ⟨Q acc e⟩ := (rfl)
@[simp ↓] theorem kturn_some (Q : List D → Env → Prop) (acc : List D) (y : D) (e : Env) : kturn Q acc (some y, e) = (acc.length < big ∧ @Hide ⟨Q (acc ++ [y]) e⟩) := (rfl)
theorem turns_go {α : Type} (enc : α → D) (Inv : List α → List D → Env → Prop) {vs : List Nat} {f : D → Env → R (Option D × Env)} {k : Kt (List D × Env)} : ∀ (post pre : List α) (acc : List D) (env : Env), Inv pre acc env →
    (∀ pre' x post' acc env, pre' ++ x :: post' = pre ++ post → Inv pre' acc env → @R.wp _ (f (enc x) (wipeE env vs)) ⟨kturn (Inv (pre' ++ [x])) acc, NoE⟩) →
    (∀ acc env, Inv (pre ++ post) acc env → k.q (acc, env)) → @R.wp _ (turns vs f (post.map enc) env acc) k
  | [], pre, acc, env, h0, hs, he => he acc env (by rw [List.append_nil]; exact h0)
  | x :: post, pre, acc, env, h0, hs, he => by
    have h := hs pre x post acc env rfl h0
    show @R.wp _ (turns vs f (enc x :: post.map enc) env acc) k
    rw [turns]
    have go : ∀ acc env, Inv (pre ++ [x]) acc env → @R.wp _ (turns vs f (post.map enc) env acc) k := fun acc env h =>
      turns_go enc Inv post (pre ++ [x]) acc env h (fun p y q acc env e => hs p y q acc env (by rw [e, List.append_assoc]; rfl)) fun acc env h => he acc env (by rw [List.append_assoc] at h; exact h)
    cases e2 : f (enc x) (wipeE env vs) with
    | ok p =>
      rw [e2] at h
      obtain ⟨o, env2⟩ := p
      cases o with
      | none => exact go _ _ h
      | some y =>
        have h : acc.length < big ∧ Inv (pre ++ [x]) (acc ++ [y]) env2 := h
        dsimp only
        rw [if_pos h.1]
        exact go _ _ h.2
    | exc c x env => rw [e2] at h; exact h.elim
    | stuck => rw [e2] at h; exact h.elim
/-- a comprehension, by an invariant -/
theorem turns_wp {α : Type} (enc : α → D) (xs : List α) (Inv : List α → List D → Env → Prop) {vs : List Nat} {f : D → Env → R (Option D × Env)} {k : Kt (Opd × Env)} {ds : List D} (hd : ds = xs.map enc) (h0 : Inv [] [] env)
    (hs : ∀ pre x post acc env, pre ++ x :: post = xs → Inv pre acc env → @R.wp _ (f (enc x) (wipeE env vs)) ⟨kturn (Inv (pre ++ [x])) acc, NoE⟩)
    (he : ∀ acc env', Inv xs acc env' → k.q (.tmp (.own (.lst acc)), unwipe env env' vs)) : @R.wp _ (lcE vs f ds env) k := by
  unfold lcE
  rw [hd, thn_wp]
  exact turns_go enc Inv xs [] [] env h0 hs he
theorem wipeL_len (env : Env) : ∀ vs, (wipeE env vs).length = env.length
  | [] => rfl
  | v :: vs => by rw [wipeE, List.length_set, wipeL_len env vs]
theorem wipeL_get (env : Env) (i : Nat) : ∀ vs, (wipeE env vs)[i]? = if i ∈ vs ∧ i < env.length then some .emp else env[i]?
  | [] => by simp [wipeE]
  | v :: vs => by
    rw [wipeE, List.getElem?_set, wipeL_get env i vs, wipeL_len]
    by_cases h : v = i
    · subst h
      by_cases h2 : v < env.length
      · simp [h2]
      · simp [h2]
    · have : ¬ i = v := fun e => h e.symm
      simp [h, this]
theorem unwipeL_len (e0 env : Env) : ∀ vs, (unwipe e0 env vs).length = env.length
  | [] => rfl
  | v :: vs => by rw [unwipe, List.length_set, unwipeL_len e0 env vs]
theorem unwipeL_get (e0 env : Env) (i : Nat) : ∀ vs, (unwipe e0 env vs)[i]? = if i ∈ vs ∧ i < env.length then some (e0.getD i .emp) else env[i]?
  | [] => by simp [unwipe]
  | v :: vs => by
    rw [unwipe, List.getElem?_set, unwipeL_get e0 env i vs, unwipeL_len]
    by_cases h : v = i
    · subst h
      by_cases h2 : v < env.length
      · simp [h2]
      · simp [h2]
    · have : ¬ i = v := fun e => h e.symm
      simp [h, this]
theorem unwipeL_back {e0 env : Env} {vs : List Nat} (h : wipeE env vs = wipeE e0 vs) : unwipe e0 env vs = e0 := by
  have hl : env.length = e0.length := by rw [← wipeL_len env vs, h, wipeL_len]
  refine List.ext_getElem? fun i => ?_
  rw [unwipeL_get]
  by_cases c : i ∈ vs ∧ i < env.length
  · rw [if_pos c, List.getD_eq_getElem?_getD, List.getElem?_eq_getElem (hl ▸ c.2)]
    rfl
  · rw [if_neg c]
    have := congrArg (fun l : Env => l[i]?) h
    simp only [wipeL_get] at this
    rw [if_neg c, if_neg (hl ▸ c)] at this
    exact this
/-- a comprehension whose turns leave all other names as they are -/
theorem lc_wp {α : Type} (enc : α → D) (xs : List α) (p : α → Bool) (g : α → D) {vs : List Nat} {f : D → Env → R (Option D × Env)} {k : Kt (Opd × Env)} {ds : List D} (hd : ds = xs.map enc) (hl : xs.length ≤ big)
    (hs : ∀ x ∈ xs, @R.wp _ (f (enc x) (wipeE env vs)) ⟨fun q => q.1 = (if p x then some (g x) else none) ∧ wipeE q.2 vs = wipeE env vs, NoE⟩)
    (he : k.q (.tmp (.own (.lst ((xs.filter p).map g))), env)) : @R.wp _ (lcE vs f ds env) k := by
  refine turns_wp enc xs (fun pre acc e => acc = (pre.filter p).map g ∧ wipeE e vs = wipeE env vs) hd ⟨rfl, rfl⟩ (fun pre x post acc e hx ⟨h1, h2⟩ => ?_) fun acc e ⟨h1, h2⟩ => by rw [unwipeL_back h2, h1]; exact he
  have hm : x ∈ xs := by rw [← hx]; simp
  have hle : pre.length < xs.length := by rw [← hx]; simp
  rw [h2]
  refine wp_mono (hs x hm) (fun q ⟨q1, q2⟩ => ?_) fun _ _ _ h => h
  obtain ⟨o, e2⟩ := q
  dsimp only at q1 q2
  subst q1 h1
  by_cases c : p x = true
  · rw [if_pos c]
    refine ⟨?_, ?_, q2⟩
    · have := List.length_filter_le p pre
      rw [List.length_map]
      omega
    · rw [List.filter_append, List.map_append]
      simp [c]
  · rw [if_neg c]
    refine ⟨?_, q2⟩
    rw [List.filter_append, List.map_append]
    simp [c]
theorem lc_map {α : Type} (enc : α → D) (xs : List α) (g : α → D) {vs : List Nat} {f : D → Env → R (Option D × Env)} {k : Kt (Opd × Env)} {ds : List D} (hd : ds = xs.map enc) (hl : xs.length ≤ big)
    (hs : ∀ x ∈ xs, @R.wp _ (f (enc x) (wipeE env vs)) ⟨fun q => q.1 = some (g x) ∧ wipeE q.2 vs = wipeE env vs, NoE⟩)
    (he : k.q (.tmp (.own (.lst (xs.map g))), env)) : @R.wp _ (lcE vs f ds env) k := by
  refine lc_wp enc xs (fun _ => true) g hd hl (fun x hx => ?_) ?_
  · exact wp_mono (hs x hx) (fun q h => h) fun _ _ _ h => h
  · rw [List.filter_eq_self.mpr fun _ _ => rfl]
    exact he
def kdturn (Q : List Key → List D → Env → Prop) (ks : List Key) (ws : List D) (p : (Key × D) × Env) : Prop := ks.length < big ∧ @Hide ⟨Q (putKs ks p.1.1) (putVs ks ws p.1.1 p.1.2) p.2⟩
@[simp ↓] theorem kdturn_eq (Q : List Key → List D → Env → Prop) (ks : List Key) (ws : List D) (x : Key) (y : D) (e : Env) : kdturn Q ks ws ((x, y), e) = (ks.length < big ∧ @Hide ⟨Q (putKs ks x) (putVs ks ws x y) e⟩) := rfl
theorem dturns_go {α : Type} (enc : α → D) (Inv : List α → List Key → List D → Env → Prop) {vs : List Nat} {f : D → Env → R ((Key × D) × Env)} {k : Kt ((List Key × List D) × Env)} : ∀ (post pre : List α) (ks : List Key) (ws : List D) (env : Env), Inv pre ks ws env →
    (∀ pre' x post' ks ws env, pre' ++ x :: post' = pre ++ post → Inv pre' ks ws env → @R.wp _ (f (enc x) (wipeE env vs)) ⟨kdturn (Inv (pre' ++ [x])) ks ws, NoE⟩) →
    (∀ ks ws env, Inv (pre ++ post) ks ws env → k.q ((ks, ws), env)) → @R.wp _ (dturns vs f (post.map enc) env ks ws) k
  | [], pre, ks, ws, env, h0, hs, he => he ks ws env (by rw [List.append_nil]; exact h0)
  | x :: post, pre, ks, ws, env, h0, hs, he => by
    have h := hs pre x post ks ws env rfl h0
    show @R.wp _ (dturns vs f (enc x :: post.map enc) env ks ws) k
    rw [dturns]
    have go : ∀ ks ws env, Inv (pre ++ [x]) ks ws env → @R.wp _ (dturns vs f (post.map enc) env ks ws) k := fun ks ws env h =>
      dturns_go enc Inv post (pre ++ [x]) ks ws env h (fun p y q ks ws env e => hs p y q ks ws env (by rw [e, List.append_assoc]; rfl)) fun ks ws env h => he ks ws env (by rw [List.append_assoc] at h; exact h)
    cases e2 : f (enc x) (wipeE env vs) with
    | ok p =>
      rw [e2] at h
      obtain ⟨⟨o, y⟩, env2⟩ := p
      have h : ks.length < big ∧ Inv (pre ++ [x]) (putKs ks o) (putVs ks ws o y) env2 := h
      dsimp only
      rw [if_pos h.1]
      exact go _ _ _ h.2
    | exc c x env => rw [e2] at h; exact h.elim
    | stuck => rw [e2] at h; exact h.elim
theorem dturns_wp {α : Type} (enc : α → D) (xs : List α) (Inv : List α → List Key → List D → Env → Prop) {vs : List Nat} {f : D → Env → R ((Key × D) × Env)} {k : Kt (Opd × Env)} {ds : List D} (hd : ds = xs.map enc) (h0 : Inv [] [] [] env)
    (hs : ∀ pre x post ks ws env, pre ++ x :: post = xs → Inv pre ks ws env → @R.wp _ (f (enc x) (wipeE env vs)) ⟨kdturn (Inv (pre ++ [x])) ks ws, NoE⟩)
    (he : ∀ ks ws env', Inv xs ks ws env' → k.q (.tmp (.own (.dk ks ws)), unwipe env env' vs)) : @R.wp _ (dcE vs f ds env) k := by
  unfold dcE
  rw [hd, thn_wp]
  exact dturns_go enc Inv xs [] [] [] env h0 hs he
end
end Fm
end

section
set_option Elab.async false
set_option linter.all false
set_option maxRecDepth 10000
set_option autoImplicit false
set_option maxHeartbeats 1000000
/-! the evaluator's small parts, for simp -/
namespace Fm.Sx
open PySem L2
def chr (c : Nat) : Str := ⟨#[c]⟩
section
variable {env : Env}
@[simp] theorem sd_emp : Slot.data .emp = none := (rfl)
@[simp] theorem sd_val (d : D) : Slot.data (.val d) = some d := (rfl)
@[simp] theorem sd_own (d : D) : Slot.data (.own d) = some d := (rfl)
@[simp] theorem so_emp : Slot.isOwn .emp = false := (rfl)
@[simp] theorem so_val (d : D) : Slot.isOwn (.val d) = false := (rfl)
@[simp] theorem so_own (d : D) : Slot.isOwn (.own d) = true := (rfl)
@[simp] theorem os_tmp (s : Slot) : Opd.slot env (.tmp s) = s := (rfl)
@[simp] theorem os_pk (i : Nat) : Opd.slot env (.pk i) = env.getD i .emp := (rfl)
@[simp] theorem od_tmp (s : Slot) : Opd.data env (.tmp s) = s.data := (rfl)
@[simp] theorem od_pk (i : Nat) : Opd.data env (.pk i) = (env.getD i .emp).data := (rfl)
@[simp] theorem cn_non : Cn.d .non = .non := (rfl)
@[simp] theorem cn_bl (b : Bool) : Cn.d (.bl b) = .bl b := (rfl)
@[simp] theorem cn_int (i : Int) : Cn.d (.int i) = .int i := (rfl)
@[simp] theorem cn_str (x : Str) : Cn.d (.str x) = .str x := (rfl)
@[simp] theorem frz_tmp (s : Slot) : frz (.tmp s) env = s.data.map fun d => (d, env) := (rfl)
@[simp] theorem frz_pk (i : Nat) : frz (.pk i) env = match env.getD i .emp with
    | .emp => none
    | .val d => some (d, env)
    | .own d => some (d, env.set i (.val d)) := (rfl)
@[simp] theorem frzs_nil : frzs [] env = some ([], env) := (rfl)
@[simp] theorem frzs_cons (o : Opd) (os : List Opd) : frzs (o :: os) env = (frz o env).bind fun p => (frzs os p.2).map fun q => (p.1 :: q.1, q.2) := (rfl)
@[simp] theorem put_eq (pr : List Nat) (i : Nat) (s : Slot) : put pr i s env = if i ∈ pr ∨ ¬ i < env.length then none else some (env.set i s) := (rfl)
@[simp] theorem bnd_nm (pr : List Nat) (i : Nat) (d : D) : bnd pr (.nm i) d env = put pr i (.val d) env := by rw [bnd]
@[simp] theorem bnd_tp (pr : List Nat) (ts : List Tg) (ds : List D) : bnd pr (.tp ts) (.tup ds) env = bnds pr ts ds env := by rw [bnd]
@[simp] theorem bnds_nil (pr : List Nat) : bnds pr [] [] env = some env := by rw [bnds]
@[simp] theorem bnds_cons (pr : List Nat) (t : Tg) (ts : List Tg) (d : D) (ds : List D) : bnds pr (t :: ts) (d :: ds) env = (bnd pr t d env).bind (bnds pr ts ds) := by rw [bnds]
@[simp] theorem hasPk_nil (i : Nat) : hasPk i [] = false := (rfl)
@[simp] theorem hasPk_tmp (i : Nat) (s : Slot) (os : List Opd) : hasPk i (.tmp s :: os) = hasPk i os := by simp [hasPk]
@[simp] theorem hasPk_pk (i j : Nat) (os : List Opd) : hasPk i (.pk j :: os) = (i == j || hasPk i os) := by simp [hasPk]
@[simp] theorem badArg_tmp (s : Slot) (os : List Opd) : badArg (.tmp s) os env = match s with
    | .emp => true
    | _ => false := by cases s <;> rfl
@[simp] theorem badArg_pk (i : Nat) (os : List Opd) : badArg (.pk i) os env = match env.getD i .emp with
    | .emp => true
    | .val _ => false
    | .own _ => hasPk i os := by
  unfold badArg
  show (match env.getD i .emp with
    | .emp => true
    | .val _ => false
    | .own _ => hasPk i os) = _
  rfl
@[simp] theorem args_nil : args [] env = some [] := (rfl)
@[simp] theorem args_cons (o : Opd) (os : List Opd) : args (o :: os) env = match args os env with
    | none => none
    | some ss => if badArg o os env then none else some (o.slot env :: ss) := (rfl)
@[simp] theorem back_nil (ss : List Slot) : back [] ss env = env := by cases ss <;> rfl
@[simp] theorem back_pk (i : Nat) (os : List Opd) (s : Slot) (ss : List Slot) : back (.pk i :: os) (s :: ss) env = back os ss (if (env.getD i .emp).isOwn then env.set i s else env) := (rfl)
@[simp] theorem back_tmp (x : Slot) (os : List Opd) (s : Slot) (ss : List Slot) : back (.tmp x :: os) (s :: ss) env = back os ss env := (rfl)
@[simp] theorem wipeE_nil : wipeE env [] = env := (rfl)
@[simp] theorem wipeE_cons (v : Nat) (vs : List Nat) : wipeE env (v :: vs) = (wipeE env vs).set v .emp := (rfl)
@[simp] theorem unwipe_nil (e0 : Env) : unwipe e0 env [] = env := (rfl)
@[simp] theorem unwipe_cons (e0 : Env) (v : Nat) (vs : List Nat) : unwipe e0 env (v :: vs) = (unwipe e0 env vs).set v (e0.getD v .emp) := (rfl)
@[simp] theorem optI_nil : optI [] env = some none := (rfl)
@[simp] theorem optI_one (o : Opd) : optI [o] env = match o.data env with
    | some (.int i) => some (some i)
    | _ => none := (rfl)
@[simp] theorem ownL_tmp (s : Slot) : ownL (.tmp s) env = none := (rfl)
@[simp] theorem ownL_pk (i : Nat) : ownL (.pk i) env = match env.getD i .emp with
    | .own (.lst _) => some i
    | _ => none := (rfl)
@[simp] theorem ownD_tmp (s : Slot) : ownD (.tmp s) env = none := (rfl)
@[simp] theorem ownD_pk (i : Nat) : ownD (.pk i) env = match env.getD i .emp with
    | .own d => some (i, d)
    | _ => none := (rfl)
@[simp] theorem ownIx_nil (k : Nat) : ownIx k [] = [] := (rfl)
@[simp] theorem ownIx_cons (k : Nat) (s : Slot) (ss : List Slot) : ownIx k (s :: ss) = if s.isOwn then k :: ownIx (k + 1) ss else ownIx (k + 1) ss := (rfl)
@[simp] theorem given_nil (k : Nat) : given k [] env = [] := (rfl)
@[simp] theorem given_cons (k : Nat) (s : Slot) (ss : List Slot) : given k (s :: ss) env = (if s.isOwn then env.getD k .emp else .emp) :: given (k + 1) ss env := (rfl)
@[simp] theorem isStar_star (e : IE) : IE.isStar (.star e) = true := (rfl)
@[simp] theorem ns_nm (i : Nat) : IE.isStar (.nm i) = false := (rfl)
@[simp] theorem ns_cn (c : Cn) : IE.isStar (.cn c) = false := (rfl)
@[simp] theorem ns_gl (k : Nat) : IE.isStar (.gl k) = false := (rfl)
@[simp] theorem ns_bin (o : BOp) (a b : IE) : IE.isStar (.bin o a b) = false := (rfl)
@[simp] theorem ns_cmp (o : COp) (a b : IE) : IE.isStar (.cmp o a b) = false := (rfl)
@[simp] theorem ns_ch (o p : COp) (a b c : IE) : IE.isStar (.ch o p a b c) = false := (rfl)
@[simp] theorem ns_isc (n : Bool) (c : Cn) (a : IE) : IE.isStar (.isc n c a) = false := (rfl)
@[simp] theorem ns_nt (a : IE) : IE.isStar (.nt a) = false := (rfl)
@[simp] theorem ns_an (es : List IE) : IE.isStar (.an es) = false := (rfl)
@[simp] theorem ns_or (es : List IE) : IE.isStar (.or es) = false := (rfl)
@[simp] theorem ns_ix (a i : IE) : IE.isStar (.ix a i) = false := (rfl)
@[simp] theorem ns_sl (a : IE) (lo hi : List IE) : IE.isStar (.sl a lo hi) = false := (rfl)
@[simp] theorem ns_fd (a : IE) (f : Nat) : IE.isStar (.fd a f) = false := (rfl)
@[simp] theorem ns_cc (a : IE) (k : Nat) : IE.isStar (.cc a k) = false := (rfl)
@[simp] theorem ns_b1 (f : B1) (a : IE) : IE.isStar (.b1 f a) = false := (rfl)
@[simp] theorem ns_b2 (f : B2) (a b : IE) : IE.isStar (.b2 f a b) = false := (rfl)
@[simp] theorem ns_isi (a : IE) (c : Cls) : IE.isStar (.isi a c) = false := (rfl)
@[simp] theorem ns_tp (es : List IE) : IE.isStar (.tp es) = false := (rfl)
@[simp] theorem ns_ls (es : List IE) : IE.isStar (.ls es) = false := (rfl)
@[simp] theorem ns_d0 (b : Bool) : IE.isStar (.d0 b) = false := (rfl)
@[simp] theorem ns_call (j : Nat) (es : List IE) : IE.isStar (.call j es) = false := (rfl)
@[simp] theorem ns_meth (m : Nat) (o : IE) (es : List IE) : IE.isStar (.meth m o es) = false := (rfl)
@[simp] theorem ns_mk (c j : Nat) (es kws : List IE) : IE.isStar (.mk c j es kws) = false := (rfl)
@[simp] theorem ns_lc (vs : List Nat) (t : Tg) (it : It) (cs : List IE) (e : IE) : IE.isStar (.lc vs t it cs e) = false := (rfl)
@[simp] theorem ns_dc (vs : List Nat) (t : Tg) (it : It) (k v : IE) : IE.isStar (.dc vs t it k v) = false := (rfl)
@[simp] theorem ns_app (a e : IE) : IE.isStar (.app a e) = false := (rfl)
@[simp] theorem ns_ext (a e : IE) : IE.isStar (.ext a e) = false := (rfl)
@[simp] theorem itemsOf_lst (xs : List D) : itemsOf (.lst xs) = some xs := (rfl)
@[simp] theorem itemsOf_tup (xs : List D) : itemsOf (.tup xs) = some xs := (rfl)
@[simp] theorem itemsOf_dk (ks : List Key) (vs : List D) : itemsOf (.dk ks vs) = some (ks.map Key.d) := (rfl)
@[simp] theorem itemsOf_str (x : Str) : itemsOf (.str x) = some (x.cps.toList.map fun c => .str (chr c)) := (rfl)
@[simp] theorem enumOf_lst (xs : List D) : enumOf (.lst xs) = some (enumD 0 xs) := (rfl)
@[simp] theorem enumOf_tup (xs : List D) : enumOf (.tup xs) = some (enumD 0 xs) := (rfl)
/-! values -/
@[simp] theorem key_int (i : Int) : D.key (.int i) = some (.inl i) := (rfl)
@[simp] theorem key_str (x : Str) : D.key (.str x) = some (.inr x) := (rfl)
@[simp] theorem keys_nil : D.keys [] = some [] := (rfl)
@[simp] theorem keys_cons (d : D) (ds : List D) : D.keys (d :: ds) = match d.key, D.keys ds with
    | some v, some vs => some (v :: vs)
    | _, _ => none := (rfl)
@[simp] theorem keyd_int (i : Int) : Key.d (.inl i) = .int i := (rfl)
@[simp] theorem keyd_str (x : Str) : Key.d (.inr x) = .str x := (rfl)
@[simp] theorem flat_non : D.flat .non = some .non := (rfl)
@[simp] theorem flat_bl (b : Bool) : D.flat (.bl b) = some (.bl b) := (rfl)
@[simp] theorem flat_int (i : Int) : D.flat (.int i) = some (.int i) := (rfl)
@[simp] theorem flat_str (x : Str) : D.flat (.str x) = some (.str x) := (rfl)
@[simp] theorem flat_lst (xs : List D) : D.flat (.lst xs) = none := (rfl)
@[simp] theorem flat_tup (xs : List D) : D.flat (.tup xs) = none := (rfl)
@[simp] theorem cmp_eq (a b : D) : cmpD .eq a b = eqD a b := (rfl)
@[simp] theorem cmp_ne (a b : D) : cmpD .ne a b = (eqD a b).map (!·) := (rfl)
@[simp] theorem cmp_in (a b : D) : cmpD .inn a b = inD a b := (rfl)
@[simp] theorem cmp_nin (a b : D) : cmpD .nin a b = (inD a b).map (!·) := (rfl)
@[simp] theorem cmp_lt (i j : Int) : cmpD .lt (.int i) (.int j) = some (decide (i < j)) := (rfl)
@[simp] theorem cmp_le (i j : Int) : cmpD .le (.int i) (.int j) = some (decide (i ≤ j)) := (rfl)
@[simp] theorem cmp_gt (i j : Int) : cmpD .gt (.int i) (.int j) = some (decide (j < i)) := (rfl)
@[simp] theorem cmp_ge (i j : Int) : cmpD .ge (.int i) (.int j) = some (decide (j ≤ i)) := (rfl)
@[simp] theorem eqD_int (i j : Int) : eqD (.int i) (.int j) = some (decide (i = j)) := by unfold eqD; rfl
@[simp] theorem eqD_str (i j : Str) : eqD (.str i) (.str j) = some (decide (i = j)) := by unfold eqD; rfl
section
variable (oa ob : Opd)
@[simp] theorem bin_add_int (i j : Int) : binD .add (.int i) (.int j) oa ob = some (.tmp (.val (.int (i + j)))) := (rfl)
@[simp] theorem bin_sub_int (i j : Int) : binD .sub (.int i) (.int j) oa ob = some (.tmp (.val (.int (i - j)))) := (rfl)
@[simp] theorem bin_mul_int (i j : Int) : binD .mul (.int i) (.int j) oa ob = if i.natAbs < 18446744073709551616 || j.natAbs < 18446744073709551616 then some (.tmp (.val (.int (i * j)))) else none := (rfl)
@[simp] theorem bin_mod_int (i j : Int) : binD .mod (.int i) (.int j) oa ob = if 0 < j then some (.tmp (.val (.int (i % j)))) else none := (rfl)
@[simp] theorem bin_fdiv_int (i j : Int) : binD .fdiv (.int i) (.int j) oa ob = if 0 < j && j < 1073741824 then some (.tmp (.val (.int (i / j)))) else none := (rfl)
theorem bin_pow_int (i j : Int) : binD .pow (.int i) (.int j) oa ob = if 0 ≤ j && (Builtin.Int.intBits i : Int) * j ≤ 134217728 then some (.tmp (.val (.int (i ^ j.toNat)))) else none := (rfl)
@[simp] theorem bin_add_str (x y : Str) : binD .add (.str x) (.str y) oa ob = if x.length + y.length ≤ big then some (.tmp (.val (.str (x ++ y)))) else none := (rfl)
@[simp] theorem bin_add_lst (xs ys : List D) : binD .add (.lst xs) (.lst ys) oa ob = if xs.length + ys.length ≤ big then some (.tmp (.own (.lst (xs ++ ys)))) else none := (rfl)
@[simp] theorem bin_add_tup (xs ys : List D) : binD .add (.tup xs) (.tup ys) oa ob = if xs.length + ys.length ≤ big then some (if xs.isEmpty then ob else if ys.isEmpty then oa else .tmp (.own (.tup (xs ++ ys)))) else none := (rfl)
end
@[simp] theorem ix_lst (xs : List D) (k : Int) (m : Bool) : ixD (.lst xs) (.int k) m = atI xs k := (rfl)
@[simp] theorem ix_tup (xs : List D) (k : Int) (m : Bool) : ixD (.tup xs) (.int k) m = atI xs k := (rfl)
@[simp] theorem ix_str (x : Str) (k : Int) (m : Bool) : ixD (.str x) (.int k) m = if x.length ≤ big then (atI x.cps.toList k).map fun c => .str (chr c) else none := (rfl)
@[simp] theorem ix_dk (ks : List Key) (vs : List D) (k : D) (m : Bool) : ixD (.dk ks vs) k m = match k.key with
    | some k => getK ks vs k
    | none => none := by cases k <;> rfl
@[simp] theorem ix_dt (ks : List (List Key)) (vs : List D) (k : List D) : ixD (.dt ks vs) (.tup k) true = match D.keys k with
    | some k => getK ks vs k
    | none => none := by
  show (match D.keys k, true with
    | some k, true => getK ks vs k
    | _, _ => none) = _
  cases D.keys k <;> rfl
@[simp] theorem sl_lst (xs : List D) (lo hi : Option Int) (oa : Opd) : slD (.lst xs) lo hi oa = some (.tmp (.own (.lst (cutD xs lo hi)))) := (rfl)
@[simp] theorem sl_scr (ns : List Int) (lo hi : Option Int) (oa : Opd) : slD (.scr ns) lo hi oa = some (.tmp (.own (.lst (cutD (ns.map .int) lo hi)))) := (rfl)
@[simp] theorem sl_tup (xs : List D) (lo hi : Option Int) (oa : Opd) : slD (.tup xs) lo hi oa = if HT.sIx xs.length 0 lo = 0 ∧ HT.sIx xs.length xs.length hi = xs.length then some oa else some (.tmp (.own (.tup (cutD xs lo hi)))) := (rfl)
@[simp] theorem sl_str (x : Str) (lo hi : Option Int) (oa : Opd) : slD (.str x) lo hi oa = if x.length ≤ big then some (.tmp (.val (.str ⟨((x.cps.toList.drop (HT.sIx x.cps.size 0 lo)).take (HT.sIx x.cps.size x.cps.size hi - HT.sIx x.cps.size 0 lo)).toArray⟩))) else none := (rfl)
@[simp] theorem b1_len_lst (xs : List D) (oa : Opd) : b1D .len (.lst xs) oa = some (.tmp (.val (.int xs.length))) := (rfl)
@[simp] theorem b1_len_tup (xs : List D) (oa : Opd) : b1D .len (.tup xs) oa = some (.tmp (.val (.int xs.length))) := (rfl)
@[simp] theorem b1_len_str (x : Str) (oa : Opd) : b1D .len (.str x) oa = if x.length ≤ big then some (.tmp (.val (.int x.length))) else none := (rfl)
@[simp] theorem b1_len_dk (ks : List Key) (vs : List D) (oa : Opd) : b1D .len (.dk ks vs) oa = some (.tmp (.val (.int ks.length))) := (rfl)
@[simp] theorem b1_int_int (i : Int) (oa : Opd) : b1D .int (.int i) oa = some (.tmp (.val (.int i))) := (rfl)
@[simp] theorem b1_int_bl (b : Bool) (oa : Opd) : b1D .int (.bl b) oa = some (.tmp (.val (.int (if b then 1 else 0)))) := (rfl)
@[simp] theorem b1_abs (i : Int) (oa : Opd) : b1D .abs (.int i) oa = some (.tmp (.val (.int (if i < 0 then -i else i)))) := (rfl)
@[simp] theorem b1_sorted_lst (xs : List D) (oa : Opd) : b1D .sorted (.lst xs) oa = if sortable xs then some (.tmp (.own (.lst (sortD xs)))) else none := (rfl)
@[simp] theorem b1_sorted_dk (ks : List Key) (vs : List D) (oa : Opd) : b1D .sorted (.dk ks vs) oa = if sortable (ks.map Key.d) then some (.tmp (.own (.lst (sortD (ks.map Key.d))))) else none := (rfl)
@[simp] theorem b1_tuple_lst (xs : List D) (oa : Opd) : b1D .tuple (.lst xs) oa = some (.tmp (.own (.tup xs))) := (rfl)
@[simp] theorem b1_tuple_tup (xs : List D) (oa : Opd) : b1D .tuple (.tup xs) oa = some oa := (rfl)
@[simp] theorem b1_list_lst (xs : List D) (oa : Opd) : b1D .list (.lst xs) oa = some (.tmp (.own (.lst xs))) := (rfl)
@[simp] theorem b1_list_tup (xs : List D) (oa : Opd) : b1D .list (.tup xs) oa = some (.tmp (.own (.lst xs))) := (rfl)
@[simp] theorem b1_dict (ks : List Key) (vs : List D) (oa : Opd) : b1D .dict (.dk ks vs) oa = some (.tmp (.own (.dk ks vs))) := (rfl)
@[simp] theorem b1_all (xs : List D) (oa : Opd) : b1D .all (.lst xs) oa = (allB xs).map fun b => .tmp (.val (.bl b)) := (rfl)
@[simp] theorem b2_max_int (i j : Int) : b2D .max (.int i) (.int j) = some (.int (if j > i then j else i)) := (rfl)
@[simp] theorem b2_min_int (i j : Int) : b2D .min (.int i) (.int j) = some (.int (if j < i then j else i)) := (rfl)
@[simp] theorem b2_max_str (i j : Str) : b2D .max (.str i) (.str j) = some (.str (if i.cps.toList < j.cps.toList then j else i)) := (rfl)
@[simp] theorem b2_min_str (i j : Str) : b2D .min (.str i) (.str j) = some (.str (if j.cps.toList < i.cps.toList then j else i)) := (rfl)
@[simp] theorem allB_map {α : Type} (p : α → Bool) : ∀ xs : List α, allB (xs.map fun x => .bl (p x)) = some (xs.all p)
  | [] => rfl
  | x :: xs => by
    show (allB (xs.map fun x => .bl (p x))).map (p x && ·) = _
    rw [allB_map p xs]
    rfl
@[simp] theorem isD_non (a : D) : isD .non a = some (match a with | .non => true | _ => false) := (rfl)
@[simp] theorem isD_bl (b : Bool) (a : D) : isD (.bl b) a = some (match a with | .bl k => k == b | _ => false) := (rfl)
theorem isi_non (c : Cls) : isiD .non c = some (match c with | .own _ => false | _ => false) := (rfl)
@[simp] theorem isi_bl (b : Bool) (c : Cls) : isiD (.bl b) c = some (match c with | .int => true | .bool => true | _ => false) := (rfl)
@[simp] theorem isi_int (i : Int) (c : Cls) : isiD (.int i) c = some (match c with | .int => true | _ => false) := (rfl)
@[simp] theorem isi_str (x : Str) (c : Cls) : isiD (.str x) c = some (match c with | .str => true | _ => false) := (rfl)
@[simp] theorem isi_lst (x : List D) (c : Cls) : isiD (.lst x) c = some (match c with | .list => true | _ => false) := (rfl)
@[simp] theorem isi_tup (x : List D) (c : Cls) : isiD (.tup x) c = some (match c with | .tuple => true | _ => false) := (rfl)
@[simp] theorem isi_dk (k : List Key) (v : List D) (c : Cls) : isiD (.dk k v) c = some (match c with | .dict => true | _ => false) := (rfl)
@[simp] theorem set_lst (xs : List D) (j : Int) (m : Bool) (d : D) : setD (.lst xs) (.int j) m d = (ixN xs.length j).map fun j => .lst (xs.set j d) := (rfl)
@[simp] theorem set_dk (ks : List Key) (vs : List D) (k : D) (m : Bool) (d : D) : setD (.dk ks vs) k m d = match k.key with
    | some q => if ks.length < big then some (.dk (putKs ks q) (putVs ks vs q d)) else none
    | none => none := by cases k <;> rfl
@[simp] theorem set_dt (ks : List (List Key)) (vs : List D) (k : List D) (d : D) : setD (.dt ks vs) (.tup k) true d = match D.keys k with
    | some q => if ks.length < big then some (.dt (putKs ks q) (putVs ks vs q d)) else none
    | none => none := by
  show (match D.keys k with
    | some q => if true && decide (ks.length < big) then some (D.dt (putKs ks q) (putVs ks vs q d)) else none
    | none => none) = _
  simp
@[simp] theorem star_eq (o : Opd) : starD o env = match o.data env with
    | some (.lst xs) => some (xs.map fun d => .tmp (.val d))
    | some (.tup xs) => some (xs.map fun d => .tmp (.val d))
    | some (.dk ks _) => some (ks.map fun k => .tmp (.val (Key.d k)))
    | _ => none := (rfl)
end
/-! places -/
theorem atI_nat {α : Type} (xs : List α) (i : Nat) : atI xs (i : Int) = xs[i]? := by
  unfold atI ixN
  rw [if_pos (by omega)]
  by_cases h : i < xs.length
  · rw [if_pos (by omega)]
    rfl
  · rw [if_neg (by omega), List.getElem?_eq_none (by omega)]
    rfl
theorem atI_of {α : Type} (xs : List α) (k : Int) (h : 0 ≤ k) : atI xs k = xs[k.toNat]? := by
  obtain ⟨n, rfl⟩ := Int.eq_ofNat_of_zero_le h
  exact atI_nat xs n
@[simp] theorem atI_zero {α : Type} (x : α) (xs : List α) : atI (x :: xs) 0 = some x := by
  exact atI_nat (x :: xs) 0
@[simp] theorem atI_lit {α : Type} (xs : List α) (n : Nat) : atI xs (no_index (OfNat.ofNat n : Int)) = xs[n]? := atI_nat xs n
theorem ixN_of {n : Nat} {k : Int} (h : 0 ≤ k) (h2 : k < n) : ixN n k = some k.toNat := by
  unfold ixN
  rw [if_pos h, if_pos h2]
@[simp] theorem ixN_lit (n k : Nat) : ixN n (no_index (OfNat.ofNat k : Int)) = if k < n then some k else none := by
  unfold ixN
  have e : (OfNat.ofNat k : Int) = (k : Int) := (rfl)
  rw [e, if_pos (by omega)]
  by_cases h : k < n
  · rw [if_pos (by omega), if_pos h]; rfl
  · rw [if_neg (by omega), if_neg h]
theorem atI_map {α β : Type} (f : α → β) (xs : List α) (k : Int) : atI (xs.map f) k = (atI xs k).map f := by
  unfold atI
  rw [List.length_map]
  cases ixN xs.length k <;> simp
end Fm.Sx
namespace Fm.Sx
theorem of_if {α : Type} {c : Prop} [Decidable c] {a : α} {k : Kt α} (hc : c) (hq : k.q a) : @R.wp α (R.of (if c then some a else none)) k := by rw [if_pos hc]; exact hq
theorem if_wp {α : Type} {c : Prop} [Decidable c] {r s : R α} {k : Kt α} (hc : c) (hq : @R.wp α r k) : @R.wp α (if c then r else s) k := by rw [if_pos hc]; exact hq
theorem ifn_wp {α : Type} {c : Prop} [Decidable c] {r s : R α} {k : Kt α} (hc : ¬c) (hq : @R.wp α s k) : @R.wp α (if c then r else s) k := by rw [if_neg hc]; exact hq
end Fm.Sx
end

section
set_option Elab.async false
set_option linter.all false
set_option maxRecDepth 10000
set_option autoImplicit false
set_option maxHeartbeats 1000000
/-! data with a Lean type -/
namespace Fm.Sx
open PySem PySem.W L2
/-- a tuple of 5 -/
structure T5 (α β γ δ ε : Type) where
  a : α
  b : β
  c : γ
  d : δ
  e : ε
  deriving DecidableEq
theorem T5.same {α β γ δ ε : Type} : ∀ {p q : T5 α β γ δ ε}, p.a = q.a → p.b = q.b → p.c = q.c → p.d = q.d → p.e = q.e → p = q
  | ⟨_, _, _, _, _⟩, ⟨_, _, _, _, _⟩, rfl, rfl, rfl, rfl, rfl => rfl
section
variable {α β γ δ ε : Type} [DecidableEq α] [Datum α] [DecidableEq β] [Datum β] [DecidableEq γ] [Datum γ] [DecidableEq δ] [Datum δ] [DecidableEq ε] [Datum ε]
instance : Datum (T5 α β γ δ ε) where
  toD p := .tuple [Datum.toD p.a, Datum.toD p.b, Datum.toD p.c, Datum.toD p.d, Datum.toD p.e]
  plain p := by simp only [PyData.plain, PyData.plainAll, Datum.plain, Bool.and_self]
  eqv p q := by
    simp only [PyData.eqv, PyData.eqvAll, Datum.eqv, Bool.and_true]
    simp only [← Bool.decide_and]
    refine decide_eq_decide.mpr ⟨fun h => ?_, fun h => ?_⟩
    · obtain ⟨h1, h2, h3, h4, h5⟩ := h
      exact T5.same h1 h2 h3 h4 h5
    · subst h
      simp
  depth := max (max (max (Datum.depth α) (Datum.depth β)) (max (Datum.depth γ) (Datum.depth δ))) (Datum.depth ε) + 1
  depth_le p := by
    simp only [PyData.depth, PyData.depthAll]
    have h0 := Datum.depth_le p.a
    have h1 := Datum.depth_le p.b
    have h2 := Datum.depth_le p.c
    have h3 := Datum.depth_le p.d
    have h4 := Datum.depth_le p.e
    omega
end
class Enc (α : Type) [DecidableEq α] [Datum α] where
  d : α → D
  py : ∀ a, (d a).py = some (Datum.toD a)
  ok : α → Prop
  lay : ∀ a, ok a → (Datum.toD a).canLay0 = true
instance : Enc Int := ⟨.int, fun _ => rfl, fun _ => True, fun _ _ => rfl⟩
instance : Enc Str := ⟨.str, fun _ => rfl, fun x => PyData.strOk x = true, fun x h => by show PyData.canLay0 (.str x) = true; rw [PyData.canLay0]; exact h⟩
@[simp] theorem d_int (i : Int) : Enc.d i = .int i := (rfl)
@[simp] theorem d_str (x : Str) : Enc.d x = .str x := (rfl)
@[simp] theorem d_int_fun : (Enc.d : Int → D) = D.int := (rfl)
@[simp] theorem d_str_fun : (Enc.d : Str → D) = D.str := (rfl)
section
variable {α β γ δ ε : Type} [DecidableEq α] [Datum α] [Enc α] [DecidableEq β] [Datum β] [Enc β] [DecidableEq γ] [Datum γ] [Enc γ] [DecidableEq δ] [Datum δ] [Enc δ] [DecidableEq ε] [Datum ε] [Enc ε]
theorem pys_map : ∀ xs : List α, D.pys (xs.map Enc.d) = some (xs.map Datum.toD)
  | [] => by rw [List.map_nil, D.pys]; rfl
  | x :: xs => by rw [List.map_cons, D.pys, Enc.py, pys_map xs]; rfl
theorem pys_cons {d : D} {ds : List D} {p : PyData} {ps : List PyData} (h : d.py = some p) (hs : D.pys ds = some ps) : D.pys (d :: ds) = some (p :: ps) := by rw [D.pys, h, hs]
theorem lay_map : ∀ {xs : List α}, (∀ x ∈ xs, Enc.ok x) → PyData.canLayAll0 (xs.map Datum.toD) = true
  | [], _ => rfl
  | x :: xs, h => by
    rw [List.map_cons, PyData.canLayAll0, Enc.lay x (h x List.mem_cons_self), lay_map fun y hy => h y (List.mem_cons_of_mem _ hy)]
    rfl
instance : Enc (List α) where
  d xs := .lst (xs.map Enc.d)
  py xs := by rw [D.py, pys_map]; rfl
  ok xs := ∀ x ∈ xs, Enc.ok x
  lay xs h := by show PyData.canLay0 (.list _) = true; rw [PyData.canLay0]; exact lay_map h
instance : Enc (Tup α) where
  d t := .tup (t.items.map Enc.d)
  py t := by rw [D.py, pys_map]; rfl
  ok t := ∀ x ∈ t.items, Enc.ok x
  lay t h := by show PyData.canLay0 (.tuple _) = true; rw [PyData.canLay0]; exact lay_map h
instance : Enc (α × β) where
  d p := .tup [Enc.d p.1, Enc.d p.2]
  py p := by rw [D.py, pys_cons (Enc.py p.1) (pys_cons (Enc.py p.2) rfl)]; rfl
  ok p := Enc.ok p.1 ∧ Enc.ok p.2
  lay p h := by
    show PyData.canLay0 (.tuple _) = true
    simp only [PyData.canLay0, PyData.canLayAll0, Enc.lay _ h.1, Enc.lay _ h.2, Bool.and_self]
instance : Enc (T3 α β γ) where
  d p := .tup [Enc.d p.a, Enc.d p.b, Enc.d p.c]
  py p := by rw [D.py, pys_cons (Enc.py p.a) (pys_cons (Enc.py p.b) (pys_cons (Enc.py p.c) rfl))]; rfl
  ok p := Enc.ok p.a ∧ Enc.ok p.b ∧ Enc.ok p.c
  lay p h := by
    show PyData.canLay0 (.tuple _) = true
    simp only [PyData.canLay0, PyData.canLayAll0, Enc.lay _ h.1, Enc.lay _ h.2.1, Enc.lay _ h.2.2, Bool.and_self]
instance : Enc (T4 α β γ δ) where
  d p := .tup [Enc.d p.a, Enc.d p.b, Enc.d p.c, Enc.d p.d]
  py p := by rw [D.py, pys_cons (Enc.py p.a) (pys_cons (Enc.py p.b) (pys_cons (Enc.py p.c) (pys_cons (Enc.py p.d) rfl)))]; rfl
  ok p := Enc.ok p.a ∧ Enc.ok p.b ∧ Enc.ok p.c ∧ Enc.ok p.d
  lay p h := by
    show PyData.canLay0 (.tuple _) = true
    simp only [PyData.canLay0, PyData.canLayAll0, Enc.lay _ h.1, Enc.lay _ h.2.1, Enc.lay _ h.2.2.1, Enc.lay _ h.2.2.2, Bool.and_self]
instance : Enc (T5 α β γ δ ε) where
  d p := .tup [Enc.d p.a, Enc.d p.b, Enc.d p.c, Enc.d p.d, Enc.d p.e]
  py p := by rw [D.py, pys_cons (Enc.py p.a) (pys_cons (Enc.py p.b) (pys_cons (Enc.py p.c) (pys_cons (Enc.py p.d) (pys_cons (Enc.py p.e) rfl))))]; rfl
  ok p := Enc.ok p.a ∧ Enc.ok p.b ∧ Enc.ok p.c ∧ Enc.ok p.d ∧ Enc.ok p.e
  lay p h := by
    show PyData.canLay0 (.tuple _) = true
    simp only [PyData.canLay0, PyData.canLayAll0, Enc.lay _ h.1, Enc.lay _ h.2.1, Enc.lay _ h.2.2.1, Enc.lay _ h.2.2.2.1, Enc.lay _ h.2.2.2.2, Bool.and_self]
@[simp] theorem d_lst (xs : List α) : Enc.d xs = .lst (xs.map Enc.d) := (rfl)
@[simp] theorem d_tup (t : Tup α) : Enc.d t = .tup (t.items.map Enc.d) := (rfl)
@[simp] theorem d_pair (p : α × β) : Enc.d p = .tup [Enc.d p.1, Enc.d p.2] := (rfl)
@[simp] theorem d_t3 (p : T3 α β γ) : Enc.d p = .tup [Enc.d p.a, Enc.d p.b, Enc.d p.c] := (rfl)
@[simp] theorem d_t4 (p : T4 α β γ δ) : Enc.d p = .tup [Enc.d p.a, Enc.d p.b, Enc.d p.c, Enc.d p.d] := (rfl)
@[simp] theorem d_t5 (p : T5 α β γ δ ε) : Enc.d p = .tup [Enc.d p.a, Enc.d p.b, Enc.d p.c, Enc.d p.d, Enc.d p.e] := (rfl)
@[simp] theorem ok_int (i : Int) : Enc.ok i ↔ True := Iff.rfl
@[simp] theorem ok_str (x : Str) : Enc.ok x ↔ PyData.strOk x = true := Iff.rfl
@[simp] theorem ok_lst (xs : List α) : Enc.ok xs ↔ ∀ x ∈ xs, Enc.ok x := Iff.rfl
@[simp] theorem ok_tup (t : Tup α) : Enc.ok t ↔ ∀ x ∈ t.items, Enc.ok x := Iff.rfl
@[simp] theorem ok_pair (p : α × β) : Enc.ok p ↔ Enc.ok p.1 ∧ Enc.ok p.2 := Iff.rfl
@[simp] theorem ok_t3 (p : T3 α β γ) : Enc.ok p ↔ Enc.ok p.a ∧ Enc.ok p.b ∧ Enc.ok p.c := Iff.rfl
@[simp] theorem ok_t4 (p : T4 α β γ δ) : Enc.ok p ↔ Enc.ok p.a ∧ Enc.ok p.b ∧ Enc.ok p.c ∧ Enc.ok p.d := Iff.rfl
@[simp] theorem ok_t5 (p : T5 α β γ δ ε) : Enc.ok p ↔ Enc.ok p.a ∧ Enc.ok p.b ∧ Enc.ok p.c ∧ Enc.ok p.d ∧ Enc.ok p.e := Iff.rfl
/-! == -/
theorem eqD_py {a b : D} {x y : PyData} (ha : a.py = some x) (hb : b.py = some y) (sx : SeqAt.shaped x = true) (sy : SeqAt.shaped y = true) : eqD a b = some (PyData.eqv x y) := by
  have g : (match a.py, b.py with
    | some x, some y => if SeqAt.shaped x && SeqAt.shaped y then some (PyData.eqv x y) else none
    | _, _ => none) = some (PyData.eqv x y) := by
    rw [ha, hb]
    dsimp only
    rw [sx, sy]
    rfl
  unfold eqD
  split
  · rename_i i j
    have e1 : x = .int i := (Option.some.inj ha).symm
    have e2 : y = .int j := (Option.some.inj hb).symm
    rw [e1, e2]
    exact congrArg some (Datum.eqv i j).symm
  · rename_i i j
    have e1 : x = .str i := (Option.some.inj ha).symm
    have e2 : y = .str j := (Option.some.inj hb).symm
    rw [e1, e2]
    exact congrArg some (Datum.eqv i j).symm
  · exact g
theorem shaped_enc {a : α} (h : Enc.ok a) (hd : Datum.depth α ≤ 64 := by decide) : SeqAt.shaped (Datum.toD a) = true := by
  unfold SeqAt.shaped
  rw [Enc.lay a h, Bool.true_and]
  exact decide_eq_true (Nat.le_trans (Datum.depth_le a) hd)
theorem eqD_enc {a b : α} (ha : Enc.ok a) (hb : Enc.ok b) (hd : Datum.depth α ≤ 64 := by decide) : eqD (Enc.d a) (Enc.d b) = some (decide (a = b)) := by
  rw [eqD_py (Enc.py a) (Enc.py b) (shaped_enc ha hd) (shaped_enc hb hd), Datum.eqv]
theorem eqL_nil {xs : List α} (h : ∀ x ∈ xs, Enc.ok x) (hd : Datum.depth α ≤ 63 := by decide) : eqD (.lst (xs.map Enc.d)) (.lst []) = some (decide (xs = [])) :=
  eqD_enc (α := List α) (a := xs) (b := []) h (fun _ m => (List.not_mem_nil m).elim) (Nat.succ_le_succ hd)
theorem eqT_nil {xs : List α} (h : ∀ x ∈ xs, Enc.ok x) (hd : Datum.depth α ≤ 63 := by decide) : eqD (.tup (xs.map Enc.d)) (.tup []) = some (decide (xs = [])) := by
  rw [show eqD (.tup (xs.map Enc.d)) (.tup []) = some (decide ((⟨xs⟩ : Tup α) = ⟨[]⟩)) from eqD_enc (α := Tup α) (a := ⟨xs⟩) (b := ⟨[]⟩) h (fun _ m => (List.not_mem_nil m).elim) (Nat.succ_le_succ hd)]
  exact congrArg some (decide_eq_decide.mpr ⟨fun e => congrArg Tup.items e, fun e => by rw [e]⟩)
/-! in -/
theorem flats_strs : ∀ xs : List Str, D.flats (xs.map D.str) = some (xs.map V.str)
  | [] => rfl
  | x :: xs => by
    show (match (D.str x).flat, D.flats (xs.map D.str) with
      | some v, some vs => some (v :: vs)
      | _, _ => none) = _
    rw [flats_strs xs]
    rfl
theorem inV_strs (x : Str) (xs : List Str) : inV (.str x) (xs.map V.str) = decide (x ∈ xs) := by
  unfold inV
  rw [Bool.eq_iff_iff, List.any_eq_true, decide_eq_true_eq]
  constructor
  · rintro ⟨v, hv, e⟩
    obtain ⟨y, hy, rfl⟩ := List.mem_map.mp hv
    have e' : (y == x) = true := e
    rw [← eq_of_beq e']
    exact hy
  · intro h
    exact ⟨_, List.mem_map.mpr ⟨x, h, rfl⟩, show (x == x) = true by simp⟩
@[simp] theorem inD_strs (x : Str) (xs : List Str) : inD (.str x) (.lst (xs.map D.str)) = some (decide (x ∈ xs)) := by
  unfold inD
  dsimp only
  rw [flats_strs]
  exact congrArg some (inV_strs x xs)
@[simp] theorem inD_strsT (x : Str) (xs : List Str) : inD (.str x) (.tup (xs.map D.str)) = some (decide (x ∈ xs)) := by
  unfold inD
  dsimp only
  rw [flats_strs]
  exact congrArg some (inV_strs x xs)
theorem inD_list {a : α} {xs : List α} (hf : (Enc.d a).flat = none) (ha : Enc.ok a) (hs : ∀ x ∈ xs, Enc.ok x) (hd : Datum.depth α ≤ 63 := by decide) : inD (Enc.d a) (.lst (xs.map Enc.d)) = some (decide (a ∈ xs)) := by
  unfold inD
  dsimp only
  rw [hf]
  have h1 : SeqAt.shaped (.list (xs.map Datum.toD)) = true := shaped_enc (α := List α) (a := xs) hs (Nat.succ_le_succ hd)
  have h2 : SeqAt.shaped (Datum.toD a) = true := shaped_enc ha (Nat.le_succ_of_le hd)
  have e : ((xs.map Datum.toD).any fun z => PyData.eqv z (Datum.toD a)) = decide (a ∈ xs) := by
    rw [Bool.eq_iff_iff, List.any_eq_true, decide_eq_true_eq]
    constructor
    · rintro ⟨v, hv, e⟩
      obtain ⟨y, hy, rfl⟩ := List.mem_map.mp hv
      rw [Datum.eqv, decide_eq_true_eq] at e
      exact e ▸ hy
    · intro h
      exact ⟨_, List.mem_map.mpr ⟨a, h, rfl⟩, by rw [Datum.eqv, decide_eq_true_eq]⟩
  rw [Enc.py, pys_map]
  dsimp only
  rw [h1, h2, e]
  rfl
end
/-! dicts -/
section
variable {κ β : Type} [DecidableEq κ] [DecidableEq β]
def putS (ks : List β) (x : β) : List β := if x ∈ ks then ks else ks ++ [x]
def updF {γ : Type} (f : β → γ) (x : β) (y : γ) (z : β) : γ := if z = x then y else f z
theorem hasK_fn {K : β → κ} (inj : ∀ a b, K a = K b → a = b) (ks : List β) (x : β) : hasK (ks.map K) (K x) = decide (x ∈ ks) := by
  unfold hasK
  rw [Bool.eq_iff_iff, List.any_eq_true, decide_eq_true_eq]
  constructor
  · rintro ⟨v, hv, e⟩
    obtain ⟨y, hy, rfl⟩ := List.mem_map.mp hv
    rw [← inj _ _ (of_decide_eq_true e)]
    exact hy
  · intro h
    exact ⟨_, List.mem_map.mpr ⟨x, h, rfl⟩, by simp⟩
theorem getK_fn {K : β → κ} (inj : ∀ a b, K a = K b → a = b) (f : β → D) (x : β) : ∀ ks : List β, getK (ks.map K) (ks.map f) (K x) = if x ∈ ks then some (f x) else none
  | [] => rfl
  | k :: ks => by
    show (if K k = K x then some (f k) else getK (ks.map K) (ks.map f) (K x)) = _
    by_cases h : k = x
    · subst h
      simp
    · rw [if_neg fun e => h (inj _ _ e), getK_fn inj f x ks]
      have : x ≠ k := fun e => h e.symm
      simp [this]
theorem putKs_fn {K : β → κ} (inj : ∀ a b, K a = K b → a = b) (ks : List β) (x : β) : putKs (ks.map K) (K x) = (putS ks x).map K := by
  unfold putKs putS
  rw [hasK_fn inj]
  by_cases h : x ∈ ks <;> simp [h]
theorem map_upd_not {γ : Type} {f : β → γ} {x : β} {y : γ} : ∀ {ks : List β}, x ∉ ks → ks.map (updF f x y) = ks.map f
  | [], _ => rfl
  | k :: ks, h => by
    have h1 : k ≠ x := fun e => h (e ▸ List.mem_cons_self)
    rw [List.map_cons, List.map_cons, map_upd_not fun m => h (List.mem_cons_of_mem _ m)]
    simp [updF, h1]
theorem putVs_fn {K : β → κ} (inj : ∀ a b, K a = K b → a = b) (f : β → D) (x : β) (y : D) : ∀ {ks : List β}, ks.Nodup → putVs (ks.map K) (ks.map f) (K x) y = (putS ks x).map (updF f x y)
  | [], _ => by simp [putVs, putS, updF]
  | k :: ks, nd => by
    obtain ⟨n1, n2⟩ := List.nodup_cons.mp nd
    show (if K k = K x then y :: ks.map f else f k :: putVs (ks.map K) (ks.map f) (K x) y) = _
    by_cases h : k = x
    · subst h
      rw [if_pos rfl, putS, if_pos List.mem_cons_self, List.map_cons, map_upd_not n1]
      simp [updF]
    · have h' : x ≠ k := fun e => h e.symm
      rw [if_neg fun e => h (inj _ _ e), putVs_fn inj f x y n2]
      unfold putS
      by_cases m : x ∈ ks
      · simp [m, updF, h]
      · simp [m, h', updF, h]
theorem putS_nodup {ks : List β} {x : β} (h : ks.Nodup) : (putS ks x).Nodup := by
  unfold putS
  by_cases m : x ∈ ks
  · rw [if_pos m]; exact h
  · rw [if_neg m]
    rw [List.nodup_append]
    refine ⟨h, by simp, fun a ha b hb => ?_⟩
    rw [List.mem_singleton.mp hb]
    exact fun e => m (e ▸ ha)
theorem putS_mem {ks : List β} {x z : β} : z ∈ putS ks x ↔ z ∈ ks ∨ z = x := by
  unfold putS
  by_cases m : x ∈ ks
  · rw [if_pos m]
    exact ⟨.inl, fun h => h.elim id fun e => e ▸ m⟩
  · rw [if_neg m]
    simp
theorem putS_len {ks : List β} {x : β} : (putS ks x).length ≤ ks.length + 1 := by
  unfold putS
  by_cases m : x ∈ ks
  · rw [if_pos m]; omega
  · rw [if_neg m]; simp
end
theorem inr_inj : ∀ a b : Str, (Sum.inr a : Key) = Sum.inr b → a = b := fun _ _ h => Sum.inr.inj h
/-! ranges, numbered items, slices -/
theorem rangeD_eq : ∀ (n : Nat) (lo : Int), rangeD lo n = (List.range n).map fun (i : Nat) => D.int (lo + (i : Int))
  | 0, _ => rfl
  | n + 1, lo => by
    rw [rangeD, rangeD_eq n, List.range_succ_eq_map, List.map_cons, List.map_map]
    congr 1
    · simp
    · refine List.map_congr_left fun i _ => ?_
      show D.int _ = D.int _
      congr 1
      omega
theorem enumD_eq {α : Type} (f : α → D) : ∀ (xs : List α) (k : Nat), enumD k (xs.map f) = (xs.zipIdx k).map fun p => .tup [.int p.2, f p.1]
  | [], _ => rfl
  | x :: xs, k => by
    rw [List.map_cons, enumD, enumD_eq f xs, List.zipIdx_cons, List.map_cons]
theorem cutD_map {α : Type} (f : α → D) (xs : List α) (lo hi : Option Int) : cutD (xs.map f) lo hi = ((xs.drop (HT.sIx xs.length 0 lo)).take (HT.sIx xs.length xs.length hi - HT.sIx xs.length 0 lo)).map f := by
  unfold cutD
  rw [List.length_map, ← List.map_drop, ← List.map_take]
theorem cut_take {α : Type} (xs : List α) (k : Int) (h : 0 ≤ k) : (xs.drop (HT.sIx xs.length 0 none)).take (HT.sIx xs.length xs.length (some k) - HT.sIx xs.length 0 none) = xs.take k.toNat := by
  obtain ⟨n, rfl⟩ := Int.eq_ofNat_of_zero_le h
  rw [HT.sIx_none, HT.sIx_nat, List.drop_zero, Nat.sub_zero]
  rw [show ((n : Int)).toNat = n from rfl, ← List.take_eq_take_min]
theorem cut_drop {α : Type} (xs : List α) (k : Int) (h : 0 ≤ k) : (xs.drop (HT.sIx xs.length 0 (some k))).take (HT.sIx xs.length xs.length none - HT.sIx xs.length 0 (some k)) = xs.drop k.toNat := by
  obtain ⟨n, rfl⟩ := Int.eq_ofNat_of_zero_le h
  rw [HT.sIx_none, HT.sIx_nat, show ((n : Int)).toNat = n from rfl]
  rw [List.take_of_length_le (by rw [List.length_drop]; exact Nat.le_refl _)]
  by_cases hn : n ≤ xs.length
  · rw [Nat.min_eq_left hn]
  · rw [Nat.min_eq_right (by omega), List.drop_of_length_le (Nat.le_refl _), List.drop_of_length_le (by omega)]
theorem cutD_to (xs : List D) (k : Int) (h : 0 ≤ k) : cutD xs none (some k) = xs.take k.toNat := cut_take xs k h
theorem cutD_from (xs : List D) (k : Int) (h : 0 ≤ k) : cutD xs (some k) none = xs.drop k.toNat := cut_drop xs k h
@[simp] theorem cutD_to_lit (xs : List D) (n : Nat) : cutD xs none (some (no_index (OfNat.ofNat n : Int))) = xs.take n := cut_take xs (n : Int) (by omega)
@[simp] theorem cutD_from_lit (xs : List D) (n : Nat) : cutD xs (some (no_index (OfNat.ofNat n : Int))) none = xs.drop n := cut_drop xs (n : Int) (by omega)
@[simp] theorem sIx_no (n d : Nat) : HT.sIx n d none = d := (rfl)
@[simp] theorem sIx_lit (n d k : Nat) : HT.sIx n d (some (no_index (OfNat.ofNat k : Int))) = min k n := HT.sIx_nat n d k
theorem eqD_pair {a b c d : Str} (h1 : PyData.strOk a = true) (h2 : PyData.strOk b = true) (h3 : PyData.strOk c = true) (h4 : PyData.strOk d = true) : eqD (.tup [.str a, .str b]) (.tup [.str c, .str d]) = some (decide (a = c ∧ b = d)) := by
  rw [show eqD (.tup [.str a, .str b]) (.tup [.str c, .str d]) = some (decide (((a, b) : Str × Str) = (c, d))) from eqD_enc (α := Str × Str) (a := (a, b)) (b := (c, d)) ⟨h1, h2⟩ ⟨h3, h4⟩]
  exact congrArg some (decide_eq_decide.mpr (by rw [Prod.mk.injEq]))
end Fm.Sx
end

section
set_option Elab.async false
set_option linter.all false
set_option maxRecDepth 10000
set_option autoImplicit false
set_option maxHeartbeats 1000000
/-! sorted data with a Lean type -/
namespace Fm.Sx
open PySem PySem.W PyProof.Rows L2
section
variable {α β : Type} [DecidableEq α] [DatumOrd α] [DecidableEq β] [DatumOrd β]
def lq (a b : α) : Bool := !DatumOrd.lt b a
def sortL (xs : List α) : List α := xs.mergeSort lq
theorem lt_irr (a : α) : DatumOrd.lt a a = false := by rw [← DatumOrd.lt_eq, dataLt_self]
theorem lt_anti {a b : α} (h1 : DatumOrd.lt a b = false) (h2 : DatumOrd.lt b a = false) : a = b := by
  rw [← DatumOrd.lt_eq] at h1 h2
  have e : keyToks (Datum.toD a) = keyToks (Datum.toD b) := lex_total (O := itemOrd) _ _ h1 h2
  cases q : PyData.eqv (Datum.toD a) (Datum.toD b) with
  | true => rw [Datum.eqv, decide_eq_true_eq] at q; exact q
  | false =>
    have h := (toks_eqv _ _ (DatumOrd.alike a b)).2 q [] [Sum.inl 0]
    rw [e, List.append_nil] at h
    have h3 := lex_pre (keyToks (Datum.toD b)) [] [Sum.inl 0]
    rw [List.append_nil] at h3
    rw [h] at h3
    have h4 : PyProof.Rows.lexLt itemOrd (keyToks (Datum.toD b)) (keyToks (Datum.toD b)) = false := lex_irrefl (O := itemOrd) _
    rw [h4] at h3
    cases h3
theorem lt_trans' {a b c : α} (h1 : DatumOrd.lt a b = true) (h2 : DatumOrd.lt b c = true) : DatumOrd.lt a c = true := by
  rw [← DatumOrd.lt_eq] at *
  exact lex_trans (O := itemOrd) _ _ _ h1 h2
theorem lt_asym {a b : α} (h : DatumOrd.lt a b = true) : DatumOrd.lt b a = false := by
  cases e : DatumOrd.lt b a with
  | false => rfl
  | true =>
    have := lt_trans' h e
    rw [lt_irr] at this
    cases this
theorem lq_total (a b : α) : (lq a b || lq b a) = true := by
  unfold lq
  cases h : DatumOrd.lt b a with
  | false => rfl
  | true => rw [lt_asym h]; rfl
theorem lq_trans (a b c : α) (h1 : lq a b = true) (h2 : lq b c = true) : lq a c = true := by
  unfold lq at *
  rw [Bool.not_eq_true'] at *
  cases h : DatumOrd.lt c a with
  | false => rfl
  | true =>
    rw [← DatumOrd.lt_eq] at h h1 h2
    rcases lex_negTrans (O := itemOrd) (keyToks (Datum.toD c)) (keyToks (Datum.toD b)) (keyToks (Datum.toD a)) h with z | z
    · exact absurd z (by rw [show PyProof.Rows.lexLt itemOrd (keyToks (Datum.toD c)) (keyToks (Datum.toD b)) = false from h2]; exact Bool.false_ne_true)
    · exact absurd z (by rw [show PyProof.Rows.lexLt itemOrd (keyToks (Datum.toD b)) (keyToks (Datum.toD a)) = false from h1]; exact Bool.false_ne_true)
theorem lq_anti {a b : α} (h1 : lq a b = true) (h2 : lq b a = true) : a = b := by
  unfold lq at *
  rw [Bool.not_eq_true'] at *
  exact lt_anti h2 h1
theorem sortL_perm (xs : List α) : (sortL xs).Perm xs := List.mergeSort_perm xs lq
theorem sortL_sorted (xs : List α) : (sortL xs).Pairwise fun a b => lq a b = true := List.pairwise_mergeSort (le := lq) lq_trans lq_total xs
@[simp] theorem sortL_mem {xs : List α} {x : α} : x ∈ sortL xs ↔ x ∈ xs := (sortL_perm xs).mem_iff
@[simp] theorem sortL_len (xs : List α) : (sortL xs).length = xs.length := (sortL_perm xs).length_eq
theorem sortL_nodup {xs : List α} : (sortL xs).Nodup ↔ xs.Nodup := (sortL_perm xs).nodup_iff
theorem sorted_eq {xs ys : List α} (p : xs.Perm ys) (h1 : xs.Pairwise fun a b => lq a b = true) (h2 : ys.Pairwise fun a b => lq a b = true) : xs = ys := by
  induction xs generalizing ys with
  | nil => rw [p.nil_eq]
  | cons x xs ih =>
    cases ys with
    | nil => exact absurd p.length_eq (by simp)
    | cons y ys =>
      obtain ⟨a1, a2⟩ := List.pairwise_cons.mp h1
      obtain ⟨b1, b2⟩ := List.pairwise_cons.mp h2
      have e : x = y := by
        have m1 : x ∈ y :: ys := p.mem_iff.mp List.mem_cons_self
        have m2 : y ∈ x :: xs := p.mem_iff.mpr List.mem_cons_self
        rcases List.mem_cons.mp m1 with e | m1
        · exact e
        · rcases List.mem_cons.mp m2 with e | m2
          · exact e.symm
          · exact lq_anti (a1 y m2) (b1 x m1)
      subst e
      rw [ih (List.Perm.cons_inv p) a2 b2]
theorem sortL_congr {xs ys : List α} (p : xs.Perm ys) : sortL xs = sortL ys := sorted_eq ((sortL_perm xs).trans (p.trans (sortL_perm ys).symm)) (sortL_sorted xs) (sortL_sorted ys)
theorem sortL_id {xs : List α} (h : xs.Pairwise fun a b => lq a b = true) : sortL xs = xs := sorted_eq (sortL_perm xs) (sortL_sorted xs) h
theorem sortL_filter (p : α → Bool) (xs : List α) : (sortL xs).filter p = sortL (xs.filter p) :=
  sorted_eq (((sortL_perm xs).filter p).trans (sortL_perm _).symm) ((sortL_sorted xs).filter p) (sortL_sorted _)
/-- sorted by a part that decides -/
theorem sortL_map (f : α → β) (xs : List α) (h : ∀ a ∈ xs, ∀ b ∈ xs, lq a b = true → lq (f a) (f b) = true) : (sortL xs).map f = sortL (xs.map f) := by
  refine sorted_eq (((sortL_perm xs).map f).trans (sortL_perm _).symm) ?_ (sortL_sorted _)
  rw [List.pairwise_map]
  refine (List.Pairwise.and_mem.mp (sortL_sorted xs)).imp fun {a b} ⟨h1, h2, h3⟩ => h a (sortL_mem.mp h1) b (sortL_mem.mp h2) h3
end
section
variable {α : Type} [DecidableEq α] [o : DatumOrd α] [e : Enc α]
theorem leD_enc (a b : α) : leD (Enc.d a) (Enc.d b) = lq a b := by
  unfold leD
  rw [Enc.py, Enc.py]
  show (!dataLt (Datum.toD b) (Datum.toD a)) = _
  rw [DatumOrd.lt_eq]
  rfl
theorem sortD_enc (xs : List α) : sortD (xs.map Enc.d) = (sortL xs).map Enc.d := by
  unfold sortD sortL
  rw [List.map_mergeSort fun a _ b _ => (leD_enc a b).symm]
theorem sortable_enc (xs : List α) (hk : (∀ a : α, tup1 (Datum.toD a) = true) ∨ ∀ a : α, noTup (Datum.toD a) = true) (hd : Datum.depth α ≤ 60 := by decide) : sortable (xs.map Enc.d) = true := by
  unfold sortable
  rw [pys_map]
  dsimp only
  rw [Bool.and_eq_true, Bool.and_eq_true]
  refine ⟨⟨?_, ?_⟩, ?_⟩
  · rw [List.all_eq_true]
    intro x hx
    obtain ⟨a, _, rfl⟩ := List.mem_map.mp hx
    rw [List.all_eq_true]
    intro y hy
    obtain ⟨b, _, rfl⟩ := List.mem_map.mp hy
    exact DatumOrd.alike a b
  · rw [Bool.or_eq_true]
    refine hk.imp (fun h => ?_) fun h => ?_
    · rw [List.all_eq_true]
      intro x hx
      obtain ⟨a, _, rfl⟩ := List.mem_map.mp hx
      exact h a
    · rw [List.all_eq_true]
      intro x hx
      obtain ⟨a, _, rfl⟩ := List.mem_map.mp hx
      exact h a
  · rw [List.all_eq_true]
    intro x hx
    obtain ⟨a, _, rfl⟩ := List.mem_map.mp hx
    exact decide_eq_true (Nat.le_trans (Datum.depth_le a) hd)
end
@[simp] theorem sortable_strs (xs : List Str) : sortable (xs.map D.str) = true := sortable_enc (α := Str) xs (.inr fun _ => rfl)
@[simp] theorem sortD_strs (xs : List Str) : sortD (xs.map D.str) = (sortL xs).map D.str := sortD_enc (α := Str) xs
end Fm.Sx
end

section
set_option Elab.async false
set_option linter.all false
set_option maxRecDepth 10000
set_option autoImplicit false
set_option maxHeartbeats 1000000
/-! a dict's comprehension of new keys -/
namespace Fm.Sx
open PySem L2
theorem putKs_new {κ : Type} [DecidableEq κ] {ks : List κ} {x : κ} (h : x ∉ ks) : putKs ks x = ks ++ [x] := by
  unfold putKs
  have : hasK ks x = false := by
    unfold hasK
    rw [List.any_eq_false]
    intro y hy e
    exact h ((of_decide_eq_true e) ▸ hy)
  rw [this]
  rfl
theorem putVs_new {κ : Type} [DecidableEq κ] {x : κ} {y : D} : ∀ {ks : List κ} {ws : List D}, ks.length = ws.length → x ∉ ks → putVs ks ws x y = ws ++ [y]
  | [], [], _, _ => rfl
  | [], _ :: _, h, _ => by cases h
  | _ :: _, [], h, _ => by cases h
  | k :: ks, w :: ws, h, hx => by
    have h1 : ¬ k = x := fun e => hx (e ▸ List.mem_cons_self)
    show (if k = x then y :: ws else w :: putVs ks ws x y) = _
    rw [if_neg h1, putVs_new (by simpa using h) fun m => hx (List.mem_cons_of_mem _ m)]
    rfl
theorem dc_wp {α : Type} {env : Fm.Env} (enc : α → D) (xs : List α) (K : α → Key) (V : α → D) {vs : List Nat} {f : D → Fm.Env → R ((Key × D) × Fm.Env)} {k : Kt (Opd × Fm.Env)} {ds : List D} (hd : ds = xs.map enc) (hl : xs.length ≤ big) (nd : (xs.map K).Nodup)
    (hs : ∀ x ∈ xs, @R.wp _ (f (enc x) (wipeE env vs)) ⟨fun q => q.1 = (K x, V x) ∧ wipeE q.2 vs = wipeE env vs, NoE⟩)
    (he : k.q (.tmp (.own (.dk (xs.map K) (xs.map V))), env)) : @R.wp _ (dcE vs f ds env) k := by
  refine dturns_wp enc xs (fun pre ks ws e => ks = pre.map K ∧ ws = pre.map V ∧ wipeE e vs = wipeE env vs) hd ⟨rfl, rfl, rfl⟩ (fun pre x post ks ws e hx ⟨h1, h2, h3⟩ => ?_) fun ks ws e ⟨h1, h2, h3⟩ => by rw [unwipeL_back h3, h1, h2]; exact he
  have hm : x ∈ xs := by rw [← hx]; simp
  have hle : pre.length < xs.length := by rw [← hx]; simp
  rw [h3]
  refine wp_mono (hs x hm) (fun q ⟨q1, q2⟩ => ?_) fun _ _ _ h => h
  obtain ⟨⟨o, y⟩, e2⟩ := q
  dsimp only at q1 q2
  cases q1
  subst h1 h2
  have hn : K x ∉ pre.map K := by
    rw [← hx, List.map_append, List.nodup_append] at nd
    exact fun hm => nd.2.2 _ hm _ List.mem_cons_self rfl
  refine ⟨by rw [List.length_map]; omega, ?_, ?_, q2⟩
  · rw [putKs_new hn, List.map_append]; rfl
  · rw [putVs_new (by simp) hn, List.map_append]; rfl
end Fm.Sx
end

section
set_option Elab.async false
set_option linter.all false
set_option maxRecDepth 100000
set_option maxHeartbeats 0
/-! the text of the module in the intermediate form -/
namespace Kx
open PySem PySem.Spec PyProof.Rows L2 Fm
def top (i : Nat) : Stmt := PySem.Challenge.pw_highmeadow_k07_chronicles_read.main.body.getD i (.Pass ⟨0, 0, 0, 0⟩)
/-- law -/
def ilaw : Def := ⟨1, 13, [(.asg (.nm 1) (.call 1 [(.nm 0)])),
    (.asg (.nm 2) (.ls [(.cn (.int 2)), (.cn (.int 4)), (.cn (.int 3)), (.cn (.int 4)), (.cn (.int 5))])),
    (.ife (.cmp .eq (.call 2 [(.nm 1), (.cn (.int 8))]) (.cn (.int 0))) [(.asg (.nm 2) (.ls [(.cn (.int 6)), (.cn (.int 7)), (.cn (.int 3)), (.cn (.int 9)), (.cn (.int 9))]))] []),
    (.asg (.nm 3) (.call 3 [(.nm 1), (.nm 2)])),
    (.asg (.nm 4) (.call 4 [(.nm 1), (.nm 3), (.cn (.int 12))])),
    (.asg (.nm 5) (.ix (.nm 4) (.cn (.int 1)))),
    (.asg (.nm 6) (.call 5 [(.nm 3)])),
    (.asg (.nm 7) (.mk 1 6 [(.nm 6), (.b1 .dict (.ix (.nm 4) (.cn (.int 0)))), (.b1 .list (.nm 5))] [])),
    (.asg (.nm 8) (.call 7 [(.nm 3), (.nm 5)])),
    (.ife (.nt (.call 8 [(.nm 3), (.nm 6), (.nm 7), (.nm 5)])) [(.ret (.cn (.bl false)))] []),
    (.for_ (.nm 9) (.r1 (.bin .sub (.b1 .len (.nm 5)) (.cn (.int 1)))) [(.ife (.an [(.cmp .eq (.ix (.ix (.nm 5) (.nm 9)) (.cn (.int 0))) (.ix (.ix (.nm 5) (.bin .add (.nm 9) (.cn (.int 1)))) (.cn (.int 0)))), (.cmp .ne (.ix (.ix (.nm 5) (.nm 9)) (.cn (.int 1))) (.ix (.ix (.nm 5) (.bin .add (.nm 9) (.cn (.int 1)))) (.cn (.int 1))))]) [(.asg (.nm 12) (.bin .add (.bin .add (.sl (.nm 5) [] [(.nm 9)]) (.ls [(.ix (.nm 5) (.bin .add (.nm 9) (.cn (.int 1)))), (.ix (.nm 5) (.nm 9))])) (.sl (.nm 5) [(.bin .add (.nm 9) (.cn (.int 2)))] []))),
    (.ife (.nt (.call 8 [(.nm 3), (.nm 6), (.call 9 [(.nm 7), (.nm 9)]), (.nm 12)])) [(.ret (.cn (.bl false)))] []),
    (.ife (.nt (.call 10 [(.call 11 [(.nm 3), (.call 7 [(.nm 3), (.nm 12)])]), (.call 11 [(.nm 3), (.nm 8)])])) [(.ret (.cn (.bl false)))] [])] [])]),
    (.for_ (.nm 10) (.e (.call 12 [(.nm 1), (.nm 3), (.nm 8)])) [(.asg (.nm 11) (.call 13 [(.ix (.nm 10) (.cn (.int 0)))])),
    (.ife (.or [(.nt (.call 10 [(.call 14 [(.nm 6), (.nm 11)]), (.ix (.nm 10) (.cn (.int 1)))])), (.cmp .ne (.nm 11) (.ix (.nm 10) (.cn (.int 0))))]) [(.ret (.cn (.bl false)))] [])]),
    (.ret (.call 8 [(.nm 3), (.nm 6), (.nm 7), (.nm 5)]))]⟩
@[simp, reducible] def nlaw : Nat := 0
/-- _law_pool -/
def i_law_pool : Def := ⟨1, 4, [(.asg (.nm 1) (.lc [3] (.nm 3) (.e (.sl (.nm 0) [] [(.cn (.int 63))])) [] (.bin .mod (.b1 .int (.b1 .abs (.nm 3))) (.bin .pow (.bin .pow (.cn (.int 10)) (.cn (.int 60))) (.cn (.int 5)))))),
    (.asg (.nm 2) (.cn (.int 17))),
    (.for_ (.nm 3) (.e (.nm 1)) [(.asg (.nm 2) (.bin .mod (.b1 .int (.bin .add (.bin .add (.bin .mul (.nm 2) (.cn (.int 1000003))) (.nm 3)) (.cn (.int 1)))) (.cn (.int 2305843009213693951))))]),
    (.ret (.ls [(.nm 1), (.cn (.int 0)), (.cn (.int 0)), (.cn (.int 0)), (.nm 2)]))]⟩
@[simp, reducible] def n_law_pool : Nat := 1
/-- _law_draw -/
def i_law_draw : Def := ⟨2, 4, [(.ssub (.nm 0) (.cn (.int 3)) (.bin .add (.ix (.nm 0) (.cn (.int 3))) (.cn (.int 1)))),
    (.ife (.cmp .lt (.nm 1) (.cn (.int 2))) [(.ret (.cn (.int 0)))] []),
    (.ife (.cmp .ge (.ix (.nm 0) (.cn (.int 2))) (.nm 1)) [(.asg (.nm 2) (.bin .mod (.b1 .int (.ix (.nm 0) (.cn (.int 2)))) (.nm 1))),
    (.ssub (.nm 0) (.cn (.int 2)) (.bin .fdiv (.ix (.nm 0) (.cn (.int 2))) (.nm 1))),
    (.ret (.nm 2))] []),
    (.ife (.cmp .lt (.ix (.nm 0) (.cn (.int 1))) (.b1 .len (.ix (.nm 0) (.cn (.int 0))))) [(.asg (.nm 3) (.ix (.ix (.nm 0) (.cn (.int 0))) (.ix (.nm 0) (.cn (.int 1))))),
    (.ssub (.nm 0) (.cn (.int 1)) (.bin .add (.ix (.nm 0) (.cn (.int 1))) (.cn (.int 1)))),
    (.ife (.cmp .ge (.nm 3) (.bin .pow (.cn (.int 10)) (.cn (.int 18)))) [(.ssub (.nm 0) (.cn (.int 2)) (.bin .fdiv (.nm 3) (.nm 1))),
    (.ret (.bin .mod (.b1 .int (.nm 3)) (.nm 1)))] []),
    (.ret (.bin .mod (.b1 .int (.call 15 [(.nm 3), (.ix (.nm 0) (.cn (.int 3)))])) (.nm 1)))] []),
    (.ret (.bin .mod (.b1 .int (.call 15 [(.ix (.nm 0) (.cn (.int 4))), (.ix (.nm 0) (.cn (.int 3)))])) (.nm 1)))]⟩
@[simp, reducible] def n_law_draw : Nat := 2
/-- _law_field -/
def i_law_field : Def := ⟨2, 12, [(.asg (.nm 2) (.call 16 [(.nm 0), (.cn (.int 1)), (.ix (.nm 1) (.cn (.int 0)))])),
    (.asg (.nm 3) (.call 17 [(.nm 0), (.call 16 [(.nm 0), (.bin .add (.cn (.int 1)) (.b1 .int (.cmp .gt (.call 2 [(.nm 0), (.cn (.int 8))]) (.cn (.int 0))))), (.ix (.nm 1) (.cn (.int 1)))])])),
    (.asg (.nm 4) (.call 17 [(.nm 0), (.call 16 [(.nm 0), (.cn (.int 1)), (.ix (.nm 1) (.cn (.int 2)))])])),
    (.asg (.nm 5) (.ls [])),
    (.asg (.nm 6) (.b1 .int (.cmp .gt (.call 2 [(.nm 0), (.cn (.int 8))]) (.cn (.int 0))))),
    (.for_ (.nm 7) (.e (.call 17 [(.nm 0), (.bin .mul (.call 16 [(.nm 0), (.nm 6), (.ix (.nm 1) (.cn (.int 3)))]) (.b1 .int (.cmp .gt (.b1 .len (.nm 3)) (.cn (.int 1)))))])) [(.asg (.nm 10) (.call 2 [(.nm 0), (.b1 .len (.nm 3))])),
    (.xp (.app (.nm 5) (.tp [(.nm 7), (.ix (.nm 3) (.nm 10)), (.ix (.nm 3) (.bin .sub (.bin .sub (.nm 10) (.cn (.int 1))) (.call 2 [(.nm 0), (.bin .sub (.b1 .len (.nm 3)) (.cn (.int 1)))])))])))]),
    (.asg (.nm 8) (.ls [])),
    (.for_ (.nm 9) (.e (.nm 4)) [(.for_ (.nm 11) (.e (.nm 5)) [(.ife (.cmp .eq (.call 2 [(.nm 0), (.cn (.int 5))]) (.cn (.int 0))) [(.xp (.app (.nm 8) (.tp [(.nm 9), (.ix (.nm 11) (.cn (.int 0))), (.call 2 [(.nm 0), (.bin .add (.nm 2) (.cn (.int 1)))])])))] [])])]),
    (.ret (.ls [(.nm 2), (.nm 3), (.nm 4), (.nm 5), (.nm 8), (.call 18 [(.nm 0), (.nm 4), (.nm 5), (.ix (.nm 1) (.cn (.int 4)))])]))]⟩
@[simp, reducible] def n_law_field : Nat := 3
/-- _law_walk -/
def i_law_walk : Def := ⟨3, 5, [(.asg (.nm 3) (.d0 true)),
    (.for_ (.nm 4) (.e (.ix (.nm 1) (.cn (.int 2)))) [(.ssub (.nm 3) (.nm 4) (.ix (.ix (.nm 1) (.cn (.int 1))) (.call 2 [(.nm 0), (.b1 .len (.ix (.nm 1) (.cn (.int 1))))])))]),
    (.ret (.call 19 [(.nm 0), (.nm 1), (.nm 3), (.nm 2)]))]⟩
@[simp, reducible] def n_law_walk : Nat := 4
/-- _law_made -/
def i_law_made : Def := ⟨1, 3, [(.asg (.nm 1) (.lc [2] (.nm 2) (.e (.ix (.nm 0) (.cn (.int 5)))) [] (.tp [(.ix (.nm 2) (.cn (.int 0))), (.b1 .list (.ix (.nm 2) (.cn (.int 1)))), (.b1 .list (.ix (.nm 2) (.cn (.int 2))))]))),
    (.ret (.mk 0 20 [(.ix (.nm 0) (.cn (.int 0))), (.b1 .list (.ix (.nm 0) (.cn (.int 1)))), (.b1 .list (.ix (.nm 0) (.cn (.int 2)))), (.b1 .list (.ix (.nm 0) (.cn (.int 3))))] [(.b1 .list (.ix (.nm 0) (.cn (.int 4)))), (.nm 1)]))]⟩
@[simp, reducible] def n_law_made : Nat := 5
/-- Day.__init__ -/
def iDay___init__ : Def := ⟨4, 5, [(.xp (.call 21 [(.nm 1), (.nm 2)])),
    (.xp (.call 22 [(.nm 3), (.cc (.nm 0) 0)])),
    (.sfd (.nm 0) 0 (.nm 1)),
    (.sfd (.nm 0) 1 (.b1 .tuple (.lc [4] (.nm 4) (.e (.nm 3)) [] (.b1 .tuple (.nm 4))))),
    (.sfd (.nm 0) 2 (.b1 .dict (.nm 2))),
    (.sfd (.nm 0) 3 (.call 23 [(.nm 1), (.nm 2), (.fd (.nm 0) 1)])),
    (.sfd (.nm 0) 4 (.call 24 [(.nm 1), (.fd (.nm 0) 1)]))]⟩
@[simp, reducible] def nDay___init__ : Nat := 6
/-- _law_steps_of -/
def i_law_steps_of : Def := ⟨2, 7, [(.asg (.nm 2) (.d0 true)),
    (.for_ (.nm 3) (.r1 (.b1 .len (.nm 1))) [(.for_ (.nm 5) (.e (.call 25 [(.nm 0), (.ix (.ix (.nm 1) (.nm 3)) (.cn (.int 1))), (.ix (.ix (.nm 1) (.nm 3)) (.cn (.int 2)))])) [(.ssub (.nm 2) (.nm 5) (.nm 3))])]),
    (.asg (.nm 4) (.ls [])),
    (.for_ (.nm 3) (.r1 (.b1 .len (.nm 1))) [(.asg (.nm 6) (.b1 .tuple (.lc [5] (.nm 5) (.e (.b1 .sorted (.nm 2))) [(.cmp .eq (.ix (.nm 2) (.nm 5)) (.nm 3))] (.nm 5)))),
    (.ife (.cmp .ne (.nm 6) (.tp [])) [(.xp (.app (.nm 4) (.bin .add (.ix (.nm 1) (.nm 3)) (.tp [(.nm 6)]))))] [])]),
    (.ret (.b1 .tuple (.nm 4)))]⟩
@[simp, reducible] def n_law_steps_of : Nat := 7
/-- _law_right -/
def i_law_right : Def := ⟨4, 12, [(.asg (.nm 4) (.call 7 [(.nm 0), (.nm 3)])),
    (.asg (.nm 5) (.call 26 [(.nm 2)])),
    (.ife (.or [(.nt (.call 27 [(.nm 5)])), (.nt (.call 10 [(.nm 5), (.nm 4)]))]) [(.ret (.cn (.bl false)))] []),
    (.for_ (.nm 6) (.e (.ix (.nm 0) (.cn (.int 5)))) [(.asg (.nm 10) (.tp [(.cn (.int 0)), (.cn (.str "")), (.cn (.str "")), (.cn (.str ""))])),
    (.for_ (.nm 11) (.e (.nm 4)) [(.ife (.cmp .inn (.ix (.nm 6) (.cn (.int 0))) (.ix (.nm 11) (.cn (.int 4)))) [(.asg (.nm 10) (.sl (.nm 11) [] [(.cn (.int 4))]))] [])]),
    (.ife (.nt (.call 10 [(.meth 0 (.nm 2) [(.ix (.nm 6) (.cn (.int 0)))]), (.nm 10)])) [(.ret (.cn (.bl false)))] [])]),
    (.asg (.nm 7) (.call 11 [(.nm 0), (.nm 4)])),
    (.asg (.nm 8) (.call 29 [(.nm 1), (.nm 4)])),
    (.ife (.nt (.call 10 [(.nm 8), (.nm 7)])) [(.ret (.cn (.bl false)))] []),
    (.for_ (.nm 9) (.e (.nm 7)) [(.ssub (.nm 8) (.nm 9) (.bin .sub (.cn (.int 0)) (.cn (.int 1))))]),
    (.ssub (.nm 8) (.cn (.str "none")) (.cn (.int 5))),
    (.ret (.call 10 [(.call 29 [(.nm 1), (.b1 .list (.nm 4))]), (.nm 7)]))]⟩
@[simp, reducible] def n_law_right : Nat := 8
/-- exchange -/
def iexchange : Def := ⟨2, 5, [(.ife (.nt (.ch .le .le (.cn (.int 0)) (.nm 1) (.bin .sub (.b1 .len (.fd (.nm 0) 1)) (.cn (.int 2))))) [.never] []),
    (.asg (.nm 2) (.b1 .list (.fd (.nm 0) 1))),
    (.par2 3 4 (.ix (.nm 2) (.nm 1)) (.ix (.nm 2) (.bin .add (.nm 1) (.cn (.int 1))))),
    (.ife (.or [(.cmp .ne (.ix (.nm 3) (.cn (.int 0))) (.ix (.nm 4) (.cn (.int 0)))), (.cmp .eq (.ix (.nm 3) (.cn (.int 1))) (.ix (.nm 4) (.cn (.int 1))))]) [.never] []),
    (.ssub2 (.nm 2) (.nm 1) (.nm 2) (.bin .add (.nm 1) (.cn (.int 1))) (.tp [(.nm 4), (.nm 3)])),
    (.ret (.mk 1 6 [(.fd (.nm 0) 0), (.meth 1 (.nm 0) []), (.nm 2)] []))]⟩
@[simp, reducible] def nexchange : Nat := 9
/-- _law_same -/
def i_law_same : Def := ⟨2, 4, [(.ife (.isc false .non (.nm 1)) [(.ret (.isc false .non (.nm 0)))] []),
    (.ife (.isc false (.bl true) (.nm 1)) [(.ret (.isc false (.bl true) (.nm 0)))] []),
    (.ife (.isc false (.bl false) (.nm 1)) [(.ret (.isc false (.bl false) (.nm 0)))] []),
    (.ife (.isi (.nm 1) .int) [(.ret (.an [(.call 31 [(.nm 0)]), (.cmp .eq (.nm 0) (.nm 1))]))] []),
    (.ife (.isi (.nm 1) .str) [(.ret (.an [(.isi (.nm 0) .str), (.cmp .eq (.nm 0) (.nm 1))]))] []),
    (.ife (.isi (.nm 1) .dict) [(.ife (.or [(.nt (.isi (.nm 0) .dict)), (.cmp .ne (.b1 .len (.nm 0)) (.b1 .len (.nm 1)))]) [(.ret (.cn (.bl false)))] []),
    (.ret (.b1 .all (.lc [2] (.nm 2) (.e (.nm 1)) [] (.an [(.cmp .inn (.nm 2) (.nm 0)), (.call 10 [(.ix (.nm 0) (.nm 2)), (.ix (.nm 1) (.nm 2))])]))))] []),
    (.ife (.or [(.cmp .ne (.isi (.nm 1) .list) (.isi (.nm 0) .list)), (.cmp .ne (.isi (.nm 1) .tuple) (.isi (.nm 0) .tuple))]) [(.ret (.cn (.bl false)))] []),
    (.ret (.an [(.cmp .eq (.b1 .len (.nm 0)) (.b1 .len (.nm 1))), (.b1 .all (.lc [3] (.nm 3) (.r1 (.b1 .len (.nm 1))) [] (.call 10 [(.ix (.nm 0) (.nm 3)), (.ix (.nm 1) (.nm 3))])))]))]⟩
@[simp, reducible] def n_law_same : Nat := 10
/-- _law_hours_of -/
def i_law_hours_of : Def := ⟨2, 5, [(.asg (.nm 2) (.call 32 [(.nm 0)])),
    (.for_ (.nm 3) (.e (.nm 1)) [(.for_ (.nm 4) (.e (.ix (.nm 3) (.cn (.int 4)))) [(.ssub (.nm 2) (.nm 4) (.ix (.nm 3) (.cn (.int 0))))])]),
    (.ret (.nm 2))]⟩
@[simp, reducible] def n_law_hours_of : Nat := 11
/-- _law_wrong_rows -/
def i_law_wrong_rows : Def := ⟨3, 13, [(.asg (.nm 3) (.ls [])),
    (.ife (.cmp .eq (.nm 2) (.tp [])) [(.ret (.nm 3))] []),
    (.asg (.nm 4) (.call 2 [(.nm 0), (.b1 .len (.nm 2))])),
    (.asg (.nm 5) (.call 2 [(.nm 0), (.bin .add (.b1 .len (.ix (.ix (.nm 2) (.nm 4)) (.cn (.int 4)))) (.cn (.int 1)))])),
    (.asg (.nm 6) (.lc [11] (.nm 11) (.e (.ix (.nm 1) (.cn (.int 5)))) [] (.ix (.nm 11) (.cn (.int 0))))),
    (.asg (.nm 7) (.ix (.lc [12] (.nm 12) (.e (.call 17 [(.nm 0), (.bin .add (.b1 .len (.nm 6)) (.cn (.int 1)))])) [(.cmp .nin (.nm 12) (.nm 6))] (.nm 12)) (.cn (.int 0)))),
    (.xp (.app (.nm 3) (.ls [(.call 33 [(.nm 2), (.nm 4), (.nm 5), (.nm 7)]), (.ls [(.cn (.str "unknown")), (.nm 7), (.cn (.bl true)), (.cn (.bl true)), (.cn (.bl false))])]))),
    (.asg (.nm 8) (.b1 .list (.sl (.ix (.ix (.nm 2) (.nm 4)) (.cn (.int 4))) [] [(.nm 5)]))),
    (.for_ (.nm 9) (.e (.sl (.nm 2) [] [(.nm 4)])) [(.asg (.nm 8) (.bin .add (.nm 8) (.b1 .list (.ix (.nm 9) (.cn (.int 4))))))]),
    (.ife (.cmp .ne (.nm 8) (.ls [])) [(.asg (.nm 10) (.ix (.nm 8) (.call 2 [(.nm 0), (.b1 .len (.nm 8))]))),
    (.xp (.app (.nm 3) (.ls [(.call 33 [(.nm 2), (.nm 4), (.nm 5), (.nm 10)]), (.ls [(.cn (.str "twice")), (.nm 10), (.cn (.bl true)), (.cn (.bl true)), (.cn (.bl false))])])))] []),
    (.ret (.nm 3))]⟩
@[simp, reducible] def n_law_wrong_rows : Nat := 12
/-- _law_copied -/
def i_law_copied : Def := ⟨1, 2, [(.ret (.lc [1] (.nm 1) (.e (.nm 0)) [] (.bin .add (.sl (.nm 1) [] [(.cn (.int 4))]) (.tp [(.b1 .tuple (.b1 .list (.ix (.nm 1) (.cn (.int 4)))))]))))]⟩
@[simp, reducible] def n_law_copied : Nat := 13
/-- _law_hours_told -/
def i_law_hours_told : Def := ⟨2, 4, [(.asg (.nm 2) (.ls [(.cn (.str "hours")), (.d0 true)])),
    (.try_ [(.ssub (.nm 2) (.cn (.int 1)) (.call 29 [(.nm 0), (.nm 1)]))] [⟨4, 3, 2, [.cn (.str "unknown"), .fd, .is 2, .isv, .is 5]⟩, ⟨5, 3, 2, [.cn (.str "twice"), .fd, .is 2, .isv, .is 4]⟩]),
    (.ret (.nm 2))]⟩
@[simp, reducible] def n_law_hours_told : Nat := 14
/-- _law_mixed -/
def i_law_mixed : Def := ⟨2, 4, [(.asg (.nm 2) (.bin .mod (.b1 .int (.bin .add (.bin .add (.nm 0) (.bin .mul (.cn (.int 48271)) (.nm 1))) (.cn (.int 11)))) (.cn (.int 2147483647)))),
    (.asg (.nm 3) (.bin .mod (.b1 .int (.bin .add (.bin .add (.bin .mul (.nm 2) (.nm 2)) (.bin .mul (.cn (.int 69621)) (.nm 1))) (.cn (.int 5)))) (.cn (.int 2147483629)))),
    (.ret (.bin .mod (.b1 .int (.bin .add (.bin .add (.bin .mul (.nm 3) (.nm 3)) (.nm 2)) (.nm 1))) (.cn (.int 2147483587))))]⟩
@[simp, reducible] def n_law_mixed : Nat := 15
/-- _law_size -/
def i_law_size : Def := ⟨3, 3, [(.ife (.cmp .eq (.call 2 [(.nm 0), (.cn (.int 2))]) (.cn (.int 0))) [(.ret (.b2 .max (.nm 1) (.bin .sub (.nm 2) (.call 2 [(.nm 0), (.cn (.int 2))]))))] []),
    (.ret (.bin .add (.nm 1) (.call 2 [(.nm 0), (.bin .add (.bin .sub (.nm 2) (.nm 1)) (.cn (.int 1)))])))]⟩
@[simp, reducible] def n_law_size : Nat := 16
/-- _law_names -/
def i_law_names : Def := ⟨2, 10, [(.asg (.nm 2) (.cn (.str "abcdefghijklmnopqrstuvwxyz"))),
    (.asg (.nm 3) (.call 2 [(.nm 0), (.cn (.int 4))])),
    (.asg (.nm 4) (.ix (.nm 2) (.call 2 [(.nm 0), (.cn (.int 26))]))),
    (.asg (.nm 5) (.ls [])),
    (.for_ (.nm 6) (.r1 (.nm 1)) [(.asg (.nm 7) (.nm 4)),
    (.ife (.cmp .ne (.nm 3) (.cn (.int 1))) [(.asg (.nm 7) (.ix (.nm 2) (.call 2 [(.nm 0), (.cn (.int 26))])))] []),
    (.for_ (.nm 8) (.r1 (.call 2 [(.nm 0), (.cn (.int 4))])) [(.asg (.nm 7) (.bin .add (.nm 7) (.ix (.cn (.str "0123456789")) (.call 2 [(.nm 0), (.cn (.int 10))]))))]),
    (.ife (.cmp .inn (.nm 7) (.nm 5)) [(.asg (.nm 7) (.ix (.lc [9] (.nm 9) (.e (.nm 2)) [(.cmp .nin (.nm 9) (.nm 5))] (.nm 9)) (.cn (.int 0))))] []),
    (.xp (.app (.nm 5) (.nm 7)))]),
    (.ret (.nm 5))]⟩
@[simp, reducible] def n_law_names : Nat := 17
/-- _law_posts -/
def i_law_posts : Def := ⟨4, 7, [(.ife (.or [(.cmp .eq (.nm 2) (.ls [])), (.cmp .eq (.nm 3) (.cn (.int 0)))]) [(.ret (.ls []))] []),
    (.ife (.cmp .eq (.call 2 [(.nm 0), (.cn (.int 2))]) (.cn (.int 0))) [(.ret (.lc [6] (.nm 6) (.e (.sl (.nm 2) [] [(.nm 3)])) [] (.tp [(.ix (.nm 6) (.cn (.int 0))), (.b1 .list (.nm 1)), (.ls [(.ix (.nm 6) (.cn (.int 0)))])])))] []),
    (.asg (.nm 4) (.call 17 [(.nm 0), (.call 16 [(.nm 0), (.b1 .int (.cmp .gt (.call 2 [(.nm 0), (.cn (.int 8))]) (.cn (.int 0)))), (.nm 3)])])),
    (.ret (.lc [5] (.nm 5) (.e (.nm 4)) [] (.tp [(.nm 5), (.call 34 [(.nm 0), (.nm 1)]), (.call 34 [(.nm 0), (.lc [6] (.nm 6) (.e (.nm 2)) [] (.ix (.nm 6) (.cn (.int 0))))])])))]⟩
@[simp, reducible] def n_law_posts : Nat := 18
/-- _law_walk_on -/
def i_law_walk_on : Def := ⟨4, 10, [(.asg (.nm 4) (.b1 .dict (.nm 2))),
    (.asg (.nm 5) (.ls [])),
    (.asg (.nm 6) (.cn (.int 1))),
    (.for_ (.nm 7) (.r1 (.call 2 [(.nm 0), (.bin .add (.nm 3) (.cn (.int 1)))])) [(.asg (.nm 6) (.b2 .min (.ix (.nm 1) (.cn (.int 0))) (.bin .add (.nm 6) (.ix (.ls [(.cn (.int 0)), (.cn (.int 0)), (.cn (.int 1)), (.cn (.int 0)), (.cn (.int 2))]) (.call 2 [(.nm 0), (.cn (.int 5))]))))),
    (.asg (.nm 8) (.call 35 [(.nm 1), (.nm 4), (.nm 6)])),
    (.ife (.cmp .ne (.nm 8) (.ls [])) [(.asg (.nm 9) (.ix (.nm 8) (.call 2 [(.nm 0), (.b1 .len (.nm 8))]))),
    (.xp (.app (.nm 5) (.tp [(.nm 6), (.ix (.nm 9) (.cn (.int 0))), (.ix (.nm 9) (.cn (.int 1))), (.ix (.nm 9) (.cn (.int 2)))]))),
    (.ssub (.nm 4) (.ix (.nm 9) (.cn (.int 0))) (.ix (.nm 9) (.cn (.int 2))))] [])]),
    (.ret (.ls [(.nm 2), (.nm 5), (.nm 4)]))]⟩
@[simp, reducible] def n_law_walk_on : Nat := 19
/-- Meadow.__init__ -/
def iMeadow___init__ : Def := ⟨7, 11, [(.ife (.nt (.ch .le .le (.cn (.int 1)) (.nm 1) (.cc (.nm 0) 1))) [.never] []),
    (.xp (.call 36 [(.nm 2), (.cc (.nm 0) 2)])),
    (.xp (.call 36 [(.nm 3), (.cc (.nm 0) 3)])),
    (.xp (.call 37 [(.nm 4), (.cc (.nm 0) 4), (.nm 2)])),
    (.asg (.nm 7) (.call 38 [(.nm 4)])),
    (.xp (.call 39 [(.nm 5), (.nm 3), (.nm 7), (.nm 1)])),
    (.xp (.call 40 [(.nm 6), (.cc (.nm 0) 5), (.nm 3), (.nm 7)])),
    (.sfd (.nm 0) 5 (.nm 1)),
    (.sfd (.nm 0) 6 (.b1 .tuple (.b1 .sorted (.nm 2)))),
    (.sfd (.nm 0) 7 (.b1 .tuple (.b1 .sorted (.nm 3)))),
    (.sfd (.nm 0) 8 (.call 41 [(.nm 4)])),
    (.sfd (.nm 0) 9 (.call 42 [(.nm 5), (.nm 1)])),
    (.sfd (.nm 0) 10 (.call 43 [(.nm 6)])),
    (.sfd (.nm 0) 11 (.dc [8, 9, 10] (.tp [(.nm 8), (.nm 9), (.nm 10)]) (.e (.fd (.nm 0) 8)) (.nm 8) (.tp [(.nm 9), (.nm 10)]))),
    (.sfd (.nm 0) 12 (.call 44 [(.nm 1), (.fd (.nm 0) 7), (.nm 7), (.fd (.nm 0) 9)])),
    (.sfd (.nm 0) 13 (.call 45 [(.fd (.nm 0) 7), (.nm 7), (.fd (.nm 0) 10)])),
    (.sfd (.nm 0) 14 (.call 46 [(.fd (.nm 0) 10), (.fd (.nm 0) 12), (.fd (.nm 0) 11)]))]⟩
@[simp, reducible] def nMeadow___init__ : Nat := 20
/-- check_placing -/
def icheck_placing : Def := ⟨2, 3, [(.for_ (.nm 2) (.e (.b1 .sorted (.ls [(.star (.fd (.nm 0) 7)), (.star (.nm 1))]))) [(.ife (.or [(.cmp .nin (.nm 2) (.fd (.nm 0) 7)), (.cmp .nin (.nm 2) (.nm 1))]) [.never] []),
    (.ife (.cmp .nin (.ix (.nm 1) (.nm 2)) (.fd (.nm 0) 6)) [.never] [])])]⟩
@[simp, reducible] def ncheck_placing : Nat := 21
/-- check_count -/
def icheck_count : Def := ⟨2, 2, [(.ife (.cmp .gt (.b1 .len (.nm 0)) (.nm 1)) [.never] [])]⟩
@[simp, reducible] def ncheck_count : Nat := 22
/-- placings_of_goings -/
def iplacings_of_goings : Def := ⟨3, 8, [(.asg (.nm 3) (.b1 .dict (.nm 1))),
    (.asg (.nm 4) (.ls [(.b1 .dict (.nm 1))])),
    (.asg (.nm 5) (.cn (.int 1))),
    (.for_ (.tp [(.nm 6), (.nm 7)]) (.en (.nm 2)) [(.ife (.nt (.call 47 [(.nm 0), (.nm 3), (.nm 5), (.nm 7)])) [.never] []),
    (.asg (.nm 5) (.ix (.nm 7) (.cn (.int 0)))),
    (.ssub (.nm 3) (.ix (.nm 7) (.cn (.int 1))) (.ix (.nm 7) (.cn (.int 3)))),
    (.xp (.app (.nm 4) (.b1 .dict (.nm 3))))]),
    (.ret (.b1 .tuple (.nm 4)))]⟩
@[simp, reducible] def nplacings_of_goings : Nat := 23
/-- last_indexes -/
def ilast_indexes : Def := ⟨2, 7, [(.asg (.nm 2) (.d0 true)),
    (.for_ (.nm 3) (.e (.call 38 [(.fd (.nm 0) 10)])) [(.ssub (.nm 2) (.nm 3) (.cn (.int (-1))))]),
    (.for_ (.tp [(.nm 4), (.nm 5)]) (.en (.nm 1)) [(.for_ (.nm 6) (.e (.meth 2 (.nm 0) [(.ix (.nm 5) (.cn (.int 1))), (.ix (.nm 5) (.cn (.int 2)))])) [(.ssub (.nm 2) (.nm 6) (.nm 4))])]),
    (.ret (.nm 2))]⟩
@[simp, reducible] def nlast_indexes : Nat := 24
/-- _law_over -/
def i_law_over : Def := ⟨3, 4, [(.ret (.b1 .sorted (.lc [3] (.nm 3) (.e (.ix (.nm 0) (.cn (.int 5)))) [(.an [(.cmp .inn (.nm 1) (.ix (.nm 3) (.cn (.int 1)))), (.cmp .inn (.nm 2) (.ix (.nm 3) (.cn (.int 2))))])] (.ix (.nm 3) (.cn (.int 0))))))]⟩
@[simp, reducible] def n_law_over : Nat := 25
/-- chronicle -/
def ichronicle : Def := ⟨1, 7, [(.asg (.nm 1) (.ls [])),
    (.for_ (.tp [(.nm 2), (.nm 3)]) (.en (.fd (.nm 0) 1)) [(.asg (.nm 4) (.meth 2 (.fd (.nm 0) 0) [(.ix (.nm 3) (.cn (.int 1))), (.ix (.nm 3) (.cn (.int 2)))])),
    (.asg (.nm 5) (.b1 .tuple (.lc [6] (.nm 6) (.e (.nm 4)) [(.cmp .eq (.meth 3 (.nm 0) [(.nm 6)]) (.nm 2))] (.nm 6)))),
    (.ife (.cmp .ne (.nm 5) (.tp [])) [(.xp (.app (.nm 1) (.tp [(.star (.nm 3)), (.nm 5)])))] [])]),
    (.ret (.b1 .tuple (.nm 1)))]⟩
@[simp, reducible] def nchronicle : Nat := 26
/-- _law_is_row -/
def i_law_is_row : Def := ⟨1, 2, [(.ret (.an [(.isi (.nm 0) .tuple), (.b1 .all (.lc [1] (.nm 1) (.e (.nm 0)) [] (.call 50 [(.nm 1)])))]))]⟩
@[simp, reducible] def n_law_is_row : Nat := 27
/-- Day.shown -/
def iDay_shown : Def := ⟨2, 3, [(.asg (.nm 2) (.meth 3 (.nm 0) [(.nm 1)])),
    (.ife (.cmp .lt (.nm 2) (.cn (.int 0))) [(.ret (.gl 0))] []),
    (.ret (.ix (.fd (.nm 0) 1) (.nm 2)))]⟩
@[simp, reducible] def nDay_shown : Nat := 28
/-- step_hours -/
def istep_hours : Def := ⟨2, 8, [(.asg (.nm 2) (.call 51 [(.nm 0)])),
    (.asg (.nm 3) (.ls [])),
    (.for_ (.tp [(.nm 4), (.nm 5), (.nm 5), (.nm 5), (.nm 6)]) (.e (.nm 1)) [(.for_ (.nm 7) (.e (.nm 6)) [(.ife (.cmp .nin (.nm 7) (.nm 2)) [(.raise 4 [(.nm 7)])] []),
    (.ife (.cmp .inn (.nm 7) (.nm 3)) [(.raise 5 [(.nm 7)])] []),
    (.xp (.app (.nm 3) (.nm 7))),
    (.ssub (.nm 2) (.nm 7) (.nm 4))])]),
    (.ret (.nm 2))]⟩
@[simp, reducible] def nstep_hours : Nat := 29
/-- Day.starts -/
def iDay_starts : Def := ⟨1, 1, [(.ret (.b1 .dict (.fd (.nm 0) 2)))]⟩
@[simp, reducible] def nDay_starts : Nat := 30
/-- _law_is_number -/
def i_law_is_number : Def := ⟨1, 1, [(.ret (.an [(.isi (.nm 0) .int), (.nt (.isi (.nm 0) .bool))]))]⟩
@[simp, reducible] def n_law_is_number : Nat := 31
/-- _law_zeros -/
def i_law_zeros : Def := ⟨1, 3, [(.asg (.nm 1) (.d0 true)),
    (.for_ (.nm 2) (.e (.ix (.nm 0) (.cn (.int 5)))) [(.ssub (.nm 1) (.ix (.nm 2) (.cn (.int 0))) (.cn (.int 0)))]),
    (.ret (.nm 1))]⟩
@[simp, reducible] def n_law_zeros : Nat := 32
/-- _law_with_sign -/
def i_law_with_sign : Def := ⟨4, 7, [(.asg (.nm 4) (.lc [6] (.nm 6) (.e (.nm 0)) [] (.nm 6))),
    (.asg (.nm 5) (.b1 .list (.ix (.ix (.nm 4) (.nm 1)) (.cn (.int 4))))),
    (.ssub (.nm 4) (.nm 1) (.bin .add (.sl (.ix (.nm 4) (.nm 1)) [] [(.cn (.int 4))]) (.tp [(.b1 .tuple (.bin .add (.bin .add (.sl (.nm 5) [] [(.nm 2)]) (.ls [(.nm 3)])) (.sl (.nm 5) [(.nm 2)] [])))]))),
    (.ret (.nm 4))]⟩
@[simp, reducible] def n_law_with_sign : Nat := 33
/-- _law_some -/
def i_law_some : Def := ⟨2, 4, [(.asg (.nm 2) (.lc [3] (.nm 3) (.e (.nm 1)) [(.cmp .eq (.call 2 [(.nm 0), (.cn (.int 2))]) (.cn (.int 0)))] (.nm 3))),
    (.ret (.bin .add (.nm 2) (.sl (.nm 1) [] [(.b1 .int (.cmp .eq (.nm 2) (.ls [])))])))]⟩
@[simp, reducible] def n_law_some : Nat := 34
/-- _law_moves -/
def i_law_moves : Def := ⟨3, 6, [(.asg (.nm 3) (.ls [])),
    (.for_ (.nm 4) (.e (.ix (.nm 0) (.cn (.int 2)))) [(.for_ (.nm 5) (.e (.ix (.nm 0) (.cn (.int 3)))) [(.ife (.an [(.cmp .inn (.ix (.nm 1) (.nm 4)) (.sl (.nm 5) [(.cn (.int 1))] [])), (.cmp .ge (.call 52 [(.nm 0), (.nm 4), (.ix (.nm 5) (.cn (.int 0)))]) (.nm 2))]) [(.xp (.app (.nm 3) (.tp [(.nm 4), (.ix (.nm 5) (.cn (.int 0))), (.ix (.nm 5) (.bin .add (.cn (.int 1)) (.b1 .int (.cmp .eq (.ix (.nm 1) (.nm 4)) (.ix (.nm 5) (.cn (.int 1)))))))])))] [])])]),
    (.ret (.nm 3))]⟩
@[simp, reducible] def n_law_moves : Nat := 35
/-- check_names -/
def icheck_names : Def := ⟨2, 4, [(.xp (.call 22 [(.nm 0), (.nm 1)])),
    (.ife (.cmp .eq (.b1 .len (.nm 0)) (.cn (.int 0))) [.never] []),
    (.for_ (.tp [(.nm 2), (.nm 3)]) (.en (.nm 0)) [(.xp (.call 53 [(.nm 3), (.sl (.nm 0) [] [(.nm 2)])]))])]⟩
@[simp, reducible] def ncheck_names : Nat := 36
/-- check_paths -/
def icheck_paths : Def := ⟨3, 5, [(.xp (.call 22 [(.nm 0), (.nm 1)])),
    (.for_ (.tp [(.nm 3), (.nm 4)]) (.en (.nm 0)) [(.xp (.call 54 [(.nm 4), (.call 38 [(.sl (.nm 0) [] [(.nm 3)])]), (.nm 2)]))])]⟩
@[simp, reducible] def ncheck_paths : Nat := 37
/-- names_in -/
def inames_in : Def := ⟨1, 2, [(.ret (.lc [1] (.nm 1) (.e (.nm 0)) [] (.ix (.nm 1) (.cn (.int 0)))))]⟩
@[simp, reducible] def nnames_in : Nat := 38
/-- check_gates -/
def icheck_gates : Def := ⟨4, 10, [(.for_ (.tp [(.nm 4), (.nm 5)]) (.en (.nm 0)) [(.asg (.nm 6) (.lc [7, 8, 9] (.tp [(.nm 7), (.nm 8), (.nm 9)]) (.e (.sl (.nm 0) [] [(.nm 4)])) [] (.tp [(.nm 7), (.nm 8)]))),
    (.xp (.call 55 [(.nm 5), (.nm 6), (.nm 1), (.nm 2), (.nm 3)]))])]⟩
@[simp, reducible] def ncheck_gates : Nat := 39
/-- check_signs -/
def icheck_signs : Def := ⟨4, 6, [(.xp (.call 22 [(.nm 0), (.nm 1)])),
    (.for_ (.tp [(.nm 4), (.nm 5)]) (.en (.nm 0)) [(.xp (.call 56 [(.nm 5), (.call 38 [(.sl (.nm 0) [] [(.nm 4)])]), (.nm 2), (.nm 3)]))])]⟩
@[simp, reducible] def ncheck_signs : Nat := 40
/-- sorted_paths -/
def isorted_paths : Def := ⟨1, 4, [(.ret (.b1 .tuple (.b1 .sorted (.lc [1, 2, 3] (.tp [(.nm 1), (.nm 2), (.nm 3)]) (.e (.nm 0)) [] (.tp [(.nm 1), (.b2 .min (.nm 2) (.nm 3)), (.b2 .max (.nm 2) (.nm 3))])))))]⟩
@[simp, reducible] def nsorted_paths : Nat := 41
/-- sorted_gates -/
def isorted_gates : Def := ⟨2, 5, [(.ret (.b1 .tuple (.b1 .sorted (.lc [2, 3, 4] (.tp [(.nm 2), (.nm 3), (.nm 4)]) (.e (.nm 0)) [(.cmp .lt (.nm 4) (.nm 1))] (.tp [(.nm 2), (.nm 3), (.nm 4)])))))]⟩
@[simp, reducible] def nsorted_gates : Nat := 42
/-- sorted_signs -/
def isorted_signs : Def := ⟨1, 4, [(.ret (.b1 .tuple (.b1 .sorted (.lc [1, 2, 3] (.tp [(.nm 1), (.nm 2), (.nm 3)]) (.e (.nm 0)) [] (.tp [(.nm 1), (.b1 .tuple (.b1 .sorted (.nm 2))), (.b1 .tuple (.b1 .sorted (.nm 3)))])))))]⟩
@[simp, reducible] def nsorted_signs : Nat := 43
/-- gate_table -/
def igate_table : Def := ⟨4, 8, [(.asg (.nm 4) (.d0 false)),
    (.for_ (.nm 5) (.e (.nm 1)) [(.for_ (.nm 6) (.e (.nm 2)) [(.ssub (.nm 4) (.tp [(.nm 5), (.nm 6)]) (.nm 0))])]),
    (.for_ (.tp [(.nm 5), (.nm 6), (.nm 7)]) (.e (.nm 3)) [(.ssub (.nm 4) (.tp [(.nm 5), (.nm 6)]) (.nm 7))]),
    (.ret (.nm 4))]⟩
@[simp, reducible] def ngate_table : Nat := 44
/-- watching_table -/
def iwatching_table : Def := ⟨3, 10, [(.asg (.nm 3) (.d0 false)),
    (.for_ (.nm 4) (.e (.nm 0)) [(.for_ (.nm 5) (.e (.nm 1)) [(.asg (.nm 6) (.lc [7, 8, 9] (.tp [(.nm 7), (.nm 8), (.nm 9)]) (.e (.nm 2)) [(.an [(.cmp .inn (.nm 4) (.nm 8)), (.cmp .inn (.nm 5) (.nm 9))])] (.nm 7))),
    (.ssub (.nm 3) (.tp [(.nm 4), (.nm 5)]) (.b1 .tuple (.nm 6)))])]),
    (.ret (.nm 3))]⟩
@[simp, reducible] def nwatching_table : Nat := 45
/-- mark_table -/
def imark_table : Def := ⟨3, 12, [(.asg (.nm 3) (.d0 true)),
    (.for_ (.tp [(.nm 4), (.nm 5), (.nm 6)]) (.e (.nm 0)) [(.asg (.nm 7) (.ls [(.gl 0)])),
    (.for_ (.nm 8) (.e (.nm 5)) [(.for_ (.nm 9) (.e (.nm 6)) [(.for_ (.nm 10) (.r2 (.cn (.int 1)) (.bin .add (.ix (.nm 1) (.tp [(.nm 8), (.nm 9)])) (.cn (.int 1)))) [(.xp (.ext (.nm 7) (.lc [11] (.nm 11) (.e (.ix (.nm 2) (.nm 9))) [] (.tp [(.nm 10), (.nm 8), (.nm 9), (.nm 11)]))))])])]),
    (.ssub (.nm 3) (.nm 4) (.b1 .tuple (.b1 .sorted (.nm 7))))]),
    (.ret (.nm 3))]⟩
@[simp, reducible] def nmark_table : Nat := 46
/-- going_is_possible -/
def igoing_is_possible : Def := ⟨4, 8, [(.ife (.cmp .ne (.b1 .len (.nm 3)) (.cn (.int 4))) [(.ret (.cn (.bl false)))] []),
    (.asg (.tp [(.nm 4), (.nm 5), (.nm 6), (.nm 7)]) (.nm 3)),
    (.ife (.or [(.cmp .nin (.nm 5) (.fd (.nm 0) 7)), (.cmp .nin (.nm 6) (.call 38 [(.fd (.nm 0) 8)])), (.cmp .nin (.nm 7) (.meth 4 (.nm 0) [(.nm 6)]))]) [(.ret (.cn (.bl false)))] []),
    (.ret (.an [(.ch .le .le (.nm 2) (.nm 4) (.meth 5 (.nm 0) [(.nm 5), (.nm 6)])), (.cmp .eq (.ix (.nm 1) (.nm 5)) (.meth 6 (.nm 0) [(.nm 6), (.nm 7)]))]))]⟩
@[simp, reducible] def ngoing_is_possible : Nat := 47
/-- Meadow.watching -/
def iMeadow_watching : Def := ⟨3, 3, [(.xp (.meth 7 (.nm 0) [(.nm 1), (.nm 2)])),
    (.ret (.ix (.fd (.nm 0) 13) (.tp [(.nm 1), (.nm 2)])))]⟩
@[simp, reducible] def nMeadow_watching : Nat := 48
/-- Day.last -/
def iDay_last : Def := ⟨2, 2, [(.ife (.cmp .nin (.nm 1) (.fd (.nm 0) 4)) [(.raise 4 [(.nm 1)])] []),
    (.ret (.ix (.fd (.nm 0) 4) (.nm 1)))]⟩
@[simp, reducible] def nDay_last : Nat := 49
/-- _law_is_step -/
def i_law_is_step : Def := ⟨1, 2, [(.ife (.or [(.nt (.isi (.nm 0) .tuple)), (.cmp .ne (.b1 .len (.nm 0)) (.cn (.int 5))), (.nt (.call 61 [(.sl (.nm 0) [] [(.cn (.int 4))])]))]) [(.ret (.cn (.bl false)))] []),
    (.ret (.an [(.isi (.ix (.nm 0) (.cn (.int 4))) .tuple), (.b1 .all (.lc [1] (.nm 1) (.e (.ix (.nm 0) (.cn (.int 4)))) [] (.isi (.nm 1) .str)))]))]⟩
@[simp, reducible] def n_law_is_step : Nat := 50
/-- no_hours -/
def ino_hours : Def := ⟨1, 2, [(.ret (.dc [1] (.nm 1) (.e (.call 38 [(.fd (.nm 0) 10)])) (.nm 1) (.cn (.int 0))))]⟩
@[simp, reducible] def nno_hours : Nat := 51
/-- _law_gate -/
def i_law_gate : Def := ⟨3, 4, [(.ret (.ix (.bin .add (.lc [3] (.nm 3) (.e (.ix (.nm 0) (.cn (.int 4)))) [(.cmp .eq (.sl (.nm 3) [] [(.cn (.int 2))]) (.tp [(.nm 1), (.nm 2)]))] (.ix (.nm 3) (.cn (.int 2)))) (.ls [(.ix (.nm 0) (.cn (.int 0)))])) (.cn (.int 0))))]⟩
@[simp, reducible] def n_law_gate : Nat := 52
/-- check_new_name -/
def icheck_new_name : Def := ⟨2, 2, [(.ife (.nt (.call 62 [(.nm 0)])) [.never] []),
    (.ife (.cmp .inn (.nm 0) (.nm 1)) [(.raise 5 [(.nm 0)])] [])]⟩
@[simp, reducible] def ncheck_new_name : Nat := 53
/-- check_path -/
def icheck_path : Def := ⟨3, 6, [(.asg (.tp [(.nm 3), (.nm 4), (.nm 5)]) (.nm 0)),
    (.xp (.call 53 [(.nm 3), (.nm 1)])),
    (.xp (.call 63 [(.nm 4), (.nm 2)])),
    (.xp (.call 63 [(.nm 5), (.nm 2)])),
    (.ife (.cmp .eq (.nm 4) (.nm 5)) [.never] [])]⟩
@[simp, reducible] def ncheck_path : Nat := 54
/-- check_gate -/
def icheck_gate : Def := ⟨5, 8, [(.asg (.tp [(.nm 5), (.nm 6), (.nm 7)]) (.nm 0)),
    (.xp (.call 63 [(.nm 5), (.nm 2)])),
    (.xp (.call 63 [(.nm 6), (.nm 3)])),
    (.ife (.nt (.ch .le .le (.cn (.int 0)) (.nm 7) (.nm 4))) [.never] []),
    (.ife (.cmp .inn (.tp [(.nm 5), (.nm 6)]) (.nm 1)) [(.raise 5 [(.nm 6)])] [])]⟩
@[simp, reducible] def ncheck_gate : Nat := 55
/-- check_sign -/
def icheck_sign : Def := ⟨4, 7, [(.asg (.tp [(.nm 4), (.nm 5), (.nm 6)]) (.nm 0)),
    (.xp (.call 53 [(.nm 4), (.nm 1)])),
    (.xp (.call 64 [(.nm 5), (.nm 2)])),
    (.xp (.call 64 [(.nm 6), (.nm 3)]))]⟩
@[simp, reducible] def ncheck_sign : Nat := 56
/-- Meadow.ends -/
def iMeadow_ends : Def := ⟨2, 2, [(.ife (.cmp .nin (.nm 1) (.fd (.nm 0) 11)) [(.raise 4 [(.nm 1)])] []),
    (.ret (.ix (.fd (.nm 0) 11) (.nm 1)))]⟩
@[simp, reducible] def nMeadow_ends : Nat := 57
/-- Meadow.gate -/
def iMeadow_gate : Def := ⟨3, 3, [(.xp (.meth 7 (.nm 0) [(.nm 1), (.nm 2)])),
    (.ret (.ix (.fd (.nm 0) 12) (.tp [(.nm 1), (.nm 2)])))]⟩
@[simp, reducible] def nMeadow_gate : Nat := 58
/-- Meadow.across -/
def iMeadow_across : Def := ⟨3, 5, [(.asg (.tp [(.nm 3), (.nm 4)]) (.meth 4 (.nm 0) [(.nm 1)])),
    (.ife (.cmp .eq (.nm 2) (.nm 3)) [(.ret (.nm 4))] []),
    (.ife (.cmp .eq (.nm 2) (.nm 4)) [(.ret (.nm 3))] []),
    (.raise 4 [(.nm 2)])]⟩
@[simp, reducible] def nMeadow_across : Nat := 59
/-- Meadow._check_pair -/
def iMeadow__check_pair : Def := ⟨3, 3, [(.ife (.cmp .nin (.nm 1) (.fd (.nm 0) 7)) [(.raise 4 [(.nm 1)])] []),
    (.ife (.cmp .nin (.nm 2) (.fd (.nm 0) 11)) [(.raise 4 [(.nm 2)])] [])]⟩
@[simp, reducible] def nMeadow__check_pair : Nat := 60
/-- _law_is_going -/
def i_law_is_going : Def := ⟨1, 1, [(.ife (.or [(.nt (.isi (.nm 0) .tuple)), (.cmp .ne (.b1 .len (.nm 0)) (.cn (.int 4))), (.nt (.call 31 [(.ix (.nm 0) (.cn (.int 0)))]))]) [(.ret (.cn (.bl false)))] []),
    (.ret (.an [(.isi (.ix (.nm 0) (.cn (.int 1))) .str), (.isi (.ix (.nm 0) (.cn (.int 2))) .str), (.isi (.ix (.nm 0) (.cn (.int 3))) .str)]))]⟩
@[simp, reducible] def n_law_is_going : Nat := 61
/-- is_name -/
def iis_name : Def := ⟨1, 1, [(.ife (.nt (.ch .le .le (.cn (.int 1)) (.b1 .len (.nm 0)) (.bin .add (.cn (.int 1)) (.gl 1)))) [(.ret (.cn (.bl false)))] []),
    (.ret (.an [(.cmp .inn (.ix (.nm 0) (.cn (.int 0))) (.gl 2)), (.call 65 [(.sl (.nm 0) [(.cn (.int 1))] [])])]))]⟩
@[simp, reducible] def nis_name : Nat := 62
/-- check_known -/
def icheck_known : Def := ⟨2, 2, [(.ife (.cmp .nin (.nm 0) (.nm 1)) [(.raise 4 [(.nm 0)])] [])]⟩
@[simp, reducible] def ncheck_known : Nat := 63
/-- check_members -/
def icheck_members : Def := ⟨2, 4, [(.ife (.cmp .eq (.b1 .len (.nm 0)) (.cn (.int 0))) [.never] []),
    (.for_ (.tp [(.nm 2), (.nm 3)]) (.en (.nm 0)) [(.xp (.call 63 [(.nm 3), (.nm 1)])),
    (.ife (.cmp .inn (.nm 3) (.sl (.nm 0) [] [(.nm 2)])) [(.raise 5 [(.nm 3)])] [])])]⟩
@[simp, reducible] def ncheck_members : Nat := 64
/-- only_digits -/
def ionly_digits : Def := ⟨1, 2, [(.for_ (.nm 1) (.e (.nm 0)) [(.ife (.cmp .nin (.nm 1) (.gl 3)) [(.ret (.cn (.bl false)))] [])]),
    (.ret (.cn (.bl true)))]⟩
@[simp, reducible] def nonly_digits : Nat := 65
def defs : List Def := [ilaw, i_law_pool, i_law_draw, i_law_field, i_law_walk, i_law_made, iDay___init__, i_law_steps_of, i_law_right, iexchange, i_law_same, i_law_hours_of, i_law_wrong_rows, i_law_copied, i_law_hours_told, i_law_mixed, i_law_size, i_law_names, i_law_posts, i_law_walk_on, iMeadow___init__, icheck_placing, icheck_count, iplacings_of_goings, ilast_indexes, i_law_over, ichronicle, i_law_is_row, iDay_shown, istep_hours, iDay_starts, i_law_is_number, i_law_zeros, i_law_with_sign, i_law_some, i_law_moves, icheck_names, icheck_paths, inames_in, icheck_gates, icheck_signs, isorted_paths, isorted_gates, isorted_signs, igate_table, iwatching_table, imark_table, igoing_is_possible, iMeadow_watching, iDay_last, i_law_is_step, ino_hours, i_law_gate, icheck_new_name, icheck_path, icheck_gate, icheck_sign, iMeadow_ends, iMeadow_gate, iMeadow_across, iMeadow__check_pair, i_law_is_going, iis_name, icheck_known, icheck_members, ionly_digits]
def tb : Tb where
  fns := [(("law" : Str), 0), (("_law_pool" : Str), 1), (("_law_draw" : Str), 2), (("_law_field" : Str), 3), (("_law_walk" : Str), 4), (("_law_made" : Str), 5), (("_law_steps_of" : Str), 7), (("_law_right" : Str), 8), (("exchange" : Str), 9), (("_law_same" : Str), 10), (("_law_hours_of" : Str), 11), (("_law_wrong_rows" : Str), 12), (("_law_copied" : Str), 13), (("_law_hours_told" : Str), 14), (("_law_mixed" : Str), 15), (("_law_size" : Str), 16), (("_law_names" : Str), 17), (("_law_posts" : Str), 18), (("_law_walk_on" : Str), 19), (("check_placing" : Str), 21), (("check_count" : Str), 22), (("placings_of_goings" : Str), 23), (("last_indexes" : Str), 24), (("_law_over" : Str), 25), (("chronicle" : Str), 26), (("_law_is_row" : Str), 27), (("step_hours" : Str), 29), (("_law_is_number" : Str), 31), (("_law_zeros" : Str), 32), (("_law_with_sign" : Str), 33), (("_law_some" : Str), 34), (("_law_moves" : Str), 35), (("check_names" : Str), 36), (("check_paths" : Str), 37), (("names_in" : Str), 38), (("check_gates" : Str), 39), (("check_signs" : Str), 40), (("sorted_paths" : Str), 41), (("sorted_gates" : Str), 42), (("sorted_signs" : Str), 43), (("gate_table" : Str), 44), (("watching_table" : Str), 45), (("mark_table" : Str), 46), (("going_is_possible" : Str), 47), (("_law_is_step" : Str), 50), (("no_hours" : Str), 51), (("_law_gate" : Str), 52), (("check_new_name" : Str), 53), (("check_path" : Str), 54), (("check_gate" : Str), 55), (("check_sign" : Str), 56), (("_law_is_going" : Str), 61), (("is_name" : Str), 62), (("check_known" : Str), 63), (("check_members" : Str), 64), (("only_digits" : Str), 65)]
  mks := [(("Day" : Str), 1, 6, 3, []), (("Meadow" : Str), 0, 20, 4, [("gates" : Str), ("signs" : Str)])]
  cls := []
  glb := [(("OLD" : Str), 0), (("MOST_DIGITS" : Str), 1), (("LETTERS" : Str), 2), (("DIGITS" : Str), 3)]
  flds := [("meadow" : Str), ("goings" : Str), ("_starts" : Str), ("_placings" : Str), ("_lasts" : Str), ("hours" : Str), ("places" : Str), ("walkers" : Str), ("paths" : Str), ("gates" : Str), ("signs" : Str), ("_ends" : Str), ("_gates" : Str), ("_watching" : Str), ("_marks" : Str)]
  mts := [("shown" : Str), ("starts" : Str), ("watching" : Str), ("last" : Str), ("ends" : Str), ("gate" : Str), ("across" : Str), ("_check_pair" : Str)]
  cns := [("MOST_GOINGS" : Str), ("MOST_HOURS" : Str), ("MOST_PLACES" : Str), ("MOST_WALKERS" : Str), ("MOST_PATHS" : Str), ("MOST_SIGNS" : Str)]
  exs := [(("Twice" : Str), 5), (("Unknown" : Str), 4)]
  ecl := [(("GrassError" : Str), 2), (("Twice" : Str), 5), (("Unknown" : Str), 4)]
  xfd := [(4, ("name" : Str)), (5, ("name" : Str))]
@[simp, reducible] def fmeadow : Nat := 0
@[simp, reducible] def fgoings : Nat := 1
@[simp, reducible] def f_starts : Nat := 2
@[simp, reducible] def f_placings : Nat := 3
@[simp, reducible] def f_lasts : Nat := 4
@[simp, reducible] def fhours : Nat := 5
@[simp, reducible] def fplaces : Nat := 6
@[simp, reducible] def fwalkers : Nat := 7
@[simp, reducible] def fpaths : Nat := 8
@[simp, reducible] def fgates : Nat := 9
@[simp, reducible] def fsigns : Nat := 10
@[simp, reducible] def f_ends : Nat := 11
@[simp, reducible] def f_gates : Nat := 12
@[simp, reducible] def f_watching : Nat := 13
@[simp, reducible] def f_marks : Nat := 14
@[simp, reducible] def mshown : Nat := 0
@[simp, reducible] def mstarts : Nat := 1
@[simp, reducible] def mwatching : Nat := 2
@[simp, reducible] def mlast : Nat := 3
@[simp, reducible] def mends : Nat := 4
@[simp, reducible] def mgate : Nat := 5
@[simp, reducible] def macross : Nat := 6
@[simp, reducible] def m_check_pair : Nat := 7
@[simp, reducible] def cMeadow : Nat := 0
@[simp, reducible] def cDay : Nat := 1
@[simp, reducible] def cGrassError : Nat := 2
@[simp, reducible] def cBadName : Nat := 3
@[simp, reducible] def cUnknown : Nat := 4
@[simp, reducible] def cTwice : Nat := 5
@[simp, reducible] def cBadPath : Nat := 6
@[simp, reducible] def cBadPlacing : Nat := 7
@[simp, reducible] def cBadNumber : Nat := 8
@[simp, reducible] def cTooMany : Nat := 9
@[simp, reducible] def cBadGoing : Nat := 10
def dd0 : DD := ⟨⟨(("law" : Str), none), ("law" : Str), ("law" : Str), defArgs (top 79), defBody (top 79), defScope (top 79), [], []⟩, [("script" : Str)], [("script" : Str), ("pool" : Str), ("most" : Str), ("data" : Str), ("walk" : Str), ("rows" : Str), ("meadow" : Str), ("day" : Str), ("due" : Str), ("at" : Str), ("wrong" : Str), ("handed" : Str), ("after" : Str)]⟩
def dd1 : DD := ⟨⟨(("_law_pool" : Str), none), ("_law_pool" : Str), ("_law_pool" : Str), defArgs (top 52), defBody (top 52), defScope (top 52), [], []⟩, [("script" : Str)], [("script" : Str), ("cells" : Str), ("seed" : Str), ("cell" : Str)]⟩
def dd2 : DD := ⟨⟨(("_law_draw" : Str), none), ("_law_draw" : Str), ("_law_draw" : Str), defArgs (top 54), defBody (top 54), defScope (top 54), [], []⟩, [("pool" : Str), ("limit" : Str)], [("pool" : Str), ("limit" : Str), ("drawn" : Str), ("cell" : Str)]⟩
def dd3 : DD := ⟨⟨(("_law_field" : Str), none), ("_law_field" : Str), ("_law_field" : Str), defArgs (top 59), defBody (top 59), defScope (top 59), [], []⟩, [("pool" : Str), ("most" : Str)], [("pool" : Str), ("most" : Str), ("hours" : Str), ("spots" : Str), ("folk" : Str), ("ways" : Str), ("least" : Str), ("name" : Str), ("shut" : Str), ("who" : Str), ("one" : Str), ("row" : Str)]⟩
def dd4 : DD := ⟨⟨(("_law_walk" : Str), none), ("_law_walk" : Str), ("_law_walk" : Str), defArgs (top 64), defBody (top 64), defScope (top 64), [], []⟩, [("pool" : Str), ("data" : Str), ("most" : Str)], [("pool" : Str), ("data" : Str), ("most" : Str), ("begin" : Str), ("who" : Str)]⟩
def dd5 : DD := ⟨⟨(("_law_made" : Str), none), ("_law_made" : Str), ("_law_made" : Str), defArgs (top 60), defBody (top 60), defScope (top 60), [], []⟩, [("data" : Str)], [("data" : Str), ("posts" : Str), ("row" : Str)]⟩
def dd6 : DD := ⟨⟨(("Day" : Str), some ("__init__" : Str)), ("__init__" : Str), ("Day.__init__" : Str), defArgs (inClass (top 49) 1), defBody (inClass (top 49) 1), defScope (inClass (top 49) 1), [], []⟩, [("self" : Str), ("meadow" : Str), ("starts" : Str), ("goings" : Str)], [("self" : Str), ("meadow" : Str), ("starts" : Str), ("goings" : Str), ("going" : Str)]⟩
def dd7 : DD := ⟨⟨(("_law_steps_of" : Str), none), ("_law_steps_of" : Str), ("_law_steps_of" : Str), defArgs (top 70), defBody (top 70), defScope (top 70), [], []⟩, [("data" : Str), ("rows" : Str)], [("data" : Str), ("rows" : Str), ("lasts" : Str), ("k" : Str), ("steps" : Str), ("post" : Str), ("posts" : Str)]⟩
def dd8 : DD := ⟨⟨(("_law_right" : Str), none), ("_law_right" : Str), ("_law_right" : Str), defArgs (top 75), defBody (top 75), defScope (top 75), [], []⟩, [("data" : Str), ("meadow" : Str), ("day" : Str), ("rows" : Str)], [("data" : Str), ("meadow" : Str), ("day" : Str), ("rows" : Str), ("due" : Str), ("told" : Str), ("row" : Str), ("hours" : Str), ("first" : Str), ("post" : Str), ("mark" : Str), ("step" : Str)]⟩
def dd9 : DD := ⟨⟨(("exchange" : Str), none), ("exchange" : Str), ("exchange" : Str), defArgs (top 50), defBody (top 50), defScope (top 50), [], []⟩, [("day" : Str), ("at" : Str)], [("day" : Str), ("at" : Str), ("goings" : Str), ("first" : Str), ("second" : Str)]⟩
def dd10 : DD := ⟨⟨(("_law_same" : Str), none), ("_law_same" : Str), ("_law_same" : Str), defArgs (top 66), defBody (top 66), defScope (top 66), [], []⟩, [("told" : Str), ("due" : Str)], [("told" : Str), ("due" : Str), ("key" : Str), ("k" : Str)]⟩
def dd11 : DD := ⟨⟨(("_law_hours_of" : Str), none), ("_law_hours_of" : Str), ("_law_hours_of" : Str), defArgs (top 71), defBody (top 71), defScope (top 71), [], []⟩, [("data" : Str), ("row" : Str)], [("data" : Str), ("row" : Str), ("table" : Str), ("step" : Str), ("post" : Str)]⟩
def dd12 : DD := ⟨⟨(("_law_wrong_rows" : Str), none), ("_law_wrong_rows" : Str), ("_law_wrong_rows" : Str), defArgs (top 77), defBody (top 77), defScope (top 77), [], []⟩, [("pool" : Str), ("data" : Str), ("due" : Str)], [("pool" : Str), ("data" : Str), ("due" : Str), ("found" : Str), ("at" : Str), ("turn" : Str), ("taken" : Str), ("other" : Str), ("earlier" : Str), ("step" : Str), ("post" : Str), ("row" : Str), ("name" : Str)]⟩
def dd13 : DD := ⟨⟨(("_law_copied" : Str), none), ("_law_copied" : Str), ("_law_copied" : Str), defArgs (top 78), defBody (top 78), defScope (top 78), [], []⟩, [("rows" : Str)], [("rows" : Str), ("step" : Str)]⟩
def dd14 : DD := ⟨⟨(("_law_hours_told" : Str), none), ("_law_hours_told" : Str), ("_law_hours_told" : Str), defArgs (top 74), defBody (top 74), defScope (top 74), [], []⟩, [("meadow" : Str), ("row" : Str)], [("meadow" : Str), ("row" : Str), ("told" : Str), ("e" : Str)]⟩
def dd15 : DD := ⟨⟨(("_law_mixed" : Str), none), ("_law_mixed" : Str), ("_law_mixed" : Str), defArgs (top 53), defBody (top 53), defScope (top 53), [], []⟩, [("seed" : Str), ("k" : Str)], [("seed" : Str), ("k" : Str), ("one" : Str), ("two" : Str)]⟩
def dd16 : DD := ⟨⟨(("_law_size" : Str), none), ("_law_size" : Str), ("_law_size" : Str), defArgs (top 56), defBody (top 56), defScope (top 56), [], []⟩, [("pool" : Str), ("least" : Str), ("most" : Str)], [("pool" : Str), ("least" : Str), ("most" : Str)]⟩
def dd17 : DD := ⟨⟨(("_law_names" : Str), none), ("_law_names" : Str), ("_law_names" : Str), defArgs (top 55), defBody (top 55), defScope (top 55), [], []⟩, [("pool" : Str), ("many" : Str)], [("pool" : Str), ("many" : Str), ("letters" : Str), ("mode" : Str), ("head" : Str), ("names" : Str), ("k" : Str), ("name" : Str), ("figure" : Str), ("letter" : Str)]⟩
def dd18 : DD := ⟨⟨(("_law_posts" : Str), none), ("_law_posts" : Str), ("_law_posts" : Str), defArgs (top 58), defBody (top 58), defScope (top 58), [], []⟩, [("pool" : Str), ("folk" : Str), ("ways" : Str), ("most" : Str)], [("pool" : Str), ("folk" : Str), ("ways" : Str), ("most" : Str), ("names" : Str), ("name" : Str), ("row" : Str)]⟩
def dd19 : DD := ⟨⟨(("_law_walk_on" : Str), none), ("_law_walk_on" : Str), ("_law_walk_on" : Str), defArgs (top 68), defBody (top 68), defScope (top 68), [], []⟩, [("pool" : Str), ("data" : Str), ("begin" : Str), ("most" : Str)], [("pool" : Str), ("data" : Str), ("begin" : Str), ("most" : Str), ("now" : Str), ("rows" : Str), ("hour" : Str), ("turn" : Str), ("moves" : Str), ("move" : Str)]⟩
def dd20 : DD := ⟨⟨(("Meadow" : Str), some ("__init__" : Str)), ("__init__" : Str), ("Meadow.__init__" : Str), defArgs (inClass (top 40) 5), defBody (inClass (top 40) 5), defScope (inClass (top 40) 5), [], []⟩, [("self" : Str), ("hours" : Str), ("places" : Str), ("walkers" : Str), ("paths" : Str), ("gates" : Str), ("signs" : Str)], [("self" : Str), ("hours" : Str), ("places" : Str), ("walkers" : Str), ("paths" : Str), ("gates" : Str), ("signs" : Str), ("path_names" : Str), ("name" : Str), ("one" : Str), ("two" : Str)]⟩
def dd21 : DD := ⟨⟨(("check_placing" : Str), none), ("check_placing" : Str), ("check_placing" : Str), defArgs (top 31), defBody (top 31), defScope (top 31), [], []⟩, [("meadow" : Str), ("placing" : Str)], [("meadow" : Str), ("placing" : Str), ("name" : Str)]⟩
def dd22 : DD := ⟨⟨(("check_count" : Str), none), ("check_count" : Str), ("check_count" : Str), defArgs (top 19), defBody (top 19), defScope (top 19), [], []⟩, [("items" : Str), ("most" : Str)], [("items" : Str), ("most" : Str)]⟩
def dd23 : DD := ⟨⟨(("placings_of_goings" : Str), none), ("placings_of_goings" : Str), ("placings_of_goings" : Str), defArgs (top 47), defBody (top 47), defScope (top 47), [], []⟩, [("meadow" : Str), ("starts" : Str), ("goings" : Str)], [("meadow" : Str), ("starts" : Str), ("goings" : Str), ("placing" : Str), ("placings" : Str), ("hour" : Str), ("index" : Str), ("going" : Str)]⟩
def dd24 : DD := ⟨⟨(("last_indexes" : Str), none), ("last_indexes" : Str), ("last_indexes" : Str), defArgs (top 48), defBody (top 48), defScope (top 48), [], []⟩, [("meadow" : Str), ("goings" : Str)], [("meadow" : Str), ("goings" : Str), ("lasts" : Str), ("name" : Str), ("index" : Str), ("going" : Str), ("sign" : Str)]⟩
def dd25 : DD := ⟨⟨(("_law_over" : Str), none), ("_law_over" : Str), ("_law_over" : Str), defArgs (top 62), defBody (top 62), defScope (top 62), [], []⟩, [("data" : Str), ("who" : Str), ("way" : Str)], [("data" : Str), ("who" : Str), ("way" : Str), ("row" : Str)]⟩
def dd26 : DD := ⟨⟨(("chronicle" : Str), none), ("chronicle" : Str), ("chronicle" : Str), defArgs (top 42), defBody (top 42), defScope (top 42), [], []⟩, [("day" : Str)], [("day" : Str), ("steps" : Str), ("index" : Str), ("going" : Str), ("watching" : Str), ("signs" : Str), ("sign" : Str)]⟩
def dd27 : DD := ⟨⟨(("_law_is_row" : Str), none), ("_law_is_row" : Str), ("_law_is_row" : Str), defArgs (top 73), defBody (top 73), defScope (top 73), [], []⟩, [("thing" : Str)], [("thing" : Str), ("step" : Str)]⟩
def dd28 : DD := ⟨⟨(("Day" : Str), some ("shown" : Str)), ("shown" : Str), ("Day.shown" : Str), defArgs (inClass (top 49) 12), defBody (inClass (top 49) 12), defScope (inClass (top 49) 12), [], []⟩, [("self" : Str), ("sign" : Str)], [("self" : Str), ("sign" : Str), ("index" : Str)]⟩
def dd29 : DD := ⟨⟨(("step_hours" : Str), none), ("step_hours" : Str), ("step_hours" : Str), defArgs (top 44), defBody (top 44), defScope (top 44), [], []⟩, [("meadow" : Str), ("row" : Str)], [("meadow" : Str), ("row" : Str), ("hours" : Str), ("earlier" : Str), ("hour" : Str), ("_" : Str), ("signs" : Str), ("sign" : Str)]⟩
def dd30 : DD := ⟨⟨(("Day" : Str), some ("starts" : Str)), ("starts" : Str), ("Day.starts" : Str), defArgs (inClass (top 49) 8), defBody (inClass (top 49) 8), defScope (inClass (top 49) 8), [], []⟩, [("self" : Str)], [("self" : Str)]⟩
def dd31 : DD := ⟨⟨(("_law_is_number" : Str), none), ("_law_is_number" : Str), ("_law_is_number" : Str), defArgs (top 65), defBody (top 65), defScope (top 65), [], []⟩, [("thing" : Str)], [("thing" : Str)]⟩
def dd32 : DD := ⟨⟨(("_law_zeros" : Str), none), ("_law_zeros" : Str), ("_law_zeros" : Str), defArgs (top 69), defBody (top 69), defScope (top 69), [], []⟩, [("data" : Str)], [("data" : Str), ("table" : Str), ("row" : Str)]⟩
def dd33 : DD := ⟨⟨(("_law_with_sign" : Str), none), ("_law_with_sign" : Str), ("_law_with_sign" : Str), defArgs (top 76), defBody (top 76), defScope (top 76), [], []⟩, [("due" : Str), ("at" : Str), ("turn" : Str), ("post" : Str)], [("due" : Str), ("at" : Str), ("turn" : Str), ("post" : Str), ("rows" : Str), ("posts" : Str), ("step" : Str)]⟩
def dd34 : DD := ⟨⟨(("_law_some" : Str), none), ("_law_some" : Str), ("_law_some" : Str), defArgs (top 57), defBody (top 57), defScope (top 57), [], []⟩, [("pool" : Str), ("things" : Str)], [("pool" : Str), ("things" : Str), ("kept" : Str), ("thing" : Str)]⟩
def dd35 : DD := ⟨⟨(("_law_moves" : Str), none), ("_law_moves" : Str), ("_law_moves" : Str), defArgs (top 63), defBody (top 63), defScope (top 63), [], []⟩, [("data" : Str), ("now" : Str), ("hour" : Str)], [("data" : Str), ("now" : Str), ("hour" : Str), ("moves" : Str), ("who" : Str), ("row" : Str)]⟩
def dd36 : DD := ⟨⟨(("check_names" : Str), none), ("check_names" : Str), ("check_names" : Str), defArgs (top 27), defBody (top 27), defScope (top 27), [], []⟩, [("names" : Str), ("most" : Str)], [("names" : Str), ("most" : Str), ("index" : Str), ("name" : Str)]⟩
def dd37 : DD := ⟨⟨(("check_paths" : Str), none), ("check_paths" : Str), ("check_paths" : Str), defArgs (top 28), defBody (top 28), defScope (top 28), [], []⟩, [("paths" : Str), ("most" : Str), ("places" : Str)], [("paths" : Str), ("most" : Str), ("places" : Str), ("index" : Str), ("path" : Str)]⟩
def dd38 : DD := ⟨⟨(("names_in" : Str), none), ("names_in" : Str), ("names_in" : Str), defArgs (top 17), defBody (top 17), defScope (top 17), [], []⟩, [("rows" : Str)], [("rows" : Str), ("row" : Str)]⟩
def dd39 : DD := ⟨⟨(("check_gates" : Str), none), ("check_gates" : Str), ("check_gates" : Str), defArgs (top 29), defBody (top 29), defScope (top 29), [], []⟩, [("gates" : Str), ("walkers" : Str), ("path_names" : Str), ("hours" : Str)], [("gates" : Str), ("walkers" : Str), ("path_names" : Str), ("hours" : Str), ("index" : Str), ("gate" : Str), ("earlier" : Str), ("walker" : Str), ("path" : Str), ("closing" : Str)]⟩
def dd40 : DD := ⟨⟨(("check_signs" : Str), none), ("check_signs" : Str), ("check_signs" : Str), defArgs (top 30), defBody (top 30), defScope (top 30), [], []⟩, [("signs" : Str), ("most" : Str), ("walkers" : Str), ("path_names" : Str)], [("signs" : Str), ("most" : Str), ("walkers" : Str), ("path_names" : Str), ("index" : Str), ("sign" : Str)]⟩
def dd41 : DD := ⟨⟨(("sorted_paths" : Str), none), ("sorted_paths" : Str), ("sorted_paths" : Str), defArgs (top 34), defBody (top 34), defScope (top 34), [], []⟩, [("paths" : Str)], [("paths" : Str), ("name" : Str), ("one" : Str), ("two" : Str)]⟩
def dd42 : DD := ⟨⟨(("sorted_gates" : Str), none), ("sorted_gates" : Str), ("sorted_gates" : Str), defArgs (top 35), defBody (top 35), defScope (top 35), [], []⟩, [("gates" : Str), ("hours" : Str)], [("gates" : Str), ("hours" : Str), ("walker" : Str), ("path" : Str), ("hour" : Str)]⟩
def dd43 : DD := ⟨⟨(("sorted_signs" : Str), none), ("sorted_signs" : Str), ("sorted_signs" : Str), defArgs (top 36), defBody (top 36), defScope (top 36), [], []⟩, [("signs" : Str)], [("signs" : Str), ("name" : Str), ("watched" : Str), ("ways" : Str)]⟩
def dd44 : DD := ⟨⟨(("gate_table" : Str), none), ("gate_table" : Str), ("gate_table" : Str), defArgs (top 37), defBody (top 37), defScope (top 37), [], []⟩, [("hours" : Str), ("walkers" : Str), ("path_names" : Str), ("gates" : Str)], [("hours" : Str), ("walkers" : Str), ("path_names" : Str), ("gates" : Str), ("table" : Str), ("walker" : Str), ("path" : Str), ("hour" : Str)]⟩
def dd45 : DD := ⟨⟨(("watching_table" : Str), none), ("watching_table" : Str), ("watching_table" : Str), defArgs (top 38), defBody (top 38), defScope (top 38), [], []⟩, [("walkers" : Str), ("path_names" : Str), ("signs" : Str)], [("walkers" : Str), ("path_names" : Str), ("signs" : Str), ("table" : Str), ("walker" : Str), ("path" : Str), ("watching" : Str), ("name" : Str), ("watched" : Str), ("ways" : Str)]⟩
def dd46 : DD := ⟨⟨(("mark_table" : Str), none), ("mark_table" : Str), ("mark_table" : Str), defArgs (top 39), defBody (top 39), defScope (top 39), [], []⟩, [("signs" : Str), ("gates" : Str), ("ends" : Str)], [("signs" : Str), ("gates" : Str), ("ends" : Str), ("table" : Str), ("name" : Str), ("watched" : Str), ("ways" : Str), ("marks" : Str), ("walker" : Str), ("path" : Str), ("hour" : Str), ("place" : Str)]⟩
def dd47 : DD := ⟨⟨(("going_is_possible" : Str), none), ("going_is_possible" : Str), ("going_is_possible" : Str), defArgs (top 46), defBody (top 46), defScope (top 46), [], []⟩, [("meadow" : Str), ("placing" : Str), ("hour" : Str), ("going" : Str)], [("meadow" : Str), ("placing" : Str), ("hour" : Str), ("going" : Str), ("at" : Str), ("walker" : Str), ("path" : Str), ("place" : Str)]⟩
def dd48 : DD := ⟨⟨(("Meadow" : Str), some ("watching" : Str)), ("watching" : Str), ("Meadow.watching" : Str), defArgs (inClass (top 40) 12), defBody (inClass (top 40) 12), defScope (inClass (top 40) 12), [], []⟩, [("self" : Str), ("walker" : Str), ("path" : Str)], [("self" : Str), ("walker" : Str), ("path" : Str)]⟩
def dd49 : DD := ⟨⟨(("Day" : Str), some ("last" : Str)), ("last" : Str), ("Day.last" : Str), defArgs (inClass (top 49) 13), defBody (inClass (top 49) 13), defScope (inClass (top 49) 13), [], []⟩, [("self" : Str), ("sign" : Str)], [("self" : Str), ("sign" : Str)]⟩
def dd50 : DD := ⟨⟨(("_law_is_step" : Str), none), ("_law_is_step" : Str), ("_law_is_step" : Str), defArgs (top 72), defBody (top 72), defScope (top 72), [], []⟩, [("thing" : Str)], [("thing" : Str), ("post" : Str)]⟩
def dd51 : DD := ⟨⟨(("no_hours" : Str), none), ("no_hours" : Str), ("no_hours" : Str), defArgs (top 43), defBody (top 43), defScope (top 43), [], []⟩, [("meadow" : Str)], [("meadow" : Str), ("name" : Str)]⟩
def dd52 : DD := ⟨⟨(("_law_gate" : Str), none), ("_law_gate" : Str), ("_law_gate" : Str), defArgs (top 61), defBody (top 61), defScope (top 61), [], []⟩, [("data" : Str), ("who" : Str), ("way" : Str)], [("data" : Str), ("who" : Str), ("way" : Str), ("row" : Str)]⟩
def dd53 : DD := ⟨⟨(("check_new_name" : Str), none), ("check_new_name" : Str), ("check_new_name" : Str), defArgs (top 22), defBody (top 22), defScope (top 22), [], []⟩, [("name" : Str), ("earlier" : Str)], [("name" : Str), ("earlier" : Str)]⟩
def dd54 : DD := ⟨⟨(("check_path" : Str), none), ("check_path" : Str), ("check_path" : Str), defArgs (top 23), defBody (top 23), defScope (top 23), [], []⟩, [("path" : Str), ("earlier" : Str), ("places" : Str)], [("path" : Str), ("earlier" : Str), ("places" : Str), ("name" : Str), ("one" : Str), ("two" : Str)]⟩
def dd55 : DD := ⟨⟨(("check_gate" : Str), none), ("check_gate" : Str), ("check_gate" : Str), defArgs (top 24), defBody (top 24), defScope (top 24), [], []⟩, [("gate" : Str), ("earlier" : Str), ("walkers" : Str), ("path_names" : Str), ("hours" : Str)], [("gate" : Str), ("earlier" : Str), ("walkers" : Str), ("path_names" : Str), ("hours" : Str), ("walker" : Str), ("path" : Str), ("hour" : Str)]⟩
def dd56 : DD := ⟨⟨(("check_sign" : Str), none), ("check_sign" : Str), ("check_sign" : Str), defArgs (top 26), defBody (top 26), defScope (top 26), [], []⟩, [("sign" : Str), ("earlier" : Str), ("walkers" : Str), ("path_names" : Str)], [("sign" : Str), ("earlier" : Str), ("walkers" : Str), ("path_names" : Str), ("name" : Str), ("watched" : Str), ("ways" : Str)]⟩
def dd57 : DD := ⟨⟨(("Meadow" : Str), some ("ends" : Str)), ("ends" : Str), ("Meadow.ends" : Str), defArgs (inClass (top 40) 8), defBody (inClass (top 40) 8), defScope (inClass (top 40) 8), [], []⟩, [("self" : Str), ("path" : Str)], [("self" : Str), ("path" : Str)]⟩
def dd58 : DD := ⟨⟨(("Meadow" : Str), some ("gate" : Str)), ("gate" : Str), ("Meadow.gate" : Str), defArgs (inClass (top 40) 11), defBody (inClass (top 40) 11), defScope (inClass (top 40) 11), [], []⟩, [("self" : Str), ("walker" : Str), ("path" : Str)], [("self" : Str), ("walker" : Str), ("path" : Str)]⟩
def dd59 : DD := ⟨⟨(("Meadow" : Str), some ("across" : Str)), ("across" : Str), ("Meadow.across" : Str), defArgs (inClass (top 40) 9), defBody (inClass (top 40) 9), defScope (inClass (top 40) 9), [], []⟩, [("self" : Str), ("path" : Str), ("place" : Str)], [("self" : Str), ("path" : Str), ("place" : Str), ("one" : Str), ("two" : Str)]⟩
def dd60 : DD := ⟨⟨(("Meadow" : Str), some ("_check_pair" : Str)), ("_check_pair" : Str), ("Meadow._check_pair" : Str), defArgs (inClass (top 40) 13), defBody (inClass (top 40) 13), defScope (inClass (top 40) 13), [], []⟩, [("self" : Str), ("walker" : Str), ("path" : Str)], [("self" : Str), ("walker" : Str), ("path" : Str)]⟩
def dd61 : DD := ⟨⟨(("_law_is_going" : Str), none), ("_law_is_going" : Str), ("_law_is_going" : Str), defArgs (top 67), defBody (top 67), defScope (top 67), [], []⟩, [("row" : Str)], [("row" : Str)]⟩
def dd62 : DD := ⟨⟨(("is_name" : Str), none), ("is_name" : Str), ("is_name" : Str), defArgs (top 16), defBody (top 16), defScope (top 16), [], []⟩, [("word" : Str)], [("word" : Str)]⟩
def dd63 : DD := ⟨⟨(("check_known" : Str), none), ("check_known" : Str), ("check_known" : Str), defArgs (top 20), defBody (top 20), defScope (top 20), [], []⟩, [("name" : Str), ("names" : Str)], [("name" : Str), ("names" : Str)]⟩
def dd64 : DD := ⟨⟨(("check_members" : Str), none), ("check_members" : Str), ("check_members" : Str), defArgs (top 25), defBody (top 25), defScope (top 25), [], []⟩, [("members" : Str), ("names" : Str)], [("members" : Str), ("names" : Str), ("index" : Str), ("member" : Str)]⟩
def dd65 : DD := ⟨⟨(("only_digits" : Str), none), ("only_digits" : Str), ("only_digits" : Str), defArgs (top 15), defBody (top 15), defScope (top 15), [], []⟩, [("word" : Str)], [("word" : Str), ("char" : Str)]⟩
def dds : List DD := [dd0, dd1, dd2, dd3, dd4, dd5, dd6, dd7, dd8, dd9, dd10, dd11, dd12, dd13, dd14, dd15, dd16, dd17, dd18, dd19, dd20, dd21, dd22, dd23, dd24, dd25, dd26, dd27, dd28, dd29, dd30, dd31, dd32, dd33, dd34, dd35, dd36, dd37, dd38, dd39, dd40, dd41, dd42, dd43, dd44, dd45, dd46, dd47, dd48, dd49, dd50, dd51, dd52, dd53, dd54, dd55, dd56, dd57, dd58, dd59, dd60, dd61, dd62, dd63, dd64, dd65]
def tabs : Tabs where
  tb := tb
  df := defs
  dd := dds
  cn := [("Meadow" : Str), ("Day" : Str), ("GrassError" : Str), ("BadName" : Str), ("Unknown" : Str), ("Twice" : Str), ("BadPath" : Str), ("BadPlacing" : Str), ("BadNumber" : Str), ("TooMany" : Str), ("BadGoing" : Str)]
  xf := [("" : Str), ("" : Str), ("" : Str), ("name" : Str), ("name" : Str), ("name" : Str), ("name" : Str), ("name" : Str), ("number" : Str), ("most" : Str), ("index" : Str)]
  gl := [(.tup [(.int 0), (.str ("" : Str)), (.str ("" : Str)), (.str ("" : Str))]), (.int 3), (.str ("abcdefghijklmnopqrstuvwxyz" : Str)), (.str ("0123456789" : Str))]
  con := [2000, 6, 7, 3, 9, 9]
  cokT := [(1, 0), (0, 1), (0, 2), (0, 3), (0, 4), (0, 5)]
  fokT := [(0, 0), (0, 1), (0, 2), (0, 3), (0, 4), (0, 5), (0, 6), (0, 7), (0, 8), (0, 9), (0, 10), (0, 11), (0, 12), (0, 13), (0, 14), (1, 0), (1, 1), (1, 2), (1, 3), (1, 4), (1, 5), (1, 6), (1, 7), (1, 8), (1, 9), (1, 10), (1, 11), (1, 12), (1, 13), (1, 14)]
  mthT := [((1, 0), 28), ((1, 1), 30), ((0, 2), 48), ((1, 3), 49), ((0, 4), 57), ((0, 5), 58), ((0, 6), 59), ((0, 7), 60)]
  subT := [(5, 5), (5, 2), (4, 4), (4, 2)]
  exT := [5, 4]
  ed := [(4, ⟨("Unknown" : Str), "__init__", ("Unknown.__init__" : Str), defArgs (inClass (top 4) 0), defBody (inClass (top 4) 0), defScope (inClass (top 4) 0), ("self" : Str), ("name" : Str), ("name" : Str)⟩),
    (5, ⟨("Twice" : Str), "__init__", ("Twice.__init__" : Str), defArgs (inClass (top 5) 0), defBody (inClass (top 5) 0), defScope (inClass (top 5) 0), ("self" : Str), ("name" : Str), ("name" : Str)⟩)]
abbrev P : Pg := tabs.P
theorem Plaw : P.defs[nlaw]? = some ilaw := rfl
theorem P_law_pool : P.defs[n_law_pool]? = some i_law_pool := rfl
theorem P_law_draw : P.defs[n_law_draw]? = some i_law_draw := rfl
theorem P_law_field : P.defs[n_law_field]? = some i_law_field := rfl
theorem P_law_walk : P.defs[n_law_walk]? = some i_law_walk := rfl
theorem P_law_made : P.defs[n_law_made]? = some i_law_made := rfl
theorem PDay___init__ : P.defs[nDay___init__]? = some iDay___init__ := rfl
theorem P_law_steps_of : P.defs[n_law_steps_of]? = some i_law_steps_of := rfl
theorem P_law_right : P.defs[n_law_right]? = some i_law_right := rfl
theorem Pexchange : P.defs[nexchange]? = some iexchange := rfl
theorem P_law_same : P.defs[n_law_same]? = some i_law_same := rfl
theorem P_law_hours_of : P.defs[n_law_hours_of]? = some i_law_hours_of := rfl
theorem P_law_wrong_rows : P.defs[n_law_wrong_rows]? = some i_law_wrong_rows := rfl
theorem P_law_copied : P.defs[n_law_copied]? = some i_law_copied := rfl
theorem P_law_hours_told : P.defs[n_law_hours_told]? = some i_law_hours_told := rfl
theorem P_law_mixed : P.defs[n_law_mixed]? = some i_law_mixed := rfl
theorem P_law_size : P.defs[n_law_size]? = some i_law_size := rfl
theorem P_law_names : P.defs[n_law_names]? = some i_law_names := rfl
theorem P_law_posts : P.defs[n_law_posts]? = some i_law_posts := rfl
theorem P_law_walk_on : P.defs[n_law_walk_on]? = some i_law_walk_on := rfl
theorem PMeadow___init__ : P.defs[nMeadow___init__]? = some iMeadow___init__ := rfl
theorem Pcheck_placing : P.defs[ncheck_placing]? = some icheck_placing := rfl
theorem Pcheck_count : P.defs[ncheck_count]? = some icheck_count := rfl
theorem Pplacings_of_goings : P.defs[nplacings_of_goings]? = some iplacings_of_goings := rfl
theorem Plast_indexes : P.defs[nlast_indexes]? = some ilast_indexes := rfl
theorem P_law_over : P.defs[n_law_over]? = some i_law_over := rfl
theorem Pchronicle : P.defs[nchronicle]? = some ichronicle := rfl
theorem P_law_is_row : P.defs[n_law_is_row]? = some i_law_is_row := rfl
theorem PDay_shown : P.defs[nDay_shown]? = some iDay_shown := rfl
theorem Pstep_hours : P.defs[nstep_hours]? = some istep_hours := rfl
theorem PDay_starts : P.defs[nDay_starts]? = some iDay_starts := rfl
theorem P_law_is_number : P.defs[n_law_is_number]? = some i_law_is_number := rfl
theorem P_law_zeros : P.defs[n_law_zeros]? = some i_law_zeros := rfl
theorem P_law_with_sign : P.defs[n_law_with_sign]? = some i_law_with_sign := rfl
theorem P_law_some : P.defs[n_law_some]? = some i_law_some := rfl
theorem P_law_moves : P.defs[n_law_moves]? = some i_law_moves := rfl
theorem Pcheck_names : P.defs[ncheck_names]? = some icheck_names := rfl
theorem Pcheck_paths : P.defs[ncheck_paths]? = some icheck_paths := rfl
theorem Pnames_in : P.defs[nnames_in]? = some inames_in := rfl
theorem Pcheck_gates : P.defs[ncheck_gates]? = some icheck_gates := rfl
theorem Pcheck_signs : P.defs[ncheck_signs]? = some icheck_signs := rfl
theorem Psorted_paths : P.defs[nsorted_paths]? = some isorted_paths := rfl
theorem Psorted_gates : P.defs[nsorted_gates]? = some isorted_gates := rfl
theorem Psorted_signs : P.defs[nsorted_signs]? = some isorted_signs := rfl
theorem Pgate_table : P.defs[ngate_table]? = some igate_table := rfl
theorem Pwatching_table : P.defs[nwatching_table]? = some iwatching_table := rfl
theorem Pmark_table : P.defs[nmark_table]? = some imark_table := rfl
theorem Pgoing_is_possible : P.defs[ngoing_is_possible]? = some igoing_is_possible := rfl
theorem PMeadow_watching : P.defs[nMeadow_watching]? = some iMeadow_watching := rfl
theorem PDay_last : P.defs[nDay_last]? = some iDay_last := rfl
theorem P_law_is_step : P.defs[n_law_is_step]? = some i_law_is_step := rfl
theorem Pno_hours : P.defs[nno_hours]? = some ino_hours := rfl
theorem P_law_gate : P.defs[n_law_gate]? = some i_law_gate := rfl
theorem Pcheck_new_name : P.defs[ncheck_new_name]? = some icheck_new_name := rfl
theorem Pcheck_path : P.defs[ncheck_path]? = some icheck_path := rfl
theorem Pcheck_gate : P.defs[ncheck_gate]? = some icheck_gate := rfl
theorem Pcheck_sign : P.defs[ncheck_sign]? = some icheck_sign := rfl
theorem PMeadow_ends : P.defs[nMeadow_ends]? = some iMeadow_ends := rfl
theorem PMeadow_gate : P.defs[nMeadow_gate]? = some iMeadow_gate := rfl
theorem PMeadow_across : P.defs[nMeadow_across]? = some iMeadow_across := rfl
theorem PMeadow__check_pair : P.defs[nMeadow__check_pair]? = some iMeadow__check_pair := rfl
theorem P_law_is_going : P.defs[n_law_is_going]? = some i_law_is_going := rfl
theorem Pis_name : P.defs[nis_name]? = some iis_name := rfl
theorem Pcheck_known : P.defs[ncheck_known]? = some icheck_known := rfl
theorem Pcheck_members : P.defs[ncheck_members]? = some icheck_members := rfl
theorem Ponly_digits : P.defs[nonly_digits]? = some ionly_digits := rfl
@[simp] theorem P_m1_0 : P.mth 1 0 = some 28 := rfl
@[simp] theorem P_m1_1 : P.mth 1 1 = some 30 := rfl
@[simp] theorem P_m0_2 : P.mth 0 2 = some 48 := rfl
@[simp] theorem P_m1_3 : P.mth 1 3 = some 49 := rfl
@[simp] theorem P_m0_4 : P.mth 0 4 = some 57 := rfl
@[simp] theorem P_m0_5 : P.mth 0 5 = some 58 := rfl
@[simp] theorem P_m0_6 : P.mth 0 6 = some 59 := rfl
@[simp] theorem P_m0_7 : P.mth 0 7 = some 60 := rfl
@[simp] theorem P_f0_0 : P.fok 0 0 = true := rfl
@[simp] theorem P_f0_1 : P.fok 0 1 = true := rfl
@[simp] theorem P_f0_2 : P.fok 0 2 = true := rfl
@[simp] theorem P_f0_3 : P.fok 0 3 = true := rfl
@[simp] theorem P_f0_4 : P.fok 0 4 = true := rfl
@[simp] theorem P_f0_5 : P.fok 0 5 = true := rfl
@[simp] theorem P_f0_6 : P.fok 0 6 = true := rfl
@[simp] theorem P_f0_7 : P.fok 0 7 = true := rfl
@[simp] theorem P_f0_8 : P.fok 0 8 = true := rfl
@[simp] theorem P_f0_9 : P.fok 0 9 = true := rfl
@[simp] theorem P_f0_10 : P.fok 0 10 = true := rfl
@[simp] theorem P_f0_11 : P.fok 0 11 = true := rfl
@[simp] theorem P_f0_12 : P.fok 0 12 = true := rfl
@[simp] theorem P_f0_13 : P.fok 0 13 = true := rfl
@[simp] theorem P_f0_14 : P.fok 0 14 = true := rfl
@[simp] theorem P_f1_0 : P.fok 1 0 = true := rfl
@[simp] theorem P_f1_1 : P.fok 1 1 = true := rfl
@[simp] theorem P_f1_2 : P.fok 1 2 = true := rfl
@[simp] theorem P_f1_3 : P.fok 1 3 = true := rfl
@[simp] theorem P_f1_4 : P.fok 1 4 = true := rfl
@[simp] theorem P_f1_5 : P.fok 1 5 = true := rfl
@[simp] theorem P_f1_6 : P.fok 1 6 = true := rfl
@[simp] theorem P_f1_7 : P.fok 1 7 = true := rfl
@[simp] theorem P_f1_8 : P.fok 1 8 = true := rfl
@[simp] theorem P_f1_9 : P.fok 1 9 = true := rfl
@[simp] theorem P_f1_10 : P.fok 1 10 = true := rfl
@[simp] theorem P_f1_11 : P.fok 1 11 = true := rfl
@[simp] theorem P_f1_12 : P.fok 1 12 = true := rfl
@[simp] theorem P_f1_13 : P.fok 1 13 = true := rfl
@[simp] theorem P_f1_14 : P.fok 1 14 = true := rfl
@[simp] theorem P_c1_0 : P.cok 1 0 = true := rfl
@[simp] theorem P_c0_1 : P.cok 0 1 = true := rfl
@[simp] theorem P_c0_2 : P.cok 0 2 = true := rfl
@[simp] theorem P_c0_3 : P.cok 0 3 = true := rfl
@[simp] theorem P_c0_4 : P.cok 0 4 = true := rfl
@[simp] theorem P_c0_5 : P.cok 0 5 = true := rfl
@[simp] theorem P_g0 : P.glob[0]? = some (.tup [(.int 0), (.str ("" : Str)), (.str ("" : Str)), (.str ("" : Str))]) := rfl
@[simp] theorem P_g1 : P.glob[1]? = some (.int 3) := rfl
@[simp] theorem P_g2 : P.glob[2]? = some (.str ("abcdefghijklmnopqrstuvwxyz" : Str)) := rfl
@[simp] theorem P_g3 : P.glob[3]? = some (.str ("0123456789" : Str)) := rfl
@[simp] theorem P_k0 : P.con[0]? = some 2000 := rfl
@[simp] theorem P_k1 : P.con[1]? = some 6 := rfl
@[simp] theorem P_k2 : P.con[2]? = some 7 := rfl
@[simp] theorem P_k3 : P.con[3]? = some 3 := rfl
@[simp] theorem P_k4 : P.con[4]? = some 9 := rfl
@[simp] theorem P_k5 : P.con[5]? = some 9 := rfl
/-! the check -/
abbrev Pr : Program := PySem.Challenge.pw_highmeadow_k07_chronicles_read
theorem st_ok : tabs.st Pr = true := by decide +kernel
end Kx
end

section
set_option Elab.async false
set_option linter.all false
set_option maxRecDepth 100000
set_option maxHeartbeats 0
namespace Kx
open PySem PySem.Spec PyProof.Rows L2 Fm
def loose : List PySem.Str := [("_wall" : PySem.Str), ("__name__" : PySem.Str), ("GrassError" : PySem.Str), ("BadName" : PySem.Str), ("Unknown" : PySem.Str), ("Twice" : PySem.Str), ("BadPath" : PySem.Str), ("BadPlacing" : PySem.Str), ("BadNumber" : PySem.Str), ("TooMany" : PySem.Str), ("BadGoing" : PySem.Str), ("LETTERS" : PySem.Str), ("DIGITS" : PySem.Str), ("MOST_DIGITS" : PySem.Str), ("only_digits" : PySem.Str), ("is_name" : PySem.Str), ("names_in" : PySem.Str), ("check_count" : PySem.Str), ("check_known" : PySem.Str), ("check_hour" : PySem.Str), ("check_new_name" : PySem.Str), ("check_path" : PySem.Str), ("check_gate" : PySem.Str), ("check_members" : PySem.Str), ("check_sign" : PySem.Str), ("check_names" : PySem.Str), ("check_paths" : PySem.Str), ("check_gates" : PySem.Str), ("check_signs" : PySem.Str), ("check_placing" : PySem.Str)] ++ [("OLD" : PySem.Str), ("sorted_paths" : PySem.Str), ("sorted_gates" : PySem.Str), ("sorted_signs" : PySem.Str), ("gate_table" : PySem.Str), ("watching_table" : PySem.Str), ("mark_table" : PySem.Str), ("Meadow" : PySem.Str), ("chronicle" : PySem.Str), ("no_hours" : PySem.Str), ("step_hours" : PySem.Str), ("going_is_possible" : PySem.Str), ("placings_of_goings" : PySem.Str), ("last_indexes" : PySem.Str), ("Day" : PySem.Str), ("exchange" : PySem.Str), ("_law_pool" : PySem.Str), ("_law_mixed" : PySem.Str), ("_law_draw" : PySem.Str), ("_law_names" : PySem.Str), ("_law_size" : PySem.Str), ("_law_some" : PySem.Str), ("_law_posts" : PySem.Str), ("_law_field" : PySem.Str), ("_law_made" : PySem.Str), ("_law_gate" : PySem.Str), ("_law_over" : PySem.Str), ("_law_moves" : PySem.Str), ("_law_walk" : PySem.Str), ("_law_is_number" : PySem.Str)] ++ [("_law_same" : PySem.Str), ("_law_is_going" : PySem.Str), ("_law_walk_on" : PySem.Str), ("_law_zeros" : PySem.Str), ("_law_steps_of" : PySem.Str), ("_law_hours_of" : PySem.Str), ("_law_is_step" : PySem.Str), ("_law_is_row" : PySem.Str), ("_law_hours_told" : PySem.Str), ("_law_right" : PySem.Str), ("_law_with_sign" : PySem.Str), ("_law_wrong_rows" : PySem.Str), ("_law_copied" : PySem.Str)]
abbrev LR : PySem.W.OpenRow := PySem.W.OpenLaw.row PySem.Challenge.rw_highmeadow_k07_chronicles_read
abbrev hk : PySem.W.Hook := hookM tabs Pr.main.file
def ob (s : PySem.W.SharedT) : AlM := obM tabs Pr.main.file (HandSHeadRun.getT s)
theorem ob_eq (s : PySem.W.SharedT) : ob s = hk.obs s.abs := obM_eq (HandSHeadRun.getT_eq s)
theorem run (w : World) : HandSHeadRun.RunEq LR (PySem.W.view LR.prog [79]) hk ob 8000 loose w := by
  intro os
  kernel_rfl
end Kx
end

section
set_option Elab.async false
set_option linter.all false
set_option maxRecDepth 10000
set_option autoImplicit false
set_option maxHeartbeats 1000000
/-! calls that are never evaluated by themselves -/
namespace Kx
open PySem Fm Fm.Sx
@[irreducible] def callN (P : Pg) (n : Nat) : Cl := Fm.callN P n
theorem callN_eq (P : Pg) (n : Nat) : callN P n = Fm.callN P n := by unfold callN; rfl
theorem call_wp {P : Pg} {n j : Nat} {ss : List Fm.Slot} {f : Def} {k : Kt (Fm.Slot × List Fm.Slot)} (hj : P.defs[j]? = some f) (hl : ss.length = f.np) (h : @R.wp _ (exs P (callN P n) (ownIx 0 ss) f.body (ss ++ List.replicate (f.nl - f.np) .emp)) ⟨krun k ss, fun c x e => k.e c x (given 0 ss e)⟩) : @R.wp _ (callN P (n + 1) j ss) k := by
  rw [callN_eq] at h ⊢
  exact Fm.call_wp hj hl h
end Kx
end

section
set_option Elab.async false
set_option linter.all false
set_option maxRecDepth 10000
set_option autoImplicit false
set_option maxHeartbeats 1000000
/-! the pool -/
namespace Kx
open PySem Fm Fm.Sx
def mixed (seed k : Int) : Int :=
  let one := (seed + 48271 * k + 11) % 2147483647
  let two := (one * one + 69621 * k + 5) % 2147483629
  (two * two + one + k) % 2147483587
theorem e_mixed (n : Nat) (s k : Int) : callN P (n + 1) n_law_mixed [.val (.int s), .val (.int k)] = .ok (.val (.int (mixed s k)), [.emp, .emp]) := by
  refine eq_of_wp (call_wp P_law_mixed rfl ?_)
  simp [i_law_mixed]
  refine of_if (by omega) ?_
  simp
  refine of_if (by omega) ?_
  simp
  rfl
@[simp] theorem pow18 (oa ob : Opd) : binD .pow (.int 10) (.int 18) oa ob = some (.tmp (.val (.int 1000000000000000000))) := by
  rw [bin_pow_int, if_pos (by decide +kernel)]
  rfl
@[simp] theorem pow60 (oa ob : Opd) : binD .pow (.int 10) (.int 60) oa ob = some (.tmp (.val (.int 1000000000000000000000000000000000000000000000000000000000000))) := by
  rw [bin_pow_int, if_pos (by decide +kernel)]
  rfl
def big300 : Int := 10 ^ 300
@[simp] theorem big300_pos : 0 < big300 := by decide +kernel
@[simp] theorem pow300 (oa ob : Opd) : binD .pow (.int 1000000000000000000000000000000000000000000000000000000000000) (.int 5) oa ob = some (.tmp (.val (.int big300))) := by
  rw [bin_pow_int, if_pos (by decide +kernel)]
  rw [show (1000000000000000000000000000000000000000000000000000000000000 : Int) ^ (5 : Int).toNat = big300 by decide +kernel]
structure Pool where
  cells : List Int
  a : Int
  b : Int
  c : Int
  s : Int
def Pool.d (p : Pool) : D := .lst [.lst (p.cells.map .int), .int p.a, .int p.b, .int p.c, .int p.s]
structure Pool.Ok (p : Pool) : Prop where
  cells : ∀ x ∈ p.cells, 0 ≤ x
  a : 0 ≤ p.a
  b : 0 ≤ p.b
theorem wp_draw (n : Nat) (p : Pool) (hp : p.Ok) (m : Int) (hm : m < 1073741824) {k : Kt (Slot × List Slot)}
    (h : ∀ (v : Int) (p' : Pool), p'.Ok → 0 ≤ v → (v < m ∨ v = 0) → k.q (.val (.int v), [.own p'.d, .emp])) : @R.wp _ (callN P (n + 2) n_law_draw [.own p.d, .val (.int m)]) k := by
  refine call_wp P_law_draw rfl ?_
  obtain ⟨cells, a, b, c, s⟩ := p
  simp [i_law_draw, Pool.d]
  refine ite_wp (fun h1 => ?_) (fun h1 => ?_)
  · simp
    exact h 0 ⟨cells, a, b, c + 1, s⟩ ⟨hp.cells, hp.a, hp.b⟩ (by omega) (by omega)
  · have hm0 : 0 < m := by omega
    have hb : 0 ≤ b := hp.b
    have ha : 0 ≤ a := hp.a
    simp
    refine ite_wp (fun h2 => ?_) (fun h2 => ?_)
    · simp [hm0, hm]
      exact h _ ⟨cells, a, b / m, c + 1, s⟩ ⟨hp.cells, hp.a, Int.ediv_nonneg hb (by omega)⟩ (Int.emod_nonneg _ (by omega)) (.inl (Int.emod_lt_of_pos _ hm0))
    · simp
      refine ite_wp (fun h3 => ?_) (fun h3 => ?_)
      · have hc : 0 ≤ cells[a.toNat]'(by omega) := hp.cells _ (List.getElem_mem _)
        simp [atI_map, atI_of _ _ ha, List.getElem?_eq_getElem (show a.toNat < cells.length by omega)]
        refine ite_wp (fun h4 => ?_) (fun h4 => ?_)
        · simp [hm0, hm]
          exact h _ ⟨cells, a + 1, cells[a.toNat] / m, c + 1, s⟩ ⟨hp.cells, by show 0 ≤ a + 1; omega, Int.ediv_nonneg hc (by omega)⟩ (Int.emod_nonneg _ (by omega)) (.inl (Int.emod_lt_of_pos _ hm0))
        · simp
          refine wp_eq (e_mixed _ _ _) ?_
          simp [hm0, hm]
          exact h _ ⟨cells, a + 1, b, c + 1, s⟩ ⟨hp.cells, by show 0 ≤ a + 1; omega, hb⟩ (Int.emod_nonneg _ (by omega)) (.inl (Int.emod_lt_of_pos _ hm0))
      · simp
        refine wp_eq (e_mixed _ _ _) ?_
        simp [hm0, hm]
        exact h _ ⟨cells, a, b, c + 1, s⟩ ⟨hp.cells, ha, hb⟩ (Int.emod_nonneg _ (by omega)) (.inl (Int.emod_lt_of_pos _ hm0))
end Kx
end

section
set_option Elab.async false
set_option linter.all false
set_option maxRecDepth 10000
set_option autoImplicit false
set_option maxHeartbeats 1000000
/-! names -/
namespace Kx
open PySem Fm Fm.Sx L2
def letters : Str := "abcdefghijklmnopqrstuvwxyz"
def digits : Str := "0123456789"
@[simp] theorem fold_letters : Str.ofString "abcdefghijklmnopqrstuvwxyz" = letters := (rfl)
@[simp] theorem fold_digits : Str.ofString "0123456789" = digits := (rfl)
theorem letters_cps : letters.cps.toList = List.range' 97 26 := by decide +kernel
theorem digits_cps : digits.cps.toList = List.range' 48 10 := by decide +kernel
@[simp] theorem letters_len : letters.length = 26 := by decide +kernel
@[simp] theorem digits_len : digits.length = 10 := by decide +kernel
theorem str_ext {x y : Str} (h : x.cps.toList = y.cps.toList) : x = y := by
  obtain ⟨⟨a⟩⟩ := x
  obtain ⟨⟨b⟩⟩ := y
  simp only at h
  rw [h]
theorem cps_app (x y : Str) : (x ++ y).cps.toList = x.cps.toList ++ y.cps.toList := Array.toList_append
theorem len_cps (x : Str) : x.length = x.cps.toList.length := (Array.length_toList).symm
def IsDig (e : Nat) : Prop := 48 ≤ e ∧ e ≤ 57
def IsLet (c : Nat) : Prop := 97 ≤ c ∧ c ≤ 122
structure IsNm (k : Nat) (x : Str) : Prop where
  ex : ∃ c ds, x.cps.toList = c :: ds ∧ IsLet c ∧ ds.length ≤ k ∧ ∀ e ∈ ds, IsDig e
abbrev IsName := IsNm 3
structure Names (l : List Str) : Prop where
  nd : l.Nodup
  all : ∀ x ∈ l, IsName x
theorem IsNm.strOk {k : Nat} {x : Str} (h : IsNm k x) : PyData.strOk x = true := by
  obtain ⟨c, ds, e, hc, _, hd⟩ := h.ex
  unfold PyData.strOk
  rw [Array.all_eq_true']
  intro y hy
  have hy' : y ∈ x.cps.toList := by simpa using hy
  rw [e] at hy'
  rcases List.mem_cons.mp hy' with rfl | hy'
  · exact decide_eq_true (by have := hc.2; omega)
  · exact decide_eq_true (by have := (hd y hy').2; omega)
theorem chr_nm {c : Nat} (h : IsLet c) (k : Nat) : IsNm k (chr c) := ⟨c, [], rfl, h, Nat.zero_le _, fun _ h => by cases h⟩
theorem letter_at {v : Int} (h0 : 0 ≤ v) (h : v < 26) : ∃ c, atI letters.cps.toList v = some c ∧ IsLet c := by
  obtain ⟨n, rfl⟩ := Int.eq_ofNat_of_zero_le h0
  rw [Sx.atI_nat, letters_cps, List.getElem?_range' (by omega)]
  exact ⟨_, rfl, by constructor <;> omega⟩
theorem digit_at {v : Int} (h0 : 0 ≤ v) (h : v < 10) : ∃ c, atI digits.cps.toList v = some c ∧ IsDig c := by
  obtain ⟨n, rfl⟩ := Int.eq_ofNat_of_zero_le h0
  rw [Sx.atI_nat, digits_cps, List.getElem?_range' (by omega)]
  exact ⟨_, rfl, by constructor <;> omega⟩
theorem nodup_len {α : Type} [DecidableEq α] : ∀ {xs ys : List α}, xs.Nodup → (∀ x ∈ xs, x ∈ ys) → xs.length ≤ ys.length
  | [], _, _, _ => Nat.zero_le _
  | x :: xs, ys, nd, h => by
    obtain ⟨n1, n2⟩ := List.nodup_cons.mp nd
    have hx := h x List.mem_cons_self
    have := nodup_len (xs := xs) (ys := ys.erase x) n2 fun y hy => (List.mem_erase_of_ne (fun e => n1 (by rw [← e]; exact hy))).mpr (h y (List.mem_cons_of_mem _ hy))
    rw [List.length_erase_of_mem hx] at this
    have := List.length_pos_of_mem hx
    rw [List.length_cons]
    omega
def freeL (names : List Str) : List Str := (letters.cps.toList.map chr).filter fun l => decide (l ∉ names)
theorem freeL_ne {names : List Str} (h : names.length < 26) : ∃ c r, freeL names = chr c :: r ∧ IsLet c ∧ chr c ∉ names := by
  have hne : freeL names ≠ [] := by
    intro e
    have hs : ∀ x ∈ letters.cps.toList.map chr, x ∈ names := by
      intro x hx
      by_cases m : x ∈ names
      · exact m
      · have : x ∈ freeL names := List.mem_filter.mpr ⟨hx, decide_eq_true m⟩
        rw [e] at this
        cases this
    have nd : (letters.cps.toList.map chr).Nodup := by
      rw [letters_cps]
      decide +kernel
    have := nodup_len nd hs
    rw [letters_cps] at this
    simp at this
    omega
  obtain ⟨x, r, e⟩ := List.exists_cons_of_ne_nil hne
  have hx : x ∈ freeL names := by rw [e]; exact List.mem_cons_self
  obtain ⟨h1, h2⟩ := List.mem_filter.mp hx
  obtain ⟨c, hc, rfl⟩ := List.mem_map.mp h1
  refine ⟨c, r, e, ?_, of_decide_eq_true h2⟩
  rw [letters_cps] at hc
  have := List.mem_range'_1.mp hc
  constructor <;> omega
theorem wp_names (n : Nat) (p : Pool) (hp : p.Ok) (many : Int) (hm0 : 0 ≤ many) (hm : many ≤ 25) {k : Kt (Slot × List Slot)}
    (h : ∀ (l : List Str) (p' : Pool), p'.Ok → Names l → l.length = many.toNat → k.q (.own (.lst (l.map .str)), [.own p'.d, .emp])) : @R.wp _ (callN P (n + 3) n_law_names [.own p.d, .val (.int many)]) k := by
  refine call_wp P_law_names rfl ?_
  simp [i_law_names]
  refine wp_draw _ _ hp _ (by omega) fun mode p hp m0 m1 => ?_
  simp
  refine wp_draw _ _ hp _ (by omega) fun hd p hp h0 h1 => ?_
  obtain ⟨c0, e0, l0⟩ := letter_at h0 (by omega)
  simp [big, e0, smallR]
  refine if_wp (by omega) ?_
  simp [rangeD_eq]
  refine loop_wp (fun i : Nat => D.int i) (List.range many.toNat) (fun pre env => ∃ (p : Pool) (names : List Str) (j6 j7 j8 j9 : Slot), p.Ok ∧ Names names ∧ names.length = pre.length ∧
    env = [.own p.d, .val (.int many), .val (.str letters), .val (.int mode), .val (.str (chr c0)), .own (.lst (names.map .str)), j6, j7, j8, j9]) rfl ⟨p, [], _, _, _, _, hp, ⟨.nil, fun _ h => by cases h⟩, rfl, rfl⟩ (fun pre x post env hx hi => ?_) fun env hi => ?_
  · obtain ⟨p, names, j6, j7, j8, j9, hp, hn, hl, rfl⟩ := hi
    have hlen : pre.length < 25 := by
      have := congrArg List.length hx
      simp at this
      omega
    simp
    refine wp_no (Q := fun r => ∃ (c : Nat) (p : Pool), IsLet c ∧ p.Ok ∧ r = (Fl.nx, [.own p.d, .val (.int many), .val (.str letters), .val (.int mode), .val (.str (chr c0)), .own (.lst (names.map .str)), .val (.int x), .val (.str (chr c)), j8, j9])) ?_ ?_
    · refine ite_wp (fun hc => ?_) fun hc => ?_
      · simp
        exact ⟨c0, p, l0, hp, rfl⟩
      · simp
        refine wp_draw _ _ hp _ (by omega) fun v p hp v0 v1 => ?_
        obtain ⟨c, e, l⟩ := letter_at v0 (by omega)
        simp [big, e]
        exact ⟨c, p, l, hp, rfl⟩
    · rintro _ ⟨c, p, hc, hp, rfl⟩
      simp
      refine wp_draw _ _ hp _ (by omega) fun v p hp v0 v1 => ?_
      simp [smallR]
      refine if_wp (by omega) ?_
      simp [rangeD_eq]
      refine loop_wp (fun i : Nat => D.int i) (List.range v.toNat) (fun pre env => ∃ (p : Pool) (nm : Str) (ds : List Nat) (j8 : Slot), p.Ok ∧ nm.cps.toList = c :: ds ∧ ds.length = pre.length ∧ (∀ e ∈ ds, IsDig e) ∧
        env = [.own p.d, .val (.int many), .val (.str letters), .val (.int mode), .val (.str (chr c0)), .own (.lst (names.map .str)), .val (.int x), .val (.str nm), j8, j9]) rfl ⟨p, chr c, [], _, hp, rfl, rfl, fun _ h => (List.not_mem_nil h).elim, rfl⟩ (fun pre2 y post2 env hx2 hi => ?_) fun env hi => ?_
      · obtain ⟨p, nm, ds, j8, hp, hnm, hdl, hds, rfl⟩ := hi
        have hlen2 : pre2.length < 4 := by
          have := congrArg List.length hx2
          simp at this
          omega
        simp
        refine wp_draw _ _ hp _ (by omega) fun w p hp w0 w1 => ?_
        obtain ⟨d, e, l⟩ := digit_at w0 (by omega)
        simp [big, e]
        refine of_if (by rw [len_cps, len_cps, hnm]; simp [chr]; omega) ?_
        simp
        refine ⟨p, _, ds ++ [d], _, hp, ?_, ?_, ?_, rfl⟩
        · rw [cps_app, hnm]; rfl
        · simp [hdl]
        · intro e he
          rcases List.mem_append.mp he with h | h
          · exact hds e h
          · rw [List.mem_singleton.mp h]; exact l
      · obtain ⟨p, nm, ds, j8, hp, hnm, hdl, hds, rfl⟩ := hi
        have hnm' : IsName nm := ⟨c, ds, hnm, hc, by simp at hdl; omega, hds⟩
        simp
        refine wp_no (Q := fun r => ∃ nm : Str, IsName nm ∧ nm ∉ names ∧ r = (Fl.nx, [.own p.d, .val (.int many), .val (.str letters), .val (.int mode), .val (.str (chr c0)), .own (.lst (names.map .str)), .val (.int x), .val (.str nm), j8, j9])) ?_ ?_
        · refine ite_wp (fun hin => ?_) fun hin => ?_
          · simp
            refine lc_wp (fun c => D.str (chr c)) letters.cps.toList (fun c => decide (chr c ∉ names)) (fun c => D.str (chr c)) rfl (by rw [letters_cps]; decide) (fun c _ => ?_) ?_
            · simp
              by_cases hcn : chr c ∈ names <;> simp [hcn]
            · obtain ⟨c2, r, e2, l2, n2⟩ := freeL_ne (names := names) (by omega)
              have e3 : List.map (fun c => D.str (chr c)) (letters.cps.toList.filter fun c => decide (chr c ∉ names)) = (freeL names).map .str := by
                unfold freeL
                rw [List.filter_map, List.map_map]
                rfl
              simp only [e3, e2]
              simp
              exact ⟨chr c2, chr_nm l2 3, n2, rfl⟩
          · simp
            exact ⟨nm, hnm', hin, rfl⟩
        · rintro _ ⟨nm, h1, h2, rfl⟩
          simp [big]
          refine if_wp (by omega) ?_
          simp
          exact ⟨p, names ++ [nm], _, _, _, _, hp, ⟨by rw [List.nodup_append]; exact ⟨hn.nd, by simp, fun a ha b hb => by rw [List.mem_singleton.mp hb]; exact fun e => h2 (e ▸ ha)⟩, fun z hz => by
            rcases List.mem_append.mp hz with h | h
            · exact hn.all z h
            · rw [List.mem_singleton.mp h]; exact h1⟩, by simp [hl], by rw [List.map_append]; rfl⟩
  · obtain ⟨p, names, j6, j7, j8, j9, hp, hn, hl, rfl⟩ := hi
    simp
    exact h names p hp hn (by simpa using hl)
end Kx
end

section
set_option Elab.async false
set_option linter.all false
set_option maxRecDepth 10000
set_option autoImplicit false
set_option maxHeartbeats 1000000
/-! sizes, some, the drawn field -/
namespace Kx
open PySem PySem.W Fm Fm.Sx L2
theorem wp_size (n : Nat) (p : Pool) (hp : p.Ok) (lo hi : Int) (h0 : 0 ≤ lo) (h1 : lo ≤ hi) (h2 : hi ≤ 1000000) {k : Kt (Fm.Slot × List Fm.Slot)}
    (h : ∀ (v : Int) (p' : Pool), p'.Ok → lo ≤ v → v ≤ hi → k.q (.val (.int v), [.own p'.d, .emp, .emp])) : @R.wp _ (callN P (n + 3) n_law_size [.own p.d, .val (.int lo), .val (.int hi)]) k := by
  refine call_wp P_law_size rfl ?_
  simp [i_law_size]
  refine wp_draw _ _ hp _ (by omega) fun v p hp v0 v1 => ?_
  simp
  refine ite_wp (fun hv => ?_) fun hv => ?_
  · simp
    refine wp_draw _ _ hp _ (by omega) fun v p hp v0 v1 => ?_
    simp
    refine h _ p hp ?_ ?_ <;> split <;> omega
  · simp
    refine wp_draw _ _ hp _ (by omega) fun v p hp v0 v1 => ?_
    simp
    exact h _ p hp (by omega) (by omega)
theorem wp_some (n : Nat) (p : Pool) (hp : p.Ok) (things : List Str) (hs : ∀ x ∈ things, PyData.strOk x = true) (hl : things.length ≤ 1000) (s : Fm.Slot) (hsl : s = .val (.lst (things.map .str)) ∨ s = .own (.lst (things.map .str))) {k : Kt (Fm.Slot × List Fm.Slot)}
    (h : ∀ (l : List Str) (p' : Pool) (s' : Fm.Slot), p'.Ok → l.Sublist things → (things ≠ [] → l ≠ []) → k.q (.own (.lst (l.map .str)), [.own p'.d, s'])) : @R.wp _ (callN P (n + 3) n_law_some [.own p.d, s]) k := by
  refine call_wp P_law_some rfl ?_
  have main : ∀ (pr : List Nat) (kk : Kt (Fl × Fm.Env)), pr = [0] ∨ pr = [0, 1] → (∀ (l : List Str) (p' : Pool) (j : Fm.Slot), p'.Ok → l.Sublist things → (things ≠ [] → l ≠ []) → kk.q (.rt (.own (.lst (l.map .str))), [.own p'.d, .val (.lst (things.map .str)), j, .emp])) →
      @R.wp _ (exs P (callN P (n + 2)) pr i_law_some.body [.own p.d, s, .emp, .emp]) kk := by
    intro pr kk hpr hk
    have e2 : ∀ kept : List Str, (∀ x ∈ kept, PyData.strOk x = true) → eqD (.lst (kept.map .str)) (.lst []) = some (decide (kept = [])) := fun kept h => eqL_nil (α := Str) (xs := kept) h
    have key : @R.wp _ (exs P (callN P (n + 2)) pr i_law_some.body [.own p.d, .val (.lst (things.map .str)), .emp, .emp]) kk := by
      simp [i_law_some]
      refine turns_wp D.str things (fun pre acc env => ∃ (p : Pool) (kept : List Str) (j : Fm.Slot), p.Ok ∧ kept.Sublist pre ∧ acc = kept.map .str ∧ env = [.own p.d, .val (.lst (things.map .str)), .emp, j]) rfl ⟨p, [], .emp, hp, List.Sublist.refl _, rfl, rfl⟩ (fun pre x post acc env hx hi => ?_) fun acc env hi => ?_
      · obtain ⟨p, kept, j, hp, hk1, rfl, rfl⟩ := hi
        have hlen : kept.length < 1000 := by
          have h1 := hk1.length_le
          have h2 := congrArg List.length hx
          simp at h2
          omega
        simp
        refine wp_draw _ _ hp _ (by omega) fun v p hp v0 v1 => ?_
        simp
        refine ite_wp (fun hv => ?_) fun hv => ?_
        · simp [big]
          refine ⟨by omega, p, kept ++ [x], _, hp, hk1.append (List.Sublist.refl _), by rw [List.map_append]; rfl, rfl⟩
        · simp
          exact ⟨p, kept, _, hp, hk1.trans (List.sublist_append_left _ _), rfl, rfl⟩
      · obtain ⟨p, kept, j, hp, hk1, rfl, rfl⟩ := hi
        have h2 : ¬ (2 ∈ pr) := by rcases hpr with rfl | rfl <;> simp
        have hlk := hk1.length_le
        simp [h2, e2 kept fun x hx => hs x (hk1.subset hx)]
        by_cases hke : kept = []
        · subst hke
          simp [big]
          refine of_if (by omega) ?_
          simp
          have z := hk (things.take 1) p (.own (.lst [])) hp (List.take_sublist _ _) (fun hne => by simpa using hne)
          rw [List.map_take] at z
          exact z
        · simp [hke, big]
          refine of_if (by omega) ?_
          simp
          exact hk kept p _ hp hk1 fun _ => hke
    rcases hsl with rfl | rfl
    · exact key
    · have key2 := key
      simp [i_law_some] at key2 ⊢
      exact key2
  rcases hsl with rfl | rfl
  · refine main [0] _ (.inl rfl) fun l p j hp h1 h2 => ?_
    simp
    exact h l p _ hp h1 h2
  · refine main [0, 1] _ (.inr rfl) fun l p j hp h1 h2 => ?_
    simp
    exact h l p _ hp h1 h2
abbrev Way := T3 Str Str Str
abbrev Gate := T3 Str Str Int
abbrev Post := T3 Str (List Str) (List Str)
structure Field where
  hours : Int
  spots : List Str
  folk : List Str
  ways : List Way
  shut : List Gate
  posts : List Post
def Field.d (f : Field) : D := .lst [.int f.hours, .lst (f.spots.map .str), .lst (f.folk.map .str), .lst (f.ways.map Enc.d), .lst (f.shut.map Enc.d), .lst (f.posts.map Enc.d)]
abbrev Field.wayN (f : Field) : List Str := f.ways.map (·.a)
structure PostOk (folk wayN : List Str) (q : Post) : Prop where
  who : ∀ x ∈ q.b, x ∈ folk
  who1 : q.b ≠ []
  whoN : q.b.Nodup
  on : ∀ x ∈ q.c, x ∈ wayN
  on1 : q.c ≠ []
  onN : q.c.Nodup
structure PostsOk (folk wayN : List Str) (l : List Post) : Prop where
  names : Names (l.map (·.a))
  len : l.length ≤ 9
  each : ∀ q ∈ l, PostOk folk wayN q
structure Field.Ok (f : Field) : Prop where
  h1 : 1 ≤ f.hours
  h6 : f.hours ≤ 6
  spots : Names f.spots
  spots1 : 1 ≤ f.spots.length
  spots7 : f.spots.length ≤ 7
  folk : Names f.folk
  folk1 : 1 ≤ f.folk.length
  folk3 : f.folk.length ≤ 3
  ways : Names f.wayN
  ways9 : f.ways.length ≤ 9
  ends : ∀ w ∈ f.ways, w.b ∈ f.spots ∧ w.c ∈ f.spots ∧ w.b ≠ w.c
  shut : ∀ g ∈ f.shut, g.a ∈ f.folk ∧ g.b ∈ f.wayN ∧ 0 ≤ g.c ∧ g.c ≤ f.hours
  shutN : (f.shut.map fun g => (g.a, g.b)).Nodup
  posts : PostsOk f.folk f.wayN f.posts
theorem Names.ok {l : List Str} (h : Names l) : ∀ x ∈ l, PyData.strOk x = true := fun x hx => (h.all x hx).strOk
theorem Names.take {l : List Str} (h : Names l) (n : Nat) : Names (l.take n) := ⟨h.nd.sublist (List.take_sublist _ _), fun x hx => h.all x (List.mem_of_mem_take hx)⟩
theorem nodup_sub {l m : List Str} (s : l.Sublist m) (h : m.Nodup) : l.Nodup := h.sublist s
theorem wp_posts (n : Nat) (p : Pool) (hp : p.Ok) (folk : List Str) (ways : List Way) (most : Int) (hf : Names folk) (hf1 : 1 ≤ folk.length) (hf3 : folk.length ≤ 3) (hw : Names (ways.map (·.a))) (hw9 : ways.length ≤ 9) (hwo : ∀ w ∈ ways, Enc.ok w) (hm : most = 5 ∨ most = 9) {k : Kt (Fm.Slot × List Fm.Slot)}
    (h : ∀ (l : List Post) (p' : Pool) (s : Fm.Slot), p'.Ok → PostsOk folk (ways.map (·.a)) l → k.q (s, [.own p'.d, .emp, .emp, .emp]) = k.q (.own (.lst (l.map Enc.d)), [.own p'.d, .emp, .emp, .emp]) → k.q (.own (.lst (l.map Enc.d)), [.own p'.d, .emp, .emp, .emp])) :
    @R.wp _ (callN P (n + 4) n_law_posts [.own p.d, .val (.lst (folk.map .str)), .val (.lst (ways.map Enc.d)), .val (.int most)]) k := by
  have h' : ∀ (l : List Post) (p' : Pool), p'.Ok → PostsOk folk (ways.map (·.a)) l → k.q (.own (.lst (l.map Enc.d)), [.own p'.d, .emp, .emp, .emp]) := fun l p' h1 h2 => h l p' _ h1 h2 rfl
  clear h
  refine call_wp P_law_posts rfl ?_
  simp only [i_law_posts]
  have e1 : eqD (.lst (ways.map Enc.d)) (.lst []) = some (decide (ways = [])) := eqL_nil hwo
  by_cases hne : ways = []
  · subst hne
    simp at e1 ⊢
    simp [e1]
    exact h' [] p hp ⟨⟨.nil, fun _ h => (List.not_mem_nil h).elim⟩, by simp, fun _ h => (List.not_mem_nil h).elim⟩
  · have hm0 : most ≠ 0 := by omega
    simp [e1, hne, hm0]
    refine wp_draw _ _ hp _ (by omega) fun v p hp v0 v1 => ?_
    simp
    refine ite_wp (fun hv => ?_) fun hv => ?_
    · simp [cutD_to _ most (by omega)]
      rw [← List.map_take]
      refine lc_map Enc.d (ways.take most.toNat) (fun w : Way => Enc.d (⟨w.a, folk, [w.a]⟩ : Post)) rfl (by simp [big]; omega) (fun w hw => by simp [big]) ?_
      simp
      have z := h' ((ways.take most.toNat).map fun w : Way => (⟨w.a, folk, [w.a]⟩ : Post)) p hp ⟨?_, ?_, ?_⟩
      · simpa [Function.comp_def] using z
      · rw [List.map_map]
        show Names ((ways.take most.toNat).map (·.a))
        rw [List.map_take]
        exact hw.take _
      · simp; omega
      · intro q hq
        obtain ⟨w, hw1, rfl⟩ := List.mem_map.mp hq
        exact ⟨fun x hx => hx, fun e => by have e : folk = [] := e; rw [e] at hf1; simp at hf1, hf.nd, fun x hx => by
          have hx : x ∈ [w.a] := hx
          rw [List.mem_singleton.mp hx]
          exact List.mem_map.mpr ⟨w, List.mem_of_mem_take hw1, rfl⟩, by simp, by simp⟩
    · simp
      refine wp_draw _ _ hp _ (by omega) fun v p hp v0 v1 => ?_
      simp
      refine wp_size _ _ hp _ _ (by split <;> omega) (by split <;> omega) (by omega) fun m p hp m0 m1 => ?_
      simp
      refine wp_names _ _ hp _ (by split at m0 <;> omega) (by omega) fun names p hp hn hl => ?_
      simp
      refine turns_wp D.str names (fun pre acc env => ∃ (p : Pool) (l : List Post) (j5 j6 : Fm.Slot), p.Ok ∧ l.map (·.a) = pre ∧ (∀ q ∈ l, PostOk folk (ways.map (·.a)) q) ∧ acc = l.map Enc.d ∧
        env = [.own p.d, .val (.lst (folk.map .str)), .val (.lst (ways.map Enc.d)), .val (.int most), .val (.lst (names.map .str)), j5, .emp]) rfl ⟨p, [], _, .emp, hp, rfl, fun _ h => (List.not_mem_nil h).elim, rfl, rfl⟩ (fun pre x post acc env hx hi => ?_) fun acc env hi => ?_
      · obtain ⟨p, l, j5, j6, hp, hl1, hl2, rfl, rfl⟩ := hi
        have hlen : l.length < 9 := by
          have h1 := congrArg List.length hx
          have h2 := congrArg List.length hl1
          simp at h1 h2
          omega
        simp
        refine wp_some _ _ hp folk hf.ok (by omega) _ (.inl rfl) fun who p s' hp hw1 hw2 => ?_
        simp
        refine lc_map Enc.d ways (fun w : Way => D.str w.a) rfl (by simp [big]; omega) (fun w hw => by simp) ?_
        simp
        have e4 : List.map (fun w : Way => D.str w.a) ways = (ways.map (·.a)).map D.str := by rw [List.map_map]; rfl
        rw [e4]
        refine wp_some _ _ hp (ways.map (·.a)) hw.ok (by simp; omega) _ (.inr rfl) fun on p s' hp ho1 ho2 => ?_
        simp [big]
        refine ⟨by omega, p, l ++ [⟨x, who, on⟩], _, .emp, hp, by simp [hl1], fun q hq => ?_, by simp, rfl⟩
        rcases List.mem_append.mp hq with hq | hq
        · exact hl2 q hq
        · rw [List.mem_singleton.mp hq]
          exact ⟨fun y hy => hw1.subset hy, hw2 (fun e => by rw [e] at hf1; simp at hf1), hf.nd.sublist hw1, fun y hy => ho1.subset hy, ho2 (by simpa using hne), hw.nd.sublist ho1⟩
      · obtain ⟨p, l, j5, j6, hp, hl1, hl2, rfl, rfl⟩ := hi
        simp
        refine h' l p hp ⟨hl1 ▸ hn, ?_, hl2⟩
        have := congrArg List.length hl1
        simp at this
        omega
end Kx
end

section
set_option Elab.async false
set_option linter.all false
set_option maxRecDepth 10000
set_option autoImplicit false
set_option maxHeartbeats 1000000
/-! the drawn field -/
namespace Kx
open PySem PySem.W Fm Fm.Sx L2
theorem two_ends {l : List Str} (nd : l.Nodup) {i e : Int} (h0 : 0 ≤ i) (h1 : i < l.length) (e0 : 0 ≤ e) (e1 : e + 2 ≤ l.length) : ∃ a b, atI l i = some a ∧ atI l (i - 1 - e) = some b ∧ a ∈ l ∧ b ∈ l ∧ a ≠ b := by
  obtain ⟨n, rfl⟩ := Int.eq_ofNat_of_zero_le h0
  have hn : n < l.length := by omega
  have hb : ∃ m, ∃ hm : m < l.length, atI l ((n : Int) - 1 - e) = some l[m] ∧ m ≠ n := by
    unfold atI ixN
    by_cases c : 0 ≤ (n : Int) - 1 - e
    · rw [if_pos c, if_pos (by omega)]
      exact ⟨((n : Int) - 1 - e).toNat, by omega, by simp, by omega⟩
    · rw [if_neg c, if_pos (by omega)]
      exact ⟨((n : Int) - 1 - e + l.length).toNat, by omega, by simp, by omega⟩
  obtain ⟨m, hm, e2, ne⟩ := hb
  refine ⟨l[n], l[m], ?_, e2, List.getElem_mem _, List.getElem_mem _, fun h => ne ?_⟩
  · rw [Sx.atI_nat, List.getElem?_eq_getElem hn]
  · exact ((List.getElem_inj nd).mp h).symm
theorem nodup_snoc {α : Type} {l : List α} {x : α} (h : l.Nodup) (hx : x ∉ l) : (l ++ [x]).Nodup := by
  rw [List.nodup_append]
  exact ⟨h, by simp, fun a ha b hb => by rw [List.mem_singleton.mp hb]; exact fun e => hx (e ▸ ha)⟩
structure ShutOk (hours : Int) (folk : List Str) (who : Str) (wayN pre : List Str) (l : List Gate) : Prop where
  each : ∀ g ∈ l, (g.a ∈ folk ∧ g.b ∈ wayN ∨ g.a = who ∧ g.b ∈ pre) ∧ 0 ≤ g.c ∧ g.c ≤ hours
  nd : (l.map fun g => (g.a, g.b)).Nodup
theorem wp_field (n : Nat) (p : Pool) (hp : p.Ok) (m0 m1 m2 m3 m4 : Int) (h0 : 1 ≤ m0 ∧ m0 ≤ 6) (h1 : 2 ≤ m1 ∧ m1 ≤ 7) (h2 : 1 ≤ m2 ∧ m2 ≤ 3) (h3 : 1 ≤ m3 ∧ m3 ≤ 9) (h4 : m4 = 5 ∨ m4 = 9) {k : Kt (Fm.Slot × List Fm.Slot)}
    (h : ∀ (f : Field) (p' : Pool), p'.Ok → f.Ok → k.q (.own f.d, [.own p'.d, .own (.lst [.int m0, .int m1, .int m2, .int m3, .int m4])])) :
    @R.wp _ (callN P (n + 5) n_law_field [.own p.d, .own (.lst [.int m0, .int m1, .int m2, .int m3, .int m4])]) k := by
  refine call_wp P_law_field rfl ?_
  simp [i_law_field]
  refine wp_size _ _ hp _ _ (by omega) h0.1 (by omega) fun hours p hp hh1 hh2 => ?_
  simp
  refine wp_draw _ _ hp _ (by omega) fun v p hp v0 v1 => ?_
  simp
  refine wp_size _ _ hp _ _ (by split <;> omega) (by split <;> omega) (by omega) fun ns p hp ns1 ns2 => ?_
  simp
  refine wp_names _ _ hp _ (by split at ns1 <;> omega) (by omega) fun spots p hp hspots hsl => ?_
  simp
  refine wp_size _ _ hp _ _ (by omega) h2.1 (by omega) fun nf p hp nf1 nf2 => ?_
  simp
  refine wp_names _ _ hp _ (by omega) (by omega) fun folk p hp hfolk hfl => ?_
  simp
  refine wp_draw _ _ hp _ (by omega) fun v2 p hp v20 v21 => ?_
  simp
  refine wp_size _ _ hp _ _ (by split <;> omega) (by split <;> omega) (by omega) fun nw p hp nw1 nw2 => ?_
  simp
  have hsp1 : 1 ≤ spots.length := by split at ns1 <;> omega
  have hs7 : spots.length ≤ 7 := by omega
  refine of_if (by left; omega) ?_
  simp
  refine wp_names _ _ hp _ ?_ ?_ fun names p hp hnames hnl => ?_
  · split at nw1 <;> split <;> omega
  · split <;> omega
  have hone : names ≠ [] → 2 ≤ spots.length := fun hne => by
    have := List.length_pos_iff.mpr hne
    split at hnl <;> omega
  have hn9 : names.length ≤ 9 := by split at hnl <;> omega
  simp
  refine loop_wp D.str names (fun pre env => ∃ (p : Pool) (ways : List Way) (j7 j10 : Fm.Slot), p.Ok ∧ ways.map T3.a = pre ∧ (∀ w ∈ ways, w.b ∈ spots ∧ w.c ∈ spots ∧ w.b ≠ w.c) ∧
    env = [.own p.d, .own (.lst [.int m0, .int m1, .int m2, .int m3, .int m4]), .val (.int hours), .own (.lst (spots.map .str)), .own (.lst (folk.map .str)), .own (.lst (ways.map Enc.d)), .val (.int (if 0 < v2 then 1 else 0)), j7, .emp, .emp, j10, .emp]) rfl
    ⟨p, [], _, _, hp, rfl, fun _ h => (List.not_mem_nil h).elim, rfl⟩ (fun pre x post env hx hi => ?_) fun env hi => ?_
  · obtain ⟨p, ways, j7, j10, hp, hw1, hw2, rfl⟩ := hi
    have hL : 2 ≤ spots.length := hone (by rw [← hx]; simp)
    have hwl : ways.length < 9 := by
      have h1 := congrArg List.length hx
      have h2 := congrArg List.length hw1
      simp at h1 h2
      omega
    simp
    refine wp_draw _ _ hp _ (by omega) fun one p hp o0 o1 => ?_
    obtain ⟨a0, _, ea0, _, _, _, _⟩ := two_ends hspots.nd (i := one) (e := 0) o0 (by omega) (by omega) (by omega)
    simp [atI_map, ea0]
    refine wp_draw _ _ hp _ (by omega) fun e p hp e0 e1 => ?_
    obtain ⟨a, b, ea, eb, ma, mb, nab⟩ := two_ends hspots.nd (i := one) (e := e) o0 (by omega) e0 (by omega)
    have eq0 : a0 = a := Option.some.inj (ea0.symm.trans ea)
    subst eq0
    simp [atI_map, ea, eb, big]
    refine if_wp (by omega) ?_
    simp
    refine ⟨p, ways ++ [⟨x, a0, b⟩], _, _, hp, by rw [List.map_append, hw1]; rfl, fun w hw => ?_, by rw [List.map_append]; rfl⟩
    rcases List.mem_append.mp hw with hw | hw
    · exact hw2 w hw
    · rw [List.mem_singleton.mp hw]
      exact ⟨ma, mb, nab⟩
  · obtain ⟨p, ways, j7, j10, hp, hw1, hw2, rfl⟩ := hi
    have hw9 : ways.length ≤ 9 := by
      have h2 := congrArg List.length hw1
      simp at h2
      omega
    simp
    refine loop_wp D.str folk (fun pre env => ∃ (p : Pool) (shut : List Gate) (s5 j9 j11 : Fm.Slot), p.Ok ∧ ShutOk hours pre ⟨#[]⟩ (ways.map T3.a) [] shut ∧ shut.length ≤ pre.length * 9 ∧ (s5 = .own (.lst (ways.map Enc.d)) ∧ pre = [] ∨ s5 = .val (.lst (ways.map Enc.d))) ∧
      env = [.own p.d, .own (.lst [.int m0, .int m1, .int m2, .int m3, .int m4]), .val (.int hours), .own (.lst (spots.map .str)), .val (.lst (folk.map .str)), s5, .val (.int (if 0 < v2 then 1 else 0)), j7, .own (.lst (shut.map Enc.d)), j9, j10, j11]) rfl
      ⟨p, [], _, _, _, hp, ⟨fun _ h => (List.not_mem_nil h).elim, .nil⟩, by simp, .inl ⟨rfl, rfl⟩, rfl⟩ (fun pre x post env hx hi => ?_) fun env hi => ?_
    · obtain ⟨p, shut, s5, j9, j11, hp, hs1, hs2, hs5, rfl⟩ := hi
      have hpl : pre.length < 3 := by
        have h1 := congrArg List.length hx
        simp at h1
        omega
      have hxp : x ∉ pre := by
        have := hfolk.nd
        rw [← hx, List.nodup_append] at this
        exact fun hm => this.2.2 x hm x List.mem_cons_self rfl
      have inner : @R.wp _ (loop [0, 1] (.nm 11) (fun env => exs P (callN P (n + 4)) [0, 1] [.ife (.cmp .eq (.call 2 [.nm 0, .cn (.int 5)]) (.cn (.int 0))) [.xp (.app (.nm 8) (.tp [.nm 9, .ix (.nm 11) (.cn (.int 0)), .call 2 [.nm 0, .bin .add (.nm 2) (.cn (.int 1))]]))] []] env) (ways.map Enc.d)
          [.own p.d, .own (.lst [.int m0, .int m1, .int m2, .int m3, .int m4]), .val (.int hours), .own (.lst (spots.map .str)), .val (.lst (folk.map .str)), .val (.lst (ways.map Enc.d)), .val (.int (if 0 < v2 then 1 else 0)), j7, .own (.lst (shut.map Enc.d)), .val (.str x), j10, j11])
          ⟨fun r => @Hide ⟨∃ (p : Pool) (shut : List Gate) (j11 : Fm.Slot), p.Ok ∧ ShutOk hours (pre ++ [x]) ⟨#[]⟩ (ways.map T3.a) [] shut ∧ shut.length ≤ (pre ++ [x]).length * 9 ∧ r = (.nx, [.own p.d, .own (.lst [.int m0, .int m1, .int m2, .int m3, .int m4]), .val (.int hours), .own (.lst (spots.map .str)), .val (.lst (folk.map .str)), .val (.lst (ways.map Enc.d)), .val (.int (if 0 < v2 then 1 else 0)), j7, .own (.lst (shut.map Enc.d)), .val (.str x), j10, j11])⟩, NoE⟩ := by
        refine loop_wp Enc.d ways (fun pre2 env => ∃ (p : Pool) (shut : List Gate) (j11 : Fm.Slot), p.Ok ∧ ShutOk hours pre x (ways.map T3.a) (pre2.map T3.a) shut ∧ shut.length ≤ pre.length * 9 + pre2.length ∧
          env = [.own p.d, .own (.lst [.int m0, .int m1, .int m2, .int m3, .int m4]), .val (.int hours), .own (.lst (spots.map .str)), .val (.lst (folk.map .str)), .val (.lst (ways.map Enc.d)), .val (.int (if 0 < v2 then 1 else 0)), j7, .own (.lst (shut.map Enc.d)), .val (.str x), j10, j11]) rfl
          ⟨p, shut, _, hp, ⟨fun g hg => ?_, hs1.nd⟩, by simpa using hs2, rfl⟩ (fun pre2 y post2 env hx2 hi => ?_) fun env hi => ?_
        · have := hs1.each g hg
          simpa using this
        · obtain ⟨p, shut, j11, hp, hs1, hs2, rfl⟩ := hi
          have hp2 : pre2.length < 9 := by
            have h1 := congrArg List.length hx2
            simp at h1
            omega
          have hyw : y.a ∈ ways.map T3.a := by rw [← hx2]; simp
          have hyp : y.a ∉ pre2.map T3.a := by
            have := hnames.nd
            rw [← hw1, ← hx2, List.map_append, List.nodup_append] at this
            exact fun hm => this.2.2 _ hm _ List.mem_cons_self rfl
          simp
          refine wp_draw _ _ hp _ (by omega) fun v p hp v0 v1 => ?_
          simp
          refine ite_wp (fun hv => ?_) fun hv => ?_
          · simp
            refine wp_draw _ _ hp _ (by omega) fun g p hp g0 g1 => ?_
            simp [big]
            refine if_wp (by omega) ?_
            simp
            refine ⟨p, shut ++ [⟨x, y.a, g⟩], _, hp, ⟨fun q hq => ?_, ?_⟩, by simp; omega, by rw [List.map_append]; rfl⟩
            · rcases List.mem_append.mp hq with hq | hq
              · obtain ⟨c, d⟩ := hs1.each q hq
                exact ⟨c.imp id fun ⟨c1, c2⟩ => ⟨c1, by rw [List.map_append]; exact List.mem_append_left _ c2⟩, d⟩
              · rw [List.mem_singleton.mp hq]
                exact ⟨.inr ⟨rfl, by simp⟩, g0, by show g ≤ hours; omega⟩
            · rw [List.map_append]
              refine nodup_snoc hs1.nd fun hm => ?_
              obtain ⟨q, hq, e⟩ := List.mem_map.mp hm
              obtain ⟨c, d⟩ := hs1.each q hq
              have e1 : q.a = x := congrArg Prod.fst e
              have e2 : q.b = y.a := congrArg Prod.snd e
              rcases c with ⟨c1, c2⟩ | ⟨c1, c2⟩
              · exact hxp (e1 ▸ c1)
              · exact hyp (e2 ▸ c2)
          · simp
            refine ⟨p, shut, _, hp, ⟨fun q hq => ?_, hs1.nd⟩, by simp; omega, rfl⟩
            obtain ⟨c, d⟩ := hs1.each q hq
            exact ⟨c.imp id fun ⟨c1, c2⟩ => ⟨c1, by rw [List.map_append]; exact List.mem_append_left _ c2⟩, d⟩
        · obtain ⟨p, shut, j11, hp, hs1, hs2, rfl⟩ := hi
          refine ⟨p, shut, _, hp, ⟨fun q hq => ?_, hs1.nd⟩, by simp; omega, rfl⟩
          obtain ⟨c, d⟩ := hs1.each q hq
          refine ⟨.inl ?_, d⟩
          rcases c with ⟨c1, c2⟩ | ⟨c1, c2⟩
          · exact ⟨List.mem_append_left _ c1, c2⟩
          · exact ⟨by rw [c1]; simp, c2⟩
      have fin : ∀ r : Fl × Fm.Env, (∃ (p : Pool) (shut : List Gate) (j11 : Fm.Slot), p.Ok ∧ ShutOk hours (pre ++ [x]) ⟨#[]⟩ (ways.map T3.a) [] shut ∧ shut.length ≤ (pre ++ [x]).length * 9 ∧ r = (.nx, [.own p.d, .own (.lst [.int m0, .int m1, .int m2, .int m3, .int m4]), .val (.int hours), .own (.lst (spots.map .str)), .val (.lst (folk.map .str)), .val (.lst (ways.map Enc.d)), .val (.int (if 0 < v2 then 1 else 0)), j7, .own (.lst (shut.map Enc.d)), .val (.str x), j10, j11])) →
          ∃ (p : Pool) (shut : List Gate) (s5 j9 j11 : Fm.Slot), p.Ok ∧ ShutOk hours (pre ++ [x]) ⟨#[]⟩ (ways.map T3.a) [] shut ∧ shut.length ≤ (pre ++ [x]).length * 9 ∧ (s5 = .own (.lst (ways.map Enc.d)) ∧ (pre ++ [x]) = [] ∨ s5 = .val (.lst (ways.map Enc.d))) ∧
            r = (.nx, [.own p.d, .own (.lst [.int m0, .int m1, .int m2, .int m3, .int m4]), .val (.int hours), .own (.lst (spots.map .str)), .val (.lst (folk.map .str)), s5, .val (.int (if 0 < v2 then 1 else 0)), j7, .own (.lst (shut.map Enc.d)), j9, j10, j11]) := fun r ⟨p, shut, j11, a, b, c, d⟩ => ⟨p, shut, _, _, _, a, b, c, .inr rfl, d⟩
      rcases hs5 with ⟨rfl, -⟩ | rfl
      · simp
        refine wp_no inner fun r hr => ?_
        obtain ⟨p, shut, s5, j9, j11, a, b, c, d, rfl⟩ := fin r hr
        simp
        exact ⟨p, shut, s5, j9, j11, a, b, c, d, rfl⟩
      · simp
        refine wp_no inner fun r hr => ?_
        obtain ⟨p, shut, s5, j9, j11, a, b, c, d, rfl⟩ := fin r hr
        simp
        exact ⟨p, shut, s5, j9, j11, a, b, c, d, rfl⟩
    · obtain ⟨p, shut, s5, j9, j11, hp, hs1, hs2, hs5, rfl⟩ := hi
      have hf0 : folk ≠ [] := fun e => by rw [e] at hfl; simp at hfl; omega
      rcases hs5 with ⟨-, e⟩ | rfl
      · exact absurd e hf0
      · have hwo : ∀ w ∈ ways, Enc.ok w := fun w hw => by
          have m1 : w.a ∈ names := hw1 ▸ List.mem_map.mpr ⟨w, hw, rfl⟩
          obtain ⟨x1, x2, _⟩ := hw2 w hw
          exact ⟨hnames.ok _ m1, hspots.ok _ x1, hspots.ok _ x2⟩
        simp
        refine wp_posts _ _ hp folk ways m4 hfolk (by omega) (by omega) (by rw [hw1]; exact hnames) hw9 hwo h4 fun posts p s hp hposts _ => ?_
        simp [big]
        have hwn : Names (ways.map T3.a) := by rw [hw1]; exact hnames
        exact h ⟨hours, spots, folk, ways, shut, posts⟩ p hp ⟨by show 1 ≤ hours; omega, by show hours ≤ 6; omega, hspots, hsp1, hs7, hfolk, by show 1 ≤ folk.length; omega, by show folk.length ≤ 3; omega, hwn, hw9, hw2, (fun g hg => by
          obtain ⟨c, d⟩ := hs1.each g hg
          rcases c with ⟨c1, c2⟩ | ⟨_, c2⟩
          · exact ⟨c1, c2, d⟩
          · exact (List.not_mem_nil c2).elim), hs1.nd, hposts⟩
end Kx
end

section
set_option Elab.async false
set_option linter.all false
set_option maxRecDepth 10000
set_option autoImplicit false
set_option maxHeartbeats 1000000
/-! the pool of a script, gates, moves, the walk -/
namespace Kx
open PySem PySem.W Fm Fm.Sx L2
theorem wp_pool (n : Nat) (ns : List Int) {k : Kt (Fm.Slot × List Fm.Slot)} (h : ∀ (p' : Pool), p'.Ok → k.q (.own p'.d, [.emp])) : @R.wp _ (callN P (n + 1) n_law_pool [.val (.scr ns)]) k := by
  refine call_wp P_law_pool rfl ?_
  simp [i_law_pool]
  rw [← List.map_take]
  have hl : (ns.take 63).length ≤ 63 := List.length_take_le _ _
  refine lc_map D.int (ns.take 63) (fun x => D.int ((if x < 0 then -x else x) % big300)) rfl (by simp [big]; omega) (fun x hx => ?_) ?_
  · simp
  · have e : List.map (fun x : Int => D.int ((if x < 0 then -x else x) % big300)) (ns.take 63) = ((ns.take 63).map fun x => (if x < 0 then -x else x) % big300).map D.int := by rw [List.map_map]; rfl
    rw [e]
    have hc : ∀ y ∈ (ns.take 63).map fun x : Int => (if x < 0 then -x else x) % big300, 0 ≤ y := by
      intro y hy
      obtain ⟨x, _, rfl⟩ := List.mem_map.mp hy
      exact Int.emod_nonneg _ (Int.ne_of_gt big300_pos)
    generalize ((ns.take 63).map fun x : Int => (if x < 0 then -x else x) % big300) = cells at hc ⊢
    simp
    refine loop_wp D.int cells (fun pre env => ∃ (s : Int) (j : Fm.Slot), env = [.val (.scr ns), .val (.lst (cells.map .int)), .val (.int s), j]) rfl ⟨_, _, rfl⟩ (fun pre x post env hx hi => ?_) fun env hi => ?_
    · obtain ⟨s, j, rfl⟩ := hi
      simp
      exact ⟨_, _, rfl⟩
    · obtain ⟨s, j, rfl⟩ := hi
      simp [big]
      exact h ⟨cells, 0, 0, 0, s⟩ ⟨hc, Int.le_refl _, Int.le_refl _⟩
def Field.gate (f : Field) (who way : Str) : Int := ((f.shut.filter fun g => decide (g.a = who) && decide (g.b = way)).map (·.c) ++ [f.hours]).headD 0
theorem Field.Ok.waysOk {f : Field} (h : f.Ok) : ∀ w ∈ f.ways, PyData.strOk w.a = true ∧ PyData.strOk w.b = true ∧ PyData.strOk w.c = true := fun w hw => by
  obtain ⟨x1, x2, _⟩ := h.ends w hw
  exact ⟨h.ways.ok _ (List.mem_map.mpr ⟨w, hw, rfl⟩), h.spots.ok _ x1, h.spots.ok _ x2⟩
theorem Field.Ok.shutOk {f : Field} (h : f.Ok) : ∀ g ∈ f.shut, PyData.strOk g.a = true ∧ PyData.strOk g.b = true := fun g hg => by
  obtain ⟨x1, x2, _⟩ := h.shut g hg
  exact ⟨h.folk.ok _ x1, h.ways.ok _ x2⟩
theorem pairs_len {l : List (Str × Str)} {xs ys : List Str} (nd : l.Nodup) (h : ∀ p ∈ l, p.1 ∈ xs ∧ p.2 ∈ ys) : l.length ≤ xs.length * ys.length := by
  have := nodup_len (ys := xs.flatMap fun x => ys.map fun y => (x, y)) nd fun p hp => List.mem_flatMap.mpr ⟨p.1, (h p hp).1, List.mem_map.mpr ⟨p.2, (h p hp).2, rfl⟩⟩
  rw [List.length_flatMap] at this
  simp only [List.length_map, List.map_const', List.sum_replicate_nat] at this
  exact this
theorem Field.Ok.shutLen {f : Field} (h : f.Ok) : f.shut.length ≤ 27 := by
  have := pairs_len h.shutN (xs := f.folk) (ys := f.wayN) fun p hp => by
    obtain ⟨g, hg, rfl⟩ := List.mem_map.mp hp
    exact ⟨(h.shut g hg).1, (h.shut g hg).2.1⟩
  rw [List.length_map, List.length_map] at this
  have h1 := h.folk3
  have h2 := h.ways9
  have : f.folk.length * f.ways.length ≤ 3 * 9 := Nat.mul_le_mul h1 h2
  omega
theorem e_gate (n : Nat) (f : Field) (hf : f.Ok) (who way : Str) (h1 : PyData.strOk who = true) (h2 : PyData.strOk way = true) : callN P (n + 1) n_law_gate [.own f.d, .val (.str who), .val (.str way)] = .ok (.val (.int (f.gate who way)), [.own f.d, .emp, .emp]) := by
  refine eq_of_wp (call_wp P_law_gate rfl ?_)
  simp [i_law_gate, Field.d]
  refine lc_wp Enc.d f.shut (fun g => decide (g.a = who) && decide (g.b = way)) (fun g : Gate => D.int g.c) rfl (by have := hf.shutLen; simp [big]; omega) (fun g hg => ?_) ?_
  · obtain ⟨g1, g2⟩ := hf.shutOk g hg
    have e := eqD_pair g1 g2 h1 h2
    simp [big, cutD, e]
    by_cases c1 : g.a = who <;> by_cases c2 : g.b = way <;> simp [c1, c2]
  · have z1 := hf.shutLen
    have z2 := List.length_filter_le (fun g : Gate => decide (g.a = who) && decide (g.b = way)) f.shut
    unfold Field.gate
    generalize (f.shut.filter fun g : Gate => decide (g.a = who) && decide (g.b = way)) = l at z2 ⊢
    simp [big]
    refine of_if (by omega) ?_
    cases l with
    | nil => simp [Field.d]
    | cons a l => simp [Field.d]
end Kx
end

section
set_option Elab.async false
set_option linter.all false
set_option maxRecDepth 10000
set_option autoImplicit false
set_option maxHeartbeats 1000000
/-! moves, the walk -/
namespace Kx
open PySem PySem.W Fm Fm.Sx L2
@[simp] theorem inD_T2 (x a b : Str) : inD (.str x) (.tup [.str a, .str b]) = some (decide (x = a ∨ x = b)) := by
  have := inD_strsT x [a, b]
  simp at this
  simp [this]
def fdk (ks : List Str) (f : Str → D) : D := .dk (ks.map Sum.inr) (ks.map f)
def pls (ks : List Str) (pl : Str → Str) : D := fdk ks fun x => .str (pl x)
structure MoveOk (f : Field) (pl : Str → Str) (hour : Int) (m : T3 Str Str Str) : Prop where
  who : m.a ∈ f.folk
  way : ∃ w ∈ f.ways, w.a = m.b ∧ (pl m.a = w.b ∧ m.c = w.c ∨ pl m.a = w.c ∧ m.c = w.b)
  gate : hour ≤ f.gate m.a m.b
theorem wp_moves (n : Nat) (f : Field) (hf : f.Ok) (pl : Str → Str) (hour : Int) {k : Kt (Fm.Slot × List Fm.Slot)}
    (h : ∀ l : List (T3 Str Str Str), (∀ m ∈ l, MoveOk f pl hour m) → l.length ≤ 27 → k.q (.own (.lst (l.map Enc.d)), [.own f.d, .own (pls f.folk pl), .emp])) :
    @R.wp _ (callN P (n + 2) n_law_moves [.own f.d, .own (pls f.folk pl), .val (.int hour)]) k := by
  refine call_wp P_law_moves rfl ?_
  simp [i_law_moves]
  rw [show f.d = .lst [.int f.hours, .lst (f.spots.map .str), .lst (f.folk.map .str), .lst (f.ways.map Enc.d), .lst (f.shut.map Enc.d), .lst (f.posts.map Enc.d)] from rfl]
  simp
  rw [show D.lst [.int f.hours, .lst (f.spots.map .str), .lst (f.folk.map .str), .lst (f.ways.map Enc.d), .lst (f.shut.map Enc.d), .lst (f.posts.map Enc.d)] = f.d from rfl]
  refine loop_wp D.str f.folk (fun pre env => ∃ (l : List (T3 Str Str Str)) (j4 j5 : Fm.Slot), (∀ m ∈ l, MoveOk f pl hour m) ∧ l.length ≤ pre.length * 9 ∧ env = [.own f.d, .own (pls f.folk pl), .val (.int hour), .own (.lst (l.map Enc.d)), j4, j5]) rfl
    ⟨[], _, _, fun _ h => (List.not_mem_nil h).elim, by simp, rfl⟩ (fun pre x post env hx hi => ?_) fun env hi => ?_
  · obtain ⟨l, j4, j5, hl1, hl2, rfl⟩ := hi
    have hxm : x ∈ f.folk := by rw [← hx]; simp
    have hpl : pre.length < 3 := by
      have h1 := congrArg List.length hx
      have h2 := hf.folk3
      simp at h1
      omega
    simp
    rw [show f.d = .lst [.int f.hours, .lst (f.spots.map .str), .lst (f.folk.map .str), .lst (f.ways.map Enc.d), .lst (f.shut.map Enc.d), .lst (f.posts.map Enc.d)] from rfl]
    simp
    rw [show D.lst [.int f.hours, .lst (f.spots.map .str), .lst (f.folk.map .str), .lst (f.ways.map Enc.d), .lst (f.shut.map Enc.d), .lst (f.posts.map Enc.d)] = f.d from rfl]
    refine loop_wp Enc.d f.ways (fun pre2 env => ∃ (l : List (T3 Str Str Str)) (j5 : Fm.Slot), (∀ m ∈ l, MoveOk f pl hour m) ∧ l.length ≤ pre.length * 9 + pre2.length ∧ env = [.own f.d, .own (pls f.folk pl), .val (.int hour), .own (.lst (l.map Enc.d)), .val (.str x), j5]) rfl
      ⟨l, _, hl1, by simpa using hl2, rfl⟩ (fun pre2 w post2 env hx2 hi => ?_) fun env hi => ?_
    · obtain ⟨l, j5, hl1, hl2, rfl⟩ := hi
      have hwm : w ∈ f.ways := by rw [← hx2]; simp
      have hp2 : pre2.length < 9 := by
        have h1 := congrArg List.length hx2
        have h2 := hf.ways9
        simp at h1
        omega
      have hpx : getK (f.folk.map Sum.inr) (f.folk.map fun x => D.str (pl x)) (Sum.inr x : Key) = some (.str (pl x)) := by
        rw [getK_fn inr_inj, if_pos hxm]
      have hend := hf.ends w hwm
      simp [pls, fdk, hpx]
      refine ite_wp (fun c1 => ?_) fun c1 => ?_
      · simp
        refine wp_eq (e_gate _ f hf x w.a (hf.folk.ok _ hxm) (hf.waysOk w hwm).1) ?_
        simp
        refine ite_wp (fun c2 => ?_) fun c2 => ?_
        · simp [hpx]
          by_cases c3 : pl x = w.b
          · simp [c3, big]
            refine if_wp (by omega) ?_
            simp
            refine ⟨l ++ [⟨x, w.a, w.c⟩], _, fun m hm => ?_, by simp; omega, by rw [List.map_append]; rfl⟩
            rcases List.mem_append.mp hm with hm | hm
            · exact hl1 m hm
            · rw [List.mem_singleton.mp hm]
              exact ⟨hxm, ⟨w, hwm, rfl, .inl ⟨c3, rfl⟩⟩, c2⟩
          · simp [c3, big]
            refine if_wp (by omega) ?_
            simp
            refine ⟨l ++ [⟨x, w.a, w.b⟩], _, fun m hm => ?_, by simp; omega, by rw [List.map_append]; rfl⟩
            rcases List.mem_append.mp hm with hm | hm
            · exact hl1 m hm
            · rw [List.mem_singleton.mp hm]
              exact ⟨hxm, ⟨w, hwm, rfl, .inr ⟨c1.resolve_left c3, rfl⟩⟩, c2⟩
        · simp
          exact ⟨l, _, hl1, by simp; omega, rfl⟩
      · simp
        exact ⟨l, _, hl1, by simp; omega, rfl⟩
    · obtain ⟨l, j5, hl1, hl2, rfl⟩ := hi
      simp
      have := hf.ways9
      exact ⟨l, _, _, hl1, by simp; omega, rfl⟩
  · obtain ⟨l, j4, j5, hl1, hl2, rfl⟩ := hi
    simp
    have := hf.folk3
    exact h l hl1 (by omega)
end Kx
end

section
set_option Elab.async false
set_option linter.all false
set_option maxRecDepth 10000
set_option autoImplicit false
set_option maxHeartbeats 1000000
/-! the walk -/
namespace Kx
open PySem PySem.W Fm Fm.Sx L2
abbrev Going := T4 Int Str Str Str
structure GoOk (f : Field) (pl : Str → Str) (h : Int) (g : Going) : Prop where
  who : g.b ∈ f.folk
  way : ∃ w ∈ f.ways, w.a = g.c ∧ (pl g.b = w.b ∧ g.d = w.c ∨ pl g.b = w.c ∧ g.d = w.b)
  lo : h ≤ g.a
  gate : g.a ≤ f.gate g.b g.c
def WalkOk (f : Field) : (Str → Str) → Int → List Going → Prop
  | _, _, [] => True
  | pl, h, g :: r => GoOk f pl h g ∧ WalkOk f (updF pl g.b g.d) g.a r
def endPl : (Str → Str) → List Going → Str → Str
  | pl, [] => pl
  | pl, g :: r => endPl (updF pl g.b g.d) r
def lastH : Int → List Going → Int
  | h, [] => h
  | _, g :: r => lastH g.a r
theorem walk_snoc {f : Field} {g : Going} : ∀ {r : List Going} {pl : Str → Str} {h : Int}, WalkOk f pl h (r ++ [g]) ↔ WalkOk f pl h r ∧ GoOk f (endPl pl r) (lastH h r) g
  | [], pl, h => by
    show (GoOk f pl h g ∧ True) ↔ True ∧ GoOk f pl h g
    exact ⟨fun x => ⟨trivial, x.1⟩, fun x => ⟨x.2, trivial⟩⟩
  | x :: r, pl, h => by
    show (GoOk f pl h x ∧ WalkOk f (updF pl x.b x.d) x.a (r ++ [g])) ↔ (GoOk f pl h x ∧ WalkOk f (updF pl x.b x.d) x.a r) ∧ GoOk f (endPl (updF pl x.b x.d) r) (lastH x.a r) g
    rw [walk_snoc, and_assoc]
theorem endPl_snoc {g : Going} : ∀ {r : List Going} {pl : Str → Str}, endPl pl (r ++ [g]) = updF (endPl pl r) g.b g.d
  | [], _ => rfl
  | x :: r, pl => endPl_snoc (r := r) (pl := updF pl x.b x.d)
theorem lastH_snoc {g : Going} : ∀ {r : List Going} {h : Int}, lastH h (r ++ [g]) = g.a
  | [], _ => rfl
  | x :: r, _ => lastH_snoc (r := r) (h := x.a)
theorem Field.gate_le {f : Field} (hf : f.Ok) (who way : Str) : 0 ≤ f.gate who way ∧ f.gate who way ≤ f.hours := by
  unfold Field.gate
  cases e : f.shut.filter fun g => decide (g.a = who) && decide (g.b = way) with
  | nil => exact ⟨by have := hf.h1; simp; omega, by simp⟩
  | cons g l =>
    have hg : g ∈ f.shut := (List.mem_filter.mp (e ▸ List.mem_cons_self : g ∈ f.shut.filter fun g => decide (g.a = who) && decide (g.b = way))).1
    obtain ⟨_, _, h1, h2⟩ := hf.shut g hg
    exact ⟨by simpa using h1, by simpa using h2⟩
theorem pls_upd (ks : List Str) (nd : ks.Nodup) (pl : Str → Str) {x : Str} (y : Str) (hx : x ∈ ks) : D.dk (putKs (ks.map Sum.inr) (Sum.inr x : Key)) (putVs (ks.map Sum.inr) (ks.map fun x => D.str (pl x)) (Sum.inr x : Key) (.str y)) = pls ks (updF pl x y) := by
  have e : updF (fun x => D.str (pl x)) x (.str y) = fun z => D.str (updF pl x y z) := by
    funext z
    unfold updF
    split <;> rfl
  rw [putKs_fn inr_inj, putVs_fn inr_inj _ _ _ nd, e]
  unfold putS pls fdk
  rw [if_pos hx]
theorem pls_new (ks : List Str) (nd : ks.Nodup) (pl : Str → Str) {x : Str} (y : Str) (hx : x ∉ ks) : D.dk (putKs (ks.map Sum.inr) (Sum.inr x : Key)) (putVs (ks.map Sum.inr) (ks.map fun x => D.str (pl x)) (Sum.inr x : Key) (.str y)) = pls (ks ++ [x]) (updF pl x y) := by
  have e : updF (fun x => D.str (pl x)) x (.str y) = fun z => D.str (updF pl x y z) := by
    funext z
    unfold updF
    split <;> rfl
  rw [putKs_fn inr_inj, putVs_fn inr_inj _ _ _ nd, e]
  unfold putS pls fdk
  rw [if_neg hx]
theorem wp_walk_on (n : Nat) (p : Pool) (hp : p.Ok) (f : Field) (hf : f.Ok) (bg : Str → Str) {k : Kt (Fm.Slot × List Fm.Slot)}
    (h : ∀ (rows : List Going) (p' : Pool), p'.Ok → WalkOk f bg 1 rows → rows.length ≤ 12 → k.q (.own (.lst [pls f.folk bg, .lst (rows.map Enc.d), pls f.folk (endPl bg rows)]), [.own p'.d, .own f.d, .val (pls f.folk bg), .emp])) :
    @R.wp _ (callN P (n + 3) n_law_walk_on [.own p.d, .own f.d, .own (pls f.folk bg), .val (.int 12)]) k := by
  refine call_wp P_law_walk_on rfl ?_
  simp [i_law_walk_on, pls, fdk]
  refine wp_draw _ _ hp _ (by omega) fun turns p hp t0 t1 => ?_
  simp [smallR]
  refine if_wp (by omega) ?_
  simp [rangeD_eq]
  refine loop_wp (fun i : Nat => D.int i) (List.range turns.toNat) (fun pre env => ∃ (p : Pool) (rows : List Going) (hour : Int) (j7 j8 j9 : Fm.Slot), p.Ok ∧ WalkOk f bg 1 rows ∧ rows.length ≤ pre.length ∧ lastH 1 rows ≤ hour ∧ 1 ≤ hour ∧ hour ≤ f.hours ∧
    env = [.own p.d, .own f.d, .own (pls f.folk bg), .val (.int 12), .own (pls f.folk (endPl bg rows)), .own (.lst (rows.map Enc.d)), .val (.int hour), j7, j8, j9]) rfl
    ⟨p, [], 1, _, _, _, hp, trivial, by simp, Int.le_refl _, Int.le_refl _, hf.h1, rfl⟩ (fun pre x post env hx hi => ?_) fun env hi => ?_
  · obtain ⟨p, rows, hour, j7, j8, j9, hp, hw, hr, hh, hh1, hh6, rfl⟩ := hi
    have hpl : pre.length < 12 := by
      have h1 := congrArg List.length hx
      simp at h1
      omega
    simp [big, Field.d]
    refine wp_draw _ _ hp _ (by omega) fun v p hp v0 v1 => ?_
    have hv : ∃ e : Int, 0 ≤ e ∧ atI [D.int 0, D.int 0, D.int 1, D.int 0, D.int 2] v = some (.int e) := by
      have : v = 0 ∨ v = 1 ∨ v = 2 ∨ v = 3 ∨ v = 4 := by omega
      rcases this with rfl | rfl | rfl | rfl | rfl
      · exact ⟨0, by omega, by simp⟩
      · exact ⟨0, by omega, by simp⟩
      · exact ⟨1, by omega, by simp⟩
      · exact ⟨0, by omega, by simp⟩
      · exact ⟨2, by omega, by simp⟩
    obtain ⟨e, e0, hv⟩ := hv
    simp [hv]
    obtain ⟨hour', hq⟩ : ∃ h' : Int, h' = if hour + e < f.hours then hour + e else f.hours := ⟨_, rfl⟩
    rw [← hq]
    have hb : hour ≤ hour' ∧ hour' ≤ f.hours := by subst hq; split <;> omega
    refine wp_moves _ f hf _ hour' fun moves hm1 hm2 => ?_
    have hmo : ∀ m ∈ moves, Enc.ok m := fun m hm => by
      obtain ⟨a, ⟨w, hw, b, c⟩, d⟩ := hm1 m hm
      obtain ⟨w1, w2, w3⟩ := hf.waysOk w hw
      refine ⟨hf.folk.ok _ a, b ▸ w1, ?_⟩
      rcases c with ⟨_, c⟩ | ⟨_, c⟩
      · show PyData.strOk m.c = true
        rw [c]; exact w3
      · show PyData.strOk m.c = true
        rw [c]; exact w2
    have em := eqL_nil hmo
    simp [em]
    refine ite_wp (fun c => ?_) fun c => ?_
    · simp
      exact ⟨p, rows, hour', _, _, _, hp, hw, by simp; omega, by omega, by omega, by omega, rfl⟩
    · simp
      have hml : 1 ≤ moves.length := List.length_pos_iff.mpr c
      refine wp_draw _ _ hp _ (by omega) fun i p hp i0 i1 => ?_
      obtain ⟨m, hmm, hme⟩ : ∃ m ∈ moves, atI moves i = some m := by
        rw [atI_of _ _ i0, List.getElem?_eq_getElem (by omega)]
        exact ⟨_, List.getElem_mem _, rfl⟩
      obtain ⟨a, ⟨w, hww, b, c2⟩, d⟩ := hm1 m hmm
      simp [atI_map, hme, big]
      refine if_wp (by omega) ?_
      simp [pls, fdk, big]
      have hf3 := hf.folk3
      refine of_if (by omega) ?_
      rw [pls_upd f.folk hf.folk.nd _ _ a]
      simp
      refine ⟨p, rows ++ [⟨hour', m.a, m.b, m.c⟩], hour', .val (.int x), .own (.lst (moves.map Enc.d)), .val (.tup [.str m.a, .str m.b, .str m.c]), hp, walk_snoc.mpr ⟨hw, ⟨a, ⟨w, hww, b, c2⟩, by show lastH 1 rows ≤ hour'; omega, d⟩⟩, by simp; omega, by rw [lastH_snoc]; exact Int.le_refl _, by omega, by omega, ?_⟩
      rw [endPl_snoc, List.map_append]
      rfl
  · obtain ⟨p, rows, hour, j7, j8, j9, hp, hw, hr, hh, hh1, hh6, rfl⟩ := hi
    simp [big]
    exact h rows p hp hw (by simp at hr; omega)
theorem wp_walk (n : Nat) (p : Pool) (hp : p.Ok) (f : Field) (hf : f.Ok) {k : Kt (Fm.Slot × List Fm.Slot)}
    (h : ∀ (bg : Str → Str) (rows : List Going) (p' : Pool), p'.Ok → (∀ x ∈ f.folk, bg x ∈ f.spots) → WalkOk f bg 1 rows → rows.length ≤ 12 → k.q (.own (.lst [pls f.folk bg, .lst (rows.map Enc.d), pls f.folk (endPl bg rows)]), [.own p'.d, .own f.d, .emp])) :
    @R.wp _ (callN P (n + 4) n_law_walk [.own p.d, .own f.d, .val (.int 12)]) k := by
  refine call_wp P_law_walk rfl ?_
  simp [i_law_walk, Field.d]
  refine loop_wp D.str f.folk (fun pre env => ∃ (p : Pool) (bg : Str → Str) (j4 : Fm.Slot), p.Ok ∧ (∀ x ∈ pre, bg x ∈ f.spots) ∧ env = [.own p.d, .own f.d, .val (.int 12), .own (pls pre bg), j4]) rfl
    ⟨p, id, _, hp, fun _ h => (List.not_mem_nil h).elim, rfl⟩ (fun pre x post env hx hi => ?_) fun env hi => ?_
  · obtain ⟨p, bg, j4, hp, hb, rfl⟩ := hi
    have hnd := hf.folk.nd
    rw [← hx, List.nodup_append] at hnd
    have hxp : x ∉ pre := fun hm => hnd.2.2 x hm x List.mem_cons_self rfl
    have hpl : pre.length < 3 := by
      have h1 := congrArg List.length hx
      have h2 := hf.folk3
      simp at h1
      omega
    simp [Field.d]
    have hs1 := hf.spots1
    have hs7 := hf.spots7
    refine wp_draw _ _ hp _ (by omega) fun i p hp i0 i1 => ?_
    obtain ⟨s, hs, hse⟩ : ∃ s ∈ f.spots, atI f.spots i = some s := by
      rw [atI_of _ _ i0, List.getElem?_eq_getElem (by omega)]
      exact ⟨_, List.getElem_mem _, rfl⟩
    simp [atI_map, hse, pls, fdk, big]
    refine of_if (by omega) ?_
    rw [pls_new pre hnd.1 _ _ hxp]
    simp
    refine ⟨p, updF bg x s, _, hp, fun y hy => ?_, rfl⟩
    unfold updF
    split
    · exact hs
    · rename_i ne
      rcases List.mem_append.mp hy with hy | hy
      · exact hb y hy
      · exact absurd (List.mem_singleton.mp hy) ne
  · obtain ⟨p, bg, j4, hp, hb, rfl⟩ := hi
    simp
    refine wp_walk_on _ _ hp f hf bg fun rows p hp hw hr => ?_
    simp
    exact h bg rows p hp hb hw hr
end Kx
end

section
set_option Elab.async false
set_option linter.all false
set_option maxRecDepth 10000
set_option autoImplicit false
set_option maxHeartbeats 1000000
/-! the checks let good data through -/
namespace Kx
open PySem PySem.W Fm Fm.Sx L2
@[simp] theorem inD_chr (c : Nat) (z : Str) : inD (.str (chr c)) (.str z) = some (decide (c ∈ z.cps.toList)) := by
  unfold inD
  dsimp only
  rw [if_pos (show (chr c).cps.size = 1 from rfl)]
  rfl
theorem dig_in {c : Nat} (h : IsDig c) : c ∈ digits.cps.toList := by
  rw [digits_cps]
  exact List.mem_range'_1.mpr (by have := h.1; have := h.2; omega)
theorem let_in {c : Nat} (h : IsLet c) : c ∈ letters.cps.toList := by
  rw [letters_cps]
  exact List.mem_range'_1.mpr (by have := h.1; have := h.2; omega)
theorem e_only (n : Nat) (x : Str) (h : ∀ e ∈ x.cps.toList, IsDig e) : callN P (n + 1) nonly_digits [.val (.str x)] = .ok (.val (.bl true), [.emp]) := by
  refine eq_of_wp (call_wp Ponly_digits rfl ?_)
  simp [ionly_digits]
  refine loop_wp (fun c => D.str (chr c)) x.cps.toList (fun _ env => ∃ j, env = [.val (.str x), j]) rfl ⟨_, rfl⟩ (fun pre c post env hx hi => ?_) fun env hi => ?_
  · obtain ⟨j, rfl⟩ := hi
    have hc : c ∈ digits.cps.toList := dig_in (h c (by rw [← hx]; simp))
    simp at hc
    simp [hc]
    exact ⟨_, rfl⟩
  · obtain ⟨j, rfl⟩ := hi
    simp
theorem e_is_name (n : Nat) (x : Str) (h : IsName x) : callN P (n + 2) nis_name [.val (.str x)] = .ok (.val (.bl true), [.emp]) := by
  refine eq_of_wp (call_wp Pis_name rfl ?_)
  obtain ⟨c, ds, e, hc, hl, hd⟩ := h.ex
  have hlen : x.length = ds.length + 1 := by rw [len_cps, e]; rfl
  have hsz : x.cps.size = ds.length + 1 := by rw [← Array.length_toList, e]; rfl
  have hin := let_in hc
  simp at hin
  simp [iis_name, hlen, big]
  refine of_if (by omega) ?_
  have h1 : (1 : Int) ≤ (ds.length : Int) + 1 := by omega
  have h2 : (ds.length : Int) + 1 ≤ 1 + 3 := by omega
  have h2' : (ds.length : Int) + 1 ≤ 4 := by omega
  simp [h1, h2, h2', hlen, big, e]
  refine of_if (by omega) ?_
  simp [hin, hlen, big, e, hsz]
  refine of_if (by omega) ?_
  simp
  refine wp_eq (e_only _ _ (by
    intro y hy
    exact hd y (by simpa using hy))) ?_
  simp
def gv (s : Fm.Slot) : Fm.Slot := if s.isOwn then s else .emp
@[simp] theorem gv_own (d : D) : gv (.own d) = .own d := (rfl)
@[simp] theorem gv_val (d : D) : gv (.val d) = .emp := (rfl)
def IsS (s : Fm.Slot) (d : D) : Prop := s = .val d ∨ s = .own d
def strsD (l : List Str) : D := .lst (l.map .str)
theorem e_known (n : Nat) (x : Str) (l : List Str) (h : x ∈ l) (s : Fm.Slot) (hs : IsS s (.lst (l.map .str)) ∨ IsS s (.tup (l.map .str))) : callN P (n + 1) ncheck_known [.val (.str x), s] = .ok (.val .non, [.emp, gv s]) := by
  rcases hs with (rfl | rfl) | (rfl | rfl) <;> refine eq_of_wp (call_wp Pcheck_known rfl ?_) <;> simp [icheck_known, h]
theorem e_new (n : Nat) (x : Str) (l : List Str) (hn : IsName x) (h : x ∉ l) : callN P (n + 3) ncheck_new_name [.val (.str x), .own (.lst (l.map .str))] = .ok (.val .non, [.emp, .own (.lst (l.map .str))]) := by
  refine eq_of_wp (call_wp Pcheck_new_name rfl ?_)
  simp [icheck_new_name]
  refine wp_eq (e_is_name _ x hn) ?_
  simp [h]
theorem e_count (n : Nat) (xs : List D) (m : Int) (h : (xs.length : Int) ≤ m) : callN P (n + 1) ncheck_count [.own (.lst xs), .val (.int m)] = .ok (.val .non, [.own (.lst xs), .emp]) := by
  refine eq_of_wp (call_wp Pcheck_count rfl ?_)
  have : ¬ m < (xs.length : Int) := by omega
  simp [icheck_count, this]
theorem e_names_in {α : Type} (n : Nat) (enc : α → D) (nm : α → Str) (xs : List α) (he : ∀ x, ∃ r, enc x = .tup (.str (nm x) :: r)) (hl : xs.length ≤ 100000) (s : Fm.Slot) (hs : IsS s (.lst (xs.map enc)) ∨ IsS s (.tup (xs.map enc))) {k : Kt (Fm.Slot × List Fm.Slot)} (h : ∀ s', k.q (.own (.lst ((xs.map nm).map .str)), [s'])) : @R.wp _ (callN P (n + 1) nnames_in [s]) k := by
  refine call_wp Pnames_in rfl ?_
  rcases hs with (rfl | rfl) | (rfl | rfl)
  all_goals
    simp [inames_in]
    refine lc_map enc xs (fun x => .str (nm x)) rfl (by simp [big]; omega) (fun x hx => ?_) ?_
    · obtain ⟨r, hr⟩ := he x
      rw [hr]
      simp
    · have e := h
      simp only [List.map_map] at e
      simp
      exact e _
theorem nodup_split {α : Type} {pre post : List α} {x : α} {l : List α} (h : pre ++ x :: post = l) (nd : l.Nodup) : x ∉ pre ∧ x ∈ l := by
  rw [← h, List.nodup_append] at nd
  exact ⟨fun hm => nd.2.2 x hm x List.mem_cons_self rfl, by rw [← h]; simp⟩
/-- what stands ahead in numbered items -/
theorem zip_split {α : Type} {xs : List α} {pre : List (α × Nat)} {p : α × Nat} {post : List (α × Nat)} (h : pre ++ p :: post = xs.zipIdx) : p.2 = pre.length ∧ xs.take p.2 = pre.map (·.1) ∧ xs = pre.map (·.1) ++ p.1 :: post.map (·.1) := by
  have h1 : (pre ++ p :: post).map (·.1) = xs := by rw [h, List.zipIdx_map_fst]
  have h2 : (pre ++ p :: post)[pre.length]? = some p := by rw [List.getElem?_append_right (Nat.le_refl _)]; simp
  rw [h, List.getElem?_zipIdx] at h2
  have h3 : p.2 = pre.length := by
    cases e : xs[pre.length]? with
    | none => rw [e] at h2; cases h2
    | some a => rw [e] at h2; rw [← Option.some.inj h2]; simp
  have h4 : xs = pre.map (·.1) ++ p.1 :: post.map (·.1) := by rw [← h1]; simp
  refine ⟨h3, ?_, h4⟩
  rw [h3, h4, List.take_append_of_le_length (by simp), List.take_of_length_le (by simp)]
theorem e_names (n : Nat) (l : List Str) (m : Int) (hn : Names l) (h1 : 1 ≤ l.length) (hm : (l.length : Int) ≤ m) : callN P (n + 4) ncheck_names [.own (.lst (l.map .str)), .val (.int m)] = .ok (.val .non, [.val (.lst (l.map .str)), .emp]) := by
  refine eq_of_wp (call_wp Pcheck_names rfl ?_)
  simp [icheck_names]
  refine wp_eq (e_count _ _ m (by simpa using hm)) ?_
  have h0 : ¬ (l.length : Int) = 0 := by omega
  have h0' : l ≠ [] := fun e => by rw [e] at h1; simp at h1
  simp [h0', enumD_eq]
  refine loop_wp (fun p : Str × Nat => .tup [.int p.2, .str p.1]) l.zipIdx (fun _ env => ∃ j2 j3, env = [.val (.lst (l.map .str)), .val (.int m), j2, j3]) rfl ⟨_, _, rfl⟩ (fun pre p post env hx hi => ?_) fun env hi => ?_
  · obtain ⟨j2, j3, rfl⟩ := hi
    obtain ⟨z1, z2, z3⟩ := zip_split hx
    simp [cutD_to]
    rw [← List.map_take]
    have hp : p.1 ∈ l := by rw [z3]; simp
    refine wp_eq (e_new _ p.1 _ (hn.all _ hp) ?_) ?_
    · rw [z2]
      have := hn.nd
      rw [z3, List.nodup_append] at this
      exact fun hm => this.2.2 _ hm _ List.mem_cons_self rfl
    · simp
      exact ⟨_, _, rfl⟩
  · obtain ⟨j2, j3, rfl⟩ := hi
    simp
end Kx
end

section
set_option Elab.async false
set_option linter.all false
set_option maxRecDepth 10000
set_option autoImplicit false
set_option maxHeartbeats 1000000
/-! paths, gates, signs are let through -/
namespace Kx
open PySem PySem.W Fm Fm.Sx L2
abbrev sl (l : List Str) : D := .lst (l.map .str)
theorem e_path (n : Nat) (w : Way) (earlier spots : List Str) (h1 : IsName w.a) (h2 : w.a ∉ earlier) (h3 : w.b ∈ spots) (h4 : w.c ∈ spots) (h5 : w.b ≠ w.c) :
    callN P (n + 4) ncheck_path [.val (.tup [.str w.a, .str w.b, .str w.c]), .own (sl earlier), .val (sl spots)] = .ok (.val .non, [.emp, .own (sl earlier), .emp]) := by
  refine eq_of_wp (call_wp Pcheck_path rfl ?_)
  simp [icheck_path]
  refine wp_eq (e_new _ w.a earlier h1 h2) ?_
  simp
  refine wp_eq (e_known _ w.b spots h3 _ (.inl (.inl rfl))) ?_
  simp
  refine wp_eq (e_known _ w.c spots h4 _ (.inl (.inl rfl))) ?_
  simp [h5]
theorem e_paths (n : Nat) (ways : List Way) (m : Int) (spots : List Str) (h1 : Names (ways.map T3.a)) (h2 : ∀ w ∈ ways, w.b ∈ spots ∧ w.c ∈ spots ∧ w.b ≠ w.c) (hm : (ways.length : Int) ≤ m) (h9 : ways.length ≤ 9) :
    callN P (n + 5) ncheck_paths [.own (.lst (ways.map Enc.d)), .val (.int m), .val (sl spots)] = .ok (.val .non, [.val (.lst (ways.map Enc.d)), .emp, .emp]) := by
  refine eq_of_wp (call_wp Pcheck_paths rfl ?_)
  simp [icheck_paths]
  refine wp_eq (e_count _ _ m (by simpa using hm)) ?_
  simp [enumD_eq]
  refine loop_wp (fun p : Way × Nat => .tup [.int p.2, Enc.d p.1]) ways.zipIdx (fun _ env => ∃ j2 j3, env = [.val (.lst (ways.map Enc.d)), .val (.int m), .val (sl spots), j2, j3]) (by simp) ⟨_, _, rfl⟩ (fun pre p post env hx hi => ?_) fun env hi => ?_
  · obtain ⟨j2, j3, rfl⟩ := hi
    obtain ⟨z1, z2, z3⟩ := zip_split hx
    simp [cutD_to]
    rw [← List.map_take]
    have hp : p.1 ∈ ways := by rw [z3]; simp
    refine e_names_in _ Enc.d T3.a (ways.take p.2) (fun x => ⟨_, rfl⟩) (by simp; omega) _ (.inl (.inr rfl)) fun s' => ?_
    simp
    rw [show List.take p.2 (List.map (D.str ∘ T3.a) ways) = ((ways.take p.2).map T3.a).map D.str by simp]
    refine wp_eq (e_path _ p.1 ((ways.take p.2).map T3.a) spots (h1.all _ (List.mem_map.mpr ⟨_, hp, rfl⟩)) ?_ (h2 _ hp).1 (h2 _ hp).2.1 (h2 _ hp).2.2) ?_
    · rw [z2]
      have := h1.nd
      rw [z3, List.map_append, List.nodup_append] at this
      exact fun hm => this.2.2 _ hm _ List.mem_cons_self rfl
    · simp
      exact ⟨_, _, rfl⟩
  · obtain ⟨j2, j3, rfl⟩ := hi
    simp
theorem inD_pairs {a b : Str} {l : List (Str × Str)} (ha : PyData.strOk a = true) (hb : PyData.strOk b = true) (hl : ∀ p ∈ l, Enc.ok p) : inD (.tup [.str a, .str b]) (.lst (l.map Enc.d)) = some (decide ((a, b) ∈ l)) := by
  have := inD_list (α := Str × Str) (a := (a, b)) rfl ⟨ha, hb⟩ hl
  rw [show (D.tup [.str a, .str b]) = Enc.d ((a, b) : Str × Str) from rfl, this]
  congr 1
  exact decide_eq_decide.mpr Iff.rfl
theorem e_gate1 (n : Nat) (g : Gate) (earlier : List (Str × Str)) (folk pn : List Str) (hours : Int) (h1 : g.a ∈ folk) (h2 : g.b ∈ pn) (h3 : 0 ≤ g.c ∧ g.c ≤ hours) (h4 : (g.a, g.b) ∉ earlier) (o1 : PyData.strOk g.a = true) (o2 : PyData.strOk g.b = true) (o3 : ∀ p ∈ earlier, Enc.ok p) :
    callN P (n + 2) ncheck_gate [.val (.tup [.str g.a, .str g.b, .int g.c]), .own (.lst (earlier.map Enc.d)), .val (sl folk), .own (sl pn), .val (.int hours)] = .ok (.val .non, [.emp, .own (.lst (earlier.map Enc.d)), .emp, .own (sl pn), .emp]) := by
  refine eq_of_wp (call_wp Pcheck_gate rfl ?_)
  simp [icheck_gate]
  refine wp_eq (e_known _ g.a folk h1 _ (.inl (.inl rfl))) ?_
  simp
  refine wp_eq (e_known _ g.b pn h2 _ (.inl (.inr rfl))) ?_
  have e := inD_pairs o1 o2 o3
  simp [h3.1, h3.2, big, e, h4]
theorem e_gates (n : Nat) (shut : List Gate) (folk pn : List Str) (hours : Int) (h : ∀ g ∈ shut, g.a ∈ folk ∧ g.b ∈ pn ∧ 0 ≤ g.c ∧ g.c ≤ hours) (hn : (shut.map fun g => (g.a, g.b)).Nodup) (o : ∀ g ∈ shut, PyData.strOk g.a = true ∧ PyData.strOk g.b = true) (hl : shut.length ≤ 1000) :
    callN P (n + 3) ncheck_gates [.own (.lst (shut.map Enc.d)), .val (sl folk), .own (sl pn), .val (.int hours)] = .ok (.val .non, [.val (.lst (shut.map Enc.d)), .emp, .own (sl pn), .emp]) := by
  refine eq_of_wp (call_wp Pcheck_gates rfl ?_)
  simp [icheck_gates, enumD_eq]
  refine loop_wp (fun p : Gate × Nat => .tup [.int p.2, Enc.d p.1]) shut.zipIdx (fun _ env => ∃ j4 j5 j6 j7 j8 j9, env = [.val (.lst (shut.map Enc.d)), .val (sl folk), .own (sl pn), .val (.int hours), j4, j5, j6, j7, j8, j9]) (by simp) ⟨_, _, _, _, _, _, rfl⟩ (fun pre p post env hx hi => ?_) fun env hi => ?_
  · obtain ⟨j4, j5, j6, j7, j8, j9, rfl⟩ := hi
    obtain ⟨z1, z2, z3⟩ := zip_split hx
    have hp : p.1 ∈ shut := by rw [z3]; simp
    simp [cutD_to]
    rw [← List.map_take]
    refine lc_map Enc.d (shut.take p.2) (fun g : Gate => .tup [.str g.a, .str g.b]) rfl (by simp [big]; omega) (fun g hg => by simp [big]) ?_
    simp
    have e : List.map (fun g : Gate => D.tup [.str g.a, .str g.b]) (shut.take p.2) = ((shut.take p.2).map fun g => (g.a, g.b)).map Enc.d := by rw [List.map_map]; rfl
    have t := e_gate1 (n := n) p.1 ((shut.take p.2).map fun g => (g.a, g.b)) folk pn hours (h _ hp).1 (h _ hp).2.1 (h _ hp).2.2 ?_ (o _ hp).1 (o _ hp).2 ?_
    · rw [← e] at t
      simp at t
      refine wp_eq t ?_
      simp
      exact ⟨_, _, _, _, _, _, rfl⟩
    · rw [z2]
      have := hn
      rw [z3, List.map_append, List.nodup_append] at this
      exact fun hm => this.2.2 _ hm _ List.mem_cons_self rfl
    · intro q hq
      obtain ⟨g, hg, rfl⟩ := List.mem_map.mp hq
      exact o g (List.mem_of_mem_take hg)
  · obtain ⟨j4, j5, j6, j7, j8, j9, rfl⟩ := hi
    simp
theorem e_members (n : Nat) (ms names : List Str) (h0 : ms ≠ []) (h1 : ∀ x ∈ ms, x ∈ names) (hn : ms.Nodup) (s : Fm.Slot) (hs : IsS s (sl names)) : callN P (n + 2) ncheck_members [.val (sl ms), s] = .ok (.val .non, [.emp, gv s]) := by
  have main : ∀ pr, pr = [] ∨ pr = [1] → ∀ k : Kt (Fl × Fm.Env), (∀ j2 j3, k.q (.nx, [.val (sl ms), s, j2, j3])) → @R.wp _ (exs P (callN P (n + 1)) pr icheck_members.body [.val (sl ms), s, .emp, .emp]) k := by
    intro pr hpr k hk
    have hs' := hs
    have p2 : 2 ∉ pr := by rcases hpr with rfl | rfl <;> simp
    have p3 : 3 ∉ pr := by rcases hpr with rfl | rfl <;> simp
    have p0 : 0 ∉ pr := by rcases hpr with rfl | rfl <;> simp
    simp [icheck_members, h0, enumD_eq]
    refine loop_wp (fun p : Str × Nat => .tup [.int p.2, .str p.1]) ms.zipIdx (fun _ env => ∃ j2 j3, env = [.val (sl ms), s, j2, j3]) rfl ⟨_, _, rfl⟩ (fun pre p post env hx hi => ?_) fun env hi => ?_
    · obtain ⟨j2, j3, rfl⟩ := hi
      obtain ⟨z1, z2, z3⟩ := zip_split hx
      have hp : p.1 ∈ ms := by rw [z3]; simp
      have hnot : p.1 ∉ ms.take p.2 := by
        rw [z2]
        rw [z3, List.nodup_append] at hn
        exact fun hm => hn.2.2 _ hm _ List.mem_cons_self rfl
      rcases hs' with rfl | rfl
      all_goals
        simp [p2, p3]
        refine wp_eq (e_known _ p.1 names (h1 _ hp) _ (.inl hs)) ?_
        simp [cutD_to]
        rw [← List.map_take, inD_strs]
        simp [hnot]
        exact ⟨_, _, rfl⟩
    · obtain ⟨j2, j3, rfl⟩ := hi
      simp
      exact hk _ _
  rcases hs with rfl | rfl
  · refine eq_of_wp (call_wp Pcheck_members rfl (main [] (.inl rfl) _ fun j2 j3 => ?_))
    simp
  · refine eq_of_wp (call_wp Pcheck_members rfl (main [1] (.inr rfl) _ fun j2 j3 => ?_))
    simp
theorem e_sign (n : Nat) (q : Post) (earlier folk pn : List Str) (h1 : IsName q.a) (h2 : q.a ∉ earlier) (h : PostOk folk pn q) :
    callN P (n + 4) ncheck_sign [.val (.tup [.str q.a, .lst (q.b.map .str), .lst (q.c.map .str)]), .own (sl earlier), .val (sl folk), .own (sl pn)] = .ok (.val .non, [.emp, .own (sl earlier), .emp, .own (sl pn)]) := by
  refine eq_of_wp (call_wp Pcheck_sign rfl ?_)
  simp [icheck_sign]
  refine wp_eq (e_new _ q.a earlier h1 h2) ?_
  simp
  refine wp_eq (e_members _ q.b folk h.who1 h.who h.whoN _ (.inl rfl)) ?_
  simp
  refine wp_eq (e_members _ q.c pn h.on1 h.on h.onN _ (.inr rfl)) ?_
  simp
theorem e_signs (n : Nat) (posts : List Post) (m : Int) (folk pn : List Str) (h : PostsOk folk pn posts) (hm : (posts.length : Int) ≤ m) :
    callN P (n + 5) ncheck_signs [.own (.lst (posts.map Enc.d)), .val (.int m), .val (sl folk), .own (sl pn)] = .ok (.val .non, [.val (.lst (posts.map Enc.d)), .emp, .emp, .own (sl pn)]) := by
  refine eq_of_wp (call_wp Pcheck_signs rfl ?_)
  simp [icheck_signs]
  refine wp_eq (e_count _ _ m (by simpa using hm)) ?_
  simp [enumD_eq]
  refine loop_wp (fun p : Post × Nat => .tup [.int p.2, Enc.d p.1]) posts.zipIdx (fun _ env => ∃ j2 j3, env = [.val (.lst (posts.map Enc.d)), .val (.int m), .val (sl folk), .own (sl pn), j2, j3]) (by simp) ⟨_, _, rfl⟩ (fun pre p post env hx hi => ?_) fun env hi => ?_
  · obtain ⟨j2, j3, rfl⟩ := hi
    obtain ⟨z1, z2, z3⟩ := zip_split hx
    simp [cutD_to]
    rw [← List.map_take]
    have hp : p.1 ∈ posts := by rw [z3]; simp
    have h9 := h.len
    refine e_names_in _ Enc.d T3.a (posts.take p.2) (fun x => ⟨_, rfl⟩) (by simp; omega) _ (.inl (.inr rfl)) fun s' => ?_
    simp
    rw [show List.take p.2 (List.map (D.str ∘ T3.a) posts) = ((posts.take p.2).map T3.a).map D.str by simp]
    refine wp_eq (e_sign _ p.1 ((posts.take p.2).map T3.a) folk pn (h.names.all _ (List.mem_map.mpr ⟨_, hp, rfl⟩)) ?_ (h.each _ hp)) ?_
    · rw [z2]
      have := h.names.nd
      rw [z3, List.map_append, List.nodup_append] at this
      exact fun hm => this.2.2 _ hm _ List.mem_cons_self rfl
    · simp
      exact ⟨_, _, rfl⟩
  · obtain ⟨j2, j3, rfl⟩ := hi
    simp
end Kx
end

section
set_option Elab.async false
set_option linter.all false
set_option maxRecDepth 10000
set_option autoImplicit false
set_option maxHeartbeats 1000000
/-! the meadow's tables -/
namespace Kx
open PySem PySem.W Fm Fm.Sx L2
def smin (a b : Str) : Str := if b.cps.toList < a.cps.toList then b else a
def smax (a b : Str) : Str := if a.cps.toList < b.cps.toList then b else a
abbrev Sign := T3 Str (Tup Str) (Tup Str)
def normW (w : Way) : Way := ⟨w.a, smin w.b w.c, smax w.b w.c⟩
def normP (q : Post) : Sign := ⟨q.a, ⟨sortL q.b⟩, ⟨sortL q.c⟩⟩
def Field.paths (f : Field) : List Way := sortL (f.ways.map normW)
def Field.gts (f : Field) : List Gate := sortL (f.shut.filter fun g => decide (g.c < f.hours))
def Field.signs (f : Field) : List Sign := sortL (f.posts.map normP)
theorem e_spaths (n : Nat) (ways : List Way) (h : ways.length ≤ 9) : callN P (n + 1) nsorted_paths [.val (.lst (ways.map Enc.d))] = .ok (.own (.tup ((sortL (ways.map normW)).map Enc.d)), [.emp]) := by
  refine eq_of_wp (call_wp Psorted_paths rfl ?_)
  simp [isorted_paths]
  refine lc_map Enc.d ways (fun w => Enc.d (normW w)) rfl (by simp [big]; omega) (fun w hw => by simp [big, normW, smin, smax]) ?_
  rw [show List.map (fun w => Enc.d (normW w)) ways = (ways.map normW).map Enc.d by rw [List.map_map]; rfl]
  have s := sortable_enc (ways.map normW) (.inl fun _ => rfl)
  have e := sortD_enc (ways.map normW)
  generalize sortL (ways.map normW) = r at *
  generalize (ways.map normW).map Enc.d = l at *
  simp [s, e]
theorem e_sgates (n : Nat) (shut : List Gate) (hours : Int) (h : shut.length ≤ 1000) : callN P (n + 1) nsorted_gates [.val (.lst (shut.map Enc.d)), .val (.int hours)] = .ok (.own (.tup ((sortL (shut.filter fun g => decide (g.c < hours))).map Enc.d)), [.emp, .emp]) := by
  refine eq_of_wp (call_wp Psorted_gates rfl ?_)
  simp [isorted_gates]
  refine lc_wp Enc.d shut (fun g => decide (g.c < hours)) Enc.d rfl (by simp [big]; omega) (fun g hg => ?_) ?_
  · simp [big]
    by_cases c : g.c < hours <;> simp [c, big]
  have s := sortable_enc (shut.filter fun g => decide (g.c < hours)) (.inl fun _ => rfl)
  have e := sortD_enc (shut.filter fun g => decide (g.c < hours))
  generalize sortL (shut.filter fun g => decide (g.c < hours)) = r at *
  generalize (shut.filter fun g => decide (g.c < hours)).map Enc.d = l at *
  simp [s, e]
theorem e_ssigns (n : Nat) (posts : List Post) (h : posts.length ≤ 9) : callN P (n + 1) nsorted_signs [.val (.lst (posts.map Enc.d))] = .ok (.own (.tup ((sortL (posts.map normP)).map Enc.d)), [.emp]) := by
  refine eq_of_wp (call_wp Psorted_signs rfl ?_)
  simp [isorted_signs]
  refine lc_map Enc.d posts (fun w => Enc.d (normP w)) rfl (by simp [big]; omega) (fun w hw => by simp [big, normP]) ?_
  rw [show List.map (fun w => Enc.d (normP w)) posts = (posts.map normP).map Enc.d by rw [List.map_map]; rfl]
  have s := sortable_enc (posts.map normP) (.inl fun _ => rfl)
  have e := sortD_enc (posts.map normP)
  generalize sortL (posts.map normP) = r at *
  generalize (posts.map normP).map Enc.d = l at *
  simp [s, e]
/-! tables with two texts as key -/
def pk (p : Str × Str) : List Key := [.inr p.1, .inr p.2]
theorem pk_inj : ∀ a b : Str × Str, pk a = pk b → a = b := fun a b h => by
  unfold pk at h
  simp only [List.cons.injEq, Sum.inr.injEq, and_true] at h
  exact Prod.ext h.1 h.2
def fdt (ks : List (Str × Str)) (g : Str × Str → D) : D := .dt (ks.map pk) (ks.map g)
theorem dt_put (ks : List (Str × Str)) (nd : ks.Nodup) (g : Str × Str → D) (a b : Str) (y : D) : D.dt (putKs (ks.map pk) [.inr a, .inr b]) (putVs (ks.map pk) (ks.map g) [.inr a, .inr b] y) = fdt (putS ks (a, b)) (updF g (a, b) y) := by
  have e1 := putKs_fn pk_inj ks (a, b)
  have e2 := putVs_fn pk_inj g (a, b) y nd
  unfold fdt
  rw [← e1, ← e2]
  rfl
theorem dt_get (ks : List (Str × Str)) (g : Str × Str → D) (a b : Str) (h : (a, b) ∈ ks) : getK (ks.map pk) (ks.map g) [.inr a, .inr b] = some (g (a, b)) := by
  have := getK_fn pk_inj g (a, b) ks
  rw [if_pos h] at this
  exact this
def prod (xs ys : List Str) : List (Str × Str) := xs.flatMap fun x => ys.map fun y => (x, y)
theorem prod_mem {xs ys : List Str} {a b : Str} : (a, b) ∈ prod xs ys ↔ a ∈ xs ∧ b ∈ ys := by
  unfold prod
  rw [List.mem_flatMap]
  constructor
  · rintro ⟨x, hx, h⟩
    obtain ⟨y, hy, e⟩ := List.mem_map.mp h
    cases e
    exact ⟨hx, hy⟩
  · rintro ⟨h1, h2⟩
    exact ⟨a, h1, List.mem_map.mpr ⟨b, h2, rfl⟩⟩
theorem prod_len (xs ys : List Str) : (prod xs ys).length = xs.length * ys.length := by
  unfold prod
  rw [List.length_flatMap]
  simp only [List.length_map, List.map_const', List.sum_replicate_nat]
/-- filling a table with two texts as key, walker by walker, path by path -/
theorem fill_keys {xs ys pre pre2 : List Str} {x y : Str} (hx : x ∉ pre) (hy : y ∉ pre2) : (x, y) ∉ prod pre ys ++ pre2.map fun y => (x, y) := by
  intro h
  rcases List.mem_append.mp h with h | h
  · exact hx (prod_mem.mp h).1
  · obtain ⟨z, hz, e⟩ := List.mem_map.mp h
    cases e
    exact hy hz
theorem prod_snoc (pre ys : List Str) (x : Str) : prod (pre ++ [x]) ys = prod pre ys ++ ys.map fun y => (x, y) := by
  unfold prod
  rw [List.flatMap_append]
  simp
theorem prod_nodup {xs ys : List Str} (h1 : xs.Nodup) (h2 : ys.Nodup) : (prod xs ys).Nodup := by
  induction xs with
  | nil => exact .nil
  | cons x xs ih =>
    obtain ⟨a, b⟩ := List.nodup_cons.mp h1
    show (ys.map (fun y => (x, y)) ++ prod xs ys).Nodup
    rw [List.nodup_append]
    refine ⟨?_, ih b, fun p hp q hq e => ?_⟩
    · exact List.Pairwise.map _ (fun y z h e => h (congrArg Prod.snd e)) h2
    · obtain ⟨y, _, rfl⟩ := List.mem_map.mp hp
      subst e
      exact a (prod_mem.mp hq).1
def gateF (hours : Int) (gts : List Gate) (p : Str × Str) : D := .int (((gts.filter fun g => decide (g.a = p.1) && decide (g.b = p.2)).map (·.c) ++ [hours]).headD 0)
theorem wp_gtable (n : Nat) (hours : Int) (folk pn : List Str) (gts : List Gate) (hf : folk.Nodup) (hp : pn.Nodup) (hl1 : folk.length ≤ 3) (hl2 : pn.length ≤ 9) (hg : ∀ g ∈ gts, g.a ∈ folk ∧ g.b ∈ pn) (hgn : (gts.map fun g => (g.a, g.b)).Nodup) {k : Kt (Fm.Slot × List Fm.Slot)}
    (h : k.q (.own (fdt (prod folk pn) (gateF hours gts)), [.emp, .emp, .val (sl pn), .emp]) ∨ True) (h2 : folk ≠ [] → k.q (.own (fdt (prod folk pn) (gateF hours gts)), [.emp, .emp, .val (sl pn), .emp])) (hne : folk ≠ []) :
    @R.wp _ (callN P (n + 1) ngate_table [.val (.int hours), .val (.tup (folk.map .str)), .own (sl pn), .val (.tup (gts.map Enc.d))]) k := by
  have hk := h2 hne
  refine call_wp Pgate_table rfl ?_
  simp [igate_table]
  refine loop_wp D.str folk (fun pre env => ∃ (s2 j5 j6 : Fm.Slot), (s2 = .own (sl pn) ∧ pre = [] ∨ s2 = .val (sl pn)) ∧ env = [.val (.int hours), .val (.tup (folk.map .str)), s2, .val (.tup (gts.map Enc.d)), .own (fdt (prod pre pn) fun _ => .int hours), j5, j6, .emp]) rfl
    ⟨_, _, _, .inl ⟨rfl, rfl⟩, rfl⟩ (fun pre x post env hx hi => ?_) fun env hi => ?_
  · obtain ⟨s2, j5, j6, hs, rfl⟩ := hi
    obtain ⟨hxp, hxm⟩ := nodup_split hx hf
    have hpl : pre.length < 3 := by
      have h1 := congrArg List.length hx
      simp at h1
      omega
    have inner : @R.wp _ (loop [2] (.nm 6) (fun env => exs P (callN P n) [2] [.ssub (.nm 4) (.tp [.nm 5, .nm 6]) (.nm 0)] env) (pn.map D.str) [.val (.int hours), .val (.tup (folk.map .str)), .val (sl pn), .val (.tup (gts.map Enc.d)), .own (fdt (prod pre pn) fun _ => .int hours), .val (.str x), j6, .emp])
        ⟨fun r => @Hide ⟨∃ j6 : Fm.Slot, r = (.nx, [.val (.int hours), .val (.tup (folk.map .str)), .val (sl pn), .val (.tup (gts.map Enc.d)), .own (fdt (prod (pre ++ [x]) pn) fun _ => .int hours), .val (.str x), j6, .emp])⟩, NoE⟩ := by
      refine loop_wp D.str pn (fun pre2 env => ∃ j6 : Fm.Slot, env = [.val (.int hours), .val (.tup (folk.map .str)), .val (sl pn), .val (.tup (gts.map Enc.d)), .own (fdt (prod pre pn ++ pre2.map fun y => (x, y)) fun _ => .int hours), .val (.str x), j6, .emp]) rfl
        ⟨_, by rw [List.map_nil, List.append_nil]⟩ (fun pre2 y post2 env hy hi => ?_) fun env hi => ?_
      · obtain ⟨j6, rfl⟩ := hi
        obtain ⟨hyp, hym⟩ := nodup_split hy hp
        have hpl2 : pre2.length < 9 := by
          have h1 := congrArg List.length hy
          simp at h1
          omega
        have hlen : (prod pre pn ++ pre2.map fun y => (x, y)).length < 100000 := by
          rw [List.length_append, prod_len, List.length_map]
          have := Nat.mul_le_mul (show pre.length ≤ 3 by omega) hl2
          omega
        have hnd : (prod pre pn ++ pre2.map fun y => (x, y)).Nodup := by
          have := prod_nodup hf hp
          rw [← hx] at this
          rw [show pre ++ x :: post = (pre ++ [x]) ++ post by simp] at this
          unfold prod at this
          rw [List.flatMap_append, List.flatMap_append] at this
          have t := this.sublist (List.sublist_append_left _ _)
          rw [← hy] at t
          simp at t
          have t2 : (prod pre pn ++ pre2.map fun y => (x, y)).Sublist (prod pre pn ++ (pn.map fun y => (x, y))) := List.Sublist.append_left (by rw [← hy, List.map_append]; exact List.sublist_append_left _ _) _
          refine List.Nodup.sublist t2 ?_
          rw [← prod_snoc]
          refine List.Nodup.sublist ?_ (prod_nodup hf hp)
          rw [← hx, show pre ++ x :: post = (pre ++ [x]) ++ post by simp]
          unfold prod
          rw [List.flatMap_append (xs := pre ++ [x])]
          exact List.sublist_append_left _ _
        have e := dt_put (prod pre pn ++ pre2.map fun y => (x, y)) hnd (fun _ => .int hours) x y (.int hours)
        have e3 : putS (prod pre pn ++ pre2.map fun y => (x, y)) (x, y) = prod pre pn ++ (pre2 ++ [y]).map fun y => (x, y) := by
          unfold putS
          rw [if_neg (fill_keys (xs := folk) hxp hyp)]
          simp
        have e4 : updF (fun _ => D.int hours) (x, y) (.int hours) = fun _ => .int hours := by
          funext z
          unfold updF
          split <;> rfl
        rw [e3, e4] at e
        generalize hgk : (prod pre pn ++ pre2.map fun y => (x, y)) = ks at *
        simp [fdt, big]
        refine of_if (by simpa using hlen) ?_
        rw [e]
        simp
        exact ⟨_, rfl⟩
      · obtain ⟨j6, rfl⟩ := hi
        exact ⟨_, by rw [prod_snoc]⟩
    rcases hs with ⟨rfl, -⟩ | rfl
    all_goals
      simp
      refine wp_no inner fun r ⟨j6, hr⟩ => ?_
      subst hr
      simp
      exact ⟨_, _, _, .inr rfl, rfl⟩
  · obtain ⟨s2, j5, j6, hs, rfl⟩ := hi
    rcases hs with ⟨-, e⟩ | rfl
    · exact absurd e hne
    · simp
      refine loop_wp Enc.d gts (fun pre env => ∃ (g : Str × Str → D) (j5 j6 j7 : Fm.Slot), (∀ p ∈ prod folk pn, g p = gateF hours pre p) ∧ env = [.val (.int hours), .val (.tup (folk.map .str)), .val (sl pn), .val (.tup (gts.map Enc.d)), .own (fdt (prod folk pn) g), j5, j6, j7]) rfl
        ⟨_, _, _, _, fun p hp => by simp [gateF], rfl⟩ (fun pre x post env hx hi => ?_) fun env hi => ?_
      · obtain ⟨g, j5, j6, j7, hg1, rfl⟩ := hi
        have hxm : x ∈ gts := by rw [← hx]; simp
        have hmem : (x.a, x.b) ∈ prod folk pn := prod_mem.mpr (hg x hxm)
        have e := dt_put (prod folk pn) (prod_nodup hf hp) g x.a x.b (.int x.c)
        have hlen : (prod folk pn).length < 100000 := by
          rw [prod_len]
          have := Nat.mul_le_mul hl1 hl2
          omega
        rw [show putS (prod folk pn) (x.a, x.b) = prod folk pn by unfold putS; rw [if_pos hmem]] at e
        generalize hgk : prod folk pn = ks at *
        simp [fdt, big]
        refine of_if (by simpa using hlen) ?_
        rw [e]
        simp
        refine ⟨_, _, _, _, fun p hp => ?_, rfl⟩
        unfold updF
        have hnp : (x.a, x.b) ∉ pre.map fun g => (g.a, g.b) := by
          rw [← hx, List.map_append, List.nodup_append] at hgn
          exact fun hm => hgn.2.2 _ hm _ List.mem_cons_self rfl
        unfold gateF
        rw [List.filter_append, List.map_append]
        by_cases c : p = (x.a, x.b)
        · rw [if_pos c]
          subst c
          have e0 : pre.filter (fun g => decide (g.a = x.a) && decide (g.b = x.b)) = [] := List.filter_eq_nil_iff.mpr fun g hgp hh => by
            simp only [Bool.and_eq_true, decide_eq_true_eq] at hh
            exact hnp (List.mem_map.mpr ⟨g, hgp, by rw [hh.1, hh.2]⟩)
          simp [e0]
        · rw [if_neg c, hg1 p hp]
          have e0 : [x].filter (fun g => decide (g.a = p.1) && decide (g.b = p.2)) = [] := List.filter_eq_nil_iff.mpr fun g hgp hh => by
            simp only [Bool.and_eq_true, decide_eq_true_eq] at hh
            rw [List.mem_singleton.mp hgp] at hh
            exact c (Prod.ext hh.1.symm hh.2.symm)
          rw [e0]
          simp [gateF]
      · obtain ⟨g, j5, j6, j7, hg1, rfl⟩ := hi
        simp
        have : fdt (prod folk pn) g = fdt (prod folk pn) (gateF hours gts) := by
          unfold fdt
          rw [List.map_congr_left hg1]
        rw [this]
        exact hk
end Kx
end

section
set_option Elab.async false
set_option linter.all false
set_option maxRecDepth 10000
set_option autoImplicit false
set_option maxHeartbeats 1000000
/-! watching, marks -/
namespace Kx
open PySem PySem.W Fm Fm.Sx L2
theorem prod_part {folk pn pre post pre2 post2 : List Str} {x y : Str} (hx : pre ++ x :: post = folk) (hy : pre2 ++ y :: post2 = pn) (hf : folk.Nodup) (hp : pn.Nodup) : (prod pre pn ++ pre2.map fun y => (x, y)).Nodup := by
  have t2 : (prod pre pn ++ pre2.map fun y => (x, y)).Sublist (prod pre pn ++ (pn.map fun y => (x, y))) := List.Sublist.append_left (by rw [← hy, List.map_append]; exact List.sublist_append_left _ _) _
  refine List.Nodup.sublist t2 ?_
  rw [← prod_snoc]
  refine List.Nodup.sublist ?_ (prod_nodup hf hp)
  rw [← hx, show pre ++ x :: post = (pre ++ [x]) ++ post by simp]
  unfold prod
  rw [List.flatMap_append (xs := pre ++ [x])]
  exact List.sublist_append_left _ _
theorem upd_same {β γ : Type} [DecidableEq β] (g : β → γ) (x : β) : updF g x (g x) = g := by
  funext z
  unfold updF
  split
  · rename_i e; rw [e]
  · rfl
theorem dk_put (ks : List Str) (nd : ks.Nodup) (f : Str → D) (x : Str) (y : D) : D.dk (putKs (ks.map Sum.inr) (Sum.inr x : Key)) (putVs (ks.map Sum.inr) (ks.map f) (Sum.inr x : Key) y) = fdk (putS ks x) (updF f x y) := by
  rw [putKs_fn inr_inj, putVs_fn inr_inj _ _ _ nd]
  rfl
theorem dk_get (ks : List Str) (f : Str → D) (x : Str) (h : x ∈ ks) : getK (ks.map Sum.inr) (ks.map f) (Sum.inr x : Key) = some (f x) := by rw [getK_fn inr_inj, if_pos h]
theorem dk_has (ks : List Str) (x : Str) : hasK (ks.map Sum.inr) (Sum.inr x : Key) = decide (x ∈ ks) := hasK_fn inr_inj ks x
def watchL (signs : List Sign) (w p : Str) : List Str := (signs.filter fun q => decide (w ∈ q.b.items) && decide (p ∈ q.c.items)).map T3.a
def watchF (signs : List Sign) (p : Str × Str) : D := .tup ((watchL signs p.1 p.2).map .str)
theorem wp_watch (n : Nat) (folk pn : List Str) (signs : List Sign) (hf : folk.Nodup) (hp : pn.Nodup) (hl1 : folk.length ≤ 3) (hl2 : pn.length ≤ 9) (hl3 : signs.length ≤ 9) {k : Kt (Fm.Slot × List Fm.Slot)}
    (hk : k.q (.own (fdt (prod folk pn) (watchF signs)), [.emp, .emp, .emp])) :
    @R.wp _ (callN P (n + 1) nwatching_table [.val (.tup (folk.map .str)), .val (sl pn), .val (.tup (signs.map Enc.d))]) k := by
  refine call_wp Pwatching_table rfl ?_
  simp [iwatching_table]
  refine loop_wp D.str folk (fun pre env => ∃ (j4 j5 j6 : Fm.Slot), env = [.val (.tup (folk.map .str)), .val (sl pn), .val (.tup (signs.map Enc.d)), .own (fdt (prod pre pn) (watchF signs)), j4, j5, j6, .emp, .emp, .emp]) rfl
    ⟨_, _, _, rfl⟩ (fun pre x post env hx hi => ?_) fun env hi => ?_
  · obtain ⟨j4, j5, j6, rfl⟩ := hi
    obtain ⟨hxp, hxm⟩ := nodup_split hx hf
    have hpl : pre.length < 3 := by
      have h1 := congrArg List.length hx
      simp at h1
      omega
    simp
    refine loop_wp D.str pn (fun pre2 env => ∃ (j5 j6 : Fm.Slot), env = [.val (.tup (folk.map .str)), .val (sl pn), .val (.tup (signs.map Enc.d)), .own (fdt (prod pre pn ++ pre2.map fun y => (x, y)) (watchF signs)), .val (.str x), j5, j6, .emp, .emp, .emp]) rfl
        ⟨_, _, by rw [List.map_nil, List.append_nil]⟩ (fun pre2 y post2 env hy hi => ?_) fun env hi => ?_
    · obtain ⟨j5, j6, rfl⟩ := hi
      obtain ⟨hyp, hym⟩ := nodup_split hy hp
      have hpl2 : pre2.length < 9 := by
        have h1 := congrArg List.length hy
        simp at h1
        omega
      have hlen : (prod pre pn ++ pre2.map fun y => (x, y)).length < 100000 := by
        rw [List.length_append, prod_len, List.length_map]
        have := Nat.mul_le_mul (show pre.length ≤ 3 by omega) hl2
        omega
      have e := dt_put (prod pre pn ++ pre2.map fun y => (x, y)) (prod_part hx hy hf hp) (watchF signs) x y (watchF signs (x, y))
      have e3 : putS (prod pre pn ++ pre2.map fun y => (x, y)) (x, y) = prod pre pn ++ (pre2 ++ [y]).map fun y => (x, y) := by
        unfold putS
        rw [if_neg (fill_keys (xs := folk) hxp hyp)]
        simp
      rw [e3, upd_same] at e
      generalize hgk : (prod pre pn ++ pre2.map fun y => (x, y)) = ks at *
      simp
      refine lc_wp Enc.d signs (fun q => decide (x ∈ q.b.items) && decide (y ∈ q.c.items)) (fun q : Sign => D.str q.a) rfl (by simp [big]; omega) (fun q hq => ?_) ?_
      · simp
        by_cases c1 : x ∈ q.b.items <;> by_cases c2 : y ∈ q.c.items <;> simp [c1, c2]
      · simp [fdt, big]
        refine of_if (by simpa using hlen) ?_
        have e5 : D.tup (List.map (fun q : Sign => D.str q.a) (signs.filter fun q => decide (x ∈ q.b.items) && decide (y ∈ q.c.items))) = watchF signs (x, y) := by
          unfold watchF watchL
          rw [List.map_map]
          rfl
        rw [e5, e]
        simp
        exact ⟨_, _, rfl⟩
    · obtain ⟨j5, j6, rfl⟩ := hi
      simp
      exact ⟨_, _, _, by rw [prod_snoc]⟩
  · obtain ⟨j4, j5, j6, rfl⟩ := hi
    simp
    exact hk
def oldM : Going := ⟨0, "", "", ""⟩
theorem wp_marks (n : Nat) (signs : List Sign) (folk pn pn2 : List Str) (gF : Str × Str → Int) (eF : Str → Str × Str) (hn : (signs.map T3.a).Nodup) (hl : signs.length ≤ 9)
    (hb : ∀ q ∈ signs, (∀ x ∈ q.b.items, x ∈ folk) ∧ (∀ x ∈ q.c.items, x ∈ pn ∧ x ∈ pn2) ∧ q.b.items.length ≤ 3 ∧ q.c.items.length ≤ 9) (hg : ∀ p, 0 ≤ gF p ∧ gF p ≤ 6) {k : Kt (Fm.Slot × List Fm.Slot)}
    (hk : ∀ mf : Str → D, k.q (.own (fdk (signs.map T3.a) mf), [.emp, .emp, .emp])) :
    @R.wp _ (callN P (n + 1) nmark_table [.val (.tup (signs.map Enc.d)), .val (fdt (prod folk pn) fun p => .int (gF p)), .val (fdk pn2 fun x => .tup [.str (eF x).1, .str (eF x).2])]) k := by
  refine call_wp Pmark_table rfl ?_
  simp [imark_table]
  refine loop_wp Enc.d signs (fun pre env => ∃ (mf : Str → D) (j4 j5 j6 j7 j8 j9 j10 : Fm.Slot), env = [.val (.tup (signs.map Enc.d)), .val (fdt (prod folk pn) fun p => .int (gF p)), .val (fdk pn2 fun x => .tup [.str (eF x).1, .str (eF x).2]), .own (fdk (pre.map T3.a) mf), j4, j5, j6, j7, j8, j9, j10, .emp]) rfl
    ⟨fun _ => .non, _, _, _, _, _, _, _, rfl⟩ (fun pre q post env hx hi => ?_) fun env hi => ?_
  · obtain ⟨mf, j4, j5, j6, j7, j8, j9, j10, rfl⟩ := hi
    have hqm : q ∈ signs := by rw [← hx]; simp
    obtain ⟨b1, b2, b3, b4⟩ := hb q hqm
    have hpre : pre.length < 9 := by
      have h1 := congrArg List.length hx
      simp at h1
      omega
    obtain ⟨ks, hgk⟩ : ∃ ks, pre.map T3.a = ks := ⟨_, rfl⟩
    rw [hgk]
    have hnp : q.a ∉ ks := by
      rw [← hgk]
      rw [← hx, List.map_append, List.nodup_append] at hn
      exact fun hm => hn.2.2 _ hm _ List.mem_cons_self rfl
    have hnd : ks.Nodup := by
      rw [← hgk]
      rw [← hx, List.map_append, List.nodup_append] at hn
      exact hn.1
    have hkl : ks.length < 9 := by rw [← hgk, List.length_map]; exact hpre
    have hks : (pre ++ [q]).map T3.a = ks ++ [q.a] := by rw [List.map_append, hgk]; rfl
    clear hgk
    simp [big]
    refine loop_wp D.str q.b.items (fun pre1 env => ∃ (ms : List Going) (j8 j9 j10 : Fm.Slot), ms.length ≤ 1 + pre1.length * 108 ∧ env = [.val (.tup (signs.map Enc.d)), .val (fdt (prod folk pn) fun p => .int (gF p)), .val (fdk pn2 fun x => .tup [.str (eF x).1, .str (eF x).2]), .own (fdk ks mf), .val (.str q.a), .val (.tup (q.b.items.map .str)), .val (.tup (q.c.items.map .str)), .own (.lst (ms.map Enc.d)), j8, j9, j10, .emp]) rfl
      ⟨[oldM], _, _, _, by simp, rfl⟩ (fun pre1 w post1 env hx1 hi => ?_) fun env hi => ?_
    · obtain ⟨ms, j8, j9, j10, hm, rfl⟩ := hi
      have hwm : w ∈ q.b.items := by rw [← hx1]; simp
      have hpre1 : pre1.length < 3 := by
        have h1 := congrArg List.length hx1
        simp at h1
        omega
      simp
      refine loop_wp D.str q.c.items (fun pre2 env => ∃ (ms : List Going) (j9 j10 : Fm.Slot), ms.length ≤ 1 + pre1.length * 108 + pre2.length * 12 ∧ env = [.val (.tup (signs.map Enc.d)), .val (fdt (prod folk pn) fun p => .int (gF p)), .val (fdk pn2 fun x => .tup [.str (eF x).1, .str (eF x).2]), .own (fdk ks mf), .val (.str q.a), .val (.tup (q.b.items.map .str)), .val (.tup (q.c.items.map .str)), .own (.lst (ms.map Enc.d)), .val (.str w), j9, j10, .emp]) rfl
        ⟨ms, _, _, by simpa using hm, rfl⟩ (fun pre2 p post2 env hx2 hi => ?_) fun env hi => ?_
      · obtain ⟨ms, j9, j10, hm, rfl⟩ := hi
        have hpm : p ∈ q.c.items := by rw [← hx2]; simp
        have hpre2 : pre2.length < 9 := by
          have h1 := congrArg List.length hx2
          simp at h1
          omega
        have eg := dt_get (prod folk pn) (fun p => .int (gF p)) w p (prod_mem.mpr ⟨b1 w hwm, (b2 p hpm).1⟩)
        have ee := dk_get pn2 (fun x => .tup [.str (eF x).1, .str (eF x).2]) p (b2 p hpm).2
        have hg1 := hg (w, p)
        simp [fdt, big, eg, smallR]
        refine if_wp (by omega) ?_
        simp [rangeD_eq]
        refine loop_wp (fun i : Nat => D.int (1 + (i : Int))) (List.range (gF (w, p)).toNat) (fun pre3 env => ∃ (ms : List Going) (j10 : Fm.Slot), ms.length ≤ 1 + pre1.length * 108 + pre2.length * 12 + pre3.length * 2 ∧ env = [.val (.tup (signs.map Enc.d)), .val (fdt (prod folk pn) fun p => .int (gF p)), .val (fdk pn2 fun x => .tup [.str (eF x).1, .str (eF x).2]), .own (fdk ks mf), .val (.str q.a), .val (.tup (q.b.items.map .str)), .val (.tup (q.c.items.map .str)), .own (.lst (ms.map Enc.d)), .val (.str w), .val (.str p), j10, .emp]) rfl
          ⟨ms, _, by simpa using hm, rfl⟩ (fun pre3 i post3 env hx3 hi => ?_) fun env hi => ?_
        · obtain ⟨ms, j10, hm, rfl⟩ := hi
          have hpre3 : pre3.length < 6 := by
            have h1 := congrArg List.length hx3
            simp at h1
            omega
          simp [fdk, ee]
          refine lc_map D.str [(eF p).1, (eF p).2] (fun z => Enc.d (⟨1 + (i : Int), w, p, z⟩ : Going)) rfl (by simp [big]) (fun z hz => by simp [big]) ?_
          simp [big]
          refine if_wp (by omega) ?_
          simp
          exact ⟨ms ++ [⟨1 + (i : Int), w, p, (eF p).1⟩, ⟨1 + (i : Int), w, p, (eF p).2⟩], .val (.int (1 + (i : Int))), by simp; omega, by rw [List.map_append]; rfl⟩
        · obtain ⟨ms, j10, hm, rfl⟩ := hi
          simp
          exact ⟨ms, _, _, by simp at hm ⊢; omega, rfl⟩
      · obtain ⟨ms, j9, j10, hm, rfl⟩ := hi
        simp
        exact ⟨ms, _, _, _, by simp; omega, rfl⟩
    · obtain ⟨ms, j8, j9, j10, hm, rfl⟩ := hi
      have s := sortable_enc ms (.inl fun _ => rfl)
      have e := sortD_enc ms
      have e2 := dk_put ks hnd mf q.a (.tup ((sortL ms).map Enc.d))
      rw [show putS ks q.a = ks ++ [q.a] by unfold putS; rw [if_neg hnp]] at e2
      generalize hgr : sortL ms = r at *
      generalize hgl : ms.map Enc.d = l at *
      simp [s, e, fdk, big]
      refine of_if (by simpa using (by omega : ks.length < 100000)) ?_
      rw [e2]
      simp
      exact ⟨updF mf q.a (.tup (r.map Enc.d)), .val (.str q.a), .val (.tup (q.b.items.map .str)), .val (.tup (q.c.items.map .str)), .own (.lst l), j8, j9, j10, by rw [hks]; rfl⟩
  · obtain ⟨mf, j4, j5, j6, j7, j8, j9, j10, rfl⟩ := hi
    simp
    exact hk mf
end Kx
end

section
set_option Elab.async false
set_option linter.all false
set_option maxRecDepth 10000
set_option autoImplicit false
set_option maxHeartbeats 1000000
/-! the meadow -/
namespace Kx
open PySem PySem.W Fm Fm.Sx L2
def Field.endF (f : Field) (x : Str) : Str × Str := match f.paths.find? (fun w => decide (w.a = x)) with
  | some w => (w.b, w.c)
  | none => ("", "")
abbrev gI (hours : Int) (gts : List Gate) (p : Str × Str) : Int := ((gts.filter fun g => decide (g.a = p.1) && decide (g.b = p.2)).map (·.c) ++ [hours]).headD 0
abbrev endD (f : Field) (x : Str) : D := .tup [.str (f.endF x).1, .str (f.endF x).2]
def Field.mD (f : Field) (mf : Str → D) : D := .ins 0 [5, 6, 7, 8, 9, 10, 11, 12, 13, 14] [.int f.hours, .tup ((sortL f.spots).map .str), .tup ((sortL f.folk).map .str), .tup (f.paths.map Enc.d), .tup (f.gts.map Enc.d), .tup (f.signs.map Enc.d),
  fdk (f.paths.map T3.a) (endD f), fdt (prod (sortL f.folk) f.wayN) (gateF f.hours f.gts), fdt (prod (sortL f.folk) f.wayN) (watchF f.signs), fdk (f.signs.map T3.a) mf]
theorem Field.paths_perm (f : Field) : (f.paths.map T3.a).Perm f.wayN := by
  refine ((sortL_perm _).map _).trans ?_
  rw [List.map_map]
  exact List.Perm.of_eq rfl
theorem Field.signs_perm (f : Field) : (f.signs.map T3.a).Perm (f.posts.map T3.a) := by
  refine ((sortL_perm _).map _).trans ?_
  rw [List.map_map]
  exact List.Perm.of_eq rfl
theorem find_uniq {α : Type} [DecidableEq α] (nm : α → Str) : ∀ {l : List α} {w : α}, (l.map nm).Nodup → w ∈ l → l.find? (fun y => decide (nm y = nm w)) = some w
  | [], _, _, h => by cases h
  | x :: l, w, nd, h => by
    obtain ⟨n1, n2⟩ := List.nodup_cons.mp nd
    rcases List.mem_cons.mp h with rfl | h
    · simp
    · have : nm x ≠ nm w := fun e => n1 (e ▸ List.mem_map.mpr ⟨w, h, rfl⟩)
      rw [List.find?_cons_of_neg (by simpa using this)]
      exact find_uniq nm n2 h
theorem Field.endF_of {f : Field} (hf : f.Ok) {w : Way} (hw : w ∈ f.paths) : f.endF w.a = (w.b, w.c) := by
  unfold Field.endF
  rw [find_uniq T3.a (f.paths_perm.nodup_iff.mpr hf.ways.nd) hw]
theorem gI_bound (f : Field) (hf : f.Ok) (p : Str × Str) : 0 ≤ gI f.hours f.gts p ∧ gI f.hours f.gts p ≤ 6 := by
  have h6 := hf.h6
  have h1 := hf.h1
  unfold gI
  cases e : f.gts.filter fun g => decide (g.a = p.1) && decide (g.b = p.2) with
  | nil => simp; omega
  | cons g l =>
    have hg : g ∈ f.gts := (List.mem_filter.mp (e ▸ List.mem_cons_self : g ∈ f.gts.filter fun g => decide (g.a = p.1) && decide (g.b = p.2))).1
    have hg2 : g ∈ f.shut := (List.mem_filter.mp (sortL_mem.mp hg)).1
    obtain ⟨_, _, x1, x2⟩ := hf.shut g hg2
    simp
    omega
theorem one_or_none {α : Type} (nm : α → Str × Str) {l : List α} (nd : (l.map nm).Nodup) {p : Str × Str} (h : ∀ x ∈ l, nm x = p) : l = [] ∨ ∃ x, l = [x] := by
  match l, nd, h with
  | [], _, _ => exact .inl rfl
  | [x], _, _ => exact .inr ⟨x, rfl⟩
  | x :: y :: l, nd, h =>
    obtain ⟨n1, _⟩ := List.nodup_cons.mp nd
    exact absurd (List.mem_cons.mpr (.inl ((h x List.mem_cons_self).trans (h y (List.mem_cons_of_mem _ List.mem_cons_self)).symm))) n1
theorem gI_gate (f : Field) (hf : f.Ok) (a b : Str) : gI f.hours f.gts (a, b) = f.gate a b := by
  have hF : ∀ g ∈ f.shut.filter (fun g => decide (g.a = a) && decide (g.b = b)), (g.a, g.b) = (a, b) := fun g hg => by
    have := (List.mem_filter.mp hg).2
    simp only [Bool.and_eq_true, decide_eq_true_eq] at this
    rw [this.1, this.2]
  have hnd : ((f.shut.filter (fun g => decide (g.a = a) && decide (g.b = b))).map fun g => (g.a, g.b)).Nodup := hf.shutN.sublist (List.Sublist.map _ List.filter_sublist)
  have e : f.gts.filter (fun g => decide (g.a = a) && decide (g.b = b)) = sortL ((f.shut.filter (fun g => decide (g.a = a) && decide (g.b = b))).filter fun g => decide (g.c < f.hours)) := by
    unfold Field.gts
    rw [sortL_filter, List.filter_filter, List.filter_filter]
    congr 1
    exact List.filter_congr fun g _ => Bool.and_comm _ _
  unfold gI Field.gate
  rw [e]
  rcases one_or_none (fun g : Gate => (g.a, g.b)) hnd hF with h0 | ⟨g, h0⟩
  · rw [h0, List.filter_nil, show sortL ([] : List Gate) = [] from sortL_id .nil]
  · have hg : g ∈ f.shut := (List.mem_filter.mp (h0 ▸ List.mem_cons_self : g ∈ f.shut.filter (fun g => decide (g.a = a) && decide (g.b = b)))).1
    obtain ⟨_, _, x1, x2⟩ := hf.shut g hg
    rw [h0]
    by_cases c : g.c < f.hours
    · rw [show [g].filter (fun g => decide (g.c < f.hours)) = [g] by simp [c], show sortL [g] = [g] from sortL_id (List.pairwise_singleton _ _)]
    · rw [show [g].filter (fun g => decide (g.c < f.hours)) = [] by simp [c], show sortL ([] : List Gate) = [] from sortL_id .nil]
      simp
      omega
theorem wp_init (n : Nat) (f : Field) (hf : f.Ok) {k : Kt (Fm.Slot × List Fm.Slot)} (hk : ∀ (mf : Str → D) (s2 s3 s4 s5 s6 : Fm.Slot), k.q (.val .non, [.own (f.mD mf), .emp, s2, s3, s4, s5, s6])) :
    @R.wp _ (callN P (n + 7) nMeadow___init__ [.own (.ins 0 [] []), .val (.int f.hours), .own (sl f.spots), .own (sl f.folk), .own (.lst (f.ways.map Enc.d)), .own (.lst (f.shut.map Enc.d)), .own (.lst (f.posts.map Enc.d))]) k := by
  refine call_wp PMeadow___init__ rfl ?_
  have h1 := hf.h1
  have h6 := hf.h6
  have hs1 := hf.spots1
  have hs7 := hf.spots7
  have hf1 := hf.folk1
  have hf3 := hf.folk3
  have hw9 := hf.ways9
  have hp9 := hf.posts.len
  simp [iMeadow___init__, h1, h6]
  refine wp_eq (e_names _ f.spots 7 hf.spots hs1 (by omega)) ?_
  simp
  refine wp_eq (e_names _ f.folk 3 hf.folk hf1 (by omega)) ?_
  simp
  refine wp_eq (e_paths _ f.ways 9 f.spots hf.ways hf.ends (by omega) hw9) ?_
  simp
  refine e_names_in _ Enc.d T3.a f.ways (fun x => ⟨_, rfl⟩) (by omega) _ (.inl (.inl rfl)) fun s' => ?_
  have hshut := hf.shut
  have hposts := hf.posts
  have hways := hf.ways
  have hsub : ∀ x, x ∈ f.wayN → x ∈ f.paths.map T3.a := fun x h => f.paths_perm.mem_iff.mpr h
  have hk' : ∀ (mf : Str → D) (s2 s3 s4 s5 s6 : Fm.Slot), k.q (.val .non, [.own (.ins 0 [5, 6, 7, 8, 9, 10, 11, 12, 13, 14] [.int f.hours, .tup ((sortL f.spots).map .str), .tup ((sortL f.folk).map .str), .tup (f.paths.map Enc.d), .tup (f.gts.map Enc.d), .tup (f.signs.map Enc.d),
    fdk (f.paths.map T3.a) (endD f), fdt (prod (sortL f.folk) f.wayN) (gateF f.hours f.gts), fdt (prod (sortL f.folk) f.wayN) (watchF f.signs), fdk (f.signs.map T3.a) mf]), .emp, s2, s3, s4, s5, s6]) := hk
  clear hk
  generalize hpn : f.wayN = pn at *
  have hpn' : List.map T3.a f.ways = pn := hpn
  have hpnl : pn.length ≤ 9 := by rw [← hpn, List.length_map]; exact hw9
  rw [hpn']
  simp
  refine wp_eq (e_gates _ f.shut f.folk pn f.hours hshut hf.shutN hf.shutOk (by have := hf.shutLen; omega)) ?_
  simp
  refine wp_eq (e_signs _ f.posts 9 f.folk pn hposts (by omega)) ?_
  simp [putKs, putVs, hasK, getK]
  refine wp_eq (e_spaths _ f.ways hw9) ?_
  simp [putKs, putVs, hasK, getK]
  refine wp_eq (e_sgates _ f.shut f.hours (by have := hf.shutLen; omega)) ?_
  simp [putKs, putVs, hasK, getK]
  refine wp_eq (e_ssigns _ f.posts hp9) ?_
  simp [putKs, putVs, hasK, getK]
  have hpn9 : f.paths.length ≤ 9 := by unfold Field.paths; simp; omega
  have hpnd : (f.paths.map T3.a).Nodup := f.paths_perm.nodup_iff.mpr (by rw [hpn]; exact hways.nd)
  refine dc_wp Enc.d f.paths (fun w => Sum.inr w.a) (fun w => .tup [.str w.b, .str w.c]) rfl (by simp [big]; omega) ?_ (fun w hw => by simp [big]) ?_
  · rw [show f.paths.map (fun w => (Sum.inr w.a : Key)) = (f.paths.map T3.a).map Sum.inr by rw [List.map_map]; rfl]
    exact List.Pairwise.map _ (fun a b h e => h (inr_inj _ _ e)) hpnd
  have e1 : D.dk (f.paths.map fun w => (Sum.inr w.a : Key)) (f.paths.map fun w : Way => D.tup [.str w.b, .str w.c]) = fdk (f.paths.map T3.a) (endD f) := by
    unfold fdk
    rw [List.map_map, List.map_map]
    congr 1
    refine List.map_congr_left fun w hw => ?_
    show _ = endD f w.a
    unfold endD
    rw [f.endF_of hf hw]
  rw [e1]
  have hfo : sortL f.folk ≠ [] := fun e => by
    have := sortL_len f.folk
    rw [e] at this
    simp at this
    omega
  have hfn : (sortL f.folk).Nodup := sortL_nodup.mpr hf.folk.nd
  have hgm : ∀ g ∈ f.gts, g ∈ f.shut := fun g hg => (List.mem_filter.mp (sortL_mem.mp hg)).1
  have hgn : (f.gts.map fun g => (g.a, g.b)).Nodup := (((sortL_perm _).map _).nodup_iff).mpr (hf.shutN.sublist (List.Sublist.map _ List.filter_sublist))
  have hsl : f.signs.length ≤ 9 := by unfold Field.signs; simp; omega
  simp [putKs, putVs, hasK, getK]
  refine wp_gtable _ f.hours (sortL f.folk) pn f.gts hfn hways.nd (by simp; omega) hpnl (fun g hg => ⟨sortL_mem.mpr (hshut g (hgm g hg)).1, (hshut g (hgm g hg)).2.1⟩) hgn (.inr trivial) (fun _ => ?_) hfo
  simp [putKs, putVs, hasK, getK]
  refine wp_watch _ (sortL f.folk) pn f.signs hfn hways.nd (by simp; omega) hpnl hsl ?_
  simp [putKs, putVs, hasK, getK]
  refine wp_marks _ f.signs (sortL f.folk) pn (f.paths.map T3.a) (gI f.hours f.gts) f.endF (f.signs_perm.nodup_iff.mpr hf.posts.names.nd) hsl (fun q hq => ?_) (gI_bound f hf) fun mf => ?_
  · obtain ⟨p, hp, rfl⟩ := List.mem_map.mp (sortL_mem.mp hq)
    have hpo := hposts.each p hp
    have l1 : p.b.length ≤ f.folk.length := nodup_len hpo.whoN hpo.who
    have l2 : p.c.length ≤ pn.length := nodup_len hpo.onN hpo.on
    refine ⟨fun x hx => sortL_mem.mpr (hpo.who x (sortL_mem.mp hx)), fun x hx => ⟨hpo.on x (sortL_mem.mp hx), hsub x (hpo.on x (sortL_mem.mp hx))⟩, ?_, ?_⟩
    · show (sortL p.b).length ≤ 3
      simp; omega
    · show (sortL p.c).length ≤ 9
      simp; omega
  · simp [putKs, putVs, hasK, getK]
    exact hk' mf _ _ _ _ _
theorem wp_made (n : Nat) (f : Field) (hf : f.Ok) {k : Kt (Fm.Slot × List Fm.Slot)} (hk : ∀ mf : Str → D, k.q (.own (f.mD mf), [.own f.d])) : @R.wp _ (callN P (n + 8) n_law_made [.own f.d]) k := by
  refine call_wp P_law_made rfl ?_
  simp [i_law_made, Field.d]
  refine lc_map Enc.d f.posts Enc.d rfl (by have := hf.posts.len; simp [big]; omega) (fun q hq => by simp [big]) ?_
  simp
  refine wp_init _ f hf fun mf s2 s3 s4 s5 s6 => ?_
  simp
  exact hk mf
end Kx
end

section
set_option Elab.async false
set_option linter.all false
set_option maxRecDepth 10000
set_option autoImplicit false
set_option maxHeartbeats 1000000
/-! the meadow's methods, a day is made -/
namespace Kx
open PySem PySem.W Fm Fm.Sx L2
@[simp] theorem inD_dk (x : Str) (ks : List Key) (vs : List D) : inD (.str x) (.dk ks vs) = some (hasK ks (.inr x)) := (rfl)
theorem Field.way_in (f : Field) {x : Str} : x ∈ f.wayN → x ∈ f.paths.map T3.a := fun h => f.paths_perm.mem_iff.mpr h
theorem e_pair (n : Nat) (f : Field) (mf : Str → D) (who way : Str) (h1 : who ∈ f.folk) (h2 : way ∈ f.wayN) : callN P (n + 1) nMeadow__check_pair [.val (f.mD mf), .val (.str who), .val (.str way)] = .ok (.val .non, [.emp, .emp, .emp]) := by
  refine eq_of_wp (call_wp PMeadow__check_pair rfl ?_)
  have e := dk_has (f.paths.map T3.a) way
  rw [decide_eq_true (f.way_in h2)] at e
  simp only [List.map_map] at e
  simp [iMeadow__check_pair, Field.mD, getK, h1, fdk, e]
theorem e_ends (n : Nat) (f : Field) (mf : Str → D) (way : Str) (h2 : way ∈ f.wayN) : callN P (n + 1) nMeadow_ends [.val (f.mD mf), .val (.str way)] = .ok (.val (endD f way), [.emp, .emp]) := by
  refine eq_of_wp (call_wp PMeadow_ends rfl ?_)
  have e := dk_has (f.paths.map T3.a) way
  rw [decide_eq_true (f.way_in h2)] at e
  have e2 := dk_get (f.paths.map T3.a) (endD f) way (f.way_in h2)
  simp only [List.map_map] at e e2
  simp [iMeadow_ends, Field.mD, getK, fdk, e, e2]
theorem e_gateM (n : Nat) (f : Field) (hf : f.Ok) (mf : Str → D) (who way : Str) (h1 : who ∈ f.folk) (h2 : way ∈ f.wayN) : callN P (n + 2) nMeadow_gate [.val (f.mD mf), .val (.str who), .val (.str way)] = .ok (.val (.int (f.gate who way)), [.emp, .emp, .emp]) := by
  refine eq_of_wp (call_wp PMeadow_gate rfl ?_)
  have e2 := dt_get (prod (sortL f.folk) f.wayN) (gateF f.hours f.gts) who way (prod_mem.mpr ⟨sortL_mem.mpr h1, h2⟩)
  have e3 : gateF f.hours f.gts (who, way) = .int (f.gate who way) := by
    rw [← gI_gate f hf]
    rfl
  rw [e3] at e2
  generalize hks : prod (sortL f.folk) f.wayN = ks at e2
  simp [iMeadow_gate]
  rw [show f.mD mf = .ins 0 [5, 6, 7, 8, 9, 10, 11, 12, 13, 14] [.int f.hours, .tup ((sortL f.spots).map .str), .tup ((sortL f.folk).map .str), .tup (f.paths.map Enc.d), .tup (f.gts.map Enc.d), .tup (f.signs.map Enc.d),
    fdk (f.paths.map T3.a) (endD f), fdt (prod (sortL f.folk) f.wayN) (gateF f.hours f.gts), fdt (prod (sortL f.folk) f.wayN) (watchF f.signs), fdk (f.signs.map T3.a) mf] from rfl]
  simp
  refine wp_eq (e_pair n f mf who way h1 h2) ?_
  rw [hks]
  simp [getK, fdt, big, e2]
theorem e_watchM (n : Nat) (f : Field) (mf : Str → D) (who way : Str) (h1 : who ∈ f.folk) (h2 : way ∈ f.wayN) : callN P (n + 2) nMeadow_watching [.val (f.mD mf), .val (.str who), .val (.str way)] = .ok (.val (.tup ((watchL f.signs who way).map .str)), [.emp, .emp, .emp]) := by
  refine eq_of_wp (call_wp PMeadow_watching rfl ?_)
  have e2 := dt_get (prod (sortL f.folk) f.wayN) (watchF f.signs) who way (prod_mem.mpr ⟨sortL_mem.mpr h1, h2⟩)
  generalize hks : prod (sortL f.folk) f.wayN = ks at e2
  simp [iMeadow_watching]
  rw [show f.mD mf = .ins 0 [5, 6, 7, 8, 9, 10, 11, 12, 13, 14] [.int f.hours, .tup ((sortL f.spots).map .str), .tup ((sortL f.folk).map .str), .tup (f.paths.map Enc.d), .tup (f.gts.map Enc.d), .tup (f.signs.map Enc.d),
    fdk (f.paths.map T3.a) (endD f), fdt (prod (sortL f.folk) f.wayN) (gateF f.hours f.gts), fdt (prod (sortL f.folk) f.wayN) (watchF f.signs), fdk (f.signs.map T3.a) mf] from rfl]
  simp
  refine wp_eq (e_pair n f mf who way h1 h2) ?_
  rw [hks]
  simp [getK, fdt, big, e2]
  rfl
theorem ends_cases (f : Field) (hf : f.Ok) {w : Way} (hw : w ∈ f.ways) : f.endF w.a = (w.b, w.c) ∨ f.endF w.a = (w.c, w.b) := by
  have hm : normW w ∈ f.paths := sortL_mem.mpr (List.mem_map.mpr ⟨w, hw, rfl⟩)
  have e := f.endF_of hf hm
  have e : f.endF w.a = (smin w.b w.c, smax w.b w.c) := e
  rw [e]
  unfold smin smax
  have hne := (hf.ends w hw).2.2
  by_cases c1 : w.c.cps.toList < w.b.cps.toList
  · have : ¬ w.b.cps.toList < w.c.cps.toList := fun c2 => by
      have := lt_asym (α := Str) (a := w.c) (b := w.b) (decide_eq_true c1)
      have h3 : decide (w.b.cps.toList < w.c.cps.toList) = false := this
      rw [decide_eq_true c2] at h3
      cases h3
    simp [c1, this]
  · by_cases c2 : w.b.cps.toList < w.c.cps.toList
    · simp [c1, c2]
    · exact absurd (lt_anti (α := Str) (a := w.b) (b := w.c) (decide_eq_false c2) (decide_eq_false c1)) hne
theorem e_across (n : Nat) (f : Field) (hf : f.Ok) (mf : Str → D) {w : Way} (hw : w ∈ f.ways) (from_ to_ : Str) (h : from_ = w.b ∧ to_ = w.c ∨ from_ = w.c ∧ to_ = w.b) : callN P (n + 2) nMeadow_across [.val (f.mD mf), .val (.str w.a), .val (.str to_)] = .ok (.val (.str from_), [.emp, .emp, .emp]) := by
  refine eq_of_wp (call_wp PMeadow_across rfl ?_)
  have hwm : w.a ∈ f.wayN := List.mem_map.mpr ⟨w, hw, rfl⟩
  have hne := (hf.ends w hw).2.2
  have hne' := hne.symm
  simp [iMeadow_across]
  rw [show f.mD mf = .ins 0 [5, 6, 7, 8, 9, 10, 11, 12, 13, 14] [.int f.hours, .tup ((sortL f.spots).map .str), .tup ((sortL f.folk).map .str), .tup (f.paths.map Enc.d), .tup (f.gts.map Enc.d), .tup (f.signs.map Enc.d),
    fdk (f.paths.map T3.a) (endD f), fdt (prod (sortL f.folk) f.wayN) (gateF f.hours f.gts), fdt (prod (sortL f.folk) f.wayN) (watchF f.signs), fdk (f.signs.map T3.a) mf] from rfl]
  simp
  refine wp_eq (e_ends n f mf w.a hwm) ?_
  rcases ends_cases f hf hw with e | e
  all_goals
    rcases h with ⟨rfl, rfl⟩ | ⟨rfl, rfl⟩
    all_goals simp [endD, e, hne, hne']
theorem e_possible (n : Nat) (f : Field) (hf : f.Ok) (mf : Str → D) (pl : Str → Str) (hour : Int) (g : Going) (h : GoOk f pl hour g) :
    callN P (n + 4) ngoing_is_possible [.val (f.mD mf), .own (pls f.folk pl), .val (.int hour), .val (Enc.d g)] = .ok (.val (.bl true), [.emp, .own (pls f.folk pl), .emp, .emp]) := by
  obtain ⟨hw, ⟨w, hww, e1, e2⟩, hlo, hga⟩ := h
  have hwm : g.c ∈ f.wayN := List.mem_map.mpr ⟨w, hww, e1⟩
  have hpp : g.c ∈ f.paths.map T3.a := f.way_in hwm
  have hpl := dk_get f.folk (fun x => .str (pl x)) g.b hw
  refine eq_of_wp (call_wp Pgoing_is_possible rfl ?_)
  simp [igoing_is_possible]
  generalize hmm : f.mD mf = m
  have hm : m = .ins 0 [5, 6, 7, 8, 9, 10, 11, 12, 13, 14] [.int f.hours, .tup ((sortL f.spots).map .str), .tup ((sortL f.folk).map .str), .tup (f.paths.map Enc.d), .tup (f.gts.map Enc.d), .tup (f.signs.map Enc.d),
    fdk (f.paths.map T3.a) (endD f), fdt (prod (sortL f.folk) f.wayN) (gateF f.hours f.gts), fdt (prod (sortL f.folk) f.wayN) (watchF f.signs), fdk (f.signs.map T3.a) mf] := hmm.symm
  rw [hm]
  have hpl9 : f.paths.length ≤ 9 := by have := hf.ways9; unfold Field.paths; simp; omega
  simp [getK, hw]
  refine e_names_in _ Enc.d T3.a f.paths (fun x => ⟨_, rfl⟩) (by omega) _ (.inr (.inl rfl)) fun s' => ?_
  have hin0 := inD_strs g.c (f.paths.map T3.a)
  rw [decide_eq_true hpp] at hin0
  simp only [List.map_map] at hin0
  simp [hin0]
  refine wp_eq (e_ends _ f mf g.c hwm) ?_
  have hend : f.endF g.c = (w.b, w.c) ∨ f.endF g.c = (w.c, w.b) := by rw [← e1]; exact ends_cases f hf hww
  have hin : g.d = (f.endF g.c).1 ∨ g.d = (f.endF g.c).2 := by
    rcases hend with e | e <;> rw [e] <;> rcases e2 with ⟨_, e2⟩ | ⟨_, e2⟩ <;> simp [e2]
  simp [endD, hin, hlo]
  refine wp_eq (e_gateM _ f hf mf g.b g.c hw hwm) ?_
  have hix : ∀ m, ixD (pls f.folk pl) (.str g.b) m = some (.str (pl g.b)) := fun m => by
    unfold pls fdk
    simp [hpl]
  simp [hga, hix]
  have t := e_across (n + 1) f hf mf hww (pl g.b) g.d e2
  rw [e1] at t
  refine wp_eq t ?_
  simp
theorem ix_pls (ks : List Str) (pl : Str → Str) (x : Str) (h : x ∈ ks) (m : Bool) : ixD (pls ks pl) (.str x) m = some (.str (pl x)) := by
  unfold pls fdk
  simp [dk_get ks (fun x => .str (pl x)) x h]
theorem Field.mD_eq (f : Field) (mf : Str → D) : ∃ E6 E7 E8 E9, f.mD mf = .ins 0 [5, 6, 7, 8, 9, 10, 11, 12, 13, 14] [.int f.hours, .tup ((sortL f.spots).map .str), .tup ((sortL f.folk).map .str), .tup (f.paths.map Enc.d), .tup (f.gts.map Enc.d), .tup (f.signs.map Enc.d), E6, E7, E8, E9] := ⟨_, _, _, _, rfl⟩
theorem frzs_vals (xs : List D) (env : Fm.Env) : frzs (xs.map fun d => .tmp (.val d)) env = some (xs, env) := by
  induction xs with
  | nil => rfl
  | cons x xs ih => simp [ih]
theorem e_check_placing (n : Nat) (f : Field) (hf : f.Ok) (mf : Str → D) (bg : Str → Str) (hb : ∀ x ∈ f.folk, bg x ∈ f.spots) (s : Fm.Slot) (hs : IsS s (f.mD mf)) :
    callN P (n + 1) ncheck_placing [s, .own (pls f.folk bg)] = .ok (.val .non, [gv s, .own (pls f.folk bg)]) := by
  have hin : ∀ x ∈ f.folk, inD (.str x) (pls f.folk bg) = some true := fun x hx => by
    unfold pls fdk
    rw [inD_dk, dk_has, decide_eq_true hx]
  have hix := ix_pls f.folk bg
  have hlen : (sortL f.folk).length + f.folk.length ≤ 100000 := by have := hf.folk3; simp; omega
  have hfr : ∀ env, frzs (List.map ((fun d => Opd.tmp (Slot.val d)) ∘ D.str) (sortL f.folk) ++ List.map ((fun k => Opd.tmp (Slot.val (Key.d k))) ∘ Sum.inr) f.folk) env = some ((sortL f.folk ++ f.folk).map D.str, env) := fun env => by
    rw [show List.map ((fun d => Opd.tmp (Slot.val d)) ∘ D.str) (sortL f.folk) ++ List.map ((fun k => Opd.tmp (Slot.val (Key.d k))) ∘ Sum.inr) f.folk = ((sortL f.folk ++ f.folk).map D.str).map fun d => .tmp (.val d) by
      rw [List.map_map, List.map_append]
      congr 1, frzs_vals]
  have hmem : ∀ x ∈ sortL (sortL f.folk ++ f.folk), x ∈ f.folk := fun x hx => by
    rcases List.mem_append.mp (sortL_mem.mp hx) with h | h
    · exact sortL_mem.mp h
    · exact h
  generalize hL : sortL f.folk ++ f.folk = L at *
  have hLl : L.length ≤ 100000 := by rw [← hL, List.length_append]; exact hlen
  obtain ⟨E6, E7, E8, E9, hm⟩ := f.mD_eq mf
  rw [hm] at hs
  have hs' := hs
  rcases hs' with rfl | rfl
  all_goals
    refine eq_of_wp (call_wp Pcheck_placing rfl ?_)
    simp [icheck_placing, getK, pls, fdk, hfr, big]
    refine if_wp hLl ?_
    simp
    refine loop_wp D.str (sortL L) (fun pre env => ∃ j : Fm.Slot, env = [_, .own (pls f.folk bg), j]) rfl ⟨_, rfl⟩ (fun pre x post env hx hi => ?_) fun env hi => ?_
    · obtain ⟨j, rfl⟩ := hi
      have hxm : x ∈ f.folk := hmem x (by rw [← hx]; simp)
      have h1 := hin x hxm
      have h2 := hix x hxm
      have h3 := hb x hxm
      simp [getK, hxm, h1, h2, h3]
      exact ⟨_, rfl⟩
    · obtain ⟨j, rfl⟩ := hi
      simp [pls, fdk]
end Kx
end

section
set_option Elab.async false
set_option linter.all false
set_option maxRecDepth 10000
set_option autoImplicit false
set_option maxHeartbeats 1000000
/-! a day is made -/
namespace Kx
open PySem PySem.W Fm Fm.Sx L2
theorem walk_prefix {f : Field} : ∀ {a b : List Going} {pl : Str → Str} {h : Int}, WalkOk f pl h (a ++ b) → WalkOk f pl h a
  | [], _, _, _, _ => trivial
  | g :: a, b, pl, h, w => ⟨w.1, walk_prefix (a := a) w.2⟩
theorem walk_at {f : Field} {rows : List Going} {pl : Str → Str} {h : Int} (w : WalkOk f pl h rows) {pre : List (Going × Nat)} {p : Going × Nat} {post : List (Going × Nat)} (e : pre ++ p :: post = rows.zipIdx) : GoOk f (endPl pl (pre.map (·.1))) (lastH h (pre.map (·.1))) p.1 := by
  obtain ⟨_, _, z3⟩ := zip_split e
  rw [z3, show ∀ (a b : List Going) (x : Going), a ++ x :: b = (a ++ [x]) ++ b by simp] at w
  exact (walk_snoc.mp (walk_prefix w)).2
theorem set_pls (ks : List Str) (nd : ks.Nodup) (hl : ks.length < 100000) (pl : Str → Str) {x : Str} (y : Str) (hx : x ∈ ks) (m : Bool) : setD (pls ks pl) (.str x) m (.str y) = some (pls ks (updF pl x y)) := by
  rw [← pls_upd ks nd pl y hx]
  unfold pls fdk
  simp [big, hl]
@[simp] theorem dict_fdk (ks : List Str) (g : Str → D) (oa : Opd) : b1D .dict (fdk ks g) oa = some (.tmp (.own (fdk ks g))) := (rfl)
@[simp] theorem dict_pls (ks : List Str) (pl : Str → Str) (oa : Opd) : b1D .dict (pls ks pl) oa = some (.tmp (.own (pls ks pl))) := (rfl)
theorem set_fdk (ks : List Str) (nd : ks.Nodup) (hl : ks.length < 100000) (g : Str → D) (x : Str) (y : D) (m : Bool) : setD (fdk ks g) (.str x) m y = some (fdk (putS ks x) (updF g x y)) := by
  rw [← dk_put ks nd g x y]
  unfold fdk
  simp [big, hl]
theorem ix_fdk (ks : List Str) (g : Str → D) (x : Str) (h : x ∈ ks) (m : Bool) : ixD (fdk ks g) (.str x) m = some (g x) := by
  unfold fdk
  simp [dk_get ks g x h]
theorem in_fdk (ks : List Str) (g : Str → D) (x : Str) : inD (.str x) (fdk ks g) = some (decide (x ∈ ks)) := by
  unfold fdk
  rw [inD_dk, dk_has]
theorem wp_placings (n : Nat) (f : Field) (hf : f.Ok) (mf : Str → D) (bg : Str → Str) (rows : List Going) (hw : WalkOk f bg 1 rows) (hr : rows.length ≤ 2000) {k : Kt (Fm.Slot × List Fm.Slot)} (hk : ∀ d, k.q (.own d, [.emp, .own (pls f.folk bg), .emp])) :
    @R.wp _ (callN P (n + 5) nplacings_of_goings [.val (f.mD mf), .own (pls f.folk bg), .val (.tup (rows.map Enc.d))]) k := by
  refine call_wp Pplacings_of_goings rfl ?_
  rw [show pls f.folk bg = .dk (f.folk.map Sum.inr) (f.folk.map fun x => .str (bg x)) from rfl] at hk ⊢
  simp [iplacings_of_goings, big, enumD_eq]
  refine loop_wp (fun p : Going × Nat => .tup [.int p.2, Enc.d p.1]) rows.zipIdx (fun pre env => ∃ (ds : List D) (j6 j7 : Fm.Slot), ds.length ≤ pre.length + 1 ∧ env = [.val (f.mD mf), .own (pls f.folk bg), .val (.tup (rows.map Enc.d)), .own (pls f.folk (endPl bg (pre.map (·.1)))), .own (.lst ds), .val (.int (lastH 1 (pre.map (·.1)))), j6, j7]) (by simp) ⟨[_], _, _, by simp, rfl⟩ (fun pre p post env hx hi => ?_) fun env hi => ?_
  · obtain ⟨ds, j6, j7, hds, rfl⟩ := hi
    have hg := walk_at hw hx
    have hpl : pre.length < 2000 := by
      have h1 := congrArg List.length hx
      simp at h1
      omega
    have hend : endPl bg ((pre ++ [p]).map (·.1)) = updF (endPl bg (pre.map (·.1))) p.1.b p.1.d := by rw [List.map_append]; exact endPl_snoc
    have hlast : lastH 1 ((pre ++ [p]).map (·.1)) = p.1.a := by rw [List.map_append]; exact lastH_snoc
    rw [hend, hlast]
    generalize endPl bg (pre.map (·.1)) = pl at *
    generalize lastH 1 (pre.map (·.1)) = h0 at *
    simp
    refine wp_eq (e_possible n f hf mf pl h0 p.1 hg) ?_
    have hf3 := hf.folk3
    simp
    refine of_wp (set_pls f.folk hf.folk.nd (by omega) pl p.1.d hg.who false) ?_
    simp [big]
    refine if_wp (by omega) ?_
    simp
    exact ⟨ds ++ [pls f.folk (updF pl p.1.b p.1.d)], _, _, by simp; omega, rfl⟩
  · obtain ⟨ds, j6, j7, hds, rfl⟩ := hi
    simp
    exact hk _
def lastW (W : Going → List Str) (l : List (Going × Nat)) : Str → Int := l.foldl (fun acc p s => if s ∈ W p.1 then (p.2 : Int) else acc s) fun _ => -1
theorem lastW_snoc (W : Going → List Str) (l : List (Going × Nat)) (p : Going × Nat) : lastW W (l ++ [p]) = fun s => if s ∈ W p.1 then (p.2 : Int) else lastW W l s := by
  unfold lastW
  rw [List.foldl_append]
  rfl
def Field.W (f : Field) (g : Going) : List Str := watchL f.signs g.b g.c
theorem Field.W_sub {f : Field} {g : Going} {s : Str} (h : s ∈ f.W g) : s ∈ f.signs.map T3.a := by
  obtain ⟨q, hq, rfl⟩ := List.mem_map.mp h
  exact List.mem_map.mpr ⟨q, (List.mem_filter.mp hq).1, rfl⟩
theorem wp_lasts (n : Nat) (f : Field) (hf : f.Ok) (mf : Str → D) (rows : List Going) (hw : ∀ g ∈ rows, g.b ∈ f.folk ∧ g.c ∈ f.wayN) (hr : rows.length ≤ 2000) {k : Kt (Fm.Slot × List Fm.Slot)}
    (hk : k.q (.own (fdk (f.signs.map T3.a) fun s => .int (lastW f.W rows.zipIdx s)), [.emp, .emp])) :
    @R.wp _ (callN P (n + 3) nlast_indexes [.val (f.mD mf), .val (.tup (rows.map Enc.d))]) k := by
  have hsl : f.signs.length ≤ 9 := by have := hf.posts.len; unfold Field.signs; simp; omega
  have hsn : (f.signs.map T3.a).Nodup := f.signs_perm.nodup_iff.mpr hf.posts.names.nd
  refine call_wp Plast_indexes rfl ?_
  obtain ⟨E6, E7, E8, E9, hm⟩ := f.mD_eq mf
  simp [ilast_indexes]
  rw [hm]
  simp [getK]
  refine e_names_in _ Enc.d T3.a f.signs (fun x => ⟨_, rfl⟩) (by omega) _ (.inr (.inl rfl)) fun s' => ?_
  generalize hks : f.signs.map T3.a = ks at *
  have hkl : ks.length ≤ 9 := by rw [← hks, List.length_map]; exact hsl
  simp
  refine loop_wp D.str ks (fun pre env => ∃ j3 : Fm.Slot, env = [.val (f.mD mf), .val (.tup (rows.map Enc.d)), .own (fdk pre fun _ => .int (-1)), j3, .emp, .emp, .emp]) rfl ⟨_, by rw [hm]; rfl⟩ (fun pre x post env hx hi => ?_) fun env hi => ?_
  · obtain ⟨j3, rfl⟩ := hi
    obtain ⟨hxp, hxm⟩ := nodup_split hx hsn
    have hpl : pre.length < 9 := by
      have h1 := congrArg List.length hx
      simp at h1
      omega
    have hpn : pre.Nodup := by rw [← hx, List.nodup_append] at hsn; exact hsn.1
    simp
    refine of_wp (set_fdk pre hpn (by omega) _ x (.int (-1)) false) ?_
    simp
    refine ⟨.val (.str x), ?_⟩
    rw [show putS pre x = pre ++ [x] by unfold putS; rw [if_neg hxp], show updF (fun _ => D.int (-1)) x (.int (-1)) = fun _ => D.int (-1) from upd_same (fun _ => D.int (-1)) x]
  · obtain ⟨j3, rfl⟩ := hi
    simp [enumD_eq]
    refine loop_wp (fun p : Going × Nat => .tup [.int p.2, Enc.d p.1]) rows.zipIdx (fun pre env => ∃ (j3 j4 j5 j6 : Fm.Slot), env = [.val (f.mD mf), .val (.tup (rows.map Enc.d)), .own (fdk ks fun s => .int (lastW f.W pre s)), j3, j4, j5, j6]) (by simp) ⟨_, _, _, _, rfl⟩ (fun pre p post env hx hi => ?_) fun env hi => ?_
    · obtain ⟨j3, j4, j5, j6, rfl⟩ := hi
      obtain ⟨z1, z2, z3⟩ := zip_split hx
      obtain ⟨h1, h2⟩ := hw p.1 (by rw [z3]; simp)
      have h3 := e_watchM n f mf p.1.b p.1.c h1 h2
      rw [hm] at h3 ⊢
      simp
      refine wp_eq h3 ?_
      simp
      refine loop_wp D.str (f.W p.1) (fun pre2 env => ∃ (j6 : Fm.Slot), env = [.val (f.mD mf), .val (.tup (rows.map Enc.d)), .own (fdk ks fun s => .int (if s ∈ pre2 then p.2 else lastW f.W pre s)), j3, .val (.int p.2), .val (Enc.d p.1), j6]) rfl ⟨j6, by rw [hm]; simp⟩ (fun pre2 x post2 env hx2 hi => ?_) fun env hi => ?_
      · obtain ⟨j6, rfl⟩ := hi
        have hxk : x ∈ ks := by rw [← hks]; exact Field.W_sub (g := p.1) (by rw [← hx2]; simp)
        simp
        refine of_wp (set_fdk ks hsn (by omega) _ x (.int p.2) false) ?_
        simp
        refine ⟨.val (.str x), ?_⟩
        rw [show putS ks x = ks by unfold putS; rw [if_pos hxk]]
        congr 4
        refine congrArg (fdk ks) (funext fun z => ?_)
        unfold updF
        by_cases c : z = x <;> simp [c]
      · obtain ⟨j6, rfl⟩ := hi
        simp
        exact ⟨j3, .val (.int p.2), .val (Enc.d p.1), j6, by rw [lastW_snoc, hm]⟩
    · obtain ⟨j3, j4, j5, j6, rfl⟩ := hi
      simp
      exact hk
def dayD (f : Field) (mf : Str → D) (bg : Str → Str) (rows : List Going) (pd : D) : D := .ins 1 [0, 1, 2, 3, 4] [f.mD mf, .tup (rows.map Enc.d), pls f.folk bg, pd, fdk (f.signs.map T3.a) fun s => .int (lastW f.W rows.zipIdx s)]
theorem walk_mem {f : Field} : ∀ {rows : List Going} {pl : Str → Str} {h : Int}, WalkOk f pl h rows → ∀ g ∈ rows, g.b ∈ f.folk ∧ g.c ∈ f.wayN
  | [], _, _, _, g, hg => by cases hg
  | x :: rows, pl, h, w, g, hg => by
    rcases List.mem_cons.mp hg with rfl | hg
    · obtain ⟨a, ⟨v, hv, e, _⟩, _, _⟩ := w.1
      exact ⟨a, List.mem_map.mpr ⟨v, hv, e⟩⟩
    · exact walk_mem w.2 g hg
theorem wp_day (n : Nat) (f : Field) (hf : f.Ok) (mf : Str → D) (bg : Str → Str) (hb : ∀ x ∈ f.folk, bg x ∈ f.spots) (rows : List Going) (hw : WalkOk f bg 1 rows) (hr : rows.length ≤ 2000) (s : Fm.Slot) (hs : IsS s (f.mD mf)) {k : Kt (Fm.Slot × List Fm.Slot)}
    (hk : ∀ pd s' s2 s3, (s = .own (f.mD mf) → s' = .val (f.mD mf)) → k.q (.val .non, [.own (dayD f mf bg rows pd), s', s2, s3])) :
    @R.wp _ (callN P (n + 6) nDay___init__ [.own (.ins 1 [] []), s, .own (pls f.folk bg), .own (.lst (rows.map Enc.d))]) k := by
  have hs' := hs
  rcases hs' with rfl | rfl
  all_goals
    refine call_wp PDay___init__ rfl ?_
    simp [iDay___init__]
    refine wp_eq (e_check_placing _ f hf mf bg hb _ hs) ?_
    simp
    refine wp_eq (e_count _ (rows.map Enc.d) 2000 (by simp; omega)) ?_
    simp [putKs, putVs, hasK, getK]
    refine lc_map Enc.d rows Enc.d rfl (by simp [big]; omega) (fun g hg => by simp) ?_
    simp [putKs, putVs, hasK, getK]
    refine wp_placings _ f hf mf bg rows hw hr fun pd => ?_
    simp [putKs, putVs, hasK, getK]
    refine wp_lasts _ f hf mf rows (walk_mem hw) hr ?_
    simp [putKs, putVs, hasK, getK]
  · exact hk pd .emp _ _ (fun e => by cases e)
  · exact hk pd _ _ _ (fun _ => rfl)
end Kx
end

section
set_option Elab.async false
set_option linter.all false
set_option maxRecDepth 10000
set_option autoImplicit false
set_option maxHeartbeats 1000000
/-! the steps of a day, told by both sides -/
namespace Kx
open PySem PySem.W Fm Fm.Sx L2
theorem t3_lq {α β γ : Type} [DecidableEq α] [DatumOrd α] [DecidableEq β] [DatumOrd β] [DecidableEq γ] [DatumOrd γ] {x y : T3 α β γ} (h : lq x y = true) : lq x.a y.a = true := by
  unfold lq at *
  rw [Bool.not_eq_true'] at *
  by_cases e : y.a = x.a
  · rw [e, lt_irr]
  · have h2 : (if y.a = x.a then (if y.b = x.b then (DatumOrd.lt y.c x.c) else DatumOrd.lt y.b x.b) else DatumOrd.lt y.a x.a) = false := h
    rw [if_neg e] at h2
    exact h2
theorem W_sorted (f : Field) (g : Going) : (f.W g).Pairwise fun a b => lq a b = true := by
  unfold Field.W watchL
  rw [List.pairwise_map]
  exact ((sortL_sorted _).filter _).imp fun h => t3_lq h
theorem W_nodup {f : Field} (hf : f.Ok) (g : Going) : (f.W g).Nodup :=
  (f.signs_perm.nodup_iff.mpr hf.posts.names.nd).sublist (List.Sublist.map _ List.filter_sublist)
theorem over_eq (f : Field) (who way : Str) : sortL ((f.posts.filter fun q => decide (who ∈ q.b) && decide (way ∈ q.c)).map T3.a) = watchL f.signs who way := by
  unfold watchL Field.signs
  rw [sortL_filter, List.filter_map]
  rw [sortL_map _ _ fun a _ b _ h => t3_lq h, List.map_map]
  congr 1
  congr 1
  refine List.filter_congr fun q _ => ?_
  show _ = (decide (who ∈ sortL q.b) && decide (way ∈ sortL q.c))
  simp
theorem e_over (n : Nat) (f : Field) (hf : f.Ok) (who way : Str) : callN P (n + 1) n_law_over [.own f.d, .val (.str who), .val (.str way)] = .ok (.own (.lst ((watchL f.signs who way).map .str)), [.own f.d, .emp, .emp]) := by
  refine eq_of_wp (call_wp P_law_over rfl ?_)
  simp [i_law_over, Field.d]
  refine lc_wp Enc.d f.posts (fun q => decide (who ∈ q.b) && decide (way ∈ q.c)) (fun q : Post => D.str q.a) rfl (by have := hf.posts.len; simp [big]; omega) (fun q hq => ?_) ?_
  · simp
    by_cases c1 : who ∈ q.b <;> by_cases c2 : way ∈ q.c <;> simp [c1, c2]
  · rw [show List.map (fun q : Post => D.str q.a) (f.posts.filter fun q => decide (who ∈ q.b) && decide (way ∈ q.c)) = ((f.posts.filter fun q => decide (who ∈ q.b) && decide (way ∈ q.c)).map T3.a).map D.str by rw [List.map_map]; rfl]
    have e := over_eq f who way
    generalize (f.posts.filter fun q => decide (who ∈ q.b) && decide (way ∈ q.c)).map T3.a = l at *
    simp [e, Field.d]
abbrev Step := T5 Int Str Str Str (Tup Str)
def stepS (f : Field) (rows : List Going) (p : Going × Nat) : List Str := (f.W p.1).filter fun s => decide (lastW f.W rows.zipIdx s = p.2)
def mkStep (f : Field) (rows : List Going) (p : Going × Nat) : Step := ⟨p.1.a, p.1.b, p.1.c, p.1.d, ⟨stepS f rows p⟩⟩
def stepsOf (f : Field) (rows : List Going) (l : List (Going × Nat)) : List Step := (l.filter fun p => decide (stepS f rows p ≠ [])).map (mkStep f rows)
abbrev steps (f : Field) (rows : List Going) : List Step := stepsOf f rows rows.zipIdx
theorem e_last (n : Nat) (f : Field) (mf : Str → D) (bg : Str → Str) (rows : List Going) (pd : D) (s : Str) (h : s ∈ f.signs.map T3.a) : callN P (n + 1) nDay_last [.own (dayD f mf bg rows pd), .val (.str s)] = .ok (.val (.int (lastW f.W rows.zipIdx s)), [.own (dayD f mf bg rows pd), .emp]) := by
  refine eq_of_wp (call_wp PDay_last rfl ?_)
  have e1 := in_fdk (f.signs.map T3.a) (fun s => .int (lastW f.W rows.zipIdx s)) s
  rw [decide_eq_true h] at e1
  have e2 := ix_fdk (f.signs.map T3.a) (fun s => .int (lastW f.W rows.zipIdx s)) s h
  generalize hfd : (fdk (f.signs.map T3.a) fun s => .int (lastW f.W rows.zipIdx s)) = fd at *
  simp [iDay_last, dayD, getK, hfd, e1, e2]
theorem signs_ok {f : Field} (hf : f.Ok) : ∀ s ∈ f.signs.map T3.a, PyData.strOk s = true := fun s hs => hf.posts.names.ok s (f.signs_perm.mem_iff.mp hs)
theorem wp_chronicle (n : Nat) (f : Field) (hf : f.Ok) (mf : Str → D) (bg : Str → Str) (rows : List Going) (pd : D) (hw : ∀ g ∈ rows, g.b ∈ f.folk ∧ g.c ∈ f.wayN) (hr : rows.length ≤ 2000) :
    callN P (n + 4) nchronicle [.own (dayD f mf bg rows pd)] = .ok (.own (.tup ((steps f rows).map Enc.d)), [.own (dayD f mf bg rows pd)]) := by
  refine eq_of_wp (call_wp Pchronicle rfl ?_)
  simp [ichronicle, big]
  rw [show dayD f mf bg rows pd = .ins 1 [0, 1, 2, 3, 4] [f.mD mf, .tup (rows.map Enc.d), pls f.folk bg, pd, fdk (f.signs.map T3.a) fun s => .int (lastW f.W rows.zipIdx s)] from rfl]
  simp [getK, enumD_eq]
  refine loop_wp (fun p : Going × Nat => .tup [.int p.2, Enc.d p.1]) rows.zipIdx (fun pre env => ∃ (j2 j3 j4 j5 : Fm.Slot), env = [.own (dayD f mf bg rows pd), .own (.lst ((stepsOf f rows pre).map Enc.d)), j2, j3, j4, j5, .emp]) (by simp) ⟨_, _, _, _, rfl⟩ (fun pre p post env hx hi => ?_) fun env hi => ?_
  · obtain ⟨j2, j3, j4, j5, rfl⟩ := hi
    obtain ⟨z1, z2, z3⟩ := zip_split hx
    obtain ⟨h1, h2⟩ := hw p.1 (by rw [z3]; simp)
    have hlen : (stepsOf f rows pre).length ≤ pre.length := by unfold stepsOf; rw [List.length_map]; exact List.length_filter_le _ _
    have hpl : pre.length < 2000 := by
      have h1 := congrArg List.length hx
      simp at h1
      omega
    have hWl : (f.W p.1).length ≤ 9 := by
      have h1 := nodup_len (W_nodup hf p.1) fun s hs => Field.W_sub hs
      have h2 := hf.posts.len
      unfold Field.signs at h1
      simp at h1
      omega
    have hstep : stepsOf f rows (pre ++ [p]) = stepsOf f rows pre ++ if stepS f rows p ≠ [] then [mkStep f rows p] else [] := by
      unfold stepsOf
      rw [List.filter_append, List.map_append]
      by_cases c : stepS f rows p ≠ [] <;> simp [c]
    rw [hstep]
    generalize hso : stepsOf f rows pre = so at *
    have hday : dayD f mf bg rows pd = .ins 1 [0, 1, 2, 3, 4] [.ins 0 [5, 6, 7, 8, 9, 10, 11, 12, 13, 14] [.int f.hours, .tup ((sortL f.spots).map .str), .tup ((sortL f.folk).map .str), .tup (f.paths.map Enc.d), .tup (f.gts.map Enc.d), .tup (f.signs.map Enc.d),
      fdk (f.paths.map T3.a) (endD f), fdt (prod (sortL f.folk) f.wayN) (gateF f.hours f.gts), fdt (prod (sortL f.folk) f.wayN) (watchF f.signs), fdk (f.signs.map T3.a) mf], .tup (rows.map Enc.d), pls f.folk bg, pd, fdk (f.signs.map T3.a) fun s => .int (lastW f.W rows.zipIdx s)] := rfl
    simp
    rw [hday]
    simp [getK]
    refine wp_eq (e_watchM _ f mf p.1.b p.1.c h1 h2) ?_
    simp
    refine lc_wp D.str (f.W p.1) (fun s => decide (lastW f.W rows.zipIdx s = p.2)) D.str rfl (by simp [big]; omega) (fun s hs => ?_) ?_
    · simp
      refine wp_eq (e_last _ f mf bg rows pd s (Field.W_sub hs)) ?_
      simp
      by_cases c : lastW f.W rows.zipIdx s = p.2
      · simp [c]
        rfl
      · simp [c]
        rfl
    · rw [show (f.W p.1).filter (fun s => decide (lastW f.W rows.zipIdx s = p.2)) = stepS f rows p from rfl]
      have hok : ∀ s ∈ stepS f rows p, Enc.ok s := fun s hs => signs_ok hf s (Field.W_sub (List.mem_filter.mp hs).1)
      have e := eqT_nil hok
      rw [d_str_fun] at e
      by_cases c : stepS f rows p = []
      · rw [if_neg (by simpa using c), List.append_nil]
        rw [c] at e ⊢
        simp at e
        simp [e, big]
        exact ⟨_, _, _, _, rfl⟩
      · rw [if_pos c]
        simp [e, c, big, frzs_vals]
        refine if_wp (by omega) ?_
        simp
        exact ⟨_, _, _, _, by rw [List.map_append]; rfl⟩
  · obtain ⟨j2, j3, j4, j5, rfl⟩ := hi
    simp
    rfl
end Kx
end

section
set_option Elab.async false
set_option linter.all false
set_option maxRecDepth 10000
set_option autoImplicit false
set_option maxHeartbeats 1000000
/-! the law's own steps -/
namespace Kx
open PySem PySem.W Fm Fm.Sx L2
theorem range_zip {α : Type} (xs : List α) : rangeD 0 xs.length = xs.zipIdx.map fun p => D.int (p.2 : Int) := by
  rw [rangeD_eq]
  have : List.range xs.length = xs.zipIdx.map (·.2) := by
    rw [List.zipIdx_map_snd, List.range_eq_range']
  rw [this, List.map_map]
  refine List.map_congr_left fun p _ => ?_
  show D.int (0 + (p.2 : Int)) = _
  rw [Int.zero_add]
theorem at_zip {xs : List Going} {pre : List (Going × Nat)} {p : Going × Nat} {post : List (Going × Nat)} (e : pre ++ p :: post = xs.zipIdx) : (xs.map Enc.d)[p.2]? = some (Enc.d p.1) := by
  obtain ⟨z1, z2, z3⟩ := zip_split e
  rw [List.getElem?_map, z1, z3, List.getElem?_append_right (by simp)]
  simp
theorem lastW_mem {f : Field} {s : Str} : ∀ (l : List (Going × Nat)), (∃ p ∈ l, s ∈ f.W p.1) → ∃ p ∈ l, s ∈ f.W p.1 ∧ lastW f.W l s = p.2 := by
  intro l
  suffices h : ∀ n, ∀ l : List (Going × Nat), l.length = n → (∃ p ∈ l, s ∈ f.W p.1) → ∃ p ∈ l, s ∈ f.W p.1 ∧ lastW f.W l s = p.2 from h _ l rfl
  intro n
  induction n with
  | zero =>
    intro l hl ⟨p, hp, _⟩
    rw [List.length_eq_zero_iff.mp hl] at hp
    cases hp
  | succ n ih =>
    intro l hl ⟨p, hp, hs⟩
    have hne : l ≠ [] := fun e => by rw [e] at hl; cases hl
    obtain ⟨l0, q, rfl⟩ : ∃ l0 q, l = l0 ++ [q] := ⟨l.dropLast, l.getLast hne, (List.dropLast_concat_getLast hne).symm⟩
    rw [lastW_snoc]
    by_cases c : s ∈ f.W q.1
    · exact ⟨q, by simp, c, by simp [c]⟩
    · have hp0 : p ∈ l0 := by
        rcases List.mem_append.mp hp with h | h
        · exact h
        · rw [List.mem_singleton.mp h] at hs
          exact absurd hs c
      obtain ⟨r, h1, h2, h3⟩ := ih l0 (by simp at hl; omega) ⟨p, hp0, hs⟩
      exact ⟨r, by simp [h1], h2, by simp [c, h3]⟩
theorem zip_idx_inj {α : Type} {xs : List α} {p q : α × Nat} (hp : p ∈ xs.zipIdx) (hq : q ∈ xs.zipIdx) (e : p.2 = q.2) : p = q := by
  obtain ⟨a, i⟩ := p
  obtain ⟨b, j⟩ := q
  have h1 := List.mem_zipIdx_iff_getElem?.mp hp
  have h2 := List.mem_zipIdx_iff_getElem?.mp hq
  simp only at h1 h2 e
  subst e
  rw [h1] at h2
  rw [Option.some.inj h2]
theorem step_eq {f : Field} (hf : f.Ok) {rows : List Going} {ks : List Str} (hnd : ks.Nodup) (hk : ∀ s, s ∈ ks ↔ ∃ p ∈ rows.zipIdx, s ∈ f.W p.1) {p : Going × Nat} (hp : p ∈ rows.zipIdx) : (sortL ks).filter (fun s => decide (lastW f.W rows.zipIdx s = p.2)) = stepS f rows p := by
  refine sorted_eq ?_ ((sortL_sorted _).filter _) ((W_sorted f p.1).filter _)
  refine (List.perm_ext_iff_of_nodup ((sortL_nodup.mpr hnd).sublist List.filter_sublist) ((W_nodup hf p.1).sublist List.filter_sublist)).mpr fun s => ?_
  rw [List.mem_filter, List.mem_filter, sortL_mem, hk]
  constructor
  · rintro ⟨h1, h2⟩
    refine ⟨?_, h2⟩
    obtain ⟨q, q1, q2, q3⟩ := lastW_mem _ h1
    have e : q.2 = p.2 := by
      rw [decide_eq_true_eq, q3] at h2
      omega
    rw [← zip_idx_inj q1 hp e]
    exact q2
  · rintro ⟨h1, h2⟩
    exact ⟨⟨p, hp, h1⟩, h2⟩
theorem keyd_map (ks : List Str) : (ks.map Sum.inr).map Key.d = ks.map D.str := by rw [List.map_map]; rfl
theorem e_steps_of (n : Nat) (f : Field) (hf : f.Ok) (rows : List Going) (hr : rows.length ≤ 2000) (s : Fm.Slot) (hs : IsS s (.lst (rows.map Enc.d))) :
    callN P (n + 2) n_law_steps_of [.own f.d, s] = .ok (.own (.tup ((steps f rows).map Enc.d)), [.own f.d, gv s]) := by
  have main : ∀ pr, pr = [0] ∨ pr = [0, 1] → ∀ k : Kt (Fl × Fm.Env), (∀ j2 j3 j4 j5 j6, k.q (.rt (.own (.tup ((steps f rows).map Enc.d))), [.own f.d, s, j2, j3, j4, j5, j6])) → @R.wp _ (exs P (callN P (n + 1)) pr i_law_steps_of.body [.own f.d, s, .emp, .emp, .emp, .emp, .emp]) k := by
    intro pr hpr k hk
    have p2 : 2 ∉ pr := by rcases hpr with rfl | rfl <;> simp
    have p3 : 3 ∉ pr := by rcases hpr with rfl | rfl <;> simp
    have p4 : 4 ∉ pr := by rcases hpr with rfl | rfl <;> simp
    have p5 : 5 ∉ pr := by rcases hpr with rfl | rfl <;> simp
    have p6 : 6 ∉ pr := by rcases hpr with rfl | rfl <;> simp
    have hl : (if s.isOwn then s else s) = s := by split <;> rfl
    have hsz : smallR (rows.length : Int) = true := by unfold smallR; simp; omega
    have hsd : s.data = some (.lst (rows.map Enc.d)) := by rcases hs with rfl | rfl <;> rfl
    have hsn : ∀ {α : Type} (a : α) (b : α), (match s with | .emp => a | _ => b) = b := fun a b => by rcases hs with rfl | rfl <;> rfl
    have loop1 : ∀ kk : Kt (Fl × Fm.Env), (∀ (ks : List Str) (j3 j5 : Fm.Slot), ks.Nodup → (∀ s, s ∈ ks ↔ ∃ p ∈ rows.zipIdx, s ∈ f.W p.1) → kk.q (.nx, [.own f.d, s, .own (fdk ks fun s => .int (lastW f.W rows.zipIdx s)), j3, .emp, j5, .emp])) →
        @R.wp _ (loop pr (.nm 3) (fun env => exs P (callN P (n + 1)) pr [.for_ (.nm 5) (.e (.call 25 [.nm 0, .ix (.ix (.nm 1) (.nm 3)) (.cn (.int 1)), .ix (.ix (.nm 1) (.nm 3)) (.cn (.int 2))])) [.ssub (.nm 2) (.nm 5) (.nm 3)]] env) (rangeD 0 rows.length) [.own f.d, s, .own (.dk [] []), .emp, .emp, .emp, .emp]) kk := by
      intro kk hkk
      refine loop_wp (fun p : Going × Nat => D.int p.2) rows.zipIdx (fun pre env => ∃ (ks : List Str) (j3 j5 : Fm.Slot), ks.Nodup ∧ (∀ s, s ∈ ks ↔ ∃ p ∈ pre, s ∈ f.W p.1) ∧ env = [.own f.d, s, .own (fdk ks fun s => .int (lastW f.W pre s)), j3, .emp, j5, .emp]) (range_zip rows) ⟨[], _, _, .nil, fun s => by simp, rfl⟩ (fun pre p post env hx hi => ?_) fun env hi => ?_
      · obtain ⟨ks, j3, j5, hnd, hks, rfl⟩ := hi
        have hat := at_zip hx
        have hkl : ks.length ≤ 9 := by
          have h1 := nodup_len (ys := f.signs.map T3.a) hnd fun s hs => by
            obtain ⟨q, _, hq⟩ := (hks s).mp hs
            exact Field.W_sub hq
          have h2 := hf.posts.len
          unfold Field.signs at h1
          simp at h1
          omega
        have hov := e_over n f hf p.1.b p.1.c
        have fin : ∀ kk : Kt (Fl × Fm.Env), (∀ (ks : List Str) (j3 j5 : Fm.Slot), ks.Nodup → (∀ s, s ∈ ks ↔ ∃ q ∈ pre ++ [p], s ∈ f.W q.1) → kk.q (.nx, [.own f.d, s, .own (fdk ks fun s => .int (lastW f.W (pre ++ [p]) s)), j3, .emp, j5, .emp])) →
            @R.wp _ (loop pr (.nm 5) (fun env => exs P (callN P (n + 1)) pr [.ssub (.nm 2) (.nm 5) (.nm 3)] env) ((f.W p.1).map D.str) [.own f.d, s, .own (fdk ks fun s => .int (lastW f.W pre s)), .val (.int p.2), .emp, j5, .emp]) kk := by
          intro kk hkk
          refine loop_wp D.str (f.W p.1) (fun pre2 env => ∃ (ks2 : List Str) (j5 : Fm.Slot), ks2.Nodup ∧ ks2.length ≤ ks.length + pre2.length ∧ (∀ s, s ∈ ks2 ↔ s ∈ ks ∨ s ∈ pre2) ∧ env = [.own f.d, s, .own (fdk ks2 fun s => .int (if s ∈ pre2 then p.2 else lastW f.W pre s)), .val (.int p.2), .emp, j5, .emp]) rfl
            ⟨ks, _, hnd, by simp, fun s => by simp, by simp; rfl⟩ (fun pre2 x post2 env hx2 hi => ?_) fun env hi => ?_
          · obtain ⟨ks2, j5, hnd2, hkl2, hks2, rfl⟩ := hi
            have hwl := nodup_len (W_nodup hf p.1) fun s hs => Field.W_sub hs
            have hpl2 : pre2.length < 9 := by
              have h1 := congrArg List.length hx2
              have h2 := hf.posts.len
              unfold Field.signs at hwl
              simp at h1 hwl
              omega
            simp [p5, hsn]
            refine of_wp (set_fdk ks2 hnd2 (by omega) _ x (.int p.2) false) ?_
            simp
            refine ⟨putS ks2 x, .val (.str x), putS_nodup hnd2, by have := putS_len (ks := ks2) (x := x); simp; omega, fun z => ?_, ?_⟩
            · rw [putS_mem, hks2]
              simp [or_assoc]
            · congr 3
              refine congrArg (fun g => Fm.Slot.own (fdk (putS ks2 x) g)) (funext fun z => ?_)
              unfold updF
              by_cases c : z = x <;> simp [c]
          · obtain ⟨ks2, j5, hnd2, hkl2, hks2, rfl⟩ := hi
            have := hkk ks2 (.val (.int p.2)) j5 hnd2 (fun z => by
              rw [hks2, hks]
              simp [or_and_right, exists_or]) 
            rw [lastW_snoc] at this
            exact this
        rcases hs with rfl | rfl
        all_goals
          simp [p3, hat, Sx.atI_nat]
          refine wp_eq hov ?_
          simp
          refine fin _ fun ks j3 j5 a b => ?_
          simp
          exact ⟨ks, j3, j5, a, b, rfl⟩
      · obtain ⟨ks, j3, j5, hnd, hks, rfl⟩ := hi
        exact hkk ks j3 j5 hnd hks
    have loop2 : ∀ (ks : List Str) (j3 j5 : Fm.Slot), ks.Nodup → (∀ s, s ∈ ks ↔ ∃ p ∈ rows.zipIdx, s ∈ f.W p.1) → ∀ kk : Kt (Fl × Fm.Env), (∀ j3 j6, kk.q (.nx, [.own f.d, s, .own (fdk ks fun s => .int (lastW f.W rows.zipIdx s)), j3, .own (.lst ((steps f rows).map Enc.d)), j5, j6])) →
        @R.wp _ (loop pr (.nm 3) (fun env => exs P (callN P (n + 1)) pr [.asg (.nm 6) (.b1 .tuple (.lc [5] (.nm 5) (.e (.b1 .sorted (.nm 2))) [.cmp .eq (.ix (.nm 2) (.nm 5)) (.nm 3)] (.nm 5))), .ife (.cmp .ne (.nm 6) (.tp [])) [.xp (.app (.nm 4) (.bin .add (.ix (.nm 1) (.nm 3)) (.tp [.nm 6])))] []] env) (rangeD 0 rows.length) [.own f.d, s, .own (fdk ks fun s => .int (lastW f.W rows.zipIdx s)), j3, .own (.lst []), j5, .emp]) kk := by
      intro ks j3 j5 hnd hks kk hkk
      have hkl : ks.length ≤ 9 := by
        have h1 := nodup_len (ys := f.signs.map T3.a) hnd fun s hs => by
          obtain ⟨q, _, hq⟩ := (hks s).mp hs
          exact Field.W_sub hq
        have h2 := hf.posts.len
        unfold Field.signs at h1
        simp at h1
        omega
      refine loop_wp (fun p : Going × Nat => D.int p.2) rows.zipIdx (fun pre env => ∃ (j3 j6 : Fm.Slot), env = [.own f.d, s, .own (fdk ks fun s => .int (lastW f.W rows.zipIdx s)), j3, .own (.lst ((stepsOf f rows pre).map Enc.d)), j5, j6]) (range_zip rows) ⟨_, _, rfl⟩ (fun pre p post env hx hi => ?_) fun env hi => ?_
      · obtain ⟨j3, j6, rfl⟩ := hi
        have hat := at_zip hx
        have hpm : p ∈ rows.zipIdx := by rw [← hx]; simp
        have hlen : (stepsOf f rows pre).length ≤ pre.length := by unfold stepsOf; rw [List.length_map]; exact List.length_filter_le _ _
        have hpl : pre.length < 2000 := by
          have h1 := congrArg List.length hx
          simp at h1
          omega
        have hstep : stepsOf f rows (pre ++ [p]) = stepsOf f rows pre ++ if stepS f rows p ≠ [] then [mkStep f rows p] else [] := by
          unfold stepsOf
          rw [List.filter_append, List.map_append]
          by_cases c : stepS f rows p ≠ [] <;> simp [c]
        have hse := step_eq hf hnd hks hpm
        rw [hstep]
        generalize hso : stepsOf f rows pre = so at *
        have hsort : b1D .sorted (fdk ks fun s => .int (lastW f.W rows.zipIdx s)) = fun _ => some (.tmp (.own (.lst ((sortL ks).map D.str)))) := by
          funext oa
          unfold fdk
          rw [b1_sorted_dk, keyd_map]
          simp
        have hix := ix_fdk ks (fun s => .int (lastW f.W rows.zipIdx s))
        have hok : ∀ s ∈ stepS f rows p, Enc.ok s := fun s hs => signs_ok hf s (Field.W_sub (List.mem_filter.mp hs).1)
        have e := eqT_nil hok
        rw [d_str_fun] at e
        rcases hs with rfl | rfl
        all_goals
          simp [p3, p6, hsort]
          refine lc_wp D.str (sortL ks) (fun s => decide (lastW f.W rows.zipIdx s = p.2)) D.str rfl (by simp [big]; omega) (fun s hs => ?_) ?_
          · simp [hix s (sortL_mem.mp hs)]
            by_cases c : lastW f.W rows.zipIdx s = p.2 <;> simp [c]
          · rw [hse]
            by_cases c : stepS f rows p = []
            · rw [if_neg (by simpa using c), List.append_nil]
              rw [c] at e ⊢
              simp at e
              simp [e, big, p6]
              exact ⟨_, _, rfl⟩
            · rw [if_pos c]
              simp [e, c, big, hat, Sx.atI_nat, p6]
              refine if_wp (by omega) ?_
              simp
              exact ⟨_, _, by rw [List.map_append]; rfl⟩
      · obtain ⟨j3, j6, rfl⟩ := hi
        exact hkk j3 j6
    rcases hs with rfl | rfl
    all_goals
      simp [i_law_steps_of, p2, hsz]
      refine loop1 _ fun ks j3 j5 a b => ?_
      simp [p4, hsz, big]
      refine loop2 ks j3 j5 a b _ fun j3 j6 => ?_
      simp
      exact hk _ _ _ _ _
  rcases hs with rfl | rfl
  · refine eq_of_wp (call_wp P_law_steps_of rfl (main [0] (.inl rfl) _ fun j2 j3 j4 j5 j6 => ?_))
    simp
  · refine eq_of_wp (call_wp P_law_steps_of rfl (main [0, 1] (.inr rfl) _ fun j2 j3 j4 j5 j6 => ?_))
    simp
end Kx
end

section
set_option Elab.async false
set_option linter.all false
set_option maxRecDepth 10000
set_option autoImplicit false
set_option maxHeartbeats 1000000
/-! hours of steps -/
namespace Kx
open PySem PySem.W Fm Fm.Sx L2
def hoursW (l : List Step) : Str → Int := l.foldl (fun acc st s => if s ∈ st.e.items then st.a else acc s) fun _ => 0
theorem hoursW_snoc (l : List Step) (st : Step) : hoursW (l ++ [st]) = fun s => if s ∈ st.e.items then st.a else hoursW l s := by
  unfold hoursW
  rw [List.foldl_append]
  rfl
abbrev sigs (l : List Step) : List Str := l.flatMap fun st => st.e.items
/-- a row, told as a tuple or as a list -/
def IsR (d : D) (l : List Step) : Prop := d = .tup (l.map Enc.d) ∨ d = .lst (l.map Enc.d)
theorem e_zeros (n : Nat) (f : Field) (hf : f.Ok) : callN P (n + 1) n_law_zeros [.own f.d] = .ok (.own (fdk (f.posts.map T3.a) fun _ => .int 0), [.own f.d]) := by
  refine eq_of_wp (call_wp P_law_zeros rfl ?_)
  have hnd := hf.posts.names.nd
  have hl := hf.posts.len
  simp [i_law_zeros, Field.d]
  refine loop_wp Enc.d f.posts (fun pre env => ∃ j2, env = [.own f.d, .own (fdk (pre.map T3.a) fun _ => .int 0), j2]) rfl ⟨_, rfl⟩ (fun pre q post env hx hi => ?_) fun env hi => ?_
  · obtain ⟨j2, rfl⟩ := hi
    have hqp : q.a ∉ pre.map T3.a := by
      rw [← hx, List.map_append, List.nodup_append] at hnd
      exact fun hm => hnd.2.2 _ hm _ List.mem_cons_self rfl
    have hpn : (pre.map T3.a).Nodup := by
      rw [← hx, List.map_append, List.nodup_append] at hnd
      exact hnd.1
    have hpl : pre.length < 9 := by
      have h1 := congrArg List.length hx
      simp at h1
      omega
    have hset := set_fdk (pre.map T3.a) hpn (by rw [List.length_map]; omega) (fun _ => .int 0) q.a (.int 0) false
    rw [show putS (pre.map T3.a) q.a = pre.map T3.a ++ [q.a] by unfold putS; rw [if_neg hqp], show updF (fun _ => D.int 0) q.a (.int 0) = fun _ => D.int 0 from upd_same (fun _ => D.int 0) q.a] at hset
    generalize hks : pre.map T3.a = ks at *
    simp [hset]
    exact ⟨.val (Enc.d q), by rw [List.map_append, hks]; simp⟩
  · obtain ⟨j2, rfl⟩ := hi
    simp [Field.d]
theorem wp_hours_of (n : Nat) (f : Field) (hf : f.Ok) (l : List Step) (hl : ∀ x ∈ sigs l, x ∈ f.posts.map T3.a) (s : Fm.Slot) (hs : IsS s (.tup (l.map Enc.d))) {k : Kt (Fm.Slot × List Fm.Slot)}
    (hk : ∀ s', (s' = .emp ∨ s' = .val (.tup (l.map Enc.d))) → (s.isOwn = true → s' = .val (.tup (l.map Enc.d))) → k.q (.own (fdk (f.posts.map T3.a) fun s => .int (hoursW l s)), [.own f.d, s'])) :
    @R.wp _ (callN P (n + 2) n_law_hours_of [.own f.d, s]) k := by
  have hnd := hf.posts.names.nd
  have hlen := hf.posts.len
  have main : ∀ pr, pr = [0] ∨ pr = [0, 1] → ∀ kk : Kt (Fl × Fm.Env), (∀ j3 j4, kk.q (.rt (.own (fdk (f.posts.map T3.a) fun s => .int (hoursW l s))), [.own f.d, .val (.tup (l.map Enc.d)), .emp, j3, j4])) →
      @R.wp _ (exs P (callN P (n + 1)) pr i_law_hours_of.body [.own f.d, s, .emp, .emp, .emp]) kk := by
    intro pr hpr kk hkk
    have p2 : 2 ∉ pr := by rcases hpr with rfl | rfl <;> simp
    have p3 : 3 ∉ pr := by rcases hpr with rfl | rfl <;> simp
    have p4 : 4 ∉ pr := by rcases hpr with rfl | rfl <;> simp
    have lp : ∀ k2 : Kt (Fl × Fm.Env), (∀ j3 j4, k2.q (.nx, [.own f.d, .val (.tup (l.map Enc.d)), .own (fdk (f.posts.map T3.a) fun s => .int (hoursW l s)), j3, j4])) →
        @R.wp _ (loop pr (.nm 3) (fun env => exs P (callN P (n + 1)) pr [.for_ (.nm 4) (.e (.ix (.nm 3) (.cn (.int 4)))) [.ssub (.nm 2) (.nm 4) (.ix (.nm 3) (.cn (.int 0)))]] env) (l.map Enc.d) [.own f.d, .val (.tup (l.map Enc.d)), .own (fdk (f.posts.map T3.a) fun _ => .int 0), .emp, .emp]) k2 := by
      intro k2 hk2
      refine loop_wp Enc.d l (fun pre env => ∃ j3 j4, env = [.own f.d, .val (.tup (l.map Enc.d)), .own (fdk (f.posts.map T3.a) fun s => .int (hoursW pre s)), j3, j4]) rfl ⟨_, _, rfl⟩ (fun pre st post env hx hi => ?_) fun env hi => ?_
      · obtain ⟨j3, j4, rfl⟩ := hi
        generalize hks : f.posts.map T3.a = ks at *
        have hkl : ks.length ≤ 9 := by rw [← hks, List.length_map]; exact hlen
        simp [p3]
        refine loop_wp D.str st.e.items (fun pre2 env => ∃ j4, env = [.own f.d, .val (.tup (l.map Enc.d)), .own (fdk ks fun s => .int (if s ∈ pre2 then st.a else hoursW pre s)), .val (Enc.d st), j4]) rfl ⟨_, by simp; rfl⟩ (fun pre2 x post2 env hx2 hi => ?_) fun env hi => ?_
        · obtain ⟨j4, rfl⟩ := hi
          have hxk : x ∈ ks := hl x (List.mem_flatMap.mpr ⟨st, by rw [← hx]; simp, by rw [← hx2]; simp⟩)
          simp [p4]
          refine of_wp (set_fdk ks hnd (by omega) _ x (.int st.a) false) ?_
          simp
          refine ⟨.val (.str x), ?_⟩
          rw [show putS ks x = ks by unfold putS; rw [if_pos hxk]]
          congr 3
          refine congrArg (fun g => Fm.Slot.own (fdk ks g)) (funext fun z => ?_)
          unfold updF
          by_cases c : z = x <;> simp [c]
        · obtain ⟨j4, rfl⟩ := hi
          simp
          exact ⟨.val (Enc.d st), j4, by rw [hoursW_snoc]⟩
      · obtain ⟨j3, j4, rfl⟩ := hi
        exact hk2 j3 j4
    rcases hs with rfl | rfl
    all_goals
      simp [i_law_hours_of]
      refine wp_eq (e_zeros _ f hf) ?_
      simp [p2]
      refine lp _ fun j3 j4 => ?_
      simp [p2]
      exact hkk _ _
  rcases hs with rfl | rfl
  · refine call_wp P_law_hours_of rfl (main [0] (.inl rfl) _ fun j3 j4 => ?_)
    simp
    exact hk _ (.inl rfl) fun e => by cases e
  · refine call_wp P_law_hours_of rfl (main [0, 1] (.inr rfl) _ fun j3 j4 => ?_)
    simp
    exact hk _ (.inr rfl) fun e => rfl
theorem wp_no_hours (n : Nat) (f : Field) (hf : f.Ok) (mf : Str → D) {k : Kt (Fm.Slot × List Fm.Slot)} (hk : k.q (.own (fdk (f.signs.map T3.a) fun _ => .int 0), [.emp])) : @R.wp _ (callN P (n + 2) nno_hours [.val (f.mD mf)]) k := by
  have hsl : f.signs.length ≤ 9 := by have := hf.posts.len; unfold Field.signs; simp; omega
  have hsn : (f.signs.map T3.a).Nodup := f.signs_perm.nodup_iff.mpr hf.posts.names.nd
  refine call_wp Pno_hours rfl ?_
  obtain ⟨E6, E7, E8, E9, hm⟩ := f.mD_eq mf
  simp [ino_hours]
  rw [hm]
  simp [getK]
  refine e_names_in _ Enc.d T3.a f.signs (fun x => ⟨_, rfl⟩) (by omega) _ (.inr (.inl rfl)) fun s' => ?_
  generalize hks : f.signs.map T3.a = ks at *
  have hkl : ks.length ≤ 9 := by rw [← hks, List.length_map]; exact hsl
  simp
  refine dc_wp D.str ks Sum.inr (fun _ => .int 0) rfl (by simp [big]; omega) ?_ (fun x hx => by simp) ?_
  · exact List.Pairwise.map _ (fun a b h e => h (inr_inj _ _ e)) hsn
  · simp
    exact hk
theorem wp_step_hours (n : Nat) (f : Field) (hf : f.Ok) (mf : Str → D) (l : List Step) (hll : (sigs l).length ≤ 1000) (d : D) (hd : IsR d l) (s : Fm.Slot) (hs : IsS s d) {k : Kt (Fm.Slot × List Fm.Slot)}
    (h4 : ∀ x ∈ sigs l, x ∉ f.signs.map T3.a → ∀ s', (s.isOwn = true → s' = .val d) → k.e 4 [.str x] [.emp, s']) (h5 : ∀ a x b, sigs l = a ++ x :: b → x ∈ a → ∀ s', (s.isOwn = true → s' = .val d) → k.e 5 [.str x] [.emp, s'])
    (hok : (sigs l).Nodup → (∀ x ∈ sigs l, x ∈ f.signs.map T3.a) → ∀ s', (s.isOwn = true → s' = .val d) → k.q (.own (fdk (f.signs.map T3.a) fun s => .int (hoursW l s)), [.emp, s'])) :
    @R.wp _ (callN P (n + 3) nstep_hours [.val (f.mD mf), s]) k := by
  have hsl : f.signs.length ≤ 9 := by have := hf.posts.len; unfold Field.signs; simp; omega
  have hsn : (f.signs.map T3.a).Nodup := f.signs_perm.nodup_iff.mpr hf.posts.names.nd
  have main : ∀ pr, pr = [] ∨ pr = [1] → ∀ kk : Kt (Fl × Fm.Env), (∀ x ∈ sigs l, x ∉ f.signs.map T3.a → ∀ env, env.getD 1 .emp = .val d → kk.e 4 [.str x] env) → (∀ a x b, sigs l = a ++ x :: b → x ∈ a → ∀ env, env.getD 1 .emp = .val d → kk.e 5 [.str x] env) →
      ((sigs l).Nodup → (∀ x ∈ sigs l, x ∈ f.signs.map T3.a) → ∀ j3 j4 j5 j6 j7, kk.q (.rt (.own (fdk (f.signs.map T3.a) fun s => .int (hoursW l s))), [.val (f.mD mf), .val d, .emp, j3, j4, j5, j6, j7])) →
      @R.wp _ (exs P (callN P (n + 2)) pr istep_hours.body [.val (f.mD mf), s, .emp, .emp, .emp, .emp, .emp, .emp]) kk := by
    intro pr hpr kk g4 g5 gok
    have p2 : 2 ∉ pr := by rcases hpr with rfl | rfl <;> simp
    have p3 : 3 ∉ pr := by rcases hpr with rfl | rfl <;> simp
    have p4 : 4 ∉ pr := by rcases hpr with rfl | rfl <;> simp
    have p5 : 5 ∉ pr := by rcases hpr with rfl | rfl <;> simp
    have p6 : 6 ∉ pr := by rcases hpr with rfl | rfl <;> simp
    have p7 : 7 ∉ pr := by rcases hpr with rfl | rfl <;> simp
    have lp : ∀ k2 : Kt (Fl × Fm.Env), (∀ x ∈ sigs l, x ∉ f.signs.map T3.a → ∀ env, env.getD 1 .emp = .val d → k2.e 4 [.str x] env) → (∀ a x b, sigs l = a ++ x :: b → x ∈ a → ∀ env, env.getD 1 .emp = .val d → k2.e 5 [.str x] env) →
        ((sigs l).Nodup → (∀ x ∈ sigs l, x ∈ f.signs.map T3.a) → ∀ j3 j4 j5 j6 j7, k2.q (.nx, [.val (f.mD mf), .val d, .own (fdk (f.signs.map T3.a) fun s => .int (hoursW l s)), j3, j4, j5, j6, j7])) →
        @R.wp _ (loop pr (.tp [.nm 4, .nm 5, .nm 5, .nm 5, .nm 6]) (fun env => exs P (callN P (n + 2)) pr [.for_ (.nm 7) (.e (.nm 6)) [.ife (.cmp .nin (.nm 7) (.nm 2)) [.raise 4 [.nm 7]] [], .ife (.cmp .inn (.nm 7) (.nm 3)) [.raise 5 [.nm 7]] [], .xp (.app (.nm 3) (.nm 7)), .ssub (.nm 2) (.nm 7) (.nm 4)]] env) (l.map Enc.d) [.val (f.mD mf), .val d, .own (fdk (f.signs.map T3.a) fun _ => .int 0), .own (.lst []), .emp, .emp, .emp, .emp]) k2 := by
      intro k2 e4 e5 eok
      refine loop_wp Enc.d l (fun pre env => ∃ j4 j5 j6 j7, (sigs pre).Nodup ∧ (∀ x ∈ sigs pre, x ∈ f.signs.map T3.a) ∧ env = [.val (f.mD mf), .val d, .own (fdk (f.signs.map T3.a) fun s => .int (hoursW pre s)), .own (.lst ((sigs pre).map .str)), j4, j5, j6, j7]) rfl
        ⟨_, _, _, _, .nil, fun _ h => (List.not_mem_nil h).elim, rfl⟩ (fun pre st post env hx hi => ?_) fun env hi => ?_
      · obtain ⟨j4, j5, j6, j7, hnd, hkn, rfl⟩ := hi
        generalize hks : f.signs.map T3.a = ks at *
        have hkl : ks.length ≤ 9 := by rw [← hks, List.length_map]; exact hsl
        have hsig : sigs l = sigs pre ++ (st.e.items ++ sigs post) := by rw [← hx]; simp [sigs]
        simp [p4, p5, p6]
        refine loop_wp D.str st.e.items (fun pre2 env => ∃ j7, (sigs pre ++ pre2).Nodup ∧ (∀ x ∈ pre2, x ∈ ks) ∧ env = [.val (f.mD mf), .val d, .own (fdk ks fun s => .int (if s ∈ pre2 then st.a else hoursW pre s)), .own (.lst ((sigs pre ++ pre2).map .str)), .val (.int st.a), .val (.str st.d), .val (.tup (st.e.items.map .str)), j7]) rfl
          ⟨_, by simpa using hnd, fun _ h => (List.not_mem_nil h).elim, by simp; rfl⟩ (fun pre2 x post2 env hx2 hi => ?_) fun env hi => ?_
        · obtain ⟨j7, hnd2, hkn2, rfl⟩ := hi
          have hin := in_fdk ks (fun s => .int (if s ∈ pre2 then st.a else hoursW pre s)) x
          have hin3 := inD_strs x (sigs pre ++ pre2)
          have hsplit : sigs l = (sigs pre ++ pre2) ++ x :: (post2 ++ sigs post) := by rw [hsig, ← hx2]; simp
          have hxs : x ∈ sigs l := by rw [hsplit]; simp
          have hlen3 : (sigs pre ++ pre2).length < 1000 := by
            have h1 := congrArg List.length hsplit
            rw [List.length_append, List.length_cons] at h1
            omega
          generalize hS : sigs pre ++ pre2 = S at *
          by_cases c1 : x ∈ ks
          · rw [decide_eq_true c1] at hin
            by_cases c2 : x ∈ S
            · rw [decide_eq_true c2] at hin3
              simp [p7, hin, hin3]
              exact e5 S x _ hsplit c2 _ rfl
            · rw [decide_eq_false c2] at hin3
              simp [p7, hin, hin3, big]
              refine if_wp (by omega) ?_
              simp
              refine of_wp (set_fdk ks hsn (by omega) _ x (.int st.a) false) ?_
              simp
              refine ⟨.val (.str x), ?_, fun y hy => ?_, ?_⟩
              · rw [← List.append_assoc, hS]
                exact nodup_snoc hnd2 c2
              · rcases List.mem_append.mp hy with hy | hy
                · exact hkn2 y hy
                · rw [List.mem_singleton.mp hy]; exact c1
              · rw [show putS ks x = ks by unfold putS; rw [if_pos c1], ← List.append_assoc, hS, List.map_append]
                congr 3
                · refine congrArg (fun g => Fm.Slot.own (fdk ks g)) (funext fun z => ?_)
                  unfold updF
                  by_cases c : z = x <;> simp [c]
          · rw [decide_eq_false c1] at hin
            simp [p7, hin]
            exact e4 x hxs c1 _ rfl
        · obtain ⟨j7, hnd2, hkn2, rfl⟩ := hi
          simp
          refine ⟨.val (.int st.a), .val (.str st.d), .val (.tup (st.e.items.map .str)), j7, ?_, fun y hy => ?_, ?_⟩
          · rw [show sigs (pre ++ [st]) = sigs pre ++ st.e.items by simp [sigs]]
            exact hnd2
          · rw [show sigs (pre ++ [st]) = sigs pre ++ st.e.items by simp [sigs]] at hy
            rcases List.mem_append.mp hy with hy | hy
            · exact hkn y hy
            · exact hkn2 y hy
          · rw [show sigs (pre ++ [st]) = sigs pre ++ st.e.items by simp [sigs], hoursW_snoc]
      · obtain ⟨j4, j5, j6, j7, hnd, hkn, rfl⟩ := hi
        exact eok hnd hkn _ _ _ _ _
    rcases hs with rfl | rfl <;> rcases hd with rfl | rfl
    all_goals
      simp [istep_hours]
      refine wp_no_hours _ f hf mf ?_
      simp [p2, p3, big]
      refine lp _ g4 g5 fun a b j3 j4 j5 j6 j7 => ?_
      simp [p2]
      exact gok a b _ _ _ _ _
  rcases hs with rfl | rfl
  · refine call_wp Pstep_hours rfl (main [] (.inl rfl) _ (fun x a b env _ => h4 x a b _ fun e => by cases e) (fun a x b c e env _ => h5 a x b c e _ fun e => by cases e) fun a b j3 j4 j5 j6 j7 => ?_)
    simp
    exact hok a b _ fun e => by cases e
  · refine call_wp Pstep_hours rfl (main [1] (.inr rfl) _ (fun x a b env h => h4 x a b _ fun _ => h) (fun a x b c e env h => h5 a x b c e _ fun _ => h) fun a b j3 j4 j5 j6 j7 => ?_)
    simp
    exact hok a b _ fun e => rfl
end Kx
end

section
set_option Elab.async false
set_option linter.all false
set_option maxRecDepth 10000
set_option autoImplicit false
set_option maxHeartbeats 1000000
/-! the law's comparisons -/
namespace Kx
open PySem PySem.W Fm Fm.Sx L2
@[simp] theorem eqD_bl (a b : Bool) : eqD (.bl a) (.bl b) = some (decide (a = b)) := by
  rw [eqD_py (a := .bl a) (b := .bl b) rfl rfl (by cases a <;> decide) (by cases b <;> decide)]
  exact congrArg some (Datum.eqv a b)
theorem e_is_number (n : Nat) (i : Int) : callN P (n + 1) n_law_is_number [.val (.int i)] = .ok (.val (.bl true), [.emp]) := by
  apply eq_of_wp
  apply call_wp P_law_is_number rfl
  simp [i_law_is_number]
theorem e_is_going (n : Nat) (i : Int) (a b c : Str) : callN P (n + 2) n_law_is_going [.own (.tup [.int i, .str a, .str b, .str c])] = .ok (.val (.bl true), [.own (.tup [.int i, .str a, .str b, .str c])]) := by
  apply eq_of_wp
  apply call_wp P_law_is_going rfl
  simp [i_law_is_going]
  apply wp_eq (e_is_number _ i)
  simp
theorem e_is_step (n : Nat) (i : Int) (a b c : Str) (l : List Str) (h : l.length ≤ 100000) : callN P (n + 3) n_law_is_step [.val (.tup [.int i, .str a, .str b, .str c, .tup (l.map .str)])] = .ok (.val (.bl true), [.emp]) := by
  apply eq_of_wp
  apply call_wp P_law_is_step rfl
  simp [i_law_is_step]
  apply wp_eq (e_is_going _ i a b c)
  simp
  refine lc_map D.str l (fun _ => .bl true) rfl (by unfold big; exact h) (fun x hx => by simp) ?_
  have := allB_map (fun _ : Str => true) l
  simp [this]
theorem wp_is_row (n : Nat) (l : List Step) (hl : l.length ≤ 2000) (hi : ∀ st ∈ l, st.e.items.length ≤ 100000) : callN P (n + 4) n_law_is_row [.own (.tup (l.map Enc.d))] = .ok (.val (.bl true), [.val (.tup (l.map Enc.d))]) := by
  apply eq_of_wp
  apply call_wp P_law_is_row rfl
  simp [i_law_is_row]
  refine lc_map Enc.d l (fun _ => .bl true) rfl (by simp [big]; omega) (fun st hst => ?_) ?_
  · simp
    apply wp_eq (e_is_step _ st.a st.b st.c st.d st.e.items (hi st hst))
    simp
  · have := allB_map (fun _ : Step => true) l
    simp [this]
/-- data that the law's comparison finds the same as itself -/
def Gd2 : Nat → D → Prop
  | 0, d => (∃ i, d = .int i) ∨ (∃ x, d = .str x) ∨ ∃ b, d = .bl b
  | m + 1, d => Gd2 m d ∨ ∃ xs, (d = .tup xs ∨ d = .lst xs) ∧ xs.length ≤ 100000 ∧ ∀ x ∈ xs, Gd2 m x
def KeepS (s s' : Fm.Slot) (d : D) : Prop := s.isOwn = true → IsS s' d
theorem same_ok : ∀ (m : Nat) (d : D), Gd2 m d → ∀ (n : Nat) (s1 s2 : Fm.Slot), IsS s1 d → IsS s2 d → ∃ a b, KeepS s1 a d ∧ KeepS s2 b d ∧ callN P (n + m + 2) n_law_same [s1, s2] = .ok (.val (.bl true), [a, b]) := by
  have base : ∀ d, ((∃ i, d = .int i) ∨ (∃ x, d = .str x) ∨ ∃ b, d = .bl b) → ∀ (n : Nat) (s1 s2 : Fm.Slot), IsS s1 d → IsS s2 d → callN P (n + 2) n_law_same [s1, s2] = .ok (.val (.bl true), [gv s1, gv s2]) := by
    intro d hd n s1 s2 h1 h2
    rcases hd with ⟨i, rfl⟩ | ⟨x, rfl⟩ | ⟨b, rfl⟩
    · rcases h1 with rfl | rfl <;> rcases h2 with rfl | rfl
      all_goals
        apply eq_of_wp
        apply call_wp P_law_same rfl
        simp [i_law_same]
        first
        | apply wp_eq (e_is_number _ i)
          simp
        | apply wp_eq (show callN P (n + 1) n_law_is_number [.own (.int i)] = .ok (.val (.bl true), [.own (.int i)]) from eq_of_wp (call_wp P_law_is_number rfl (by simp [i_law_is_number])))
          simp
    · rcases h1 with rfl | rfl <;> rcases h2 with rfl | rfl
      all_goals
        apply eq_of_wp
        apply call_wp P_law_same rfl
        simp [i_law_same]
    · rcases h1 with rfl | rfl <;> rcases h2 with rfl | rfl <;> cases b
      all_goals
        apply eq_of_wp
        apply call_wp P_law_same rfl
        simp [i_law_same]
  have gk : ∀ (s : Fm.Slot) (d : D), IsS s d → KeepS s (gv s) d := fun s d h e => by
    rcases h with rfl | rfl
    · cases e
    · exact .inr rfl
  intro m
  induction m with
  | zero => exact fun d hd n s1 s2 h1 h2 => ⟨_, _, gk _ _ h1, gk _ _ h2, base d hd n s1 s2 h1 h2⟩
  | succ m ih =>
    intro d hd n s1 s2 h1 h2
    rcases hd with hd | ⟨xs, hx, hl, hg⟩
    · have := ih d hd (n + 1) s1 s2 h1 h2
      rw [show n + 1 + m + 2 = n + (m + 1) + 2 by omega] at this
      exact this
    · refine ⟨_, _, gk _ _ h1, gk _ _ h2, ?_⟩
      have hat : ∀ p ∈ xs.zipIdx, xs[p.2]? = some p.1 := fun p hp => List.mem_zipIdx_iff_getElem?.mp hp
      have hmem : ∀ p ∈ xs.zipIdx, p.1 ∈ xs := fun p hp => List.mem_of_getElem? (hat p hp)
      have hrange : rangeD 0 xs.length = xs.zipIdx.map fun p => D.int (p.2 : Int) := by
        rw [rangeD_eq, List.range_eq_range', ← List.zipIdx_map_snd 0 xs, List.map_map]
        refine List.map_congr_left fun p _ => ?_
        show D.int (0 + (p.2 : Int)) = _
        rw [Int.zero_add]
      have hsz : smallR (xs.length : Int) = true := by unfold smallR; simp; omega
      have hall := allB_map (fun _ : D × Nat => true) xs.zipIdx
      rcases hx with rfl | rfl <;> rcases h1 with rfl | rfl <;> rcases h2 with rfl | rfl
      all_goals
        apply eq_of_wp
        apply call_wp (n := n + m + 2) P_law_same rfl
        simp [i_law_same, hsz, hrange]
        refine lc_map (fun p : D × Nat => D.int (p.2 : Int)) xs.zipIdx (fun _ => .bl true) rfl (by simp [big]; omega) (fun p hp => ?_) ?_
        · obtain ⟨a, b, _, _, e⟩ := ih p.1 (hg p.1 (hmem p hp)) n (.val p.1) (.val p.1) (.inl rfl) (.inl rfl)
          simp [Sx.atI_nat, hat p hp]
          apply wp_eq e
          simp
        · simp [hall]
theorem e_same_dk (n : Nat) (ks1 ks2 : List Str) (g : Str → Int) (hp : ∀ x, x ∈ ks2 → x ∈ ks1) (hl : ks1.length = ks2.length) (hl2 : ks2.length ≤ 1000) (s1 s2 : Fm.Slot) (h1 : IsS s1 (fdk ks1 fun s => .int (g s))) (h2 : IsS s2 (fdk ks2 fun s => .int (g s))) {k : Kt (Fm.Slot × List Fm.Slot)}
    (hk : ∀ b, KeepS s2 b (fdk ks2 fun s => .int (g s)) → k.q (.val (.bl true), [gv s1, b])) : @R.wp _ (callN P (n + 3) n_law_same [s1, s2]) k := by
  have hall := allB_map (fun _ : Str => true) ks2
  rw [show ks2.all (fun _ => true) = true by simp] at hall
  apply call_wp P_law_same rfl
  rcases h2 with rfl | rfl <;> rcases h1 with rfl | rfl
  all_goals
    rw [show (fdk ks2 fun s => D.int (g s)) = .dk (ks2.map Sum.inr) (ks2.map fun s => .int (g s)) from rfl] at hk ⊢
    rw [show (fdk ks1 fun s => D.int (g s)) = .dk (ks1.map Sum.inr) (ks1.map fun s => .int (g s)) from rfl] at hk ⊢
    simp [i_law_same, hl]
    refine lc_map D.str ks2 (fun _ => .bl true) rfl (by simp [big]; omega) (fun x hx => ?_) ?_
    · have a1 := dk_get ks1 (fun s => .int (g s)) x (hp x hx)
      have a2 := dk_has ks1 x
      rw [decide_eq_true (hp x hx)] at a2
      have a3 := dk_get ks2 (fun s => .int (g s)) x hx
      obtain ⟨a, b, _, _, e⟩ := same_ok 0 (.int (g x)) (.inl ⟨_, rfl⟩) n (.val (.int (g x))) (.val (.int (g x))) (.inl rfl) (.inl rfl)
      simp [a1, a2, a3]
      apply wp_eq e
      simp
    · simp [hall]
      first
      | exact hk _ (fun _ => .inl rfl)
      | exact hk _ (fun e => nomatch (show false = true from e))
end Kx
end

section
set_option Elab.async false
set_option linter.all false
set_option maxRecDepth 10000
set_option autoImplicit false
set_option maxHeartbeats 1000000
/-! what signs show; the law's look at a day -/
namespace Kx
open PySem PySem.W Fm Fm.Sx L2
def markW (l : List Step) (s : Str) : Going := l.foldl (fun acc st => if s ∈ st.e.items then ⟨st.a, st.b, st.c, st.d⟩ else acc) oldM
theorem markW_snoc (l : List Step) (st : Step) (s : Str) : markW (l ++ [st]) s = if s ∈ st.e.items then ⟨st.a, st.b, st.c, st.d⟩ else markW l s := by
  unfold markW
  rw [List.foldl_append]
  rfl
theorem hours_mark (s : Str) : ∀ l : List Step, hoursW l s = (markW l s).a := by
  intro l
  suffices h : ∀ (l : List Step) (a : Str → Int) (b : Going), a s = b.a → (l.foldl (fun acc st s => if s ∈ st.e.items then st.a else acc s) a) s = (l.foldl (fun acc st => if s ∈ st.e.items then (⟨st.a, st.b, st.c, st.d⟩ : Going) else acc) b).a from h l _ _ rfl
  intro l
  induction l with
  | nil => exact fun a b h => h
  | cons x l ih =>
    intro a b h
    rw [List.foldl_cons, List.foldl_cons]
    refine ih _ _ ?_
    by_cases c : s ∈ x.e.items <;> simp [c, h]
def shownF (f : Field) (rows : List Going) (s : Str) : Going := if lastW f.W rows.zipIdx s < 0 then oldM else rows.getD (lastW f.W rows.zipIdx s).toNat oldM
theorem lastW_none {W : Going → List Str} {s : Str} {l : List (Going × Nat)} (h : ∀ p ∈ l, s ∉ W p.1) : lastW W l s = -1 := by
  unfold lastW
  suffices g : ∀ (l : List (Going × Nat)) (a : Str → Int), (∀ p ∈ l, s ∉ W p.1) → (l.foldl (fun acc p s => if s ∈ W p.1 then (p.2 : Int) else acc s) a) s = a s from g l _ h
  intro l
  induction l with
  | nil => exact fun a _ => rfl
  | cons x l ih =>
    intro a h
    rw [List.foldl_cons, ih _ fun p hp => h p (List.mem_cons_of_mem _ hp)]
    rw [if_neg (h x List.mem_cons_self)]
theorem fold_keep {α β : Type} {C : α → Prop} [DecidablePred C] {F : α → β} {q : α} : ∀ {l : List α}, (∀ p ∈ l, C p → p = q) → l.foldl (fun acc p => if C p then F p else acc) (F q) = F q
  | [], _ => rfl
  | x :: l, h => by
    rw [List.foldl_cons]
    by_cases c : C x
    · rw [if_pos c, h x List.mem_cons_self c]
      exact fold_keep fun p hp => h p (List.mem_cons_of_mem _ hp)
    · rw [if_neg c]
      exact fold_keep fun p hp => h p (List.mem_cons_of_mem _ hp)
theorem fold_one {α β : Type} {C : α → Prop} [DecidablePred C] {F : α → β} {q : α} (hc : C q) : ∀ {l : List α} (a : β), (∀ p ∈ l, C p → p = q) → q ∈ l → l.foldl (fun acc p => if C p then F p else acc) a = F q
  | [], _, _, h => by cases h
  | x :: l, a, h, hq => by
    rw [List.foldl_cons]
    by_cases c : C x
    · rw [if_pos c, h x List.mem_cons_self c]
      exact fold_keep fun p hp => h p (List.mem_cons_of_mem _ hp)
    · rw [if_neg c]
      rcases List.mem_cons.mp hq with e | hq
      · exact absurd (e ▸ hc) c
      · exact fold_one hc a (fun p hp => h p (List.mem_cons_of_mem _ hp)) hq
theorem fold_none {α β : Type} {C : α → Prop} [DecidablePred C] {F : α → β} : ∀ {l : List α} (a : β), (∀ p ∈ l, ¬ C p) → l.foldl (fun acc p => if C p then F p else acc) a = a
  | [], _, _ => rfl
  | x :: l, a, h => by
    rw [List.foldl_cons, if_neg (h x List.mem_cons_self)]
    exact fold_none a fun p hp => h p (List.mem_cons_of_mem _ hp)
theorem stepS_mem {f : Field} {rows : List Going} {p : Going × Nat} {s : Str} : s ∈ stepS f rows p ↔ s ∈ f.W p.1 ∧ lastW f.W rows.zipIdx s = p.2 := by
  unfold stepS
  rw [List.mem_filter, decide_eq_true_eq]
theorem stepsOf_cons (f : Field) (rows : List Going) (p : Going × Nat) (l : List (Going × Nat)) : stepsOf f rows (p :: l) = if stepS f rows p ≠ [] then mkStep f rows p :: stepsOf f rows l else stepsOf f rows l := by
  unfold stepsOf
  rw [List.filter_cons]
  by_cases c : stepS f rows p ≠ [] <;> simp [c]
theorem mark_fold (f : Field) (rows : List Going) (s : Str) : ∀ (l : List (Going × Nat)) (a : Going), (stepsOf f rows l).foldl (fun acc st => if s ∈ st.e.items then (⟨st.a, st.b, st.c, st.d⟩ : Going) else acc) a = l.foldl (fun acc p => if s ∈ f.W p.1 ∧ lastW f.W rows.zipIdx s = p.2 then p.1 else acc) a
  | [], _ => rfl
  | p :: l, a => by
    rw [stepsOf_cons, List.foldl_cons]
    by_cases c : stepS f rows p ≠ []
    · rw [if_pos c, List.foldl_cons, mark_fold f rows s l]
      congr 1
      by_cases d : s ∈ f.W p.1 ∧ lastW f.W rows.zipIdx s = p.2
      · rw [if_pos d, if_pos (show s ∈ (mkStep f rows p).e.items from stepS_mem.mpr d)]
        rfl
      · rw [if_neg d, if_neg (show s ∉ (mkStep f rows p).e.items from fun h => d (stepS_mem.mp h))]
    · rw [if_neg c, mark_fold f rows s l]
      have : ¬ (s ∈ f.W p.1 ∧ lastW f.W rows.zipIdx s = p.2) := fun d => c (List.ne_nil_of_mem (stepS_mem.mpr d))
      rw [if_neg this]
theorem mark_shown (f : Field) (rows : List Going) (s : Str) : markW (steps f rows) s = shownF f rows s := by
  unfold markW
  rw [mark_fold]
  by_cases h : ∃ p ∈ rows.zipIdx, s ∈ f.W p.1
  · obtain ⟨q, q1, q2, q3⟩ := lastW_mem _ h
    rw [fold_one (C := fun p : Going × Nat => s ∈ f.W p.1 ∧ lastW f.W rows.zipIdx s = p.2) (F := fun p : Going × Nat => p.1) (q := q) ⟨q2, q3⟩ oldM (fun p hp c => zip_idx_inj hp q1 (by have := c.2; rw [q3] at this; omega)) q1]
    unfold shownF
    rw [q3, if_neg (by omega), show ((q.2 : Int)).toNat = q.2 from rfl, List.getD_eq_getElem?_getD, List.mem_zipIdx_iff_getElem?.mp q1]
    rfl
  · have h' : ∀ p ∈ rows.zipIdx, s ∉ f.W p.1 := fun p hp hs => h ⟨p, hp, hs⟩
    rw [fold_none (C := fun p : Going × Nat => s ∈ f.W p.1 ∧ lastW f.W rows.zipIdx s = p.2) (F := fun p : Going × Nat => p.1) oldM fun p hp c => h' p hp c.1]
    unfold shownF
    rw [lastW_none h', if_pos (by omega)]
theorem sigs_cons (f : Field) (rows : List Going) (p : Going × Nat) (l : List (Going × Nat)) : sigs (stepsOf f rows (p :: l)) = stepS f rows p ++ sigs (stepsOf f rows l) := by
  rw [stepsOf_cons]
  by_cases c : stepS f rows p ≠ []
  · rw [if_pos c]
    rfl
  · rw [if_neg c, show stepS f rows p = [] by simpa using c]
    rfl
theorem sigs_mem {f : Field} {rows : List Going} {s : Str} : ∀ {l : List (Going × Nat)}, s ∈ sigs (stepsOf f rows l) ↔ ∃ p ∈ l, s ∈ stepS f rows p
  | [] => by simp [stepsOf, sigs]
  | p :: l => by
    rw [sigs_cons, List.mem_append, sigs_mem]
    simp
theorem sigs_nodup {f : Field} (hf : f.Ok) (rows : List Going) : ∀ {l : List (Going × Nat)}, (l.map (·.2)).Nodup → (sigs (stepsOf f rows l)).Nodup
  | [], _ => .nil
  | p :: l, h => by
    obtain ⟨n1, n2⟩ := List.nodup_cons.mp h
    rw [sigs_cons, List.nodup_append]
    refine ⟨(W_nodup hf p.1).sublist List.filter_sublist, sigs_nodup hf rows n2, fun a ha b hb e => ?_⟩
    subst e
    obtain ⟨q, hq, hqs⟩ := sigs_mem.mp hb
    have h1 := (stepS_mem.mp ha).2
    have h2 := (stepS_mem.mp hqs).2
    exact n1 (List.mem_map.mpr ⟨q, hq, by show q.2 = p.2; omega⟩)
theorem steps_nodup {f : Field} (hf : f.Ok) (rows : List Going) : (sigs (steps f rows)).Nodup := sigs_nodup hf rows (by rw [List.zipIdx_map_snd]; exact List.nodup_range')
theorem steps_sub {f : Field} {rows : List Going} {s : Str} (h : s ∈ sigs (steps f rows)) : s ∈ f.signs.map T3.a := by
  obtain ⟨p, _, hp⟩ := sigs_mem.mp h
  exact Field.W_sub (stepS_mem.mp hp).1
theorem steps_sigl {f : Field} (hf : f.Ok) (rows : List Going) : (sigs (steps f rows)).length ≤ 9 := by
  have h1 := nodup_len (steps_nodup hf rows) fun s hs => steps_sub hs
  have h2 := hf.posts.len
  unfold Field.signs at h1
  simp at h1
  have : (sigs (steps f rows)).length = (List.map (fun a => a.e.items.length) (steps f rows)).sum := by simp [sigs]
  omega
theorem steps_len (f : Field) (rows : List Going) : (steps f rows).length ≤ rows.length := by
  unfold steps stepsOf
  rw [List.length_map]
  have := List.length_filter_le (fun p => decide (stepS f rows p ≠ [])) rows.zipIdx
  simpa using this
theorem mem_sigs {l : List Step} {st : Step} {s : Str} (h : st ∈ l) (hs : s ∈ st.e.items) : s ∈ sigs l := List.mem_flatMap.mpr ⟨st, h, hs⟩
theorem item_len {l : List Step} {st : Step} (h : st ∈ l) : st.e.items.length ≤ (sigs l).length := by
  obtain ⟨a, b, rfl⟩ := List.append_of_mem h
  simp [sigs]
  omega
theorem gd_going (g : Going) : Gd2 1 (Enc.d g) := .inr ⟨_, .inl rfl, by simp, fun x hx => by
  simp at hx
  rcases hx with rfl | rfl | rfl | rfl
  · exact .inl ⟨_, rfl⟩
  · exact .inr (.inl ⟨_, rfl⟩)
  · exact .inr (.inl ⟨_, rfl⟩)
  · exact .inr (.inl ⟨_, rfl⟩)⟩
theorem gd_steps (l : List Step) (h : l.length ≤ 2000) (hi : ∀ st ∈ l, st.e.items.length ≤ 100000) : Gd2 3 (.tup (l.map Enc.d)) := .inr ⟨_, .inl rfl, by simp; omega, fun x hx => by
  obtain ⟨st, hst, rfl⟩ := List.mem_map.mp hx
  refine .inr ⟨_, .inl rfl, by simp, fun y hy => ?_⟩
  simp at hy
  rcases hy with rfl | rfl | rfl | rfl | rfl
  · exact .inl (.inl ⟨_, rfl⟩)
  · exact .inl (.inr (.inl ⟨_, rfl⟩))
  · exact .inl (.inr (.inl ⟨_, rfl⟩))
  · exact .inl (.inr (.inl ⟨_, rfl⟩))
  · refine .inr ⟨_, .inl rfl, by simpa using hi st hst, fun z hz => ?_⟩
    simp at hz
    obtain ⟨w, _, rfl⟩ := hz
    exact .inr (.inl ⟨_, rfl⟩)⟩
theorem e_shown (n : Nat) (f : Field) (mf : Str → D) (bg : Str → Str) (rows : List Going) (pd : D) (s : Str) (h : s ∈ f.signs.map T3.a) : callN P (n + 2) nDay_shown [.own (dayD f mf bg rows pd), .val (.str s)] = .ok (.val (Enc.d (shownF f rows s)), [.own (dayD f mf bg rows pd), .emp]) := by
  apply eq_of_wp
  apply call_wp PDay_shown rfl
  have hday : dayD f mf bg rows pd = .ins 1 [0, 1, 2, 3, 4] [f.mD mf, .tup (rows.map Enc.d), pls f.folk bg, pd, fdk (f.signs.map T3.a) fun s => .int (lastW f.W rows.zipIdx s)] := rfl
  have hl := e_last n f mf bg rows pd s h
  rw [hday] at hl ⊢
  simp [iDay_shown]
  apply wp_eq hl
  have hcase : shownF f rows s = if lastW f.W rows.zipIdx s < 0 then oldM else rows.getD (lastW f.W rows.zipIdx s).toNat oldM := rfl
  rw [hcase]
  by_cases c : lastW f.W rows.zipIdx s < 0
  · simp [c]
    exact ⟨rfl, rfl, rfl, rfl⟩
  · have hq : ∃ p ∈ rows.zipIdx, s ∈ f.W p.1 := by
      apply Classical.byContradiction
      intro hn
      exact c (by rw [lastW_none fun p hp hs => hn ⟨p, hp, hs⟩]; omega)
    obtain ⟨q, q1, q2, q3⟩ := lastW_mem _ hq
    have hat := List.mem_zipIdx_iff_getElem?.mp q1
    have c2 : ¬ ((q.2 : Int) < 0) := by omega
    rw [q3]
    simp [getK, q3, Sx.atI_nat, hat, c2]
end Kx
end

section
set_option Elab.async false
set_option linter.all false
set_option maxRecDepth 10000
set_option autoImplicit false
set_option maxHeartbeats 1000000
/-! the law's look at a day finds it right -/
namespace Kx
open PySem PySem.W Fm Fm.Sx L2
theorem signs_same {f : Field} {x : Str} : x ∈ f.posts.map T3.a ↔ x ∈ f.signs.map T3.a := f.signs_perm.mem_iff.symm
theorem signs_len (f : Field) : (f.signs.map T3.a).length = (f.posts.map T3.a).length := f.signs_perm.length_eq
@[simp] theorem itemsOf_fdk (ks : List Str) (g : Str → D) : itemsOf (fdk ks g) = some (ks.map D.str) := by
  unfold fdk
  rw [itemsOf_dk, keyd_map]
theorem wp_right (n : Nat) (f : Field) (hf : f.Ok) (mf : Str → D) (bg : Str → Str) (rows : List Going) (pd : D) (hw : ∀ g ∈ rows, g.b ∈ f.folk ∧ g.c ∈ f.wayN) (hr : rows.length ≤ 2000) (s : Fm.Slot) (hs : IsS s (.lst (rows.map Enc.d))) {k : Kt (Fm.Slot × List Fm.Slot)}
    (hk : k.q (.val (.bl true), [.own f.d, .emp, .own (dayD f mf bg rows pd), gv s])) :
    @R.wp _ (callN P (n + 6) n_law_right [.own f.d, .val (f.mD mf), .own (dayD f mf bg rows pd), s]) k := by
  have hlen : (steps f rows).length ≤ 2000 := Nat.le_trans (steps_len f rows) hr
  have hit : ∀ st ∈ steps f rows, st.e.items.length ≤ 100000 := fun st h => by
    have := item_len h
    have := steps_sigl hf rows
    omega
  have e7 := e_steps_of (n + 3) f hf rows hr s hs
  have e26 := wp_chronicle (n + 1) f hf mf bg rows pd hw hr
  have e27 := wp_is_row (n + 1) (steps f rows) hlen hit
  have hnn : ∀ x ∈ sigs (steps f rows), x ∈ f.signs.map T3.a := fun x h => steps_sub h
  have hsgl := steps_sigl hf rows
  have hsame := same_ok 3 (.tup ((steps f rows).map Enc.d)) (gd_steps _ hlen hit) n
  have hstnd := steps_nodup hf rows
  have hmk : ∀ x, markW (steps f rows) x = shownF f rows x := mark_shown f rows
  have hgv : gv s = if s.isOwn then s else .emp := rfl
  have main : ∀ pr, pr = [0, 2] ∨ pr = [0, 2, 3] → ∀ kk : Kt (Fl × Fm.Env), (∀ j4 j5 j6 j7 j8 j9 j10 j11, kk.q (.rt (.val (.bl true)), [.own f.d, .val (f.mD mf), .own (dayD f mf bg rows pd), s, j4, j5, j6, j7, j8, j9, j10, j11])) →
      @R.wp _ (exs P (callN P (n + 5)) pr i_law_right.body [.own f.d, .val (f.mD mf), .own (dayD f mf bg rows pd), s, .emp, .emp, .emp, .emp, .emp, .emp, .emp, .emp]) kk := by
    intro pr hpr kk hkk
    have p4 : 4 ∉ pr := by rcases hpr with rfl | rfl <;> simp
    have p5 : 5 ∉ pr := by rcases hpr with rfl | rfl <;> simp
    have p6 : 6 ∉ pr := by rcases hpr with rfl | rfl <;> simp
    have p7 : 7 ∉ pr := by rcases hpr with rfl | rfl <;> simp
    have p8 : 8 ∉ pr := by rcases hpr with rfl | rfl <;> simp
    have p9 : 9 ∉ pr := by rcases hpr with rfl | rfl <;> simp
    have p10 : 10 ∉ pr := by rcases hpr with rfl | rfl <;> simp
    have p11 : 11 ∉ pr := by rcases hpr with rfl | rfl <;> simp
    generalize hst : steps f rows = ss at *
    -- the signs' loop
    have lp : ∀ (s4 j5 : Fm.Slot), IsS s4 (.tup (ss.map Enc.d)) → ∀ k2 : Kt (Fl × Fm.Env), (∀ s4 j6 j10 j11, IsS s4 (.tup (ss.map Enc.d)) → k2.q (.nx, [.own f.d, .val (f.mD mf), .own (dayD f mf bg rows pd), s, s4, j5, j6, .emp, .emp, .emp, j10, j11])) →
        @R.wp _ (loop pr (.nm 6) (fun env => exs P (callN P (n + 5)) pr [.asg (.nm 10) (.tp [.cn (.int 0), .cn (.str ""), .cn (.str ""), .cn (.str "")]), .for_ (.nm 11) (.e (.nm 4)) [.ife (.cmp .inn (.ix (.nm 6) (.cn (.int 0))) (.ix (.nm 11) (.cn (.int 4)))) [.asg (.nm 10) (.sl (.nm 11) [] [.cn (.int 4)])] []], .ife (.nt (.call 10 [.meth 0 (.nm 2) [.ix (.nm 6) (.cn (.int 0))], .nm 10])) [.ret (.cn (.bl false))] []] env) (f.posts.map Enc.d)
          [.own f.d, .val (f.mD mf), .own (dayD f mf bg rows pd), s, s4, j5, .emp, .emp, .emp, .emp, .emp, .emp]) k2 := by
      intro s4 j5 hs4 k2 hk2
      refine loop_wp Enc.d f.posts (fun pre env => ∃ s4 j6 j10 j11, IsS s4 (.tup (ss.map Enc.d)) ∧ env = [.own f.d, .val (f.mD mf), .own (dayD f mf bg rows pd), s, s4, j5, j6, .emp, .emp, .emp, j10, j11]) rfl ⟨_, _, _, _, hs4, rfl⟩ (fun pre q post env hx hi => ?_) fun env hi => ?_
      · obtain ⟨s4, j6, j10, j11, hs4, rfl⟩ := hi
        have hq : q.a ∈ f.signs.map T3.a := signs_same.mp (List.mem_map.mpr ⟨q, by rw [← hx]; simp, rfl⟩)
        have esh := e_shown (n + 3) f mf bg rows pd q.a hq
        have inner : ∀ k3 : Kt (Fl × Fm.Env), (∀ j11, k3.q (.nx, [.own f.d, .val (f.mD mf), .own (dayD f mf bg rows pd), s, .val (.tup (ss.map Enc.d)), j5, .val (Enc.d q), .emp, .emp, .emp, .own (Enc.d (shownF f rows q.a)), j11])) →
            @R.wp _ (loop pr (.nm 11) (fun env => exs P (callN P (n + 5)) pr [.ife (.cmp .inn (.ix (.nm 6) (.cn (.int 0))) (.ix (.nm 11) (.cn (.int 4)))) [.asg (.nm 10) (.sl (.nm 11) [] [.cn (.int 4)])] []] env) (ss.map Enc.d)
              [.own f.d, .val (f.mD mf), .own (dayD f mf bg rows pd), s, .val (.tup (ss.map Enc.d)), j5, .val (Enc.d q), .emp, .emp, .emp, .own (Enc.d oldM), j11]) k3 := by
          intro k3 hk3
          refine loop_wp Enc.d ss (fun pre env => ∃ j11, env = [.own f.d, .val (f.mD mf), .own (dayD f mf bg rows pd), s, .val (.tup (ss.map Enc.d)), j5, .val (Enc.d q), .emp, .emp, .emp, .own (Enc.d (markW pre q.a)), j11]) rfl ⟨_, rfl⟩ (fun pre st post env hx hi => ?_) fun env hi => ?_
          · obtain ⟨j11, rfl⟩ := hi
            have hm := markW_snoc pre st q.a
            simp [p11]
            by_cases c : q.a ∈ st.e.items
            · rw [if_pos c] at hm
              simp [c, p10]
              exact ⟨.val (Enc.d st), by rw [hm]; rfl⟩
            · rw [if_neg c] at hm
              simp [c]
              exact ⟨.val (Enc.d st), by rw [hm]; rfl⟩
          · obtain ⟨j11, rfl⟩ := hi
            rw [hmk]
            exact hk3 _
        obtain ⟨a, b, ha, hb, esame⟩ := same_ok 1 (Enc.d (shownF f rows q.a)) (gd_going _) (n + 2) (.val (Enc.d (shownF f rows q.a))) (.own (Enc.d (shownF f rows q.a))) (.inl rfl) (.inr rfl)
        have hbs := hb rfl
        generalize shownF f rows q.a = sh at *
        rw [show dayD f mf bg rows pd = .ins 1 [0, 1, 2, 3, 4] [f.mD mf, .tup (rows.map Enc.d), pls f.folk bg, pd, fdk (f.signs.map T3.a) fun s => .int (lastW f.W rows.zipIdx s)] from rfl] at esh inner ⊢
        rcases hs4 with rfl | rfl
        all_goals
          simp [p6, p10, big]
          refine inner _ fun j11 => ?_
          simp
          apply wp_eq esh
          simp at esame
          simp
          apply wp_eq esame
          simp
          exact ⟨_, _, _, _, .inl rfl, rfl⟩
      · obtain ⟨s4, j6, j10, j11, hs4, rfl⟩ := hi
        exact hk2 _ _ _ _ hs4
    rcases hs with rfl | rfl
    all_goals
      simp [i_law_right]
      apply wp_eq e7
      simp [p4]
      apply wp_eq e26
      simp [p5]
      apply wp_eq e27
      obtain ⟨a, b, ha, hb, esame⟩ := hsame (.val (.tup (ss.map Enc.d))) (.own (.tup (ss.map Enc.d))) (.inl rfl) (.inr rfl)
      have hbs := hb rfl
      simp
      apply wp_eq esame
      simp [Field.d]
      refine lp b (.val (.tup (ss.map Enc.d))) hbs _ fun s4 j6 j10 j11 hs4 => ?_
      have gS : ∀ k5 : Kt (Fm.Slot × List Fm.Slot), ∀ d s, IsR d ss → IsS s d → (∀ s', k5.q (.own (fdk (f.signs.map T3.a) fun s => .int (hoursW ss s)), [.emp, s'])) → @R.wp _ (callN P (n + 5) nstep_hours [.val (f.mD mf), s]) k5 := fun k5 d s hd hsd h5 =>
        wp_step_hours (n + 2) f hf mf ss (by omega) d hd s hsd (fun x hx hx2 _ _ => absurd (hnn x hx) hx2) (fun a x b e hxa _ _ => by
          rw [e, List.nodup_append] at hstnd
          exact absurd rfl (hstnd.2.2 x hxa x List.mem_cons_self)) fun _ _ s' _ => h5 s'
      have gD : ∀ (k5 : Kt (Fm.Slot × List Fm.Slot)) (s2 : Fm.Slot), IsS s2 (fdk (f.posts.map T3.a) fun s => .int (hoursW ss s)) → (∀ b, KeepS s2 b (fdk (f.posts.map T3.a) fun s => .int (hoursW ss s)) → k5.q (.val (.bl true), [.own (fdk (f.signs.map T3.a) fun s => .int (hoursW ss s)), b])) →
          @R.wp _ (callN P (n + 5) n_law_same [.own (fdk (f.signs.map T3.a) fun s => .int (hoursW ss s)), s2]) k5 := fun k5 s2 h2 h5 =>
        e_same_dk (n + 2) _ _ (hoursW ss) (fun x hx => signs_same.mp hx) (signs_len f) (by have := hf.posts.len; rw [List.length_map]; omega) _ s2 (.inr rfl) h2 fun b hb => h5 b hb
      have hpn := hf.posts.names.nd
      have hsn : (f.signs.map T3.a).Nodup := f.signs_perm.nodup_iff.mpr hpn
      have hsl : (f.signs.map T3.a).length ≤ 9 := by rw [signs_len, List.length_map]; exact hf.posts.len
      have hps : ∀ x ∈ f.posts.map T3.a, x ∈ f.signs.map T3.a := fun x hx => signs_same.mp hx
      have hhours := fun s hs k hk => wp_hours_of (n + 3) f hf ss (fun x hx => signs_same.mpr (hnn x hx)) s hs (k := k) hk
      generalize f.signs.map T3.a = sN at *
      generalize f.posts.map T3.a = pN at *
      generalize hoursW ss = hW at *
      have lp2 : ∀ (s3 j5 j6 j9 j10 j11 : Fm.Slot) (k6 : Kt (Fl × Fm.Env)), (∀ (g : Str → D) j9, k6.q (.nx, [.own f.d, .val (f.mD mf), .own (dayD f mf bg rows pd), s3, .val (.tup (ss.map Enc.d)), j5, j6, .val (fdk pN fun s => .int (hW s)), .own (fdk sN g), j9, j10, j11])) →
            @R.wp _ (loop pr (.nm 9) (fun env => exs P (callN P (n + 5)) pr [.ssub (.nm 8) (.nm 9) (.bin .sub (.cn (.int 0)) (.cn (.int 1)))] env) (pN.map D.str) [.own f.d, .val (f.mD mf), .own (dayD f mf bg rows pd), s3, .val (.tup (ss.map Enc.d)), j5, j6, .val (fdk pN fun s => .int (hW s)), .own (fdk sN fun s => .int (hW s)), j9, j10, j11]) k6 := by
        intro s3 j5 j6 j9 j10 j11 k6 hk6
        refine loop_wp D.str pN (fun pre env => ∃ (g : Str → D) (j9 : Fm.Slot), env = [.own f.d, .val (f.mD mf), .own (dayD f mf bg rows pd), s3, .val (.tup (ss.map Enc.d)), j5, j6, .val (fdk pN fun s => .int (hW s)), .own (fdk sN g), j9, j10, j11]) rfl ⟨_, _, rfl⟩ (fun pre x post env hx hi => ?_) fun env hi => ?_
        · obtain ⟨g, j9, rfl⟩ := hi
          have hxs := hps x (by rw [← hx]; simp)
          simp [p9]
          refine of_wp (set_fdk sN hsn (by omega) g x (.int (-1)) false) ?_
          rw [show putS sN x = sN by unfold putS; rw [if_pos hxs]]
          simp
          exact ⟨_, _, rfl⟩
        · obtain ⟨g, j9, rfl⟩ := hi
          exact hk6 g j9
      rcases hs4 with rfl | rfl
      all_goals
        simp
        refine hhours _ (by first | exact .inl rfl | exact .inr rfl) _ fun s' h1 h2 => ?_
        first
        | have h2 := h2 rfl
          subst h2
        | skip
        simp [p7]
        refine gS _ _ _ (.inl rfl) (.inl rfl) fun s' => ?_
        simp [p8]
        refine gD _ _ (.inr rfl) fun b hb => ?_
        rcases hb rfl with rfl | rfl
        all_goals
          simp
          refine lp2 _ _ _ _ _ _ _ fun g j9 => ?_
          simp
          refine of_wp (set_fdk sN hsn (by omega) g _ (.int 5) false) ?_
          simp
          refine gS _ _ _ (.inr rfl) (.inr rfl) fun s' => ?_
          simp
          refine gD _ _ (.inl rfl) fun b hb => ?_
          simp
          exact hkk _ _ _ _ _ _ _ _
  rcases hs with rfl | rfl
  · apply call_wp P_law_right rfl
    refine main [0, 2] (.inl rfl) _ fun j4 j5 j6 j7 j8 j9 j10 j11 => ?_
    simp
    exact hk
  · apply call_wp P_law_right rfl
    refine main [0, 2, 3] (.inr rfl) _ fun j4 j5 j6 j7 j8 j9 j10 j11 => ?_
    simp
    exact hk
end Kx
end

section
set_option Elab.async false
set_option linter.all false
set_option maxRecDepth 10000
set_option autoImplicit false
set_option maxHeartbeats 1000000
/-! exchanged days -/
namespace Kx
open PySem PySem.W Fm Fm.Sx L2
theorem upd_comm {pl : Str → Str} {a b x y : Str} (h : a ≠ b) : updF (updF pl a x) b y = updF (updF pl b y) a x := by
  funext z
  unfold updF
  by_cases c1 : z = a
  · by_cases c2 : z = b
    · exact absurd (c1.symm.trans c2) h
    · simp [c1, h]
  · by_cases c2 : z = b
    · simp [c1, c2]
      exact fun e => absurd e.symm h
    · simp [c1, c2]
theorem walk_swap {f : Field} {a b : Going} {post : List Going} (h1 : a.a = b.a) (h2 : a.b ≠ b.b) : ∀ {pre : List Going} {pl : Str → Str} {h : Int}, WalkOk f pl h (pre ++ a :: b :: post) → WalkOk f pl h (pre ++ b :: a :: post)
  | [], pl, h, ⟨ga, gb, w⟩ => by
    obtain ⟨a1, a2, a3, a4⟩ := ga
    obtain ⟨b1, b2, b3, b4⟩ := gb
    have e1 : updF pl a.b a.d b.b = pl b.b := by unfold updF; rw [if_neg fun e => h2 e.symm]
    have e2 : updF pl b.b b.d a.b = pl a.b := by unfold updF; rw [if_neg h2]
    rw [e1] at b2
    refine ⟨⟨b1, b2, by omega, b4⟩, ⟨a1, by rw [e2]; exact a2, by omega, a4⟩, ?_⟩
    rw [upd_comm h2] at w
    rw [h1]
    exact w
  | g :: pre, pl, h, ⟨gg, w⟩ => ⟨gg, walk_swap h1 h2 (pre := pre) w⟩
def hourL (f : Field) (x : Str) (rows : List Going) : Int := rows.foldl (fun acc g => if x ∈ f.W g then g.a else acc) 0
theorem lastW_lt {f : Field} {x : Str} {rows : List Going} : lastW f.W rows.zipIdx x < rows.length := by
  by_cases h : ∃ p ∈ rows.zipIdx, x ∈ f.W p.1
  · obtain ⟨q, q1, q2, q3⟩ := lastW_mem _ h
    rw [q3]
    have := List.mem_zipIdx_iff_getElem?.mp q1
    have := (List.getElem?_eq_some_iff.mp this).1
    omega
  · rw [lastW_none fun p hp hs => h ⟨p, hp, hs⟩]
    omega
theorem shown_hour (f : Field) (x : Str) : ∀ (n : Nat) (rows : List Going), rows.length = n → (shownF f rows x).a = hourL f x rows := by
  intro n
  induction n with
  | zero =>
    intro rows h
    rw [List.length_eq_zero_iff.mp h]
    rfl
  | succ n ih =>
    intro rows h
    have hne : rows ≠ [] := fun e => by rw [e] at h; cases h
    obtain ⟨r, g, rfl⟩ : ∃ r g, rows = r ++ [g] := ⟨rows.dropLast, rows.getLast hne, (List.dropLast_concat_getLast hne).symm⟩
    have hr : r.length = n := by simp at h; omega
    have e := ih r hr
    have hz : (r ++ [g]).zipIdx = r.zipIdx ++ [(g, r.length)] := by rw [List.zipIdx_append]; simp
    unfold shownF hourL
    rw [hz, lastW_snoc, List.foldl_append]
    by_cases c : x ∈ f.W g
    · simp [c]
      rw [if_neg (by omega)]
    · simp only [c, if_false, List.foldl_cons, List.foldl_nil]
      have hlt := lastW_lt (f := f) (x := x) (rows := r)
      unfold shownF hourL at e
      rw [← e]
      by_cases c2 : lastW f.W r.zipIdx x < 0
      · rw [if_pos c2, if_pos c2]
      · rw [if_neg c2, if_neg c2, List.getD_eq_getElem?_getD, List.getD_eq_getElem?_getD, List.getElem?_append_left (by omega)]
theorem hourL_swap {f : Field} {x : Str} {a b : Going} {pre post : List Going} (h : a.a = b.a) : hourL f x (pre ++ a :: b :: post) = hourL f x (pre ++ b :: a :: post) := by
  unfold hourL
  rw [List.foldl_append, List.foldl_append]
  simp only [List.foldl_cons]
  congr 1
  by_cases c1 : x ∈ f.W a <;> by_cases c2 : x ∈ f.W b <;> simp [c1, c2, h]
theorem hours_swap (f : Field) {a b : Going} {pre post : List Going} (h : a.a = b.a) : hoursW (steps f (pre ++ a :: b :: post)) = hoursW (steps f (pre ++ b :: a :: post)) := by
  funext x
  rw [hours_mark, hours_mark, mark_shown, mark_shown, shown_hour f x _ _ rfl, shown_hour f x _ _ rfl, hourL_swap h]
theorem e_starts (n : Nat) (f : Field) (mf : Str → D) (bg : Str → Str) (rows : List Going) (pd : D) : callN P (n + 1) nDay_starts [.own (dayD f mf bg rows pd)] = .ok (.own (pls f.folk bg), [.own (dayD f mf bg rows pd)]) := by
  apply eq_of_wp
  apply call_wp PDay_starts rfl
  simp [iDay_starts, dayD, getK]
theorem wp_exchange (n : Nat) (f : Field) (hf : f.Ok) (mf : Str → D) (bg : Str → Str) (hb : ∀ x ∈ f.folk, bg x ∈ f.spots) (pre post : List Going) (a b : Going) (pd : D) (hw : WalkOk f bg 1 (pre ++ a :: b :: post)) (hr : (pre ++ a :: b :: post).length ≤ 2000) (h1 : a.a = b.a) (h2 : a.b ≠ b.b) {k : Kt (Fm.Slot × List Fm.Slot)}
    (hk : ∀ pd', k.q (.own (dayD f mf bg (pre ++ b :: a :: post) pd'), [.own (dayD f mf bg (pre ++ a :: b :: post) pd), .emp])) :
    @R.wp _ (callN P (n + 7) nexchange [.own (dayD f mf bg (pre ++ a :: b :: post) pd), .val (.int (pre.length : Int))]) k := by
  apply call_wp Pexchange rfl
  have es := e_starts (n + 5) f mf bg (pre ++ a :: b :: post) pd
  have hday : dayD f mf bg (pre ++ a :: b :: post) pd = .ins 1 [0, 1, 2, 3, 4] [f.mD mf, .tup ((pre ++ a :: b :: post).map Enc.d), pls f.folk bg, pd, fdk (f.signs.map T3.a) fun s => .int (lastW f.W (pre ++ a :: b :: post).zipIdx s)] := rfl
  have hwd := fun k hk => wp_day n f hf mf bg hb (pre ++ b :: a :: post) (walk_swap h1 h2 hw) (by simpa using hr) (.val (f.mD mf)) (.inl rfl) (k := k) hk
  generalize hF : (fdk (f.signs.map T3.a) fun s => .int (lastW f.W (pre ++ a :: b :: post).zipIdx s)) = F at *
  rw [hday] at es hk ⊢
  generalize hM : f.mD mf = M at *
  have hm1 : (pre ++ a :: b :: post).map Enc.d = pre.map Enc.d ++ Enc.d a :: Enc.d b :: post.map Enc.d := by simp
  have hg1 : (pre.map Enc.d ++ Enc.d a :: Enc.d b :: post.map Enc.d)[pre.length]? = some (Enc.d a) := by
    rw [List.getElem?_append_right (by simp)]; simp
  have hg2 : (pre.map Enc.d ++ Enc.d a :: Enc.d b :: post.map Enc.d)[pre.length + 1]? = some (Enc.d b) := by
    rw [List.getElem?_append_right (by simp)]; simp
  have hat1 : atI (pre.map Enc.d ++ Enc.d a :: Enc.d b :: post.map Enc.d) (pre.length : Int) = some (Enc.d a) := by rw [Sx.atI_nat, hg1]
  have hat2 : atI (pre.map Enc.d ++ Enc.d a :: Enc.d b :: post.map Enc.d) ((pre.length : Int) + 1) = some (Enc.d b) := by
    rw [show (pre.length : Int) + 1 = ((pre.length + 1 : Nat) : Int) by omega, Sx.atI_nat, hg2]
  rw [hm1] at es hk ⊢
  generalize hL : pre.map Enc.d ++ Enc.d a :: Enc.d b :: post.map Enc.d = L at *
  have hLl : L.length = pre.length + post.length + 2 := by rw [← hL]; simp; omega
  have hi1 : ixN L.length (pre.length : Int) = some pre.length := by rw [ixN_of (by omega) (by omega)]; simp
  have hi2 : ixN L.length ((pre.length : Int) + 1) = some (pre.length + 1) := by rw [ixN_of (by omega) (by omega)]; simp
  have hset : (L.set pre.length (Enc.d b)).set (pre.length + 1) (Enc.d a) = (pre ++ b :: a :: post).map Enc.d := by
    rw [← hL]
    simp [List.set_append]
  have c1 : (pre.length : Int) ≤ (L.length : Int) - 2 := by omega
  have c0 : (0 : Int) ≤ (pre.length : Int) := by omega
  simp [iexchange, getK, c0, c1, hat1, hat2, h1, h2]
  have ha : Enc.d a = D.tup [.int b.a, .str a.b, .str a.c, .str a.d] := by simp [h1]
  rw [ha] at hset
  simp at hset
  have hg : (L.set pre.length (D.tup [.int b.a, .str b.b, .str b.c, .str b.d])).set (pre.length + 1) (D.tup [.int b.a, .str a.b, .str a.c, .str a.d]) = (pre ++ b :: a :: post).map Enc.d := by
    rw [hset]
    simp
  simp [big, hi1, hi2, getK]
  apply wp_eq es
  simp
  rw [hg]
  refine hwd _ fun pd' s' s2 s3 _ => ?_
  simp
  exact hk pd'
end Kx
end

section
set_option Elab.async false
set_option linter.all false
set_option maxRecDepth 10000
set_option autoImplicit false
set_option maxHeartbeats 1000000
/-! wrong rows, and what is told of them -/
namespace Kx
open PySem PySem.W Fm Fm.Sx L2
theorem wp_copied (n : Nat) (l : List Step) (hl : l.length ≤ 2000) (hi : ∀ st ∈ l, st.e.items.length ≤ 100000) : callN P (n + 1) n_law_copied [.val (.lst (l.map Enc.d))] = .ok (.own (.lst (l.map Enc.d)), [.emp]) := by
  apply eq_of_wp
  apply call_wp P_law_copied rfl
  simp [i_law_copied]
  refine lc_map Enc.d l Enc.d rfl (by simp [big]; omega) (fun st hst => ?_) ?_
  · simp [big]
  · simp
theorem wp_with_sign (n : Nat) (pre post : List Step) (st : Step) (A B : List Str) (x : Str) (hst : st.e.items = A ++ B) (hl : (pre ++ st :: post).length ≤ 2000) (hAB : (A ++ B).length ≤ 1000) (s : Fm.Slot) (hs : IsS s (.tup ((pre ++ st :: post).map Enc.d))) {k : Kt (Fm.Slot × List Fm.Slot)}
    (hk : ∀ s', (s.isOwn = true → s' = .val (.tup ((pre ++ st :: post).map Enc.d))) → k.q (.own (.lst ((pre ++ (⟨st.a, st.b, st.c, st.d, ⟨A ++ x :: B⟩⟩ : Step) :: post).map Enc.d)), [s', .emp, .emp, .emp])) :
    @R.wp _ (callN P (n + 1) n_law_with_sign [s, .val (.int (pre.length : Int)), .val (.int (A.length : Int)), .val (.str x)]) k := by
  have hat : atI ((pre ++ st :: post).map Enc.d) (pre.length : Int) = some (Enc.d st) := by
    rw [Sx.atI_nat, List.map_append, List.getElem?_append_right (by simp)]; simp
  have hset : ((pre ++ st :: post).map Enc.d).set pre.length (Enc.d (⟨st.a, st.b, st.c, st.d, ⟨A ++ x :: B⟩⟩ : Step)) = (pre ++ (⟨st.a, st.b, st.c, st.d, ⟨A ++ x :: B⟩⟩ : Step) :: post).map Enc.d := by
    rw [List.map_append, List.set_append]
    simp
  have hix : ixN ((pre ++ st :: post).map Enc.d).length (pre.length : Int) = some pre.length := by rw [ixN_of (by omega) (by simp; omega)]; simp
  have hid : (pre ++ st :: post).map Enc.d = (pre ++ st :: post).map fun t : Step => Enc.d t := rfl
  have hn : ∀ t ∈ (pre ++ st :: post), True := fun _ _ => trivial
  have hlL : ((pre ++ st :: post).map Enc.d).length ≤ 2000 := by rw [List.length_map]; exact hl
  generalize hL : (pre ++ st :: post) = L at *
  have hAl : A.length + B.length ≤ 1000 := by rw [List.length_append] at hAB; exact hAB
  have htk : cutD (A.map D.str ++ B.map D.str) none (some (A.length : Int)) = A.map D.str := by
    rw [cutD_to _ _ (by omega), show ((A.length : Int)).toNat = A.length from rfl, List.take_append_of_le_length (by simp), List.take_of_length_le (by simp)]
  have hdk : cutD (A.map D.str ++ B.map D.str) (some (A.length : Int)) none = B.map D.str := by
    rw [cutD_from _ _ (by omega), show ((A.length : Int)).toNat = A.length from rfl, List.drop_append_of_le_length (by simp), List.drop_of_length_le (by simp)]
    simp
  simp at hset
  rcases hs with rfl | rfl
  all_goals
    apply call_wp P_law_with_sign rfl
    simp [i_law_with_sign]
    refine lc_map Enc.d L Enc.d rfl (by simpa [big] using (show L.length ≤ 100000 by omega)) (fun t ht => by simp) ?_
    simp [hat, hst]
    simp [big, htk, hdk]
    refine of_if (by omega) ?_
    simp [big, htk, hdk]
    refine of_if (by omega) ?_
    rw [List.length_map] at hix
    simp [big, hix, hdk]
    rw [hset]
    have z := hk (.val (.tup (L.map Enc.d)))
    simp at z
    first
    | exact z
    | (have z := hk .emp
       simp at z
       exact z)
end Kx
end

section
set_option Elab.async false
set_option linter.all false
set_option maxRecDepth 10000
set_option autoImplicit false
set_option maxHeartbeats 1000000
/-! what is told of wrong rows -/
namespace Kx
open PySem PySem.W Fm Fm.Sx L2
def toldD (kind : Str) (x : Str) : D := .lst [.str kind, .str x, .bl true, .bl true, .bl false]
structure WrongU (names : List Str) (l : List Step) (x : Str) : Prop where
  ex : ∃ A B, sigs l = A ++ x :: B ∧ (A ++ B).Nodup ∧ ∀ y ∈ A ++ B, y ∈ names
  no : x ∉ names
structure WrongT (names : List Str) (l : List Step) (x : Str) : Prop where
  ex : ∃ A B, sigs l = A ++ x :: B ∧ (A ++ B).Nodup ∧ (∀ y ∈ A ++ B, y ∈ names) ∧ x ∈ A
theorem sub_44 : P.sub 4 4 = true := rfl
theorem sub_54 : P.sub 5 4 = false := rfl
theorem sub_55 : P.sub 5 5 = true := rfl
theorem sub_42 : P.sub 4 2 = true := rfl
theorem sub_52 : P.sub 5 2 = true := rfl
theorem sub_45 : P.sub 4 5 = false := rfl
theorem exk_4 : P.exk 4 = true := rfl
theorem exk_5 : P.exk 5 = true := rfl
theorem wp_told (n : Nat) (f : Field) (hf : f.Ok) (mf : Str → D) (l : List Step) (hll : (sigs l).length ≤ 1000) (kind x : Str) (hw : kind = "unknown" ∧ WrongU (f.signs.map T3.a) l x ∨ kind = "twice" ∧ WrongT (f.signs.map T3.a) l x) :
    callN P (n + 4) n_law_hours_told [.val (f.mD mf), .own (.lst (l.map Enc.d))] = .ok (.own (toldD kind x), [.emp, .val (.lst (l.map Enc.d))]) := by
  apply eq_of_wp
  apply call_wp P_law_hours_told rfl
  simp [i_law_hours_told, big]
  refine wp_tryq ?_
  simp
  rcases hw with ⟨rfl, hw⟩ | ⟨rfl, hw⟩
  · obtain ⟨⟨A, B, e1, e2, e3⟩, hno⟩ := hw
    have hxu : ∀ y ∈ sigs l, y ∉ f.signs.map T3.a → y = x := fun y hy hn => by
      rw [e1] at hy
      rcases List.mem_append.mp hy with h | h
      · exact absurd (e3 y (List.mem_append_left _ h)) hn
      · rcases List.mem_cons.mp h with h | h
        · exact h
        · exact absurd (e3 y (List.mem_append_right _ h)) hn
    have hnd : (sigs l).Nodup := by
      rw [e1]
      have hxAB : x ∉ A ++ B := fun h => hno (e3 x h)
      refine (List.perm_middle.nodup_iff).mpr (List.nodup_cons.mpr ⟨hxAB, e2⟩)
    refine wp_step_hours n f hf mf l hll _ (.inr rfl) _ (.inr rfl) (fun y hy hn s' hs' => ?_) (fun a y b e hy s' _ => ?_) fun _ h _ _ => ?_
    · rw [hxu y hy hn, hs' rfl]
      simp [exk_4, handle, sub_44, sub_42, sub_45, hevs, hev]
      rfl
    · rw [e, List.nodup_append] at hnd
      exact absurd rfl (hnd.2.2 y hy y List.mem_cons_self)
    · exact absurd (h x (by rw [e1]; simp)) hno
  · obtain ⟨A, B, e1, e2, e3, e4⟩ := hw
    have hall : ∀ y ∈ sigs l, y ∈ f.signs.map T3.a := fun y hy => by
      rw [e1] at hy
      rcases List.mem_append.mp hy with h | h
      · exact e3 y (List.mem_append_left _ h)
      · rcases List.mem_cons.mp h with h | h
        · rw [h]; exact e3 x (List.mem_append_left _ e4)
        · exact e3 y (List.mem_append_right _ h)
    refine wp_step_hours n f hf mf l hll _ (.inr rfl) _ (.inr rfl) (fun y hy hn s' hs' => absurd (hall y hy) hn) (fun a y b e hy s' hs' => ?_) fun h _ _ _ => ?_
    · have hyx : y = x := by
        apply Classical.byContradiction
        intro hne
        have c1 : List.count y (sigs l) = List.count y (A ++ B) := by
          rw [e1, List.count_append, List.count_append, List.count_cons_of_ne (fun h => hne h.symm)]
        have c2 : 2 ≤ List.count y (sigs l) := by
          rw [e, List.count_append, List.count_cons_self]
          have := List.count_pos_iff.mpr hy
          omega
        have c3 : List.count y (A ++ B) ≤ 1 := List.nodup_iff_count.mp e2 y
        omega
      rw [hyx, hs' rfl]
      simp [exk_5, handle, sub_54, sub_55, sub_52, hevs, hev]
      rfl
    · rw [e1, List.nodup_append] at h
      exact absurd rfl (h.2.2 x e4 x List.mem_cons_self)
end Kx
end

section
set_option Elab.async false
set_option linter.all false
set_option maxRecDepth 10000
set_option autoImplicit false
set_option maxHeartbeats 1000000
/-! the law's wrong rows -/
namespace Kx
open PySem PySem.W Fm Fm.Sx L2
structure Wr where
  l : List Step
  kind : Str
  x : Str
def Wr.d (w : Wr) : D := .lst [.lst (w.l.map Enc.d), toldD w.kind w.x]
structure Wr.Ok (f : Field) (w : Wr) : Prop where
  ok : ∀ st ∈ w.l, Enc.ok st
  len : w.l.length ≤ 2000
  sig : (sigs w.l).length ≤ 10
  what : w.kind = "unknown" ∧ WrongU (f.signs.map T3.a) w.l w.x ∨ w.kind = "twice" ∧ WrongT (f.signs.map T3.a) w.l w.x
theorem fresh {taken names : List Str} (nd : names.Nodup) (h : taken.length < names.length) : ∃ x r, names.filter (fun y => decide (y ∉ taken)) = x :: r ∧ x ∈ names ∧ x ∉ taken := by
  have hne : names.filter (fun y => decide (y ∉ taken)) ≠ [] := by
    intro e
    have := nodup_len nd fun y hy => Classical.byContradiction fun hn => by
      have : y ∈ names.filter (fun y => decide (y ∉ taken)) := List.mem_filter.mpr ⟨hy, decide_eq_true hn⟩
      rw [e] at this
      cases this
    omega
  obtain ⟨x, r, e⟩ := List.exists_cons_of_ne_nil hne
  have hx : x ∈ names.filter (fun y => decide (y ∉ taken)) := by rw [e]; exact List.mem_cons_self
  obtain ⟨h1, h2⟩ := List.mem_filter.mp hx
  exact ⟨x, r, e, h1, of_decide_eq_true h2⟩
def vo (c : Prop) [Decidable c] (d : D) : Fm.Slot := if c then .val d else .own d
@[simp] theorem sd_vo (c : Prop) [Decidable c] (d : D) : (vo c d).data = some d := by
  unfold vo
  split <;> rfl
theorem sl_strs (xs : List Str) (k : Nat) (hk : k ≤ xs.length) : slD (.tup (xs.map D.str)) none (some (k : Int)) (.tmp (.val (.tup (xs.map D.str)))) = some (.tmp (vo (k = xs.length) (.tup ((xs.take k).map D.str)))) := by
  rw [Sx.sl_tup, cutD_to _ _ (by omega), HT.sIx_nat, List.length_map, Nat.min_eq_left hk]
  unfold vo
  by_cases c : k = xs.length
  · rw [if_pos ⟨rfl, c⟩, if_pos c, c, List.take_length]
  · rw [if_neg fun h => c h.2, if_neg c, List.map_take]
    rfl
theorem mkWr {f : Field} {pre post : List Step} {st : Step} {A B : List Str} {kind x : Str} (hok : ∀ t ∈ pre ++ st :: post, Enc.ok t) (hl : (pre ++ st :: post).length ≤ 2000) (hnd : (sigs (pre ++ st :: post)).Nodup) (hsub : ∀ x ∈ sigs (pre ++ st :: post), x ∈ f.signs.map T3.a) (hsl : (sigs (pre ++ st :: post)).length ≤ 9) (hAB : st.e.items = A ++ B) (hx : PyData.strOk x = true)
    (hw : kind = "unknown" ∧ x ∉ f.signs.map T3.a ∨ kind = "twice" ∧ x ∈ sigs pre ++ A) : Wr.Ok f ⟨pre ++ (⟨st.a, st.b, st.c, st.d, ⟨A ++ x :: B⟩⟩ : Step) :: post, kind, x⟩ := by
  have e1 : sigs (pre ++ st :: post) = (sigs pre ++ A) ++ (B ++ sigs post) := by simp [sigs, hAB]
  have e2 : sigs (pre ++ (⟨st.a, st.b, st.c, st.d, ⟨A ++ x :: B⟩⟩ : Step) :: post) = (sigs pre ++ A) ++ x :: (B ++ sigs post) := by simp [sigs]
  have hst := hok st (by simp)
  obtain ⟨o1, o2, o3, o4, o5⟩ := hst
  have o5' : ∀ y ∈ st.e.items, PyData.strOk y = true := o5
  rw [hAB] at o5'
  refine ⟨fun t ht => ?_, by simpa using hl, ?_, ?_⟩
  · rcases List.mem_append.mp ht with h | h
    · exact hok t (List.mem_append_left _ h)
    · rcases List.mem_cons.mp h with h | h
      · subst h
        refine ⟨o1, o2, o3, o4, fun y hy => ?_⟩
        have hy : y ∈ A ++ x :: B := hy
        rcases List.mem_append.mp hy with h | h
        · exact o5' y (List.mem_append_left _ h)
        · rcases List.mem_cons.mp h with h | h
          · rw [h]; exact hx
          · exact o5' y (List.mem_append_right _ h)
      · exact hok t (List.mem_append_right _ (List.mem_cons_of_mem _ h))
  · show (sigs (pre ++ (⟨st.a, st.b, st.c, st.d, ⟨A ++ x :: B⟩⟩ : Step) :: post)).length ≤ 10
    rw [e1] at hsl
    rw [e2]
    rw [List.length_append] at hsl ⊢
    rw [List.length_cons]
    omega
  · rw [e1] at hnd hsub
    rcases hw with ⟨rfl, h⟩ | ⟨rfl, h⟩
    · exact .inl ⟨rfl, ⟨_, _, e2, hnd, hsub⟩, h⟩
    · exact .inr ⟨rfl, ⟨_, _, e2, hnd, hsub, h⟩⟩
theorem wp_wrong (n : Nat) (p : Pool) (hp : p.Ok) (f : Field) (hf : f.Ok) (l : List Step) (hok : ∀ st ∈ l, Enc.ok st) (hl : l.length ≤ 2000) (hnd : (sigs l).Nodup) (hsub : ∀ x ∈ sigs l, x ∈ f.signs.map T3.a) (hsl : (sigs l).length ≤ 9) (s : Fm.Slot) (hs : IsS s (.tup (l.map Enc.d))) {k : Kt (Fm.Slot × List Fm.Slot)}
    (hk : ∀ (ws : List Wr) (p' : Pool) (s' : Fm.Slot), p'.Ok → (∀ w ∈ ws, w.Ok f) → k.q (.own (.lst (ws.map Wr.d)), [.own p'.d, .own f.d, s'])) :
    @R.wp _ (callN P (n + 4) n_law_wrong_rows [.own p.d, .own f.d, s]) k := by
  have e1 := eqT_nil hok
  have hsgn : ∀ y ∈ f.signs.map T3.a, IsName y := fun y hy => hf.posts.names.all y (signs_same.mpr hy)
  have hpn := hf.posts.len
  by_cases hne : l = []
  · subst hne
    simp at e1
    rcases hs with rfl | rfl
    all_goals
      apply call_wp P_law_wrong_rows rfl
      simp [i_law_wrong_rows, big, e1]
      exact hk [] p _ hp fun _ h => (List.not_mem_nil h).elim
  · have hl1 : 1 ≤ l.length := List.length_pos_iff.mpr hne
    -- the part behind the first wrong row
    have main : ∀ pr, pr = [0, 1] ∨ pr = [0, 1, 2] → ∀ kk : Kt (Fl × Fm.Env), (∀ (ws : List Wr) (p' : Pool) s' j4 j5 j6 j7 j8 j9 j10 j11 j12, p'.Ok → (∀ w ∈ ws, w.Ok f) → kk.q (.rt (.own (.lst (ws.map Wr.d))), [.own p'.d, .own f.d, s', .emp, j4, j5, j6, j7, j8, j9, j10, j11, j12])) →
        @R.wp _ (exs P (callN P (n + 3)) pr i_law_wrong_rows.body [.own p.d, .own f.d, s, .emp, .emp, .emp, .emp, .emp, .emp, .emp, .emp, .emp, .emp]) kk := by
      intro pr hpr kk hkk
      have p3 : 3 ∉ pr := by rcases hpr with rfl | rfl <;> simp
      have p4 : 4 ∉ pr := by rcases hpr with rfl | rfl <;> simp
      have p5 : 5 ∉ pr := by rcases hpr with rfl | rfl <;> simp
      have p6 : 6 ∉ pr := by rcases hpr with rfl | rfl <;> simp
      have p7 : 7 ∉ pr := by rcases hpr with rfl | rfl <;> simp
      have p8 : 8 ∉ pr := by rcases hpr with rfl | rfl <;> simp
      have p9 : 9 ∉ pr := by rcases hpr with rfl | rfl <;> simp
      have p10 : 10 ∉ pr := by rcases hpr with rfl | rfl <;> simp
      have hs0 := hs
      rcases hs with rfl | rfl
      all_goals
        simp [i_law_wrong_rows, big, e1, hne, p3]
        refine wp_draw _ _ hp _ (by omega) fun at_ p hp a0 a1 => ?_
        have ha : at_.toNat < l.length := by omega
        obtain ⟨pre, st, post, rfl, hpre⟩ : ∃ pre st post, l = pre ++ st :: post ∧ pre.length = at_.toNat := ⟨l.take at_.toNat, l[at_.toNat], l.drop (at_.toNat + 1), by rw [← List.drop_eq_getElem_cons ha, List.take_append_drop], by simp; omega⟩
        have hat : atI ((pre ++ st :: post).map Enc.d) at_ = some (Enc.d st) := by
          rw [atI_of _ _ a0, ← hpre, List.map_append, List.getElem?_append_right (by simp)]; simp
        have hate : at_ = (pre.length : Int) := by omega
        subst hate
        have hstl : st.e.items.length ≤ 9 := by
          have := item_len (l := pre ++ st :: post) (st := st) (by simp)
          omega
        have hsgl : (sigs pre).length ≤ 9 := by
          have : sigs (pre ++ st :: post) = sigs pre ++ (st.e.items ++ sigs post) := by simp [sigs]
          rw [this, List.length_append] at hsl
          omega
        have hLl : ((pre ++ st :: post).map Enc.d).length = pre.length + post.length + 1 := by simp; omega
        have hcut : cutD ((pre ++ st :: post).map Enc.d) none (some (pre.length : Int)) = pre.map Enc.d := by
          rw [cutD_to _ _ (by omega), show ((pre.length : Int)).toNat = pre.length from rfl, List.map_append, List.take_append_of_le_length (by simp), List.take_of_length_le (by simp)]
        have hws := fun (A B : List Str) (x : Str) (hAB : st.e.items = A ++ B) s hs k hk => wp_with_sign (n + 2) pre post st A B x hAB hl (by rw [← hAB]; omega) s hs (k := k) hk
        have hmk := fun (A B : List Str) (kind x : Str) => mkWr (f := f) (A := A) (B := B) (kind := kind) (x := x) hok hl hnd hsub hsl
        have hll := hl
        generalize hLD : (pre ++ st :: post).map Enc.d = LD at *
        have hsix : HT.sIx LD.length LD.length (some (pre.length : Int)) = pre.length := by rw [HT.sIx_nat, hLl]; omega
        have hsne : ¬ pre.length = LD.length := by omega
        clear hLD
        simp [hat, p4]
        refine wp_draw _ _ hp _ (by omega) fun turn p hp t0 t1 => ?_
        obtain ⟨A, B, hAB, hA⟩ : ∃ A B, st.e.items = A ++ B ∧ A.length = turn.toNat := ⟨st.e.items.take turn.toNat, st.e.items.drop turn.toNat, (List.take_append_drop _ _).symm, by simp; omega⟩
        have hte : turn = (A.length : Int) := by omega
        subst hte
        have hslI := sl_strs st.e.items A.length (by rw [hAB]; simp)
        rw [show st.e.items.take A.length = A by rw [hAB, List.take_append_of_le_length (by simp), List.take_of_length_le (by simp)]] at hslI
        have hAl : A.length ≤ 9 := by rw [hAB, List.length_append] at hstl; omega
        simp [p5, Field.d]
        refine lc_map Enc.d f.posts (fun q : Post => D.str q.a) rfl (by simp [big]; omega) (fun q hq => by simp) ?_
        rw [show List.map (fun q : Post => D.str q.a) f.posts = (f.posts.map T3.a).map D.str by rw [List.map_map]; rfl]
        have htl : (f.posts.map T3.a).length ≤ 9 := by rw [List.length_map]; exact hpn
        have hts : ∀ x, x ∈ f.posts.map T3.a ↔ x ∈ f.signs.map T3.a := fun x => signs_same
        generalize hT : f.posts.map T3.a = T at *
        simp [p6]
        refine wp_names _ _ hp _ (by omega) (by omega) fun names p hp hnm hnl => ?_
        obtain ⟨ox, orr, hfr, hox, hoT⟩ := fresh (taken := T) hnm.nd (by omega)
        have w1 := hmk A B "unknown" ox hAB (hnm.ok _ hox) (.inl ⟨rfl, fun h => hoT ((hts ox).mpr h)⟩)
        simp
        refine lc_wp D.str names (fun y => decide (y ∉ T)) D.str rfl (by simp [big]; omega) (fun y hy => ?_) ?_
        · simp
          by_cases c : y ∈ T <;> simp [c]
        · rw [hfr]
          simp [p7]
          refine hws A B ox hAB _ (by first | exact .inl rfl | exact .inr rfl) _ fun s' hs' => ?_
          first
          | (have hs' := hs' rfl
             subst hs')
          | skip
          simp [big, hat, hslI, p8, hcut, hsix, hsne]
          refine loop_wp Enc.d pre (fun pre' env => ∃ (E : List Str) (j9 : Fm.Slot), E.length ≤ A.length + (sigs pre').length ∧ (∀ y ∈ E, y ∈ sigs pre' ++ A) ∧ env = [_, _, _, _, _, _, _, _, .own (.lst (E.map .str)), j9, .emp, .emp, .emp]) rfl ⟨A, .emp, by simp, fun y hy => List.mem_append_right _ hy, rfl⟩ (fun pre' t post' env hx hi => ?_) fun env hi => ?_
          · obtain ⟨E, j9, h1, h2, rfl⟩ := hi
            have hsp : sigs pre = sigs pre' ++ (t.e.items ++ sigs post') := by rw [← hx]; simp [sigs]
            have hspl : (sigs pre').length + t.e.items.length ≤ 9 := by
              rw [hsp, List.length_append, List.length_append] at hsgl
              omega
            have hsn : sigs (pre' ++ [t]) = sigs pre' ++ t.e.items := by simp [sigs]
            simp [p8, p9, big]
            refine of_if (by omega) ?_
            simp [p8]
            refine ⟨E ++ t.e.items, .val (Enc.d t), by rw [hsn, List.length_append, List.length_append]; omega, fun y hy => ?_, by rw [List.map_append]; simp⟩
            rw [hsn]
            rcases List.mem_append.mp hy with h | h
            · rcases List.mem_append.mp (h2 y h) with h | h
              · exact List.mem_append_left _ (List.mem_append_left _ h)
              · exact List.mem_append_right _ h
            · exact List.mem_append_left _ (List.mem_append_right _ h)
          · obtain ⟨E, j9, h1, h2, rfl⟩ := hi
            have hEs : ∀ y ∈ E, y ∈ sigs (pre ++ st :: post) := fun y hy => by
              rw [show sigs (pre ++ st :: post) = sigs pre ++ (st.e.items ++ sigs post) by simp [sigs], hAB]
              rcases List.mem_append.mp (h2 y hy) with h | h
              · exact List.mem_append_left _ h
              · exact List.mem_append_right _ (List.mem_append_left _ (List.mem_append_left _ h))
            have hEok : ∀ y ∈ E, PyData.strOk y = true := fun y hy => (hsgn y (hsub y (hEs y hy))).strOk
            have eE := eqL_nil (α := Str) (xs := E) hEok
            rw [d_str_fun] at eE
            by_cases hE : E = []
            · subst hE
              simp at eE
              simp [eE, big, p3]
              have z := fun s' j4 j5 j6 j7 j8 j9 j10 j11 j12 => hkk [⟨pre ++ (⟨st.a, st.b, st.c, st.d, ⟨A ++ ox :: B⟩⟩ : Step) :: post, "unknown", ox⟩] p s' j4 j5 j6 j7 j8 j9 j10 j11 j12 hp fun w hw => by rw [List.mem_singleton.mp hw]; exact w1
              simp [Wr.d, toldD] at z
              exact z _ _ _ _ _ _ _ _ _ _
            · have hEl : 1 ≤ E.length := List.length_pos_iff.mpr hE
              simp [eE, hE, big]
              refine wp_draw _ _ hp _ (by omega) fun i p hp i0 i1 => ?_
              obtain ⟨tx, htx, hte⟩ : ∃ tx ∈ E, atI E i = some tx := by
                rw [atI_of _ _ i0, List.getElem?_eq_getElem (by omega)]
                exact ⟨_, List.getElem_mem _, rfl⟩
              have w2 := hmk A B "twice" tx hAB (hEok tx htx) (.inr ⟨rfl, h2 tx htx⟩)
              simp [atI_map, hte, p10]
              refine hws A B tx hAB _ (.inl rfl) _ fun s'' _ => ?_
              simp [big, p3]
              have z := fun s' j4 j5 j6 j7 j8 j9 j10 j11 j12 => hkk [⟨pre ++ (⟨st.a, st.b, st.c, st.d, ⟨A ++ ox :: B⟩⟩ : Step) :: post, "unknown", ox⟩, ⟨pre ++ (⟨st.a, st.b, st.c, st.d, ⟨A ++ tx :: B⟩⟩ : Step) :: post, "twice", tx⟩] p s' j4 j5 j6 j7 j8 j9 j10 j11 j12 hp fun w hw => by
                rcases List.mem_cons.mp hw with h | h
                · rw [h]; exact w1
                · rw [List.mem_singleton.mp h]; exact w2
              simp [Wr.d, toldD] at z
              exact z _ _ _ _ _ _ _ _ _ _
    rcases hs with rfl | rfl
    · apply call_wp P_law_wrong_rows rfl
      refine main [0, 1] (.inl rfl) _ fun ws p' s' j4 j5 j6 j7 j8 j9 j10 j11 j12 a b => ?_
      simp
      exact hk ws p' _ a b
    · apply call_wp P_law_wrong_rows rfl
      refine main [0, 1, 2] (.inr rfl) _ fun ws p' s' j4 j5 j6 j7 j8 j9 j10 j11 j12 a b => ?_
      simp
      exact hk ws p' _ a b
end Kx
end

section
set_option Elab.async false
set_option linter.all false
set_option maxRecDepth 10000
set_option autoImplicit false
set_option maxHeartbeats 1000000
/-! the law -/
namespace Kx
open PySem PySem.W Fm Fm.Sx L2
theorem walk_okE {f : Field} (hf : f.Ok) : ∀ {rows : List Going} {pl : Str → Str} {h : Int}, WalkOk f pl h rows → ∀ g ∈ rows, Enc.ok g
  | [], _, _, _, g, hg => by cases hg
  | x :: rows, pl, h, w, g, hg => by
    rcases List.mem_cons.mp hg with rfl | hg
    · obtain ⟨a, ⟨v, hv, e, c⟩, _, _⟩ := w.1
      obtain ⟨v1, v2, v3⟩ := hf.waysOk v hv
      refine ⟨trivial, hf.folk.ok _ a, e ▸ v1, ?_⟩
      rcases c with ⟨_, c⟩ | ⟨_, c⟩
      · show PyData.strOk g.d = true
        rw [c]; exact v3
      · show PyData.strOk g.d = true
        rw [c]; exact v2
    · exact walk_okE hf w.2 g hg
theorem steps_okE {f : Field} (hf : f.Ok) {rows : List Going} (h : ∀ g ∈ rows, Enc.ok g) : ∀ st ∈ steps f rows, Enc.ok st := by
  intro st hst
  obtain ⟨p, hp, rfl⟩ := List.mem_map.mp hst
  have hpm := (List.mem_filter.mp hp).1
  obtain ⟨o1, o2, o3, o4⟩ := h p.1 (List.mem_of_getElem? (List.mem_zipIdx_iff_getElem?.mp hpm))
  refine ⟨o1, o2, o3, o4, fun s hs => ?_⟩
  exact signs_ok hf s (Field.W_sub (stepS_mem.mp hs).1)
theorem gd_told (kind x : Str) : Gd2 1 (toldD kind x) := .inr ⟨_, .inr rfl, by simp, fun y hy => by
  simp at hy
  rcases hy with rfl | rfl | rfl | rfl
  · exact .inr (.inl ⟨_, rfl⟩)
  · exact .inr (.inl ⟨_, rfl⟩)
  · exact .inr (.inr ⟨_, rfl⟩)
  · exact .inr (.inr ⟨_, rfl⟩)⟩
theorem law_ok1 (n : Nat) (ns : List Int) : @R.wp _ (callN P (n + 10) nlaw [.val (.scr ns)]) ⟨fun r => @Hide ⟨∃ ss, r = (.val (.bl true), ss)⟩, NoE⟩ := by
  apply call_wp Plaw rfl
  simp [ilaw]
  refine wp_pool _ ns fun p hp => ?_
  simp [big]
  refine wp_draw _ _ hp _ (by omega) fun v p hp v0 v1 => ?_
  simp
  refine wp_no (Q := fun r => ∃ m0 m1 m2 m3 m4 : Int, (1 ≤ m0 ∧ m0 ≤ 6) ∧ (2 ≤ m1 ∧ m1 ≤ 7) ∧ (1 ≤ m2 ∧ m2 ≤ 3) ∧ (1 ≤ m3 ∧ m3 ≤ 9) ∧ (m4 = 5 ∨ m4 = 9) ∧ r = (Fl.nx, [.val (.scr ns), .own p.d, .own (.lst [.int m0, .int m1, .int m2, .int m3, .int m4]), .emp, .emp, .emp, .emp, .emp, .emp, .emp, .emp, .emp, .emp])) ?_ ?_
  · refine ite_wp (fun hv => ?_) fun hv => ?_
    · simp [big]
      exact ⟨6, 7, 3, 9, 9, by omega, by omega, by omega, by omega, by omega, rfl⟩
    · simp
      exact ⟨2, 4, 3, 4, 5, by omega, by omega, by omega, by omega, by omega, rfl⟩
  · rintro _ ⟨m0, m1, m2, m3, m4, h0, h1, h2, h3, h4, rfl⟩
    simp
    refine wp_field _ _ hp m0 m1 m2 m3 m4 h0 h1 h2 h3 h4 fun f p hp hf => ?_
    simp
    refine wp_walk _ _ hp f hf fun bg rows p hp hbg hw hr => ?_
    simp
    refine wp_made _ f hf fun mf => ?_
    simp
    refine wp_day _ f hf mf bg hbg rows hw (by omega) _ (.inr rfl) fun pd s' s2 s3 hs' => ?_
    have hs' := hs' rfl
    subst hs'
    simp
    have hrw : ∀ g ∈ rows, g.b ∈ f.folk ∧ g.c ∈ f.wayN := walk_mem hw
    have es := e_steps_of (n + 7) f hf rows (by omega) (.val (.lst (rows.map Enc.d))) (.inl rfl)
    apply wp_eq es
    simp
    refine wp_right _ f hf mf bg rows pd hrw (by omega) _ (.inl rfl) ?_
    simp
    have hso := steps_okE hf (walk_okE hf hw)
    have hsl := steps_len f rows
    have hnd := steps_nodup hf rows
    have hsub : ∀ x ∈ sigs (steps f rows), x ∈ f.signs.map T3.a := fun x h => steps_sub h
    have hsg := steps_sigl hf rows
    refine if_wp (by unfold smallR; simp; omega) ?_
    simp [rangeD_eq]
    refine loop_wp (fun i : Nat => D.int i) (List.range (rows.length - 1)) (fun pre env => ∃ (s8 j9 j12 : Fm.Slot), IsS s8 (.tup ((steps f rows).map Enc.d)) ∧ env = [.val (.scr ns), .own p.d, _, .own f.d, _, .val (.lst (rows.map Enc.d)), .val (f.mD mf), .own (dayD f mf bg rows pd), s8, j9, .emp, .emp, j12]) rfl ⟨_, _, _, .inr rfl, rfl⟩ (fun pre i post env hx hi => ?_) fun env hi => ?_
    · obtain ⟨s8, j9, j12, hs8, rfl⟩ := hi
      have hil : i + 1 < rows.length := by
        have : i ∈ List.range (rows.length - 1) := by rw [← hx]; simp
        have := List.mem_range.mp this
        omega
      obtain ⟨pre0, a, b, post0, erows, hpl⟩ : ∃ pre0 a b post0, rows = pre0 ++ a :: b :: post0 ∧ pre0.length = i := ⟨rows.take i, rows[i], rows[i + 1], rows.drop (i + 2), by rw [← List.drop_eq_getElem_cons hil, ← List.drop_eq_getElem_cons (by omega : i < rows.length), List.take_append_drop], by simp; omega⟩
      have hat1 : atI (rows.map Enc.d) (i : Int) = some (Enc.d a) := by
        rw [Sx.atI_nat, erows, ← hpl, List.map_append, List.getElem?_append_right (by simp)]; simp
      have hat2 : atI (rows.map Enc.d) ((i : Int) + 1) = some (Enc.d b) := by
        rw [show (i : Int) + 1 = ((i + 1 : Nat) : Int) by omega, Sx.atI_nat, erows, ← hpl, List.map_append, List.getElem?_append_right (by simp)]; simp
      have hc1 : cutD (rows.map Enc.d) none (some (i : Int)) = pre0.map Enc.d := by
        rw [cutD_to _ _ (by omega), show ((i : Int)).toNat = i from rfl, erows, ← hpl, List.map_append, List.take_append_of_le_length (by simp), List.take_of_length_le (by simp)]
      have hc2 : cutD (rows.map Enc.d) (some ((i : Int) + 2)) none = post0.map Enc.d := by
        rw [show (i : Int) + 2 = ((i + 2 : Nat) : Int) by omega, cutD_from _ _ (by omega), show (((i + 2 : Nat) : Int)).toNat = i + 2 from rfl, erows, ← hpl, List.map_append]
        rw [List.drop_append, List.drop_of_length_le (by simp)]
        simp
      have hlen0 : pre0.length + post0.length ≤ 12 := by
        have := congrArg List.length erows
        simp at this
        omega
      simp [hat1, hat2]
      by_cases q1 : a.a = b.a
      · by_cases q2 : a.b = b.b
        · simp [q1, q2, hat1, hat2]
          exact ⟨s8, _, j12, hs8, rfl⟩
        · have hw' : WalkOk f bg 1 (pre0 ++ b :: a :: post0) := walk_swap q1 q2 (by rw [← erows]; exact hw)
          have hex : ∀ k : Kt (Fm.Slot × List Fm.Slot), (∀ pd', k.q (.own (dayD f mf bg (pre0 ++ b :: a :: post0) pd'), [.own (dayD f mf bg rows pd), .emp])) → @R.wp _ (callN P (n + 9) nexchange [.own (dayD f mf bg rows pd), .val (.int (i : Int))]) k := fun k hk => by
            have t := wp_exchange (n + 2) f hf mf bg hbg pre0 post0 a b pd (by rw [← erows]; exact hw) (by rw [← erows]; omega) q1 q2 (k := k) (by rw [← erows]; exact hk)
            rw [← erows, hpl] at t
            exact t
          have hhs : hoursW (steps f (pre0 ++ b :: a :: post0)) = hoursW (steps f rows) := by rw [erows]; exact (hours_swap f q1).symm
          have hr' : (pre0 ++ b :: a :: post0).length ≤ 2000 := by simp; omega
          have haf : pre0.map Enc.d ++ Enc.d b :: Enc.d a :: post0.map Enc.d = (pre0 ++ b :: a :: post0).map Enc.d := by simp
          generalize hR : pre0 ++ b :: a :: post0 = rows' at *
          simp only [d_t4, d_int, d_str, q1] at haf
          have hrw' := walk_mem hw'
          have es' := e_steps_of (n + 7) f hf rows' hr' (.own (.lst (rows'.map Enc.d))) (.inr rfl)
          have hsg' := steps_sigl hf rows'
          simp [q1, q2, hat1, hat2, big, hc1, hc2]
          refine of_if (by omega) ?_
          simp [big, hc1, hc2]
          refine of_if (by omega) ?_
          simp
          rw [haf]
          refine hex _ fun pd' => ?_
          simp
          refine wp_right (n + 3) f hf mf bg rows' pd' hrw' hr' _ (.inr rfl) ?_
          simp
          apply wp_eq es'
          simp
          refine wp_hours_of (n + 7) f hf (steps f rows') (fun x hx => signs_same.mpr (steps_sub hx)) _ (.inr rfl) fun s' _ _ => ?_
          have gD : ∀ (k5 : Kt (Fm.Slot × List Fm.Slot)), (∀ a b, k5.q (.val (.bl true), [a, b])) → @R.wp _ (callN P (n + 9) n_law_same [.own (fdk (f.posts.map T3.a) fun s => .int (hoursW (steps f rows') s)), .own (fdk (f.posts.map T3.a) fun s => .int (hoursW (steps f rows) s))]) k5 := fun k5 h5 =>
            e_same_dk (n + 6) _ _ (hoursW (steps f rows)) (fun x hx => hx) rfl (by have := hf.posts.len; rw [List.length_map]; omega) _ _ (by rw [hhs]; exact .inr rfl) (.inr rfl) fun b _ => h5 _ b
          generalize hoursW (steps f rows') = H1 at *
          rcases hs8 with rfl | rfl
          all_goals
            simp
            refine wp_hours_of (n + 7) f hf (steps f rows) (fun x hx => signs_same.mpr (hsub x hx)) _ (by first | exact .inl rfl | exact .inr rfl) fun s'' _ h2'' => ?_
            first
            | (have h2'' := h2'' rfl
               subst h2'')
            | skip
            simp
            refine gD _ fun a' b' => ?_
            simp
            exact ⟨_, _, _, .inl rfl, rfl⟩
      · simp [q1, hat1, hat2]
        exact ⟨s8, _, j12, hs8, rfl⟩
    · obtain ⟨s8, j9, j12, hs8, rfl⟩ := hi
      have tail : ∀ (p : Pool) (ws : List Wr) (s8 j9 j12 : Fm.Slot) (j1 j2 j4 : Fm.Slot) (k : Kt (Fl × Fm.Env)), (∀ w ∈ ws, w.Ok f) → (∀ env, k.q (.rt (.val (.bl true)), env)) →
          @R.wp _ (loop [] (.nm 10) (fun env => exs P (callN P (n + 9)) [] [.asg (.nm 11) (.call 13 [.ix (.nm 10) (.cn (.int 0))]), .ife (.or [.nt (.call 10 [.call 14 [.nm 6, .nm 11], .ix (.nm 10) (.cn (.int 1))]), .cmp .ne (.nm 11) (.ix (.nm 10) (.cn (.int 0)))]) [.ret (.cn (.bl false))] []] env) (ws.map Wr.d)
            [.val (.scr ns), j1, j2, .own f.d, j4, .val (.lst (rows.map Enc.d)), .val (f.mD mf), .own (dayD f mf bg rows pd), s8, j9, .emp, .emp, j12]) ⟨kseq k.q fun e => @R.wp _ (exs P (callN P (n + 9)) [] [.ret (.call 8 [.nm 3, .nm 6, .nm 7, .nm 5])] e) k, k.e⟩ := by
        intro p ws s8 j9 j12 j1 j2 j4 k hws hk
        refine loop_wp Wr.d ws (fun pre env => ∃ (j10 j11 : Fm.Slot), env = [.val (.scr ns), j1, j2, .own f.d, j4, .val (.lst (rows.map Enc.d)), .val (f.mD mf), .own (dayD f mf bg rows pd), s8, j9, j10, j11, j12]) rfl ⟨_, _, rfl⟩ (fun pre w post env hx hi => ?_) fun env hi => ?_
        · obtain ⟨j10, j11, rfl⟩ := hi
          have hw := hws w (by rw [← hx]; simp)
          have hws := hw.sig
          have hcp := wp_copied (n + 8) w.l hw.len fun st hst => by
            have := item_len hst
            omega
          have htd := wp_told (n + 5) f hf mf w.l (by omega) w.kind w.x hw.what
          obtain ⟨a, b, _, _, esame⟩ := same_ok 1 (toldD w.kind w.x) (gd_told _ _) (n + 6) (.own (toldD w.kind w.x)) (.val (toldD w.kind w.x)) (.inr rfl) (.inl rfl)
          have heq := eqD_enc (α := List Step) (a := w.l) (b := w.l) hw.ok hw.ok
          rw [d_lst] at heq
          rw [show Wr.d w = .lst [.lst (w.l.map Enc.d), toldD w.kind w.x] from rfl]
          generalize toldD w.kind w.x = td at *
          simp
          apply wp_eq hcp
          simp
          apply wp_eq htd
          simp
          apply wp_eq esame
          simp [heq]
          exact ⟨_, _, rfl⟩
        · obtain ⟨j10, j11, rfl⟩ := hi
          simp
          refine wp_right (n + 3) f hf mf bg rows pd hrw (by omega) _ (.inl rfl) ?_
          simp
          exact hk _
      rcases hs8 with rfl | rfl
      all_goals
        simp
        refine wp_wrong (n + 5) p hp f hf (steps f rows) hso (by omega) hnd hsub hsg _ (by first | exact .inl rfl | exact .inr rfl) fun ws p' s'' hp' hws => ?_
        simp
        refine tail p' ws _ _ _ _ _ _ _ hws fun env => ?_
        simp
        exact ⟨_, rfl⟩
theorem law_ok (ns : List Int) (h : ns.length ≤ 63) : ∃ ss, Fm.callN P 30 nlaw [.val (.scr ns)] = .ok (.val (.bl true), ss) := by
  have h := law_ok1 20 ns
  rw [callN_eq] at h
  cases e : Fm.callN P (20 + 10) nlaw [.val (.scr ns)] with
  | ok a =>
    rw [e] at h
    obtain ⟨ss, rfl⟩ := h
    exact ⟨ss, rfl⟩
  | exc c x env => rw [e] at h; exact h.elim
  | stuck => rw [e] at h; exact h.elim
end Kx
end

set_option Elab.async false
set_option linter.all false
set_option maxRecDepth 100000
set_option maxHeartbeats 0
namespace Kx
open PySem PySem.Spec PyProof.Rows L2 Fm
theorem kb_ok : KbOk tabs := by
  intro x c j n ks hm q hq kV doc pm cdv ct an us ws hu hw
  have hm' : (x, c, j, n, ks) ∈ tb.mks := hm
  simp only [tb, List.mem_cons, List.not_mem_nil, or_false, Prod.mk.injEq] at hm'
  rcases hm' with ⟨rfl, rfl, rfl, rfl, rfl⟩ | ⟨rfl, rfl, rfl, rfl, rfl⟩
  · have e : q = dd6 := (Option.some.inj hq).symm
    subst e
    match us, hu, ws, hw with
    | [a, b, c, d], _, [], _ => rfl
  · have e : q = dd20 := (Option.some.inj hq).symm
    subst e
    match us, hu, ws, hw with
    | [a, b, c, d, e], _, [f, g], _ => rfl
end Kx
open PySem PySem.W PySem.Calls PyProof.Rows
theorem PySem.Challenge.cw_highmeadow_k07_chronicles_read_holds : PySem.Challenge.rw_highmeadow_k07_chronicles_read.Holds := by
  w_on; o_law
  refine HandSHeadRun.head_any (r := OpenLaw.row PySem.Challenge.rw_highmeadow_k07_chronicles_read) (q := view (OpenLaw.row PySem.Challenge.rw_highmeadow_k07_chronicles_read).prog [79]) (H := Kx.hk) (ob := Kx.ob) (M := 8000) (loose := Kx.loose) (d := HandSHeadRun.topDef (OpenLaw.row PySem.Challenge.rw_highmeadow_k07_chronicles_read).prog 79) (kwd := []) Kx.ob_eq
    (by kernel_rfl) (fun s => by kernel_rfl) Kx.run (by kernel_rfl) (by kernel_rfl) (by kernel_rfl) (by rfl) (by first | assumption | decide +kernel) (by decide +kernel) ⟨rfl, rfl, rfl, rfl, rfl, by decide +kernel⟩ ?hw ?hc
  case hw => w_witness2
  case hc => exact Fm.law_end (t := Kx.tabs) (j := 0) (n := 30) (f := Kx.ilaw) (l := PySem.Challenge.rw_highmeadow_k07_chronicles_read) rfl (by kernel_rfl) Kx.st_ok Kx.kb_ok (by decide +kernel) (by decide +kernel) rfl rfl ⟨rfl, by decide, by decide⟩ Kx.law_ok
