import PyProof.Rows.All
import Wide.All
import OpenK.AllK
import Wide.FinOn
import HandS.ForMost
import HandS.ForExc
import HandS.Iter
import HandS.Walk
import HandS.Comp
import HandS.Property
import HandS.IsInst
import HandS.TupAny
import HandS.Text
import HandS.Defaults
import HandS.Flow
import HandS.ClsMeth
import HandS.CallSlots
import HandS.ExcField
import KE.KExcSuper
import KE.KSuper
import HandS.ExcInit
import HandS.FStr
import HandS.ExcOwn
import HandS.MakeKwOnly
import HandS.WordsExc
import HandS.Zip
import KE.GoesEnum
import KE.GoesMore
import HandS.TryOnly
import HandS.TryMany
import HandS.Head2
import HandS.HeadEnd
import HandS.HeadHook2
import KE.KStateDown
import HandS.Head0
import HandS.Head1
import PySem.Challenge.RW_meetmail_k03_firm_days
set_option Elab.async false
set_option linter.all false
set_option maxRecDepth 100000
/-! PvA: values as trees, a small language of our own, what it does. -/
namespace Pv
open PySem

/-- a value that is never changed any more -/
inductive D where
  | non | bl (b : Bool) | int (i : Int) | str (x : Str)
  | tup (xs : List D) | lst (xs : List D)
  | obj (c : Nat) (fs : List (Nat × D))

/-- a value one of whose nodes may be changed: it has one owner -/
inductive O where
  | fz (d : D)
  | lst (xs : List O)
  | obj (c : Nat) (fs : List (Nat × O))

abbrev Env := List (Option O)
/-- an exception: its class, its fields -/
structure Exc where
  cls : Nat
  fs : List (Nat × D)

mutual
def O.frz : O → D
  | .fz d => d
  | .lst xs => .lst (O.frzs xs)
  | .obj c fs => .obj c (O.frzf fs)
def O.frzs : List O → List D
  | [] => []
  | x :: xs => x.frz :: O.frzs xs
def O.frzf : List (Nat × O) → List (Nat × D)
  | [] => []
  | p :: ps => (p.1, p.2.frz) :: O.frzf ps
end

mutual
/-- == of plain data -/
def D.eqv : D → D → Bool
  | .non, .non => true
  | .bl a, .bl b => a == b
  | .bl a, .int j => (if a then 1 else 0) == j
  | .int i, .bl b => i == (if b then 1 else 0)
  | .int i, .int j => i == j
  | .str x, .str y => x == y
  | .lst xs, .lst ys => D.eqvs xs ys
  | .tup xs, .tup ys => D.eqvs xs ys
  | _, _ => false
def D.eqvs : List D → List D → Bool
  | [], [] => true
  | x :: xs, y :: ys => x.eqv y && D.eqvs xs ys
  | _, _ => false
end
mutual
/-- no objects, not deeper than n -/
def D.data : Nat → D → Bool
  | _, .non => true
  | _, .bl _ => true
  | _, .int _ => true
  | _, .str x => PyData.strOk x
  | 0, _ => false
  | n + 1, .tup xs => D.datas n xs
  | n + 1, .lst xs => D.datas n xs
  | _, .obj _ _ => false
def D.datas : Nat → List D → Bool
  | _, [] => true
  | n, x :: xs => x.data n && D.datas n xs
end
def D.flat : D → Bool
  | .non | .bl _ | .int _ | .str _ => true
  | _ => false

/-- what an expression yields: a value for ever; a thing of its own; what stands in slot i (or within) -/
inductive Val where
  | fz (d : D)
  | tmp (o : O)
  | vw (i : Nat) (o : O)
def Val.at (i : Nat) : O → Val
  | .fz d => .fz d
  | o => .vw i o
def Val.new : O → Val
  | .fz d => .fz d
  | o => .tmp o
/-- the tree that is seen -/
def Val.o : Val → O
  | .fz d => .fz d
  | .tmp o => o
  | .vw _ o => o

inductive R (α : Type) where
  | ok (a : α) (v : Env)
  | exc (x : Exc) (v : Env)
  | bad
def R.bind {α β : Type} : R α → (α → Env → R β) → R β
  | .ok a v, f => f a v
  | .exc x v, _ => .exc x v
  | .bad, _ => .bad
def R.of {α : Type} (v : Env) : Option α → R α
  | some a => .ok a v
  | none => .bad

/-! ### the operations on values -/
inductive B2 where
  | add | sub | mul | fdiv | mod | pow
inductive Cm where
  | eq | ne | lt | le | gt | ge | is | isnt | inn | notin
inductive Bi where
  | len | min | max | int | bool | tuple | list | all
inductive Ty where
  | int | bool | str | list | tuple | cls (c : Nat)

def O.fzs : List O → Option (List D)
  | [] => some []
  | .fz d :: xs => (O.fzs xs).map (d :: ·)
  | _ => none
/-- the items of a list or a tuple -/
def Val.items : Val → Option (List D)
  | .fz (.lst xs) => some xs
  | .fz (.tup xs) => some xs
  | .tmp (.lst xs) => O.fzs xs
  | .vw _ (.lst xs) => O.fzs xs
  | _ => none
def Val.isL : Val → Bool
  | .fz (.lst _) => true
  | .tmp (.lst _) => true
  | .vw _ (.lst _) => true
  | _ => false
def newL (xs : List D) : Val := .tmp (.lst (xs.map .fz))
def small (i : Int) : Bool := decide (i.natAbs < 18446744073709551616)

def op2 : B2 → Val → Val → Option Val
  | .add, .fz (.int i), .fz (.int j) => some (.fz (.int (i + j)))
  | .sub, .fz (.int i), .fz (.int j) => some (.fz (.int (i - j)))
  | .mul, .fz (.int i), .fz (.int j) => if small i || small j then some (.fz (.int (i * j))) else none
  | .fdiv, .fz (.int i), .fz (.int j) => if decide (0 < j) && decide (j < 1073741824) then some (.fz (.int (i / j))) else none
  | .mod, .fz (.int i), .fz (.int j) => if decide (0 < j) then some (.fz (.int (i % j))) else none
  | .pow, .fz (.int i), .fz (.int j) => if decide (0 ≤ j) && decide (j ≤ 1000000) && decide (i.natAbs < 2 ^ 64) then some (.fz (.int (i ^ j.toNat))) else none
  | .add, .fz (.str x), .fz (.str y) => if decide (x.length + y.length ≤ sizeLine) then some (.fz (.str (x ++ y))) else none
  | _, _, _ => none

def anyEq (x : D) : List D → Bool
  | [] => false
  | y :: ys => y.eqv x || anyEq x ys
def allFlat : List D → Bool
  | [] => true
  | x :: xs => x.flat && allFlat xs
/-- may stand left of `in` a row -/
def isIn (x : Val) (y : Val) : Option Bool :=
  match x, y with
  | .fz (.str c), .fz (.str z) => some (!(Builtin.Str.occurrences z c 0 z.length 1).isEmpty)
  | .fz d, y => match y.items with
    | some ys => if d.flat && allFlat ys then some (anyEq d ys) else none
    | none => none
  | _, _ => none
def depthMost : Nat := 20
def eqD : Val → Val → Option Bool
  | .fz (.str a), .fz (.str b) => some (a == b)
  | x, y => if x.o.frz.data depthMost && y.o.frz.data depthMost then some (x.o.frz.eqv y.o.frz) else none
def cmp : Cm → Val → Val → Option Bool
  | .eq, x, y => eqD x y
  | .ne, x, y => (eqD x y).map (!·)
  | .lt, .fz (.int i), .fz (.int j) => some (decide (i < j))
  | .le, .fz (.int i), .fz (.int j) => some (decide (i ≤ j))
  | .gt, .fz (.int i), .fz (.int j) => some (decide (j < i))
  | .ge, .fz (.int i), .fz (.int j) => some (decide (j ≤ i))
  | .is, x, .fz .non => match x with
    | .fz .non => some true
    | _ => some false
  | .isnt, x, .fz .non => match x with
    | .fz .non => some false
    | _ => some true
  | .inn, x, y => isIn x y
  | .notin, x, y => (isIn x y).map (!·)
  | _, _, _ => none

/-- x[i] -/
def ixn (n : Nat) (i : Int) : Option Nat := L2.ixN n i
def nth {α : Type} (xs : List α) (i : Int) : Option α := (ixn xs.length i).bind fun j => xs[j]?
def item : Val → Val → Option Val
  | .fz (.lst xs), .fz (.int i) => (nth xs i).map .fz
  | .fz (.tup xs), .fz (.int i) => (nth xs i).map .fz
  | .fz (.str z), .fz (.int i) => if decide (z.length ≤ sizeLine) then (nth z.cps.toList i).map fun c => .fz (.str ⟨#[c]⟩) else none
  | .tmp (.lst xs), .fz (.int i) => (nth xs i).bind fun o => match o with
    | .fz d => some (.fz d)
    | _ => none
  | .vw k (.lst xs), .fz (.int i) => (nth xs i).map (.at k)
  | _, _ => none
def cut {α : Type} (xs : List α) (lo hi : Option Int) : List α := (xs.drop (HT.sIx xs.length 0 lo)).take (HT.sIx xs.length xs.length hi - HT.sIx xs.length 0 lo)
/-- x[lo:hi] -/
def slice : Val → Option Int → Option Int → Option Val
  | .fz (.lst xs), lo, hi => some (newL (cut xs lo hi))
  | .fz (.tup xs), lo, hi => some (.fz (.tup (cut xs lo hi)))
  | .fz (.str z), lo, hi => if decide (z.length ≤ sizeLine) then some (.fz (.str ⟨(cut z.cps.toList lo hi).toArray⟩)) else none
  | .tmp (.lst xs), lo, hi => (O.fzs xs).map fun ys => newL (cut ys lo hi)
  | .vw _ (.lst xs), lo, hi => (O.fzs xs).map fun ys => newL (cut ys lo hi)
  | _, _, _ => none
def find {α : Type} (f : Nat) : List (Nat × α) → Option α
  | [] => none
  | p :: ps => if p.1 == f then some p.2 else find f ps
/-- x.f -/
def field (f : Nat) : Val → Option Val
  | .fz (.obj _ fs) => (find f fs).map .fz
  | .vw i (.obj _ fs) => (find f fs).map (.at i)
  | _ => none
def Val.cls : Val → Option Nat
  | .fz (.obj c _) => some c
  | .tmp (.obj c _) => some c
  | .vw _ (.obj c _) => some c
  | _ => none
def isTy (sup : Nat → Nat → Bool) (x : Val) : Ty → Bool
  | .int => match x with
    | .fz (.int _) => true
    | .fz (.bl _) => true
    | _ => false
  | .bool => match x with
    | .fz (.bl _) => true
    | _ => false
  | .str => match x with
    | .fz (.str _) => true
    | _ => false
  | .list => x.isL
  | .tuple => match x with
    | .fz (.tup _) => true
    | _ => false
  | .cls c => match x.cls with
    | some k => sup k c
    | none => false
def truth : Val → Option Bool
  | .fz .non => some false
  | .fz (.bl b) => some b
  | .fz (.int i) => some (i != 0)
  | .fz (.str z) => if decide (z.length ≤ sizeLine) then some (z.length != 0) else none
  | .fz (.tup xs) => some (!xs.isEmpty)
  | .fz (.lst xs) => some (!xs.isEmpty)
  | .tmp (.lst xs) => some (!xs.isEmpty)
  | .vw _ (.lst xs) => some (!xs.isEmpty)
  | _ => none
def allBl : List D → Option Bool
  | [] => some true
  | .bl b :: r => (allBl r).map fun c => b && c
  | _ => none
def bi : Bi → List Val → Option Val
  | .len, [.fz (.str z)] => if decide (z.length ≤ sizeLine) then some (.fz (.int z.length)) else none
  | .len, [.fz (.lst xs)] => some (.fz (.int xs.length))
  | .len, [.fz (.tup xs)] => some (.fz (.int xs.length))
  | .len, [.tmp (.lst xs)] => some (.fz (.int xs.length))
  | .len, [.vw _ (.lst xs)] => some (.fz (.int xs.length))
  | .min, [.fz (.int i), .fz (.int j)] => some (.fz (.int (if j < i then j else i)))
  | .max, [.fz (.int i), .fz (.int j)] => some (.fz (.int (if j > i then j else i)))
  | .int, [.fz (.int i)] => some (.fz (.int i))
  | .int, [.fz (.bl b)] => some (.fz (.int (if b then 1 else 0)))
  | .bool, [.fz (.int i)] => some (.fz (.bl (i != 0)))
  | .bool, [.fz (.bl b)] => some (.fz (.bl b))
  | .tuple, [x] => x.items.map fun xs => .fz (.tup xs)
  | .list, [x] => x.items.map newL
  | .all, [x] => if x.isL then x.items.bind fun xs => (allBl xs).map fun b => .fz (.bl b) else none
  | _, _ => none
end Pv

set_option Elab.async false
set_option linter.all false
set_option maxRecDepth 100000
/-! PvB: the language and what it does. -/
namespace Pv
open PySem

/-! ### the language: names are slots, attributes, classes, defs are numbers -/
/-- where a loop's items go -/
inductive G where
  | n (i : Nat)
  | t (gs : List G)
/-- an argument of a keyword call, by the parameters' order: the k-th written one, or the default -/
inductive Pm where
  | a (k : Nat)
  | d (d : D)
mutual
inductive E where
  | c (d : D)
  | g (x : Str) (d : D)
  | v (i : Nat)
  | mv (i : Nat)
  | o2 (o : B2) (a b : E)
  | ng (a : E)
  | cm (o : Cm) (a b : E)
  | ch (o p : Cm) (a b c : E)
  | ch3 (o p q : Cm) (a b c d : E)
  | an (a b : E)
  | or (a b : E)
  | ta (a b : E)
  | to (a b : E)
  | nt (a : E)
  | ite (t a b : E)
  | tup (es : EL)
  | lst (es : EL)
  | ix (a i : E)
  | ixv (k : Nat) (i : E)
  | sl (a : E) (lo hi : OE)
  | att (a : E) (f : Nat)
  | kat (c : Nat) (f : Nat) (d : D)
  | bi (b : Bi) (es : EL)
  | rep (a n : E)
  | dm (a b : E)
  | isi (a : E) (ts : List Ty) (one : Bool)
  | lc (own : List Nat) (g : G) (it : I) (t : OE) (e : E)
  | lc2 (own own2 : List Nat) (g : G) (it : I) (t : OE) (g2 : G) (it2 : I) (t2 : OE) (e : E)
  | call (f : Nat) (es : EL)
  | callk (f : Nat) (pm : List Pm) (es ek : EL)
  | meth (m : Nat) (es : EL)
  | new (c : Nat) (es : EL)
  | newk (c : Nat) (pm : List Pm) (es ek : EL)
  | xat (k f : Nat)
  | xis (k : Nat) (cs : List Nat) (one : Bool)
inductive OE where
  | no
  | yes (e : E)
inductive EL where
  | nil
  | cons (e : E) (es : EL)
  | ref (i : Nat) (es : EL)
inductive I where
  | seq (e : E)
  | rng1 (n : E)
  | rng2 (a b : E)
  | enum (e : E)
  | zip (a b : E)
end
mutual
inductive S where
  | ret (e : E)
  | retN
  | pass
  | ex (e : E)
  | asg (g : G) (e : E)
  | aug (i : Nat) (o : B2) (e : E)
  | seti (p i e : E)
  | setf (p : E) (f : Nat) (e : E)
  | app (p e : E)
  | ife (t : E) (a b : SL)
  | fr (g : G) (it : I) (b : SL)
  | wh (t : E) (b : SL)
  | raise (c : Nat) (es : EL)
  | tr (b : SL) (hs : HL)
  | brk
  | cont
  | frz (i : Nat)
inductive SL where
  | nil
  | cons (s : S) (r : SL)
inductive HL where
  | nil
  | cons (cs : List Nat) (nm : Option Nat) (b : SL) (r : HL)
end
structure Def where
  np : Nat
  ns : Nat
  body : SL
/-- an attribute of a class: a field of the object, a property, a constant -/
inductive Ak where
  | no
  | fld
  | prop (f : Nat)
  | con (d : D)
def Ak.isFld : Ak → Bool
  | .fld => true
  | _ => false
structure Tbl where
  fn : Nat → Option Def
  att : Nat → Nat → Ak
  mth : Nat → Nat → Option Nat
  ini : Nat → Option Nat
  sup : Nat → Nat → Bool
  exf : Nat → List Nat
  /-- an exception class of the program -/
  exc : Nat → Bool

/-! ### what changes nothing -/
mutual
def E.pur : E → Bool
  | .c _ => true
  | .g _ _ => true
  | .v _ => true
  | .mv _ => false
  | .o2 _ a b => a.pur && b.pur
  | .ng a => a.pur
  | .cm _ a b => a.pur && b.pur
  | .ch _ _ a b c => a.pur && b.pur && c.pur
  | .ch3 _ _ _ a b c d => a.pur && b.pur && c.pur && d.pur
  | .an a b => a.pur && b.pur
  | .or a b => a.pur && b.pur
  | .ta a b => a.pur && b.pur
  | .to a b => a.pur && b.pur
  | .nt a => a.pur
  | .ite t a b => t.pur && a.pur && b.pur
  | .tup es => es.pur
  | .lst es => es.pur
  | .ix a i => a.pur && i.pur
  | .ixv _ i => i.pur
  | .sl a lo hi => a.pur && lo.pur && hi.pur
  | .att a _ => a.pur
  | .kat _ _ _ => true
  | .bi _ es => es.pur
  | .rep a n => a.pur && n.pur
  | .dm a b => a.pur && b.pur
  | .isi a _ _ => a.pur
  | .lc _ _ it t e => it.pur && t.pur && e.pur
  | .lc2 _ _ _ it t _ it2 t2 e => it.pur && t.pur && it2.pur && t2.pur && e.pur
  | .call _ es => es.pur
  | .callk _ _ es ek => es.pur && ek.pur
  | .meth _ es => es.pur
  | .new _ es => es.pur
  | .newk _ _ es ek => es.pur && ek.pur
  | .xat _ _ => true
  | .xis _ _ _ => true
def OE.pur : OE → Bool
  | .no => true
  | .yes e => e.pur
def EL.pur : EL → Bool
  | .nil => true
  | .cons e es => e.pur && es.pur
  | .ref _ _ => false
def I.pur : I → Bool
  | .seq e => e.pur
  | .rng1 n => n.pur
  | .rng2 a b => a.pur && b.pur
  | .enum e => e.pur
  | .zip a b => a.pur && b.pur
end

/-! the slots that a text sets -/
mutual
def G.sl : G → List Nat
  | .n i => [i]
  | .t gs => G.sls gs
def G.sls : List G → List Nat
  | [] => []
  | g :: gs => g.sl ++ G.sls gs
end
/-! ### what it does -/
/-- a call's end: the value, the parameters' slots -/
inductive CR where
  | ok (o : O) (outs : List (Option O))
  | exc (x : Exc) (outs : List (Option O))
  | bad
abbrev Fn := Nat → List O → CR
/-- behind a view nothing may change -/
def held {α : Type} (x : Val) (p : Bool) (r : R α) : R α := match x with
  | .vw _ _ => if p then r else .bad
  | _ => r
def getS (v : Env) (i : Nat) : Option O := (v[i]?).bind id
mutual
def bindG : G → D → Env → Option Env
  | .n i, d, v => some (v.set i (some (.fz d)))
  | .t gs, .tup ds, v => bindGs gs ds v
  | .t gs, .lst ds, v => bindGs gs ds v
  | _, _, _ => none
def bindGs : List G → List D → Env → Option Env
  | [], [], v => some v
  | g :: gs, d :: ds, v => (bindG g d v).bind fun v => bindGs gs ds v
  | _, _, _ => none
end
/-- the slots of own, as they were -/
def backOwn (own : List Nat) (v0 v : Env) : Env := own.foldl (fun v i => v.set i ((v0[i]?).getD none)) v
def wipe (own : List Nat) (v : Env) : Env := own.foldl (fun v i => v.set i none) v
/-- the slots that were handed by reference, as the call left them -/
def takeBack : List (Option Nat) → List (Option O) → Env → Env
  | some i :: as, o :: os, v => takeBack as os (v.set i o)
  | none :: as, _ :: os, v => takeBack as os v
  | _, _, v => v
def ofCall (as : List (Option Nat)) (v : Env) : CR → R Val
  | .ok o outs => .ok (.new o) (takeBack as outs v)
  | .exc x outs => .exc x (takeBack as outs v)
  | .bad => .bad
/-- an argument: a value, or the slot that is handed by reference -/
inductive Ar where
  | val (d : D)
  | ref (i : Nat)
def Ar.slot : Ar → Option Nat
  | .val _ => none
  | .ref i => some i
def Ar.get (v : Env) : Ar → Option O
  | .val d => some (.fz d)
  | .ref i => getS v i
def getAll (v : Env) : List Ar → Option (List O)
  | [] => some []
  | a :: as => (a.get v).bind fun o => (getAll v as).map (o :: ·)
def perm (as : List Ar) : List Pm → Option (List Ar)
  | [] => some []
  | .a k :: r => (as[k]?).bind fun a => (perm as r).map (a :: ·)
  | .d d :: r => (perm as r).map (.val d :: ·)
def nodupN : List Nat → Bool
  | [] => true
  | x :: xs => !xs.contains x && nodupN xs
def callF (P : Fn) (f : Nat) (as : List Ar) (v : Env) : R Val := match getAll v as with
  | some os => if nodupN (as.filterMap Ar.slot) then ofCall (as.map Ar.slot) v (P f os) else .bad
  | none => .bad
def Val.fin : Val → Option D
  | .fz d => some d
  | .tmp o => some o.frz
  | .vw _ _ => none
/-- a comprehension's item: its own, or for ever -/
def Val.own : Val → Option O
  | .fz d => some (.fz d)
  | .tmp o => some o
  | .vw _ _ => none
def ofNew (c : Nat) (as : List (Option Nat)) (v : Env) : CR → R Val
  | .ok (.fz .non) (some o :: outs) => .ok (.new o) (takeBack as outs v)
  | .exc x (_ :: outs) => .exc x (takeBack as outs v)
  | _ => .bad
def newF (T : Tbl) (P : Fn) (c : Nat) (as : List Ar) (v : Env) : R Val := match T.ini c, getAll v as with
  | some f, some os => if nodupN (as.filterMap Ar.slot) then ofNew c (as.map Ar.slot) v (P f (.obj c [] :: os)) else .bad
  | _, _ => .bad
def Ar.cls (v : Env) : Ar → Option Nat
  | .val (.obj c _) => some c
  | .ref i => match getS v i with
    | some (.obj c _) => some c
    | some (.fz (.obj c _)) => some c
    | _ => none
  | _ => none
/-- the receiver has no field of the method's name -/
def Ar.plainM (m : Nat) (v : Env) : Ar → Bool
  | .val (.obj _ fs) => (find m fs).isNone
  | .ref i => match getS v i with
    | some (.obj _ fs) => (find m fs).isNone
    | some (.fz (.obj _ fs)) => (find m fs).isNone
    | _ => false
  | _ => false
/-- the method that is called of it -/
def Ar.mthOf (T : Tbl) (m : Nat) (v : Env) (a : Ar) : Option Nat := if a.plainM m v then (a.cls v).bind fun c => if (T.ini c).isSome then T.mth c m else none else none
/-- no field of that name -/
def Val.lacks (f : Nat) : Val → Bool
  | .fz (.obj _ fs) => (find f fs).isNone
  | .tmp (.obj _ fs) => (find f fs).isNone
  | .vw _ (.obj _ fs) => (find f fs).isNone
  | _ => false
/-- an attribute that is read -/
def attF (T : Tbl) (P : Fn) (f : Nat) (x : Val) (v : Env) : R Val := match x.cls with
  | some c => if (T.ini c).isSome then match T.att c f with
    | .no => .bad
    | .fld => R.of v (field f x)
    | .con d => if x.lacks f then .ok (.fz d) v else .bad
    | .prop g => match x with
      | .fz d => match P g [.fz d] with
        | .ok o _ => .ok (.new o) v
        | _ => .bad
      | _ => .bad
    else .bad
  | none => .bad
/-- items, one behind another, each adds at most one to the list -/
def lcLoop (step : D → Env → R (Option O)) : List D → List O → Env → R (List O)
  | [], acc, v => .ok acc v
  | d :: ds, acc, v => match step d v with
    | .ok none v => lcLoop step ds acc v
    | .ok (some o) v => if decide (acc.length < sizeLine) then lcLoop step ds (acc ++ [o]) v else .bad
    | _ => .bad
def lcLoop2 (step : D → List O → Env → R (List O)) : List D → List O → Env → R (List O)
  | [], acc, v => .ok acc v
  | d :: ds, acc, v => match step d acc v with
    | .ok acc v => lcLoop2 step ds acc v
    | _ => .bad
def inRng (i : Int) : Bool := decide (i.natAbs < 4611686018427387904)
def rng (lo hi : Int) : List D := (List.range (hi - lo).toNat).map fun (k : Nat) => .int (lo + (k : Int))
def enumD (k : Nat) : List D → List D
  | [] => []
  | d :: ds => .tup [.int (k : Int), d] :: enumD (k + 1) ds
def zipD : List D → List D → List D
  | a :: as, b :: bs => .tup [a, b] :: zipD as bs
  | _, _ => []
def Val.walks : Val → Option (List D)
  | .fz (.str z) => some (z.cps.toList.map fun c => .str ⟨#[c]⟩)
  | .vw _ _ => none
  | x => x.items
def Val.walksL : Val → Option (List D)
  | .vw _ _ => none
  | x => x.items
def fins : List Ar → Option (List D)
  | [] => some []
  | .val d :: as => (fins as).map (d :: ·)
  | _ => none
def knownC (T : Tbl) (x : Val) : Bool := match x.cls with
  | some k => (T.ini k).isSome
  | none => true
def Val.isTmp : Val → Bool
  | .tmp (.lst _) => true
  | _ => false
section
variable (T : Tbl) (P : Fn) (X : Option Exc)
mutual
def ev : E → Env → R Val
  | .c d, v => .ok (.fz d) v
  | .g _ d, v => .ok (.fz d) v
  | .v i, v => match getS v i with
    | some o => .ok (.at i o) v
    | none => .bad
  | .mv i, v => match getS v i with
    | some o => .ok (.new o) (v.set i none)
    | none => .bad
  | .o2 o a b, v => (ev a v).bind fun x v => held x b.pur ((ev b v).bind fun y v => R.of v (op2 o x y))
  | .ng a, v => (ev a v).bind fun x v => match x with
    | .fz (.int i) => .ok (.fz (.int (-i))) v
    | _ => .bad
  | .cm o a b, v => (ev a v).bind fun x v => held x b.pur ((ev b v).bind fun y v => R.of v ((cmp o x y).map fun b => .fz (.bl b)))
  | .ch o p a b c, v => (ev a v).bind fun x v => held x b.pur ((ev b v).bind fun y v => match cmp o x y with
    | some true => held y c.pur ((ev c v).bind fun z v => R.of v ((cmp p y z).map fun b => .fz (.bl b)))
    | some false => .ok (.fz (.bl false)) v
    | none => .bad)
  | .ch3 o p q a b c d, v => (ev a v).bind fun x v => held x b.pur ((ev b v).bind fun y v => match cmp o x y with
    | some true => held y c.pur ((ev c v).bind fun z v => match cmp p y z with
      | some true => held z d.pur ((ev d v).bind fun w v => R.of v ((cmp q z w).map fun b => .fz (.bl b)))
      | some false => .ok (.fz (.bl false)) v
      | none => .bad)
    | some false => .ok (.fz (.bl false)) v
    | none => .bad)
  | .an a b, v => (ev a v).bind fun x v => match x with
    | .fz (.bl true) => ev b v
    | .fz (.bl false) => .ok (.fz (.bl false)) v
    | _ => .bad
  | .or a b, v => (ev a v).bind fun x v => match x with
    | .fz (.bl true) => .ok (.fz (.bl true)) v
    | .fz (.bl false) => ev b v
    | _ => .bad
  | .ta a b, v => (ev a v).bind fun x v => match truth x with
    | some true => (ev b v).bind fun y v => R.of v ((truth y).map fun b => .fz (.bl b))
    | some false => .ok (.fz (.bl false)) v
    | none => .bad
  | .to a b, v => (ev a v).bind fun x v => match truth x with
    | some true => .ok (.fz (.bl true)) v
    | some false => (ev b v).bind fun y v => R.of v ((truth y).map fun b => .fz (.bl b))
    | none => .bad
  | .nt a, v => (ev a v).bind fun x v => R.of v ((truth x).map fun b => .fz (.bl (!b)))
  | .ite t a b, v => (ev t v).bind fun x v => match truth x with
    | some true => ev a v
    | some false => ev b v
    | none => .bad
  | .tup es, v => (evs es v).bind fun as v => match fins as with
    | some ds => .ok (.fz (.tup ds)) v
    | none => .bad
  | .lst es, v => (evs es v).bind fun as v => match fins as with
    | some ds => .ok (newL ds) v
    | none => .bad
  | .ix a i, v => (ev a v).bind fun x v => held x i.pur ((ev i v).bind fun y v => R.of v (item x y))
  | .ixv k i, v => match getS v k with
    | some _ => (ev i v).bind fun y v => match getS v k with
      | some o => R.of v (item (.at k o) y)
      | none => .bad
    | none => .bad
  | .sl a lo hi, v => (ev a v).bind fun x v => held x (lo.pur && hi.pur) ((evo lo v).bind fun l v => (evo hi v).bind fun h v => R.of v (slice x l h))
  | .att a f, v => (ev a v).bind fun x v => attF T P f x v
  | .kat _ _ d, v => .ok (.fz d) v
  | .bi b es, v => (evv es v).bind fun xs v => R.of v (Pv.bi b xs)
  | .rep a n, v => (ev a v).bind fun x v => held x n.pur ((ev n v).bind fun y v => match x.items, y with
    | some ds, .fz (.int k) => if x.isTmp && inRng k && decide (ds.length * k.toNat ≤ sizeLine) then .ok (newL (List.replicate k.toNat ds).flatten) v else .bad
    | _, _ => .bad)
  | .dm a b, v => (ev a v).bind fun x v => (ev b v).bind fun y v => match x, y with
    | .fz (.int i), .fz (.int j) => if decide (0 < j) && decide (j < 1073741824) then .ok (.fz (.tup [.int (i / j), .int (i % j)])) v else .bad
    | _, _ => .bad
  | .isi a ts _, v => (ev a v).bind fun x v => if knownC T x then .ok (.fz (.bl (ts.any fun t => isTy T.sup x t))) v else .bad
  | .lc own g it t e, v => (evI it v).bind fun ds v => (lcLoop (fun d v => match bindG g d (wipe own v) with
      | some v => (evc t v).bind fun b v => match b with
        | true => (ev e v).bind fun x v => match x.own with
          | some o => .ok (some o) v
          | none => .bad
        | false => .ok none v
      | none => .bad) ds [] v).bind fun os v' => .ok (.tmp (.lst os)) (backOwn own v v')
  | .lc2 own own2 g it t g2 it2 t2 e, v => (evI it v).bind fun ds v => (lcLoop2 (fun d acc v => match bindG g d (wipe own v) with
      | some v => (evc t v).bind fun b v => match b with
        | true => (evI it2 v).bind fun ds2 v => lcLoop (fun d v => match bindG g2 d (wipe own2 v) with
          | some v => (evc t2 v).bind fun b v => match b with
            | true => (ev e v).bind fun x v => match x.own with
              | some o => .ok (some o) v
              | none => .bad
            | false => .ok none v
          | none => .bad) ds2 acc v
        | false => .ok acc v
      | none => .bad) ds [] v).bind fun os v' => .ok (.tmp (.lst os)) (backOwn own v v')
  | .call f es, v => (evs es v).bind fun as v => callF P f as v
  | .callk f pm es ek, v => (evs es v).bind fun as v => (evs ek v).bind fun bs v => match perm (as ++ bs) pm with
    | some as => callF P f as v
    | none => .bad
  | .meth m es, v => match es with
    | .cons a es => (ev a v).bind fun x v => match x.fin with
      | some d => match (Ar.val d).mthOf T m v with
        | some f => (evs es v).bind fun as v => callF P f (.val d :: as) v
        | none => .bad
      | none => .bad
    | .ref k es => match (Ar.ref k).mthOf T m v with
      | some f => (evs es v).bind fun as v => callF P f (.ref k :: as) v
      | none => .bad
    | .nil => .bad
  | .new c es, v => (evs es v).bind fun as v => newF T P c as v
  | .newk c pm es ek, v => (evs es v).bind fun as v => (evs ek v).bind fun bs v => match perm (as ++ bs) pm with
    | some as => newF T P c as v
    | none => .bad
  | .xat _ f, v => match X with
    | some x => if T.exc x.cls && (T.exf x.cls).contains f then R.of v ((find f x.fs).map .fz) else .bad
    | none => .bad
  | .xis _ cs _, v => match X with
    | some x => .ok (.fz (.bl (cs.any fun c => T.sup x.cls c))) v
    | none => .bad
/-- a clause's test -/
def evc : OE → Env → R Bool
  | .no, v => .ok true v
  | .yes e, v => (ev e v).bind fun x v => R.of v (truth x)
/-- a part of a slice -/
def evo : OE → Env → R (Option Int)
  | .no, v => .ok none v
  | .yes e, v => (ev e v).bind fun x v => match x with
    | .fz (.int i) => .ok (some i) v
    | _ => .bad
/-- arguments of a def: values for ever, slots by reference -/
def evs : EL → Env → R (List Ar)
  | .nil, v => .ok [] v
  | .cons e es, v => (ev e v).bind fun x v => match x.fin with
    | some d => (evs es v).bind fun as v => .ok (.val d :: as) v
    | none => .bad
  | .ref i es, v => match getS v i with
    | some _ => (evs es v).bind fun as v => .ok (.ref i :: as) v
    | none => .bad
/-- arguments of a built-in: anything that is read -/
def evv : EL → Env → R (List Val)
  | .nil, v => .ok [] v
  | .cons e es, v => (ev e v).bind fun x v => held x es.pur ((evv es v).bind fun xs v => .ok (x :: xs) v)
  | .ref _ _, _ => .bad
def evI : I → Env → R (List D)
  | .seq e, v => (ev e v).bind fun x v => R.of v x.walks
  | .rng1 n, v => (ev n v).bind fun x v => match x with
    | .fz (.int i) => if inRng i then .ok (rng 0 i) v else .bad
    | _ => .bad
  | .rng2 a b, v => (ev a v).bind fun x v => (ev b v).bind fun y v => match x, y with
    | .fz (.int i), .fz (.int j) => if inRng i && inRng j then .ok (rng i j) v else .bad
    | _, _ => .bad
  | .enum e, v => (ev e v).bind fun x v => R.of v (x.walksL.map (enumD 0))
  | .zip a b, v => (ev a v).bind fun x v => (ev b v).bind fun y v => match x.walksL, y.walksL with
    | some ds, some es => .ok (zipD ds es) v
    | _, _ => .bad
end
end

/-! ### statements -/
inductive Fl where
  | next (v : Env)
  | ret (o : O) (v : Env)
  | brk (v : Env)
  | cont (v : Env)
  | exc (x : Exc) (v : Env)
  | bad
def R.fl {α : Type} : R α → (α → Env → Fl) → Fl
  | .ok a v, f => f a v
  | .exc x v, _ => .exc x v
  | .bad, _ => .bad
def forLoop (g : G) (body : Env → Fl) : List D → Env → Fl
  | [], v => .next v
  | d :: ds, v => match bindG g d v with
    | some v => match body v with
      | .next v => forLoop g body ds v
      | .cont v => forLoop g body ds v
      | .brk v => .next v
      | r => r
    | none => .bad
def whLoop (test : Env → R Bool) (body : Env → Fl) : Nat → Env → Fl
  | 0, _ => .bad
  | n + 1, v => (test v).fl fun b v => match b with
    | true => match body v with
      | .next v => whLoop test body n v
      | .cont v => whLoop test body n v
      | .brk v => .next v
      | r => r
    | false => .next v
def whFuel : Nat := 1000000
/-- a step down a tree -/
inductive Stp where
  | f (k : Nat)
  | i (n : Int)
def setN (f : Nat) (o : O) : List (Nat × O) → List (Nat × O)
  | [] => [(f, o)]
  | p :: ps => if p.1 == f then (f, o) :: ps else p :: setN f o ps
def updO : List Stp → (O → Option O) → O → Option O
  | [], k, o => k o
  | .f f :: r, k, .obj c fs => (find f fs).bind fun o => (updO r k o).map fun o => .obj c (setN f o fs)
  | .i n :: r, k, .lst xs => (ixn xs.length n).bind fun j => (xs[j]?).bind fun o => (updO r k o).map fun o => .lst (xs.set j o)
  | _, _, _ => none
def updS (v : Env) (k : Nat) (p : List Stp) (f : O → Option O) : Option Env := (getS v k).bind fun o => (updO p f o).map fun o => v.set k (some o)
def app1 (x : O) : O → Option O
  | .lst xs => if decide (xs.length < sizeLine) then some (.lst (xs ++ [x])) else none
  | _ => none
def set1 (n : Int) (x : O) : O → Option O
  | .lst xs => (ixn xs.length n).map fun j => .lst (xs.set j x)
  | _ => none
def fld1 (T : Tbl) (f : Nat) (x : O) : O → Option O
  | .obj c fs => if decide (fs.length < 900) && ((T.ini c).isSome && (T.att c f).isFld) then some (.obj c (setN f x fs)) else none
  | _ => none
def seeO : List Stp → O → Option O
  | [], o => some o
  | .f f :: r, .obj _ fs => (find f fs).bind (seeO r)
  | .i n :: r, .lst xs => (ixn xs.length n).bind fun j => (xs[j]?).bind (seeO r)
  | _, _ => none
def isLstAt (v : Env) (k : Nat) (p : List Stp) : Bool := match (getS v k).bind (seeO p) with
  | some (.lst _) => true
  | _ => false
/-- the fields of a new exception: ints and texts of some size -/
def excOk : D → Bool
  | .int i => decide (i.natAbs.log2 < 1920)
  | .str z => decide (z.length ≤ 10000)
  | _ => false
def excOf (c : Nat) (fs : List Nat) (as : List D) : Option Exc := if fs.length == as.length && (decide (as.length ≤ 700) && as.all excOk) then some ⟨c, (fs.zip as).reverse⟩ else none
/-- the name of a clause goes -/
def gone : Option Nat → Env → Env
  | some i, v => v.set i none
  | none, v => v
def nmOk : Option Nat → Env → Bool
  | some i, v => decide (i < v.length)
  | none, _ => true
/-- behind a suite; none may let an exception out -/
def goes (nm : Option Nat) : Fl → Fl
  | .next v => .next (gone nm v)
  | .ret o v => .ret o (gone nm v)
  | .brk v => .brk (gone nm v)
  | .cont v => .cont (gone nm v)
  | _ => .bad
section
variable (T : Tbl) (P : Fn)
/-- where a path leads: a slot and steps -/
def path (X : Option Exc) : E → Env → R (Nat × List Stp)
  | .v i, v => .ok (i, []) v
  | .att a f, v => (path X a v).bind fun p v => .ok (p.1, p.2 ++ [.f f]) v
  | .ix a i, v => if i.pur then (path X a v).bind fun p v => (ev T P X i v).bind fun x v => match x with
      | .fz (.int n) => .ok (p.1, p.2 ++ [.i n]) v
      | _ => .bad
    else .bad
  | _, _ => .bad
mutual
def exs : Option Exc → S → Env → Fl
  | X, .ret e, v => (ev T P X e v).fl fun x v => match x.own with
    | some o => .ret o v
    | none => .bad
  | _, .retN, v => .ret (.fz .non) v
  | _, .pass, v => .next v
  | X, .ex e, v => (ev T P X e v).fl fun _ v => .next v
  | X, .asg (.n i) e, v => (ev T P X e v).fl fun x v => match x.own with
    | some o => .next (v.set i (some o))
    | none => .bad
  | X, .asg g e, v => (ev T P X e v).fl fun x v => match x.fin with
    | some d => match bindG g d v with
      | some v => .next v
      | none => .bad
    | none => .bad
  | X, .aug i o e, v => match getS v i with
    | some (.fz a) => (ev T P X e v).fl fun y v => match op2 o (.fz a) y with
      | some (.fz d) => .next (v.set i (some (.fz d)))
      | _ => .bad
    | _ => .bad
  | X, .seti p i e, v => (ev T P X e v).fl fun x v => (path T P X p v).fl fun q v => if isLstAt v q.1 q.2 && i.pur then (ev T P X i v).fl fun y v => match x.own, y with
      | some o, .fz (.int n) => match updS v q.1 q.2 (set1 n o) with
        | some v => .next v
        | none => .bad
      | _, _ => .bad
    else .bad
  | X, .setf p f e, v => (ev T P X e v).fl fun x v => (path T P X p v).fl fun q v => match x.own with
    | some o => match updS v q.1 q.2 (fld1 T f o) with
      | some v => .next v
      | none => .bad
    | none => .bad
  | X, .app p e, v => (path T P X p v).fl fun q v => if isLstAt v q.1 q.2 && (q.2.isEmpty || e.pur) then (ev T P X e v).fl fun x v => match x.own with
      | some o => match updS v q.1 q.2 (app1 o) with
        | some v => .next v
        | none => .bad
      | none => .bad
    else .bad
  | X, .ife t a b, v => (ev T P X t v).fl fun x v => match truth x with
    | some true => exss X a v
    | some false => exss X b v
    | none => .bad
  | X, .fr g it b, v => match X with
    | none => (evI T P none it v).fl fun ds v => forLoop g (exss none b) ds v
    | some _ => .bad
  | X, .wh t b, v => match X with
    | none => whLoop (fun v => (ev T P none t v).bind fun x v => R.of v (truth x)) (exss none b) whFuel v
    | some _ => .bad
  | X, .raise c es, v => match X with
    | none => (evs T P none es v).fl fun as v => match (fins as).bind (excOf c (T.exf c)) with
      | some x => .exc x v
      | none => .bad
    | some _ => .bad
  | X, .tr b hs, v => match X with
    | none => match exss none b v with
      | .exc x v => exh x hs v
      | r => r
    | some _ => .bad
  | _, .brk, v => .brk v
  | _, .cont, v => .cont v
  | _, .frz i, v => match getS v i with
    | some o => .next (v.set i (some (.fz o.frz)))
    | none => .bad
def exss : Option Exc → SL → Env → Fl
  | _, .nil, v => .next v
  | X, .cons s r, v => match exs X s v with
    | .next v => exss X r v
    | r => r
def exh : Exc → HL → Env → Fl
  | x, .nil, v => .exc x v
  | x, .cons cs nm b r, v => if T.exc x.cls && (cs.all T.exc && nmOk nm v) then (if cs.any fun c => T.sup x.cls c then goes nm (exss (some x) b (gone nm v)) else exh x r v) else .bad
end
end
mutual
def S.sl : S → List Nat
  | .asg g _ => g.sl
  | .aug i _ _ => [i]
  | .ife _ a b => a.sl ++ b.sl
  | .fr g _ b => g.sl ++ b.sl
  | .wh _ b => b.sl
  | .tr b hs => b.sl ++ hs.sl
  | _ => []
def SL.sl : SL → List Nat
  | .nil => []
  | .cons s r => s.sl ++ r.sl
def HL.sl : HL → List Nat
  | .nil => []
  | .cons _ nm b r => nm.toList ++ (b.sl ++ r.sl)
end
/-- a def's run: the parameters' slots that it does not set -/
def outs (n : Nat) (A : List Nat) (v : Env) : List (Option O) := (List.range n).map fun i => if A.contains i then none else getS v i
def Fl.cr (n : Nat) (A : List Nat) : Fl → CR
  | .next v => .ok (.fz .non) (outs n A v)
  | .ret o v => .ok o (outs n A v)
  | .exc x v => .exc x (outs n A v)
  | _ => .bad
def callN (T : Tbl) : Nat → Fn
  | 0 => fun _ _ => .bad
  | n + 1 => fun f as => match T.fn f with
    | some d => if as.length == d.np then (exss T (callN T n) none d.body (as.map some ++ List.replicate (d.ns - d.np) none)).cr d.np d.body.sl else .bad
    | none => .bad
def look2 {α : Type} : List (Nat × Nat × α) → Nat → Nat → Option α
  | [], _, _ => none
  | (a, b, x) :: r, k, m => if a == k && b == m then some x else look2 r k m
/-- a law's tables -/
structure LT where
  fns : List (Nat × Def)
  atts : List (Nat × Nat × Ak)
  mths : List (Nat × Nat × Nat)
  inis : List (Nat × Nat)
  sups : List (Nat × Nat)
  exf : List (Nat × List Nat)
  exc : List Nat
def LT.T (t : LT) : Tbl where
  fn := fun f => t.fns.lookup f
  att := fun k f => (look2 t.atts k f).getD .no
  mth := fun k m => look2 t.mths k m
  ini := fun k => t.inis.lookup k
  sup := fun i j => t.sups.contains (i, j)
  exf := fun k => (t.exf.lookup k).getD []
  exc := fun k => t.exc.contains k
end Pv

set_option Elab.async false
set_option linter.all false
set_option maxRecDepth 100000
/-! PvC: how a tree lies in the heap; what an evaluation leaves. -/
namespace Pv
open PySem PySem.Spec PyProof.Rows L2

structure Cfg where
  K : PySem.W.Frag
  /-- the classes' addresses, the attributes' names -/
  ca : Nat → Addr
  an : Nat → Str
  inj : ∀ i j, an i = an j → i = j

theorem Same.tup {K : PySem.W.Frag} {H H' : Hp} {a : Addr} {xs : List V} (e : Same H H') (h : SqT K H a xs) : SqT K H' a xs := by
  rcases h with (h | ⟨o, h⟩) | h
  · exact .inl (.inl (e _ _ h))
  · exact .inl (.inr ⟨o, e _ _ h⟩)
  · exact .inr h
theorem same_new {H : Hp} {p : Addr} {o : HO} (h : H p = none) : Same H (upd H p o) := fun a u e => by
  rw [upd_ne (ne_of_none e h)]
  exact e

section
variable (c : Cfg) (F : Hp)
mutual
/-- a tree that stays -/
def Rep : D → V → Prop
  | .non, v => v = .non
  | .bl b, v => v = .bl b
  | .int i, v => v = .int i
  | .str x, v => v = .str x
  | .tup ds, v => ∃ a vs, v = .ref a ∧ SqT c.K F a vs ∧ Reps ds vs
  | .lst ds, v => ∃ a vs, v = .ref a ∧ SqL c.K F a vs ∧ Reps ds vs
  | .obj k fs, v => ∃ a dx vs, v = .ref a ∧ F a = some (.ins (c.ca k) dx vs) ∧ Repf fs vs
def Reps : List D → List V → Prop
  | [], vs => vs = []
  | d :: ds, vs => ∃ v r, vs = v :: r ∧ Rep d v ∧ Reps ds r
def Repf : List (Nat × D) → List (Str × V) → Prop
  | [], vs => vs = []
  | p :: ps, vs => ∃ v r, vs = (c.an p.1, v) :: r ∧ Rep p.2 v ∧ Repf ps r
end
variable (H : Hp)
mutual
/-- a tree with its owner: the addresses that may change -/
def Own : O → V → List Addr → Prop
  | .fz d, v, A => Rep c F d v ∧ A = []
  | .lst os, v, A => ∃ a vs B, v = .ref a ∧ H a = some (.lst vs) ∧ A = a :: B ∧ Owns os vs B
  | .obj k fs, v, A => ∃ a dx vs B, v = .ref a ∧ H a = some (.ins (c.ca k) dx vs) ∧ A = a :: B ∧ Ownf fs vs B
def Owns : List O → List V → List Addr → Prop
  | [], vs, A => vs = [] ∧ A = []
  | o :: os, vs, A => ∃ v r A1 A2, vs = v :: r ∧ A = A1 ++ A2 ∧ Own o v A1 ∧ Owns os r A2
def Ownf : List (Nat × O) → List (Str × V) → List Addr → Prop
  | [], vs, A => vs = [] ∧ A = []
  | p :: ps, vs, A => ∃ v r A1 A2, vs = (c.an p.1, v) :: r ∧ A = A1 ++ A2 ∧ Own p.2 v A1 ∧ Ownf ps r A2
end
end

section
variable {c : Cfg} {F F' H H' : Hp}
mutual
theorem Rep.mono (e : Same F F') : ∀ (d : D) (v : V), Rep c F d v → Rep c F' d v
  | .non, _, h => h
  | .bl _, _, h => h
  | .int _, _, h => h
  | .str _, _, h => h
  | .tup ds, v, ⟨a, vs, h1, h2, h3⟩ => ⟨a, vs, h1, Same.tup e h2, Reps.mono e ds vs h3⟩
  | .lst ds, v, ⟨a, vs, h1, h2, h3⟩ => ⟨a, vs, h1, Same.seq e h2, Reps.mono e ds vs h3⟩
  | .obj k fs, v, ⟨a, dx, vs, h1, h2, h3⟩ => ⟨a, dx, vs, h1, e _ _ h2, Repf.mono e fs vs h3⟩
theorem Reps.mono (e : Same F F') : ∀ (ds : List D) (vs : List V), Reps c F ds vs → Reps c F' ds vs
  | [], _, h => h
  | d :: ds, vs, ⟨v, r, h1, h2, h3⟩ => ⟨v, r, h1, Rep.mono e d v h2, Reps.mono e ds r h3⟩
theorem Repf.mono (e : Same F F') : ∀ (ps : List (Nat × D)) (vs : List (Str × V)), Repf c F ps vs → Repf c F' ps vs
  | [], _, h => h
  | p :: ps, vs, ⟨v, r, h1, h2, h3⟩ => ⟨v, r, h1, Rep.mono e p.2 v h2, Repf.mono e ps r h3⟩
end
mutual
/-- what stands at A stays, the rest of the tree stays for ever -/
theorem Own.keep (e : Same F F') : ∀ (o : O) (v : V) (A : List Addr), (∀ p x, p ∈ A → H p = some x → H' p = some x) → Own c F H o v A → Own c F' H' o v A
  | .fz d, v, A, _, ⟨h1, h2⟩ => ⟨Rep.mono e d v h1, h2⟩
  | .lst os, v, A, k, ⟨a, vs, B, h1, h2, h3, h4⟩ => ⟨a, vs, B, h1, k _ _ (by rw [h3]; exact List.mem_cons_self) h2, h3, Owns.keep e os vs B (fun p x hp => k p x (by rw [h3]; exact List.mem_cons_of_mem _ hp)) h4⟩
  | .obj q fs, v, A, k, ⟨a, dx, vs, B, h1, h2, h3, h4⟩ => ⟨a, dx, vs, B, h1, k _ _ (by rw [h3]; exact List.mem_cons_self) h2, h3, Ownf.keep e fs vs B (fun p x hp => k p x (by rw [h3]; exact List.mem_cons_of_mem _ hp)) h4⟩
theorem Owns.keep (e : Same F F') : ∀ (os : List O) (vs : List V) (A : List Addr), (∀ p x, p ∈ A → H p = some x → H' p = some x) → Owns c F H os vs A → Owns c F' H' os vs A
  | [], _, _, _, h => h
  | o :: os, vs, A, k, ⟨v, r, A1, A2, h1, h2, h3, h4⟩ => ⟨v, r, A1, A2, h1, h2, Own.keep e o v A1 (fun p x hp => k p x (by rw [h2]; exact List.mem_append_left _ hp)) h3, Owns.keep e os r A2 (fun p x hp => k p x (by rw [h2]; exact List.mem_append_right _ hp)) h4⟩
theorem Ownf.keep (e : Same F F') : ∀ (ps : List (Nat × O)) (vs : List (Str × V)) (A : List Addr), (∀ p x, p ∈ A → H p = some x → H' p = some x) → Ownf c F H ps vs A → Ownf c F' H' ps vs A
  | [], _, _, _, h => h
  | p :: ps, vs, A, k, ⟨v, r, A1, A2, h1, h2, h3, h4⟩ => ⟨v, r, A1, A2, h1, h2, Own.keep e p.2 v A1 (fun q x hp => k q x (by rw [h2]; exact List.mem_append_left _ hp)) h3, Ownf.keep e ps r A2 (fun q x hp => k q x (by rw [h2]; exact List.mem_append_right _ hp)) h4⟩
end
mutual
theorem Own.mem : ∀ (o : O) (v : V) (A : List Addr), Own c F H o v A → ∀ p ∈ A, ∃ x, H p = some x
  | .fz d, v, A, ⟨_, h2⟩, p, hp => by rw [h2] at hp; cases hp
  | .lst os, v, A, ⟨a, vs, B, h1, h2, h3, h4⟩, p, hp => by
    rw [h3] at hp
    rcases List.mem_cons.mp hp with rfl | hp
    · exact ⟨_, h2⟩
    · exact Owns.mem os vs B h4 p hp
  | .obj q fs, v, A, ⟨a, dx, vs, B, h1, h2, h3, h4⟩, p, hp => by
    rw [h3] at hp
    rcases List.mem_cons.mp hp with rfl | hp
    · exact ⟨_, h2⟩
    · exact Ownf.mem fs vs B h4 p hp
theorem Owns.mem : ∀ (os : List O) (vs : List V) (A : List Addr), Owns c F H os vs A → ∀ p ∈ A, ∃ x, H p = some x
  | [], _, _, h, p, hp => by rw [h.2] at hp; cases hp
  | o :: os, vs, A, ⟨v, r, A1, A2, h1, h2, h3, h4⟩, p, hp => by
    rw [h2] at hp
    rcases List.mem_append.mp hp with hp | hp
    · exact Own.mem o v A1 h3 p hp
    · exact Owns.mem os r A2 h4 p hp
theorem Ownf.mem : ∀ (ps : List (Nat × O)) (vs : List (Str × V)) (A : List Addr), Ownf c F H ps vs A → ∀ p ∈ A, ∃ x, H p = some x
  | [], _, _, h, p, hp => by rw [h.2] at hp; cases hp
  | q :: ps, vs, A, ⟨v, r, A1, A2, h1, h2, h3, h4⟩, p, hp => by
    rw [h2] at hp
    rcases List.mem_append.mp hp with hp | hp
    · exact Own.mem q.2 v A1 h3 p hp
    · exact Ownf.mem ps r A2 h4 p hp
end
mutual
/-- frozen: what stood at A stays for ever -/
theorem Own.frz (e : Same F F') : ∀ (o : O) (v : V) (A : List Addr), (∀ p x, p ∈ A → H p = some x → F' p = some x) → Own c F H o v A → Rep c F' o.frz v
  | .fz d, v, A, _, ⟨h1, h2⟩ => Rep.mono e d v h1
  | .lst os, v, A, k, ⟨a, vs, B, h1, h2, h3, h4⟩ => ⟨a, vs, h1, .inl (.inl (k _ _ (by rw [h3]; exact List.mem_cons_self) h2)), Owns.frz e os vs B (fun p x hp => k p x (by rw [h3]; exact List.mem_cons_of_mem _ hp)) h4⟩
  | .obj q fs, v, A, k, ⟨a, dx, vs, B, h1, h2, h3, h4⟩ => ⟨a, dx, vs, h1, k _ _ (by rw [h3]; exact List.mem_cons_self) h2, Ownf.frz e fs vs B (fun p x hp => k p x (by rw [h3]; exact List.mem_cons_of_mem _ hp)) h4⟩
theorem Owns.frz (e : Same F F') : ∀ (os : List O) (vs : List V) (A : List Addr), (∀ p x, p ∈ A → H p = some x → F' p = some x) → Owns c F H os vs A → Reps c F' (O.frzs os) vs
  | [], _, _, _, h => h.1
  | o :: os, vs, A, k, ⟨v, r, A1, A2, h1, h2, h3, h4⟩ => ⟨v, r, h1, Own.frz e o v A1 (fun p x hp => k p x (by rw [h2]; exact List.mem_append_left _ hp)) h3, Owns.frz e os r A2 (fun p x hp => k p x (by rw [h2]; exact List.mem_append_right _ hp)) h4⟩
theorem Ownf.frz (e : Same F F') : ∀ (ps : List (Nat × O)) (vs : List (Str × V)) (A : List Addr), (∀ p x, p ∈ A → H p = some x → F' p = some x) → Ownf c F H ps vs A → Repf c F' (O.frzf ps) vs
  | [], _, _, _, h => h.1
  | p :: ps, vs, A, k, ⟨v, r, A1, A2, h1, h2, h3, h4⟩ => ⟨v, r, h1, Own.frz e p.2 v A1 (fun q x hp => k q x (by rw [h2]; exact List.mem_append_left _ hp)) h3, Ownf.frz e ps r A2 (fun q x hp => k q x (by rw [h2]; exact List.mem_append_right _ hp)) h4⟩
end
theorem Reps.length : ∀ {ds : List D} {vs : List V}, Reps c F ds vs → ds.length = vs.length
  | [], _, h => by rw [h]; rfl
  | d :: ds, vs, ⟨v, r, h1, h2, h3⟩ => by rw [h1, List.length_cons, List.length_cons, Reps.length h3]
theorem Owns.length : ∀ {os : List O} {vs : List V} {A : List Addr}, Owns c F H os vs A → os.length = vs.length
  | [], _, _, h => by rw [h.1]; rfl
  | o :: os, vs, A, ⟨v, r, A1, A2, h1, h2, h3, h4⟩ => by rw [h1, List.length_cons, List.length_cons, Owns.length h4]
/-- a list all of whose items stay -/
theorem Owns.fzs : ∀ {os : List O} {vs : List V} {A : List Addr} {ds : List D}, Owns c F H os vs A → O.fzs os = some ds → Reps c F ds vs ∧ A = []
  | [], vs, A, ds, h, e => by
    cases e
    exact ⟨h.1, h.2⟩
  | o :: os, vs, A, ds, ⟨v, r, A1, A2, h1, h2, h3, h4⟩, e => by
    cases o with
    | fz d =>
      simp only [O.fzs, Option.map_eq_some_iff] at e
      obtain ⟨ds', e1, e2⟩ := e
      obtain ⟨q1, q2⟩ := Owns.fzs h4 e1
      subst e2
      exact ⟨⟨v, r, h1, h3.1, q1⟩, by rw [h2, h3.2, q2]; rfl⟩
    | lst _ => simp [O.fzs] at e
    | obj _ _ => simp [O.fzs] at e
theorem Owns.of : ∀ {ds : List D} {vs : List V}, Reps c F ds vs → Owns c F H (ds.map .fz) vs []
  | [], _, h => ⟨h, rfl⟩
  | d :: ds, vs, ⟨v, r, h1, h2, h3⟩ => ⟨v, r, [], [], h1, rfl, ⟨h2, rfl⟩, Owns.of h3⟩
theorem Reps.get : ∀ {ds : List D} {vs : List V} {i : Nat} {d : D}, Reps c F ds vs → ds[i]? = some d → ∃ v, vs[i]? = some v ∧ Rep c F d v
  | [], vs, i, d, h, e => by simp at e
  | d :: ds, vs, 0, d', ⟨v, r, h1, h2, h3⟩, e => by
    simp at e
    subst e h1
    exact ⟨v, rfl, h2⟩
  | d :: ds, vs, i + 1, d', ⟨v, r, h1, h2, h3⟩, e => by
    subst h1
    simpa using Reps.get h3 (by simpa using e)
end
end Pv

set_option Elab.async false
set_option linter.all false
set_option maxRecDepth 100000
/-! PvD: the state, steps, results. -/
namespace Pv
open PySem PySem.Spec PyProof.Rows L2

abbrev Ft := Nat → List Addr
/-- the exception of the suite: what is known of the slots (fr) and of what stays -/
structure Xs where
  e : Option Exc
  fr : List Nat
  ok : _root_.L2.St → Hp → Prop
  mono : ∀ {σ F F'}, Same F F' → ok σ F → ok σ F'
  cong : ∀ {σ σ' F}, (∀ i ∈ fr, σ'[i]? = σ[i]?) → ok σ F → ok σ' F
def Xs.no : Xs := ⟨none, [], fun _ _ => True, fun _ _ => trivial, fun _ _ => trivial⟩
/-- the slots and the heap hold what env says: F stays for ever, slot i owns L i -/
structure Rel (c : Cfg) (xo : Xs) (F H : Hp) (L : Ft) (σ : _root_.L2.St) (v : Env) : Prop where
  le : Same F H
  slot : ∀ i o, getS v i = some o → ∃ u, σ[i]? = some (some u) ∧ Own c F H o u (L i)
  nd : ∀ i, (L i).Nodup
  dj : ∀ i j p, p ∈ L i → p ∈ L j → i = j
  df : ∀ i p, p ∈ L i → F p = none
  dead : ∀ i, getS v i = none → L i = []
  len : σ.length = v.length
  xs : xo.ok σ F
/-- from one state to a later one; e: the slots' own things may have changed -/
structure Step (e : Bool) (F H : Hp) (L : Ft) (F' H' : Hp) (L' : Ft) : Prop where
  f : Same F F'
  h : ∀ p x, H p = some x → (e = true → ∀ i, p ∉ L i) → H' p = some x
  g : ∀ p x, F' p = some x → F p = some x ∨ H p = none ∨ (e = true ∧ ∃ i, p ∈ L i)
  l : ∀ i p, p ∈ L' i → H p = none ∨ ∃ j, p ∈ L j
  q : e = false → L' = L
/-- addresses of a thing that no slot owns yet -/
structure Free (F : Hp) (L : Ft) (B : List Addr) : Prop where
  nd : B.Nodup
  f : ∀ p ∈ B, F p = none
  l : ∀ i, ∀ p ∈ B, p ∉ L i
section
variable {c : Cfg} {xo : Xs} {F F' F1 F2 H H' H1 H2 : Hp} {L L' L1 L2 : Ft} {σ : _root_.L2.St} {v v' : Env} {e e1 e2 : Bool} {B : List Addr}
theorem Rel.mem (R : Rel c xo F H L σ v) {i : Nat} {p : Addr} (h : p ∈ L i) : ∃ x, H p = some x := by
  cases q : getS v i with
  | none => rw [R.dead i q] at h; cases h
  | some o =>
    obtain ⟨u, _, ow⟩ := R.slot i o q
    exact Own.mem o u _ ow p h
theorem Step.refl : Step e F H L F H L := ⟨Same.refl F, fun _ _ h _ => h, fun _ _ h => .inl h, fun i _ h => .inr ⟨i, h⟩, fun _ => rfl⟩
theorem Step.mono (s : Step e1 F H L F' H' L') (h : e = false → e1 = false) : Step e F H L F' H' L' := by
  cases e with
  | false =>
    rw [h rfl] at s
    exact s
  | true =>
    refine ⟨s.f, fun p x hp hl => s.h p x hp fun _ => hl rfl, fun p x hp => ?_, s.l, fun z => by cases z⟩
    rcases s.g p x hp with h1 | h1 | ⟨_, h1⟩
    · exact .inl h1
    · exact .inr (.inl h1)
    · exact .inr (.inr ⟨rfl, h1⟩)
theorem Step.up (s : Step e F H L F' H' L') : Step true F H L F' H' L' := s.mono fun z => by cases z
/-- what is not there is not there before -/
theorem Step.none (s : Step e F H L F' H' L') {p : Addr} (h : H' p = none) : H p = none ∨ (e = true ∧ ∃ i, p ∈ L i) := by
  cases q : H p with
  | none => exact .inl rfl
  | some x =>
    right
    cases e with
    | false =>
      have := s.h p x q fun z => by cases z
      rw [h] at this; cases this
    | true =>
      refine ⟨rfl, Classical.byContradiction fun z => ?_⟩
      have := s.h p x q fun _ i hi => z ⟨i, hi⟩
      rw [h] at this; cases this
theorem Step.trans (s1 : Step e F H L F1 H1 L1) (s2 : Step e F1 H1 L1 F2 H2 L2) : Step e F H L F2 H2 L2 := by
  refine ⟨s1.f.trans s2.f, fun p x hp hl => ?_, fun p x hp => ?_, fun i p hp => ?_, fun z => ?_⟩
  · refine s2.h p x (s1.h p x hp hl) fun z i hi => ?_
    rcases s1.l i p hi with q | ⟨j, q⟩
    · rw [hp] at q; cases q
    · exact hl z j q
  · rcases s2.g p x hp with h1 | h1 | ⟨z, i, h1⟩
    · exact s1.g p x h1
    · rcases s1.none h1 with q | q
      · exact .inr (.inl q)
      · exact .inr (.inr q)
    · rcases s1.l i p h1 with q | q
      · exact .inr (.inl q)
      · exact .inr (.inr ⟨z, q⟩)
  · rcases s2.l i p hp with h1 | ⟨j, h1⟩
    · rcases s1.none h1 with q | ⟨_, q⟩
      · exact .inl q
      · exact .inr q
    · exact s1.l j p h1
  · rw [s2.q z, s1.q z]
/-- what no slot owns is not touched -/
theorem Free.step (b : Free F L B) (m : ∀ p ∈ B, ∃ x, H p = some x) (s : Step e F H L F' H' L') : Free F' L' B := by
  refine ⟨b.nd, fun p hp => ?_, fun i p hp hi => ?_⟩
  · cases q : F' p with
    | none => rfl
    | some x =>
      obtain ⟨y, hy⟩ := m p hp
      rcases s.g p x q with h1 | h1 | ⟨_, i, h1⟩
      · rw [b.f p hp] at h1; cases h1
      · rw [hy] at h1; cases h1
      · exact absurd h1 (b.l i p hp)
  · obtain ⟨y, hy⟩ := m p hp
    rcases s.l i p hi with h1 | ⟨j, h1⟩
    · rw [hy] at h1; cases h1
    · exact b.l j p hp h1
theorem Free.nil : Free F L [] := ⟨List.nodup_nil, fun _ h => (by cases h), fun _ _ h => (by cases h)⟩
/-- a new thing that stays for ever -/
theorem Step.newF {p : Addr} {o : HO} (le : Same F H) (h : H p = Option.none) : Step e F H L (upd F p o) (upd H p o) L := by
  refine ⟨same_new (le.free h), fun a x ha _ => same_new h a x ha, fun a x ha => ?_, fun i a ha => .inr ⟨i, ha⟩, fun _ => rfl⟩
  by_cases q : a = p
  · rw [q]; exact .inr (.inl h)
  · rw [upd_ne q] at ha; exact .inl ha
/-- a new thing that has an owner, or none -/
theorem Step.newH {p : Addr} {o : HO} (h : H p = Option.none) : Step e F H L F (upd H p o) L :=
  ⟨Same.refl F, fun a x ha _ => same_new h a x ha, fun a x ha => .inl ha, fun i a ha => .inr ⟨i, ha⟩, fun _ => rfl⟩
theorem Rel.newF {p : Addr} {o : HO} (R : Rel c xo F H L σ v) (h : H p = Option.none) : Rel c xo (upd F p o) (upd H p o) L σ v := by
  have hp : ∀ i, p ∉ L i := fun i hi => by
    obtain ⟨x, hx⟩ := R.mem hi
    rw [h] at hx; cases hx
  refine ⟨fun a u hu => ?_, fun i w hw => ?_, R.nd, R.dj, fun i q hq => ?_, R.dead, R.len, xo.mono (same_new (R.le.free h)) R.xs⟩
  · by_cases q : a = p
    · rw [q, upd_same] at hu ⊢; exact hu
    · rw [upd_ne q] at hu ⊢; exact R.le a u hu
  · obtain ⟨u, h1, h2⟩ := R.slot i w hw
    exact ⟨u, h1, Own.keep (same_new (R.le.free h)) w u _ (fun q x _ hx => same_new h q x hx) h2⟩
  · rw [upd_ne fun z => hp i (by rw [← z]; exact hq)]
    exact R.df i q hq
theorem Rel.newH {p : Addr} {o : HO} (R : Rel c xo F H L σ v) (h : H p = Option.none) : Rel c xo F (upd H p o) L σ v := by
  refine ⟨fun a u hu => same_new h a u (R.le a u hu), fun i w hw => ?_, R.nd, R.dj, R.df, R.dead, R.len, R.xs⟩
  obtain ⟨u, h1, h2⟩ := R.slot i w hw
  exact ⟨u, h1, Own.keep (Same.refl F) w u _ (fun q x _ hx => same_new h q x hx) h2⟩

/-! ### results -/
def O.isO : O → Prop
  | .fz _ => False
  | _ => True
/-- the value u is what x says; B: what it owns, where it is a thing of its own -/
def RV (c : Cfg) (F H : Hp) (L : Ft) : Val → V → List Addr → Prop
  | .fz d, u, _ => Rep c F d u
  | .tmp o, u, B => Own c F H o u B ∧ Free F L B ∧ o.isO
  | .vw i o, u, _ => ∃ B, Own c F H o u B ∧ (∀ p ∈ B, p ∈ L i) ∧ o.isO
/-- an exception -/
def RX (c : Cfg) (F : Hp) (x : Exc) (cls : Value) (d : Option Addr) : Prop :=
  cls = .ref (c.ca x.cls) ∧ ((x.fs = [] ∧ d = none) ∨ ∃ a vs, d = some a ∧ F a = some (.xd vs) ∧ Repf c F x.fs vs)
abbrev XW := Value → Option Addr → Hp → Prop
/-- not there ahead, or a slot's own -/
def New (e : Bool) (H : Hp) (L : Ft) (B : List Addr) : Prop := ∀ p ∈ B, H p = none ∨ (e = true ∧ ∃ i, p ∈ L i)
theorem New.nil : New e H L [] := fun p h => by cases h
theorem New.step {e : Bool} {F H F1 H1 : Hp} {L L1 : Ft} {B : List Addr} (n : New e H1 L1 B) (s : Step e F H L F1 H1 L1) : New e H L B := fun p hp => by
  rcases n p hp with h | ⟨z, i, h⟩
  · rcases s.none h with q | q
    · exact .inl q
    · exact .inr q
  · rcases s.l i p h with q | q
    · exact .inl q
    · exact .inr ⟨z, q⟩
theorem New.mono {e e1 : Bool} {H : Hp} {L : Ft} {B : List Addr} (n : New e1 H L B) (h : e = false → e1 = false) : New e H L B := fun p hp => by
  rcases n p hp with q | ⟨z, q⟩
  · exact .inl q
  · cases e with
    | true => exact .inr ⟨rfl, q⟩
    | false => rw [h rfl] at z; cases z
/-- what is wanted of an end r that is reached from F, H, L; B: new things -/
def okR {α : Type} (c : Cfg) (xo : Xs) (e : Bool) (F H : Hp) (L : Ft) (σ : _root_.L2.St) (r : R α) (Q : α → Hp → Hp → Ft → List Addr → Prop) (W : XW) : Prop := match r with
  | .ok a v => ∀ F' H' L' B, Rel c xo F' H' L' σ v → Step e F H L F' H' L' → New e H L B → Q a F' H' L' B
  | .exc x v => ∀ F' H' L' cls d, Rel c xo F' H' L' σ v → Step e F H L F' H' L' → RX c F' x cls d → W cls d H'
  | .bad => False
theorem okR.step {α : Type} {r : R α} {Q : α → Hp → Hp → Ft → List Addr → Prop} {W : XW} (h : okR c xo e F H L σ r Q W) (s : Step e F H L F1 H1 L1) : okR c xo e F1 H1 L1 σ r Q W := by
  cases r with
  | ok a v => exact fun F' H' L' B R t n => h F' H' L' B R (s.trans t) (n.step s)
  | exc x v => exact fun F' H' L' cls d R t => h F' H' L' cls d R (s.trans t)
  | bad => exact h
/-- the wish for a value -/
abbrev vQ (c : Cfg) (Q : VK) : Val → Hp → Hp → Ft → List Addr → Prop := fun x F' H' L' B => ∀ u, RV c F' H' L' x u B → Q u H'
/-- an evaluation's reading -/
def tE (c : Cfg) (T : Tbl) (P : Fn) (xo : Xs) (W : WX) (a : E) : TE := fun σ H Q => ∃ F L v, Rel c xo F H L σ v ∧ okR c xo (!a.pur) F H L σ (ev T P xo.e a v) (vQ c Q) (fun cls d H' => W cls d σ H')
/-- as a test -/
def tT (c : Cfg) (T : Tbl) (P : Fn) (xo : Xs) (W : WX) (a : E) : TT := fun σ H Q => ∃ F L v, Rel c xo F H L σ v ∧ okR c xo (!a.pur) F H L σ ((ev T P xo.e a v).bind fun x v => R.of v (truth x)) (fun b _ H' _ _ => Q b H') (fun cls d H' => W cls d σ H')
theorem RV.step {x : Val} {u : V} (h : RV c F H L x u B) (s : Step e F H L F' H' L') (hx : ∀ i o, x = .vw i o → e = false) : RV c F' H' L' x u B := by
  cases x with
  | fz d => exact Rep.mono s.f d u h
  | tmp o =>
    obtain ⟨h1, h2, h3⟩ := h
    have m := Own.mem o u B h1
    exact ⟨Own.keep s.f o u B (fun p x hp hx => s.h p x hx fun _ i hi => h2.l i p hp hi) h1, h2.step m s, h3⟩
  | vw i o =>
    obtain ⟨B', h1, h2, h3⟩ := h
    have z := hx i o rfl
    exact ⟨B', Own.keep s.f o u B' (fun p x hp hx => s.h p x hx fun y => by rw [z] at y; cases y) h1, fun p hp => by rw [s.q z]; exact h2 p hp, h3⟩
variable {T : Tbl} {P : Fn} {Q : VK} {W : XW} {W0 : WX}
/-- evaluate a, then go on -/
theorem bindE {α : Type} {a : E} {f : Val → Env → R α} {QA : α → Hp → Hp → Ft → List Addr → Prop} {Q1 : VK} (R0 : Rel c xo F H L σ v) (h : okR c xo e F H L σ ((ev T P xo.e a v).bind f) QA (fun cls d H' => W0 cls d σ H')) (he : e = false → a.pur = true)
    (k : ∀ x v1 F1 H1 L1 u B, Rel c xo F1 H1 L1 σ v1 → Step (!a.pur) F H L F1 H1 L1 → RV c F1 H1 L1 x u B → okR c xo e F1 H1 L1 σ (f x v1) QA (fun cls d H' => W0 cls d σ H') → New (!a.pur) H L B → okR c xo e F H L σ (f x v1) QA (fun cls d H' => W0 cls d σ H') → Q1 u H1) : tE c T P xo W0 a σ H Q1 := by
  refine ⟨F, L, v, R0, ?_⟩
  have hs : ∀ {F1 H1 L1}, Step (!a.pur) F H L F1 H1 L1 → Step e F H L F1 H1 L1 := fun s => s.mono fun z => by rw [he z]; rfl
  cases q : ev T P xo.e a v with
  | ok x v1 =>
    rw [q] at h
    have h : okR c xo e F H L σ (f x v1) QA (fun cls d H' => W0 cls d σ H') := h
    exact fun F1 H1 L1 B R1 s n u r => k x v1 F1 H1 L1 u B R1 s r (h.step (hs s)) n h
  | exc x v1 =>
    rw [q] at h
    exact fun F1 H1 L1 cls d R1 s r => h F1 H1 L1 cls d R1 (hs s) r
  | bad =>
    rw [q] at h
    exact h
theorem heldE {α : Type} {x : Val} {p : Bool} {r : R α} {QA : α → Hp → Hp → Ft → List Addr → Prop} (h : okR c xo e F H L σ (held x p r) QA W) : okR c xo e F H L σ r QA W ∧ ∀ i o, x = .vw i o → p = true := by
  cases x with
  | vw i o =>
    unfold held at h
    cases p with
    | true => exact ⟨h, fun _ _ _ => rfl⟩
    | false => exact h.elim
  | fz d => exact ⟨h, fun _ _ z => by cases z⟩
  | tmp o => exact ⟨h, fun _ _ z => by cases z⟩
theorem okR.of {α : Type} {o : Option α} {QA : α → Hp → Hp → Ft → List Addr → Prop} (h : okR c xo e F H L σ (R.of v o) QA W) : ∃ a, o = some a ∧ okR c xo e F H L σ (.ok a v) QA W := by
  cases o with
  | none => exact h.elim
  | some a => exact ⟨a, rfl, h⟩
/-- go on with less that may change -/
theorem okR.go {α : Type} {e e' : Bool} {F : Hp} {L : Ft} {r : R α} {QA : α → Hp → Hp → Ft → List Addr → Prop} {W : XW} (h : okR c xo e F H L σ r QA W) (k : e = false → e' = false) : okR c xo e' F H L σ r QA W := by
  cases r with
  | ok y v2 => exact fun F2 H2 L2 B R2 s2 n => h F2 H2 L2 B R2 (s2.mono k) (n.mono k)
  | exc y v2 => exact fun F2 H2 L2 cls d R2 s2 => h F2 H2 L2 cls d R2 (s2.mono k)
  | bad => exact h
/-- the end, nothing made -/
theorem okR.fin {x : Val} (h : okR c xo e F H L σ (.ok x v) (vQ c Q) W) (R0 : Rel c xo F H L σ v) {u : V} (r : RV c F H L x u []) : Q u H := h F H L [] R0 Step.refl New.nil u r
/-- the end, an object made that stays -/
theorem okR.finF {d : D} (h : okR c xo e F H L σ (.ok (.fz d) v) (vQ c Q) W) (R0 : Rel c xo F H L σ v) {p : Addr} {o : HO} {u : V} (hp : H p = Option.none) (r : Rep c (upd F p o) d u) : Q u (upd H p o) :=
  h _ _ L [] (R0.newF hp) (Step.newF R0.le hp) New.nil u r
/-- the end, a new list -/
theorem okR.finL {os : List O} (h : okR c xo e F H L σ (.ok (.tmp (.lst os)) v) (vQ c Q) W) (R0 : Rel c xo F H L σ v) {p : Addr} {vs : List V} (hp : H p = Option.none) (r : Owns c F H os vs []) : Q (.ref p) (upd H p (.lst vs)) := by
  refine h _ _ L [p] (R0.newH hp) (Step.newH hp) (fun q hq => ?_) (.ref p) ⟨⟨p, vs, [], rfl, upd_same, rfl, Owns.keep (Same.refl F) os vs [] (fun q x hq => by cases hq) r⟩, ⟨List.nodup_cons.mpr ⟨List.not_mem_nil, List.nodup_nil⟩, fun q hq => ?_, fun i q hq hi => ?_⟩, trivial⟩
  · rcases List.mem_cons.mp hq with rfl | hq
    · exact .inl hp
    · cases hq
  · rcases List.mem_cons.mp hq with rfl | hq
    · exact R0.le.free hp
    · cases hq
  · rcases List.mem_cons.mp hq with rfl | hq
    · obtain ⟨x, hx⟩ := R0.mem hi
      rw [hp] at hx; cases hx
    · cases hq
/-- a thing of its own becomes one that stays -/
theorem frozen {o : O} {u : V} {e' : Bool} (R1 : Rel c xo F1 H1 L1 σ v) (s : Step e F H L F1 H1 L1) (w : Own c F1 H1 o u B) (fr : Free F1 L1 B) (n : New e H L B) :
    ∃ F2, Rel c xo F2 H1 L1 σ v ∧ Step e F H L F2 H1 L1 ∧ Same F1 F2 ∧ Rep c F2 o.frz u := by
  classical
  have hF : ∃ F2 : Hp, ∀ p, F2 p = if p ∈ B then H1 p else F1 p := ⟨_, fun _ => rfl⟩
  obtain ⟨F2, hF⟩ := hF
  have hs : Same F1 F2 := fun a x hx => by
    by_cases z : a ∈ B
    · rw [fr.f a z] at hx; cases hx
    · rw [hF, if_neg z]; exact hx
  refine ⟨F2, ?_, ?_, ?_, ?_⟩
  · refine ⟨fun a x hx => ?_, fun i w hw => ?_, R1.nd, R1.dj, fun i p hp => ?_, R1.dead, R1.len, xo.mono hs R1.xs⟩
    · by_cases z : a ∈ B
      · rw [hF, if_pos z] at hx; exact hx
      · rw [hF, if_neg z] at hx; exact R1.le a x hx
    · obtain ⟨u, h1, h2⟩ := R1.slot i w hw
      refine ⟨u, h1, Own.keep (fun a x hx => ?_) w u _ (fun p x _ hx => hx) h2⟩
      by_cases z : a ∈ B
      · rw [fr.f a z] at hx; cases hx
      · rw [hF, if_neg z]; exact hx
    · rw [hF, if_neg fun z => fr.l i p z hp]
      exact R1.df i p hp
  · refine ⟨fun a x hx => ?_, s.h, fun p x hx => ?_, s.l, s.q⟩
    · have := s.f a x hx
      by_cases z : a ∈ B
      · rw [fr.f a z] at this; cases this
      · rw [hF, if_neg z]; exact this
    · by_cases z : p ∈ B
      · exact .inr (n p z)
      · rw [hF, if_neg z] at hx
        exact s.g p x hx
  · intro a x hx
    by_cases z : a ∈ B
    · rw [fr.f a z] at hx; cases hx
    · rw [hF, if_neg z]; exact hx
  · refine Own.frz (fun a x hx => ?_) o u B (fun p x hp hx => by rw [hF, if_pos hp]; exact hx) w
    by_cases z : a ∈ B
    · rw [fr.f a z] at hx; cases hx
    · rw [hF, if_neg z]; exact hx
/-- what is seen: its items -/
theorem RV.items {x : Val} {u : V} {ds : List D} (h : RV c F H L x u B) (le : Same F H) (hi : x.items = some ds) : ∃ a vs, u = .ref a ∧ (SqL c.K H a vs ∨ SqT c.K H a vs) ∧ Reps c F ds vs := by
  cases x with
  | fz d =>
    cases d with
    | lst xs =>
      cases hi
      obtain ⟨a, vs, h1, h2, h3⟩ := h
      exact ⟨a, vs, h1, .inl (Same.seq le h2), h3⟩
    | tup xs =>
      cases hi
      obtain ⟨a, vs, h1, h2, h3⟩ := h
      exact ⟨a, vs, h1, .inr (Same.tup le h2), h3⟩
    | _ => cases hi
  | tmp o =>
    cases o with
    | lst os =>
      obtain ⟨⟨a, vs, B', h1, h2, h3, h4⟩, _⟩ := h
      exact ⟨a, vs, h1, .inl (.inl (.inl h2)), (Owns.fzs h4 hi).1⟩
    | _ => cases hi
  | vw i o =>
    cases o with
    | lst os =>
      obtain ⟨B2, ⟨a, vs, B', h1, h2, h3, h4⟩, _⟩ := h
      exact ⟨a, vs, h1, .inl (.inl (.inl h2)), (Owns.fzs h4 hi).1⟩
    | _ => cases hi
end
end Pv

set_option Elab.async false
set_option linter.all false
set_option maxRecDepth 100000
/-! PvE: that a piece of our language is the text's: the look. -/
namespace Pv
open PySem PySem.Spec PyProof.Rows L2

/-! ### what an expression is -/
def dName : Expr → Option Str
  | .Name x _ => some x
  | _ => none
def dConst : Expr → Option Const
  | .Constant k _ _ => some k
  | _ => none
def dBin : Expr → Option (Expr × Operator × Expr)
  | .BinOp l o r _ => some (l, o, r)
  | _ => none
def dUn : Expr → Option (UnaryOp × Expr)
  | .UnaryOp o e _ => some (o, e)
  | _ => none
def dBool : Expr → Option (BoolOp × List Expr)
  | .BoolOp o es _ => some (o, es)
  | _ => none
def dBoolP : Expr → Option (BoolOp × List Expr × Pos)
  | .BoolOp o es p => some (o, es, p)
  | _ => none
def dCmp : Expr → Option (Expr × List CmpOp × List Expr)
  | .Compare a os es _ => some (a, os, es)
  | _ => none
def dIf : Expr → Option (Expr × Expr × Expr)
  | .IfExp t a b _ => some (t, a, b)
  | _ => none
def dTup : Expr → Option (List Expr)
  | .Tuple es _ _ => some es
  | _ => none
def dLst : Expr → Option (List Expr)
  | .List es _ => some es
  | _ => none
/-- x[i], i no slice -/
def dSub : Expr → Option (Expr × Expr)
  | .Subscript _ (.Slice _ _ _ _) _ => none
  | .Subscript a i _ => some (a, i)
  | _ => none
def dSl : Expr → Option (Expr × Option Expr × Option Expr)
  | .Subscript a (.Slice lo hi none _) _ => some (a, lo, hi)
  | _ => none
def dAtt : Expr → Option (Expr × Str)
  | .Attribute e f _ => some (e, f)
  | _ => none
/-- f(..), f a name, no keywords -/
def dCall : Expr → Option (Str × List Expr)
  | .Call (.Name x _) es [] _ => some (x, es)
  | _ => none
/-- o.m(..), told in one row, no keywords -/
def dMeth : Expr → Option (Expr × Str × List Expr)
  | .Call (.Attribute o y ap) xs [] p => if ap.endLine == p.line then some (o, y, xs) else none
  | _ => none
/-- C(.., k = ..) -/
def dCallK : Expr → Option (Str × List Expr × List Keyword)
  | .Call (.Name x _) es ks _ => some (x, es, ks)
  | _ => none
def dLc : Expr → Option (Expr × Expr × Expr × List Expr × Scope)
  | .ListComp e [⟨t, it, ifs, 0⟩] sc _ => some (e, t, it, ifs, sc)
  | _ => none
def dLc2 : Expr → Option (Expr × Expr × Expr × List Expr × Expr × Expr × List Expr × Scope)
  | .ListComp e [⟨t, it, ifs, 0⟩, ⟨t2, it2, ifs2, 0⟩] sc _ => some (e, t, it, ifs, t2, it2, ifs2, sc)
  | _ => none
section
variable {e : Expr}
theorem dName_eq {x} (h : dName e = some x) : ∃ p, e = .Name x p := by
  cases e <;> simp [dName] at h
  subst h; exact ⟨_, rfl⟩
theorem dConst_eq {k} (h : dConst e = some k) : ∃ j p, e = .Constant k j p := by
  cases e <;> simp [dConst] at h
  subst h; exact ⟨_, _, rfl⟩
theorem dBin_eq {l o r} (h : dBin e = some (l, o, r)) : ∃ p, e = .BinOp l o r p := by
  cases e <;> simp [dBin] at h
  obtain ⟨rfl, rfl, rfl⟩ := h; exact ⟨_, rfl⟩
theorem dUn_eq {o a} (h : dUn e = some (o, a)) : ∃ p, e = .UnaryOp o a p := by
  cases e <;> simp [dUn] at h
  obtain ⟨rfl, rfl⟩ := h; exact ⟨_, rfl⟩
theorem dBool_eq {o es} (h : dBool e = some (o, es)) : ∃ p, e = .BoolOp o es p := by
  cases e <;> simp [dBool] at h
  obtain ⟨rfl, rfl⟩ := h; exact ⟨_, rfl⟩
theorem dBoolP_eq {o es p} (h : dBoolP e = some (o, es, p)) : e = .BoolOp o es p := by
  cases e <;> simp [dBoolP] at h
  obtain ⟨rfl, rfl, rfl⟩ := h; rfl
theorem dCmp_eq {a os es} (h : dCmp e = some (a, os, es)) : ∃ p, e = .Compare a os es p := by
  cases e <;> simp [dCmp] at h
  obtain ⟨rfl, rfl, rfl⟩ := h; exact ⟨_, rfl⟩
theorem dIf_eq {t a b} (h : dIf e = some (t, a, b)) : ∃ p, e = .IfExp t a b p := by
  cases e <;> simp [dIf] at h
  obtain ⟨rfl, rfl, rfl⟩ := h; exact ⟨_, rfl⟩
theorem dTup_eq {es} (h : dTup e = some es) : ∃ k p, e = .Tuple es k p := by
  cases e <;> simp [dTup] at h
  subst h; exact ⟨_, _, rfl⟩
theorem dLst_eq {es} (h : dLst e = some es) : ∃ p, e = .List es p := by
  cases e <;> simp [dLst] at h
  subst h; exact ⟨_, rfl⟩
theorem dSub_eq {a i} (h : dSub e = some (a, i)) : ∃ p, e = .Subscript a i p ∧ PlainIx i := by
  cases e with
  | Subscript b j p =>
    cases j <;> simp [dSub] at h <;> (obtain ⟨rfl, rfl⟩ := h; exact ⟨_, rfl, fun _ _ => rfl⟩)
  | _ => simp [dSub] at h
theorem dSl_eq {a lo hi} (h : dSl e = some (a, lo, hi)) : ∃ p p2, e = .Subscript a (.Slice lo hi none p2) p := by
  cases e with
  | Subscript b j p =>
    cases j with
    | Slice l u st p2 =>
      cases st <;> simp [dSl] at h
      obtain ⟨rfl, rfl, rfl⟩ := h; exact ⟨_, _, rfl⟩
    | _ => simp [dSl] at h
  | _ => simp [dSl] at h
theorem dAtt_eq {a f} (h : dAtt e = some (a, f)) : ∃ p, e = .Attribute a f p := by
  cases e <;> simp [dAtt] at h
  obtain ⟨rfl, rfl⟩ := h; exact ⟨_, rfl⟩
theorem dCall_eq {x es} (h : dCall e = some (x, es)) : ∃ p q, e = .Call (.Name x p) es [] q := by
  cases e with
  | Call f as ks p =>
    cases f with
    | Name y q =>
      cases ks <;> simp [dCall] at h
      obtain ⟨rfl, rfl⟩ := h; exact ⟨_, _, rfl⟩
    | _ => simp [dCall] at h
  | _ => simp [dCall] at h
theorem dMeth_eq {o y xs} (h : dMeth e = some (o, y, xs)) : ∃ ap p, e = .Call (.Attribute o y ap) xs [] p ∧ ap.endLine = p.line := by
  unfold dMeth at h
  split at h
  · split at h
    · rename_i g
      cases h
      exact ⟨_, _, rfl, eq_of_beq g⟩
    · cases h
  · cases h
theorem dCallK_eq {x es ks} (h : dCallK e = some (x, es, ks)) : ∃ p q, e = .Call (.Name x p) es ks q := by
  unfold dCallK at h
  split at h
  · cases h
    exact ⟨_, _, rfl⟩
  · cases h
theorem dLc_eq {a t it ifs sc} (h : dLc e = some (a, t, it, ifs, sc)) : ∃ p, e = .ListComp a [⟨t, it, ifs, 0⟩] sc p := by
  unfold dLc at h
  split at h
  · simp at h
    obtain ⟨rfl, rfl, rfl, rfl, rfl⟩ := h
    exact ⟨_, rfl⟩
  · cases h
theorem dLc2_eq {a t it ifs t2 it2 ifs2 sc} (h : dLc2 e = some (a, t, it, ifs, t2, it2, ifs2, sc)) : ∃ p, e = .ListComp a [⟨t, it, ifs, 0⟩, ⟨t2, it2, ifs2, 0⟩] sc p := by
  unfold dLc2 at h
  split at h
  · simp at h
    obtain ⟨rfl, rfl, rfl, rfl, rfl, rfl, rfl, rfl⟩ := h
    exact ⟨_, rfl⟩
  · cases h
end
/-- no star, no call of nothing (super()), no set display -/
def plainX : Expr → Bool
  | .Starred _ _ => false
  | .Call _ [] [] _ => false
  | .Set _ _ _ => false
  | _ => true
theorem plain_star {e : Expr} (h : plainX e = true) (es : List Expr) (env : PySem.Env) : starEach (e :: es) env = (false, eval e env) :: starEach es env := by
  cases e <;> first | rfl | cases h
theorem plain_stars {es : List Expr} (h : es.all plainX = true) (p : Pos) (env : PySem.Env) : (PySem.backTo p (starEach es env)).any (·.1) = false := by
  induction es with
  | nil => rfl
  | cons e es ih =>
    simp only [List.all_cons, Bool.and_eq_true] at h
    rw [plain_star h.1]
    unfold PySem.backTo at ih ⊢
    simp only [List.map_cons, List.any_cons, Bool.false_or]
    exact ih h.2
theorem plain_base {e : Expr} (h : plainX e = true) (f : Str) (env : PySem.Env) : attributeBase e f env (eval e env) = eval e env := by
  cases e with
  | Call g as ks p =>
    cases as with
    | nil =>
      cases ks with
      | nil => cases h
      | cons _ _ => cases g <;> rfl
    | cons _ _ => cases g <;> rfl
  | _ => rfl
theorem plain_fold {e : Expr} (h : plainX e = true) (env : PySem.Env) (x : Value) : foldedSetIterable e env x = pure x := by
  cases e <;> first | rfl | cases h
theorem plain_mark {e : Expr} (h : plainX e = true) (o : CmpOp) : behindInMarks o e = false := by
  cases e <;> first | rfl | cases h
/-- as a test: its value's truth -/
def plainT : Expr → Bool
  | .Name _ _ => true
  | .Call _ _ _ _ => true
  | .Attribute _ _ _ => true
  | .Subscript _ _ _ => true
  | .Constant _ _ _ => true
  | .BinOp _ _ _ _ => true
  | _ => false
theorem plain_test {e : Expr} (h : plainT e = true) (env : PySem.Env) (whole : Sem Value) : isTrue e env whole = (do let v ← whole; standAt e.pos; holding [v] (truthy v)) := by
  cases e <;> first | rfl | cases h

/-! ### the look -/
structure Info where
  /-- defs' and classes' names in the module, attributes' names -/
  fnm : Nat → Str
  cnm : Nat → Str
  anm : Nat → Str
  cst : List (Str × D)
  ks : List Nat
  /-- exception classes by name -/
  xs : List Nat
  /-- exception classes that are raised -/
  rk : List Nat
  /-- defs of the module; defs, classes called by place -/
  fg : List Nat
  fp : List Nat
  kp : List Nat
  /-- calls with keywords or defaults: the def (the class), how many by place, the names, the parameters -/
  kf : List (Nat × Nat × List Str × List Pm)
  kc : List (Nat × Nat × List Str × List Pm)
instance : DecidableEq NameKind := inferInstance
def seen (sc : Scope) (x : Str) : Bool := sc.names.lookup x == some .local || (sc.names.lookup x == some .cell || sc.names.lookup x == some .free)
def stored (sc : Scope) (x : Str) : Bool := sc.names.lookup x == some .local || sc.names.lookup x == some .cell
def gl (sc : Scope) (x : Str) : Bool := sc.names.lookup x == some .globalImplicit && (!(x == ("__debug__" : Str)) && !(x == ("__name__" : Str)))
def slotIs (sc : Scope) (N : List Str) (i : Nat) (x : Str) : Bool := N[i]? == some x && (seen sc x && (!(x == ("__debug__" : Str)) && !(x == ("__classdict__" : Str))))
def constIs : D → Const → Bool
  | .non, .none => true
  | .bl a, .bool b => a == b
  | .int i, .int j => i == j
  | .str x, .str y => x == y
  | _, _ => false
def opIs : B2 → Operator → Bool
  | .add, .Add => true
  | .sub, .Sub => true
  | .mul, .Mult => true
  | .fdiv, .FloorDiv => true
  | .mod, .Mod => true
  | .pow, .Pow => true
  | _, _ => false
def cmOp : Cm → CmpOp
  | .eq => .Eq
  | .ne => .NotEq
  | .lt => .Lt
  | .le => .LtE
  | .gt => .Gt
  | .ge => .GtE
  | .is => .Is
  | .isnt => .IsNot
  | .inn => .In
  | .notin => .NotIn
def biName : Bi → Str
  | .len => "len"
  | .min => "min"
  | .max => "max"
  | .int => "int"
  | .bool => "bool"
  | .tuple => "tuple"
  | .list => "list"
  | .all => "all"
def tyName : Ty → Option Str
  | .int => some "int"
  | .bool => some "bool"
  | .str => some "str"
  | .list => some "list"
  | .tuple => some "tuple"
  | .cls _ => none
/-- the built-in names that the module leaves free -/
def freeNames : List Str := ["len", "min", "max", "int", "bool", "tuple", "list", "all", "str", "isinstance", "range", "enumerate", "zip", "divmod"]
def D.eqC : D → D → Bool
  | .non, .non => true
  | .bl a, .bl b => a == b
  | .int i, .int j => i == j
  | .str x, .str y => x == y
  | _, _ => false
theorem D.eqC_eq : ∀ {a b : D}, a.eqC b = true → a = b ∧ a.flat = true := by
  intro a b h
  cases a <;> cases b <;> simp [D.eqC] at h <;> first | exact ⟨rfl, rfl⟩ | (subst h; exact ⟨rfl, rfl⟩)
def Pm.eqC : Pm → Pm → Bool
  | .a i, .a j => i == j
  | .d x, .d y => x.eqC y
  | _, _ => false
def pmsEq : List Pm → List Pm → Bool
  | [], [] => true
  | p :: ps, q :: qs => p.eqC q && pmsEq ps qs
  | _, _ => false
theorem pmsEq_eq : ∀ {a b : List Pm}, pmsEq a b = true → a = b
  | [], [], _ => rfl
  | p :: ps, q :: qs, h => by
    simp only [pmsEq, Bool.and_eq_true] at h
    obtain ⟨h1, h2⟩ := h
    have : p = q := by
      cases p <;> cases q <;> simp only [Pm.eqC] at h1 <;> first | (rw [eq_of_beq h1]) | (rw [(D.eqC_eq h1).1]) | cases h1
    rw [this, pmsEq_eq h2]
  | [], _ :: _, h => by cases h
  | _ :: _, [], h => by cases h
def kwsOf : List Keyword → Option (List Str × List Expr)
  | [] => some ([], [])
  | ⟨some x, e, _⟩ :: r => (kwsOf r).map fun q => (x :: q.1, e :: q.2)
  | _ => none
def kIn (kf : List (Nat × Nat × List Str × List Pm)) (f n : Nat) (ks : List Str) (pm : List Pm) : Bool := kf.any fun q => q.1 == f && (q.2.1 == n && (q.2.2.1 == ks && pmsEq q.2.2.2 pm))
theorem kIn_mem {kf : List (Nat × Nat × List Str × List Pm)} {f n : Nat} {ks : List Str} {pm : List Pm} (h : kIn kf f n ks pm = true) : (f, n, ks, pm) ∈ kf := by
  obtain ⟨q, h1, h2⟩ := List.any_eq_true.mp h
  simp only [Bool.and_eq_true] at h2
  obtain ⟨a, b, c, d⟩ := q
  have e1 := eq_of_beq h2.1
  have e2 := eq_of_beq h2.2.1
  have e3 := eq_of_beq h2.2.2.1
  have e4 := pmsEq_eq h2.2.2.2
  simp only at e1 e2 e3 e4
  subst e1 e2 e3 e4
  exact h1
/-- where there is one: what is said of it -/
def oand {α : Type} (o : Option α) (f : α → Bool) : Bool := match o with
  | some x => f x
  | none => false
theorem opt_and {α : Type} {o : Option α} {f : α → Bool} (h : oand o f = true) : ∃ x, o = some x ∧ f x = true := by
  cases o with
  | none => cases h
  | some x => exact ⟨x, rfl, h⟩
section
variable (J : Info) (xf : List Nat)
def chkTy (sc : Scope) (t : Ty) (e : Expr) : Bool := (oand (dName e) fun x => gl sc x && (match t with
    | .cls k => x == J.cnm k && J.ks.contains k
    | t => tyName t == some x))
def chkTys (sc : Scope) : List Ty → List Expr → Bool
  | [], [] => true
  | t :: ts, e :: es => chkTy J sc t e && (plainX e && chkTys sc ts es)
  | _, _ => false
mutual
/-- fs: the names whose stores are known of (Cx.fn) -/
def chkG (sc : Scope) (fs : Str → Bool) (N : List Str) : G → Expr → Bool
  | .n i, e => (oand (dName e) fun x => N[i]? == some x && (sc.names.lookup x == some .local || (sc.names.lookup x == some .cell && fs x)))
  | .t gs, e => (oand (dTup e) fun es => chkGs sc fs N gs es)
def chkGs (sc : Scope) (fs : Str → Bool) (N : List Str) : List G → List Expr → Bool
  | [], [] => true
  | g :: gs, e :: es => chkG sc fs N g e && chkGs sc fs N gs es
  | _, _ => false
end
def fsAll : Str → Bool := fun _ => true
def fsOf (s : Scope) : Str → Bool := fun x => s.names.lookup x == some .cell
/-- one or no test of a clause -/
def one? : List Expr → Option (Option Expr)
  | [] => some none
  | [e] => some (some e)
  | _ => none
def ownOf (N : List Str) (own : List Nat) : List (Str × Nat) := own.map fun i => (N.getD i "", i)
/-- no slots by reference -/
def EL.vals : EL → Bool
  | .nil => true
  | .cons _ es => es.vals
  | .ref _ _ => false
/-- as a test: its truth -/
def tst (w : Bool) (e : Expr) : Bool := match w with
  | true => plainT e
  | false => true
mutual
/-- w: as a test -/
def chkX (xa w : Bool) (sc : Scope) (N : List Str) : E → Expr → Bool
  | .c d, e => tst w e && (oand (dConst e) fun k => constIs d k)
  | .g x d, e => tst w e && (oand (dName e) fun y => x == y && (gl sc x && J.cst.any fun p => p.1 == x && p.2.eqC d))
  | .v i, e => tst w e && (oand (dName e) fun x => slotIs sc N i x)
  | .mv i, e => false && (oand (dName e) fun x => slotIs sc N i x)
  | .o2 o a b, e => tst w e && (oand (dBin e) fun (l, op, r) => opIs o op && (chkX xa false sc N a l && chkX xa false sc N b r))
  | .ng a, e => !w && match dUn e with
    | some (.USub, x) => chkX xa false sc N a x
    | _ => false
  | .cm o a b, e => match dCmp e with
    | some (l, [op], [r]) => op == cmOp o && (plainX r && (chkX xa false sc N a l && chkX xa false sc N b r))
    | _ => false
  | .ch o p a b c, e => match dCmp e with
    | some (x, [q, r], [y, z]) => q == cmOp o && (r == cmOp p && (plainX y && (plainX z && (chkX xa false sc N a x && (chkX xa false sc N b y && chkX xa false sc N c z)))))
    | _ => false
  | .ch3 o p s a b c d, e => match dCmp e with
    | some (x, [q, r, t], [y, z, w]) => q == cmOp o && (r == cmOp p && (t == cmOp s && (plainX y && (plainX z && (plainX w && (chkX xa false sc N a x && (chkX xa false sc N b y && (chkX xa false sc N c z && chkX xa false sc N d w))))))))
    | _ => false
  | .an a b, e => !w && match dBoolP e with
    | some (.And, [x, y], _) => chkX xa false sc N a x && chkX xa false sc N b y
    | some (.And, x :: y :: z :: r, p) => chkX xa false sc N a x && chkX xa false sc N b (.BoolOp .And (y :: z :: r) p)
    | _ => false
  | .or a b, e => !w && match dBoolP e with
    | some (.Or, [x, y], _) => chkX xa false sc N a x && chkX xa false sc N b y
    | some (.Or, x :: y :: z :: r, p) => chkX xa false sc N a x && chkX xa false sc N b (.BoolOp .Or (y :: z :: r) p)
    | _ => false
  | .ta a b, e => match dBoolP e with
    | some (.And, [x, y], _) => w && (chkX xa true sc N a x && chkX xa true sc N b y)
    | some (.And, x :: y :: z :: r, p) => w && (chkX xa true sc N a x && chkX xa true sc N b (.BoolOp .And (y :: z :: r) p))
    | _ => false
  | .to a b, e => match dBoolP e with
    | some (.Or, [x, y], _) => w && (chkX xa true sc N a x && chkX xa true sc N b y)
    | some (.Or, x :: y :: z :: r, p) => w && (chkX xa true sc N a x && chkX xa true sc N b (.BoolOp .Or (y :: z :: r) p))
    | _ => false
  | .nt a, e => match dUn e with
    | some (.Not, x) => chkX xa w sc N a x
    | _ => false
  | .ite t a b, e => !w && (oand (dIf e) fun (x, y, z) => chkX xa true sc N t x && (chkX xa false sc N a y && chkX xa false sc N b z))
  | .tup es, e => !w && (oand (dTup e) fun xs => decide (xs.length ≤ 1000) && chkEL xa sc N es xs)
  | .lst es, e => !w && (oand (dLst e) fun xs => decide (xs.length ≤ 1000) && chkEL xa sc N es xs)
  | .ix a i, e => tst w e && (oand (dSub e) fun (x, y) => chkX xa false sc N a x && chkX xa false sc N i y)
  | .ixv k i, e => tst w e && (oand (dSub e) fun (x, y) => ((oand (dName x) fun z => slotIs sc N k z)) && chkX xa false sc N i y)
  | .sl a lo hi, e => tst w e && (oand (dSl e) fun (x, l, h) => chkX xa false sc N a x && (chkOE xa sc N lo l && chkOE xa sc N hi h))
  | .att a f, e => !xa && (tst w e && (oand (dAtt e) fun (x, y) => y == J.anm f && (plainX x && chkX xa false sc N a x)))
  | .kat c f d, e => false
  | .bi b es, e => !xa && (tst w e && match dCall e with
    | some (x, [y]) => x == biName b && (gl sc x && (es.vals && chkEL xa sc N es [y]))
    | some (x, [y, z]) => x == biName b && (gl sc x && (es.vals && chkEL xa sc N es [y, z]))
    | _ => false)
  | .rep a n, e => tst w e && match dBin e with
    | some (l, .Mult, r) => chkX xa false sc N a l && chkX xa false sc N n r
    | _ => false
  | .dm a b, e => !xa && (tst w e && match dCall e with
    | some (x, [y, z]) => x == ("divmod" : Str) && (gl sc x && (plainX y && (plainX z && (chkX xa false sc N a y && chkX xa false sc N b z))))
    | _ => false)
  | .isi a ts one, e => tst w e && match dCall e with
    | some (x, [y, z]) => x == ("isinstance" : Str) && (gl sc x && (plainX y && (plainX z && (chkX xa false sc N a y && (match one, ts with
      | true, [t] => chkTy J sc t z
      | false, ts => ((oand (dTup z) fun zs => decide (zs.length ≤ 1000) && chkTys J sc ts zs))
      | _, _ => false)))))
    | _ => false
  | .lc own g it t el, e => !xa && (!w && (oand (dLc e) fun (x, tg, itx, ifs, s) => (own.all fun i => !xf.contains i) && (blkC N sc s (ownOf N own) && (plainX itx && (chkI xa sc N it tg itx && (chkG (relS s sc) (fsOf s) N g tg && ((g.sl.all fun i => own.contains i) && (chkX false false (relS s sc) N el x && ((oand (one? ifs) fun o => chkOT false (relS s sc) N t o))))))))))
  | .lc2 own own2 g it t g2 it2 t2 el, e => !xa && (!w && (oand (dLc2 e) fun (x, tg, itx, ifs, tg2, itx2, ifs2, s) => (own.all fun i => !xf.contains i) && (blkC N sc s (ownOf N own) && (plainX itx && (plainX itx2 && (chkI xa sc N it tg itx && (chkG (relS s sc) (fsOf s) N g tg && (chkI false (relS s sc) N it2 tg2 itx2 && (chkG (relS s sc) (fsOf s) N g2 tg2 && ((g.sl.all fun i => own.contains i) && ((g2.sl.all fun i => own2.contains i) && (chkX false false (relS s sc) N el x && ((own2.all fun i => own.contains i) && (((oand (one? ifs) fun o => chkOT false (relS s sc) N t o)) && ((oand (one? ifs2) fun o => chkOT false (relS s sc) N t2 o))))))))))))))))
  | .call f es, e => !xa && (tst w e && (oand (dCall e) fun (x, xs) => x == J.fnm f && (J.fg.contains f && (J.fp.contains f && (gl sc x && (!xs.isEmpty && chkEL xa sc N es xs))))))
  | .callk f pm es ek, e => !xa && (tst w e && (oand (dCallK e) fun (x, xs, kws) => ((oand (kwsOf kws) fun (ks, ys) => x == J.fnm f && (J.fg.contains f && (gl sc x && (!xs.isEmpty && (kIn J.kf f xs.length ks pm && (chkEL xa sc N es xs && chkEL xa sc N ek ys)))))))))
  | .meth m es, e => !xa && (tst w e && (oand (dMeth e) fun (o, y, xs) => y == J.anm m && (decide (xs.length < 30) && (match es with
      | .cons a es => plainX o && (chkX xa false sc N a o && chkEL xa sc N es xs)
      | .ref k es => ((oand (dName o) fun z => slotIs sc N k z)) && chkEL xa sc N es xs
      | .nil => false))))
  | .new k es, e => !xa && (tst w e && (oand (dCall e) fun (x, xs) => x == J.cnm k && (J.ks.contains k && (J.kp.contains k && (gl sc x && (!xs.isEmpty && chkEL xa sc N es xs))))))
  | .newk k pm es ek, e => !xa && (tst w e && (oand (dCallK e) fun (x, xs, kws) => ((oand (kwsOf kws) fun (ks, ys) => x == J.cnm k && (J.ks.contains k && (gl sc x && (!xs.isEmpty && (kIn J.kc k xs.length ks pm && (chkEL xa sc N es xs && chkEL xa sc N ek ys)))))))))
  | .xat k f, e => tst w e && (xa && (xf.contains k && (oand (dAtt e) fun (x, y) => y == J.anm f && ((oand (dName x) fun z => slotIs sc N k z)))))
  | .xis k cs one, e => false
def chkOE (xa : Bool) (sc : Scope) (N : List Str) : OE → Option Expr → Bool
  | .no, none => true
  | .yes a, some e => chkX xa false sc N a e
  | _, _ => false
def chkOT (xa : Bool) (sc : Scope) (N : List Str) : OE → Option Expr → Bool
  | .no, none => true
  | .yes a, some e => chkX xa true sc N a e
  | _, _ => false
def chkEL (xa : Bool) (sc : Scope) (N : List Str) : EL → List Expr → Bool
  | .nil, [] => true
  | .cons a es, x :: xs => plainX x && (chkX xa false sc N a x && chkEL xa sc N es xs)
  | .ref k es, x :: xs => ((oand (dName x) fun z => slotIs sc N k z)) && chkEL xa sc N es xs
  | _, _ => false
def chkI (xa : Bool) (sc : Scope) (N : List Str) : I → Expr → Expr → Bool
  | .seq a, _, e => plainX e && chkX xa false sc N a e
  | .rng1 a, _, e => match dCall e with
    | some (x, [y]) => x == ("range" : Str) && (gl sc x && (plainX y && chkX xa false sc N a y))
    | _ => false
  | .rng2 a b, _, e => match dCall e with
    | some (x, [y, z]) => x == ("range" : Str) && (gl sc x && (plainX y && (plainX z && (chkX xa false sc N a y && chkX xa false sc N b z))))
    | _ => false
  | .enum a, tg, e => (dTup tg).isSome && match dCall e with
    | some (x, [y]) => x == ("enumerate" : Str) && (gl sc x && (plainX y && chkX xa false sc N a y))
    | _ => false
  | .zip _ _, _, _ => false
end
end
end Pv

set_option Elab.async false
set_option linter.all false
set_option maxRecDepth 100000
/-! PvF: expressions, construct by construct. -/
namespace Pv
open PySem PySem.Spec PyProof.Rows L2

section
variable {X : Cx} {c : Cfg} {T : Tbl} {P : Fn} {xo : Xs} {W0 : WX} {e e1 e2 : Expr} {a b : E} {p : Pos}
theorem pe_imp {t t' : TE} (h : PE X e t) (k : ∀ σ H Q, t' σ H Q → t σ H Q) : PE X e t' := ⟨fun pins s σ H Q I q => h.run pins s σ H Q I (k σ H Q q)⟩
theorem pt_imp {t t' : TT} (h : PT X e t) (k : ∀ σ H Q, t' σ H Q → t σ H Q) : PT X e t' := ⟨fun pins s σ H Q I q => h.run pins s σ H Q I (k σ H Q q)⟩
theorem pe_by {t' : TE} (k : ∀ σ H Q, t' σ H Q → ∃ t, PE X e t ∧ t σ H Q) : PE X e t' := ⟨fun pins s σ H Q I q => let ⟨t, h, z⟩ := k σ H Q q; h.run pins s σ H Q I z⟩
theorem pt_by {t' : TT} (k : ∀ σ H Q, t' σ H Q → ∃ t, PT X e t ∧ t σ H Q) : PT X e t' := ⟨fun pins s σ H Q I q => let ⟨t, h, z⟩ := k σ H Q q; h.run pins s σ H Q I z⟩

/-! ### constants and names -/
theorem rep_const {F : Hp} {d : D} {k : Const} (h : constIs d k = true) : ∃ v, Rep c F d v ∧ ∀ {j : Nat} {p : Pos}, PE X (.Constant k j p) (tC v) := by
  cases d <;> cases k <;> simp [constIs] at h
  · exact ⟨.non, rfl, pe_non⟩
  · subst h; exact ⟨_, rfl, pe_bl⟩
  · subst h; exact ⟨_, rfl, pe_int⟩
  · subst h; exact ⟨_, rfl, pe_str⟩
theorem s_c {d : D} {k : Const} {j : Nat} (h : constIs d k = true) : PE X (.Constant k j p) (tE c T P xo W0 (.c d)) := by
  refine pe_by fun σ H Q ⟨F, L, v, R0, q⟩ => ?_
  obtain ⟨u, r, t⟩ := rep_const (c := c) (F := F) (X := X) h
  exact ⟨_, t, okR.fin (x := .fz d) q R0 r⟩
/-- a flat tree as a value -/
def fv : D → V
  | .bl b => .bl b
  | .int i => .int i
  | .str x => .str x
  | _ => .non
theorem fv_rep {F : Hp} {d : D} (h : d.flat = true) : Rep c F d (fv d) := by
  cases d <;> first | rfl | cases h
theorem s_g {x : Str} {d : D} {u : Value} (hg : Gl X x) (hm : X.mg x = some u) (r : RelV (fv d) u) (hf : d.flat = true) (hd : (x == ("__debug__" : Str)) = false) : PE X (.Name x p) (tE c T P xo W0 (.g x d)) :=
  pe_imp (pe_glob hg hm r hd) fun σ H Q ⟨F, L, v, R0, q⟩ => okR.fin (x := .fz d) q R0 (fv_rep hf)
/-- what a slot shows -/
theorem rv_at {F H : Hp} {L : Ft} {i : Nat} {o : O} {u : V} {B : List Addr} (h : Own c F H o u B) (hB : ∀ p ∈ B, p ∈ L i) : RV c F H L (.at i o) u [] := by
  cases o with
  | fz d => exact h.1
  | lst os => exact ⟨B, h, hB, trivial⟩
  | obj k fs => exact ⟨B, h, hB, trivial⟩
theorem s_v {i : Nat} {x : Str} (hN : X.N[i]? = some x) (hv : Vis X.env.scope x) (hd : (x == ("__debug__" : Str)) = false) (hcd : (x == ("__classdict__" : Str)) = false) : PE X (.Name x p) (tE c T P xo W0 (.v i)) := by
  refine pe_imp (pe_var hN hv hd hcd) fun σ H Q ⟨F, L, v, R0, q⟩ => ?_
  simp only [ev] at q
  cases g : getS v i with
  | none => rw [g] at q; exact q.elim
  | some o =>
    rw [g] at q
    obtain ⟨u, h1, h2⟩ := R0.slot i o g
    exact ⟨u, h1, okR.fin q R0 (rv_at h2 fun _ z => z)⟩

/-! ### operators -/
def rStrAdd : R2 := fun x y H Q => ∃ i j, x = .str i ∧ y = .str j ∧ i.length + j.length ≤ sizeLine ∧ Q (.str (i ++ j)) H
def rB : B2 → R2
  | .add => fun x y H Q => rI0 (fun i j => .int (i + j)) x y H Q ∨ rStrAdd x y H Q
  | .sub => rI0 fun i j => .int (i - j)
  | .mul => rI CMul fun i j => .int (i * j)
  | .fdiv => rI CDiv fun i j => .int (i / j)
  | .mod => rI (fun _ j => 0 < j) fun i j => .int (i % j)
  | .pow => rI CPow fun i j => .int (i ^ j.toNat)
theorem opr_B {o : B2} {op : Operator} (h : opIs o op = true) : OpR X (binaryOp op) (rB o) := by
  cases o <;> cases op <;> first | cases h | skip
  · exact OpR.or op_add op_add_str
  · exact op_sub
  · exact op_mul
  · exact op_fdiv
  · exact op_mod
  · exact op_pow
theorem small_of {i : Int} (h : small i = true) : -(2 ^ 64) < i ∧ i < 2 ^ 64 := by
  have h : i.natAbs < 18446744073709551616 := of_decide_eq_true h
  omega
theorem rB_ok {F H : Hp} {L : Ft} {o : B2} {x y z : Val} {u w : V} {B B' : List Addr} {Q : VK} (h : op2 o x y = some z) (rx : RV c F H L x u B) (ry : RV c F H L y w B') (q : ∀ z', RV c F H L z z' [] → Q z' H) : rB o u w H Q := by
  unfold op2 at h
  split at h
  all_goals first
    | cases h
    | skip
  all_goals
    first
      | (have rx : u = .int _ := rx; have ry : w = .int _ := ry; subst rx ry)
      | (have rx : u = .str _ := rx; have ry : w = .str _ := ry; subst rx ry)
  · exact .inl ⟨_, _, rfl, rfl, q _ rfl⟩
  · exact ⟨_, _, rfl, rfl, q _ rfl⟩
  · split at h
    · cases h
      refine ⟨_, _, rfl, rfl, ?_, q _ rfl⟩
      rename_i g
      rcases Bool.or_eq_true_iff.mp g with g | g
      · exact .inl (small_of g)
      · exact .inr (small_of g)
    · cases h
  · split at h
    · cases h
      rename_i g
      simp at g
      exact ⟨_, _, rfl, rfl, g, q _ rfl⟩
    · cases h
  · split at h
    · cases h
      rename_i g
      simp at g
      exact ⟨_, _, rfl, rfl, g, q _ rfl⟩
    · cases h
  · split at h
    · cases h
      rename_i g
      simp at g
      exact ⟨_, _, rfl, rfl, ⟨g.1.1, g.1.2, g.2⟩, q _ rfl⟩
    · cases h
  · split at h
    · cases h
      rename_i g
      simp at g
      exact .inr ⟨_, _, rfl, rfl, g, q _ rfl⟩
    · cases h
theorem pur2 {a b : E} {e : Bool} (h : (!(a.pur && b.pur)) = e) : (e = false → a.pur = true) ∧ (e = false → b.pur = true) := by
  subst h
  cases a.pur <;> cases b.pur <;> simp
theorem op2_nil {F H : Hp} {L : Ft} {o : B2} {x y z : Val} (h : op2 o x y = some z) : ∃ d, z = .fz d := by
  unfold op2 at h
  split at h
  all_goals first
    | (cases h; exact ⟨_, rfl⟩)
    | (split at h
       · cases h; exact ⟨_, rfl⟩
       · cases h)
    | cases h
theorem held_step {F H F' H' : Hp} {L L' : Ft} {x : Val} {u : V} {B : List Addr} {b : E} (r : RV c F H L x u B) (s : Step (!b.pur) F H L F' H' L') (h : ∀ i o, x = .vw i o → b.pur = true) : RV c F' H' L' x u B :=
  r.step s fun i o z => by rw [h i o z]; rfl
theorem s_o2 {o : B2} {op : Operator} (ho : opIs o op = true) (ha : PE X e1 (tE c T P xo W0 a)) (hb : PE X e2 (tE c T P xo W0 b)) : PE X (.BinOp e1 op e2 p) (tE c T P xo W0 (.o2 o a b)) := by
  refine pe_imp (pe_op (opr_B ho) ha hb) fun σ H Q ⟨F, L, v, R0, q⟩ => ?_
  simp only [ev] at q
  obtain ⟨pa, pb⟩ := pur2 (a := a) (b := b) rfl
  refine bindE R0 q pa fun x v1 F1 H1 L1 u B R1 s1 r1 q1 n1 z1 => ?_
  obtain ⟨q1, hx⟩ := heldE q1
  refine bindE R1 q1 pb fun y v2 F2 H2 L2 w B' R2 s2 r2 q2 n2 z2 => ?_
  obtain ⟨z, hz, q3⟩ := okR.of q2
  exact rB_ok hz (held_step r1 s2 hx) r2 fun z' rz => okR.fin q3 R2 rz
end
end Pv

set_option Elab.async false
set_option linter.all false
set_option maxRecDepth 100000
/-! PvG: expressions, more constructs. -/
namespace Pv
open PySem PySem.Spec PyProof.Rows L2

/-! ### == of data -/
mutual
def D.py : D → PyData
  | .non => .none
  | .bl b => .bool b
  | .int i => .int i
  | .str x => .str x
  | .tup xs => .tuple (D.pys xs)
  | .lst xs => .list (D.pys xs)
  | .obj _ _ => .none
def D.pys : List D → List PyData
  | [] => []
  | x :: xs => x.py :: D.pys xs
end
mutual
theorem eqv_py : ∀ (a b : D) (n m : Nat), a.data n = true → b.data m = true → PyData.eqv a.py b.py = a.eqv b
  | .tup xs, b, n, m, ha, hb => by
    cases n with
    | zero => simp [D.data] at ha
    | succ n =>
      cases b with
      | tup ys =>
        cases m with
        | zero => simp [D.data] at hb
        | succ m =>
          simp only [D.data] at ha hb
          simp only [D.py, PyData.eqv, D.eqv]
          exact eqvs_py xs ys n m ha hb
      | obj _ _ => cases m <;> simp [D.data] at hb
      | _ => simp [D.py, PyData.eqv, D.eqv]
  | .lst xs, b, n, m, ha, hb => by
    cases n with
    | zero => simp [D.data] at ha
    | succ n =>
      cases b with
      | lst ys =>
        cases m with
        | zero => simp [D.data] at hb
        | succ m =>
          simp only [D.data] at ha hb
          simp only [D.py, PyData.eqv, D.eqv]
          exact eqvs_py xs ys n m ha hb
      | obj _ _ => cases m <;> simp [D.data] at hb
      | _ => simp [D.py, PyData.eqv, D.eqv]
  | .obj _ _, b, n, m, ha, hb => by cases n <;> simp [D.data] at ha
  | .non, b, n, m, ha, hb => by
    cases b with
    | obj _ _ => cases m <;> simp [D.data] at hb
    | _ => simp [D.py, PyData.eqv, D.eqv]
  | .bl _, b, n, m, ha, hb => by
    cases b with
    | obj _ _ => cases m <;> simp [D.data] at hb
    | _ => simp [D.py, PyData.eqv, D.eqv]
  | .int _, b, n, m, ha, hb => by
    cases b with
    | obj _ _ => cases m <;> simp [D.data] at hb
    | _ => simp [D.py, PyData.eqv, D.eqv]
  | .str _, b, n, m, ha, hb => by
    cases b with
    | obj _ _ => cases m <;> simp [D.data] at hb
    | _ => simp [D.py, PyData.eqv, D.eqv]
theorem eqvs_py : ∀ (as bs : List D) (n m : Nat), D.datas n as = true → D.datas m bs = true → PyData.eqvAll (D.pys as) (D.pys bs) = D.eqvs as bs
  | [], [], _, _, _, _ => by simp [D.pys, PyData.eqvAll, D.eqvs]
  | [], _ :: _, _, _, _, _ => by simp [D.pys, PyData.eqvAll, D.eqvs]
  | _ :: _, [], _, _, _, _ => by simp [D.pys, PyData.eqvAll, D.eqvs]
  | a :: as, b :: bs, n, m, ha, hb => by
    simp only [D.datas, Bool.and_eq_true] at ha hb
    simp only [D.pys, PyData.eqvAll, D.eqvs]
    rw [eqv_py a b n m ha.1 hb.1, eqvs_py as bs n m ha.2 hb.2]
end
mutual
theorem data_lay : ∀ (a : D) (n : Nat), a.data n = true → a.py.canLay0 = true ∧ a.py.depth ≤ n
  | .tup xs, n, h => by
    cases n with
    | zero => simp [D.data] at h
    | succ n =>
      simp only [D.data] at h
      obtain ⟨h1, h2⟩ := datas_lay xs n h
      simp only [D.py, PyData.canLay0, PyData.depth]
      exact ⟨h1, by omega⟩
  | .lst xs, n, h => by
    cases n with
    | zero => simp [D.data] at h
    | succ n =>
      simp only [D.data] at h
      obtain ⟨h1, h2⟩ := datas_lay xs n h
      simp only [D.py, PyData.canLay0, PyData.depth]
      exact ⟨h1, by omega⟩
  | .obj _ _, n, h => by cases n <;> simp [D.data] at h
  | .non, n, h => by simp [D.py, PyData.canLay0, PyData.depth]
  | .bl _, n, h => by simp [D.py, PyData.canLay0, PyData.depth]
  | .int _, n, h => by simp [D.py, PyData.canLay0, PyData.depth]
  | .str x, n, h => by
    have h : PyData.strOk x = true := by cases n <;> simpa [D.data] using h
    simp [D.py, PyData.canLay0, PyData.depth, h]
theorem datas_lay : ∀ (as : List D) (n : Nat), D.datas n as = true → PyData.canLayAll0 (D.pys as) = true ∧ PyData.depthAll (D.pys as) ≤ n
  | [], n, h => by simp [D.pys, PyData.canLayAll0, PyData.depthAll]
  | a :: as, n, h => by
    simp only [D.datas, Bool.and_eq_true] at h
    obtain ⟨h1, h2⟩ := data_lay a n h.1
    obtain ⟨h3, h4⟩ := datas_lay as n h.2
    simp only [D.pys, PyData.canLayAll0, PyData.depthAll, h1, h3, Bool.and_self, true_and]
    omega
end
theorem data_shaped {a : D} (h : a.data depthMost = true) : SeqAt.shaped a.py = true := by
  obtain ⟨h1, h2⟩ := data_lay a _ h
  unfold SeqAt.shaped
  rw [h1, Bool.true_and]
  exact decide_eq_true (Nat.le_trans h2 (by decide))
section
variable {c : Cfg} {F H : Hp}
mutual
theorem rep_dp (le : Same F H) : ∀ (d : D) (v : V) (n : Nat), d.data n = true → Rep c F d v → Dp c.K H v d.py
  | .non, v, n, _, h => by cases (show v = _ from h); exact .non
  | .bl _, v, n, _, h => by cases (show v = _ from h); exact .bl _
  | .int _, v, n, _, h => by cases (show v = _ from h); exact .int _
  | .str _, v, n, _, h => by cases (show v = _ from h); exact .str _
  | .tup ds, v, n, hd, ⟨a, vs, h1, h2, h3⟩ => by
    cases n with
    | zero => simp [D.data] at hd
    | succ n =>
      simp only [D.data] at hd
      rw [h1]
      simp only [D.py]
      exact .tup (Same.tup le h2) (reps_dp le ds vs n hd h3)
  | .lst ds, v, n, hd, ⟨a, vs, h1, h2, h3⟩ => by
    cases n with
    | zero => simp [D.data] at hd
    | succ n =>
      simp only [D.data] at hd
      rw [h1]
      simp only [D.py]
      exact .lst (Same.seq le h2) (reps_dp le ds vs n hd h3)
  | .obj _ _, v, n, hd, _ => by cases n <;> simp [D.data] at hd
theorem reps_dp (le : Same F H) : ∀ (ds : List D) (vs : List V) (n : Nat), D.datas n ds = true → Reps c F ds vs → DpAll c.K H vs (D.pys ds)
  | [], vs, n, _, h => by cases (show vs = _ from h); exact .nil
  | d :: ds, vs, n, hd, ⟨v, r, h1, h2, h3⟩ => by
    simp only [D.datas, Bool.and_eq_true] at hd
    rw [h1]
    simp only [D.pys]
    exact .cons (rep_dp le d v n hd.1 h2) (reps_dp le ds r n hd.2 h3)
end
/-- whatever is seen, as a tree over the heap at hand -/
theorem RV.rep {L : Ft} {x : Val} {u : V} {B : List Addr} (h : RV c F H L x u B) (le : Same F H) : Rep c H x.o.frz u := by
  cases x with
  | fz d => exact Rep.mono le d u h
  | tmp o => exact Own.frz le o u B (fun _ _ _ z => z) h.1
  | vw i o =>
    obtain ⟨B', h1, _⟩ := h
    exact Own.frz le o u B' (fun _ _ _ z => z) h1
end
end Pv

set_option Elab.async false
set_option linter.all false
set_option maxRecDepth 100000
/-! PvH: comparisons, logic, displays, subscripts. -/
namespace Pv
open PySem PySem.Spec PyProof.Rows L2

section
variable {X : Cx} {c : Cfg} {T : Tbl} {P : Fn} {xo : Xs} {W0 : WX} {e e1 e2 e3 e4 : Expr} {a b d g : E} {p : Pos}
/-! ### comparisons -/
def rInS : R2 := fun x y H Q => ∃ i j, x = .str i ∧ y = .str j ∧ Q (.bl (!(Builtin.Str.occurrences j i 0 j.length 1).isEmpty)) H
def rNotInS : R2 := fun x y H Q => ∃ i j, x = .str i ∧ y = .str j ∧ Q (.bl (!(!(Builtin.Str.occurrences j i 0 j.length 1).isEmpty))) H
def rC (K : PySem.W.Frag) : Cm → R2
  | .eq => fun x y H Q => rEq x y H Q ∨ rEqD K x y H Q
  | .ne => fun x y H Q => rNe x y H Q ∨ rNeD K x y H Q
  | .lt => rI0 fun i j => .bl (decide (i < j))
  | .le => rI0 fun i j => .bl (decide (i ≤ j))
  | .gt => rI0 fun i j => .bl (decide (j < i))
  | .ge => rI0 fun i j => .bl (decide (j ≤ i))
  | .is => fun x y H Q => y = .non ∧ Q (.bl (decide (x = .non))) H
  | .isnt => fun x y H Q => y = .non ∧ Q (.bl (!decide (x = .non))) H
  | .inn => fun x y H Q => rInS x y H Q ∨ rIn K false x y H Q
  | .notin => fun x y H Q => rNotInS x y H Q ∨ rIn K true x y H Q
theorem opr_C (hu : X.A.units + 64 < cLine) : ∀ o : Cm, OpR X (compareOp (cmOp o)) (rC X.K o)
  | .eq => OpR.or op_eq (op_eqD hu)
  | .ne => OpR.or op_ne (op_neD hu)
  | .lt => op_lt
  | .le => op_le
  | .gt => op_gt
  | .ge => op_ge
  | .is => op_isN
  | .isnt => op_notN
  | .inn => OpR.or op_in_str op_in_seq
  | .notin => OpR.or op_notin_str op_notIn_seq
theorem flat_v {F : Hp} {d : D} {v : V} (h : d.flat = true) (r : Rep c F d v) : flatV v = true ∧ v = fv d := by
  cases d <;> first | (cases h; done) | (cases (show v = _ from r); exact ⟨rfl, rfl⟩)
theorem flat_eqV {a b : D} (ha : a.flat = true) (hb : b.flat = true) : eqV (fv a) (fv b) = a.eqv b := by
  cases a <;> cases b <;> first | (cases ha; done) | (cases hb; done) | (simp [fv, eqV, D.eqv])
theorem allFlat_v {F : Hp} : ∀ {ds : List D} {vs : List V}, allFlat ds = true → Reps c F ds vs → vs.all flatV = true ∧ ∀ x : D, x.flat = true → inV (fv x) vs = anyEq x ds
  | [], vs, _, h => by
    cases (show vs = _ from h)
    exact ⟨rfl, fun _ _ => rfl⟩
  | d :: ds, vs, hf, ⟨v, r, h1, h2, h3⟩ => by
    simp only [allFlat, Bool.and_eq_true] at hf
    obtain ⟨q1, q2⟩ := allFlat_v hf.2 h3
    obtain ⟨f1, f2⟩ := flat_v hf.1 h2
    subst h1
    refine ⟨by rw [List.all_cons, f1, q1]; rfl, fun x hx => ?_⟩
    show (eqV v (fv x) || inV (fv x) r) = _
    rw [f2, flat_eqV hf.1 hx, q2 x hx]
    rfl
theorem isIn_cases {x y : Val} {b : Bool} (h : isIn x y = some b) : (∃ s z, x = .fz (.str s) ∧ y = .fz (.str z) ∧ b = !(Builtin.Str.occurrences z s 0 z.length 1).isEmpty) ∨
    ∃ d ys, x = .fz d ∧ y.items = some ys ∧ d.flat = true ∧ allFlat ys = true ∧ b = anyEq d ys := by
  unfold isIn at h
  split at h
  · exact .inl ⟨_, _, rfl, rfl, (Option.some.inj h).symm⟩
  · split at h
    · rename_i ys hy
      split at h
      · rename_i g
        simp only [Bool.and_eq_true] at g
        exact .inr ⟨_, ys, rfl, hy, g.1, g.2, (Option.some.inj h).symm⟩
      · cases h
    · cases h
  · cases h
def Val.isN : Val → Bool
  | .fz .non => true
  | _ => false
theorem is_non {F H : Hp} {L : Ft} {x : Val} {u : V} {B : List Addr} (r : RV c F H L x u B) : x.isN = decide (u = .non) := by
  have dn : ∀ {a : Addr}, decide (V.ref a = .non) = false := fun {a} => decide_eq_false fun z => by cases z
  cases x with
  | fz d =>
    cases d with
    | non => cases (show u = _ from r); rfl
    | bl _ => cases (show u = _ from r); rfl
    | int _ => cases (show u = _ from r); rfl
    | str _ => cases (show u = _ from r); rfl
    | tup _ => obtain ⟨a, _, rfl, _⟩ := r; exact dn.symm
    | lst _ => obtain ⟨a, _, rfl, _⟩ := r; exact dn.symm
    | obj _ _ => obtain ⟨a, _, _, rfl, _⟩ := r; exact dn.symm
  | tmp o =>
    obtain ⟨r, _, z⟩ := r
    cases o with
    | fz d => exact z.elim
    | lst _ => obtain ⟨a, _, _, rfl, _⟩ := r; exact dn.symm
    | obj _ _ => obtain ⟨a, _, _, _, rfl, _⟩ := r; exact dn.symm
  | vw i o =>
    obtain ⟨B', r, _, z⟩ := r
    cases o with
    | fz d => exact z.elim
    | lst _ => obtain ⟨a, _, _, rfl, _⟩ := r; exact dn.symm
    | obj _ _ => obtain ⟨a, _, _, _, rfl, _⟩ := r; exact dn.symm
theorem cmp_lt {x y : Val} {b : Bool} (h : cmp .lt x y = some b) : ∃ i j, x = .fz (.int i) ∧ y = .fz (.int j) ∧ b = decide (i < j) := by
  cases x with
  | fz d =>
    cases d with
    | int i =>
      cases y with
      | fz d' =>
        cases d' with
        | int j => exact ⟨i, j, rfl, rfl, (Option.some.inj h).symm⟩
        | _ => cases h
      | _ => cases h
    | _ => cases y with
      | fz d' => cases d' <;> cases h
      | _ => cases h
  | _ => cases y with
    | fz d' => cases d' <;> cases h
    | _ => cases h
theorem cmp_le {x y : Val} {b : Bool} (h : cmp .le x y = some b) : ∃ i j, x = .fz (.int i) ∧ y = .fz (.int j) ∧ b = decide (i ≤ j) := by
  cases x with
  | fz d =>
    cases d with
    | int i =>
      cases y with
      | fz d' =>
        cases d' with
        | int j => exact ⟨i, j, rfl, rfl, (Option.some.inj h).symm⟩
        | _ => cases h
      | _ => cases h
    | _ => cases y with
      | fz d' => cases d' <;> cases h
      | _ => cases h
  | _ => cases y with
    | fz d' => cases d' <;> cases h
    | _ => cases h
theorem cmp_gt {x y : Val} {b : Bool} (h : cmp .gt x y = some b) : ∃ i j, x = .fz (.int i) ∧ y = .fz (.int j) ∧ b = decide (j < i) := by
  cases x with
  | fz d =>
    cases d with
    | int i =>
      cases y with
      | fz d' =>
        cases d' with
        | int j => exact ⟨i, j, rfl, rfl, (Option.some.inj h).symm⟩
        | _ => cases h
      | _ => cases h
    | _ => cases y with
      | fz d' => cases d' <;> cases h
      | _ => cases h
  | _ => cases y with
    | fz d' => cases d' <;> cases h
    | _ => cases h
theorem cmp_ge {x y : Val} {b : Bool} (h : cmp .ge x y = some b) : ∃ i j, x = .fz (.int i) ∧ y = .fz (.int j) ∧ b = decide (j ≤ i) := by
  cases x with
  | fz d =>
    cases d with
    | int i =>
      cases y with
      | fz d' =>
        cases d' with
        | int j => exact ⟨i, j, rfl, rfl, (Option.some.inj h).symm⟩
        | _ => cases h
      | _ => cases h
    | _ => cases y with
      | fz d' => cases d' <;> cases h
      | _ => cases h
  | _ => cases y with
    | fz d' => cases d' <;> cases h
    | _ => cases h
theorem cmp_is {x y : Val} {b : Bool} (h : cmp .is x y = some b) : y = .fz .non ∧ b = x.isN := by
  cases y with
  | fz d =>
    cases d with
    | non =>
      refine ⟨rfl, ?_⟩
      cases x with
      | fz d' => cases d' <;> exact (Option.some.inj h).symm
      | _ => exact (Option.some.inj h).symm
    | _ => cases x with
      | fz d' => cases d' <;> cases h
      | _ => cases h
  | _ => cases x with
    | fz d' => cases d' <;> cases h
    | _ => cases h
theorem cmp_isnt {x y : Val} {b : Bool} (h : cmp .isnt x y = some b) : y = .fz .non ∧ b = !x.isN := by
  cases y with
  | fz d =>
    cases d with
    | non =>
      refine ⟨rfl, ?_⟩
      cases x with
      | fz d' => cases d' <;> exact (Option.some.inj h).symm
      | _ => exact (Option.some.inj h).symm
    | _ => cases x with
      | fz d' => cases d' <;> cases h
      | _ => cases h
  | _ => cases x with
    | fz d' => cases d' <;> cases h
    | _ => cases h
theorem rC_ok {F H : Hp} {L : Ft} {o : Cm} {x y : Val} {b : Bool} {u w : V} {B B' : List Addr} {Q : VK} (hK : X.K = c.K) (le : Same F H) (h : cmp o x y = some b) (rx : RV c F H L x u B) (ry : RV c F H L y w B') (q : Q (.bl b) H) : rC X.K o u w H Q := by
  rw [hK]
  have eqs : ∀ {b' : Bool}, eqD x y = some b' → (∃ i j, u = .str i ∧ w = .str j ∧ b' = (i == j)) ∨ ∃ d e, Dp c.K H u d ∧ Dp c.K H w e ∧ SeqAt.shaped d = true ∧ SeqAt.shaped e = true ∧ b' = PyData.eqv d e := by
    intro b' h'
    unfold eqD at h'
    split at h'
    · cases h'
      exact .inl ⟨_, _, rx, ry, rfl⟩
    · split at h'
      · rename_i g
        simp only [Bool.and_eq_true] at g
        cases h'
        exact .inr ⟨_, _, rep_dp (Same.refl H) _ _ _ g.1 (rx.rep le), rep_dp (Same.refl H) _ _ _ g.2 (ry.rep le), data_shaped g.1, data_shaped g.2, (eqv_py _ _ _ _ g.1 g.2).symm⟩
      · cases h'
  have str : ∀ {i j : Str}, scal (.str i) (.str j) = true ∧ decide (V.str i = V.str j) = (i == j) := fun {i j} => ⟨rfl, dec_str⟩
  cases o with
  | eq =>
    rcases eqs h with ⟨i, j, rfl, rfl, rfl⟩ | ⟨d, e, h1, h2, h3, h4, rfl⟩
    · exact .inl ⟨rfl, by rw [dec_str]; exact q⟩
    · exact .inr ⟨d, e, h1, h2, h3, h4, q⟩
  | ne =>
    simp only [cmp, Option.map_eq_some_iff] at h
    obtain ⟨b', h', rfl⟩ := h
    rcases eqs h' with ⟨i, j, rfl, rfl, rfl⟩ | ⟨d, e, h1, h2, h3, h4, rfl⟩
    · exact .inl ⟨rfl, by rw [dec_str]; exact q⟩
    · exact .inr ⟨d, e, h1, h2, h3, h4, q⟩
  | inn =>
    rcases isIn_cases h with ⟨s, z, rfl, rfl, rfl⟩ | ⟨d, ys, rfl, hy, h1, h2, rfl⟩
    · exact .inl ⟨_, _, rx, ry, q⟩
    · obtain ⟨p, vs, e1, e2, e3⟩ := ry.items le hy
      obtain ⟨f1, f2⟩ := flat_v h1 rx
      obtain ⟨f3, f4⟩ := allFlat_v h2 e3
      refine .inr ⟨p, vs, e1, e2, f1, f3, ?_⟩
      rw [if_neg Bool.false_ne_true, f2, f4 d h1]
      exact q
  | notin =>
    simp only [cmp, Option.map_eq_some_iff] at h
    obtain ⟨b', h', rfl⟩ := h
    rcases isIn_cases h' with ⟨s, z, rfl, rfl, rfl⟩ | ⟨d, ys, rfl, hy, h1, h2, rfl⟩
    · exact .inl ⟨_, _, rx, ry, q⟩
    · obtain ⟨p, vs, e1, e2, e3⟩ := ry.items le hy
      obtain ⟨f1, f2⟩ := flat_v h1 rx
      obtain ⟨f3, f4⟩ := allFlat_v h2 e3
      refine .inr ⟨p, vs, e1, e2, f1, f3, ?_⟩
      rw [if_pos rfl, f2, f4 d h1]
      exact q
  | is =>
    obtain ⟨rfl, rfl⟩ := cmp_is h
    refine ⟨ry, ?_⟩
    rw [← is_non rx]
    exact q
  | isnt =>
    obtain ⟨rfl, rfl⟩ := cmp_isnt h
    refine ⟨ry, ?_⟩
    rw [← is_non rx]
    exact q
  | lt =>
    obtain ⟨i, j, rfl, rfl, rfl⟩ := cmp_lt h
    exact ⟨i, j, rx, ry, q⟩
  | le =>
    obtain ⟨i, j, rfl, rfl, rfl⟩ := cmp_le h
    exact ⟨i, j, rx, ry, q⟩
  | gt =>
    obtain ⟨i, j, rfl, rfl, rfl⟩ := cmp_gt h
    exact ⟨i, j, rx, ry, q⟩
  | ge =>
    obtain ⟨i, j, rfl, rfl, rfl⟩ := cmp_ge h
    exact ⟨i, j, rx, ry, q⟩
theorem cmp_fz {o : Cm} {x y : Val} {z : Val} (h : ((cmp o x y).map fun b => Val.fz (.bl b)) = some z) : ∃ b, cmp o x y = some b ∧ z = .fz (.bl b) := by
  simp only [Option.map_eq_some_iff] at h
  obtain ⟨b, h1, h2⟩ := h
  exact ⟨b, h1, h2.symm⟩
theorem r_cm {o : Cm} {σ : _root_.L2.St} {H : Hp} {Q : VK} (hK : X.K = c.K) (h : tE c T P xo W0 (.cm o a b) σ H Q) : tOp (rC X.K o) (tE c T P xo W0 a) (tE c T P xo W0 b) σ H Q := by
  obtain ⟨F, L, v, R0, q⟩ := h
  simp only [ev] at q
  obtain ⟨pa, pb⟩ := pur2 (a := a) (b := b) rfl
  refine bindE R0 q pa fun x v1 F1 H1 L1 u B R1 s1 r1 q1 n1 z1 => ?_
  obtain ⟨q1, hx⟩ := heldE q1
  refine bindE R1 q1 pb fun y v2 F2 H2 L2 w B' R2 s2 r2 q2 n2 z2 => ?_
  obtain ⟨z, hz, q3⟩ := okR.of q2
  obtain ⟨k, hk, rfl⟩ := cmp_fz hz
  exact rC_ok hK R2.le hk (held_step r1 s2 hx) r2 (okR.fin q3 R2 rfl)
/-- a test of True or False, of any truth -/
theorem tT_bl {σ : _root_.L2.St} {H : Hp} {Q : Bool → Hp → Prop} (hb : ∀ v x v', ev T P xo.e a v = .ok x v' → ∃ k, x = .fz (.bl k)) (h : tT c T P xo W0 a σ H Q) : tE c T P xo W0 a σ H (fun x H' => ∃ k, x = .bl k ∧ Q k H') := by
  obtain ⟨F, L, v, R0, q⟩ := h
  refine ⟨F, L, v, R0, ?_⟩
  cases g : ev T P xo.e a v with
  | ok x v1 =>
    obtain ⟨k, rfl⟩ := hb _ _ _ g
    rw [g] at q
    have q : okR c xo _ F H L σ (.ok k v1) (fun b _ H' _ _ => Q b H') _ := q
    exact fun F' H' L' B R' s' n u r => ⟨k, r, q F' H' L' B R' s' n⟩
  | exc x v1 =>
    rw [g] at q
    exact q
  | bad =>
    rw [g] at q
    exact q
theorem tru_ok' {F H : Hp} {L : Ft} {x : Val} {u : V} {B : List Addr} {k : Bool} (le : Same F H) (h : truth x = some k) (r : RV c F H L x u B) : TruV c.K u H k := by
  cases x with
  | fz d =>
    cases d with
    | non => cases (show u = _ from r); exact (Option.some.inj h).symm
    | bl _ => cases (show u = _ from r); exact (Option.some.inj h).symm
    | int _ => cases (show u = _ from r); exact (Option.some.inj h).symm
    | str z =>
      cases (show u = _ from r)
      simp only [truth] at h
      split at h
      · rename_i g
        refine ⟨of_decide_eq_true g, ?_⟩
        rw [← Option.some.inj h]
        cases hz : z.length with
        | zero => rfl
        | succ n =>
          have : ((n + 1 : Nat) : Int) ≠ 0 := by omega
          simp
          omega
      · cases h
    | tup ds =>
      obtain ⟨a, vs, rfl, h2, h3⟩ := r
      refine .inr (.inl ⟨vs, Same.tup le h2, ?_⟩)
      rw [← Option.some.inj h]
      have := h3.length
      cases ds <;> cases vs <;> first | rfl | simp at this
    | lst ds =>
      obtain ⟨a, vs, rfl, h2, h3⟩ := r
      refine .inl ⟨vs, Same.seq le h2, ?_⟩
      rw [← Option.some.inj h]
      have := h3.length
      cases ds <;> cases vs <;> first | rfl | simp at this
    | obj _ _ => cases h
  | tmp o =>
    obtain ⟨r, _, z⟩ := r
    cases o with
    | fz d => exact z.elim
    | lst os =>
      obtain ⟨a, vs, B', rfl, h2, h3, h4⟩ := r
      refine .inl ⟨vs, .inl (.inl h2), ?_⟩
      rw [← Option.some.inj h]
      have := h4.length
      cases os <;> cases vs <;> first | rfl | simp at this
    | obj _ _ => cases h
  | vw i o =>
    obtain ⟨B', r, _, z⟩ := r
    cases o with
    | fz d => exact z.elim
    | lst os =>
      obtain ⟨a, vs, B', rfl, h2, h3, h4⟩ := r
      refine .inl ⟨vs, .inl (.inl h2), ?_⟩
      rw [← Option.some.inj h]
      have := h4.length
      cases os <;> cases vs <;> first | rfl | simp at this
    | obj _ _ => cases h
theorem tT_tru {σ : _root_.L2.St} {H : Hp} {Q : Bool → Hp → Prop} (h : tT c T P xo W0 a σ H Q) : tE c T P xo W0 a σ H (fun x H' => ∃ k, TruV c.K x H' k ∧ Q k H') := by
  obtain ⟨F, L, v, R0, q⟩ := h
  refine ⟨F, L, v, R0, ?_⟩
  cases g : ev T P xo.e a v with
  | ok x v1 =>
    rw [g] at q
    have q : okR c xo _ F H L σ (R.of v1 (truth x)) (fun b _ H' _ _ => Q b H') _ := q
    obtain ⟨k, hk, q⟩ := okR.of q
    exact fun F' H' L' B R' s' n u r => ⟨k, tru_ok' R'.le hk r, q F' H' L' B R' s' n⟩
  | exc x v1 =>
    rw [g] at q
    exact q
  | bad =>
    rw [g] at q
    exact q
/-- any value, by its truth -/
theorem st_any (hK : X.K = c.K) (hp : plainT e = true) (ha : PE X e (tE c T P xo W0 a)) : PT X e (tT c T P xo W0 a) :=
  pt_imp (pt_truth ha (plain_test hp _)) fun σ H Q q => by
    have := tT_tru q
    rw [hK]
    exact this
theorem s_cm {o : Cm} (hK : X.K = c.K) (hu : X.A.units + 64 < cLine) (hm : plainX e2 = true) (ha : PE X e1 (tE c T P xo W0 a)) (hb : PE X e2 (tE c T P xo W0 b)) : PE X (.Compare e1 [cmOp o] [e2] p) (tE c T P xo W0 (.cm o a b)) :=
  pe_imp (pe_cmpR (opr_C hu o) ha hb (plain_mark hm _)) fun σ H Q q => r_cm hK q
theorem bind_ok {α β : Type} {r : R α} {f : α → Env → R β} {y : β} {w : Env} (h : r.bind f = .ok y w) : ∃ x v, r = .ok x v ∧ f x v = .ok y w := by
  cases r with
  | ok x v => exact ⟨x, v, rfl, h⟩
  | exc _ _ => cases h
  | bad => cases h
theorem held_ok {α : Type} {x : Val} {p : Bool} {r : R α} {y : α} {w : Env} (h : held x p r = .ok y w) : r = .ok y w := by
  cases x with
  | vw i o =>
    cases p with
    | true => exact h
    | false => cases h
  | _ => exact h
theorem of_ok {α : Type} {o : Option α} {v w : Env} {y : α} (h : R.of v o = .ok y w) : o = some y ∧ v = w := by
  cases o with
  | none => cases h
  | some a => cases h; exact ⟨rfl, rfl⟩
theorem cm_bl {o : Cm} {v v' : Env} {x : Val} (h : ev T P xo.e (.cm o a b) v = .ok x v') : ∃ k, x = .fz (.bl k) := by
  simp only [ev] at h
  obtain ⟨y, v1, _, h⟩ := bind_ok h
  obtain ⟨z, v2, _, h⟩ := bind_ok (held_ok h)
  obtain ⟨k, _, e⟩ := cmp_fz (of_ok h).1
  exact ⟨k, e⟩
theorem st_cm {o : Cm} (hK : X.K = c.K) (hu : X.A.units + 64 < cLine) (hm : plainX e2 = true) (ha : PE X e1 (tE c T P xo W0 a)) (hb : PE X e2 (tE c T P xo W0 b)) : PT X (.Compare e1 [cmOp o] [e2] p) (tT c T P xo W0 (.cm o a b)) :=
  pt_imp (pt_cmpR (opr_C hu o) ha hb (plain_mark hm _)) fun σ H Q q => r_cm hK (tT_bl (fun _ _ _ h => cm_bl h) q)
/-! ### chains -/
theorem pur3 {a b d : E} {e : Bool} (h : (!(a.pur && b.pur && d.pur)) = e) : (e = false → a.pur = true) ∧ (e = false → b.pur = true) ∧ (e = false → d.pur = true) := by
  subst h
  cases a.pur <;> cases b.pur <;> cases d.pur <;> simp
theorem pur4 {a b d g : E} {e : Bool} (h : (!(a.pur && b.pur && d.pur && g.pur)) = e) : (e = false → a.pur = true) ∧ (e = false → b.pur = true) ∧ (e = false → d.pur = true) ∧ (e = false → g.pur = true) := by
  subst h
  cases a.pur <;> cases b.pur <;> cases d.pur <;> cases g.pur <;> simp
theorem marks2 {o q : Cm} {x y : Expr} (h1 : plainX x = true) (h2 : plainX y = true) : lastMarks [cmOp o, cmOp q] [x, y] = false := by
  show behindInMarks (cmOp q) y = false
  exact plain_mark h2 _
theorem r_ch {o s : Cm} {σ : _root_.L2.St} {H : Hp} {Q : VK} (hK : X.K = c.K) (h : tE c T P xo W0 (.ch o s a b d) σ H Q) : tChain (rC X.K o) (rC X.K s) (tE c T P xo W0 a) (tE c T P xo W0 b) (tE c T P xo W0 d) σ H Q := by
  obtain ⟨F, L, v, R0, q⟩ := h
  simp only [ev] at q
  obtain ⟨pa, pb, pd⟩ := pur3 (a := a) (b := b) (d := d) rfl
  refine bindE R0 q pa fun x v1 F1 H1 L1 u B R1 s1 r1 q1 n1 z1 => ?_
  obtain ⟨q1, hx⟩ := heldE q1
  refine bindE R1 q1 pb fun y v2 F2 H2 L2 w B' R2 s2 r2 q2 n2 z2 => ?_
  cases hk : cmp o x y with
  | none => rw [hk] at q2; exact q2.elim
  | some k =>
    rw [hk] at q2
    refine rC_ok hK R2.le hk (held_step r1 s2 hx) r2 ⟨k, rfl, ?_⟩
    cases k with
    | false =>
      rw [if_neg Bool.false_ne_true]
      exact okR.fin (x := .fz (.bl false)) q2 R2 rfl
    | true =>
      rw [if_pos rfl]
      obtain ⟨q3, hy⟩ := heldE q2
      refine bindE R2 q3 pd fun z v3 F3 H3 L3 t B3 R3 s3 r3 q4 n3 z3 => ?_
      obtain ⟨z, hz, q5⟩ := okR.of q4
      obtain ⟨k, hk2, rfl⟩ := cmp_fz hz
      exact rC_ok hK R3.le hk2 (held_step r2 s3 hy) r3 (okR.fin q5 R3 rfl)
theorem ch_bl {o s : Cm} {v v' : Env} {x : Val} (h : ev T P xo.e (.ch o s a b d) v = .ok x v') : ∃ k, x = .fz (.bl k) := by
  simp only [ev] at h
  obtain ⟨y, v1, _, h⟩ := bind_ok h
  obtain ⟨z, v2, _, h⟩ := bind_ok (held_ok h)
  split at h
  · obtain ⟨t, v3, _, h⟩ := bind_ok (held_ok h)
    obtain ⟨k, _, e⟩ := cmp_fz (of_ok h).1
    exact ⟨k, e⟩
  · cases h
    exact ⟨_, rfl⟩
  · cases h
theorem s_ch {o s : Cm} (hK : X.K = c.K) (hu : X.A.units + 64 < cLine) (h2 : plainX e2 = true) (h3 : plainX e3 = true) (ha : PE X e1 (tE c T P xo W0 a)) (hb : PE X e2 (tE c T P xo W0 b)) (hd : PE X e3 (tE c T P xo W0 d)) :
    PE X (.Compare e1 [cmOp o, cmOp s] [e2, e3] p) (tE c T P xo W0 (.ch o s a b d)) :=
  pe_imp (pe_chain (opr_C hu o) (opr_C hu s) ha hb hd (marks2 h2 h3)) fun σ H Q q => r_ch hK q
theorem st_ch {o s : Cm} (hK : X.K = c.K) (hu : X.A.units + 64 < cLine) (h2 : plainX e2 = true) (h3 : plainX e3 = true) (ha : PE X e1 (tE c T P xo W0 a)) (hb : PE X e2 (tE c T P xo W0 b)) (hd : PE X e3 (tE c T P xo W0 d)) :
    PT X (.Compare e1 [cmOp o, cmOp s] [e2, e3] p) (tT c T P xo W0 (.ch o s a b d)) :=
  pt_imp (pt_chain (opr_C hu o) (opr_C hu s) ha hb hd (marks2 h2 h3)) fun σ H Q q => r_ch hK (tT_bl (fun _ _ _ h => ch_bl h) q)
def tChain3 (r r' r2 : R2) (ta tb tc td : TE) : TE := fun σ H Q => ta σ H fun x H1 => tb σ H1 fun y H2 => r x y H2 fun z H3 => ∃ k, z = .bl k ∧
  (if k = true then tc σ H3 fun w' H4 => r' y w' H4 fun z2 H5 => ∃ k2, z2 = .bl k2 ∧ (if k2 = true then td σ H5 fun t H6 => r2 w' t H6 Q else Q (.bl false) H5) else Q (.bl false) H3)
theorem marks3 {o q r : Cm} {x y z : Expr} (h3 : plainX z = true) : lastMarks [cmOp o, cmOp q, cmOp r] [x, y, z] = false := by
  show behindInMarks (cmOp r) z = false
  exact plain_mark h3 _
theorem pe_chain3 {op op' op2 : CmpOp} {r r' r2 : R2} {ta tb tc td : TE} (ho : OpR X (compareOp op) r) (ho' : OpR X (compareOp op') r') (ho2 : OpR X (compareOp op2) r2) (ha : PE X e1 ta) (hb : PE X e2 tb) (hc : PE X e3 tc) (hd : PE X e4 td)
    (hm : lastMarks [op, op', op2] [e2, e3, e4] = false) : PE X (.Compare e1 [op, op', op2] [e2, e3, e4] p) (tChain3 r r' r2 ta tb tc td) := by
  refine ⟨fun pins s σ H Q I h => ?_⟩
  refine Compare_chain (thn (ha.run pins s σ H _ I h) fun v s1 ⟨x, H1, I1, r1, q1⟩ => chain_link (thn (hb.run pins s1 σ H1 _ I1 q1) fun u s2 ⟨y, H2, I2, r2, q2⟩ =>
    thn (ho pins s2 σ H2 x y v u _ I2 r1 r2 q2) fun d s3 ⟨z, H3, I3, r3, k, e, q3⟩ => ?_)) hm
  subst e
  cases r3
  refine wpAny_truthy_bool ?_
  cases k with
  | false => exact ite_ff ⟨.bl false, H3, I3, rfl, q3⟩
  | true =>
    refine ite_tt (chain_link (thn (hc.run pins s3 σ H3 _ I3 q3) fun w' s4 ⟨z', H4, I4, r4, q4⟩ => thn (ho' pins s4 σ H4 y z' u w' _ I4 r2 r4 q4) fun d' s5 ⟨z2, H5, I5, r5, k2, e2, q5⟩ => ?_))
    subst e2
    cases r5
    refine wpAny_truthy_bool ?_
    cases k2 with
    | false => exact ite_ff ⟨.bl false, H5, I5, rfl, q5⟩
    | true => exact ite_tt (chain_last (thn (hd.run pins s5 σ H5 _ I5 q5) fun t s6 ⟨z6, H6, I6, r6, q6⟩ => ho2 pins s6 σ H6 z' z6 w' t Q I6 r4 r6 q6))
theorem pt_chain3 {op op' op2 : CmpOp} {r r' r2 : R2} {ta tb tc td : TE} (ho : OpR X (compareOp op) r) (ho' : OpR X (compareOp op') r') (ho2 : OpR X (compareOp op2) r2) (ha : PE X e1 ta) (hb : PE X e2 tb) (hc : PE X e3 tc) (hd : PE X e4 td)
    (hm : lastMarks [op, op', op2] [e2, e3, e4] = false) : PT X (.Compare e1 [op, op', op2] [e2, e3, e4] p) (tTest (tChain3 r r' r2 ta tb tc td)) := by
  refine ⟨fun pins s σ H Q I h => ?_⟩
  refine isTrue_chain (thn (ha.run pins s σ H _ I h) fun v s1 ⟨x, H1, I1, r1, q1⟩ => test_link (thn (hb.run pins s1 σ H1 _ I1 q1) fun u s2 ⟨y, H2, I2, r2, q2⟩ =>
    thn (ho pins s2 σ H2 x y v u _ I2 r1 r2 q2) fun d s3 ⟨z, H3, I3, r3, k, e, q3⟩ => ?_)) hm
  subst e
  cases r3
  refine wpAny_truthy_bool ?_
  cases k with
  | false =>
    obtain ⟨k', e', q'⟩ := q3
    cases e'
    exact ite_ff ⟨H3, I3, q'⟩
  | true =>
    refine ite_tt (test_link (thn (hc.run pins s3 σ H3 _ I3 q3) fun w' s4 ⟨z', H4, I4, r4, q4⟩ => thn (ho' pins s4 σ H4 y z' u w' _ I4 r2 r4 q4) fun d' s5 ⟨z2, H5, I5, r5, k2, e2, q5⟩ => ?_))
    subst e2
    cases r5
    refine wpAny_truthy_bool ?_
    cases k2 with
    | false =>
      obtain ⟨k', e', q'⟩ := q5
      cases e'
      exact ite_ff ⟨H5, I5, q'⟩
    | true =>
      refine ite_tt (test_last (thn (hd.run pins s5 σ H5 _ I5 q5) fun t s6 ⟨z6, H6, I6, r6, q6⟩ => thn (ho2 pins s6 σ H6 z' z6 w' t _ I6 r4 r6 q6) fun d6 s7 ⟨z7, H7, I7, r7, k7, e7, q7⟩ => ?_))
      subst e7
      cases r7
      exact wpAny_truthy_bool ⟨H7, I7, q7⟩
theorem r_ch3 {o s t : Cm} {σ : _root_.L2.St} {H : Hp} {Q : VK} (hK : X.K = c.K) (h : tE c T P xo W0 (.ch3 o s t a b d g) σ H Q) :
    tChain3 (rC X.K o) (rC X.K s) (rC X.K t) (tE c T P xo W0 a) (tE c T P xo W0 b) (tE c T P xo W0 d) (tE c T P xo W0 g) σ H Q := by
  obtain ⟨F, L, v, R0, q⟩ := h
  simp only [ev] at q
  obtain ⟨pa, pb, pd, pg⟩ := pur4 (a := a) (b := b) (d := d) (g := g) rfl
  refine bindE R0 q pa fun x v1 F1 H1 L1 u B R1 s1 r1 q1 n1 z1 => ?_
  obtain ⟨q1, hx⟩ := heldE q1
  refine bindE R1 q1 pb fun y v2 F2 H2 L2 w B' R2 s2 r2 q2 n2 z2 => ?_
  cases hk : cmp o x y with
  | none => rw [hk] at q2; exact q2.elim
  | some k =>
    rw [hk] at q2
    refine rC_ok hK R2.le hk (held_step r1 s2 hx) r2 ⟨k, rfl, ?_⟩
    cases k with
    | false =>
      rw [if_neg Bool.false_ne_true]
      exact okR.fin (x := .fz (.bl false)) q2 R2 rfl
    | true =>
      rw [if_pos rfl]
      obtain ⟨q3, hy⟩ := heldE q2
      refine bindE R2 q3 pd fun z v3 F3 H3 L3 t B3 R3 s3 r3 q4 n3 z3 => ?_
      cases hk2 : cmp s y z with
      | none => rw [hk2] at q4; exact q4.elim
      | some k =>
        rw [hk2] at q4
        refine rC_ok hK R3.le hk2 (held_step r2 s3 hy) r3 ⟨k, rfl, ?_⟩
        cases k with
        | false =>
          rw [if_neg Bool.false_ne_true]
          exact okR.fin (x := .fz (.bl false)) q4 R3 rfl
        | true =>
          rw [if_pos rfl]
          obtain ⟨q5, hz⟩ := heldE q4
          refine bindE R3 q5 pg fun z4 v4 F4 H4 L4 t4 B4 R4 s4 r4 q6 n4 z4' => ?_
          obtain ⟨z5, hz5, q7⟩ := okR.of q6
          obtain ⟨k, hk3, rfl⟩ := cmp_fz hz5
          exact rC_ok hK R4.le hk3 (held_step r3 s4 hz) r4 (okR.fin q7 R4 rfl)
theorem ch3_bl {o s t : Cm} {v v' : Env} {x : Val} (h : ev T P xo.e (.ch3 o s t a b d g) v = .ok x v') : ∃ k, x = .fz (.bl k) := by
  simp only [ev] at h
  obtain ⟨y, v1, _, h⟩ := bind_ok h
  obtain ⟨z, v2, _, h⟩ := bind_ok (held_ok h)
  split at h
  · obtain ⟨t, v3, _, h⟩ := bind_ok (held_ok h)
    split at h
    · obtain ⟨t, v4, _, h⟩ := bind_ok (held_ok h)
      obtain ⟨k, _, e⟩ := cmp_fz (of_ok h).1
      exact ⟨k, e⟩
    · cases h
      exact ⟨_, rfl⟩
    · cases h
  · cases h
    exact ⟨_, rfl⟩
  · cases h
theorem s_ch3 {o s t : Cm} (hK : X.K = c.K) (hu : X.A.units + 64 < cLine) (h4 : plainX e4 = true) (ha : PE X e1 (tE c T P xo W0 a)) (hb : PE X e2 (tE c T P xo W0 b)) (hd : PE X e3 (tE c T P xo W0 d)) (hg : PE X e4 (tE c T P xo W0 g)) :
    PE X (.Compare e1 [cmOp o, cmOp s, cmOp t] [e2, e3, e4] p) (tE c T P xo W0 (.ch3 o s t a b d g)) :=
  pe_imp (pe_chain3 (opr_C hu o) (opr_C hu s) (opr_C hu t) ha hb hd hg (marks3 h4)) fun σ H Q q => r_ch3 hK q
theorem st_ch3 {o s t : Cm} (hK : X.K = c.K) (hu : X.A.units + 64 < cLine) (h4 : plainX e4 = true) (ha : PE X e1 (tE c T P xo W0 a)) (hb : PE X e2 (tE c T P xo W0 b)) (hd : PE X e3 (tE c T P xo W0 d)) (hg : PE X e4 (tE c T P xo W0 g)) :
    PT X (.Compare e1 [cmOp o, cmOp s, cmOp t] [e2, e3, e4] p) (tT c T P xo W0 (.ch3 o s t a b d g)) :=
  pt_imp (pt_chain3 (opr_C hu o) (opr_C hu s) (opr_C hu t) ha hb hd hg (marks3 h4)) fun σ H Q q => r_ch3 hK (tT_bl (fun _ _ _ h => ch3_bl h) q)
end
end Pv

set_option Elab.async false
set_option linter.all false
set_option maxRecDepth 100000
/-! PvI: logic, displays, subscripts, built-ins. -/
namespace Pv
open PySem PySem.Spec PyProof.Rows L2

section
variable {X : Cx} {c : Cfg} {T : Tbl} {P : Fn} {xo : Xs} {W0 : WX} {e e1 e2 e3 e4 : Expr} {es : List Expr} {a b d g : E} {p p' : Pos} {σ : _root_.L2.St} {H : Hp} {Q : VK} {QT : Bool → Hp → Prop}
/-! ### logic, as values -/
theorem bl_of {F H : Hp} {L : Ft} {k : Bool} {u : V} {B : List Addr} (r : RV c F H L (.fz (.bl k)) u B) : u = .bl k := r
theorem neg_pur {e : Bool} {b : E} (h : e = false → b.pur = true) : e = false → (!b.pur) = false := fun z => by rw [h z]; rfl
theorem r_an (h : tE c T P xo W0 (.an a b) σ H Q) : tAndV (tE c T P xo W0 a) (tE c T P xo W0 b) σ H Q := by
  obtain ⟨F, L, v, R0, q⟩ := h
  simp only [ev] at q
  obtain ⟨pa, pb⟩ := pur2 (a := a) (b := b) rfl
  refine bindE R0 q pa fun x v1 F1 H1 L1 u B R1 s1 r1 q1 n1 z1 => ?_
  split at q1
  · refine ⟨true, bl_of r1, ?_⟩
    rw [if_pos rfl]
    exact ⟨F1, L1, v1, R1, q1.go (neg_pur pb)⟩
  · refine ⟨false, bl_of r1, ?_⟩
    rw [if_neg Bool.false_ne_true]
    exact okR.fin (x := .fz (.bl false)) q1 R1 rfl
  · exact q1.elim
theorem r_or (h : tE c T P xo W0 (.or a b) σ H Q) : tOrV (tE c T P xo W0 a) (tE c T P xo W0 b) σ H Q := by
  obtain ⟨F, L, v, R0, q⟩ := h
  simp only [ev] at q
  obtain ⟨pa, pb⟩ := pur2 (a := a) (b := b) rfl
  refine bindE R0 q pa fun x v1 F1 H1 L1 u B R1 s1 r1 q1 n1 z1 => ?_
  split at q1
  · refine ⟨true, bl_of r1, ?_⟩
    rw [if_pos rfl]
    exact okR.fin (x := .fz (.bl true)) q1 R1 rfl
  · refine ⟨false, bl_of r1, ?_⟩
    rw [if_neg Bool.false_ne_true]
    exact ⟨F1, L1, v1, R1, q1.go (neg_pur pb)⟩
  · exact q1.elim
theorem s_an (ha : PE X e1 (tE c T P xo W0 a)) (hb : PE X (.BoolOp .And (e2 :: es) p) (tE c T P xo W0 b)) : PE X (.BoolOp .And (e1 :: e2 :: es) p) (tE c T P xo W0 (.an a b)) := pe_imp (pe_and ha hb) fun _ _ _ q => r_an q
theorem s_or (ha : PE X e1 (tE c T P xo W0 a)) (hb : PE X (.BoolOp .Or (e2 :: es) p) (tE c T P xo W0 b)) : PE X (.BoolOp .Or (e1 :: e2 :: es) p) (tE c T P xo W0 (.or a b)) := pe_imp (pe_or ha hb) fun _ _ _ q => r_or q
theorem s_nt (hK : X.K = c.K) (ha : PE X e (tE c T P xo W0 a)) : PE X (.UnaryOp .Not e p) (tE c T P xo W0 (.nt a)) := by
  refine pe_imp (pe_notT ha) fun σ H Q ⟨F, L, v, R0, q⟩ => ?_
  simp only [ev] at q
  refine bindE R0 q (fun z => by simpa [E.pur] using z) fun x v1 F1 H1 L1 u B R1 s1 r1 q1 n1 z1 => ?_
  obtain ⟨y, hy, q2⟩ := okR.of q1
  simp only [Option.map_eq_some_iff] at hy
  obtain ⟨k, hk, rfl⟩ := hy
  rw [hK]
  exact ⟨k, tru_ok' R1.le hk r1, okR.fin (x := .fz (.bl (!k))) q2 R1 rfl⟩
/-! ### as tests -/
/-- a test, then what its answer says -/
theorem bindT {α : Type} {e : Bool} {F : Hp} {L : Ft} {v : Env} {f : Val → Env → R α} {QA : α → Hp → Hp → Ft → List Addr → Prop} (k : Bool → Env → R α) (hf : ∀ x v, f x v = (R.of v (truth x)).bind k) (R0 : Rel c xo F H L σ v)
    (h : okR c xo e F H L σ ((ev T P xo.e a v).bind f) QA (fun cls d H' => W0 cls d σ H')) (he : e = false → a.pur = true)
    (go : ∀ t v1 F1 H1 L1, Rel c xo F1 H1 L1 σ v1 → Step (!a.pur) F H L F1 H1 L1 → okR c xo e F1 H1 L1 σ (k t v1) QA (fun cls d H' => W0 cls d σ H') → QT t H1) : tT c T P xo W0 a σ H QT := by
  refine ⟨F, L, v, R0, ?_⟩
  have hs : ∀ {F1 H1 L1}, Step (!a.pur) F H L F1 H1 L1 → Step e F H L F1 H1 L1 := fun s => s.mono fun z => by rw [he z]; rfl
  cases g : ev T P xo.e a v with
  | ok x v1 =>
    rw [g] at h
    have h : okR c xo e F H L σ (f x v1) QA (fun cls d H' => W0 cls d σ H') := h
    rw [hf] at h
    show okR c xo _ F H L σ (R.of v1 (truth x)) _ _
    cases hx : truth x with
    | none => rw [hx] at h; exact h
    | some t =>
      rw [hx] at h
      exact fun F1 H1 L1 B R1 s1 n => go t v1 F1 H1 L1 R1 s1 (okR.step h (hs s1))
  | exc x v1 =>
    rw [g] at h
    exact fun F1 H1 L1 cls d R1 s1 r => h F1 H1 L1 cls d R1 (hs s1) r
  | bad =>
    rw [g] at h
    exact h
theorem R.bind_bind {α β γ : Type} (r : R α) (f : α → Env → R β) (k : β → Env → R γ) : (r.bind f).bind k = r.bind fun a v => (f a v).bind k := by
  cases r <;> rfl
theorem r_ta (h : tT c T P xo W0 (.ta a b) σ H QT) : tAnd (tT c T P xo W0 a) (tT c T P xo W0 b) σ H QT := by
  obtain ⟨F, L, v, R0, q⟩ := h
  simp only [ev, R.bind_bind] at q
  obtain ⟨pa, pb⟩ := pur2 (a := a) (b := b) rfl
  refine bindT (fun t v => match t with
    | true => (ev T P xo.e b v).bind fun y v => R.of v (truth y)
    | false => .ok false v) (fun x v => ?_) R0 q pa fun t v1 F1 H1 L1 R1 s1 q1 => ?_
  · cases truth x with
    | none => rfl
    | some t =>
      cases t with
      | false => rfl
      | true =>
        simp only [R.bind_bind, R.of, R.bind]
        cases ev T P xo.e b v with
        | ok y v2 => simp only [R.bind]; cases truth y <;> rfl
        | exc _ _ => rfl
        | bad => rfl
  · cases t with
    | true =>
      rw [if_pos rfl]
      exact ⟨F1, L1, v1, R1, q1.go (neg_pur pb)⟩
    | false =>
      rw [if_neg Bool.false_ne_true]
      exact q1 F1 H1 L1 [] R1 Step.refl New.nil
theorem r_to (h : tT c T P xo W0 (.to a b) σ H QT) : tOr (tT c T P xo W0 a) (tT c T P xo W0 b) σ H QT := by
  obtain ⟨F, L, v, R0, q⟩ := h
  simp only [ev, R.bind_bind] at q
  obtain ⟨pa, pb⟩ := pur2 (a := a) (b := b) rfl
  refine bindT (fun t v => match t with
    | true => .ok true v
    | false => (ev T P xo.e b v).bind fun y v => R.of v (truth y)) (fun x v => ?_) R0 q pa fun t v1 F1 H1 L1 R1 s1 q1 => ?_
  · cases truth x with
    | none => rfl
    | some t =>
      cases t with
      | true => rfl
      | false =>
        simp only [R.bind_bind, R.of, R.bind]
        cases ev T P xo.e b v with
        | ok y v2 => simp only [R.bind]; cases truth y <;> rfl
        | exc _ _ => rfl
        | bad => rfl
  · cases t with
    | true =>
      rw [if_pos rfl]
      exact q1 F1 H1 L1 [] R1 Step.refl New.nil
    | false =>
      rw [if_neg Bool.false_ne_true]
      exact ⟨F1, L1, v1, R1, q1.go (neg_pur pb)⟩
theorem st_ta (ha : PT X e1 (tT c T P xo W0 a)) (hb : PT X (.BoolOp .And (e2 :: es) p) (tT c T P xo W0 b)) : PT X (.BoolOp .And (e1 :: e2 :: es) p) (tT c T P xo W0 (.ta a b)) := by
  refine ⟨fun pins s σ H Q I h => ?_⟩
  have h := r_ta h
  refine isTrue_and (thn (ha.run pins s σ H _ I h) fun c s1 ⟨H1, I1, q1⟩ => ?_)
  cases c with
  | true => exact hb.run pins s1 σ H1 Q I1 q1
  | false => exact ⟨H1, I1, q1⟩
theorem st_to (ha : PT X e1 (tT c T P xo W0 a)) (hb : PT X (.BoolOp .Or (e2 :: es) p) (tT c T P xo W0 b)) : PT X (.BoolOp .Or (e1 :: e2 :: es) p) (tT c T P xo W0 (.to a b)) := by
  refine ⟨fun pins s σ H Q I h => ?_⟩
  have h := r_to h
  refine isTrue_or (thn (ha.run pins s σ H _ I h) fun c s1 ⟨H1, I1, q1⟩ => ?_)
  cases c with
  | true => exact ⟨H1, I1, q1⟩
  | false => exact hb.run pins s1 σ H1 Q I1 q1
theorem st_nt (ha : PT X e (tT c T P xo W0 a)) : PT X (.UnaryOp .Not e p) (tT c T P xo W0 (.nt a)) := by
  refine pt_imp (pt_not ha) fun σ H Q ⟨F, L, v, R0, q⟩ => ?_
  simp only [ev, R.bind_bind] at q
  refine bindT (fun t v => .ok (!t) v) (fun x v => ?_) R0 q (fun z => by simpa [E.pur] using z) fun t v1 F1 H1 L1 R1 s1 q1 => q1 F1 H1 L1 [] R1 Step.refl New.nil
  cases truth x <;> rfl
theorem s_ite {t : E} (ht : PT X e1 (tT c T P xo W0 t)) (ha : PE X e2 (tE c T P xo W0 a)) (hb : PE X e3 (tE c T P xo W0 b)) : PE X (.IfExp e1 e2 e3 p) (tE c T P xo W0 (.ite t a b)) := by
  refine pe_imp (pe_ifExp ht ha hb) fun σ H Q ⟨F, L, v, R0, q⟩ => ?_
  simp only [ev] at q
  obtain ⟨pt, pa, pb⟩ := pur3 (a := t) (b := a) (d := b) rfl
  refine bindT (fun t v => match t with
    | true => ev T P xo.e a v
    | false => ev T P xo.e b v) (fun x v => ?_) R0 q pt fun t v1 F1 H1 L1 R1 s1 q1 => ?_
  · cases truth x with
    | none => rfl
    | some t => cases t <;> rfl
  · cases t with
    | true =>
      rw [if_pos rfl]
      exact ⟨F1, L1, v1, R1, q1.go (neg_pur pa)⟩
    | false =>
      rw [if_neg Bool.false_ne_true]
      exact ⟨F1, L1, v1, R1, q1.go (neg_pur pb)⟩
theorem s_ng (ha : PE X e (tE c T P xo W0 a)) : PE X (.UnaryOp .USub e p) (tE c T P xo W0 (.ng a)) := by
  refine pe_imp (pe_un un_neg ha) fun σ H Q ⟨F, L, v, R0, q⟩ => ?_
  simp only [ev] at q
  refine bindE R0 q (fun z => by simpa [E.pur] using z) fun x v1 F1 H1 L1 u B R1 s1 r1 q1 n1 z1 => ?_
  split at q1
  · exact ⟨_, r1, okR.fin (x := .fz (.int _)) q1 R1 rfl⟩
  · exact q1.elim
end
end Pv

set_option Elab.async false
set_option linter.all false
set_option maxRecDepth 100000
/-! PvJ: arguments, displays, subscripts, built-ins. -/
namespace Pv
open PySem PySem.Spec PyProof.Rows L2

section
variable {X : Cx} {c : Cfg} {T : Tbl} {P : Fn} {xo : Xs} {W0 : WX} {e e1 e2 e3 e4 : Expr} {es : List Expr} {a b d g : E} {p p' : Pos} {σ : _root_.L2.St} {F F' H H' : Hp} {L L' : Ft} {Q : VK} {QT : Bool → Hp → Prop}
/-! ### arguments -/
/-- the values handed in -/
def Args (c : Cfg) (F : Hp) (σ : _root_.L2.St) : List Ar → List V → Prop
  | [], vs => vs = []
  | .val d :: as, vs => ∃ u r, vs = u :: r ∧ Rep c F d u ∧ Args c F σ as r
  | .ref i :: as, vs => ∃ u r, vs = u :: r ∧ σ[i]? = some (some u) ∧ Args c F σ as r
theorem Args.mono (e : Same F F') : ∀ {as : List Ar} {vs : List V}, Args c F σ as vs → Args c F' σ as vs
  | [], _, h => h
  | .val d :: as, _, ⟨u, r, h1, h2, h3⟩ => ⟨u, r, h1, Rep.mono e d u h2, Args.mono e h3⟩
  | .ref i :: as, _, ⟨u, r, h1, h2, h3⟩ => ⟨u, r, h1, h2, Args.mono e h3⟩
theorem Args.length : ∀ {as : List Ar} {vs : List V}, Args c F σ as vs → as.length = vs.length
  | [], _, h => by rw [h]; rfl
  | .val d :: as, _, ⟨u, r, h1, h2, h3⟩ => by rw [h1, List.length_cons, List.length_cons, Args.length h3]
  | .ref i :: as, _, ⟨u, r, h1, h2, h3⟩ => by rw [h1, List.length_cons, List.length_cons, Args.length h3]
theorem Args.fins : ∀ {as : List Ar} {vs : List V} {ds : List D}, Args c F σ as vs → fins as = some ds → Reps c F ds vs
  | [], _, ds, h, e => by cases e; exact h
  | .val d :: as, _, ds, ⟨u, r, h1, h2, h3⟩, e => by
    simp only [Pv.fins, Option.map_eq_some_iff] at e
    obtain ⟨ds', e1, rfl⟩ := e
    exact ⟨u, r, h1, h2, Args.fins h3 e1⟩
  | .ref i :: as, _, ds, _, e => by cases e
abbrev aQ (c : Cfg) (σ : _root_.L2.St) (Q : List V → Hp → Prop) : List Ar → Hp → Hp → Ft → List Addr → Prop := fun as F' H' _ _ => ∀ vs, Args c F' σ as vs → Q vs H'
def tEL (c : Cfg) (T : Tbl) (P : Fn) (xo : Xs) (W : WX) (es : EL) : TA := fun σ H Q => ∃ F L v, Rel c xo F H L σ v ∧ okR c xo (!es.pur) F H L σ (evs T P xo.e es v) (aQ c σ Q) (fun cls d H' => W cls d σ H')
/-- evaluate the arguments, then go on -/
theorem bindA {α : Type} {e : Bool} {es : EL} {v : Env} {f : List Ar → Env → R α} {QA : α → Hp → Hp → Ft → List Addr → Prop} {Q1 : List V → Hp → Prop} (R0 : Rel c xo F H L σ v) (h : okR c xo e F H L σ ((evs T P xo.e es v).bind f) QA (fun cls d H' => W0 cls d σ H')) (he : e = false → es.pur = true)
    (k : ∀ as v1 F1 H1 L1 vs, Rel c xo F1 H1 L1 σ v1 → Step (!es.pur) F H L F1 H1 L1 → Args c F1 σ as vs → okR c xo e F1 H1 L1 σ (f as v1) QA (fun cls d H' => W0 cls d σ H') → evs T P xo.e es v = .ok as v1 → Q1 vs H1) : tEL c T P xo W0 es σ H Q1 := by
  refine ⟨F, L, v, R0, ?_⟩
  have hs : ∀ {F1 H1 L1}, Step (!es.pur) F H L F1 H1 L1 → Step e F H L F1 H1 L1 := fun s => s.mono fun z => by rw [he z]; rfl
  cases q : evs T P xo.e es v with
  | ok as v1 =>
    rw [q] at h
    have h : okR c xo e F H L σ (f as v1) QA (fun cls d H' => W0 cls d σ H') := h
    exact fun F1 H1 L1 B R1 s n vs r => k as v1 F1 H1 L1 vs R1 s r (h.step (hs s)) q
  | exc x v1 =>
    rw [q] at h
    exact fun F1 H1 L1 cls d R1 s r => h F1 H1 L1 cls d R1 (hs s) r
  | bad =>
    rw [q] at h
    exact h
theorem pa_imp {t t' : TA} (h : PA X es t) (k : ∀ σ H Q, t' σ H Q → t σ H Q) : PA X es t' := ⟨fun pos pins s σ H Q I q => h.run pos pins s σ H Q I (k σ H Q q)⟩
theorem s_nil : PA X [] (tEL c T P xo W0 .nil) := pa_imp pa_nil fun σ H Q ⟨F, L, v, R0, q⟩ => q F H L [] R0 Step.refl New.nil [] rfl
/-- a value for ever -/
theorem fin_rep {e : Bool} {x : Val} {d : D} {F1 H1 : Hp} {L1 : Ft} {u : V} {B : List Addr} {v : Env} (hf : x.fin = some d) (R1 : Rel c xo F1 H1 L1 σ v) (s : Step e F H L F1 H1 L1) (r : RV c F1 H1 L1 x u B) (n : New e H L B) :
    ∃ F2, Rel c xo F2 H1 L1 σ v ∧ Step e F H L F2 H1 L1 ∧ Same F1 F2 ∧ Rep c F2 d u := by
  cases x with
  | fz d' => cases hf; exact ⟨F1, R1, s, Same.refl _, r⟩
  | tmp o =>
    cases hf
    obtain ⟨h1, h2, _⟩ := r
    exact frozen (e' := e) R1 s h1 h2 n
  | vw i o => cases hf
theorem s_cons {el : EL} {xs : List Expr} (hp : plainX e = true) (ha : PE X e (tE c T P xo W0 a)) (hb : PA X xs (tEL c T P xo W0 el)) : PA X (e :: xs) (tEL c T P xo W0 (.cons a el)) := by
  refine pa_imp (pa_cons ha hb (plain_star hp xs X.env)) fun σ H Q ⟨F, L, v, R0, q⟩ => ?_
  simp only [evs] at q
  have pp : ((!(EL.cons a el).pur) = false → a.pur = true) ∧ ((!(EL.cons a el).pur) = false → el.pur = true) := by
    simp only [EL.pur]
    cases a.pur <;> cases el.pur <;> simp
  refine bindE R0 q pp.1 fun x v1 F1 H1 L1 u B R1 s1 r1 q1 n1 z1 => ?_
  cases hx : x.fin with
  | none => rw [hx] at q1; exact q1.elim
  | some d =>
    rw [hx] at z1
    obtain ⟨F2, R2, s2, k2, r2⟩ := fin_rep hx R1 s1 r1 n1
    have z2 := z1.step (s2.mono fun z => by rw [pp.1 z]; rfl)
    refine bindA R2 z2 pp.2 fun as v3 F3 H3 L3 vs R3 s3 r3 q3 _ => ?_
    exact q3 F3 H3 L3 [] R3 Step.refl New.nil (u :: vs) ⟨u, vs, rfl, Rep.mono s3.f d u r2, r3⟩
theorem s_ref {i : Nat} {x : Str} {el : EL} {xs : List Expr} (hN : X.N[i]? = some x) (hv : Vis X.env.scope x) (hd : (x == ("__debug__" : Str)) = false) (hcd : (x == ("__classdict__" : Str)) = false) (hb : PA X xs (tEL c T P xo W0 el)) : PA X (.Name x p :: xs) (tEL c T P xo W0 (.ref i el)) := by
  refine pa_imp (pa_cons (pe_var hN hv hd hcd) hb rfl) fun σ H Q ⟨F, L, v, R0, q⟩ => ?_
  simp only [evs] at q
  cases g : getS v i with
  | none => rw [g] at q; exact q.elim
  | some o =>
    rw [g] at q
    obtain ⟨u, hu, _⟩ := R0.slot i o g
    refine ⟨u, hu, bindA R0 q (fun z => by cases z) fun as v3 F3 H3 L3 vs R3 s3 r3 q3 _ => ?_⟩
    exact q3 F3 H3 L3 [] R3 Step.refl New.nil (u :: vs) ⟨u, vs, rfl, hu, r3⟩
/-! ### displays -/
theorem s_tup {el : EL} {k : Nat} (hl : es.length ≤ 1000) (hA : PA X es (tEL c T P xo W0 el)) (hn : ∀ as v v', evs T P xo.e el v = .ok as v' → as.length = es.length) : PE X (.Tuple es k p) (tE c T P xo W0 (.tup el)) := by
  refine pe_imp (pe_tup hA) fun σ H Q ⟨F, L, v, R0, q⟩ => ?_
  simp only [ev] at q
  refine ⟨F, L, v, R0, ?_⟩
  cases g : evs T P xo.e el v with
  | ok as v1 =>
    rw [g] at q
    refine fun F1 H1 L1 B R1 s n vs r => ?_
    have q : okR c xo _ F H L σ (match fins as with | some ds => R.ok (Val.fz (.tup ds)) v1 | none => R.bad) (vQ c Q) (fun cls d H' => W0 cls d σ H') := q
    cases hf : fins as with
    | none => rw [hf] at q; exact q.elim
    | some ds =>
      rw [hf] at q
      refine ⟨?_, fun z hz => ?_⟩
      · rw [← r.length, hn _ _ _ g]
        exact Nat.le_trans hl (by decide)
      · refine okR.finF (okR.step q s) R1 hz ⟨z, vs, rfl, .inl (.inl upd_same), Reps.mono (same_new (R1.le.free hz)) ds vs (r.fins hf)⟩
  | exc x v1 => rw [g] at q; exact q
  | bad => rw [g] at q; exact q
theorem s_lst {el : EL} (hl : es.length ≤ 1000) (hA : PA X es (tEL c T P xo W0 el)) (hn : ∀ as v v', evs T P xo.e el v = .ok as v' → as.length = es.length) : PE X (.List es p) (tE c T P xo W0 (.lst el)) := by
  refine pe_imp (pe_lst hA) fun σ H Q ⟨F, L, v, R0, q⟩ => ?_
  simp only [ev] at q
  refine ⟨F, L, v, R0, ?_⟩
  cases g : evs T P xo.e el v with
  | ok as v1 =>
    rw [g] at q
    refine fun F1 H1 L1 B R1 s n vs r => ?_
    have q : okR c xo _ F H L σ (match fins as with | some ds => R.ok (newL ds) v1 | none => R.bad) (vQ c Q) (fun cls d H' => W0 cls d σ H') := q
    cases hf : fins as with
    | none => rw [hf] at q; exact q.elim
    | some ds =>
      rw [hf] at q
      refine ⟨?_, fun z hz => ?_⟩
      · rw [← r.length, hn _ _ _ g]
        exact Nat.le_trans hl (by decide)
      · exact okR.finL (okR.step q s) R1 hz (Owns.of (r.fins hf))
  | exc x v1 => rw [g] at q; exact q
  | bad => rw [g] at q; exact q
/-! ### subscripts -/
theorem nth_rep {ds : List D} {vs : List V} {i : Int} {d : D} (h : nth ds i = some d) (r : Reps c F ds vs) : ∃ u, atI vs i = some u ∧ Rep c F d u := by
  unfold nth at h
  cases g : ixn ds.length i with
  | none => rw [g] at h; cases h
  | some j =>
    rw [g] at h
    obtain ⟨u, h1, h2⟩ := Reps.get r (show ds[j]? = some d from h)
    refine ⟨u, ?_, h2⟩
    unfold atI
    rw [← r.length]
    show (ixn ds.length i).bind _ = _
    rw [g]
    exact h1
theorem owns_get : ∀ {os : List O} {vs : List V} {A : List Addr} {j : Nat} {o : O}, Owns c F H os vs A → os[j]? = some o → ∃ u B, vs[j]? = some u ∧ Own c F H o u B ∧ ∀ p ∈ B, p ∈ A
  | [], _, _, j, o, _, e => by simp at e
  | o' :: os, vs, A, 0, o, ⟨v, r, A1, A2, h1, h2, h3, h4⟩, e => by
    simp at e
    subst e h1 h2
    exact ⟨v, A1, rfl, h3, fun p hp => List.mem_append_left _ hp⟩
  | o' :: os, vs, A, j + 1, o, ⟨v, r, A1, A2, h1, h2, h3, h4⟩, e => by
    subst h1 h2
    obtain ⟨u, B, q1, q2, q3⟩ := owns_get h4 (by simpa using e)
    exact ⟨u, B, by simpa using q1, q2, fun p hp => List.mem_append_right _ (q3 p hp)⟩
theorem nth_own {os : List O} {vs : List V} {A : List Addr} {i : Int} {o : O} (h : nth os i = some o) (r : Owns c F H os vs A) : ∃ u B, atI vs i = some u ∧ Own c F H o u B ∧ ∀ p ∈ B, p ∈ A := by
  unfold nth at h
  cases g : ixn os.length i with
  | none => rw [g] at h; cases h
  | some j =>
    rw [g] at h
    obtain ⟨u, B, h1, h2, h3⟩ := owns_get r (show os[j]? = some o from h)
    refine ⟨u, B, ?_, h2, h3⟩
    unfold atI
    rw [← r.length]
    show (ixn os.length i).bind _ = _
    rw [g]
    exact h1
def rIx (K : PySem.W.Frag) : R2 := fun x y H Q => rIxL K x y H Q ∨ rIxT K x y H Q ∨ rIxS x y H Q
theorem ixr_any : IxR X (rIx X.K) := by
  intro value slice pins s σ H x y v u Q I rx ry h hs
  rcases h with h | h | h
  · exact ix_list value slice pins s σ H x y v u Q I rx ry h hs
  · exact ix_tup value slice pins s σ H x y v u Q I rx ry h hs
  · exact ix_str value slice pins s σ H x y v u Q I rx ry h hs
theorem item_ok {x y z : Val} {u w : V} {B B' : List Addr} (le : Same F H) (h : item x y = some z) (rx : RV c F H L x u B) (ry : RV c F H L y w B') (q : ∀ t, RV c F H L z t [] → Q t H) : rIx c.K u w H Q := by
  unfold item at h
  split at h
  · simp only [Option.map_eq_some_iff] at h
    obtain ⟨d, h1, rfl⟩ := h
    obtain ⟨a, vs, rfl, h2, h3⟩ := rx
    obtain ⟨t, h4, h5⟩ := nth_rep h1 h3
    exact .inl ⟨a, vs, _, t, rfl, ry, Same.seq le h2, h4, q t h5⟩
  · simp only [Option.map_eq_some_iff] at h
    obtain ⟨d, h1, rfl⟩ := h
    obtain ⟨a, vs, rfl, h2, h3⟩ := rx
    obtain ⟨t, h4, h5⟩ := nth_rep h1 h3
    exact .inr (.inl ⟨a, vs, _, t, rfl, ry, Same.tup le h2, h4, q t h5⟩)
  · split at h
    · rename_i g
      simp only [Option.map_eq_some_iff] at h
      obtain ⟨d, h1, rfl⟩ := h
      exact .inr (.inr ⟨_, _, d, rx, ry, of_decide_eq_true g, h1, q _ rfl⟩)
    · cases h
  · cases g : nth _ _ with
    | none => rw [g] at h; cases h
    | some o =>
      rw [g] at h
      obtain ⟨⟨a, vs, B2, rfl, h2, h3, h4⟩, _⟩ := rx
      obtain ⟨t, B3, h5, h6, h7⟩ := nth_own g h4
      cases o with
      | fz d =>
        cases h
        exact .inl ⟨a, vs, _, t, rfl, ry, .inl (.inl h2), h5, q t h6.1⟩
      | lst _ => cases h
      | obj _ _ => cases h
  · simp only [Option.map_eq_some_iff] at h
    obtain ⟨o, h1, rfl⟩ := h
    obtain ⟨B2, ⟨a, vs, B3, rfl, h2, h3, h4⟩, h5, _⟩ := rx
    obtain ⟨t, B4, h6, h7, h8⟩ := nth_own h1 h4
    exact .inl ⟨a, vs, _, t, rfl, ry, .inl (.inl h2), h6, q t (rv_at h7 fun z hz => h5 z (by rw [h3]; exact List.mem_cons_of_mem _ (h8 z hz)))⟩
  · cases h
theorem s_ix (hK : X.K = c.K) (hi : PlainIx e2) (ha : PE X e1 (tE c T P xo W0 a)) (hb : PE X e2 (tE c T P xo W0 b)) : PE X (.Subscript e1 e2 p) (tE c T P xo W0 (.ix a b)) := by
  refine pe_imp (pe_ix ixr_any ha hb hi) fun σ H Q ⟨F, L, v, R0, q⟩ => ?_
  simp only [ev] at q
  obtain ⟨pa, pb⟩ := pur2 (a := a) (b := b) rfl
  refine bindE R0 q pa fun x v1 F1 H1 L1 u B R1 s1 r1 q1 n1 z1 => ?_
  obtain ⟨q1, hx⟩ := heldE q1
  refine bindE R1 q1 pb fun y v2 F2 H2 L2 w B' R2 s2 r2 q2 n2 z2 => ?_
  obtain ⟨z, hz, q3⟩ := okR.of q2
  rw [hK]
  exact item_ok R2.le hz (held_step r1 s2 hx) r2 fun t rt => okR.fin q3 R2 rt
theorem s_ixv {k : Nat} {x : Str} (hK : X.K = c.K) (hi : PlainIx e2) (hN : X.N[k]? = some x) (hv : Vis X.env.scope x) (hd : (x == ("__debug__" : Str)) = false) (hcd : (x == ("__classdict__" : Str)) = false) (hb : PE X e2 (tE c T P xo W0 b)) :
    PE X (.Subscript (.Name x p') e2 p) (tE c T P xo W0 (.ixv k b)) := by
  refine pe_imp (pe_ix ixr_any (pe_var hN hv hd hcd) hb hi) fun σ H Q ⟨F, L, v, R0, q⟩ => ?_
  simp only [ev] at q
  cases g : getS v k with
  | none => rw [g] at q; exact q.elim
  | some o =>
    rw [g] at q
    obtain ⟨u, hu, _⟩ := R0.slot k o g
    refine ⟨u, hu, bindE R0 q (fun z => by simpa [E.pur] using z) fun y v1 F1 H1 L1 w B R1 s1 r1 q1 n1 z1 => ?_⟩
    cases g1 : getS v1 k with
    | none => rw [g1] at q1; exact q1.elim
    | some o1 =>
      rw [g1] at q1
      obtain ⟨z, hz, q3⟩ := okR.of q1
      obtain ⟨u', hu', ow⟩ := R1.slot k o1 g1
      rw [hu] at hu'
      cases hu'
      rw [hK]
      exact item_ok R1.le hz (rv_at ow fun _ z => z) r1 fun t rt => okR.fin q3 R1 rt
end
end Pv

set_option Elab.async false
set_option linter.all false
set_option maxRecDepth 100000
/-! PvK: slices, built-ins. -/
namespace Pv
open PySem PySem.Spec PyProof.Rows L2

section
variable {X : Cx} {c : Cfg} {T : Tbl} {P : Fn} {xo : Xs} {W0 : WX} {e e1 e2 e3 e4 : Expr} {es : List Expr} {a b d g : E} {p p' p2 : Pos} {σ : _root_.L2.St} {F F' H H' : Hp} {L L' : Ft} {Q : VK} {QT : Bool → Hp → Prop}
/-! ### slices -/
abbrev oQ (Q : Option Int → Hp → Prop) : Option Int → Hp → Hp → Ft → List Addr → Prop := fun o _ H' _ _ => Q o H'
def tOE (c : Cfg) (T : Tbl) (P : Fn) (xo : Xs) (W : WX) (a : OE) : TO := fun σ H Q => ∃ F L v, Rel c xo F H L σ v ∧ okR c xo (!a.pur) F H L σ (evo T P xo.e a v) (oQ Q) (fun cls d H' => W cls d σ H')
theorem bindO {α : Type} {e : Bool} {a : OE} {v : Env} {f : Option Int → Env → R α} {QA : α → Hp → Hp → Ft → List Addr → Prop} {Q1 : Option Int → Hp → Prop} (R0 : Rel c xo F H L σ v) (h : okR c xo e F H L σ ((evo T P xo.e a v).bind f) QA (fun cls d H' => W0 cls d σ H')) (he : e = false → a.pur = true)
    (k : ∀ o v1 F1 H1 L1, Rel c xo F1 H1 L1 σ v1 → Step (!a.pur) F H L F1 H1 L1 → okR c xo e F1 H1 L1 σ (f o v1) QA (fun cls d H' => W0 cls d σ H') → Q1 o H1) : tOE c T P xo W0 a σ H Q1 := by
  refine ⟨F, L, v, R0, ?_⟩
  have hs : ∀ {F1 H1 L1}, Step (!a.pur) F H L F1 H1 L1 → Step e F H L F1 H1 L1 := fun s => s.mono fun z => by rw [he z]; rfl
  cases q : evo T P xo.e a v with
  | ok as v1 =>
    rw [q] at h
    have h : okR c xo e F H L σ (f as v1) QA (fun cls d H' => W0 cls d σ H') := h
    exact fun F1 H1 L1 B R1 s n => k as v1 F1 H1 L1 R1 s (h.step (hs s))
  | exc x v1 =>
    rw [q] at h
    exact fun F1 H1 L1 cls d R1 s r => h F1 H1 L1 cls d R1 (hs s) r
  | bad =>
    rw [q] at h
    exact h
theorem po_imp {o : Option Expr} {t t' : TO} (h : PO X o t) (k : ∀ σ H Q, t' σ H Q → t σ H Q) : PO X o t' := ⟨fun pins s σ H Q I q => h.run pins s σ H Q I (k σ H Q q)⟩
theorem s_no : PO X none (tOE c T P xo W0 .no) := po_imp po_none fun σ H Q ⟨F, L, v, R0, q⟩ => q F H L [] R0 Step.refl New.nil
theorem s_yes (ha : PE X e (tE c T P xo W0 a)) : PO X (some e) (tOE c T P xo W0 (.yes a)) := by
  refine po_imp (po_some ha) fun σ H Q ⟨F, L, v, R0, q⟩ => ?_
  simp only [evo] at q
  refine bindE R0 q (fun z => by simpa [OE.pur] using z) fun x v1 F1 H1 L1 u B R1 s1 r1 q1 n1 z1 => ?_
  split at q1
  · exact ⟨_, r1, q1 F1 H1 L1 [] R1 Step.refl New.nil⟩
  · exact q1.elim
def rSl (K : PySem.W.Frag) : V → Option Int → Option Int → Hp → VK → Prop := fun x lo hi H Q => rSlL K x lo hi H Q ∨ (rSlA K x lo hi H Q ∨ rSlS x lo hi H Q)
theorem slr_any : SlR X (rSl X.K) := SlR.or sl_list (SlR.or sl_tupA sl_str)
theorem cut_rep {ds : List D} {vs : List V} (r : Reps c F ds vs) : ∀ (lo hi : Option Int), Reps c F (cut ds lo hi) (cutV vs lo hi) := by
  intro lo hi
  unfold cut cutV
  rw [r.length]
  generalize HT.sIx vs.length 0 lo = i
  generalize HT.sIx vs.length vs.length hi - i = j
  have dr : ∀ (ds : List D) (vs : List V) (i : Nat), Reps c F ds vs → Reps c F (ds.drop i) (vs.drop i) := by
    intro ds
    induction ds with
    | nil => intro vs i h; cases (show vs = _ from h); simp only [List.drop_nil]; rfl
    | cons d ds ih =>
      rintro vs i ⟨v, r, rfl, h2, h3⟩
      cases i with
      | zero => exact ⟨v, r, rfl, h2, h3⟩
      | succ i => exact ih r i h3
  have tk : ∀ (ds : List D) (vs : List V) (i : Nat), Reps c F ds vs → Reps c F (ds.take i) (vs.take i) := by
    intro ds
    induction ds with
    | nil => intro vs i h; cases (show vs = _ from h); simp only [List.take_nil]; rfl
    | cons d ds ih =>
      rintro vs i ⟨v, r, rfl, h2, h3⟩
      cases i with
      | zero => rfl
      | succ i => exact ⟨v, r.take i, rfl, h2, ih r i h3⟩
  exact tk _ _ j (dr _ _ i r)
theorem cut_whole {α : Type} (xs : List α) (lo hi : Option Int) (h : HT.sIx xs.length 0 lo = 0 ∧ HT.sIx xs.length xs.length hi = xs.length) : cut xs lo hi = xs := by
  unfold cut
  rw [h.1, h.2, List.drop_zero, Nat.sub_zero, List.take_length]
theorem slice_ok {e : Bool} {W : XW} {x z : Val} {u : V} {B : List Addr} {lo hi : Option Int} {v : Env} (h : slice x lo hi = some z) (R0 : Rel c xo F H L σ v) (rx : RV c F H L x u B) (q : okR c xo e F H L σ (.ok z v) (vQ c Q) W) : rSl c.K u lo hi H Q := by
  unfold slice at h
  split at h
  · cases h
    obtain ⟨a, vs, rfl, h2, h3⟩ := rx
    exact .inl ⟨a, vs, rfl, Same.seq R0.le h2, fun p hp => okR.finL q R0 hp (Owns.of (cut_rep h3 _ _))⟩
  · cases h
    obtain ⟨a, vs, rfl, h2, h3⟩ := rx
    refine .inr (.inl ⟨a, vs, rfl, Same.tup R0.le h2, fun hw => ?_, fun _ p hp => ?_⟩)
    · refine okR.fin q R0 ⟨a, vs, rfl, h2, ?_⟩
      rw [cut_whole _ _ _ (by rw [h3.length]; exact hw)]
      exact h3
    · exact okR.finF q R0 hp ⟨p, _, rfl, .inl (.inl upd_same), Reps.mono (same_new (R0.le.free hp)) _ _ (cut_rep h3 _ _)⟩
  · split at h
    · rename_i g
      cases h
      refine .inr (.inr ⟨_, rx, of_decide_eq_true g, okR.fin q R0 ?_⟩)
      show V.str _ = V.str _
      unfold cut cutS Str.length
      simp
    · cases h
  · simp only [Option.map_eq_some_iff] at h
    obtain ⟨ds, h1, rfl⟩ := h
    obtain ⟨⟨a, vs, B2, rfl, h2, h3, h4⟩, _⟩ := rx
    exact .inl ⟨a, vs, rfl, .inl (.inl h2), fun p hp => okR.finL q R0 hp (Owns.of (cut_rep (Owns.fzs h4 h1).1 _ _))⟩
  · simp only [Option.map_eq_some_iff] at h
    obtain ⟨ds, h1, rfl⟩ := h
    obtain ⟨B2, ⟨a, vs, B3, rfl, h2, h3, h4⟩, _⟩ := rx
    exact .inl ⟨a, vs, rfl, .inl (.inl h2), fun p hp => okR.finL q R0 hp (Owns.of (cut_rep (Owns.fzs h4 h1).1 _ _))⟩
  · cases h
theorem s_sl {lo hi : OE} {l u : Option Expr} (hK : X.K = c.K) (ha : PE X e (tE c T P xo W0 a)) (hl : PO X l (tOE c T P xo W0 lo)) (hh : PO X u (tOE c T P xo W0 hi)) : PE X (.Subscript e (.Slice l u none p2) p) (tE c T P xo W0 (.sl a lo hi)) := by
  refine pe_imp (pe_slice slr_any ha hl hh) fun σ H Q ⟨F, L, v, R0, q⟩ => ?_
  simp only [ev] at q
  have pp : ((!(E.sl a lo hi).pur) = false → a.pur = true) ∧ ((!(E.sl a lo hi).pur) = false → lo.pur = true) ∧ ((!(E.sl a lo hi).pur) = false → hi.pur = true) := by
    simp only [E.pur]
    cases a.pur <;> cases lo.pur <;> cases hi.pur <;> simp
  refine bindE R0 q pp.1 fun x v1 F1 H1 L1 u1 B R1 s1 r1 q1 n1 z1 => ?_
  obtain ⟨q1, hx⟩ := heldE q1
  refine bindO R1 q1 pp.2.1 fun lv v2 F2 H2 L2 R2 s2 q2 => ?_
  refine bindO R2 q2 pp.2.2 fun hv v3 F3 H3 L3 R3 s3 q3 => ?_
  obtain ⟨z, hz, q4⟩ := okR.of q3
  rw [hK]
  have r2 : RV c F2 H2 L2 x u1 B := r1.step s2 fun i o z => by
    have := hx i o z
    simp only [Bool.and_eq_true] at this
    rw [this.1]; rfl
  have r3 : RV c F3 H3 L3 x u1 B := r2.step s3 fun i o z => by
    have := hx i o z
    simp only [Bool.and_eq_true] at this
    rw [this.2]; rfl
  exact slice_ok hz R3 r3 q4
/-! ### built-ins by their names -/
def rBi (K : PySem.W.Frag) : Bi → List V → Hp → VK → Prop
  | .len => fun xs H Q => ∃ x n, xs = [x] ∧ LenV K x H n ∧ Q (.int n) H
  | .min => fun xs H Q => ∃ i j, xs = [.int i, .int j] ∧ Q (.int (if j < i then j else i)) H
  | .max => fun xs H Q => ∃ i j, xs = [.int i, .int j] ∧ Q (.int (if j > i then j else i)) H
  | .int => fun xs H Q => (∃ i, xs = [.int i] ∧ Q (.int i) H) ∨ ∃ k, xs = [.bl k] ∧ Q (.int (if k then 1 else 0)) H
  | .bool => fun xs H Q => (∃ i, xs = [.int i] ∧ Q (.bl (i != 0)) H) ∨ ∃ k, xs = [.bl k] ∧ Q (.bl k) H
  | .tuple => fun xs H Q => ∃ p ys, xs = [.ref p] ∧ ((SqL K H p ys ∧ ∀ l, H l = none → Q (.ref l) (upd H l (.tup ys))) ∨ (SqT K H p ys ∧ Q (.ref p) H))
  | .list => fun xs H Q => ∃ p ys, xs = [.ref p] ∧ (SqL K H p ys ∨ SqT K H p ys) ∧ ∀ l, H l = none → Q (.ref l) (upd H l (.lst ys))
  | .all => rAll K
theorem pe_bi {bt : Bi} {xs : List Expr} {t : TA} (hc : X.calm = true) (hg : Gl X (biName bt)) (hm : X.mg (biName bt) = none) (hp : (e :: xs).all plainX = true) (ha : PA X (e :: xs) t) : PE X (.Call (.Name (biName bt) p') (e :: xs) [] p) (tCB (rBi X.K bt) t) := by
  have hp : plainX e = true ∧ xs.all plainX = true := by simpa using hp
  have h1 := plain_star hp.1 xs X.env
  have h2 := plain_stars hp.2 p X.env
  cases bt with
  | len => exact pe_callB call_len hg hm (by decide +kernel) ha (by decide +kernel) (by decide +kernel) h1 h2
  | min => exact pe_callB (call_min2 hc) hg hm (by decide +kernel) ha (by decide +kernel) (by decide +kernel) h1 h2
  | max => exact pe_callB (call_max2 hc) hg hm (by decide +kernel) ha (by decide +kernel) (by decide +kernel) h1 h2
  | int => exact pe_callTy call_int1 hg hm (by decide +kernel) ha (by decide +kernel) (by decide +kernel) h1 h2
  | bool => exact pe_callTy call_bool1 hg hm (by decide +kernel) ha (by decide +kernel) (by decide +kernel) h1 h2
  | tuple => exact pe_callTy call_tuple_of hg hm (by decide +kernel) ha (by decide +kernel) (by decide +kernel) h1 h2
  | list => exact pe_callTy call_list_of hg hm (by decide +kernel) ha (by decide +kernel) (by decide +kernel) h1 h2
  | all => exact pe_callB (cr_all hc) hg hm (by decide +kernel) ha (by decide +kernel) (by decide +kernel) h1 h2
theorem allBl_rep : ∀ {ds : List D} {vs : List V} {k : Bool}, Reps c F ds vs → allBl ds = some k → ∃ bs : List Bool, vs = bs.map V.bl ∧ bs.all id = k
  | [], vs, k, h, e => by
    cases e
    exact ⟨[], h, rfl⟩
  | d :: ds, vs, k, ⟨v, r, h1, h2, h3⟩, e => by
    cases d with
    | bl b =>
      simp only [allBl, Option.map_eq_some_iff] at e
      obtain ⟨k', e1, rfl⟩ := e
      obtain ⟨bs, q1, q2⟩ := allBl_rep h3 e1
      cases (show v = _ from h2)
      subst h1 q1
      exact ⟨b :: bs, rfl, by rw [List.all_cons, q2]; rfl⟩
    | _ => cases e
theorem items_len {x : Val} {ds : List D} {u : V} {B : List Addr} {k : Nat} (le : Same F H) (hi : x.items = some ds) (hk : k = ds.length) (r : RV c F H L x u B) : LenV c.K u H k := by
  obtain ⟨a, vs, rfl, h2, h3⟩ := r.items le hi
  subst hk
  rcases h2 with h2 | h2
  · exact .inl ⟨vs, h2, h3.length⟩
  · exact .inr ⟨vs, h2, h3.length⟩
theorem isL_sq {x : Val} {ds : List D} {u : V} {B : List Addr} (le : Same F H) (hi : x.items = some ds) (hl : x.isL = true) (r : RV c F H L x u B) : ∃ a vs, u = .ref a ∧ SqL c.K H a vs ∧ Reps c F ds vs := by
  cases x with
  | fz d =>
    cases d with
    | lst xs =>
      cases hi
      obtain ⟨a, vs, h1, h2, h3⟩ := r
      exact ⟨a, vs, h1, Same.seq le h2, h3⟩
    | _ => cases hl
  | tmp o =>
    cases o with
    | lst os =>
      obtain ⟨⟨a, vs, B', h1, h2, h3, h4⟩, _⟩ := r
      exact ⟨a, vs, h1, .inl (.inl h2), (Owns.fzs h4 hi).1⟩
    | _ => cases hl
  | vw i o =>
    cases o with
    | lst os =>
      obtain ⟨B2, ⟨a, vs, B', h1, h2, h3, h4⟩, _⟩ := r
      exact ⟨a, vs, h1, .inl (.inl h2), (Owns.fzs h4 hi).1⟩
    | _ => cases hl
theorem len_own {x : Val} {os : List O} {u : V} {B : List Addr} (hx : x = .tmp (.lst os) ∨ ∃ i, x = .vw i (.lst os)) (r : RV c F H L x u B) : LenV c.K u H os.length := by
  rcases hx with rfl | ⟨i, rfl⟩
  · obtain ⟨⟨a, vs, B', rfl, h2, h3, h4⟩, _⟩ := r
    exact .inl ⟨vs, .inl (.inl h2), h4.length⟩
  · obtain ⟨B2, ⟨a, vs, B', rfl, h2, h3, h4⟩, _⟩ := r
    exact .inl ⟨vs, .inl (.inl h2), h4.length⟩
theorem bi1_ok {e : Bool} {W : XW} {bt : Bi} {x z : Val} {u : V} {B : List Addr} {v : Env} (h : bi bt [x] = some z) (R0 : Rel c xo F H L σ v) (rx : RV c F H L x u B) (q : okR c xo e F H L σ (.ok z v) (vQ c Q) W) : rBi c.K bt [u] H Q := by
  cases bt with
  | len =>
    cases x with
    | fz d =>
      cases d with
      | str y =>
        have h : (if decide (y.length ≤ sizeLine) then some (Val.fz (.int y.length)) else none) = some z := h
        split at h
        · rename_i g2
          cases h
          cases (show u = _ from rx)
          exact ⟨_, _, rfl, ⟨of_decide_eq_true g2, rfl⟩, okR.fin q R0 rfl⟩
        · cases h
      | lst ds =>
        cases h
        exact ⟨u, _, rfl, items_len R0.le rfl rfl rx, okR.fin q R0 rfl⟩
      | tup ds =>
        cases h
        exact ⟨u, _, rfl, items_len R0.le rfl rfl rx, okR.fin q R0 rfl⟩
      | _ => cases h
    | tmp o =>
      cases o with
      | lst os =>
        cases h
        exact ⟨u, _, rfl, len_own (.inl rfl) rx, okR.fin q R0 rfl⟩
      | _ => cases h
    | vw i o =>
      cases o with
      | lst os =>
        cases h
        exact ⟨u, _, rfl, len_own (.inr ⟨_, rfl⟩) rx, okR.fin q R0 rfl⟩
      | _ => cases h
  | min => cases x with
    | fz d => cases d <;> cases h
    | _ => cases h
  | max => cases x with
    | fz d => cases d <;> cases h
    | _ => cases h
  | int =>
    cases x with
    | fz d =>
      cases d with
      | int i => cases h; cases (show u = _ from rx); exact .inl ⟨_, rfl, okR.fin q R0 rfl⟩
      | bl b => cases h; cases (show u = _ from rx); exact .inr ⟨_, rfl, okR.fin q R0 rfl⟩
      | _ => cases h
    | _ => cases h
  | bool =>
    cases x with
    | fz d =>
      cases d with
      | int i => cases h; cases (show u = _ from rx); exact .inl ⟨_, rfl, okR.fin q R0 rfl⟩
      | bl b => cases h; cases (show u = _ from rx); exact .inr ⟨_, rfl, okR.fin q R0 rfl⟩
      | _ => cases h
    | _ => cases h
  | tuple =>
    have h : x.items.map (fun xs => Val.fz (.tup xs)) = some z := by
      rcases x with (_ | _ | _ | _ | _ | _ | _) | _ | _ <;> exact h
    simp only [Option.map_eq_some_iff] at h
    obtain ⟨ds, h1, rfl⟩ := h
    by_cases hl : x.isL = true
    · obtain ⟨a, vs, rfl, h2, h3⟩ := isL_sq R0.le h1 hl rx
      exact ⟨a, vs, rfl, .inl ⟨h2, fun l hl => okR.finF q R0 hl ⟨l, _, rfl, .inl (.inl upd_same), Reps.mono (same_new (R0.le.free hl)) _ _ h3⟩⟩⟩
    · cases x with
      | fz d =>
        cases d with
        | tup d =>
          cases h1
          obtain ⟨a, vs, rfl, h5, h6⟩ := id rx
          exact ⟨a, vs, rfl, .inr ⟨Same.tup R0.le h5, okR.fin q R0 rx⟩⟩
        | lst d => exact absurd rfl hl
        | _ => cases h1
      | tmp o => cases o <;> first | exact absurd rfl hl | cases h1
      | vw i o => cases o <;> first | exact absurd rfl hl | cases h1
  | list =>
    have h : x.items.map newL = some z := by
      rcases x with (_ | _ | _ | _ | _ | _ | _) | _ | _ <;> exact h
    simp only [Option.map_eq_some_iff] at h
    obtain ⟨ds, h1, rfl⟩ := h
    obtain ⟨a, vs, rfl, h2, h3⟩ := rx.items R0.le h1
    exact ⟨a, vs, rfl, h2, fun l hl => okR.finL q R0 hl (Owns.of h3)⟩
  | all =>
    have h : (if x.isL then x.items.bind fun xs => (allBl xs).map fun b => Val.fz (.bl b) else none) = some z := by
      rcases x with (_ | _ | _ | _ | _ | _ | _) | _ | _ <;> exact h
    split at h
    · rename_i g
      cases hi : x.items with
      | none => rw [hi] at h; cases h
      | some ds =>
        rw [hi] at h
        simp only [Option.bind_some, Option.map_eq_some_iff] at h
        obtain ⟨k, hk, rfl⟩ := h
        obtain ⟨a, vs, rfl, h2, h3⟩ := isL_sq R0.le hi g rx
        obtain ⟨bs, rfl, rfl⟩ := allBl_rep h3 hk
        exact ⟨a, bs, rfl, h2, okR.fin q R0 rfl⟩
    · cases h
end
end Pv

set_option Elab.async false
set_option linter.all false
set_option maxRecDepth 100000
/-! PvL: what the module's top has left; attributes, isinstance. -/
namespace Pv
open PySem PySem.Spec PyProof.Rows L2

/-- what the top has left of names and classes -/
structure Wd (c : Cfg) (J : Info) (T : Tbl) (mg : Str → Option Value) : Prop where
  anm : J.anm = c.an
  free : ∀ x ∈ freeNames, mg x = none
  cst : ∀ q ∈ J.cst, ∃ u, mg q.1 = some u ∧ RelV (fv q.2) u
  clsG : ∀ k ∈ J.ks, mg (J.cnm k) = some (.ref (c.ca k))
  cls : ∀ k, (T.ini k).isSome = true → Cls c.K (c.ca k)
  fld : ∀ k f, (T.ini k).isSome = true → T.att k f = .fld → NoAttr c.K (c.ca k) (c.an f)
  con : ∀ k f d, (T.ini k).isSome = true → T.att k f = .con d → d.flat = true ∧ ∃ u, Con c.K (c.ca k) (c.an f) (fv d) u
  tyI : ∀ k, (T.ini k).isSome = true → ∀ (H : Hp) a dx vs, H a = some (.ins (c.ca k) dx vs) → TyX c.K H (.ref a) (.ref (c.ca k))
  kitT : ∀ k, (T.ini k).isSome = true → ∀ t ∈ (["int", "bool", "str", "list", "tuple"] : List String), PySem.W.kitOne c.K (.ref (c.ca k)) (.type t) = some false
  kitC : ∀ k ∈ J.ks, ∀ t ∈ (["NoneType", "bool", "int", "str", "tuple", "list"] : List String), PySem.W.kitOne c.K (.type t) (.ref (c.ca k)) = some false
  kitK : ∀ k, (T.ini k).isSome = true → ∀ k2 ∈ J.ks, PySem.W.kitOne c.K (.ref (c.ca k)) (.ref (c.ca k2)) = some (T.sup k k2)

/-- what the top has left of the program's exceptions -/
structure We (c : Cfg) (J : Info) (T : Tbl) (mg : Str → Option Value) : Prop where
  cls : ∀ k ∈ J.xs, mg (J.cnm k) = some (.ref (c.ca k)) ∧ T.exc k = true
  exm : ∀ i j, T.exc i = true → T.exc j = true → PySem.W.exmOne c.K (.ref (c.ca i)) (.ref (c.ca j)) = some (T.sup i j)
  xfc : ∀ i, T.exc i = true → XfC c.K (c.ca i)
  fld : ∀ i f, T.exc i = true → f ∈ T.exf i → PySem.W.findIn c.K (.ref (c.ca i)) (c.an f) = some none
section
variable {X : Cx} {c : Cfg} {T : Tbl} {P : Fn} {xo : Xs} {W0 : WX} {e e1 e2 e3 e4 : Expr} {es : List Expr} {a b d g : E} {p p' p2 : Pos} {σ : _root_.L2.St} {F F' H H' : Hp} {L L' : Ft} {Q : VK} {QT : Bool → Hp → Prop} {J : Info}
theorem s_bi1 {bt : Bi} (hK : X.K = c.K) (hc : X.calm = true) (hg : Gl X (biName bt)) (hm : X.mg (biName bt) = none) (hp : plainX e = true) (ha : PE X e (tE c T P xo W0 a)) : PE X (.Call (.Name (biName bt) p') [e] [] p) (tE c T P xo W0 (.bi bt (.cons a .nil))) := by
  refine pe_imp (pe_bi hc hg hm (by simp [hp]) (pa_cons ha pa_nil (plain_star hp _ _))) fun σ H Q ⟨F, L, v, R0, q⟩ => ?_
  simp only [ev, evv, R.bind_bind] at q
  refine bindE R0 q (fun z => by simpa [E.pur, EL.pur] using z) fun x v1 F1 H1 L1 u B R1 s1 r1 q1 n1 z1 => ?_
  have q1 : okR c xo (!(E.bi bt (.cons a .nil)).pur) F1 H1 L1 σ (R.of v1 (bi bt [x])) (vQ c Q) (fun cls d H' => W0 cls d σ H') := by
    cases x <;> exact q1
  obtain ⟨z, hz, q2⟩ := okR.of q1
  rw [hK]
  exact bi1_ok hz R1 r1 q2
theorem bi2_ok {e : Bool} {W : XW} {bt : Bi} {x y z : Val} {u w : V} {B B' : List Addr} {v : Env} (h : bi bt [x, y] = some z) (R0 : Rel c xo F H L σ v) (rx : RV c F H L x u B) (ry : RV c F H L y w B') (q : okR c xo e F H L σ (.ok z v) (vQ c Q) W) : rBi c.K bt [u, w] H Q := by
  cases bt with
  | min =>
    cases x with
    | fz d =>
      cases d with
      | int i =>
        cases y with
        | fz d' =>
          cases d' with
          | int j =>
            cases h
            cases (show u = _ from rx)
            cases (show w = _ from ry)
            exact ⟨i, j, rfl, okR.fin q R0 rfl⟩
          | _ => cases h
        | _ => cases h
      | _ => cases y with
        | fz d' => cases d' <;> cases h
        | _ => cases h
    | _ => cases y with
      | fz d' => cases d' <;> cases h
      | _ => cases h
  | max =>
    cases x with
    | fz d =>
      cases d with
      | int i =>
        cases y with
        | fz d' =>
          cases d' with
          | int j =>
            cases h
            cases (show u = _ from rx)
            cases (show w = _ from ry)
            exact ⟨i, j, rfl, okR.fin q R0 rfl⟩
          | _ => cases h
        | _ => cases h
      | _ => cases y with
        | fz d' => cases d' <;> cases h
        | _ => cases h
    | _ => cases y with
      | fz d' => cases d' <;> cases h
      | _ => cases h
  | _ => rcases x with (_ | _ | _ | _ | _ | _ | _) | (_ | _ | _) | ⟨_, (_ | _ | _)⟩ <;> cases h
theorem s_bi2 {bt : Bi} (hK : X.K = c.K) (hc : X.calm = true) (hg : Gl X (biName bt)) (hm : X.mg (biName bt) = none) (hp1 : plainX e1 = true) (hp2 : plainX e2 = true) (ha : PE X e1 (tE c T P xo W0 a)) (hb : PE X e2 (tE c T P xo W0 b)) : PE X (.Call (.Name (biName bt) p') [e1, e2] [] p) (tE c T P xo W0 (.bi bt (.cons a (.cons b .nil)))) := by
  refine pe_imp (pe_bi hc hg hm (by simp [hp1, hp2]) (pa_cons ha (pa_cons hb pa_nil (plain_star hp2 _ _)) (plain_star hp1 _ _))) fun σ H Q ⟨F, L, v, R0, q⟩ => ?_
  simp only [ev, evv, R.bind_bind] at q
  have pp : ((!(E.bi bt (.cons a (.cons b .nil))).pur) = false → a.pur = true) ∧ ((!(E.bi bt (.cons a (.cons b .nil))).pur) = false → b.pur = true) := by
    simp only [E.pur, EL.pur]
    cases a.pur <;> cases b.pur <;> simp
  have hb' : (EL.cons b .nil).pur = b.pur := by simp [EL.pur]
  have q : okR c xo (!(E.bi bt (.cons a (.cons b .nil))).pur) F H L σ ((ev T P xo.e a v).bind fun x v => held x b.pur ((ev T P xo.e b v).bind fun y v => R.of v (bi bt [x, y]))) (vQ c Q) (fun cls d H' => W0 cls d σ H') := by
    refine Eq.mp (congrArg (fun r => okR c xo (!(E.bi bt (.cons a (.cons b .nil))).pur) F H L σ r (vQ c Q) (fun cls d H' => W0 cls d σ H')) ?_) q
    cases ev T P xo.e a v with
    | ok x v1 =>
      simp only [R.bind]
      cases x with
      | vw i o =>
        simp only [held, hb']
        cases b.pur with
        | false => rfl
        | true =>
          simp only [if_true]
          cases ev T P xo.e b v1 with
          | ok y v2 => cases y <;> rfl
          | exc _ _ => rfl
          | bad => rfl
      | _ =>
        simp only [held]
        cases ev T P xo.e b v1 with
        | ok y v2 => cases y <;> rfl
        | exc _ _ => rfl
        | bad => rfl
    | exc _ _ => rfl
    | bad => rfl
  refine bindE R0 q pp.1 fun x v1 F1 H1 L1 u B R1 s1 r1 q1 n1 z1 => ?_
  obtain ⟨q1, hx⟩ := heldE q1
  refine bindE R1 q1 pp.2 fun y v2 F2 H2 L2 w B' R2 s2 r2 q2 n2 z2 => ?_
  obtain ⟨z, hz, q3⟩ := okR.of q2
  rw [hK]
  exact bi2_ok hz R2 (held_step r1 s2 hx) r2 q3
theorem s_rep {n : E} (hK : X.K = c.K) (ha : PE X e1 (tE c T P xo W0 a)) (hn : PE X e2 (tE c T P xo W0 n)) : PE X (.BinOp e1 .Mult e2 p) (tE c T P xo W0 (.rep a n)) := by
  refine pe_imp (pe_op op_rep ha hn) fun σ H Q ⟨F, L, v, R0, q⟩ => ?_
  simp only [ev] at q
  obtain ⟨pa, pb⟩ := pur2 (a := a) (b := n) rfl
  refine bindE R0 q pa fun x v1 F1 H1 L1 u B R1 s1 r1 q1 n1 z1 => ?_
  obtain ⟨q1, hx⟩ := heldE q1
  refine bindE R1 q1 pb fun y v2 F2 H2 L2 w B' R2 s2 r2 q2 n2 z2 => ?_
  split at q2
  · rename_i ds k hi
    split at q2
    · rename_i g
      simp only [Bool.and_eq_true, decide_eq_true_eq] at g
      obtain ⟨⟨g1, g2⟩, g3⟩ := g
      have g4 : k.natAbs < 4611686018427387904 := of_decide_eq_true g2
      have r1' := held_step r1 s2 hx
      rcases x with d | o | ⟨i, o⟩
      · cases g1
      · cases o with
        | lst os =>
          obtain ⟨⟨l, vs, B2, rfl, h2, h3, h4⟩, _⟩ := r1'
          have h5 := (Owns.fzs h4 hi).1
          have hl : ∀ m : Nat, (List.replicate m ds).flatten.length = (List.replicate m vs).flatten.length := fun m => by
            induction m with
            | zero => rfl
            | succ m ih => rw [List.replicate_succ, List.replicate_succ, List.flatten_cons, List.flatten_cons, List.length_append, List.length_append, ih, h5.length]
          have rr : ∀ m : Nat, Reps c F2 (List.replicate m ds).flatten (List.replicate m vs).flatten := fun m => by
            induction m with
            | zero => rfl
            | succ m ih =>
              rw [List.replicate_succ, List.replicate_succ, List.flatten_cons, List.flatten_cons]
              have app : ∀ (xs : List D) (us : List V), Reps c F2 xs us → Reps c F2 (xs ++ (List.replicate m ds).flatten) (us ++ (List.replicate m vs).flatten) := by
                intro xs
                induction xs with
                | nil => intro us h; cases (show us = _ from h); exact ih
                | cons x xs ihx =>
                  rintro us ⟨v, r, rfl, q1, q2⟩
                  exact ⟨v, _, rfl, q1, ihx r q2⟩
              exact app ds vs h5
          exact ⟨l, k, vs, rfl, r2, h2, by omega, by omega, by rw [← h5.length]; exact g3, fun p hp => okR.finL q2 R2 hp (Owns.of (rr _))⟩
        | _ => cases g1
      · cases g1
    · exact q2.elim
  · exact q2.elim
theorem s_dm (hc : X.calm = true) (hg : Gl X "divmod") (hm : X.mg "divmod" = none) (hp1 : plainX e1 = true) (hp2 : plainX e2 = true) (ha : PE X e1 (tE c T P xo W0 a)) (hb : PE X e2 (tE c T P xo W0 b)) : PE X (.Call (.Name "divmod" p') [e1, e2] [] p) (tE c T P xo W0 (.dm a b)) := by
  refine pe_imp (pe_callB call_divmod hg hm (by decide +kernel) (pa_cons ha (pa_cons hb pa_nil (plain_star hp2 _ _)) (plain_star hp1 _ _)) (by decide +kernel) (by decide +kernel) (plain_star hp1 _ _) (plain_stars (by simp [hp2]) _ _)) fun σ H Q ⟨F, L, v, R0, q⟩ => ?_
  simp only [ev] at q
  obtain ⟨pa, pb⟩ := pur2 (a := a) (b := b) rfl
  refine bindE R0 q pa fun x v1 F1 H1 L1 u B R1 s1 r1 q1 n1 z1 => ?_
  refine bindE R1 q1 pb fun y v2 F2 H2 L2 w B' R2 s2 r2 q2 n2 z2 => ?_
  split at q2
  · rename_i i j
    split at q2
    · rename_i g
      simp only [Bool.and_eq_true, decide_eq_true_eq] at g
      cases (show u = _ from r1)
      cases (show w = _ from r2)
      exact ⟨i, j, rfl, g, fun p hp => okR.finF q2 R2 hp ⟨p, _, rfl, .inl (.inl upd_same), ⟨_, _, rfl, rfl, ⟨_, _, rfl, rfl, rfl⟩⟩⟩⟩
    · exact q2.elim
  · exact q2.elim
/-! ### isinstance -/
def Val.ty : Val → Option String
  | .fz .non => some "NoneType"
  | .fz (.bl _) => some "bool"
  | .fz (.int _) => some "int"
  | .fz (.str _) => some "str"
  | .fz (.tup _) => some "tuple"
  | .fz (.lst _) => some "list"
  | .tmp (.lst _) => some "list"
  | .vw _ (.lst _) => some "list"
  | _ => none
theorem sqL_ty {K : PySem.W.Frag} {a : Addr} {xs : List V} (h : SqL K H a xs) : TyX K H (.ref a) (.type "list") := by
  rcases h with (h | ⟨o, h⟩) | ⟨o, its, n, h1, h2, _⟩
  · exact .base (.lst h)
  · exact .base (.frz h)
  · exact .kList h1 h2
theorem sqT_ty {K : PySem.W.Frag} {a : Addr} {xs : List V} (h : SqT K H a xs) : TyX K H (.ref a) (.type "tuple") := by
  rcases h with (h | ⟨o, h⟩) | ⟨o, its, n, h1, h2, _⟩
  · exact .base (.tup h)
  · exact .fTuple h
  · exact .kTuple h1 h2
theorem isC {x : Val} {u : V} {B : List Addr} {k : Nat} (le : Same F H) (hk : x.cls = some k) (r : RV c F H L x u B) : ∃ a dx vs, u = .ref a ∧ H a = some (.ins (c.ca k) dx vs) := by
  cases x with
  | fz d =>
    cases d with
    | obj k' fs =>
      cases hk
      obtain ⟨a, dx, vs, h1, h2, _⟩ := r
      exact ⟨a, dx, vs, h1, le _ _ h2⟩
    | _ => cases hk
  | tmp o =>
    cases o with
    | obj k' fs =>
      cases hk
      obtain ⟨⟨a, dx, vs, B', h1, h2, _⟩, _⟩ := r
      exact ⟨a, dx, vs, h1, h2⟩
    | _ => cases hk
  | vw i o =>
    cases o with
    | obj k' fs =>
      cases hk
      obtain ⟨B2, ⟨a, dx, vs, B', h1, h2, _⟩, _⟩ := r
      exact ⟨a, dx, vs, h1, h2⟩
    | _ => cases hk
theorem kb_non : kitB "NoneType" "int" = some false ∧ kitB "NoneType" "bool" = some false ∧ kitB "NoneType" "str" = some false ∧ kitB "NoneType" "list" = some false ∧ kitB "NoneType" "tuple" = some false := by decide +kernel
theorem kb_bl : kitB "bool" "int" = some true ∧ kitB "bool" "bool" = some true ∧ kitB "bool" "str" = some false ∧ kitB "bool" "list" = some false ∧ kitB "bool" "tuple" = some false := by decide +kernel
theorem kb_int : kitB "int" "int" = some true ∧ kitB "int" "bool" = some false ∧ kitB "int" "str" = some false ∧ kitB "int" "list" = some false ∧ kitB "int" "tuple" = some false := by decide +kernel
theorem kb_str : kitB "str" "int" = some false ∧ kitB "str" "bool" = some false ∧ kitB "str" "str" = some true ∧ kitB "str" "list" = some false ∧ kitB "str" "tuple" = some false := by decide +kernel
theorem kb_tup : kitB "tuple" "int" = some false ∧ kitB "tuple" "bool" = some false ∧ kitB "tuple" "str" = some false ∧ kitB "tuple" "list" = some false ∧ kitB "tuple" "tuple" = some true := by decide +kernel
theorem kb_lst : kitB "list" "int" = some false ∧ kitB "list" "bool" = some false ∧ kitB "list" "str" = some false ∧ kitB "list" "list" = some true ∧ kitB "list" "tuple" = some false := by decide +kernel
/-- a value's type, and what isinstance says of it -/
theorem ty_ok {x : Val} {u : V} {B : List Addr} (wd : Wd c J T X.mg) (le : Same F H) (hk : knownC T x = true) (r : RV c F H L x u B) :
    ∃ t : Value, TyX c.K H u t ∧ ∀ ty : Ty, (∀ k, ty = .cls k → k ∈ J.ks) → PySem.W.kitOne c.K t (match ty with | .int => .type "int" | .bool => .type "bool" | .str => .type "str" | .list => .type "list" | .tuple => .type "tuple" | .cls k => .ref (c.ca k)) = some (isTy T.sup x ty) := by
  have ks : ∀ {a b : String} {k : Bool}, kitB a b = some k → PySem.W.kitOne c.K (.type a) (.type b) = some k := fun h => kit_ty h
  cases hc : x.cls with
  | some k =>
    unfold knownC at hk
    rw [hc] at hk
    obtain ⟨a, dx, vs, rfl, h2⟩ := isC le hc r
    refine ⟨.ref (c.ca k), wd.tyI k hk H a dx vs h2, fun ty hty => ?_⟩
    have no : ∀ t : Ty, (∀ k, t ≠ .cls k) → isTy T.sup x t = false := by
      intro t ht
      rcases x with (_ | _ | _ | _ | _ | _ | _) | (_ | _ | _) | ⟨_, (_ | _ | _)⟩ <;> first | (cases hc; done) | (cases t <;> first | rfl | exact absurd rfl (ht _))
    cases ty with
    | cls k2 =>
      show _ = some (match x.cls with | some k => T.sup k k2 | none => false)
      rw [hc]
      exact wd.kitK k hk k2 (hty k2 rfl)
    | _ =>
      rw [no _ (fun _ => by intro z; cases z)]
      exact wd.kitT k hk _ (by simp)
  | none =>
    have cl : ∀ k2, isTy T.sup x (.cls k2) = false := fun k2 => by
      show (match x.cls with | some k => T.sup k k2 | none => false) = false
      rw [hc]
    have fin : ∀ (t : String), t ∈ (["NoneType", "bool", "int", "str", "tuple", "list"] : List String) → (kitB t "int" = some (isTy T.sup x .int)) → (kitB t "bool" = some (isTy T.sup x .bool)) → (kitB t "str" = some (isTy T.sup x .str)) →
        (kitB t "list" = some (isTy T.sup x .list)) → (kitB t "tuple" = some (isTy T.sup x .tuple)) → ∀ ty : Ty, (∀ k, ty = .cls k → k ∈ J.ks) →
        PySem.W.kitOne c.K (.type t) (match ty with | .int => .type "int" | .bool => .type "bool" | .str => .type "str" | .list => .type "list" | .tuple => .type "tuple" | .cls k => .ref (c.ca k)) = some (isTy T.sup x ty) := by
      intro t ht h1 h2 h3 h4 h5 ty hty
      cases ty with
      | int => exact ks h1
      | bool => exact ks h2
      | str => exact ks h3
      | list => exact ks h4
      | tuple => exact ks h5
      | cls k =>
        rw [cl]
        exact wd.kitC k (hty k rfl) t ht
    have go : ∀ (t : String) (_ : TyX c.K H u (.type t)), t ∈ (["NoneType", "bool", "int", "str", "tuple", "list"] : List String) → (kitB t "int" = some (isTy T.sup x .int)) → (kitB t "bool" = some (isTy T.sup x .bool)) → (kitB t "str" = some (isTy T.sup x .str)) →
        (kitB t "list" = some (isTy T.sup x .list)) → (kitB t "tuple" = some (isTy T.sup x .tuple)) →
        ∃ t : Value, TyX c.K H u t ∧ ∀ ty : Ty, (∀ k, ty = .cls k → k ∈ J.ks) → PySem.W.kitOne c.K t (match ty with | .int => .type "int" | .bool => .type "bool" | .str => .type "str" | .list => .type "list" | .tuple => .type "tuple" | .cls k => .ref (c.ca k)) = some (isTy T.sup x ty) :=
      fun t h0 ht h1 h2 h3 h4 h5 => ⟨.type t, h0, fin t ht h1 h2 h3 h4 h5⟩
    cases x with
    | fz d =>
      cases d with
      | non => cases (show u = _ from r); exact go "NoneType" (.base .non) (by simp) kb_non.1 kb_non.2.1 kb_non.2.2.1 kb_non.2.2.2.1 kb_non.2.2.2.2
      | bl _ => cases (show u = _ from r); exact go "bool" (.base (.bl _)) (by simp) kb_bl.1 kb_bl.2.1 kb_bl.2.2.1 kb_bl.2.2.2.1 kb_bl.2.2.2.2
      | int _ => cases (show u = _ from r); exact go "int" (.base (.int _)) (by simp) kb_int.1 kb_int.2.1 kb_int.2.2.1 kb_int.2.2.2.1 kb_int.2.2.2.2
      | str _ => cases (show u = _ from r); exact go "str" (.base (.str _)) (by simp) kb_str.1 kb_str.2.1 kb_str.2.2.1 kb_str.2.2.2.1 kb_str.2.2.2.2
      | tup _ =>
        obtain ⟨a, vs, rfl, h2, _⟩ := r
        exact go "tuple" (sqT_ty (Same.tup le h2)) (by simp) kb_tup.1 kb_tup.2.1 kb_tup.2.2.1 kb_tup.2.2.2.1 kb_tup.2.2.2.2
      | lst _ =>
        obtain ⟨a, vs, rfl, h2, _⟩ := r
        exact go "list" (sqL_ty (Same.seq le h2)) (by simp) kb_lst.1 kb_lst.2.1 kb_lst.2.2.1 kb_lst.2.2.2.1 kb_lst.2.2.2.2
      | obj _ _ => cases hc
    | tmp o =>
      obtain ⟨r, _, z⟩ := r
      cases o with
      | fz _ => exact z.elim
      | lst _ =>
        obtain ⟨a, vs, B', rfl, h2, _⟩ := r
        exact go "list" (.base (.lst h2)) (by simp) kb_lst.1 kb_lst.2.1 kb_lst.2.2.1 kb_lst.2.2.2.1 kb_lst.2.2.2.2
      | obj _ _ => cases hc
    | vw i o =>
      obtain ⟨B2, r, _, z⟩ := r
      cases o with
      | fz _ => exact z.elim
      | lst _ =>
        obtain ⟨a, vs, B', rfl, h2, _⟩ := r
        exact go "list" (.base (.lst h2)) (by simp) kb_lst.1 kb_lst.2.1 kb_lst.2.2.1 kb_lst.2.2.2.1 kb_lst.2.2.2.2
      | obj _ _ => cases hc
/-- a type as an expression -/
def tyV (c : Cfg) : Ty → V
  | .int => .ty "int"
  | .bool => .ty "bool"
  | .str => .ty "str"
  | .list => .ty "list"
  | .tuple => .ty "tuple"
  | .cls k => .ref (c.ca k)
def tyU (c : Cfg) : Ty → Value
  | .int => .type "int"
  | .bool => .type "bool"
  | .str => .type "str"
  | .list => .type "list"
  | .tuple => .type "tuple"
  | .cls k => .ref (c.ca k)
theorem tyV_cls (c : Cfg) : ∀ t : Ty, ClsV (tyV c t) (tyU c t)
  | .int => .ty _
  | .bool => .ty _
  | .str => .ty _
  | .list => .ty _
  | .tuple => .ty _
  | .cls k => .own _
theorem cls_paired : ∀ ts : List Ty, Paired ClsV (ts.map (tyV c)) (ts.map (tyU c))
  | [] => .nil
  | t :: ts => .cons (tyV_cls c t) (cls_paired ts)
theorem gl_of {sc : Scope} {x : Str} (h : gl sc x = true) : sc.names.lookup x = some .globalImplicit ∧ (x == ("__debug__" : Str)) = false ∧ (x == ("__name__" : Str)) = false := by
  unfold gl at h
  simp only [Bool.and_eq_true, Bool.not_eq_true'] at h
  exact ⟨eq_of_beq h.1, h.2.1, h.2.2⟩
theorem free_ne {x : Str} (h : (x == ("__name__" : Str)) = false) : x ≠ "__name__" := fun z => by
  rw [z] at h
  simp at h
theorem s_ty {t : Ty} (wd : Wd c J T X.mg) (h : chkTy J X.env.scope t e = true) : PE X e (tC (tyV c t)) ∧ ∀ k, t = .cls k → k ∈ J.ks := by
  unfold chkTy at h
  cases hn : dName e with
  | none => rw [hn] at h; cases h
  | some x =>
    rw [hn] at h
    obtain ⟨p, rfl⟩ := dName_eq hn
    simp only [oand, Bool.and_eq_true] at h
    obtain ⟨h1, h2⟩ := h
    obtain ⟨g1, g2, g3⟩ := gl_of h1
    have bl : ∀ {n : String}, x = (Str.ofString n) → bootBuiltins x = some (.type n) → X.mg x = none → PE X (.Name x p) (tC (.ty n)) := fun _ hv hm => pe_bltn g1 hm hv rfl (free_ne g3) g2
    cases t with
    | cls k =>
      simp only [Bool.and_eq_true] at h2
      have e1 : x = J.cnm k := eq_of_beq h2.1
      have hk : k ∈ J.ks := by simpa using h2.2
      refine ⟨pe_glob g1 (by rw [e1]; exact wd.clsG k hk) rfl g2, fun k' e => by cases e; exact hk⟩
    | int =>
      have e1 : x = "int" := (Option.some.inj (eq_of_beq h2)).symm
      subst e1
      exact ⟨bl rfl (by decide +kernel) (wd.free _ (by decide +kernel)), fun k z => by cases z⟩
    | bool =>
      have e1 : x = "bool" := (Option.some.inj (eq_of_beq h2)).symm
      subst e1
      exact ⟨bl rfl (by decide +kernel) (wd.free _ (by decide +kernel)), fun k z => by cases z⟩
    | str =>
      have e1 : x = "str" := (Option.some.inj (eq_of_beq h2)).symm
      subst e1
      exact ⟨bl rfl (by decide +kernel) (wd.free _ (by decide +kernel)), fun k z => by cases z⟩
    | list =>
      have e1 : x = "list" := (Option.some.inj (eq_of_beq h2)).symm
      subst e1
      exact ⟨bl rfl (by decide +kernel) (wd.free _ (by decide +kernel)), fun k z => by cases z⟩
    | tuple =>
      have e1 : x = "tuple" := (Option.some.inj (eq_of_beq h2)).symm
      subst e1
      exact ⟨bl rfl (by decide +kernel) (wd.free _ (by decide +kernel)), fun k z => by cases z⟩
theorem s_isi1 {t : Ty} (wd : Wd c J T X.mg) (hK : X.K = c.K) (hg : Gl X "isinstance") (hm : X.mg "isinstance" = none) (hp1 : plainX e1 = true) (hp2 : plainX e2 = true) (ha : PE X e1 (tE c T P xo W0 a)) (hb : PE X e2 (tC (tyV c t))) (ht : ∀ k, t = .cls k → k ∈ J.ks) :
    PE X (.Call (.Name "isinstance" p') [e1, e2] [] p) (tE c T P xo W0 (.isi a [t] true)) := by
  refine pe_imp (pe_callB call_isi hg hm (by decide +kernel) (pa_cons ha (pa_cons hb pa_nil (plain_star hp2 _ _)) (plain_star hp1 _ _)) (by decide +kernel) (by decide +kernel) (plain_star hp1 _ _) (plain_stars (by simp [hp2]) _ _)) fun σ H Q ⟨F, L, v, R0, q⟩ => ?_
  simp only [ev] at q
  refine bindE R0 q (fun z => by simpa [E.pur] using z) fun x v1 F1 H1 L1 u B R1 s1 r1 q1 n1 z1 => ?_
  split at q1
  · rename_i g
    obtain ⟨tt, h1, h2⟩ := ty_ok wd R1.le g r1
    have h3 := h2 t ht
    rw [hK]
    refine ⟨u, tyV c t, tt, tyU c t, isTy T.sup x t, rfl, tyV_cls c t, h1, ?_, ?_⟩
    · cases t <;> exact h3
    · have e : (List.any [t] fun t => isTy T.sup x t) = isTy T.sup x t := by simp
      rw [e] at q1
      exact okR.fin q1 R1 rfl
  · exact q1.elim
theorem kitAny_of {K : PySem.W.Frag} {t : Value} {sup : Nat → Nat → Bool} {x : Val} : ∀ {ts : List Ty}, (∀ ty ∈ ts, PySem.W.kitOne K t (tyU c ty) = some (isTy sup x ty)) → PySem.W.kitAny K t (ts.map (tyU c)) = some (ts.any fun t => isTy sup x t)
  | [], _ => rfl
  | ty :: ts, h => by
    refine kitAny_cons (h ty List.mem_cons_self) (fun z => ?_) fun z => ?_
    · rw [List.any_cons, z, Bool.false_or]
      exact kitAny_of fun y hy => h y (List.mem_cons_of_mem _ hy)
    · rw [List.any_cons, z]; rfl
theorem s_isiT {ts : List Ty} {k : Nat} (wd : Wd c J T X.mg) (hK : X.K = c.K) (hg : Gl X "isinstance") (hm : X.mg "isinstance" = none) (hp1 : plainX e1 = true) (ha : PE X e1 (tE c T P xo W0 a)) (hl : es.length ≤ 1000) (hz : chkTys J X.env.scope ts es = true) :
    PE X (.Call (.Name "isinstance" p') [e1, .Tuple es k p2] [] p) (tE c T P xo W0 (.isi a ts false)) := by
  have hA : ∃ t : TA, PA X es t ∧ (∀ σ H (Q : List V → Hp → Prop), Q (ts.map (tyV c)) H → t σ H Q) ∧ (ts.length = es.length) ∧ ∀ ty ∈ ts, ∀ k, ty = .cls k → k ∈ J.ks := by
    clear hl
    induction ts generalizing es with
    | nil =>
      cases es with
      | nil => exact ⟨_, pa_nil, fun _ _ _ q => q, rfl, fun _ h => by cases h⟩
      | cons _ _ => cases hz
    | cons t ts ih =>
      cases es with
      | nil => cases hz
      | cons e es =>
        simp only [chkTys, Bool.and_eq_true] at hz
        obtain ⟨h1, h2, h3⟩ := hz
        obtain ⟨q1, q2⟩ := s_ty (e := e) wd h1
        obtain ⟨tt, i1, i2, i3, i4⟩ := ih h3
        refine ⟨_, pa_cons q1 i1 (plain_star h2 _ _), fun σ H Q q => i2 σ H _ q, by rw [List.length_cons, List.length_cons, i3], fun ty hty k hk => ?_⟩
        rcases List.mem_cons.mp hty with rfl | hty
        · exact q2 k hk
        · exact i4 ty hty k hk
  obtain ⟨tt, hA1, hA2, hA3, hA4⟩ := hA
  refine pe_imp (pe_callB call_isiT hg hm (by decide +kernel) (pa_cons ha (pa_cons (pe_tup hA1) pa_nil (plain_star rfl _ _)) (plain_star hp1 _ _)) (by decide +kernel) (by decide +kernel) (plain_star hp1 _ _) (plain_stars (by rfl) _ _)) fun σ H Q ⟨F, L, v, R0, q⟩ => ?_
  simp only [ev] at q
  refine bindE R0 q (fun z => by simpa [E.pur] using z) fun x v1 F1 H1 L1 u B R1 s1 r1 q1 n1 z1 => ?_
  split at q1
  · rename_i g
    refine hA2 σ H1 _ ⟨?_, fun tp hp => ?_⟩
    · rw [List.length_map, hA3]
      exact Nat.le_trans hl (by decide)
    · have R2 := R1.newH (o := .tup (ts.map (tyV c))) hp
      have r2 := r1.step (Step.newH (e := false) (F := F1) (L := L1) (o := .tup (ts.map (tyV c))) hp) fun _ _ _ => rfl
      obtain ⟨t0, h1, h2⟩ := ty_ok wd R2.le g r2
      rw [hK]
      refine ⟨u, tp, ts.map (tyV c), t0, ts.map (tyU c), ts.any fun t => isTy T.sup x t, rfl, upd_same, ?_, h1, kitAny_of (sup := T.sup) (x := x) fun ty hty => ?_, ?_⟩
      · exact cls_paired ts
      · have h3 := h2 ty (hA4 ty hty)
        cases ty <;> exact h3
      · exact okR.fin (okR.step (e := !(a.isi ts false).pur) q1 (Step.newH hp)) R2 rfl
  · exact q1.elim
end
end Pv

set_option Elab.async false
set_option linter.all false
set_option maxRecDepth 100000
/-! PwH: a def with the free cell __class__: its frame. -/
namespace Pv
open PySem PySem.Spec PyProof.Rows L2

/-- names: the parameters first, all local; the cell __class__ -/
structure SupScope (N P : List Str) (sc : Scope) : Prop where
  kind : sc.kind = .function
  co : sc.isCoroutine = false
  gen : sc.isGenerator = false
  nd : N.Nodup
  pre : N = P
  par : ∀ x ∈ P, sc.names.lookup x = some .local
  nocell : ∀ y ∈ sc.names, y.2 ≠ .cell
  free : ∀ y ∈ sc.names, y.2 = .free → y.1 = ("__class__" : Str)
abbrev supEnv (qual : Str) (scope : Scope) (L f : Addr) (cd : Value) (cc : Addr) : PySem.Env := PySem.W.ksEnv qual scope L f cd cc
/-- the context of such a def's body -/
def cxS (CX : CXT) (P : Program) (w : World) (K : PySem.W.Frag) (mg : Str → Option Value) (base : Heap) (N : List Str) (qual : Str) (scope : Scope) (f : Addr) (cd : Value) (cc : Addr) (A : Around) (outer : List PySem.Env) (s : Shared) (H : Hp) (E : XK) : Cx where
  prog := P
  w := w
  K := K
  mg := mg
  base := base
  A := A.deeper (supEnv qual scope s.heap.objs.size f cd cc)
  N := N
  s_0 := s
  H_0 := H
  env := supEnv qual scope s.heap.objs.size f cd cc
  outer := outer
  stack := supEnv qual scope s.heap.objs.size f cd cc :: outer
  ex := []
  calm := true
  fn := fun _ => false
  pn := []
  xe := fun e s' => wpAny (model P w) (A.deeper (supEnv qual scope s.heap.objs.size f cd cc)) (leaving (supEnv qual scope s.heap.objs.size f cd cc) e) (fun _ s'' => CX outer H s E e s'') (fun e' s'' => CX outer H s E e' s'') s'

theorem lookup_none {x : Str} : ∀ {l : List (Str × Value)}, (∀ v, (x, v) ∉ l) → l.lookup x = none
  | [], _ => rfl
  | (y, v) :: l, h => by
    have hne : (x == y) = false := by
      rw [beq_eq_false_iff_ne]
      rintro rfl
      exact h v List.mem_cons_self
    rw [List.lookup_cons, hne]
    exact lookup_none fun w hw => h w (List.mem_cons_of_mem _ hw)
theorem lookup_app {x : Str} : ∀ {l r : List (Str × Value)}, (l ++ r).lookup x = (l.lookup x).or (r.lookup x)
  | [], r => by simp
  | (y, v) :: l, r => by
    rw [List.cons_append, List.lookup_cons, List.lookup_cons]
    split
    · rfl
    · exact lookup_app
theorem rev_lookup {y : Str} {u : Value} : ∀ {ps : List Str} {us : List Value} {i : Nat}, ps.Nodup → ps[i]? = some y → us[i]? = some u → (ps.zip us).reverse.lookup y = some u
  | [], _, _, _, h, _ => by simp at h
  | _ :: _, [], _, _, _, h => by simp at h
  | p :: ps, w :: us, 0, nd, h1, h2 => by
    simp at h1 h2
    subst h1 h2
    rw [List.zip_cons_cons, List.reverse_cons, lookup_app, lookup_none]
    · simp
    · intro v hv
      exact (List.nodup_cons.mp nd).1 (List.of_mem_zip (List.mem_reverse.mp hv)).1
  | p :: ps, w :: us, i + 1, nd, h1, h2 => by
    rw [List.zip_cons_cons, List.reverse_cons, lookup_app, rev_lookup (i := i) (List.nodup_cons.mp nd).2 (by simpa using h1) (by simpa using h2)]
    rfl
theorem sup_start {CX : CXT} {P : Program} {w : World} {K : PySem.W.Frag} {mg : Str → Option Value} {base : Heap} {N ps : List Str} {qual : Str} {scope : Scope} {f cc : Addr} {cd : Value} {A : Around} {outer : List PySem.Env} {s : Shared} {h' : Heap} {t' : Nat} {H : Hp} {E : XK} {us : List Value} {vs : List V} {ocl : Value} {od : Option Addr} {D : Addr} {osl : Array (Option Value)}
    (S : SupScope N ps scope) (hd : A.handled = none) (e0 : Env0 P w K mg base A outer s H) (hl : vs.length = ps.length) (r : Vals vs us) (hcell : K.lookup cc = some ⟨ocl, od, .cell (some (.ref D)), osl⟩)
    (hns : h'.Ns s.heap.objs.size (fun x => (ps.zip us).reverse.lookup x)) (hk : ∀ b o, s.heap.get? b = some o → h'.get? b = some o) :
    Inv (cxS CX P w K mg base N qual scope f cd cc A outer s H E) [] (_root_.L2.start N vs) H { s with heap := h', toks := t' } := by
  have KX : K.In s.heap := e0.mod.kin.keeps fun b o e => (e0.bs b o e).1
  have hcc : s.heap.get? cc = some ⟨ocl, od, .cell (some (.ref D)), osl⟩ := KX _ _ hcell
  have hbc : base.get? cc = some ⟨ocl, od, .cell (some (.ref D)), osl⟩ := e0.mod.kin _ _ hcell
  have look : ∀ {y : Str} {c : Addr}, (cxS CX P w K mg base N qual scope f cd cc A outer s H E).env.cells.lookup y = some c → y = ("__class__" : Str) ∧ c = cc := fun {y c} h => by
    have h : List.lookup y [(("__class__" : Str), cc)] = some c := h
    rw [List.lookup_cons] at h
    split at h
    · rename_i g
      cases h
      exact ⟨eq_of_beq g, rfl⟩
    · cases h
  refine ⟨⟨e0.mod, S.kind, rfl, rfl, Nat.le_refl _, (fun x y c h1 h2 => by rw [(look h1).1, (look h2).1]), fun y hy => ?_, (fun y c h _ => by cases h), fun _ => hd, Around.frames_deeper e0.frames, .inr ⟨rfl, rfl⟩, fun b z => absurd (show b ∈ ([] : List Addr) from z) (by simp), e0.bs, e0.bsz, fun b _ _ z => absurd (show b ∈ ([] : List Addr) from z) (by simp), fun b z => absurd (show b ∈ ([] : List Addr) from z) (by simp), e0.funs, e0.frf⟩,
    rfl, e0.bare, Un.kept hk, ⟨_, hns, fun i y v h1 h2 h3 => ?_⟩, fun y c h => ?_, e0.hok.fresh (Nat.le_refl _), fun y c h => ?_, fun p hp => absurd (show p ∈ ([] : List (Addr × Obj)) from hp) (by simp), e0.hok.kept hk, ?_⟩
  · refine ⟨cc, ?_⟩
    have hy : scope.names.lookup y = some .cell ∨ scope.names.lookup y = some .free := hy
    rcases hy with hy | hy
    · exact absurd rfl (S.nocell _ (PySem.mem_of_lookup hy))
    · have := S.free _ (PySem.mem_of_lookup hy) rfl
      subst this
      show List.lookup _ [(("__class__" : Str), cc)] = _
      rw [List.lookup_cons, beq_self_eq_true]
  · have hi : i < vs.length := by
      by_cases hi : i < vs.length
      · exact hi
      · unfold _root_.L2.start at h2
        rw [List.getElem?_append_right (by simpa using hi), List.getElem?_replicate] at h2
        split at h2 <;> cases h2
    have ha : vs[i]? = some v := by
      unfold _root_.L2.start at h2
      rw [List.getElem?_append_left (by simpa using hi), List.getElem?_map] at h2
      cases e : vs[i]? with
      | none => rw [e] at h2; cases h2
      | some a => rw [e] at h2; cases h2; rfl
    obtain ⟨u, hu, rv⟩ := r.get ha
    have hp : ps[i]? = some y := by rw [← S.pre]; exact h1
    exact ⟨u, rv, .inl ⟨S.par y (List.mem_of_getElem? hp), rev_lookup (by rw [← S.pre]; exact S.nd) hp hu⟩⟩
  · obtain ⟨_, rfl⟩ := look h
    exact ⟨_, _, hk _ _ hcc, rfl⟩
  · obtain ⟨_, rfl⟩ := look h
    exact (e0.bs _ _ hbc).2
  · unfold _root_.L2.start
    show _ = N.length
    rw [List.length_append, List.length_map, List.length_replicate, hl, S.pre]
    omega
end Pv

set_option Elab.async false
set_option linter.all false
set_option maxRecDepth 100000
/-! PwI: super().__init__(x) in an own exception's __init__. -/
namespace Pv
open PySem PySem.Spec PyProof.Rows L2

/-- what the written part has left of the def, its cell, its class -/
structure SupC (P : Program) (K : PySem.W.Frag) (f cc cda D : Addr) (me : Str) : Prop where
  fn : ∃ (oc : Value) (od : Option Addr) (fd : FuncData) (osl : Array (Option Value)) (ar : Arg), K.lookup f = some ⟨oc, od, .func fd, osl⟩ ∧ (fd.params.posonlyargs ++ fd.params.args).head? = some ar ∧ ar.arg = me
  code : ∃ (ccl : Value) (cdd : Option Addr) (vs : Array Value) (ccs : Array (Option Value)) (file : Str) (tf : Tok), K.lookup cda = some ⟨ccl, cdd, .fields vs, ccs⟩ ∧ vs[2]? = some (.str file tf) ∧ ((P.main.file : Str) == file) = true
  cell : ∃ (cl : Value) (cld : Option Addr) (csl : Array (Option Value)), K.lookup cc = some ⟨cl, cld, .cell (some (.ref D)), csl⟩
  cls : ∃ cd, PySem.W.clsIn K D = some cd
  top : (P.main.scope.names.lookup ("super" : Str)).isSome = false
  opq : PySem.W.nsIn K PySem.cStatics "thirdparty.any" = some none
/-- .. of an instance's class -/
structure SupI (K : PySem.W.Frag) (C D : Addr) : Prop where
  oex : OexC K C
  sub : PySem.W.mroIn K C (.ref D) = some true
  ini : PySem.W.ks_superIn K C D "__init__" = some (some (.builtin "ValueError.__init__"))
  ve : PySem.W.subIn K (.ref C) (.type "ValueError") = some true
section
variable {X : Cx} {pins : List (Addr × Obj)} {σ : _root_.L2.St} {H : Hp} {s : Shared} {f cc cda C D x : Addr} {qual me : Str} {scope : Scope} {Q : Value → Shared → Prop}
/-- super() -/
theorem sup_obj {body : List Stmt} {p0 p1 : Pos} {attr : Str} {whole : Sem Value} (hcx : X.env = supEnv qual scope X.env.locals f (.ref cda) cc) (S : SupC X.prog X.K f cc cda D me) (hi : SupI X.K C D) (hmg : X.mg "super" = none) (hN : X.N[0]? = some me)
    (hks : scope.names.lookup ("super" : Str) = some .globalImplicit) (hkc : scope.names.lookup ("__class__" : Str) = some .free) (hka : scope.names.lookup me = some .local) (hk : scope.kind = .function) (hat : (attr == ("__class__" : Str)) = false)
    (I : Inv X pins σ H s) (hx : σ[0]? = some (some (.ref x))) (ho : H x = some (exo x C none))
    (h : ∀ so s', Inv X pins σ H s' → s'.heap.get? so = some (PySem.W.ks_superObj D x C) → Q (.ref so) s') :
    _root_.PySem.wpAt (model X.prog X.w) X.A (.func body X.env) (attributeBase (.Call (.Name "super" p0) [] [] p1) attr X.env whole) Q X.xe s := by
  obtain ⟨oc, od, fd, osl, ar, hf, hp, rfl⟩ := S.fn
  obtain ⟨ccl, cdd, vs, ccs, file, tf, hcode, hvs, hfile⟩ := S.code
  obtain ⟨cl, cld, csl, hcell⟩ := S.cell
  obtain ⟨cdD, hD⟩ := S.cls
  have KX := I.kIn
  obtain ⟨t1, hox⟩ := exo_at I.hok ho
  obtain ⟨oD, hD1, hD2⟩ : ∃ oD, s.heap.get? D = some oD ∧ oD.data = .cls cdD := by
    unfold PySem.W.clsIn at hD
    split at hD
    · rename_i c d cd' sl hl
      cases hD
      exact ⟨_, KX _ _ hl, rfl⟩
    · cases hD
  obtain ⟨m, hns, hl⟩ := id I.loc
  obtain ⟨u, ru, lk⟩ := hl 0 ar.arg (.ref x) hN hx (by rw [hcx]; exact .inl hka)
  cases ru
  have kar : X.env.kindOf ar.arg = some .local := by rw [hcx]; exact hka
  have hm : m ar.arg = some (.ref x) := by
    rcases lk with ⟨_, q⟩ | ⟨q, _⟩
    · exact q
    · rw [kar] at q
      rcases q with q | q <;> cases q
  refine ks_wpAt_super_base (env := X.env) (by rw [hcx]; exact hks) (by rw [hcx]; exact hkc) hat (by rw [hcx]) (KX _ _ hf) rfl hp (by rw [hcx]) (KX _ _ hcode) rfl hvs hfile S.top ?_
  have hkind : X.env.scope.kind = .function := by rw [hcx]; exact hk
  obtain ⟨mb, b1, b2⟩ := I.mod.blt
  refine PySem.W.ks_loadName_global hkind (by rw [hcx]; exact hks) (Calls.loadGlobal_builtin (by rw [I.ok.glob]; exact I.mod.glob.keeps I.bk) hmg (by rw [I.ok.blt]; exact b1.keeps I.bk) ((b2 _ (by decide +kernel)).trans (by decide +kernel)) ⟨rfl, ?_⟩)
  refine wpAny_loadName_free hkind (by rw [hcx]; exact hkc) (c := cc) (by rw [hcx]; rfl) ⟨_, KX _ _ hcell, rfl⟩ ?_
  refine wpAny_loadName_local hkind kar hns hm ?_
  obtain ⟨hh, g, d, t, os⟩ := s
  refine ks_wpAny_isType_cls hD1 hD2 ⟨rfl, ?_⟩
  refine ks_wpAny_call_super hD1 hD2 hox rfl (fun c e => by cases e) (PySem.W.looks_mroIn KX hi.sub) (fun h' e k => ?_)
  exact h _ _ (I.kept (t' := t) k) e
/-- the bound __init__, called: nothing of it is told -/
theorem mw_call {u : Addr} {us : List Value} {Q : Value → Shared → Prop} {E : Value → Shared → Prop} {A : Around} (T : OexC X.K C) (I : Inv X pins σ H s) (ho : H x = some (exo x C none)) (hu : s.heap.get? u = some (PySem.W.kxs_mw "ValueError.__init__" x)) (hl : us.length ≤ sizeLine)
    (h : ∀ s', Inv X pins σ H s' → Q .none s') : wpAny (model X.prog X.w) A (call (.ref u) us) Q E s := by
  obtain ⟨nm, q, N, bs, bm, sn, sub, ab, col, dd, k0, k1, k2, k3, k5, hC, hbm⟩ := T.cls
  have FB := F.excBase_ValueError
  obtain ⟨t1, he⟩ := exo_at I.hok ho
  have KX := I.kIn
  obtain ⟨hh, g, d, tk, os⟩ := s
  refine wpAny_call (codeAny_of_tree ?_)
  show wpAny _ A.in1 (callAny (.ref u) ⟨us, []⟩) _ _ _
  simp only [callAny]
  refine wpAny_bind (wpAny_load hu ?_)
  simp only [PySem.W.kxs_mw, show (Value.type "method-wrapper" == Value.type "method" || Value.type "method-wrapper" == Value.type "builtin_function_or_method" || Value.type "method-wrapper" == Value.type "method-wrapper") = true by decide, if_true]
  refine PySem.W.KFB.if_so (by decide) ?_
  refine wpAny_bind (PySem.W.check_bound_init FB.toExcCallFacts (KX _ _ hC) he rfl ?_)
  refine wpAny_bind (wpAny_pure (wpAny_pure ?_))
  refine ⟨plainId_quiet FB.init.plain _, codeAny_builtin FB.initEntry ?_⟩
  refine PySem.W.exc_init_tree (cls := .ref C) (t0 := t1) (dv := none) (c2 := .none) (c3 := .none) (b4 := .bool false) he hl fun h' k e' t' => ?_
  have J := I.write (t' := tk) (x := x) (e := x) (o := exo x C none) (by rw [ho]; exact True.intro) (.inl rfl) k ⟨_, e'⟩ (exo_ok e')
  have eu : upd H x (exo x C none) = H := by
    funext b
    by_cases hb : b = x
    · rw [hb, upd_same, ho]
    · rw [upd_ne hb]
  rw [eu] at J
  exact h _ J
theorem sup_tree {o e : Expr} {m : Str} {ap p : Pos} {env : PySem.Env} (hs : plainX e = true) (hap : ap.endLine = p.line) : ∃ pl : Sem Bool, eval (.Call (.Attribute o m ap) [e] [] p) env = (do
      let ov ← attributeBase o m env (eval o env)
      standAt ap.atName
      let (f, first) ← holding [ov] (getMethod ov m pl)
      callWith p f first (backTo p (starEach [e] env)) []) := by
  refine ⟨do return (← importBound o env).getD true, ?_⟩
  rw [PySem.arm_eval_Call]
  have hf : methodCallForm ([e].length + ([] : List Keyword).length) (backTo p (starEach [e] env)) (backToKw p (keywordEach [] env)) = true := by
    unfold methodCallForm
    rw [plain_star hs]
    rfl
  unfold methodCall calleeOf methodCallPos
  rw [hf]
  simp [hap]
  rfl
/-- super().__init__(e) -/
theorem sup_init {body : List Stmt} {p0 p1 p2 ap cp : Pos} {e : Expr} {ta : TA} {R : Flow → Shared → Prop} (hcx : X.env = supEnv qual scope X.env.locals f (.ref cda) cc) (S : SupC X.prog X.K f cc cda D me) (hi : SupI X.K C D) (hmg : X.mg "super" = none) (hN : X.N[0]? = some me)
    (hks : scope.names.lookup ("super" : Str) = some .globalImplicit) (hkc : scope.names.lookup ("__class__" : Str) = some .free) (hka : scope.names.lookup me = some .local) (hk : scope.kind = .function) (hap : ap.endLine = cp.line) (hpe : plainX e = true) (ha : PA X [e] ta)
    (I : Inv X pins σ H s) (hx : σ[0]? = some (some (.ref x))) (ho : H x = some (exo x C none)) (h : ta σ H fun vs H1 => vs.length ≤ sizeLine ∧ H1 x = some (exo x C none) ∧ ∀ s', Inv X pins σ H1 s' → R .next s') :
    _root_.PySem.wpAt (model X.prog X.w) X.A (.func body X.env) (exec (.Expr (.Call (.Attribute (.Call (.Name "super" p0) [] [] p1) "__init__" ap) [e] [] cp) p2) X.env) R X.xe s := by
  obtain ⟨pl, ht⟩ := sup_tree (o := .Call (.Name "super" p0) [] [] p1) (m := "__init__") (env := X.env) hpe hap
  refine ks_wpAt_Expr_any (ks_wpAt_MethodCall (pl := pl) (sup_obj hcx S hi hmg hN hks hkc hka hk (by decide +kernel) I hx ho fun so s1 I1 hso => ?_) ht) I.quiet rfl
  have KX := I1.kIn
  obtain ⟨t1, hox⟩ := exo_at I1.hok ho
  have J : PySem.W.InstAt s1.heap x _ C none := ⟨hox, rfl, rfl, trivial⟩
  cases hc : PySem.W.clsIn X.K C with
  | none =>
    have := hi.ini
    unfold PySem.W.ks_superIn at this
    rw [hc] at this
    cases this
  | some cd =>
    have hm := hi.ini
    unfold PySem.W.ks_superIn at hm
    rw [hc] at hm
    have hI : PySem.W.Looks (model X.prog X.w) s1.heap (isInstance (.ref x) (.type "ValueError")) true := J.type.andThen (PySem.W.looks_subIn KX hi.ve)
    obtain ⟨hh, g, d, t, os⟩ := s1
    refine PySem.W.kxs_getMethod PySem.W.kxs_ValueError hso (PySem.W.looks_opaque KX S.opq) (l₀ := cd.mro) (fun A Q E s k q => wpAny_bind ((PySem.W.looks_clsIn KX hc) A _ E s k (wpAny_pure q))) rfl KX hm hI (PySem.W.ks_ne KX J hc) (by decide +kernel) ?_
    have I2 : Inv X pins σ H ⟨hh.push (PySem.W.kxs_mw "ValueError.__init__" x), g, d, t + 1, os⟩ := I1.kept (t' := t + 1) fun b o e => Heap.get?_push_of_some _ e
    have I3 : Inv X ((hh.objs.size, PySem.W.kxs_mw "ValueError.__init__" x) :: pins) σ H ⟨hh.push (PySem.W.kxs_mw "ValueError.__init__" x), g, d, t + 1, os⟩ := I2.pins_of fun p hp => by
      rcases List.mem_cons.mp hp with rfl | hp
      · exact ⟨Heap.get?_push_size _ rfl, I1.hok.fresh (Nat.le_refl _), Nat.ne_of_gt I1.lt, I1.nofs (Nat.le_refl _), fun v z => by cases z⟩
      · exact I2.pin p (List.mem_append_right _ hp)
    have hA := thn (ha.run cp _ _ σ H _ I3 h) (Q' := fun us s3 => PySem.W.KxsAt "ValueError.__init__" hh.objs.size x s3.heap ∧ wpAny (model X.prog X.w) X.A (call (.ref hh.objs.size) us) (fun _ s' => R .next s') X.xe s3) fun us s3 ⟨vs, H1, I4, r, hz, ho1, q⟩ => by
      have pu := (I4.pin (hh.objs.size, PySem.W.kxs_mw "ValueError.__init__" x) (List.mem_append_right _ List.mem_cons_self)).1
      refine ⟨pu, mw_call hi.oex I4 ho1 pu (by rw [← r.length]; exact hz) fun s' I5 => q s' ?_⟩
      exact I5.pins_of fun p hp => I5.pin p (List.mem_append_right _ (List.mem_cons_of_mem _ hp))
    rw [plain_star hpe] at hA ⊢
    exact PySem.W.kxs_callWith (i := "ValueError.__init__") (x := x) rfl (Calls.evalArgs_plain hA)
end
end Pv

set_option Elab.async false
set_option linter.all false
set_option maxRecDepth 100000
/-! PwJ: a def with the free cell __class__, by its body. -/
namespace Pv
open PySem PySem.Spec PyProof.Rows L2

theorem fn_sup {CX : CXT} {P : Program} {w : World} {K : PySem.W.Frag} {mg : Str → Option Value} {base : Heap} {k : Nat} {f cc : Addr} {name qual : Str} {params : Arguments} {body : List Stmt} {scope : Scope} {dV kV doc pm cdv ct oc ocl : Value} {an od odl : Option Addr} {D : Addr} {osl oslc : Array (Option Value)} {N ps : List Str} {sp : Sp}
    (lk : K.lookup f = some ⟨oc, od, .func (PySem.W.ksFn name qual params body scope dV kV doc pm an cdv ct cc), osl⟩) (hcd : PySem.W.codeIn K cdv qual = true) (S : SupScope N ps scope) (hcell : K.lookup cc = some ⟨ocl, odl, .cell (some (.ref D)), oslc⟩)
    (len : ∀ vs H Q E, sp vs H Q E → vs.length = ps.length)
    (hbody : ∀ (A : Around) (outer : List PySem.Env) (s : Shared) (H : Hp) (vs : List V) (Q : VK) (E : XK) (s1 : Shared), Room k (A.deeper (supEnv qual scope s.heap.objs.size f cdv cc)) → sp vs H Q E → Inv (cxS CX P w K mg base N qual scope f cdv cc A outer s H E) [] (_root_.L2.start N vs) H s1 →
      _root_.PySem.wpAt (model P w) (A.deeper (supEnv qual scope s.heap.objs.size f cdv cc)) (.func body (supEnv qual scope s.heap.objs.size f cdv cc)) (execs body (supEnv qual scope s.heap.objs.size f cdv cc)) (SP (cxS CX P w K mg base N qual scope f cdv cc A outer s H E) [] { nx := fun _ H' => Q .non H', rt := Q }) (cxS CX P w K mg base N qual scope f cdv cc A outer s H E).xe s1) :
    FnOk P w K mg base CX (k + 1) f (PySem.W.ksFn name qual params body scope dV kV doc pm an cdv ct cc) ps sp := by
  refine ⟨len, fun A outer s H args us vs Q E hr e0 hb r hsp => ?_⟩
  have hl := len _ _ _ _ hsp
  have KX : K.In s.heap := e0.mod.kin.keeps fun b o e => (e0.bs b o e).1
  have lim : s.heap.NoLimit := e0.mod.nolimit.keeps fun b o e => (e0.bs b o e).1
  refine ks_codeAny_call_defAt hr.depth (KX _ _ lk) rfl lim (PySem.W.codeRec_of KX hcd) rfl hb S.nocell (fun ⟨n, v⟩ hy => S.par n (List.of_mem_zip hy).1) (fun h0 hns hk => ?_) S.co S.gen S.kind
  have I := sup_start (CX := CX) (t' := s.toks + (ps.zip us).length) (E := E) (qual := qual) (f := f) (cd := cdv) S hr.hd e0 hl r hcell hns hk
  refine ks_wpAt_mono (hbody A outer s H vs Q E _ (hr.deeper _) hsp I) (fun fl s' hs => ?_) fun e s' hs => hs
  have fin : ∀ {σ' : _root_.L2.St} {H' : Hp} {v : V} {u : Value}, Inv (cxS CX P w K mg base N qual scope f cdv cc A outer s H E) [] σ' H' s' → RelV v u → Q v H' → CE outer P w H s Q u s' :=
    fun {σ' H' v u} J rv q => ⟨v, H', J.os, J.bare, J.base, J.hok, rv, q⟩
  cases fl with
  | ret u =>
    obtain ⟨v, σ', H', J, rv, q⟩ := hs
    exact fin J rv q
  | next =>
    obtain ⟨σ', H', J, q⟩ := hs
    exact fin (v := V.non) (u := Value.none) J rfl q
  | brk =>
    obtain ⟨_, _, _, q⟩ := hs
    exact False.elim q
  | cont =>
    obtain ⟨_, _, _, q⟩ := hs
    exact False.elim q
end Pv

set_option Elab.async false
set_option linter.all false
set_option maxRecDepth 100000
/-! PwK: the text of an exception. -/
namespace Pv
open PySem PySem.Spec PyProof.Rows L2

/-- what an exception may be made with -/
def Shown : V → Prop
  | .int i => i.natAbs.log2 < 1920
  | .str y => y.length ≤ 10000
  | _ => False
/-- a part of the text: a written one, or a parameter -/
def fpOk (N : List Str) : Expr → Bool
  | .Constant (.str x) _ _ => decide (x.length ≤ 10000)
  | .FormattedValue (.Name x _) (-1) none _ => (N.drop 1).contains x && (!(x == ("__debug__" : Str)) && !(x == ("__classdict__" : Str)))
  | _ => false
theorem app_len (x y : Str) : (x ++ y).length = x.length + y.length := by
  show (x.cps ++ y.cps).size = _
  rw [Array.size_append]
  rfl
section
variable {X : Cx} {N : List Str} {p : Pos}
/-- a part's text is short -/
theorem fp_ok {e : Expr} (hN : X.N = N) (hv : ∀ x ∈ N, Vis X.env.scope x) (h : fpOk N e = true) : ∃ t : TE, PE X e t ∧ ∀ (σ : _root_.L2.St) (H : Hp) (Q : VK), (∀ (i : Nat) (x : Str), N[i]? = some x → 0 < i → ∃ v, σ[i]? = some (some v) ∧ Shown v) → (∀ y : Str, y.length ≤ 10000 → Q (.str y) H) → t σ H Q := by
  unfold fpOk at h
  split at h
  · simp only [decide_eq_true_eq] at h
    exact ⟨_, pe_str, fun σ H Q _ k => k _ h⟩
  · rename_i x p1 p2
    simp only [Bool.and_eq_true, Bool.not_eq_true'] at h
    obtain ⟨h1, h2, h3⟩ := h
    have hm : x ∈ N.drop 1 := by simpa using h1
    obtain ⟨i, hi⟩ := List.getElem?_of_mem hm
    rw [List.getElem?_drop] at hi
    have hm2 : x ∈ N := List.mem_of_getElem? hi
    refine ⟨_, pe_fmt (pe_var (i := 1 + i) (by rw [hN]; exact hi) (hv x hm2) h2 h3), fun σ H Q hs k => ?_⟩
    obtain ⟨v, e1, sv⟩ := hs (1 + i) x hi (by omega)
    refine ⟨v, e1, ?_⟩
    cases v with
    | int j =>
      refine .inr ⟨j, rfl, sv, k _ ?_⟩
      have sv : j.natAbs.log2 < 1920 := sv
      have := int_text_length_le (k := 1920) (by decide) sv
      show (Str.ofString (toString j)).length ≤ 10000
      rw [PySem.ofString_length]
      omega
    | str y =>
      have sv : y.length ≤ 10000 := sv
      exact .inl ⟨y, rfl, by rw [sizeLine_eq]; omega, k y sv⟩
    | _ => exact sv.elim
  · cases h
theorem fps_ok (hN : X.N = N) (hv : ∀ x ∈ N, Vis X.env.scope x) : ∀ {es : List Expr}, es.all (fpOk N) = true → ∃ ts : List TE, PJ X es ts ∧ ∀ (σ : _root_.L2.St) (H : Hp) (acc : Str) (Q : Str → Hp → Prop), (∀ (i : Nat) (x : Str), N[i]? = some x → 0 < i → ∃ v, σ[i]? = some (some v) ∧ Shown v) → acc.length + 10000 * es.length ≤ 1000000 → (∀ out : Str, out.length ≤ 1000000 → Q out H) → tJs ts acc σ H Q
  | [], _ => ⟨[], .nil, fun σ H acc Q _ hl k => k acc (by simp at hl; omega)⟩
  | e :: es, h => by
    simp only [List.all_cons, Bool.and_eq_true] at h
    obtain ⟨t, h1, h2⟩ := fp_ok hN hv h.1
    obtain ⟨ts, i1, i2⟩ := fps_ok hN hv h.2
    refine ⟨t :: ts, .cons h1 i1, fun σ H acc Q hs hl k => h2 σ H _ hs fun y hy => ⟨y, rfl, ?_, i2 σ H (acc ++ y) Q hs ?_ k⟩⟩
    · rw [app_len, sizeLine_eq]
      rw [List.length_cons] at hl
      omega
    · rw [app_len]
      rw [List.length_cons] at hl
      omega
/-- an f-string of an exception -/
def fsOk (N : List Str) : Expr → Bool
  | .JoinedStr (v1 :: v2 :: r) _ => decide (r.length ≤ 50) && (v1 :: v2 :: r).all (fpOk N)
  | _ => false
theorem fs_ok {e : Expr} (hN : X.N = N) (hv : ∀ x ∈ N, Vis X.env.scope x) (h : fsOk N e = true) : ∃ t : TE, PE X e t ∧ ∀ (σ : _root_.L2.St) (H : Hp) (Q : VK), (∀ (i : Nat) (x : Str), N[i]? = some x → 0 < i → ∃ v, σ[i]? = some (some v) ∧ Shown v) → (∀ y : Str, Q (.str y) H) → t σ H Q := by
  unfold fsOk at h
  split at h
  · rename_i v1 v2 r p
    simp only [Bool.and_eq_true, decide_eq_true_eq] at h
    obtain ⟨ts, h1, h2⟩ := fps_ok hN hv h.2
    refine ⟨_, pe_joined h1, fun σ H Q hs k => h2 σ H Str.empty _ hs ?_ fun out _ => k out⟩
    show (0 : Nat) + _ ≤ _
    simp only [List.length_cons]
    omega
  · cases h
end
end Pv

set_option Elab.async false
set_option linter.all false
set_option maxRecDepth 100000
/-! PwL: an exception's __init__: its promise. -/
namespace Pv
open PySem PySem.Spec PyProof.Rows L2

/-- s.z = p -/
def dSelf : Stmt → Option (Str × Str × Str)
  | .Assign [.Attribute (.Name s _) z _] (.Name p _) _ => some (s, z, p)
  | _ => none
theorem dSelf_eq {st : Stmt} {s z p : Str} (h : dSelf st = some (s, z, p)) : ∃ p1 p2 p3 p4, st = .Assign [.Attribute (.Name s p1) z p2] (.Name p p3) p4 := by
  unfold dSelf at h
  split at h
  · cases h; exact ⟨_, _, _, _, rfl⟩
  · cases h
/-- self.y = p, one after another; the k-th parameter first -/
def asOk (N : List Str) : Nat → List Str → List Stmt → Bool
  | _, [], sts => sts.isEmpty
  | k, y :: ys, sts => match sts with
    | st :: r => oand (dSelf st) fun q => (q.2.1 == y && (N[0]? == some q.1 && N[k]? == some q.2.2)) && ((!(q.1 == ("__debug__" : Str)) && (!(q.1 == ("__classdict__" : Str)) && (!(q.2.2 == ("__debug__" : Str)) && !(q.2.2 == ("__classdict__" : Str))))) && asOk N (k + 1) ys r)
    | [] => false
section
variable {X : Cx} {N : List Str}
theorem as_ok (hN : X.N = N) (hv : ∀ x ∈ N, Vis X.env.scope x) : ∀ {ys : List Str} {sts : List Stmt} {k : Nat}, asOk N k ys sts = true → ∃ t : TS, PSs X sts t ∧ ∀ (D : Ends) (σ : _root_.L2.St) (H : Hp) (x C dx : Addr) (us : List V) (fs : List (Str × V)), OexC X.K C → (∀ y ∈ ys, PySem.W.findIn X.K (.ref C) y = some none) → σ[0]? = some (some (.ref x)) → us.length = ys.length →
    (∀ (j : Nat) (v : V), us[j]? = some v → σ[k + j]? = some (some v)) → H x = some (exo x C (some dx)) → H dx = some (exd dx fs) → dx ≠ x → fs.length + ys.length ≤ 900 →
    (∀ H2 : Hp, H2 x = some (exo x C (some dx)) → H2 dx = some (exd dx ((ys.zip us).reverse ++ fs)) → (∀ b, b ≠ dx → b ≠ x → H2 b = H b) → D.nx σ H2) → t D σ H
  | [], [], k, _ => ⟨_, pss_nil, fun D σ H x C dx us fs _ _ _ _ _ hx hd _ _ q => q H hx (by simpa using hd) fun _ _ _ => rfl⟩
  | [], _ :: _, k, h => by simp [asOk] at h
  | y :: ys, [], k, h => by simp [asOk] at h
  | y :: ys, st :: r, k, h => by
    simp only [asOk] at h
    have hq := opt_and h
    clear h
    obtain ⟨⟨s, z, p⟩, he, h⟩ := hq
    obtain ⟨p1, p2, p3, p4, rfl⟩ := dSelf_eq he
    · simp only [Bool.and_eq_true, Bool.not_eq_true'] at h
      obtain ⟨⟨h1, h2, h3⟩, ⟨h4, h5, h6, h7⟩, h8⟩ := h
      have := eq_of_beq h1
      subst this
      have n0 := eq_of_beq h2
      have nk := eq_of_beq h3
      obtain ⟨t, i1, i2⟩ := as_ok hN hv h8
      refine ⟨_, pss_cons (ps_ost (pe_var (i := 0) (by rw [hN]; exact n0) (hv _ (List.mem_of_getElem? n0)) h4 h5) (pe_var (i := k) (by rw [hN]; exact nk) (hv _ (List.mem_of_getElem? nk)) h6 h7) rfl) i1, fun D σ H x C dx us fs T hno hx hl hu ho hd hne hfl q => ?_⟩
      cases us with
      | nil => simp at hl
      | cons u us =>
        refine ⟨u, hu 0 u rfl, .ref x, hx, x, C, rfl, T, hno _ List.mem_cons_self, .inr ⟨dx, fs, ho, hd, by simp at hfl; omega, ?_⟩⟩
        refine i2 D σ _ x C dx us ((z, u) :: fs) T (fun y hy => hno y (List.mem_cons_of_mem _ hy)) hx (by simpa using hl) (fun j v hj => ?_) (by rw [upd_ne (Ne.symm hne)]; exact ho) upd_same hne (by simp at hfl ⊢; omega) fun H2 a1 a2 a3 => q H2 a1 (by rw [a2]; simp) fun b hb1 hb2 => ?_
        · have := hu (j + 1) v (by simpa using hj)
          rw [show k + 1 + j = k + (j + 1) by omega]
          exact this
        · rw [a3 b hb1 hb2, upd_ne hb1]
/-- the first one: the dict is made -/
theorem as_ok1 (hN : X.N = N) (hv : ∀ x ∈ N, Vis X.env.scope x) {y : Str} {ys : List Str} {sts : List Stmt} (h : asOk N 1 (y :: ys) sts = true) : ∃ t : TS, PSs X sts t ∧ ∀ (D : Ends) (σ : _root_.L2.St) (H : Hp) (x C : Addr) (us : List V), OexC X.K C → (∀ z ∈ y :: ys, PySem.W.findIn X.K (.ref C) z = some none) → σ[0]? = some (some (.ref x)) → us.length = (y :: ys).length →
    (∀ (j : Nat) (v : V), us[j]? = some v → σ[1 + j]? = some (some v)) → H x = some (exo x C none) → ys.length ≤ 800 →
    (∀ (dx : Addr) (H2 : Hp), H dx = none → dx ≠ x → H2 x = some (exo x C (some dx)) → H2 dx = some (exd dx ((y :: ys).zip us).reverse) → (∀ b, b ≠ dx → b ≠ x → H2 b = H b) → D.nx σ H2) → t D σ H := by
  cases sts with
  | nil => simp [asOk] at h
  | cons st r =>
    simp only [asOk] at h
    have hq := opt_and h
    clear h
    obtain ⟨⟨s, z, p⟩, he, h⟩ := hq
    obtain ⟨p1, p2, p3, p4, rfl⟩ := dSelf_eq he
    · simp only [Bool.and_eq_true, Bool.not_eq_true'] at h
      obtain ⟨⟨h1, h2, h3⟩, ⟨h4, h5, h6, h7⟩, h8⟩ := h
      have := eq_of_beq h1
      subst this
      have n0 := eq_of_beq h2
      have nk := eq_of_beq h3
      obtain ⟨t, i1, i2⟩ := as_ok hN hv h8
      refine ⟨_, pss_cons (ps_ost (pe_var (i := 0) (by rw [hN]; exact n0) (hv _ (List.mem_of_getElem? n0)) h4 h5) (pe_var (i := 1) (by rw [hN]; exact nk) (hv _ (List.mem_of_getElem? nk)) h6 h7) rfl) i1, fun D σ H x C us T hno hx hl hu ho hfl q => ?_⟩
      cases us with
      | nil => simp at hl
      | cons u us =>
        refine ⟨u, hu 0 u rfl, .ref x, hx, x, C, rfl, T, hno _ List.mem_cons_self, .inl ⟨ho, fun dx hd hne => ?_⟩⟩
        refine i2 D σ _ x C dx us [(z, u)] T (fun y hy => hno y (List.mem_cons_of_mem _ hy)) hx (by simpa using hl) (fun j v hj => ?_) upd_same (by rw [upd_ne hne, upd_same]) hne (by simp; omega) fun H2 a1 a2 a3 => q dx H2 hd hne a1 (by rw [a2]; simp) fun b hb1 hb2 => ?_
        · have := hu (j + 1) v (by simpa using hj)
          rw [show 1 + 1 + j = 1 + (j + 1) by omega]
          exact this
        · rw [a3 b hb1 hb2, upd_ne hb2, upd_ne hb1]
end
end Pv

set_option Elab.async false
set_option linter.all false
set_option maxRecDepth 100000
/-! PwM: an exception's __init__ keeps its promise. -/
namespace Pv
open PySem PySem.Spec PyProof.Rows L2

/-- the promise of such an __init__ over the fields ys -/
def spI (K : PySem.W.Frag) (D : Addr) (ys : List Str) : Sp := fun vs H Q _ => ∃ (x C : Addr) (us : List V), vs = .ref x :: us ∧ us.length = ys.length ∧ (∀ u ∈ us, Shown u) ∧ SupI K C D ∧ (∀ y ∈ ys, PySem.W.findIn K (.ref C) y = some none) ∧ H x = some (exo x C none) ∧
  ∀ (dx : Addr) (H2 : Hp), H dx = none → dx ≠ x → H2 x = some (exo x C (some dx)) → H2 dx = some (exd dx (ys.zip us).reverse) → (∀ b, b ≠ dx → b ≠ x → H2 b = H b) → Q .non H2
/-- the body: super().__init__(f'..'), then self.y = y -/
def initOk (N ys : List Str) : List Stmt → Bool
  | .Expr (.Call (.Attribute (.Call (.Name s _) [] [] _) m ap) [e] [] cp) _ :: r => (s == ("super" : Str) && m == ("__init__" : Str)) && (ap.endLine == cp.line && (fsOk N e && (!ys.isEmpty && (decide (ys.length ≤ 700) && asOk N 1 ys r))))
  | _ => false
theorem fsOk_plain {N : List Str} {e : Expr} (h : fsOk N e = true) : plainX e = true := by
  unfold fsOk at h
  split at h
  · rfl
  · cases h
theorem init_ok {CX : CXT} {P : Program} {w : World} {K : PySem.W.Frag} {mg : Str → Option Value} {base : Heap} {k : Nat} {f cc cda D : Addr} {name qual : Str} {params : Arguments} {body : List Stmt} {scope : Scope} {dV kV doc pm ct oc ocl : Value} {an od odl : Option Addr} {osl oslc : Array (Option Value)} {N ys : List Str} {me : Str}
    (lk : K.lookup f = some ⟨oc, od, .func (PySem.W.ksFn name qual params body scope dV kV doc pm an (.ref cda) ct cc), osl⟩) (hcd : PySem.W.codeIn K (.ref cda) qual = true) (S : SupScope N N scope) (hcell : K.lookup cc = some ⟨ocl, odl, .cell (some (.ref D)), oslc⟩)
    (SC : SupC P K f cc cda D me) (hmg : mg "super" = none) (hN0 : N[0]? = some me) (hks : scope.names.lookup ("super" : Str) = some .globalImplicit) (hkc : scope.names.lookup ("__class__" : Str) = some .free) (hlen : N.length = ys.length + 1) (hb : initOk N ys body = true) :
    FnOk P w K mg base CX (k + 1) f (PySem.W.ksFn name qual params body scope dV kV doc pm an (.ref cda) ct cc) N (spI K D ys) := by
  refine fn_sup lk hcd S hcell (fun vs H Q E h => ?_) fun A outer s H vs Q E s1 hr h I => ?_
  · obtain ⟨x, C, us, rfl, hl, _⟩ := h
    rw [List.length_cons, hl, hlen]
  · obtain ⟨x, C, us, rfl, hl, hsh, SI, hno, ho, q⟩ := h
    unfold initOk at hb
    split at hb
    · rename_i s0 p0 p1 m ap e cp p2 r
      simp only [Bool.and_eq_true, decide_eq_true_eq] at hb
      obtain ⟨⟨e1, e2⟩, hap, hfs, hys, hy7, has⟩ := hb
      have := eq_of_beq e1
      subst this
      have := eq_of_beq e2
      subst this
      cases ys with
      | nil => cases hys
      | cons y ys =>
        have hvis : ∀ z ∈ N, Vis (cxS CX P w K mg base N qual scope f (.ref cda) cc A outer s H E).env.scope z := fun z hz => .inl (S.par z hz)
        obtain ⟨te, hte, htq⟩ := fs_ok (X := cxS CX P w K mg base N qual scope f (.ref cda) cc A outer s H E) rfl hvis hfs
        obtain ⟨ta, hta, htr⟩ := as_ok1 (X := cxS CX P w K mg base N qual scope f (.ref cda) cc A outer s H E) rfl hvis has
        have hσ : ∀ (j : Nat) (v : V), us[j]? = some v → (_root_.L2.start N (V.ref x :: us))[1 + j]? = some (some v) := fun j v hj => by
          unfold _root_.L2.start
          have hj2 := (List.getElem?_eq_some_iff.mp hj).1
          rw [List.getElem?_append_left (by simp; omega), List.getElem?_map, show 1 + j = j + 1 by omega, List.getElem?_cons_succ, hj]
          rfl
        refine ks_wpAt_execs_cons (sup_init (X := cxS CX P w K mg base N qual scope f (.ref cda) cc A outer s H E) rfl SC SI hmg hN0 hks hkc (S.par me (List.mem_of_getElem? hN0)) S.kind (eq_of_beq hap) (fsOk_plain hfs) (pa_cons hte pa_nil (plain_star (fsOk_plain hfs) _ _)) I rfl ho (htq _ _ _ (fun i z hz hi => ?_) fun out => ⟨by simp [sizeLine_eq], ho, fun s2 I2 => ?_⟩))
        · have hil : i < N.length := (List.getElem?_eq_some_iff.mp hz).1
          have hiu : i - 1 < us.length := by rw [hl]; rw [hlen] at hil; omega
          have hu : us[i - 1]? = some (us[i - 1]'hiu) := List.getElem?_eq_getElem hiu
          refine ⟨_, ?_, hsh _ (List.mem_of_getElem? hu)⟩
          have := hσ (i - 1) _ hu
          rw [show 1 + (i - 1) = i by omega] at this
          exact this
        · exact wpAt_of_wpAny (hta.run [] s2 _ H _ I2 (htr _ _ H x C us SI.oex hno rfl hl hσ ho (by simp at hy7; omega) fun dx H2 h1 h2 h3 h4 h5 => q dx H2 h1 h2 h3 h4 h5))
    · cases hb
end Pv

set_option Elab.async false
set_option linter.all false
set_option maxRecDepth 100000
/-! PvM: what a def promises; the state behind a call. -/
namespace Pv
open PySem PySem.Spec PyProof.Rows L2

/-- what is wanted of a call's end -/
def okC (c : Cfg) (F H : Hp) (L : Ft) (vs : List V) (r : CR) (Q : VK) (E : XK) : Prop := match r with
  | .ok o outs => ∀ F' H' L' u B, Rel c .no F' H' L' (vs.map some) outs → Step true F H L F' H' L' → Own c F' H' o u B → Free F' L' B → New true H L B → Q u H'
  | .exc x outs => ∀ F' H' L' cls d, Rel c .no F' H' L' (vs.map some) outs → Step true F H L F' H' L' → RX c F' x cls d → E cls d H'
  | .bad => False
/-- a def's promise -/
def spF (c : Cfg) (P : Fn) (f np : Nat) : Sp := fun vs H Q E => ∃ F L os, vs.length = np ∧ os.length = np ∧ Rel c .no F H L (vs.map some) (os.map some) ∧ okC c F H L vs (P f os) Q E
theorem spF_len {c : Cfg} {P : Fn} {f np : Nat} {vs : List V} {H : Hp} {Q : VK} {E : XK} (h : spF c P f np vs H Q E) : vs.length = np := by
  obtain ⟨_, _, _, h, _⟩ := h
  exact h

/-! ### what is handed in: values, slots, a thing of its own -/
/-- sl: the slots that are handed in by reference; Lc: what each argument owns -/
structure Hand (c : Cfg) (F H : Hp) (L Lc : Ft) (σ : _root_.L2.St) (sl : List (Option Nat)) (os : List O) (vs : List V) : Prop where
  l1 : os.length = sl.length
  l2 : vs.length = sl.length
  own : ∀ (k : Nat) (o : O), os[k]? = some o → ∃ u, vs[k]? = some u ∧ Own c F H o u (Lc k)
  ref : ∀ (k i : Nat), sl[k]? = some (some i) → Lc k = L i ∧ ∃ u, vs[k]? = some u ∧ σ[i]? = some (some u)
  tmp : ∀ (k : Nat), sl[k]? = some none → Free F L (Lc k)
  out : ∀ (k : Nat), sl[k]? = none → Lc k = []
  dj : ∀ (i j : Nat) (p : Addr), p ∈ Lc i → p ∈ Lc j → i = j
  one : ∀ (j k i : Nat), sl[j]? = some (some i) → sl[k]? = some (some i) → j = k
section
variable {c : Cfg} {xo : Xs} {F F' H H' : Hp} {L Lc L' : Ft} {σ : _root_.L2.St} {v : Env} {sl : List (Option Nat)} {os : List O} {vs : List V} {outs : List (Option O)}
theorem getS_map {os : List O} {k : Nat} {o : O} : getS (os.map some) k = some o ↔ os[k]? = some o := by
  unfold getS
  rw [List.getElem?_map]
  cases os[k]? <;> simp
theorem Hand.rel (I : Hand c F H L Lc σ sl os vs) (R : Rel c xo F H L σ v) : Rel c .no F H Lc (vs.map some) (os.map some) := by
  have nd : ∀ k, (Lc k).Nodup ∧ ∀ p ∈ Lc k, F p = none := fun k => by
    cases h : sl[k]? with
    | none => rw [I.out k h]; exact ⟨List.nodup_nil, fun _ h => by cases h⟩
    | some s =>
      cases s with
      | none => exact ⟨(I.tmp k h).nd, (I.tmp k h).f⟩
      | some i => rw [(I.ref k i h).1]; exact ⟨R.nd i, fun p hp => R.df i p hp⟩
  refine ⟨R.le, fun k o h => ?_, fun k => (nd k).1, I.dj, fun k p hp => (nd k).2 p hp, fun k h => ?_, by rw [List.length_map, List.length_map, I.l1, I.l2], trivial⟩
  · obtain ⟨u, h1, h2⟩ := I.own k o (getS_map.mp h)
    exact ⟨u, by rw [List.getElem?_map, h1]; rfl, h2⟩
  · refine I.out k ?_
    cases q : sl[k]? with
    | none => rfl
    | some s =>
      have hk := (List.getElem?_eq_some_iff.mp q).1
      have hk2 : k < os.length := by rw [I.l1]; exact hk
      have : os[k]? = some (os[k]'hk2) := List.getElem?_eq_getElem hk2
      rw [getS_map.mpr this] at h
      cases h
theorem getS_set {v : Env} {i j : Nat} {o : Option O} : getS (v.set i o) j = if i = j ∧ i < v.length then o else getS v j := by
  unfold getS
  rw [List.getElem?_set]
  by_cases h : i = j
  · subst h
    rw [if_pos rfl]
    by_cases h2 : i < v.length
    · rw [if_pos h2, if_pos ⟨rfl, h2⟩]; rfl
    · rw [if_neg h2, if_neg fun z => h2 z.2, List.getElem?_eq_none (by omega)]
  · rw [if_neg h, if_neg fun z => h z.1]
theorem takeBack_len : ∀ {sl : List (Option Nat)} {outs : List (Option O)} {v : Env}, (takeBack sl outs v).length = v.length
  | [], _, _ => by unfold takeBack; rfl
  | some i :: sl, [], _ => by unfold takeBack; rfl
  | none :: sl, [], _ => by unfold takeBack; rfl
  | some i :: sl, o :: os, v => by unfold takeBack; rw [takeBack_len, List.length_set]
  | none :: sl, o :: os, v => by unfold takeBack; rw [takeBack_len]
theorem takeBack_out : ∀ {sl : List (Option Nat)} {outs : List (Option O)} {v : Env} {j : Nat}, (∀ (k : Nat), sl[k]? ≠ some (some j)) → getS (takeBack sl outs v) j = getS v j
  | [], _, _, _, _ => by unfold takeBack; rfl
  | some i :: sl, [], _, _, _ => by unfold takeBack; rfl
  | none :: sl, [], _, _, _ => by unfold takeBack; rfl
  | some i :: sl, o :: os, v, j, h => by
    unfold takeBack
    rw [takeBack_out fun k => h (k + 1), getS_set, if_neg]
    rintro ⟨rfl, _⟩
    exact h 0 rfl
  | none :: sl, o :: os, v, j, h => by
    unfold takeBack
    exact takeBack_out fun k => h (k + 1)
theorem takeBack_in : ∀ {sl : List (Option Nat)} {outs : List (Option O)} {v : Env} {j k : Nat}, sl.length = outs.length → (∀ (a b i : Nat), sl[a]? = some (some i) → sl[b]? = some (some i) → a = b) → sl[k]? = some (some j) → j < v.length → getS (takeBack sl outs v) j = (outs[k]?).bind id
  | [], _, _, _, k, _, _, h, _ => by simp at h
  | s :: sl, [], _, _, _, hl, _, _, _ => by simp at hl
  | some i :: sl, o :: os, v, j, 0, hl, hu, h, hj => by
    simp at h
    subst h
    unfold takeBack
    rw [takeBack_out, getS_set, if_pos ⟨rfl, hj⟩]
    · rfl
    · intro k hk
      have := hu 0 (k + 1) i rfl hk
      omega
  | some i :: sl, o :: os, v, j, k + 1, hl, hu, h, hj => by
    unfold takeBack
    exact takeBack_in (by simpa using hl) (fun a b i h1 h2 => by have := hu (a + 1) (b + 1) i h1 h2; omega) h (by rw [List.length_set]; exact hj)
  | none :: sl, o :: os, v, j, 0, hl, hu, h, hj => by simp at h
  | none :: sl, o :: os, v, j, k + 1, hl, hu, h, hj => by
    unfold takeBack
    exact takeBack_in (by simpa using hl) (fun a b i h1 h2 => by have := hu (a + 1) (b + 1) i h1 h2; omega) h hj
/-- the slots behind a call: from F0, H0, where no thing of its own was there that is handed in -/
theorem Hand.back {e : Bool} {F0 H0 : Hp} (I : Hand c F H L Lc σ sl os vs) (R : Rel c xo F H L σ v) (s0 : Step e F0 H0 L F H L) (ho : outs.length = sl.length) (he : e = false → ∀ (k i : Nat), sl[k]? ≠ some (some i)) (R2 : Rel c .no F' H' L' (vs.map some) outs) (s : Step true F H Lc F' H' L')
    (ht : ∀ (k : Nat), sl[k]? = some none → ∀ p ∈ Lc k, H0 p = none) :
    ∃ L2 : Ft, Rel c xo F' H' L2 σ (takeBack sl outs v) ∧ Step e F0 H0 L F' H' L2 ∧ (∀ B, Free F' L' B → New true H Lc B → Free F' L2 B ∧ New e H0 L B) ∧ (∀ (k : Nat), sl[k]? = some none → Free F' L2 (L' k) ∧ New e H0 L (L' k)) := by
  classical
  have e2 : ∃ L2 : Ft, (∀ (j k : Nat), sl[k]? = some (some j) → L2 j = L' k) ∧ ∀ (j : Nat), (∀ (k : Nat), sl[k]? ≠ some (some j)) → L2 j = L j := by
    refine ⟨fun j => if h : ∃ k : Nat, sl[k]? = some (some j) then L' h.choose else L j, fun j k hk => ?_, fun j hj => ?_⟩
    · have h : ∃ k : Nat, sl[k]? = some (some j) := ⟨k, hk⟩
      show (if h : ∃ k : Nat, sl[k]? = some (some j) then L' h.choose else L j) = _
      rw [dif_pos h]
      rw [I.one _ _ _ h.choose_spec hk]
    · show (if h : ∃ k : Nat, sl[k]? = some (some j) then L' h.choose else L j) = _
      rw [dif_neg fun ⟨k, hk⟩ => hj k hk]
  obtain ⟨L2, e1, e2⟩ := e2
  -- an address of an argument: not there ahead, or a slot's own
  have lc : ∀ {k : Nat} {p : Addr}, p ∈ Lc k → (H0 p = none ∧ ∀ j, p ∉ L j) ∨ ∃ i, sl[k]? = some (some i) ∧ p ∈ L i := fun {k p} hp => by
    cases h : sl[k]? with
    | none => rw [I.out k h] at hp; cases hp
    | some t =>
      cases t with
      | none => exact .inl ⟨ht k h p hp, fun j => (I.tmp k h).l j p hp⟩
      | some i => exact .inr ⟨i, rfl, by rw [← (I.ref k i h).1]; exact hp⟩
  have ee : ∀ {k i : Nat}, sl[k]? = some (some i) → e = true := fun {k i} h => by
    cases e with
    | true => rfl
    | false => exact absurd h (he rfl k i)
  have nw : ∀ {p : Addr}, (H p = none ∨ ∃ k, p ∈ Lc k) → H0 p = none ∨ (e = true ∧ ∃ i, p ∈ L i) := fun {p} h => by
    rcases h with h | ⟨k, h⟩
    · exact s0.none h
    · rcases lc h with ⟨q, _⟩ | ⟨i, q1, q2⟩
      · exact .inl q
      · exact .inr ⟨ee q1, i, q2⟩
  -- an address that no argument has is not another slot's
  have ap : ∀ {p : Addr} {j : Nat}, (H p = none ∨ ∃ k, p ∈ Lc k) → p ∈ L j → ∃ k : Nat, sl[k]? = some (some j) := fun {p j} h hj => by
    rcases h with h | ⟨k, h⟩
    · obtain ⟨x, hx⟩ := R.mem hj
      rw [h] at hx; cases hx
    · rcases lc h with ⟨_, q⟩ | ⟨i, q1, q2⟩
      · exact absurd hj (q j)
      · rw [← R.dj i j p q2 hj]; exact ⟨k, q1⟩
  have n2 : ∀ {p : Addr} {B : List Addr}, New true H Lc B → p ∈ B → H p = none ∨ ∃ k, p ∈ Lc k := fun n hp => (n _ hp).imp id fun z => z.2
  refine ⟨L2, ⟨R2.le, fun j o hj => ?_, fun j => ?_, fun i j p hi hj => ?_, fun j p hj => ?_, fun j hj => ?_, by rw [takeBack_len]; exact R.len, xo.mono s.f R.xs⟩, ⟨s0.f.trans s.f, fun p x hp hl => ?_, fun p x hp => ?_, fun j p hj => ?_, fun z => ?_⟩, fun B fr n => ⟨⟨fr.nd, fr.f, fun j p hp hj => ?_⟩, fun p hp => nw (n2 n hp)⟩, fun k hk => ⟨⟨R2.nd k, fun p hp => R2.df k p hp, fun j p hp hj => ?_⟩, fun p hp => nw (s.l k p hp)⟩⟩
  · by_cases h : ∃ k : Nat, sl[k]? = some (some j)
    · obtain ⟨k, hk⟩ := h
      obtain ⟨hL, u, hu, hσ⟩ := I.ref k j hk
      have hjl : j < v.length := by
        rw [← R.len]
        exact (List.getElem?_eq_some_iff.mp hσ).1
      rw [takeBack_in ho.symm I.one hk hjl] at hj
      have hj' : getS outs k = some o := hj
      obtain ⟨u', h1, h2⟩ := R2.slot k o hj'
      rw [List.getElem?_map, hu] at h1
      cases h1
      rw [e1 j k hk]
      exact ⟨u, hσ, h2⟩
    · have h' : ∀ (k : Nat), sl[k]? ≠ some (some j) := fun k hk => h ⟨k, hk⟩
      rw [takeBack_out h'] at hj
      obtain ⟨u, h1, h2⟩ := R.slot j o hj
      rw [e2 j h']
      refine ⟨u, h1, Own.keep s.f o u _ (fun p x hp hx => s.h p x hx fun _ i hi => ?_) h2⟩
      obtain ⟨k, hk⟩ := ap (.inr ⟨i, hi⟩) hp
      exact h' k hk
  · by_cases h : ∃ k : Nat, sl[k]? = some (some j)
    · obtain ⟨k, hk⟩ := h
      rw [e1 j k hk]; exact R2.nd k
    · rw [e2 j fun k hk => h ⟨k, hk⟩]; exact R.nd j
  · by_cases h : ∃ k : Nat, sl[k]? = some (some i)
    · obtain ⟨k, hk⟩ := h
      rw [e1 i k hk] at hi
      by_cases h2 : ∃ k : Nat, sl[k]? = some (some j)
      · obtain ⟨k2, hk2⟩ := h2
        rw [e1 j k2 hk2] at hj
        have := R2.dj k k2 p hi hj
        subst this
        rw [hk] at hk2
        cases hk2
        rfl
      · rw [e2 j fun k hk => h2 ⟨k, hk⟩] at hj
        exact absurd (ap (s.l k p hi) hj) h2
    · rw [e2 i fun k hk => h ⟨k, hk⟩] at hi
      by_cases h2 : ∃ k : Nat, sl[k]? = some (some j)
      · obtain ⟨k2, hk2⟩ := h2
        rw [e1 j k2 hk2] at hj
        exact absurd (ap (s.l k2 p hj) hi) h
      · rw [e2 j fun k hk => h2 ⟨k, hk⟩] at hj
        exact R.dj i j p hi hj
  · by_cases h : ∃ k : Nat, sl[k]? = some (some j)
    · obtain ⟨k, hk⟩ := h
      rw [e1 j k hk] at hj; exact R2.df k p hj
    · rw [e2 j fun k hk => h ⟨k, hk⟩] at hj
      cases q : F' p with
      | none => rfl
      | some x =>
        rcases s.g p x q with q1 | q1 | ⟨_, q1⟩
        · rw [R.df j p hj] at q1; cases q1
        · exact absurd (ap (.inl q1) hj) h
        · exact absurd (ap (.inr q1) hj) h
  · by_cases h : ∃ k : Nat, sl[k]? = some (some j)
    · obtain ⟨k, hk⟩ := h
      obtain ⟨hL, u, hu, hσ⟩ := I.ref k j hk
      have hjl : j < v.length := by
        rw [← R.len]
        exact (List.getElem?_eq_some_iff.mp hσ).1
      rw [takeBack_in ho.symm I.one hk hjl] at hj
      rw [e1 j k hk]
      exact R2.dead k hj
    · have h' : ∀ (k : Nat), sl[k]? ≠ some (some j) := fun k hk => h ⟨k, hk⟩
      rw [takeBack_out h'] at hj
      rw [e2 j h']
      exact R.dead j hj
  · refine s.h p x (s0.h p x hp hl) fun _ k hk => ?_
    rcases lc hk with ⟨q, _⟩ | ⟨i, q1, q2⟩
    · rw [hp] at q; cases q
    · exact hl (ee q1) i q2
  · rcases s.g p x hp with q1 | q1 | ⟨_, q1⟩
    · exact s0.g p x q1
    · exact .inr (nw (.inl q1))
    · exact .inr (nw (.inr q1))
  · by_cases h : ∃ k : Nat, sl[k]? = some (some j)
    · obtain ⟨k, hk⟩ := h
      rw [e1 j k hk] at hj
      exact (nw (s.l k p hj)).imp id fun z => z.2
    · rw [e2 j fun k hk => h ⟨k, hk⟩] at hj
      exact .inr ⟨j, hj⟩
  · funext j
    exact e2 j fun k hk => he z k j hk
  · by_cases h : ∃ k : Nat, sl[k]? = some (some j)
    · obtain ⟨k, hk⟩ := h
      rw [e1 j k hk] at hj; exact fr.l k p hp hj
    · rw [e2 j fun k hk => h ⟨k, hk⟩] at hj
      exact h (ap (n2 n hp) hj)
  · by_cases h : ∃ k : Nat, sl[k]? = some (some j)
    · obtain ⟨k2, hk2⟩ := h
      rw [e1 j k2 hk2] at hj
      have := R2.dj k k2 p hp hj
      subst this
      rw [hk] at hk2; cases hk2
    · rw [e2 j fun k hk => h ⟨k, hk⟩] at hj
      exact h (ap (s.l k p hp) hj)
end
end Pv

set_option Elab.async false
set_option linter.all false
set_option maxRecDepth 100000
/-! PvN: calls. -/
namespace Pv
open PySem PySem.Spec PyProof.Rows L2

/-- where the defs stand -/
structure Ad where
  fa : Nat → Addr
  fd : Nat → FuncData
  ps : Nat → List Str
  /-- a property's object -/
  pa : Nat → Nat → Addr
/-- the parameters' values -/
def permV (vs : List V) : List Pm → Option (List V)
  | [] => some []
  | .a k :: r => (vs[k]?).bind fun a => (permV vs r).map (a :: ·)
  | .d d :: r => if d.flat then (permV vs r).map (fv d :: ·) else none
/-- an exception class that is raised: its __init__ -/
def Rz (c : Cfg) (T : Tbl) (P : Program) (w : World) (mg : Str → Option Value) (base : Heap) (CX : CXT) (k : Nat) : Prop :=
  ∃ (D fI : Addr) (fd : FuncData) (ps : List Str), OexC c.K (c.ca k) ∧ PySem.W.findIn c.K (.ref (c.ca k)) "__init__" = some (some (.ref fI)) ∧ PySem.W.typeIn c.K (.ref fI) = some (.type "function") ∧ FnOk P w c.K mg base CX 1 fI fd ps (spI c.K D ((T.exf k).map c.an)) ∧ Binds c.K fd ps [] ∧
    SupI c.K (c.ca k) D ∧ ∀ f ∈ T.exf k, PySem.W.findIn c.K (.ref (c.ca k)) (c.an f) = some none
/-- what may be called from X -/
structure Fx (c : Cfg) (J : Info) (T : Tbl) (P : Fn) (A : Ad) (X : Cx) : Prop where
  rm : ∃ k, Room (k + 1) X.A ∧ ∀ f d, T.fn f = some d → FnOk X.prog X.w X.K X.mg X.base (L2.CX X.prog X.w) k (A.fa f) (A.fd f) (A.ps f) (spF c P f d.np)
  rm2 : Room 2 X.A
  rz : ∀ k ∈ J.rk, X.mg (J.cnm k) = some (.ref (c.ca k)) ∧ Rz c T X.prog X.w X.mg X.base (L2.CX X.prog X.w) k
  lv : ∀ f os, P f os ≠ .bad → ∃ d, T.fn f = some d ∧ os.length = d.np
  bd : ∀ f d, T.fn f = some d → f ∈ J.fp → Binds X.K (A.fd f) (A.ps f) []
  kp : ∀ f d, T.fn f = some d → PySem.W.keepIn X.K (.ref (A.fa f)) = true
  gl : ∀ f ∈ J.fg, (∃ d, T.fn f = some d) ∧ X.mg (J.fnm f) = some (.ref (A.fa f))
  mth : ∀ k m f, (T.ini k).isSome = true → T.mth k m = some f → Meth X.K (c.ca k) (c.an m) (A.fa f) ∧ f ∈ J.fp ∧ ∃ d, T.fn f = some d
  ini : ∀ k f, T.ini k = some f → Mk X.K (c.ca k) (A.fa f) ∧ ∃ d, T.fn f = some d
  kpi : ∀ k ∈ J.kp, (T.ini k).isSome = true
  inp : ∀ k f, T.ini k = some f → k ∈ J.kp → f ∈ J.fp
  prp : ∀ k f g, (T.ini k).isSome = true → T.att k f = .prop g → PropOf X.K (c.ca k) (c.an f) (A.pa k f) (A.fa g) ∧ g ∈ J.fp
  kbf : ∀ q ∈ J.kf, ∃ g gV, KBn X.K (A.fd q.1) (A.ps q.1) q.2.1 q.2.2.1 g gV ∧ ∀ vs zs : List V, vs.length = q.2.1 → zs.length = q.2.2.1.length → permV (vs ++ zs) q.2.2.2 = some (gV vs zs)
  kbc : ∀ q ∈ J.kc, (T.ini q.1).isSome = true ∧ ∀ f, T.ini q.1 = some f → ∃ g gV, KBn X.K (A.fd f) (A.ps f) (q.2.1 + 1) q.2.2.1 g gV ∧ ∀ (u : V) (vs zs : List V), vs.length = q.2.1 → zs.length = q.2.2.1.length → ∃ r, permV (vs ++ zs) q.2.2.2 = some r ∧ gV (u :: vs) zs = u :: r

section
variable {X : Cx} {c : Cfg} {T : Tbl} {P : Fn} {xo : Xs} {W0 : WX} {e e1 e2 e3 e4 : Expr} {es xs : List Expr} {a b d g : E} {p p' p2 : Pos} {σ : _root_.L2.St} {F F' H H' : Hp} {L L' Lc : Ft} {Q : VK} {J : Info} {A : Ad} {v : Env} {as : List Ar} {os : List O} {vs : List V}
/-! ### the arguments as they are handed in -/
def lcOf (L : Ft) (as : List Ar) : Ft := fun k => match as[k]? with
  | some (.ref i) => L i
  | _ => []
theorem getAll_len : ∀ {as : List Ar} {os : List O}, getAll v as = some os → os.length = as.length
  | [], os, h => by cases h; rfl
  | a :: as, os, h => by
    unfold getAll at h
    cases q : a.get v with
    | none => rw [q] at h; cases h
    | some o =>
      rw [q] at h
      simp only [Option.bind_some, Option.map_eq_some_iff] at h
      obtain ⟨os', h1, rfl⟩ := h
      rw [List.length_cons, List.length_cons, getAll_len h1]
theorem getAll_get : ∀ {as : List Ar} {os : List O} {k : Nat} {o : O}, getAll v as = some os → os[k]? = some o → ∃ a, as[k]? = some a ∧ a.get v = some o
  | [], os, k, o, h, e => by cases h; simp at e
  | a :: as, os, k, o, h, e => by
    unfold getAll at h
    cases q : a.get v with
    | none => rw [q] at h; cases h
    | some o' =>
      rw [q] at h
      simp only [Option.bind_some, Option.map_eq_some_iff] at h
      obtain ⟨os', h1, rfl⟩ := h
      cases k with
      | zero =>
        simp at e
        subst e
        exact ⟨a, rfl, q⟩
      | succ k => exact getAll_get (k := k) h1 (by simpa using e)
theorem args_get : ∀ {as : List Ar} {vs : List V} {k : Nat} {a : Ar}, Args c F σ as vs → as[k]? = some a → ∃ u, vs[k]? = some u ∧ match a with
    | .val d => Rep c F d u
    | .ref i => σ[i]? = some (some u)
  | [], vs, k, a, _, e => by simp at e
  | .val d :: as, vs, 0, a, ⟨u, r, h1, h2, h3⟩, e => by
    simp at e
    subst e h1
    exact ⟨u, rfl, h2⟩
  | .ref i :: as, vs, 0, a, ⟨u, r, h1, h2, h3⟩, e => by
    simp at e
    subst e h1
    exact ⟨u, rfl, h2⟩
  | .val d :: as, vs, k + 1, a, ⟨u, r, h1, h2, h3⟩, e => by
    subst h1
    exact args_get (k := k) h3 (by simpa using e)
  | .ref i :: as, vs, k + 1, a, ⟨u, r, h1, h2, h3⟩, e => by
    subst h1
    exact args_get (k := k) h3 (by simpa using e)
theorem nodupN_one : ∀ {as : List Ar}, nodupN (as.filterMap Ar.slot) = true → ∀ (j k i : Nat), as[j]? = some (.ref i) → as[k]? = some (.ref i) → j = k
  | [], _, j, k, i, h, _ => by simp at h
  | .val d :: as, hn, 0, k, i, h, _ => by simp at h
  | .val d :: as, hn, j + 1, 0, i, _, h => by simp at h
  | .val d :: as, hn, j + 1, k + 1, i, h1, h2 => by
    rw [nodupN_one (as := as) (show nodupN (as.filterMap Ar.slot) = true from hn) j k i (by simpa using h1) (by simpa using h2)]
  | .ref x :: as, hn, j, k, i, h1, h2 => by
    have hn : (!(as.filterMap Ar.slot).contains x && nodupN (as.filterMap Ar.slot)) = true := hn
    simp only [Bool.and_eq_true, Bool.not_eq_true'] at hn
    have no : ∀ m : Nat, as[m]? = some (.ref x) → False := fun m hm => by
      have : x ∈ as.filterMap Ar.slot := List.mem_filterMap.mpr ⟨_, List.mem_of_getElem? hm, rfl⟩
      have h3 := hn.1
      rw [List.contains_iff_mem.mpr this] at h3
      cases h3
    cases j with
    | zero =>
      simp at h1
      cases k with
      | zero => rfl
      | succ k => exact (no k (by rw [h1]; simpa using h2)).elim
    | succ j =>
      cases k with
      | zero =>
        simp at h2
        exact (no j (by rw [h2]; simpa using h1)).elim
      | succ k => rw [nodupN_one hn.2 j k i (by simpa using h1) (by simpa using h2)]
theorem slot_at {k i : Nat} : (as.map Ar.slot)[k]? = some (some i) ↔ as[k]? = some (.ref i) := by
  rw [List.getElem?_map]
  cases as[k]? with
  | none => simp
  | some a => cases a <;> simp [Ar.slot]
theorem args_hand (R : Rel c xo F H L σ v) (hg : getAll v as = some os) (ha : Args c F σ as vs) (hn : nodupN (as.filterMap Ar.slot) = true) : Hand c F H L (lcOf L as) σ (as.map Ar.slot) os vs := by
  refine ⟨by rw [getAll_len hg, List.length_map], by rw [← ha.length, List.length_map], fun k o h => ?_, fun k i h => ?_, fun k h => ?_, fun k h => ?_, fun i j q hi hj => ?_, fun j k i h1 h2 => ?_⟩
  · obtain ⟨a, h1, h2⟩ := getAll_get hg h
    obtain ⟨u, h3, h4⟩ := args_get ha h1
    refine ⟨u, h3, ?_⟩
    unfold lcOf
    rw [h1]
    cases a with
    | val d => cases h2; exact ⟨h4, rfl⟩
    | ref i =>
      obtain ⟨u', h5, h6⟩ := R.slot i o h2
      have h4 : σ[i]? = some (some u) := h4
      rw [h4] at h5
      cases h5
      exact h6
  · have h := slot_at.mp h
    obtain ⟨u, h3, h4⟩ := args_get ha h
    refine ⟨?_, u, h3, h4⟩
    unfold lcOf
    rw [h]
  · have e : lcOf L as k = [] := by
      unfold lcOf
      rw [List.getElem?_map] at h
      cases q : as[k]? with
      | none => rfl
      | some a =>
        rw [q] at h
        cases a with
        | val d => rfl
        | ref i => cases h
    rw [e]
    exact Free.nil
  · unfold lcOf
    rw [List.getElem?_map] at h
    cases q : as[k]? with
    | none => rfl
    | some a => rw [q] at h; cases h
  · unfold lcOf at hi hj
    cases q1 : as[i]? with
    | none => rw [q1] at hi; cases hi
    | some a =>
      cases q2 : as[j]? with
      | none => rw [q2] at hj; cases hj
      | some b =>
        rw [q1] at hi
        rw [q2] at hj
        cases a with
        | val d => cases hi
        | ref s =>
          cases b with
          | val d => cases hj
          | ref t =>
            have := R.dj s t q hi hj
            subst this
            exact nodupN_one hn i j s q1 q2
  · exact nodupN_one hn j k i (slot_at.mp h1) (slot_at.mp h2)
/-- arguments that change nothing hand no slot in -/
theorem evs_pur : ∀ {el : EL} {v v' : Env} {as : List Ar}, el.pur = true → evs T P xo.e el v = .ok as v' → ∀ (k i : Nat), (as.map Ar.slot)[k]? ≠ some (some i)
  | .nil, v, v', as, _, h, k, i => by
    simp only [evs] at h
    cases h
    simp
  | .cons e el, v, v', as, hp, h, k, i => by
    simp only [EL.pur, Bool.and_eq_true] at hp
    simp only [evs] at h
    obtain ⟨x, v1, _, h⟩ := bind_ok h
    cases hx : x.fin with
    | none => rw [hx] at h; cases h
    | some d =>
      rw [hx] at h
      obtain ⟨as', v2, h1, h⟩ := bind_ok h
      cases h
      cases k with
      | zero => simp [Ar.slot]
      | succ k =>
        have := evs_pur hp.2 h1 k i
        simpa using this
  | .ref _ _, _, _, _, hp, _, _, _ => by cases hp
/-! ### a call of a def -/
theorem okC_ne {r : CR} {E : XK} (h : okC c F H Lc vs r Q E) : r ≠ .bad := fun z => by
  rw [z] at h
  exact h
/-- behind a call: what the caller wants -/
theorem ofCall_ok {e : Bool} {F0 H0 : Hp} {W : XW} {sl : List (Option Nat)} {r : CR} (I : Hand c F H L Lc σ sl os vs) (R : Rel c xo F H L σ v) (s0 : Step e F0 H0 L F H L) (he : e = false → ∀ (k i : Nat), sl[k]? ≠ some (some i))
    (ht : ∀ (k : Nat), sl[k]? = some none → ∀ p ∈ Lc k, H0 p = none) (q : okR c xo e F0 H0 L σ (ofCall sl v r) (vQ c Q) W) : okC c F H Lc vs r Q W := by
  have ol : ∀ {outs : List (Option O)} {F' H' : Hp} {L' : Ft}, Rel c .no F' H' L' (vs.map some) outs → outs.length = sl.length := fun R2 => by
    rw [← R2.len, List.length_map, I.l2]
  cases r with
  | ok o outs =>
    intro F' H' L' u B R2 s ow fr n
    obtain ⟨L2, R3, s3, k1, _⟩ := I.back R s0 (ol R2) he R2 s ht
    obtain ⟨fr3, n3⟩ := k1 B fr n
    refine q F' H' L2 B R3 s3 n3 u ?_
    cases o with
    | fz d => exact ow.1
    | lst _ => exact ⟨ow, fr3, trivial⟩
    | obj _ _ => exact ⟨ow, fr3, trivial⟩
  | exc x outs =>
    intro F' H' L' cls d R2 s rx
    obtain ⟨L2, R3, s3, _⟩ := I.back R s0 (ol R2) he R2 s ht
    exact q F' H' L2 cls d R3 s3 rx
  | bad => exact q
theorem args_tmp {k : Nat} (h : (as.map Ar.slot)[k]? = some none) : lcOf L as k = [] := by
  unfold lcOf
  rw [List.getElem?_map] at h
  cases q : as[k]? with
  | none => rfl
  | some a =>
    rw [q] at h
    cases a with
    | val d => rfl
    | ref i => cases h
theorem callF_sp {f : Nat} {df : Def} {e : Bool} {F1 H1 : Hp} {L1 : Ft} {v1 : Env} {W : XW} (fx : Fx c J T P A X) (hT : T.fn f = some df) (R1 : Rel c xo F1 H1 L1 σ v1) (ra : Args c F1 σ as vs) (he : e = false → ∀ (k i : Nat), (as.map Ar.slot)[k]? ≠ some (some i))
    (q : okR c xo e F1 H1 L1 σ (callF P f as v1) (vQ c Q) W) : spF c P f df.np vs H1 Q W := by
  unfold callF at q
  cases hg : getAll v1 as with
  | none => rw [hg] at q; exact q.elim
  | some os =>
    rw [hg] at q
    have q : okR c xo e F1 H1 L1 σ (if nodupN (as.filterMap Ar.slot) then ofCall (as.map Ar.slot) v1 (P f os) else R.bad) (vQ c Q) W := q
    split at q
    · rename_i hn
      have I := args_hand R1 hg ra hn
      have h := ofCall_ok I R1 Step.refl he (fun k hk p hp => by rw [args_tmp hk] at hp; cases hp) q
      obtain ⟨d', h1, h2⟩ := fx.lv f os (okC_ne h)
      rw [hT] at h1
      cases h1
      exact ⟨F1, lcOf L1 as, os, by rw [I.l2, ← I.l1]; exact h2, h2, I.rel R1, h⟩
    · exact q.elim
theorem not_not {b : Bool} (h : (!b) = false) : b = true := by
  cases b <;> simp_all
/-- a def of the module -/
theorem s_call {f : Nat} {el : EL} {x : Str} (fx : Fx c J T P A X) (tk : Takes X W0) (hg : Gl X x) (hd : (x == ("__debug__" : Str)) = false) (hx : x = J.fnm f) (hG : f ∈ J.fg) (hpl : f ∈ J.fp) (hp : (e :: xs).all plainX = true) (hA : PA X (e :: xs) (tEL c T P xo W0 el)) :
    PE X (.Call (.Name x p') (e :: xs) [] p) (tE c T P xo W0 (.call f el)) := by
  have hp : plainX e = true ∧ xs.all plainX = true := by simpa using hp
  obtain ⟨k, hr, hF⟩ := fx.rm
  obtain ⟨⟨df, hT⟩, hmg⟩ := fx.gl f hG
  refine ⟨fun pins s σ H Q I ⟨F, L, v, R0, q⟩ => ?_⟩
  simp only [ev] at q
  refine wpAny_Call_Name_kw (ld_glob I hg (by rw [hx]; exact hmg) ?_ hd)
  refine PySem.W.callWith_K (h₀ := X.base) I.ok.mod.kin (fx.kp f df hT) (thn (hA.run p pins s σ H (fun vs H1 => spF c P f df.np vs H1 Q (WE W0 σ)) I (bindA R0 q (fun z => not_not z) fun as v1 F1 H1 L1 vs R1 s1 r1 q1 hq => ?_)) fun us s1 ⟨vs, H1, I1, r, q⟩ => ⟨I1.kIn, ?_⟩) (plain_star hp.1 _ _) (plain_stars hp.2 _ _)
  · exact callF_sp fx hT R1 r1 (fun z => evs_pur (not_not z) hq) q1
  · exact run_fnS (E := fun σ => WE W0 σ) (hF f df hT) (hr.mono (by omega)) (fx.bd f df hT hpl) (passAt tk σ) I1 r q
/-! ### a method -/
theorem find_lookup {c : Cfg} {F : Hp} {m : Nat} : ∀ {fs : List (Nat × D)} {vs : List (Str × V)}, Repf c F fs vs → find m fs = none → vs.lookup (c.an m) = none
  | [], vs, h, _ => by cases (show vs = _ from h); rfl
  | p :: fs, vs, ⟨v, r, h1, h2, h3⟩, e => by
    subst h1
    unfold find at e
    split at e
    · cases e
    · rename_i g
      have : (c.an m == c.an p.1) = false := by
        rw [beq_eq_false_iff_ne]
        intro z
        exact g (by rw [c.inj _ _ z]; simp)
      rw [List.lookup_cons, this]
      exact find_lookup h3 e
theorem find_lookupO {c : Cfg} {F H : Hp} {m : Nat} : ∀ {fs : List (Nat × O)} {vs : List (Str × V)} {B : List Addr}, Ownf c F H fs vs B → find m fs = none → vs.lookup (c.an m) = none
  | [], vs, B, h, _ => by rw [h.1]; rfl
  | p :: fs, vs, B, ⟨v, r, A1, A2, h1, _, h2, h3⟩, e => by
    subst h1
    unfold find at e
    split at e
    · cases e
    · rename_i g
      have : (c.an m == c.an p.1) = false := by
        rw [beq_eq_false_iff_ne]
        intro z
        exact g (by rw [c.inj _ _ z]; simp)
      rw [List.lookup_cons, this]
      exact find_lookupO h3 e
theorem find_some {c : Cfg} {F : Hp} {m : Nat} {d : D} : ∀ {fs : List (Nat × D)} {vs : List (Str × V)}, Repf c F fs vs → find m fs = some d → ∃ u, vs.lookup (c.an m) = some u ∧ Rep c F d u
  | [], vs, h, e => by cases e
  | p :: fs, vs, ⟨v, r, h1, h2, h3⟩, e => by
    subst h1
    unfold find at e
    split at e
    · rename_i g
      cases e
      have g : p.1 = m := by simpa using g
      exact ⟨v, by rw [List.lookup_cons, g, beq_self_eq_true], h2⟩
    · rename_i g
      have : (c.an m == c.an p.1) = false := by
        rw [beq_eq_false_iff_ne]
        intro z
        exact g (by rw [c.inj _ _ z]; simp)
      rw [List.lookup_cons, this]
      exact find_some h3 e
theorem find_someO {c : Cfg} {F H : Hp} {m : Nat} {o : O} : ∀ {fs : List (Nat × O)} {vs : List (Str × V)} {B : List Addr}, Ownf c F H fs vs B → find m fs = some o → ∃ u B', vs.lookup (c.an m) = some u ∧ Own c F H o u B' ∧ ∀ p ∈ B', p ∈ B
  | [], vs, B, h, e => by cases e
  | p :: fs, vs, B, ⟨v, r, A1, A2, h1, h4, h2, h3⟩, e => by
    subst h1 h4
    unfold find at e
    split at e
    · rename_i g
      cases e
      have g : p.1 = m := by simpa using g
      exact ⟨v, A1, by rw [List.lookup_cons, g, beq_self_eq_true], h2, fun q hq => List.mem_append_left _ hq⟩
    · rename_i g
      have : (c.an m == c.an p.1) = false := by
        rw [beq_eq_false_iff_ne]
        intro z
        exact g (by rw [c.inj _ _ z]; simp)
      rw [List.lookup_cons, this]
      obtain ⟨u, B', q1, q2, q3⟩ := find_someO h3 e
      exact ⟨u, B', q1, q2, fun q hq => List.mem_append_right _ (q3 q hq)⟩
end
end Pv

set_option Elab.async false
set_option linter.all false
set_option maxRecDepth 100000
/-! PvO: attributes, methods, new objects. -/
namespace Pv
open PySem PySem.Spec PyProof.Rows L2

section
variable {X : Cx} {c : Cfg} {T : Tbl} {P : Fn} {xo : Xs} {W0 : WX} {e e1 e2 e3 e4 : Expr} {es xs : List Expr} {a b d g : E} {p p' p2 : Pos} {σ : _root_.L2.St} {F F' H H' : Hp} {L L' Lc : Ft} {Q : VK} {J : Info} {A : Ad} {v : Env} {as : List Ar} {os : List O} {vs : List V}
/-- a property that is read: the getter's promise -/
theorem prop_sp {f g k : Nat} {e : Bool} {F1 H1 : Hp} {L1 : Ft} {v1 : Env} {W : XW} {x : Val} {u : V} {B : List Addr} (fx : Fx c J T P A X) (hk : (T.ini k).isSome = true) (hp : T.att k f = .prop g) (R1 : Rel c xo F1 H1 L1 σ v1) (r : RV c F1 H1 L1 x u B)
    (q : okR c xo e F1 H1 L1 σ (match x with
      | .fz d => match P g [.fz d] with
        | .ok o _ => .ok (.new o) v1
        | _ => .bad
      | _ => .bad) (vQ c Q) W) : ∃ df, T.fn g = some df ∧ spF c P g df.np [u] H1 Q E0 := by
  cases x with
  | fz d =>
    cases hP : P g [.fz d] with
    | ok o outs =>
      simp only [hP] at q
      obtain ⟨df, h1, h2⟩ := fx.lv g [.fz d] (by rw [hP]; intro z; cases z)
      refine ⟨df, h1, ?_⟩
      refine callF_sp (as := [.val d]) (e := e) fx h1 R1 ⟨u, [], rfl, r, rfl⟩ (fun _ k i => ?_) ?_
      · cases k <;> simp [Ar.slot]
      · have z : callF P g [.val d] v1 = .ok (.new o) v1 := by
          unfold callF
          simp only [getAll, Ar.get, Option.bind_some, Option.map_some, List.filterMap, Ar.slot, nodupN, if_true, List.map_cons, List.map_nil, hP, ofCall]
          cases outs <;> rfl
        rw [z]
        exact q
    | exc _ _ => simp only [hP] at q; exact q.elim
    | bad => simp only [hP] at q; exact q.elim
  | tmp _ => exact q.elim
  | vw _ _ => exact q.elim
/-- x.f -/
theorem s_att {f : Nat} {y : Str} (wd : Wd c J T X.mg) (fx : Fx c J T P A X) (hK : X.K = c.K) (hp : plainX e = true) (hy : y = c.an f) (ha : PE X e (tE c T P xo W0 a)) : PE X (.Attribute e y p) (tE c T P xo W0 (.att a f)) := by
  subst hy
  refine ⟨fun pins s σ H Q I ⟨F, L, v, R0, q⟩ => ?_⟩
  simp only [ev] at q
  obtain ⟨k, hr, hF⟩ := fx.rm
  refine attr_of (plain_base hp _ _) (thn (ha.run pins s σ H (fun u H1 => ∃ a C dx fs, u = .ref a ∧ H1 a = some (.ins (c.ca C) dx fs) ∧ Cls X.K (c.ca C) ∧ ((NoAttr X.K (c.ca C) (c.an f) ∧ ∃ w, fs.lookup (c.an f) = some w ∧ Q w H1) ∨
    (∃ w uu, Con X.K (c.ca C) (c.an f) w uu ∧ fs.lookup (c.an f) = none ∧ Q w H1) ∨
    (∃ g df pa, T.fn g = some df ∧ g ∈ J.fp ∧ PropOf X.K (c.ca C) (c.an f) pa (A.fa g) ∧ spF c P g df.np [.ref a] H1 Q E0))) I (bindE R0 q (fun z => by simpa [E.pur] using z) fun x v1 F1 H1 L1 u B R1 s1 r1 q1 n1 z1 => ?_)) fun u s1 ⟨x, H1, I1, rx, a, C, dx, fs, ex, ea, cl, q⟩ => ?_)
  · unfold attF at q1
    cases hc : x.cls with
    | none => rw [hc] at q1; exact q1.elim
    | some k =>
      rw [hc] at q1
      simp only at q1
      split at q1
      · rename_i hi
        have hcl := wd.cls k hi
        rw [hK]
        cases hA : T.att k f with
        | no => rw [hA] at q1; exact q1.elim
        | fld =>
          rw [hA] at q1
          obtain ⟨z, hz, q2⟩ := okR.of q1
          have hno := wd.fld k f hi hA
          cases x with
          | fz d =>
            cases d with
            | obj k' fs =>
              cases hc
              obtain ⟨a, dx, vs, rfl, h2, h3⟩ := r1
              simp only [field, Option.map_eq_some_iff] at hz
              obtain ⟨d, hd, rfl⟩ := hz
              obtain ⟨w, hw, rw_⟩ := find_some h3 hd
              exact ⟨a, k, dx, vs, rfl, R1.le _ _ h2, hcl, .inl ⟨hno, w, hw, okR.fin q2 R1 rw_⟩⟩
            | _ => cases hc
          | tmp o => cases hz
          | vw i o =>
            cases o with
            | obj k' fs =>
              cases hc
              obtain ⟨B2, ⟨a, dx, vs, B', rfl, h2, h3, h4⟩, h5, _⟩ := r1
              simp only [field, Option.map_eq_some_iff] at hz
              obtain ⟨o, hd, rfl⟩ := hz
              obtain ⟨w, B3, hw, rw_, hB⟩ := find_someO h4 hd
              exact ⟨a, k, dx, vs, rfl, h2, hcl, .inl ⟨hno, w, hw, okR.fin q2 R1 (rv_at rw_ fun q hq => h5 q (by rw [h3]; exact List.mem_cons_of_mem _ (hB q hq)))⟩⟩
            | _ => cases hc
        | con d =>
          rw [hA] at q1
          simp only at q1
          split at q1
          · rename_i hl
            obtain ⟨hfl, uu, hcon⟩ := wd.con k f d hi hA
            have hq : Q (fv d) H1 := okR.fin q1 R1 (fv_rep hfl)
            cases x with
            | fz d =>
              cases d with
              | obj k' fs =>
                cases hc
                obtain ⟨a, dx, vs, rfl, h2, h3⟩ := r1
                exact ⟨a, k, dx, vs, rfl, R1.le _ _ h2, hcl, .inr (.inl ⟨_, uu, hcon, find_lookup h3 (by simpa [Val.lacks] using hl), hq⟩)⟩
              | _ => cases hc
            | tmp o =>
              cases o with
              | obj k' fs =>
                cases hc
                obtain ⟨⟨a, dx, vs, B', rfl, h2, h3, h4⟩, _⟩ := r1
                exact ⟨a, k, dx, vs, rfl, h2, hcl, .inr (.inl ⟨_, uu, hcon, find_lookupO h4 (by simpa [Val.lacks] using hl), hq⟩)⟩
              | _ => cases hc
            | vw i o =>
              cases o with
              | obj k' fs =>
                cases hc
                obtain ⟨B2, ⟨a, dx, vs, B', rfl, h2, h3, h4⟩, _⟩ := r1
                exact ⟨a, k, dx, vs, rfl, h2, hcl, .inr (.inl ⟨_, uu, hcon, find_lookupO h4 (by simpa [Val.lacks] using hl), hq⟩)⟩
              | _ => cases hc
          · exact q1.elim
        | prop g =>
          rw [hA] at q1
          simp only at q1
          obtain ⟨df, h1, h2⟩ := prop_sp fx hi hA R1 r1 q1
          obtain ⟨h3, h4⟩ := fx.prp k f g hi hA
          rw [hK] at h3
          obtain ⟨a, dx, vs, rfl, h5⟩ := isC R1.le hc r1
          exact ⟨a, k, dx, vs, rfl, h5, hcl, .inr (.inr ⟨g, df, A.pa k f, h1, h4, h3, h2⟩)⟩
      · exact q1.elim
  · subst ex
    obtain rfl : u = Value.ref a := rx
    rcases q with ⟨n, w, l, q⟩ | ⟨w, uu, n, l, q⟩ | ⟨g, df, pa, h1, h2, h3, q⟩
    · exact getattr_ok I1 ea cl n l fun u' s2 I2 ru => ⟨w, H1, I2, ru, q⟩
    · exact getcon_ok I1 ea cl n l fun s2 I2 => ⟨w, H1, I2, n.rel, q⟩
    · exact getprop_ok I1 ea cl h3 (hF g df h1) (hr.mono (by omega)) (fx.bd g df h1 h2) .nil passL q

/-! ### a method -/
theorem plain_meth {o : Expr} (h : plainX o = true) {m : Str} {ap p : Pos} {xs : List Expr} {env : PySem.Env} (hl : xs.length < 30) (hs : xs.all plainX = true) (hap : ap.endLine = p.line) : ∃ pl : Sem Bool, eval (.Call (.Attribute o m ap) xs [] p) env = (do
      let ov ← eval o env
      standAt ap.atName
      let (f, first) ← holding [ov] (getMethod ov m pl)
      callWith p f first (backTo p (starEach xs env)) (backToKw p (keywordEach [] env))) := by
  refine ⟨do return (← importBound o env).getD true, ?_⟩
  rw [PySem.arm_eval_Call, plain_base h]
  have hf : methodCallForm (xs.length + ([] : List Keyword).length) (backTo p (starEach xs env)) (backToKw p (keywordEach [] env)) = true := by
    unfold methodCallForm
    have h1 := plain_stars hs p env
    have h2 : (backTo p (starEach xs env)).all (!·.1) = true := by
      rw [List.all_eq_not_any_not]
      simp only [Bool.not_not, h1]
      rfl
    rw [h2]
    simpa [keywordEach, backToKw] using hl
  unfold methodCall calleeOf methodCallPos
  rw [hf]
  simp [hap]
end
end Pv

set_option Elab.async false
set_option linter.all false
set_option maxRecDepth 100000
/-! PvP: methods, new objects. -/
namespace Pv
open PySem PySem.Spec PyProof.Rows L2

section
variable {X : Cx} {c : Cfg} {T : Tbl} {P : Fn} {xo : Xs} {W0 : WX} {e e1 e2 e3 e4 o : Expr} {es xs : List Expr} {a b d g : E} {p p' p2 ap : Pos} {σ : _root_.L2.St} {F F' H H' : Hp} {L L' Lc : Ft} {Q : VK} {J : Info} {A : Ad} {v : Env} {as : List Ar} {os : List O} {vs : List V}
/-- what is seen of a receiver -/
def tM (X : Cx) (c : Cfg) (T : Tbl) (P : Fn) (J : Info) (A : Ad) (W0 : WX) (m : Nat) (σ : _root_.L2.St) (K : (f np : Nat) → V → Hp → Prop) : VK := fun u H1 => ∃ a C dx fs f df, u = .ref a ∧ H1 a = some (.ins (c.ca C) dx fs) ∧ Cls X.K (c.ca C) ∧ fs.lookup (c.an m) = none ∧ Meth X.K (c.ca C) (c.an m) (A.fa f) ∧ T.fn f = some df ∧ f ∈ J.fp ∧ K f df.np (.ref a) H1
theorem meth_run {ta : TE} {m : Nat} {el : EL} {pins : List (Addr × Obj)} {s : Shared} (wd : Wd c J T X.mg) (fx : Fx c J T P A X) (tk : Takes X W0) (hp : plainX o = true) (hl : xs.length < 30) (hs : xs.all plainX = true) (hap : ap.endLine = p.line) (ho : PE X o ta) (hA : PA X xs (tEL c T P xo W0 el)) (hn : xs = [] → el = .nil)
    (I : Inv X pins σ H s) (q : ta σ H (tM X c T P J A W0 m σ fun f np u H1 => tEL c T P xo W0 el σ H1 fun vs H2 => spF c P f np (u :: vs) H2 Q (WE W0 σ))) :
    wpAny (model X.prog X.w) X.A (eval (.Call (.Attribute o (c.an m) ap) xs [] p) X.env) (EP X pins σ Q) X.xe s := by
  obtain ⟨pl, ht⟩ := plain_meth (o := o) (m := c.an m) (env := X.env) hp hl hs hap
  obtain ⟨k, hr, hF⟩ := fx.rm
  refine PySem.W.methodCall_KW (pl := pl) (thn (ho.run pins s σ H _ I q) fun u s1 ⟨x, H1, I1, rx, a, C, dx, fs, f, df, ex, ea, cl, l, hm, hT, hpl, q⟩ => ?_) ht
  subst ex
  obtain rfl : u = Value.ref a := rx
  refine getmeth_ok I1 ea cl hm l ?_
  cases xs with
  | nil =>
    cases hn rfl
    obtain ⟨F, L, v, R0, q⟩ := q
    have q : spF c P f df.np [.ref a] H1 Q (WE W0 σ) := q F H1 L [] R0 Step.refl New.nil [] rfl
    exact PySem.W.callWith_K0 (first := [.ref a]) I1.kIn hm.kp (run_fnS (E := fun σ => WE W0 σ) (us := [.ref a]) (vs := [.ref a]) (hF f df hT) (hr.mono (by omega)) (fx.bd f df hT hpl) (passAt tk σ) I1 (.cons rfl .nil) q)
  | cons e xs =>
    have hs : plainX e = true ∧ xs.all plainX = true := by simpa using hs
    refine PySem.W.callWith_K (first := [.ref a]) (h₀ := X.base) I1.ok.mod.kin hm.kp (thn (hA.run p pins s1 σ H1 _ I1 q) fun us s2 ⟨vs, H2, I2, r, q2⟩ => ⟨I2.kIn, ?_⟩) (plain_star hs.1 _ _) (plain_stars hs.2 _ _)
    exact run_fnS (E := fun σ => WE W0 σ) (us := .ref a :: us) (vs := .ref a :: vs) (hF f df hT) (hr.mono (by omega)) (fx.bd f df hT hpl) (passAt tk σ) I2 (.cons rfl r) q2
/-- the receiver's method -/
theorem mthOf_own {m f : Nat} {ar : Ar} {o : O} {u : V} {B : List Addr} (wd : Wd c J T X.mg) (fx : Fx c J T P A X) (hK : X.K = c.K) (le : Same F H) (h : ar.mthOf T m v = some f) (hg : ar.get v = some o) (ow : Own c F H o u B) :
    ∃ a C dx fs df, u = .ref a ∧ H a = some (.ins (c.ca C) dx fs) ∧ Cls X.K (c.ca C) ∧ fs.lookup (c.an m) = none ∧ Meth X.K (c.ca C) (c.an m) (A.fa f) ∧ T.fn f = some df ∧ f ∈ J.fp := by
  have fin : ∀ C, (ar.cls v) = some C → ∃ df, Cls X.K (c.ca C) ∧ Meth X.K (c.ca C) (c.an m) (A.fa f) ∧ T.fn f = some df ∧ f ∈ J.fp := fun C hC => by
    unfold Ar.mthOf at h
    split at h
    · rw [hC] at h
      simp only [Option.bind_some] at h
      split at h
      · rename_i hi
        obtain ⟨h1, h2, df, h3⟩ := fx.mth C m f hi h
        exact ⟨df, by rw [hK]; exact wd.cls C hi, h1, h3, h2⟩
      · cases h
    · cases h
  have hpl : ar.plainM m v = true := by
    unfold Ar.mthOf at h
    split at h
    · assumption
    · cases h
  cases ar with
  | val d =>
    cases hg
    cases d with
    | obj C fs =>
      obtain ⟨⟨a, dx, vs, rfl, h2, h3⟩, _⟩ := ow
      obtain ⟨df, f1, f2, f3, f4⟩ := fin C rfl
      exact ⟨a, C, dx, vs, df, rfl, le _ _ h2, f1, find_lookup h3 (by simpa [Ar.plainM] using hpl), f2, f3, f4⟩
    | _ => cases hpl
  | ref i =>
    have hg : getS v i = some o := hg
    simp only [Ar.plainM, hg] at hpl
    cases o with
    | fz d =>
      cases d with
      | obj C fs =>
        obtain ⟨⟨a, dx, vs, rfl, h2, h3⟩, _⟩ := ow
        obtain ⟨df, f1, f2, f3, f4⟩ := fin C (by simp [Ar.cls, hg])
        exact ⟨a, C, dx, vs, df, rfl, le _ _ h2, f1, find_lookup h3 (by simpa using hpl), f2, f3, f4⟩
      | _ => cases hpl
    | lst _ => cases hpl
    | obj C fs =>
      obtain ⟨a, dx, vs, B', rfl, h2, h3, h4⟩ := ow
      obtain ⟨df, f1, f2, f3, f4⟩ := fin C (by simp [Ar.cls, hg])
      exact ⟨a, C, dx, vs, df, rfl, h2, f1, find_lookupO h4 (by simpa using hpl), f2, f3, f4⟩
/-- o.m(..), o a value that stays -/
theorem s_methV {m : Nat} {el : EL} {y : Str} (wd : Wd c J T X.mg) (fx : Fx c J T P A X) (tk : Takes X W0) (hK : X.K = c.K) (hy : y = c.an m) (hp : plainX o = true) (hl : xs.length < 30) (hs : xs.all plainX = true) (hap : ap.endLine = p.line) (ho : PE X o (tE c T P xo W0 a)) (hA : PA X xs (tEL c T P xo W0 el)) (hn : xs = [] → el = .nil) :
    PE X (.Call (.Attribute o y ap) xs [] p) (tE c T P xo W0 (.meth m (.cons a el))) := by
  subst hy
  refine ⟨fun pins s σ H Q I ⟨F, L, v, R0, q⟩ => meth_run wd fx tk hp hl hs hap ho hA hn I ?_⟩
  simp only [ev] at q
  have pp : ((!(E.meth m (.cons a el)).pur) = false → a.pur = true) ∧ ((!(E.meth m (.cons a el)).pur) = false → el.pur = true) := by
    simp only [E.pur, EL.pur]
    cases a.pur <;> cases el.pur <;> simp
  refine bindE R0 q pp.1 fun x v1 F1 H1 L1 u B R1 s1 r1 q1 n1 z1 => ?_
  cases hx : x.fin with
  | none => rw [hx] at q1; exact q1.elim
  | some d =>
    rw [hx] at z1
    obtain ⟨F2, R2, s2, k2, r2⟩ := fin_rep hx R1 s1 r1 n1
    have z2 := z1.step (s2.mono fun z => by rw [pp.1 z]; rfl)
    cases hm : (Ar.val d).mthOf T m v1 with
    | none => simp only [hm] at z2; exact z2.elim
    | some f =>
      simp only [hm] at z2
      obtain ⟨l, C, dx, fs, df, rfl, h1, h2, h3, h4, h5, h6⟩ := mthOf_own wd fx hK R2.le hm rfl (⟨r2, rfl⟩ : Own c F2 H1 (.fz d) u [])
      refine ⟨l, C, dx, fs, f, df, rfl, h1, h2, h3, h4, h5, h6, ?_⟩
      refine bindA R2 z2 pp.2 fun as v3 F3 H3 L3 vs R3 s3 r3 q3 he => ?_
      refine callF_sp (as := .val d :: as) fx h5 R3 ⟨.ref l, vs, rfl, Rep.mono s3.f d _ r2, r3⟩ (fun z k i => ?_) q3
      cases k with
      | zero => simp [Ar.slot]
      | succ k =>
        have := evs_pur (pp.2 z) he k i
        simpa using this
/-- x.m(..), x handed in by reference -/
theorem s_methR {m i : Nat} {el : EL} {y x : Str} (wd : Wd c J T X.mg) (fx : Fx c J T P A X) (tk : Takes X W0) (hK : X.K = c.K) (hy : y = c.an m) (hN : X.N[i]? = some x) (hv : Vis X.env.scope x) (hd : (x == ("__debug__" : Str)) = false) (hcd : (x == ("__classdict__" : Str)) = false) (hl : xs.length < 30) (hs : xs.all plainX = true) (hap : ap.endLine = p.line) (hA : PA X xs (tEL c T P xo W0 el)) (hn : xs = [] → el = .nil) :
    PE X (.Call (.Attribute (.Name x p') y ap) xs [] p) (tE c T P xo W0 (.meth m (.ref i el))) := by
  subst hy
  refine ⟨fun pins s σ H Q I ⟨F, L, v, R0, q⟩ => meth_run wd fx tk rfl hl hs hap (pe_var hN hv hd hcd) hA hn I ?_⟩
  simp only [ev] at q
  cases hm : (Ar.ref i).mthOf T m v with
  | none => rw [hm] at q; exact q.elim
  | some f =>
    rw [hm] at q
    have hg : ∃ o, getS v i = some o := by
      cases g : getS v i with
      | some o => exact ⟨o, rfl⟩
      | none =>
        have : (Ar.ref i).plainM m v = false := by
          simp only [Ar.plainM, g]
        unfold Ar.mthOf at hm
        rw [this] at hm
        cases hm
    obtain ⟨o, hg⟩ := hg
    obtain ⟨u, hu, ow⟩ := R0.slot i o hg
    obtain ⟨l, C, dx, fs, df, rfl, h1, h2, h3, h4, h5, h6⟩ := mthOf_own wd fx hK R0.le hm hg ow
    refine ⟨.ref l, hu, l, C, dx, fs, f, df, rfl, h1, h2, h3, h4, h5, h6, ?_⟩
    have pp : (!(E.meth m (.ref i el)).pur) = true := rfl
    refine bindA R0 q (fun z => by rw [pp] at z; cases z) fun as v3 F3 H3 L3 vs R3 s3 r3 q3 he => ?_
    exact callF_sp (as := .ref i :: as) fx h5 R3 ⟨.ref l, vs, rfl, hu, r3⟩ (fun z => by rw [pp] at z; cases z) q3
end
end Pv

set_option Elab.async false
set_option linter.all false
set_option maxRecDepth 100000
/-! PvQ: new objects, keywords. -/
namespace Pv
open PySem PySem.Spec PyProof.Rows L2

section
variable {X : Cx} {c : Cfg} {T : Tbl} {P : Fn} {xo : Xs} {W0 : WX} {e e1 e2 e3 e4 o : Expr} {es xs : List Expr} {a b d g : E} {p p' p2 ap : Pos} {σ : _root_.L2.St} {F F' H H' : Hp} {L L' Lc : Ft} {Q : VK} {J : Info} {A : Ad} {v : Env} {as : List Ar} {os : List O} {vs : List V} {sl : List (Option Nat)}
def consL (B : List Addr) (L : Ft) : Ft
  | 0 => B
  | k + 1 => L k
theorem Hand.cons {o : O} {u : V} {B : List Addr} (I : Hand c F H L Lc σ sl os vs) (ow : Own c F H o u B) (fr : Free F L B) (dj : ∀ k, ∀ q ∈ Lc k, q ∉ B) : Hand c F H L (consL B Lc) σ (none :: sl) (o :: os) (u :: vs) := by
  refine ⟨by rw [List.length_cons, List.length_cons, I.l1], by rw [List.length_cons, List.length_cons, I.l2], fun k o' h => ?_, fun k i h => ?_, fun k h => ?_, fun k h => ?_, fun i j q hi hj => ?_, fun j k i h1 h2 => ?_⟩
  · cases k with
    | zero => simp at h; subst h; exact ⟨u, rfl, ow⟩
    | succ k => exact I.own k o' (by simpa using h)
  · cases k with
    | zero => simp at h
    | succ k => exact I.ref k i (by simpa using h)
  · cases k with
    | zero => exact fr
    | succ k => exact I.tmp k (by simpa using h)
  · cases k with
    | zero => simp at h
    | succ k => exact I.out k (by simpa using h)
  · cases i with
    | zero =>
      cases j with
      | zero => rfl
      | succ j => exact absurd hi (dj j q hj)
    | succ i =>
      cases j with
      | zero => exact absurd hj (dj i q hi)
      | succ j => rw [I.dj i j q hi hj]
  · cases j with
    | zero => simp at h1
    | succ j =>
      cases k with
      | zero => simp at h2
      | succ k => rw [I.one j k i (by simpa using h1) (by simpa using h2)]
theorem lcOf_mem {L : Ft} {as : List Ar} {k : Nat} {q : Addr} (h : q ∈ lcOf L as k) : ∃ i, q ∈ L i := by
  unfold lcOf at h
  split at h
  · exact ⟨_, h⟩
  · cases h
theorem Hand.mono {F1 H1 : Hp} (I : Hand c F H L Lc σ sl os vs) (hF : Same F F1) (hH : Same H H1) (hf : ∀ k, ∀ p ∈ Lc k, F1 p = none) : Hand c F1 H1 L Lc σ sl os vs := by
  refine ⟨I.l1, I.l2, fun k o h => ?_, I.ref, fun k h => ⟨(I.tmp k h).nd, hf k, (I.tmp k h).l⟩, I.out, I.dj, I.one⟩
  obtain ⟨u, h1, h2⟩ := I.own k o h
  exact ⟨u, h1, Own.keep hF o u _ (fun p x _ hx => hH p x hx) h2⟩
/-- what __init__ promises, at the new object -/
theorem newF_sp {k f : Nat} {df : Def} {e : Bool} {F1 H1 : Hp} {L1 : Ft} {v1 : Env} {W : XW} {x dx : Addr} (fx : Fx c J T P A X) (hi : T.ini k = some f) (hT : T.fn f = some df) (R1 : Rel c xo F1 H1 L1 σ v1) (ra : Args c F1 σ as vs) (he : e = false → ∀ (k i : Nat), (as.map Ar.slot)[k]? ≠ some (some i))
    (q : okR c xo e F1 H1 L1 σ (newF T P k as v1) (vQ c Q) W) (hx : H1 x = none) (hd : H1 dx = none) (hne : dx ≠ x) : spF c P f df.np (.ref x :: vs) (upd (upd H1 dx (.own x)) x (.ins (c.ca k) dx [])) (fun v H2 => v = .non ∧ Q (.ref x) H2) W := by
  unfold newF at q
  rw [hi] at q
  cases hg : getAll v1 as with
  | none => rw [hg] at q; exact q.elim
  | some os =>
    rw [hg] at q
    have q : okR c xo e F1 H1 L1 σ (if nodupN (as.filterMap Ar.slot) then ofNew k (as.map Ar.slot) v1 (P f (.obj k [] :: os)) else R.bad) (vQ c Q) W := q
    split at q
    · rename_i hn
      have R2 := R1.newH (o := .own x) hd
      have hx2 : (upd H1 dx (.own x)) x = none := by rw [upd_ne (Ne.symm hne)]; exact hx
      have R3 := R2.newH (o := .ins (c.ca k) dx []) hx2
      have s3 : Step e F1 H1 L1 F1 (upd (upd H1 dx (.own x)) x (.ins (c.ca k) dx [])) L1 := Step.trans (Step.newH hd) (Step.newH hx2)
      have I0 := args_hand R3 hg ra hn
      have hxL : ∀ i, x ∉ L1 i := fun i h => by
        obtain ⟨y, hy⟩ := R1.mem h
        rw [hx] at hy; cases hy
      have fr : Free F1 L1 [x] := by
        refine ⟨List.nodup_cons.mpr ⟨List.not_mem_nil, List.nodup_nil⟩, fun q hq => ?_, fun i q hq => ?_⟩
        · rcases List.mem_cons.mp hq with rfl | hq
          · exact R1.le.free hx
          · cases hq
        · rcases List.mem_cons.mp hq with rfl | hq
          · exact hxL i
          · cases hq
      have I : Hand c F1 (upd (upd H1 dx (.own x)) x (.ins (c.ca k) dx [])) L1 (consL [x] (lcOf L1 as)) σ (none :: as.map Ar.slot) (.obj k [] :: os) (.ref x :: vs) :=
        I0.cons (⟨x, dx, [], [], rfl, upd_same, rfl, rfl, rfl⟩ : Own c F1 _ (.obj k []) (.ref x) [x]) fr fun k q hq hq2 => by
          obtain ⟨i, hi⟩ := lcOf_mem hq
          rcases List.mem_cons.mp hq2 with rfl | hq2
          · exact hxL i hi
          · cases hq2
      have he' : e = false → ∀ (k i : Nat), (none :: as.map Ar.slot)[k]? ≠ some (some i) := fun z k i h => by
        cases k with
        | zero => simp at h
        | succ k => exact he z k i (by simpa using h)
      have ht : ∀ (k : Nat), (none :: as.map Ar.slot)[k]? = some none → ∀ p ∈ consL [x] (lcOf L1 as) k, H1 p = none := fun k hk p hp => by
        cases k with
        | zero =>
          rcases List.mem_cons.mp hp with rfl | hp
          · exact hx
          · cases hp
        | succ k =>
          rw [show consL [x] (lcOf L1 as) (k + 1) = lcOf L1 as k from rfl, args_tmp (by simpa using hk)] at hp
          cases hp
      have h : okC c F1 (upd (upd H1 dx (.own x)) x (.ins (c.ca k) dx [])) (consL [x] (lcOf L1 as)) (.ref x :: vs) (P f (.obj k [] :: os)) (fun v H2 => v = .non ∧ Q (.ref x) H2) W := by
        have ol : ∀ {outs : List (Option O)} {F' H' : Hp} {L' : Ft}, Rel c .no F' H' L' ((V.ref x :: vs).map some) outs → outs.length = (none :: as.map Ar.slot).length := fun R2 => by
          rw [← R2.len, List.length_map, I.l2]
        cases hP : P f (.obj k [] :: os) with
        | ok o outs =>
          rw [hP] at q
          intro F' H' L' u B R4 s4 ow fr4 n4
          cases o with
          | fz d =>
            cases d with
            | non =>
              cases outs with
              | nil => exact q.elim
              | cons o' outs =>
                cases o' with
                | none => exact q.elim
                | some o' =>
                  obtain ⟨L2, R5, s5, _, k2⟩ := I.back R3 s3 (ol R4) he' R4 s4 ht
                  obtain ⟨fr5, n5⟩ := k2 0 rfl
                  obtain ⟨u', h1, h2⟩ := R4.slot 0 o' rfl
                  have : u' = .ref x := by
                    simp at h1
                    exact h1.symm
                  subst this
                  refine ⟨ow.1, q F' H' L2 (L' 0) R5 s5 n5 (.ref x) ?_⟩
                  cases o' with
                  | fz d => exact h2.1
                  | lst _ => exact ⟨h2, fr5, trivial⟩
                  | obj _ _ => exact ⟨h2, fr5, trivial⟩
            | _ => exact q.elim
          | _ => exact q.elim
        | exc y outs =>
          rw [hP] at q
          intro F' H' L' cls d R4 s4 rx
          cases outs with
          | nil =>
            have := ol R4
            simp at this
          | cons o' outs =>
            obtain ⟨L2, R5, s5, _⟩ := I.back R3 s3 (ol R4) he' R4 s4 ht
            exact q F' H' L2 cls d R5 s5 rx
        | bad => rw [hP] at q; exact q
      obtain ⟨d', h1, h2⟩ := fx.lv f _ (okC_ne h)
      rw [hT] at h1
      cases h1
      exact ⟨F1, consL [x] (lcOf L1 as), .obj k [] :: os, by rw [I.l2, ← I.l1]; exact h2, h2, I.rel R3, h⟩
    · exact q.elim
/-- as run_make, at one state of the slots -/
theorem run_makeS {CX : CXT} {k n : Nat} {C f : Addr} {fd : FuncData} {ps ks : List Str} {sp : Sp} {E : XK} {g : List Value → List Value → List Value} {gV : List V → List V → List V} {pins : List (Addr × Obj)} {s : Shared} {us ws : List Value} {vs zs : List V} (M : Mk X.K C f) (F : FnOk X.prog X.w X.K X.mg X.base CX k f fd ps sp) (hr : Room (k + 1) X.A)
    (hb : KBn X.K fd ps (n + 1) ks g gV) (hx : PassesAt CX X σ E) (I : Inv X pins σ H s) (r : Vals vs us) (rz : Vals zs ws) (l1 : vs.length = n) (l2 : zs.length = ks.length)
    (h : ∀ x dx, H x = none → H dx = none → dx ≠ x → sp (gV (.ref x :: vs) zs) (upd (upd H dx (.own x)) x (.ins C dx [])) (fun v H2 => v = .non ∧ Q (.ref x) H2) E) :
    wpAny (model X.prog X.w) X.A (call (.ref C) us (ks.zip ws)) (EP X pins σ Q) X.xe s := by
  have hq := h (s.heap.objs.size + 1) s.heap.objs.size (I.hok.fresh (Nat.le_succ _)) (I.hok.fresh (Nat.le_refl _)) (Nat.ne_of_lt (Nat.lt_succ_self _))
  have I2 := Inv.made (C := C) I
  have r1 : Vals (V.ref (s.heap.objs.size + 1) :: vs) (Value.ref (s.heap.objs.size + 1) :: us) := .cons rfl r
  have r2 := hb.rel r1 rz
  have n1 : (Value.ref (s.heap.objs.size + 1) :: us).length = n + 1 := by
    rw [List.length_cons, ← r.length, l1]
  refine wpAny_call (make_map (f := f) I.kIn M.makes M.init (beq_iff_eq.mp M.fn) (codeAny_mono (F.run _ X.stack _ _ ⟨Value.ref (s.heap.objs.size + 1) :: us, ks.zip ws⟩ (g (Value.ref (s.heap.objs.size + 1) :: us) ws) _ _ E (hr.make C us (ks.zip ws))
    (I2.env0.make C us (ks.zip ws)) (hb.to _ (Value.ref (s.heap.objs.size + 1) :: us) ws I2.kIn n1 (rz.length.symm.trans l2)) r2 hq) fun r s' hq' => ?_))
  cases r with
  | error e => exact hx pins _ _ e s' I2 hq'
  | ok fl =>
    cases fl with
    | ret u =>
      obtain ⟨v, H', I3, rv, ev, q3⟩ := I2.after hq'
      subst ev
      exact ⟨rv, ⟨V.ref (s.heap.objs.size + 1), H', I3, rfl, q3⟩⟩
    | next => exact False.elim hq'
    | brk => exact False.elim hq'
    | cont => exact False.elim hq'
theorem run_makeP {CX : CXT} {k : Nat} {C f : Addr} {fd : FuncData} {ps : List Str} {sp : Sp} {E : XK} {pins : List (Addr × Obj)} {s : Shared} {us : List Value} {vs : List V} (M : Mk X.K C f) (F : FnOk X.prog X.w X.K X.mg X.base CX k f fd ps sp) (hr : Room (k + 1) X.A)
    (hb : Binds X.K fd ps []) (hx : PassesAt CX X σ E) (I : Inv X pins σ H s) (r : Vals vs us)
    (h : ∀ x dx, H x = none → H dx = none → dx ≠ x → sp (.ref x :: vs) (upd (upd H dx (.own x)) x (.ins C dx [])) (fun v H2 => v = .non ∧ Q (.ref x) H2) E) :
    wpAny (model X.prog X.w) X.A (call (.ref C) us) (EP X pins σ Q) X.xe s := by
  have hq := h (s.heap.objs.size + 1) s.heap.objs.size (I.hok.fresh (Nat.le_succ _)) (I.hok.fresh (Nat.le_refl _)) (Nat.ne_of_lt (Nat.lt_succ_self _))
  have I2 := Inv.made (C := C) I
  have r2 : Vals (V.ref (s.heap.objs.size + 1) :: vs) (Value.ref (s.heap.objs.size + 1) :: us) := .cons rfl r
  have hl : (Value.ref (s.heap.objs.size + 1) :: us).length = ps.length := by
    rw [← r2.length]
    exact F.len _ _ _ _ hq
  have b := hb { s with heap := (s.heap.push PySem.W.emptyDict).push (PySem.W.instObj C s.heap.objs.size) } (Value.ref (s.heap.objs.size + 1) :: us) I2.kIn (by rw [List.append_nil]; exact hl)
  rw [List.append_nil] at b
  refine wpAny_call (make_map (f := f) I.kIn M.makes M.init (beq_iff_eq.mp M.fn) (codeAny_mono (F.run _ X.stack _ _ ⟨Value.ref (s.heap.objs.size + 1) :: us, []⟩ (Value.ref (s.heap.objs.size + 1) :: us) _ _ E (hr.make C us [])
    (I2.env0.make C us []) b r2 hq) fun r s' hq' => ?_))
  cases r with
  | error e => exact hx pins _ _ e s' I2 hq'
  | ok fl =>
    cases fl with
    | ret u =>
      obtain ⟨v, H', I3, rv, ev, q3⟩ := I2.after hq'
      subst ev
      exact ⟨rv, ⟨V.ref (s.heap.objs.size + 1), H', I3, rfl, q3⟩⟩
    | next => exact False.elim hq'
    | brk => exact False.elim hq'
    | cont => exact False.elim hq'
/-- C(..) -/
theorem s_new {k : Nat} {el : EL} {x : Str} (wd : Wd c J T X.mg) (fx : Fx c J T P A X) (tk : Takes X W0) (hg : Gl X x) (hd : (x == ("__debug__" : Str)) = false) (hx : x = J.cnm k) (hks : k ∈ J.ks) (hkp : k ∈ J.kp) (hp : (e :: xs).all plainX = true) (hA : PA X (e :: xs) (tEL c T P xo W0 el)) (hini : (T.ini k).isSome = true) :
    PE X (.Call (.Name x p') (e :: xs) [] p) (tE c T P xo W0 (.new k el)) := by
  have hp : plainX e = true ∧ xs.all plainX = true := by simpa using hp
  obtain ⟨n, hr, hF⟩ := fx.rm
  obtain ⟨f, hf⟩ := Option.isSome_iff_exists.mp hini
  obtain ⟨M, df, hT⟩ := fx.ini k f hf
  refine ⟨fun pins s σ H Q I ⟨F, L, v, R0, q⟩ => ?_⟩
  simp only [ev] at q
  refine wpAny_Call_Name_kw (ld_glob I hg (by rw [hx]; exact wd.clsG k hks) ?_ hd)
  refine PySem.W.callWith_K (h₀ := X.base) I.ok.mod.kin M.kp (thn (hA.run p pins s σ H (fun vs H1 => ∀ x dx, H1 x = none → H1 dx = none → dx ≠ x → spF c P f df.np (.ref x :: vs) (upd (upd H1 dx (.own x)) x (.ins (c.ca k) dx [])) (fun v H2 => v = .non ∧ Q (.ref x) H2) (WE W0 σ)) I
    (bindA R0 q (fun z => not_not z) fun as v1 F1 H1 L1 vs R1 s1 r1 q1 hq x dx h1 h2 h3 => ?_)) fun us s1 ⟨vs, H1, I1, r, q⟩ => ⟨I1.kIn, ?_⟩) (plain_star hp.1 _ _) (plain_stars hp.2 _ _)
  · exact newF_sp fx hf hT R1 r1 (fun z => evs_pur (not_not z) hq) q1 h1 h2 h3
  · exact run_makeP M (hF f df hT) hr (fx.bd f df hT (fx.inp k f hf hkp)) (passAt tk σ) I1 r q
/-! ### keywords -/
theorem pk_imp {kws : List Keyword} {t t' : TA} (h : PK X kws t) (k : ∀ σ H Q, t' σ H Q → t σ H Q) : PK X kws t' := ⟨fun pos pins s σ H Q I q => h.run pos pins s σ H Q I (k σ H Q q)⟩
theorem k_nil : PK X [] (tEL c T P xo W0 .nil) := pk_imp pk_nil fun σ H Q ⟨F, L, v, R0, q⟩ => q F H L [] R0 Step.refl New.nil [] rfl
theorem k_cons {el : EL} {n : Option Str} {kws : List Keyword} (ha : PE X e (tE c T P xo W0 a)) (hb : PK X kws (tEL c T P xo W0 el)) : PK X (⟨n, e, p⟩ :: kws) (tEL c T P xo W0 (.cons a el)) := by
  refine pk_imp (pk_cons ha hb) fun σ H Q ⟨F, L, v, R0, q⟩ => ?_
  simp only [evs] at q
  have pp : ((!(EL.cons a el).pur) = false → a.pur = true) ∧ ((!(EL.cons a el).pur) = false → el.pur = true) := by
    simp only [EL.pur]
    cases a.pur <;> cases el.pur <;> simp
  refine bindE R0 q pp.1 fun x v1 F1 H1 L1 u B R1 s1 r1 q1 n1 z1 => ?_
  cases hx : x.fin with
  | none => rw [hx] at q1; exact q1.elim
  | some d =>
    rw [hx] at z1
    obtain ⟨F2, R2, s2, k2, r2⟩ := fin_rep hx R1 s1 r1 n1
    have z2 := z1.step (s2.mono fun z => by rw [pp.1 z]; rfl)
    refine bindA R2 z2 pp.2 fun as v3 F3 H3 L3 vs R3 s3 r3 q3 _ => ?_
    exact q3 F3 H3 L3 [] R3 Step.refl New.nil (u :: vs) ⟨u, vs, rfl, Rep.mono s3.f d u r2, r3⟩
theorem k_ref {i : Nat} {x : Str} {el : EL} {n : Option Str} {kws : List Keyword} (hN : X.N[i]? = some x) (hv : Vis X.env.scope x) (hd : (x == ("__debug__" : Str)) = false) (hcd : (x == ("__classdict__" : Str)) = false) (hb : PK X kws (tEL c T P xo W0 el)) : PK X (⟨n, .Name x p, p'⟩ :: kws) (tEL c T P xo W0 (.ref i el)) := by
  refine pk_imp (pk_cons (pe_var hN hv hd hcd) hb) fun σ H Q ⟨F, L, v, R0, q⟩ => ?_
  simp only [evs] at q
  cases g : getS v i with
  | none => rw [g] at q; exact q.elim
  | some o =>
    rw [g] at q
    obtain ⟨u, hu, _⟩ := R0.slot i o g
    refine ⟨u, hu, bindA R0 q (fun z => by cases z) fun as v3 F3 H3 L3 vs R3 s3 r3 q3 _ => ?_⟩
    exact q3 F3 H3 L3 [] R3 Step.refl New.nil (u :: vs) ⟨u, vs, rfl, hu, r3⟩
theorem kws_names : ∀ {kws : List Keyword} {ks : List Str} {ys : List Expr} (env : PySem.Env) (p : Pos), kwsOf kws = some (ks, ys) → (backToKw p (keywordEach kws env)).all (·.1.isSome) = true ∧ (backToKw p (keywordEach kws env)).filterMap (·.1) = ks ∧ (backToKw p (keywordEach kws env)).any (·.1.isNone) = false ∧ ks.length = ys.length ∧ kws.length = ks.length
  | [], ks, ys, env, p, h => by cases h; exact ⟨rfl, rfl, rfl, rfl, rfl⟩
  | ⟨none, _, _⟩ :: _, ks, ys, env, p, h => by cases h
  | ⟨some x, e, q⟩ :: kws, ks, ys, env, p, h => by
    simp only [kwsOf, Option.map_eq_some_iff] at h
    obtain ⟨⟨k2, y2⟩, h1, h2⟩ := h
    cases h2
    obtain ⟨i1, i2, i3, i4, i5⟩ := kws_names env p h1
    refine ⟨?_, ?_, ?_, by rw [List.length_cons, List.length_cons, i4], by rw [List.length_cons, List.length_cons, i5]⟩
    · unfold backToKw at i1 ⊢
      simpa [keywordEach] using i1
    · unfold backToKw at i2 ⊢
      simpa [keywordEach] using i2
    · unfold backToKw at i3 ⊢
      simpa [keywordEach] using i3
theorem args_app {as bs : List Ar} {us vs : List V} : Args c F σ as us → Args c F σ bs vs → Args c F σ (as ++ bs) (us ++ vs) := by
  intro h1 h2
  induction as generalizing us with
  | nil => cases (show us = _ from h1); exact h2
  | cons a as ih =>
    cases a with
    | val d =>
      obtain ⟨u, r, rfl, q1, q2⟩ := h1
      exact ⟨u, _, rfl, q1, ih q2⟩
    | ref i =>
      obtain ⟨u, r, rfl, q1, q2⟩ := h1
      exact ⟨u, _, rfl, q1, ih q2⟩
theorem args_perm {as : List Ar} {vs rs : List V} (h : Args c F σ as vs) : ∀ {pm : List Pm} {as' : List Ar}, perm as pm = some as' → ∀ {rs : List V}, permV vs pm = some rs → Args c F σ as' rs
  | [], as', e1, rs, e2 => by
    cases e1
    cases e2
    rfl
  | .a k :: pm, as', e1, rs, e2 => by
    simp only [perm, permV] at e1 e2
    cases ha : as[k]? with
    | none => rw [ha] at e1; cases e1
    | some a =>
      obtain ⟨u, hu, hr⟩ := args_get h ha
      rw [ha] at e1
      rw [hu] at e2
      simp only [Option.bind_some, Option.map_eq_some_iff] at e1 e2
      obtain ⟨as2, q1, rfl⟩ := e1
      obtain ⟨rs2, q2, rfl⟩ := e2
      have := args_perm (rs := rs) h q1 q2
      cases a with
      | val d => exact ⟨u, rs2, rfl, hr, this⟩
      | ref i => exact ⟨u, rs2, rfl, hr, this⟩
  | .d d :: pm, as', e1, rs, e2 => by
    simp only [perm, permV] at e1 e2
    split at e2
    · rename_i hf
      simp only [Option.map_eq_some_iff] at e1 e2
      obtain ⟨as2, q1, rfl⟩ := e1
      obtain ⟨rs2, q2, rfl⟩ := e2
      exact ⟨fv d, rs2, rfl, fv_rep hf, args_perm (rs := rs) h q1 q2⟩
    · cases e2
/-- arguments that change nothing: as told by name -/
theorem perm_pur {as as' : List Ar} (h : ∀ (k i : Nat), (as.map Ar.slot)[k]? ≠ some (some i)) : ∀ {pm : List Pm} {as' : List Ar}, perm as pm = some as' → ∀ (k i : Nat), (as'.map Ar.slot)[k]? ≠ some (some i)
  | [], as', e1, k, i => by
    cases e1
    simp
  | .a j :: pm, as', e1, k, i => by
    simp only [perm] at e1
    cases ha : as[j]? with
    | none => rw [ha] at e1; cases e1
    | some a =>
      rw [ha] at e1
      simp only [Option.bind_some, Option.map_eq_some_iff] at e1
      obtain ⟨as2, q1, rfl⟩ := e1
      cases k with
      | zero =>
        have := h j i
        rw [List.getElem?_map, ha] at this
        simpa using this
      | succ k =>
        have := perm_pur (as' := as') h q1 k i
        simpa using this
  | .d d :: pm, as', e1, k, i => by
    simp only [perm, Option.map_eq_some_iff] at e1
    obtain ⟨as2, q1, rfl⟩ := e1
    cases k with
    | zero => simp [Ar.slot]
    | succ k =>
      have := perm_pur (as' := as') h q1 k i
      simpa using this
theorem app_pur {as bs : List Ar} (h1 : ∀ (k i : Nat), (as.map Ar.slot)[k]? ≠ some (some i)) (h2 : ∀ (k i : Nat), (bs.map Ar.slot)[k]? ≠ some (some i)) (k i : Nat) : ((as ++ bs).map Ar.slot)[k]? ≠ some (some i) := by
  rw [List.map_append, List.getElem?_append]
  split
  · exact h1 k i
  · exact h2 _ i
/-- C(.., k = ..) -/
theorem s_newk {k : Nat} {pm : List Pm} {el ek : EL} {x : Str} {kws : List Keyword} {ks : List Str} {ys : List Expr} (wd : Wd c J T X.mg) (fx : Fx c J T P A X) (tk : Takes X W0) (hg : Gl X x) (hd : (x == ("__debug__" : Str)) = false) (hx : x = J.cnm k) (hks : k ∈ J.ks) (hp : (e :: xs).all plainX = true)
    (hA : PA X (e :: xs) (tEL c T P xo W0 el)) (hB : PK X kws (tEL c T P xo W0 ek)) (hkw : kwsOf kws = some (ks, ys)) (hmem : (k, (e :: xs).length, ks, pm) ∈ J.kc) (hn1 : ∀ as v v', evs T P xo.e el v = .ok as v' → as.length = (e :: xs).length) (hn2 : ∀ as v v', evs T P xo.e ek v = .ok as v' → as.length = kws.length) :
    PE X (.Call (.Name x p') (e :: xs) kws p) (tE c T P xo W0 (.newk k pm el ek)) := by
  have hp : plainX e = true ∧ xs.all plainX = true := by simpa using hp
  obtain ⟨n, hr, hF⟩ := fx.rm
  obtain ⟨hini, hkb⟩ := fx.kbc _ hmem
  obtain ⟨f, hf⟩ := Option.isSome_iff_exists.mp hini
  obtain ⟨M, df, hT⟩ := fx.ini k f hf
  obtain ⟨g, gV, hb, hperm⟩ := hkb f hf
  obtain ⟨k1, k2, k3, k4, k5⟩ := kws_names X.env p hkw
  refine ⟨fun pins s σ H Q I ⟨F, L, v, R0, q⟩ => ?_⟩
  simp only [ev] at q
  have pp : ((!(E.newk k pm el ek).pur) = false → el.pur = true) ∧ ((!(E.newk k pm el ek).pur) = false → ek.pur = true) := by
    simp only [E.pur]
    cases el.pur <;> cases ek.pur <;> simp
  refine wpAny_Call_Name_kw (ld_glob I hg (by rw [hx]; exact wd.clsG k hks) ?_ hd)
  refine PySem.W.callWith_KW (h₀ := X.base) I.ok.mod.kin M.kp k1 (thn (hA.run p pins s σ H (fun vs H1 => vs.length = (e :: xs).length ∧ tEL c T P xo W0 ek σ H1 fun zs H2 => zs.length = ks.length ∧ ∀ x dx, H2 x = none → H2 dx = none → dx ≠ x → spF c P f df.np (gV (.ref x :: vs) zs) (upd (upd H2 dx (.own x)) x (.ins (c.ca k) dx [])) (fun v H2 => v = .non ∧ Q (.ref x) H2) (WE W0 σ)) I
    (bindA R0 q pp.1 fun as v1 F1 H1 L1 vs R1 s1 r1 q1 hq1 => ⟨?_, bindA R1 q1 pp.2 fun bs v2 F2 H2 L2 zs R2 s2 r2 q2 hq2 => ⟨?_, fun x dx h1 h2 h3 => ?_⟩⟩)) fun us s1 ⟨vs, H1, I1, r, l1, q⟩ => ?_) ?_ (plain_star hp.1 _ _)
  · rw [← r1.length]; exact hn1 _ _ _ hq1
  · rw [← r2.length, hn2 _ _ _ hq2, k5]
  · cases hpm : perm (as ++ bs) pm with
    | none => rw [hpm] at q2; exact q2.elim
    | some as' =>
      rw [hpm] at q2
      have lv : vs.length = (e :: xs).length := by rw [← r1.length]; exact hn1 _ _ _ hq1
      have lz : zs.length = ks.length := by rw [← r2.length, hn2 _ _ _ hq2, k5]
      obtain ⟨rs, hr1, hr2⟩ := hperm (.ref x) vs zs lv lz
      rw [hr2]
      have ra := args_perm (rs := rs) (args_app (r1.mono s2.f) r2) hpm hr1
      exact newF_sp fx hf hT R2 ra (fun z => perm_pur (as' := as') (app_pur (evs_pur (pp.1 z) hq1) (evs_pur (pp.2 z) hq2)) hpm) q2 h1 h2 h3
  · refine thn (hB.run p pins s1 σ H1 _ I1 q) fun ws s2 ⟨zs, H2, I2, rz, l2, q2⟩ => ⟨I2.kIn, ?_⟩
    rw [k2]
    exact run_makeS M (hF f df hT) hr hb (passAt tk σ) I2 r rz l1 l2 q2
  · rw [k3, Bool.or_false]
    exact plain_stars (by simp [hp]) _ _
/-- f(.., k = ..) -/
theorem s_callk {f : Nat} {pm : List Pm} {el ek : EL} {x : Str} {kws : List Keyword} {ks : List Str} {ys : List Expr} (fx : Fx c J T P A X) (tk : Takes X W0) (hg : Gl X x) (hd : (x == ("__debug__" : Str)) = false) (hx : x = J.fnm f) (hG : f ∈ J.fg) (hp : (e :: xs).all plainX = true)
    (hA : PA X (e :: xs) (tEL c T P xo W0 el)) (hB : PK X kws (tEL c T P xo W0 ek)) (hkw : kwsOf kws = some (ks, ys)) (hmem : (f, (e :: xs).length, ks, pm) ∈ J.kf) (hn1 : ∀ as v v', evs T P xo.e el v = .ok as v' → as.length = (e :: xs).length) (hn2 : ∀ as v v', evs T P xo.e ek v = .ok as v' → as.length = kws.length) :
    PE X (.Call (.Name x p') (e :: xs) kws p) (tE c T P xo W0 (.callk f pm el ek)) := by
  have hp : plainX e = true ∧ xs.all plainX = true := by simpa using hp
  obtain ⟨n, hr, hF⟩ := fx.rm
  obtain ⟨⟨df, hT⟩, hmg⟩ := fx.gl f hG
  obtain ⟨g, gV, hb, hperm⟩ := fx.kbf _ hmem
  obtain ⟨k1, k2, k3, k4, k5⟩ := kws_names X.env p hkw
  refine ⟨fun pins s σ H Q I ⟨F, L, v, R0, q⟩ => ?_⟩
  simp only [ev] at q
  have pp : ((!(E.callk f pm el ek).pur) = false → el.pur = true) ∧ ((!(E.callk f pm el ek).pur) = false → ek.pur = true) := by
    simp only [E.pur]
    cases el.pur <;> cases ek.pur <;> simp
  refine wpAny_Call_Name_kw (ld_glob I hg (by rw [hx]; exact hmg) ?_ hd)
  refine PySem.W.callWith_KW (h₀ := X.base) I.ok.mod.kin (fx.kp f df hT) k1 (thn (hA.run p pins s σ H (fun vs H1 => vs.length = (e :: xs).length ∧ tEL c T P xo W0 ek σ H1 fun zs H2 => zs.length = ks.length ∧ spF c P f df.np (gV vs zs) H2 Q (WE W0 σ)) I
    (bindA R0 q pp.1 fun as v1 F1 H1 L1 vs R1 s1 r1 q1 hq1 => ⟨?_, bindA R1 q1 pp.2 fun bs v2 F2 H2 L2 zs R2 s2 r2 q2 hq2 => ⟨?_, ?_⟩⟩)) fun us s1 ⟨vs, H1, I1, r, l1, q⟩ => ?_) ?_ (plain_star hp.1 _ _)
  · rw [← r1.length]; exact hn1 _ _ _ hq1
  · rw [← r2.length, hn2 _ _ _ hq2, k5]
  · cases hpm : perm (as ++ bs) pm with
    | none => rw [hpm] at q2; exact q2.elim
    | some as' =>
      rw [hpm] at q2
      have lv : vs.length = (e :: xs).length := by rw [← r1.length]; exact hn1 _ _ _ hq1
      have lz : zs.length = ks.length := by rw [← r2.length, hn2 _ _ _ hq2, k5]
      have hr1 := hperm vs zs lv lz
      have ra := args_perm (rs := gV vs zs) (args_app (r1.mono s2.f) r2) hpm hr1
      exact callF_sp fx hT R2 ra (fun z => perm_pur (as' := as') (app_pur (evs_pur (pp.1 z) hq1) (evs_pur (pp.2 z) hq2)) hpm) q2
  · refine thn (hB.run p pins s1 σ H1 _ I1 q) fun ws s2 ⟨zs, H2, I2, rz, l2, q2⟩ => ⟨I2.kIn, ?_⟩
    rw [k2]
    have r2 := hb.rel r rz
    refine wpAny_call (codeAny_mono ((hF f df hT).run X.A X.stack s2 H2 ⟨us, ks.zip ws⟩ (g us ws) (gV vs zs) Q (WE W0 σ) (hr.mono (by omega)) I2.env0 (hb.to s2 us ws I2.kIn (r.length.symm.trans l1) (rz.length.symm.trans l2)) r2 q2) fun r s' hq => ?_)
    cases r with
    | error e => exact passAt tk σ pins H2 s2 e s' I2 hq
    | ok fl =>
      cases fl with
      | ret u => exact I2.after hq
      | next => exact False.elim hq
      | brk => exact False.elim hq
      | cont => exact False.elim hq
  · rw [k3, Bool.or_false]
    exact plain_stars (by simp [hp]) _ _
end
end Pv

set_option Elab.async false
set_option linter.all false
set_option maxRecDepth 100000
/-! PvR: enumerate(tuple). -/
namespace Pv
open PySem PySem.Spec PyProof.Rows L2

set_option maxHeartbeats 1000000 in
theorem meets_enum1 {v : Value} {o : Obj} {H : Heap → Prop} (B : Begins v o H) :
    Meets (Builtin.«enumerate.__new__» ⟨[.type "enumerate", v], []⟩) (fun _ R s => H s.heap ∧
      R (.ok (.ret (.ref (s.heap.push o).objs.size))) { s with heap := (s.heap.push o).push { cls := .type "enumerate", data := .fields #[.none, .bool false, .ref s.heap.objs.size, rawInt 0, .none, .none] } }) :=
  .of_wp fun prog w A R s h => by
    obtain ⟨hp, g, d, tk, os⟩ := s; obtain ⟨h1, h⟩ := h
    have hsub := sub_enumerate
    have q1 : ∀ {A' : Around} {E : Value → Shared → Prop} {Q : Value → Shared → Prop}, Q (.ref hp.objs.size) ⟨hp.push o, g, d, tk, os⟩ → wpAny (model prog w) A' (pyIter v) Q E ⟨hp, g, d, tk, os⟩ :=
      fun q => B.iter prog w _ _ ⟨hp, g, d, tk, os⟩ _ h1 q
    wp_walk using q1
    refine wpAny_stack_any fun st => wpAny_pure ?_
    split
    · rename_i c _ _ _ _ _
      cases (c == Value.type "enumerate")
      · wp_walk using q1
        exact ⟨_, rfl, h⟩
      · wp_walk using q1
        exact ⟨_, rfl, h⟩
    · wp_walk using q1
      exact ⟨_, rfl, h⟩
section
variable {prog : Program} {w : World} {A : Around} {E : Value → Shared → Prop} {s : Shared}
theorem call_enumerate1 {v : Value} {o : Obj} {H : Heap → Prop} {Q : Value → Shared → Prop} (B : Begins v o H) (h1 : H s.heap)
    (h : ∀ h', IsEnum h' (s.heap.objs.size + 1) s.heap.objs.size 0 .none → h'.get? s.heap.objs.size = some o → h'.objs.size = s.heap.objs.size + 2 →
      (∀ b o, s.heap.get? b = some o → h'.get? b = some o) → Q (.ref (s.heap.objs.size + 1)) { s with heap := h' }) :
    wpAny (model prog w) A (call (.type "enumerate") [v]) Q E s := by
  refine callType_new F.called_enumerate (by decide) (F.typeCall_enumerate_1 _) (F.newCall_enumerate_1 _) (fun obj => F.args_object_init_2 obj _) F.entry_enumerate_new
    (meets_enum1 B) ⟨h1, ?_⟩
  have hz : (s.heap.push o).objs.size = s.heap.objs.size + 1 := Heap.size_push ..
  show _ ∧ _
  rw [hz]
  have he : IsEnum ((s.heap.push o).push { cls := .type "enumerate", data := .fields #[.none, .bool false, .ref s.heap.objs.size, rawInt 0, .none, .none] }) (s.heap.objs.size + 1) s.heap.objs.size 0 .none := by
    have := Heap.get?_push_size (s.heap.push o) (o := { cls := .type "enumerate", data := .fields #[.none, .bool false, .ref s.heap.objs.size, rawInt 0, .none, .none] }) rfl
    rw [hz] at this; exact this
  refine ⟨⟨_, he, rfl⟩, h _ he (Heap.get?_push_of_some _ (Heap.get?_push_size _ B.free)) (by rw [Heap.size_push, hz]) fun b o x => Heap.get?_push_of_some _ (Heap.get?_push_of_some _ x)⟩
end
/-- enumerate(tuple) -/
def IteT (K : PySem.W.Frag) (a : Addr) : It :=
  ⟨fun i H => ∃ (xs : List V) (x : V), SqT K H a xs ∧ xs[i]? = some x, fun i H v H' => ∃ T x, v = .ref T ∧ H T = none ∧ H' = upd H T (.tup [.int (i : Nat), x]) ∧ ∀ xs, SqT K H a xs → xs[i]? = some x, fun i H => ∃ xs : List V, SqT K H a xs ∧ xs.length = i⟩
theorem turn_enumT {P : Program} {w : World} {K : PySem.W.Frag} {elts : List Expr} {kk : Nat} {tpos : Pos} {a e it : Addr} (hae : a ≠ e) (hai : a ≠ it) :
    Turn P w K (.Tuple elts kk tpos) (IteT K a) [e, it] e (fun i h => (∃ old, IsEnum h e it ((i : Nat) : Int) old) ∧ h.IsTupleIter it a i ∧ e ≠ it) where
  mem := by simp
  obj := fun i h st b hb => by
    obtain ⟨⟨old, he⟩, ⟨o, ho, hc, hd⟩, _⟩ := st
    have e' : b = e ∨ b = it := by simpa using hb
    rcases e' with z | z
    · rw [z]; exact ⟨_, he, fun v q => nomatch q⟩
    · rw [z]; exact ⟨o, ho, fun v q => by rw [hd] at q; cases q⟩
  keep := fun i h h' st k => let ⟨⟨old, he⟩, hi, hne⟩ := st; ⟨⟨old, k e (by simp) _ he⟩, hi.at fun o q => k it (by simp) o q, hne⟩
  item := by
    intro X hP hw hK hc i pins s σ H E I hf st hg
    subst hP hw hK
    obtain ⟨⟨old, he⟩, hit, hne⟩ := st
    obtain ⟨xs, x, hq, hx⟩ := hg
    obtain ⟨its, rv, p, hz⟩ := I.tuple hq
    obtain ⟨u, hu, ru⟩ := rv.get hx
    have p' : s.heap.IsTuple a its.toArray := p
    have hel : e < s.heap.objs.size := Heap.lt_size he
    have hil : it < s.heap.objs.size := by obtain ⟨_, q, _⟩ := hit; exact Heap.lt_size q
    have D := (Draws.tuple (prog := X.prog) (w := X.w) (A := X.A.in1) (I.ok.hd hc) it a hai its.toArray)
    have hlt : i < its.toArray.size := by
      have := (List.getElem?_eq_some_iff.mp hu).1
      simpa using this
    refine wpAny_pyNext_enum_itemD (fp := [it, a]) D he ⟨hit, p'⟩ hlt hne (by simp [hne, Ne.symm hae]) fun y h' tk hy ho hit' hT hsz hk => ?_
    have hy : its[i]? = some y := by simpa using hy
    rw [hu] at hy
    cases hy
    refine ⟨_, rfl, wpAny_letOwnedTupleGo_enum (s := { s with heap := h', toks := tk + 1 }) ho fun h'' he' sb => ?_⟩
    have hT2 : h''.get? s.heap.objs.size = some { cls := .type "tuple", data := .seq #[.int i tk, u] } := (sb.2 _ (Nat.ne_of_gt hel)).trans hT
    have new : ObjOk X.prog X.w (upd H s.heap.objs.size (.tup [.int (i : Nat), x])) h'' s.heap.objs.size (.tup [.int (i : Nat), x]) :=
      ⟨by show 2 ≤ sizeLine; decide, [.int i tk, u], .cons ⟨_, rfl⟩ (.cons ru .nil), ⟨_, hT2, rfl, _, rfl⟩⟩
    have I1 : Inv X pins σ (upd H s.heap.objs.size (.tup [.int (i : Nat), x])) { s with heap := h'', toks := tk + 1 } :=
      I.turnedNew (ch := [e, it]) (fun b ob hb q => (sb.2 b (fun z => hb (by simp [z]))).trans (hk b ob (fun z => hb (by simp [z])) (fun z => hb (by simp [z])) q)) hf (Nat.le_refl _) new
    refine ⟨.ref s.heap.objs.size, _, I1, rfl, ⟨_, x, rfl, I.hok.fresh (Nat.le_refl _), rfl, fun ys hy => by rw [I.tuple_inj hy hq]; exact hx⟩, ⟨⟨u, ?_⟩, hit'.1.at fun o q => (sb.2 it (Ne.symm hne)).trans q, hne⟩, fun b hb => ?_⟩
    · have e1 : ((i + 1 : Nat) : Int) = (i : Int) + 1 := by omega
      rw [e1]; exact he'
    · have hb' : b < s.heap.objs.size := by
        have e' : b = e ∨ b = it := by simpa using hb
        rcases e' with z | z
        · rw [z]; exact hel
        · rw [z]; exact hil
      rw [upd_ne (Nat.ne_of_lt hb')]
      exact (hf b hb).1
  done := by
    intro X hP hw hK hc i pins s σ H E I hf st hg
    subst hP hw hK
    obtain ⟨⟨old, he⟩, hit, hne⟩ := st
    obtain ⟨xs, hq, hx⟩ := hg
    obtain ⟨its, rv, p, hz⟩ := I.tuple hq
    obtain ⟨f0, f1, f2, f3, f4, f5⟩ := hf it (by simp)
    have hl := rv.length
    have p' : s.heap.IsTuple a its.toArray := p
    have D := (Draws.tuple (prog := X.prog) (w := X.w) (A := X.A.in1) (I.ok.hd hc) it a hai its.toArray)
    have hsz : its.toArray.size = i := by simp; omega
    exact wpAny_pyNext_enum_endD (i := (i : Int)) D he (by rw [hsz]; exact ⟨hit, p'⟩) fun h' eb => ⟨rfl, I.turned (t' := s.toks) (fun b o hb q => eb b o hb q) f0 f1 f3 f4 f5⟩
  self := fun A i s Q E st h => let ⟨⟨_, he⟩, _⟩ := st; wpAny_pyIter_enum he h
theorem walk_enumT {K : PySem.W.Frag} {a : Addr} {xs : List V} : Walk (IteT K a) xs.length (fun H => SqT K H a xs) (YPair (fun i => some (.int (i : Nat))) (fun i => xs[i]?)) := by
  refine ⟨fun i _ hi q => ⟨xs, xs[i], q, by simp [hi]⟩, fun _ q => ⟨xs, q, rfl⟩, fun i H v H' _ q y => ?_⟩
  obtain ⟨T, x, h1, h2, h3, h4⟩ := y
  exact ⟨T, .int (i : Nat), x, h1, h2, h3, rfl, h4 xs q⟩
/-- enumerate of a list or a tuple -/
def iEnumA (K : PySem.W.Frag) (ta : TA) : TI := fun σ H R => ta σ H fun vs H1 => ∃ a xs, vs = [.ref a] ∧ ((SqL K H1 a xs ∧ R (Ite K a) H1) ∨ (SqT K H1 a xs ∧ R (IteT K a) H1))
theorem pi_enumA {X : Cx} {e : Expr} {ta : TA} {p pos tpos : Pos} {elts : List Expr} {kk : Nat} (hg : Gl X "enumerate") (hm : X.mg "enumerate" = none) (ha : PA X [e] ta) (hs : starEach [e] X.env = [(false, eval e X.env)]) :
    PI X (.Tuple elts kk tpos) (.Call (.Name "enumerate" p) [e] [] pos) (iEnumA X.K ta) := by
  refine ⟨fun pins s σ H R I h => ?_⟩
  refine Call_ (ld_blt I hg hm boot_enumerate (PyProof.Rows.callWith_type1 (thn (ha.run pos pins s σ H _ I h) fun us s1 ⟨vs, H1, I1, r1, q1⟩ => ?_) hs rfl))
  obtain ⟨a, xs, ex, q1⟩ := q1
  subst ex
  cases r1 with
  | cons r rr =>
    cases rr
    cases r
    have fresh : ∀ b ∈ [s1.heap.objs.size + 1, s1.heap.objs.size], FpOk X pins H1 b := fun b hb => by
      have e' : b = s1.heap.objs.size + 1 ∨ b = s1.heap.objs.size := by simpa using hb
      have hle : s1.heap.objs.size ≤ b := by
        rcases e' with z | z
        · rw [z]; exact Nat.le_add_right _ _
        · rw [z]; exact Nat.le_refl _
      exact I1.fpOk hle (I1.hok.fresh hle)
    rcases q1 with ⟨hq, q⟩ | ⟨hq, q⟩
    · obtain ⟨its, rv, p', hz⟩ := I1.list hq
      refine call_enumerate_list p'.isList fun h' he hit hsz hk => wpAny_pyIter_enum he ?_
      have I2 : Inv X pins σ H1 { s1 with heap := h' } := I1.kept (t' := s1.toks) hk
      exact ⟨s1.heap.objs.size + 1, [s1.heap.objs.size + 1, s1.heap.objs.size], _, _, H1, rfl, I2, turn_enum a (s1.heap.objs.size + 1) s1.heap.objs.size, ⟨⟨.none, he⟩, hit, Nat.succ_ne_self _⟩, fresh, q⟩
    · obtain ⟨its, rv, p', hz⟩ := I1.tuple hq
      have p2 : s1.heap.IsTuple a its.toArray := p'
      obtain ⟨o2, ho2, _⟩ := id p2
      have hal := Heap.lt_size ho2
      refine call_enumerate1 (begins_tuple a its.toArray) p2 fun h' he hit hsz hk => wpAny_pyIter_enum he ?_
      have I2 : Inv X pins σ H1 { s1 with heap := h' } := I1.kept (t' := s1.toks) hk
      exact ⟨s1.heap.objs.size + 1, [s1.heap.objs.size + 1, s1.heap.objs.size], _, _, H1, rfl, I2, turn_enumT (Nat.ne_of_lt (Nat.lt_succ_of_lt hal)) (Nat.ne_of_lt hal), ⟨⟨.none, he⟩, ⟨_, hit, rfl, rfl⟩, Nat.succ_ne_self _⟩, fresh, q⟩
end Pv

set_option Elab.async false
set_option linter.all false
set_option maxRecDepth 100000
/-! PvS: what is walked through. -/
namespace Pv
open PySem PySem.Spec PyProof.Rows L2

section
variable {X : Cx} {c : Cfg} {T : Tbl} {P : Fn} {xo : Xs} {W0 : WX} {e e1 e2 e3 e4 o tg : Expr} {es xs : List Expr} {a b d g : E} {p p' p2 ap : Pos} {σ : _root_.L2.St} {F F' H H' : Hp} {L L' Lc : Ft} {Q : VK} {J : Info} {A : Ad} {v : Env}
/-- the i-th item, as it was or a new pair -/
def YD (c : Cfg) (F0 : Hp) (ds : List D) : Nat → Hp → V → Hp → Prop := fun i H x H' => ∃ d, ds[i]? = some d ∧ ((H' = H ∧ Rep c F0 d x) ∨ ∃ T o, H T = none ∧ H' = upd H T o ∧ ∀ F1, Same F0 F1 → F1 T = none → Rep c (upd F1 T o) d x)
abbrev WalkD (c : Cfg) (F0 : Hp) (J : It) (ds : List D) : Prop := Walk J ds.length (fun H => Same F0 H) (YD c F0 ds)
abbrev iQ (c : Cfg) (R : It → Hp → Prop) : List D → Hp → Hp → Ft → List Addr → Prop := fun ds F' H' _ _ => ∀ J, WalkD c F' J ds → R J H'
def tI (c : Cfg) (T : Tbl) (P : Fn) (xo : Xs) (W : WX) (it : Pv.I) : TI := fun σ H R => ∃ F L v, Rel c xo F H L σ v ∧ okR c xo (!it.pur) F H L σ (evI T P xo.e it v) (iQ c R) (fun cls d H' => W cls d σ H')
theorem reps_get {ds : List D} {vs : List V} {i : Nat} {u : V} (h : Reps c F ds vs) (e : vs[i]? = some u) : ∃ d, ds[i]? = some d ∧ Rep c F d u := by
  have hl := h.length
  have hi := (List.getElem?_eq_some_iff.mp e).1
  have hd : ds[i]? = some (ds[i]'(by omega)) := List.getElem?_eq_getElem (by omega)
  obtain ⟨v, h1, h2⟩ := Reps.get h hd
  rw [e] at h1
  cases h1
  exact ⟨_, hd, h2⟩
theorem walkD_list {ds : List D} {vs : List V} {l : Addr} (h : SqL c.K F l vs) (r : Reps c F ds vs) : WalkD c F (Itl c.K l) ds := by
  rw [WalkD, r.length]
  exact walk_list.mono (fun H s => Same.seq s h) fun i H x H' _ _ ⟨h1, h2⟩ => by
    obtain ⟨d, q1, q2⟩ := reps_get r h2
    exact ⟨d, q1, .inl ⟨h1, q2⟩⟩
theorem walkD_tup {ds : List D} {vs : List V} {l : Addr} (h : SqT c.K F l vs) (r : Reps c F ds vs) : WalkD c F (Itt c.K l) ds := by
  rw [WalkD, r.length]
  exact walk_tup.mono (fun H s => Same.tup s h) fun i H x H' _ _ ⟨h1, h2⟩ => by
    obtain ⟨d, q1, q2⟩ := reps_get r h2
    exact ⟨d, q1, .inl ⟨h1, q2⟩⟩
theorem walkD_str {z : Str} : WalkD c F (Its z) (z.cps.toList.map fun c => .str ⟨#[c]⟩) := by
  have hn : (z.cps.toList.map fun c => D.str ⟨#[c]⟩).length = z.cps.size := by simp
  rw [WalkD, hn]
  exact walk_str.mono (fun _ _ => trivial) fun i H x H' _ _ ⟨h1, cp, h2, h3⟩ => by
    subst h3
    refine ⟨.str ⟨#[cp]⟩, ?_, .inl ⟨h1, rfl⟩⟩
    rw [List.getElem?_map, Array.getElem?_toList, h2]
    rfl
theorem enumD_get : ∀ {ds : List D} {k i : Nat}, (enumD k ds)[i]? = (ds[i]?).map fun d => .tup [.int ((k + i : Nat) : Int), d]
  | [], k, i => by simp [enumD]
  | d :: ds, k, 0 => by simp [enumD]
  | d :: ds, k, i + 1 => by
    simp only [enumD, List.getElem?_cons_succ]
    rw [enumD_get, show k + 1 + i = k + (i + 1) by omega]
theorem enumD_len : ∀ {ds : List D} {k : Nat}, (enumD k ds).length = ds.length
  | [], k => rfl
  | d :: ds, k => by simp [enumD, enumD_len]
theorem pair_rep {T : Addr} {F1 : Hp} {ds : List D} {vs : List V} {i : Nat} {x : V} (r : Reps c F ds vs) (hx : vs[i]? = some x) (hs : Same F F1) (hT : F1 T = none) : ∃ d, (enumD 0 ds)[i]? = some (.tup [.int (i : Nat), d]) ∧ Rep c (upd F1 T (.tup [.int (i : Nat), x])) (.tup [.int (i : Nat), d]) (.ref T) := by
  obtain ⟨d, q1, q2⟩ := reps_get r hx
  refine ⟨d, by rw [enumD_get, q1]; simp, T, _, rfl, .inl (.inl upd_same), .int (i : Nat), [x], rfl, rfl, x, [], rfl, ?_, rfl⟩
  exact Rep.mono (hs.trans (same_new hT)) d x q2
theorem walkD_enum {ds : List D} {vs : List V} {l : Addr} (h : SqL c.K F l vs) (r : Reps c F ds vs) : WalkD c F (Ite c.K l) (enumD 0 ds) := by
  rw [WalkD, enumD_len, r.length]
  exact walk_enum.mono (fun H s => Same.seq s h) fun i H x H' hi _ ⟨T, y, z, h1, h2, h3, h4, h5⟩ => by
    cases h4
    obtain ⟨d, hd⟩ : ∃ d, (enumD 0 ds)[i]? = some (.tup [.int (i : Nat), d]) := by
      obtain ⟨d, q1, q2⟩ := reps_get r h5
      exact ⟨d, by rw [enumD_get, q1]; simp⟩
    refine ⟨_, hd, .inr ⟨T, _, h2, h3, fun F1 hs hT => ?_⟩⟩
    obtain ⟨d', q1, q2⟩ := pair_rep (T := T) r h5 hs hT
    rw [hd] at q1
    cases q1
    rw [h1]
    exact q2
theorem walkD_enumT {ds : List D} {vs : List V} {l : Addr} (h : SqT c.K F l vs) (r : Reps c F ds vs) : WalkD c F (IteT c.K l) (enumD 0 ds) := by
  rw [WalkD, enumD_len, r.length]
  exact walk_enumT.mono (fun H s => Same.tup s h) fun i H x H' hi _ ⟨T, y, z, h1, h2, h3, h4, h5⟩ => by
    cases h4
    obtain ⟨d, hd⟩ : ∃ d, (enumD 0 ds)[i]? = some (.tup [.int (i : Nat), d]) := by
      obtain ⟨d, q1, q2⟩ := reps_get r h5
      exact ⟨d, by rw [enumD_get, q1]; simp⟩
    refine ⟨_, hd, .inr ⟨T, _, h2, h3, fun F1 hs hT => ?_⟩⟩
    obtain ⟨d', q1, q2⟩ := pair_rep (T := T) r h5 hs hT
    rw [hd] at q1
    cases q1
    rw [h1]
    exact q2
theorem walkD_rng {lo hi : Int} : WalkD c F (Itr lo (hi - lo).toNat) (rng lo hi) := by
  have hn : (rng lo hi).length = (hi - lo).toNat := by simp [rng]
  rw [WalkD, hn]
  exact walk_range.mono (fun _ _ => trivial) fun i H x H' hi _ ⟨h1, h2⟩ => by
    subst h2
    refine ⟨.int (lo + (i : Int)), ?_, .inl ⟨h1, rfl⟩⟩
    unfold rng
    rw [List.getElem?_map, List.getElem?_range hi]
    rfl
theorem fzs_frzs : ∀ {os : List O} {ds : List D}, O.fzs os = some ds → O.frzs os = ds
  | [], ds, h => by cases h; rfl
  | .fz d :: os, ds, h => by
    simp only [O.fzs, Option.map_eq_some_iff] at h
    obtain ⟨ds', h1, rfl⟩ := h
    show O.frz (.fz d) :: O.frzs os = _
    rw [fzs_frzs h1]
    rfl
  | .lst _ :: _, _, h => by cases h
  | .obj _ _ :: _, _, h => by cases h
theorem walksL_fin {x : Val} {ds : List D} (h : x.walksL = some ds) : ∃ d, x.fin = some d ∧ (d = .lst ds ∨ d = .tup ds) := by
  cases x with
  | fz d =>
    cases d with
    | lst xs => cases h; exact ⟨_, rfl, .inl rfl⟩
    | tup xs => cases h; exact ⟨_, rfl, .inr rfl⟩
    | _ => cases h
  | tmp o =>
    cases o with
    | lst os => exact ⟨_, rfl, .inl (by rw [← fzs_frzs (show O.fzs os = some ds from h)]; rfl)⟩
    | _ => cases h
  | vw _ _ => cases h
theorem s_seq (hK : X.K = c.K) (he : PE X e (tE c T P xo W0 a)) : PI X tg e (tI c T P xo W0 (.seq a)) := by
  refine ⟨fun pins s σ H R I ⟨F, L, v, R0, q⟩ => ?_⟩
  simp only [evI] at q
  refine thn (he.run pins s σ H (fun u H1 => (∃ a, u = .ref a ∧ (∃ xs, SqL X.K H1 a xs) ∧ R (Itl X.K a) H1) ∨ (∃ a, u = .ref a ∧ (∃ xs, SqT X.K H1 a xs) ∧ R (Itt X.K a) H1) ∨ ∃ z, u = .str z ∧ R (Its z) H1) I (bindE R0 q (fun z => by simpa [Pv.I.pur] using z) fun x v1 F1 H1 L1 u B R1 s1 r1 q1 n1 z1 => ?_)) fun w s1 ⟨x, H1, I1, r1, q1⟩ => ?_
  · obtain ⟨ds, hd, q2⟩ := okR.of z1
    rw [hK]
    have go : x.walksL = some ds → (∃ a, u = .ref a ∧ (∃ xs, SqL c.K H1 a xs) ∧ R (Itl c.K a) H1) ∨ (∃ a, u = .ref a ∧ (∃ xs, SqT c.K H1 a xs) ∧ R (Itt c.K a) H1) ∨ ∃ z, u = .str z ∧ R (Its z) H1 := fun hw => by
      obtain ⟨d, hf, hdd⟩ := walksL_fin hw
      obtain ⟨F2, R2, s2, k2, r2⟩ := fin_rep hf R1 s1 r1 n1
      have hu : okR c xo (!(Pv.I.seq a).pur) F2 H1 L1 σ (.ok ds v1) (iQ c R) (fun cls d H' => W0 cls d σ H') := q2.step (s2.mono fun z => by simpa [Pv.I.pur] using z)
      have q3 : ∀ J, WalkD c F2 J ds → R J H1 := hu F2 H1 L1 [] R2 Step.refl New.nil
      rcases hdd with rfl | rfl
      · obtain ⟨l, vs, rfl, h2, h3⟩ := r2
        exact .inl ⟨l, rfl, ⟨vs, Same.seq R2.le h2⟩, q3 _ (walkD_list h2 h3)⟩
      · obtain ⟨l, vs, rfl, h2, h3⟩ := r2
        exact .inr (.inl ⟨l, rfl, ⟨vs, Same.tup R2.le h2⟩, q3 _ (walkD_tup h2 h3)⟩)
    cases x with
    | fz d =>
      cases d with
      | str z =>
        cases hd
        cases (show u = _ from r1)
        have q3 : ∀ J, WalkD c F1 J _ → R J H1 := (q2.step (s1.mono fun z => by simpa [Pv.I.pur] using z)) F1 H1 L1 [] R1 Step.refl New.nil
        exact .inr (.inr ⟨z, rfl, q3 _ walkD_str⟩)
      | lst xs => exact go hd
      | tup xs => exact go hd
      | _ => cases hd
    | tmp o => exact go hd
    | vw _ _ => cases hd
  · rcases q1 with ⟨a, rfl, ⟨xs, hq⟩, q⟩ | ⟨a, rfl, ⟨xs, hq⟩, q⟩ | ⟨z, rfl, q⟩
    · cases r1
      obtain ⟨its, rv, p, hz⟩ := I1.list hq
      refine wpAny_pyIter_list p.isList ?_
      refine ⟨s1.heap.objs.size, [s1.heap.objs.size], _, _, H1, rfl, I1.kept (t' := s1.toks) fun b o e => Heap.get?_push_of_some _ e, turn_list a _, ⟨_, Heap.get?_push_size _ rfl, rfl, rfl⟩, fun b hb => ?_, q⟩
      have e : b = s1.heap.objs.size := by simpa using hb
      subst e
      exact I1.fpOk (Nat.le_refl _) (I1.hok.fresh (Nat.le_refl _))
    · cases r1
      obtain ⟨its, rv, p, hz⟩ := I1.tuple hq
      refine wpAny_pyIter_tuple (show s1.heap.IsTuple a its.toArray from p) ?_
      refine ⟨s1.heap.objs.size, [s1.heap.objs.size], _, _, H1, rfl, I1.kept (t' := s1.toks) fun b o e => Heap.get?_push_of_some _ e, turn_tuple a _, ⟨_, Heap.get?_push_size _ rfl, rfl, rfl⟩, fun b hb => ?_, q⟩
      have e : b = s1.heap.objs.size := by simpa using hb
      subst e
      exact I1.fpOk (Nat.le_refl _) (I1.hok.fresh (Nat.le_refl _))
    · obtain ⟨t, rfl⟩ := r1
      cases ha : z.cps.all (· < 128)
      · exact wpAny_pyIter_wide ha (pi_one (tk := s1.toks) I1 _ (turn_str _ z t "str_iterator" (.inr rfl)) ⟨_, Heap.get?_push_size _ rfl, rfl, rfl⟩ q)
      · exact wpAny_pyIter_ascii ha (pi_one (tk := s1.toks) I1 _ (turn_str _ z t "str_ascii_iterator" (.inl rfl)) ⟨_, Heap.get?_push_size _ rfl, rfl, rfl⟩ q)
theorem pi_imp {t t' : TI} (h : PI X tg e t) (k : ∀ σ H R, t' σ H R → t σ H R) : PI X tg e t' := ⟨fun pins s σ H R I q => h.run pins s σ H R I (k σ H R q)⟩
theorem rng_of {i : Int} (h : inRng i = true) : -(2 ^ 62) ≤ i ∧ i < 2 ^ 62 := by
  have h : i.natAbs < 4611686018427387904 := of_decide_eq_true h
  omega
theorem s_rng1 (hg : Gl X "range") (hm : X.mg "range" = none) (hp : plainX e = true) (ha : PE X e (tE c T P xo W0 a)) : PI X tg (.Call (.Name "range" p') [e] [] p) (tI c T P xo W0 (.rng1 a)) := by
  refine pi_imp (pi_range1 hg hm (pa_cons ha pa_nil (plain_star hp _ _)) (plain_star hp _ _)) fun σ H R ⟨F, L, v, R0, q⟩ => ?_
  simp only [evI] at q
  refine bindE R0 q (fun z => by simpa [Pv.I.pur] using z) fun x v1 F1 H1 L1 u B R1 s1 r1 q1 n1 z1 => ?_
  split at q1
  · split at q1
    · rename_i i h
      cases (show u = _ from r1)
      obtain ⟨h1, h2⟩ := rng_of h
      refine ⟨_, rfl, h1, h2, ?_⟩
      have := q1 F1 H1 L1 [] R1 Step.refl New.nil _ (walkD_rng (lo := 0) (hi := i))
      simpa using this
    · exact q1.elim
  · exact q1.elim
theorem s_rng2 (hg : Gl X "range") (hm : X.mg "range" = none) (hp1 : plainX e1 = true) (hp2 : plainX e2 = true) (ha : PE X e1 (tE c T P xo W0 a)) (hb : PE X e2 (tE c T P xo W0 b)) : PI X tg (.Call (.Name "range" p') [e1, e2] [] p) (tI c T P xo W0 (.rng2 a b)) := by
  refine pi_imp (pi_range2 hg hm (pa_cons ha (pa_cons hb pa_nil (plain_star hp2 _ _)) (plain_star hp1 _ _)) (by rw [plain_star hp1, plain_star hp2]; rfl) (by rw [plain_star hp2]; rfl)) fun σ H R ⟨F, L, v, R0, q⟩ => ?_
  simp only [evI] at q
  obtain ⟨pa, pb⟩ := pur2 (a := a) (b := b) rfl
  refine bindE R0 q pa fun x v1 F1 H1 L1 u B R1 s1 r1 q1 n1 z1 => ?_
  refine bindE R1 q1 pb fun y v2 F2 H2 L2 w B' R2 s2 r2 q2 n2 z2 => ?_
  split at q2
  · split at q2
    · rename_i i j h
      simp only [Bool.and_eq_true] at h
      cases (show u = _ from r1)
      cases (show w = _ from r2)
      obtain ⟨h1, h2⟩ := rng_of h.1
      obtain ⟨h3, h4⟩ := rng_of h.2
      exact ⟨_, _, rfl, ⟨h1, h2, h3, h4⟩, q2 F2 H2 L2 [] R2 Step.refl New.nil _ walkD_rng⟩
    · exact q2.elim
  · exact q2.elim
theorem s_enum {k : Nat} (hK : X.K = c.K) (hg : Gl X "enumerate") (hm : X.mg "enumerate" = none) (hp : plainX e = true) (ha : PE X e (tE c T P xo W0 a)) : PI X (.Tuple es k p2) (.Call (.Name "enumerate" p') [e] [] p) (tI c T P xo W0 (.enum a)) := by
  refine pi_imp (pi_enumA hg hm (pa_cons ha pa_nil (plain_star hp _ _)) (plain_star hp _ _)) fun σ H R ⟨F, L, v, R0, q⟩ => ?_
  simp only [evI] at q
  refine bindE R0 q (fun z => by simpa [Pv.I.pur] using z) fun x v1 F1 H1 L1 u B R1 s1 r1 q1 n1 z1 => ?_
  obtain ⟨es, hd, q2⟩ := okR.of z1
  simp only [Option.map_eq_some_iff] at hd
  obtain ⟨ds, hw, rfl⟩ := hd
  obtain ⟨d, hf, hdd⟩ := walksL_fin hw
  obtain ⟨F2, R2, s2, k2, r2⟩ := fin_rep hf R1 s1 r1 n1
  have q3 : ∀ J, WalkD c F2 J (enumD 0 ds) → R J H1 := (q2.step (s2.mono fun z => by simpa [Pv.I.pur] using z)) F2 H1 L1 [] R2 Step.refl New.nil
  rw [hK]
  rcases hdd with rfl | rfl
  · obtain ⟨l, vs, rfl, h2, h3⟩ := r2
    exact ⟨l, vs, rfl, .inl ⟨Same.seq R2.le h2, q3 _ (walkD_enum h2 h3)⟩⟩
  · obtain ⟨l, vs, rfl, h2, h3⟩ := r2
    exact ⟨l, vs, rfl, .inr ⟨Same.tup R2.le h2, q3 _ (walkD_enumT h2 h3)⟩⟩
end
end Pv

set_option Elab.async false
set_option linter.all false
set_option maxRecDepth 100000
/-! PvT: targets. -/
namespace Pv
open PySem PySem.Spec PyProof.Rows L2

/-- without what these slots own -/
def Lw (own : List Nat) (L : Ft) : Ft := fun i => if i ∈ own then [] else L i
theorem Lw_app {a b : List Nat} {L : Ft} : Lw b (Lw a L) = Lw (a ++ b) L := by
  funext i
  unfold Lw
  by_cases h1 : i ∈ b
  · simp [h1]
  · by_cases h2 : i ∈ a <;> simp [h1, h2]
theorem Lw_nil {L : Ft} : Lw [] L = L := by
  funext i
  simp [Lw]
theorem Lw_mem {own : List Nat} {L : Ft} {i : Nat} {p : Addr} (h : p ∈ Lw own L i) : p ∈ L i ∧ i ∉ own := by
  unfold Lw at h
  split at h
  · cases h
  · exact ⟨h, by assumption⟩
section
variable {X : Cx} {c : Cfg} {T : Tbl} {P : Fn} {xo : Xs} {W0 : WX} {e e1 e2 e3 e4 o tg : Expr} {es xs : List Expr} {a b d g : E} {p p' p2 ap : Pos} {σ : _root_.L2.St} {F F' H H' : Hp} {L L' Lc : Ft} {Q : VK} {J : Info} {A : Ad} {v : Env}
/-- slot i holds a value that stays -/
theorem Rel.setF {i : Nat} {d : D} {u : V} (R : Rel c xo F H L σ v) (r : Rep c F d u) (hx : i ∉ xo.fr) : Rel c xo F H (Lw [i] L) (σ.set i (some u)) (v.set i (some (.fz d))) := by
  refine ⟨R.le, fun j o h => ?_, fun j => ?_, fun j k q hj hk => R.dj j k q (Lw_mem hj).1 (Lw_mem hk).1, fun j q hq => R.df j q (Lw_mem hq).1, fun j h => ?_, by rw [List.length_set, List.length_set, R.len], xo.cong (fun j hj => List.getElem?_set_ne fun z => hx (by rw [z]; exact hj)) R.xs⟩
  · rw [getS_set] at h
    split at h
    · rename_i hij
      obtain ⟨rfl, hl⟩ := hij
      cases h
      refine ⟨u, ?_, r, by simp [Lw]⟩
      rw [List.getElem?_set_self (by rw [R.len]; exact hl)]
    · rename_i hij
      obtain ⟨w, h1, h2⟩ := R.slot j o h
      have hne : i ≠ j := fun z => by
        subst z
        have : i < v.length := by
          rw [← R.len]
          exact (List.getElem?_eq_some_iff.mp h1).1
        exact hij ⟨rfl, this⟩
      refine ⟨w, by rw [List.getElem?_set_ne hne]; exact h1, ?_⟩
      have : Lw [i] L j = L j := by
        unfold Lw
        rw [if_neg]
        simp [Ne.symm hne]
      rw [this]
      exact h2
  · unfold Lw
    split
    · exact List.nodup_nil
    · exact R.nd j
  · unfold Lw
    split
    · rfl
    · rename_i hj
      have hj : j ≠ i := by simpa using hj
      rw [getS_set] at h
      split at h
      · cases h
      · exact R.dead j h
/-- less that is owned -/
theorem Step.lw {e : Bool} {F0 H0 : Hp} {L0 : Ft} {own : List Nat} (s : Step e F0 H0 L0 F H L) (h : e = false → Lw own L = L) : Step e F0 H0 L0 F H (Lw own L) :=
  ⟨s.f, s.h, s.g, fun i q hq => s.l i q (Lw_mem hq).1, fun z => by rw [h z]; exact s.q z⟩

/-! ### the reading of a target -/
/-- a tuple or a list of that length -/
def gAny (K : PySem.W.Frag) (n : Nat) (t : TGs) : TG := fun v σ H Q => gTup K n t v σ H Q ∨ gLst K n t v σ H Q
theorem pg_any {k n : Nat} {t : TGs} (hc : X.calm = true) (h : PGs X es t) (hn : (assignEach es X.env).length = n) (hst : (assignEach es X.env).findIdx? (·.1) = none) : PG X (.Tuple es k p) (gAny X.K n t) := by
  refine ⟨fun pins s σ H v u Q I r hw => ?_⟩
  rcases hw with hw | hw
  · exact (pg_tup hc h hn hst).run pins s σ H v u Q I r hw
  · exact (pg_lst hc h hn hst).run pins s σ H v u Q I r hw
mutual
def gR (K : PySem.W.Frag) : G → TG
  | .n i => gName i
  | .t gs => gAny K gs.length (gRs K gs)
def gRs (K : PySem.W.Frag) : List G → TGs
  | [] => gNil
  | g :: gs => gCons (gR K g) (gRs K gs)
end
theorem plain_asg {sc : Scope} {fs : Str → Bool} {N : List Str} {g : G} (h : chkG sc fs N g e = true) (es : List Expr) (env : PySem.Env) : assignEach (e :: es) env = (false, assign e env) :: assignEach es env := by
  cases g with
  | n i =>
    unfold chkG at h
    cases hd : dName e with
    | none => rw [hd] at h; cases h
    | some x =>
      obtain ⟨p, rfl⟩ := dName_eq hd
      rfl
  | t gs =>
    unfold chkG at h
    cases hd : dTup e with
    | none => rw [hd] at h; cases h
    | some x =>
      obtain ⟨k, p, rfl⟩ := dTup_eq hd
      rfl
theorem asg_none {sc : Scope} {fs : Str → Bool} {N : List Str} : ∀ {gs : List G} {es : List Expr} {env : PySem.Env}, chkGs sc fs N gs es = true → (assignEach es env).length = gs.length ∧ (assignEach es env).findIdx? (·.1) = none
  | [], [], env, _ => ⟨rfl, rfl⟩
  | g :: gs, e :: es, env, h => by
    simp only [chkGs, Bool.and_eq_true] at h
    obtain ⟨i1, i2⟩ := asg_none (env := env) h.2
    rw [plain_asg h.1]
    refine ⟨by rw [List.length_cons, List.length_cons, i1], ?_⟩
    rw [List.findIdx?_cons, i2]
    rfl
  | [], _ :: _, _, h => by cases h
  | _ :: _, [], _, h => by cases h
mutual
theorem pg_of (hc : X.calm = true) (hnd : X.N.Nodup) : ∀ (g : G) (e : Expr), chkG X.env.scope X.fn X.N g e = true → PG X e (gR X.K g)
  | .n i, e, h => by
    unfold chkG at h
    cases hd : dName e with
    | none => rw [hd] at h; cases h
    | some x =>
      rw [hd] at h
      obtain ⟨p, rfl⟩ := dName_eq hd
      simp only [oand, Bool.and_eq_true, Bool.or_eq_true] at h
      obtain ⟨h1, h2⟩ := h
      refine pg_name hnd (eq_of_beq h1) ?_ ?_
      · rcases h2 with h2 | ⟨h2, _⟩
        · exact .inl (eq_of_beq h2)
        · exact .inr (eq_of_beq h2)
      · rcases h2 with h2 | ⟨_, h2⟩
        · exact .inr (eq_of_beq h2)
        · exact .inl h2
  | .t gs, e, h => by
    unfold chkG at h
    cases hd : dTup e with
    | none => rw [hd] at h; cases h
    | some es =>
      rw [hd] at h
      obtain ⟨k, p, rfl⟩ := dTup_eq hd
      obtain ⟨n1, n2⟩ := asg_none (env := X.env) h
      exact pg_any hc (pgs_of hc hnd gs es h) n1 n2
theorem pgs_of (hc : X.calm = true) (hnd : X.N.Nodup) : ∀ (gs : List G) (es : List Expr), chkGs X.env.scope X.fn X.N gs es = true → PGs X es (gRs X.K gs)
  | [], [], _ => pgs_nil
  | g :: gs, e :: es, h => by
    simp only [chkGs, Bool.and_eq_true] at h
    exact pgs_cons (pg_of hc hnd g e h.1) (pgs_of hc hnd gs es h.2) (by rw [plain_asg h.1]; rfl)
  | [], _ :: _, h => by cases h
  | _ :: _, [], h => by cases h
end
mutual
theorem bindG_len : ∀ {g : G} {d : D} {v v' : Env}, bindG g d v = some v' → v'.length = v.length
  | .n i, d, v, v', h => by
    simp only [bindG, Option.some.injEq] at h
    rw [← h, List.length_set]
  | .t gs, d, v, v', h => by
    cases d with
    | tup ds => exact bindGs_len (gs := gs) (ds := ds) (by simpa [bindG] using h)
    | lst ds => exact bindGs_len (gs := gs) (ds := ds) (by simpa [bindG] using h)
    | _ => simp [bindG] at h
theorem bindGs_len : ∀ {gs : List G} {ds : List D} {v v' : Env}, bindGs gs ds v = some v' → v'.length = v.length
  | [], [], v, v', h => by
    simp only [bindGs, Option.some.injEq] at h
    rw [h]
  | g :: gs, d :: ds, v, v', h => by
    simp only [bindGs] at h
    cases h1 : bindG g d v with
    | none => rw [h1] at h; cases h
    | some v1 =>
      rw [h1] at h
      rw [bindGs_len (gs := gs) (ds := ds) (by simpa using h), bindG_len h1]
  | [], _ :: _, v, v', h => by simp [bindGs] at h
  | _ :: _, [], v, v', h => by simp [bindGs] at h
end
/-- what is known behind a target -/
abbrev Set1 (c : Cfg) (xo : Xs) (F H : Hp) (L : Ft) (sl : List Nat) (σ : _root_.L2.St) (v' : Env) (K : _root_.L2.St → Hp → Prop) : Prop := ∀ σ', (∀ i, i ∉ sl → σ'[i]? = σ[i]?) → Rel c xo F H (Lw sl L) σ' v' → K σ' H
mutual
theorem gR_ok : ∀ {g : G} {d : D} {x : V} {σ : _root_.L2.St} {L : Ft} {v v' : Env} {K : _root_.L2.St → Hp → Prop}, Rel c xo F H L σ v → Rep c F d x → bindG g d v = some v' → (∀ i ∈ g.sl, i ∉ xo.fr) → Set1 c xo F H L g.sl σ v' K → gR c.K g x σ H K
  | .n i, d, x, σ, L, v, v', K, R, r, h, hx, k => by
    simp only [bindG, Option.some.injEq] at h
    subst h
    refine k _ (fun j hj => ?_) (R.setF r (hx i (by simp [G.sl])))
    have : j ≠ i := by simpa [G.sl] using hj
    rw [List.getElem?_set_ne (Ne.symm this)]
  | .t gs, d, x, σ, L, v, v', K, R, r, h, hx, k => by
    cases d with
    | tup ds =>
      obtain ⟨a, vs, rfl, h2, h3⟩ := r
      obtain ⟨q1, q2⟩ := gRs_ok (gs := gs) (σ := σ) R h3 (by simpa [bindG] using h) hx k
      exact .inl ⟨a, vs, rfl, Same.tup R.le h2, q1, q2⟩
    | lst ds =>
      obtain ⟨a, vs, rfl, h2, h3⟩ := r
      obtain ⟨q1, q2⟩ := gRs_ok (gs := gs) (σ := σ) R h3 (by simpa [bindG] using h) hx k
      exact .inr ⟨a, vs, rfl, Same.seq R.le h2, q1, q2⟩
    | _ => simp [bindG] at h
theorem gRs_ok : ∀ {gs : List G} {ds : List D} {vs : List V} {σ : _root_.L2.St} {L : Ft} {v v' : Env} {K : _root_.L2.St → Hp → Prop}, Rel c xo F H L σ v → Reps c F ds vs → bindGs gs ds v = some v' → (∀ i ∈ G.sls gs, i ∉ xo.fr) → Set1 c xo F H L (G.sls gs) σ v' K → vs.length = gs.length ∧ gRs c.K gs vs σ H K
  | [], [], vs, σ, L, v, v', K, R, r, h, hx, k => by
    simp only [bindGs, Option.some.injEq] at h
    subst h
    cases (show vs = _ from r)
    refine ⟨rfl, rfl, k σ (fun _ _ => rfl) ?_⟩
    rw [show G.sls [] = [] from rfl, Lw_nil]
    exact R
  | g :: gs, d :: ds, vs, σ, L, v, v', K, R, r, h, hx, k => by
    obtain ⟨u, us, rfl, r1, r2⟩ := r
    simp only [bindGs] at h
    cases h1 : bindG g d v with
    | none => rw [h1] at h; cases h
    | some v1 =>
      rw [h1] at h
      have h : bindGs gs ds v1 = some v' := by simpa using h
      have len : us.length = gs.length := by
        have : ∀ {gs : List G} {ds : List D} {v v' : Env}, bindGs gs ds v = some v' → ds.length = gs.length := by
          intro gs
          induction gs with
          | nil => intro ds v v' h; cases ds <;> simp [bindGs] at h ⊢
          | cons g gs ih =>
            intro ds v v' h
            cases ds with
            | nil => simp [bindGs] at h
            | cons d ds =>
              simp only [bindGs] at h
              cases h1 : bindG g d v with
              | none => rw [h1] at h; cases h
              | some v1 =>
                rw [h1] at h
                rw [List.length_cons, List.length_cons, ih (by simpa using h)]
        rw [← this h, r2.length]
      refine ⟨by rw [List.length_cons, List.length_cons, len], u, us, rfl, gR_ok (g := g) R r1 h1 (fun i hi => hx i (by simp [G.sls, hi])) fun σ1 hσ R1 => ?_⟩
      refine (gRs_ok (gs := gs) R1 r2 h (fun i hi => hx i (by simp [G.sls, hi])) fun σ2 hσ2 R2 => ?_).2
      refine k σ2 (fun i hi => ?_) ?_
      · simp only [G.sls, List.mem_append, not_or] at hi
        rw [hσ2 i hi.2, hσ i hi.1]
      · rw [Lw_app] at R2
        exact R2
  | [], _ :: _, _, _, _, _, _, _, _, _, h, _, _ => by simp [bindGs] at h
  | _ :: _, [], _, _, _, _, _, _, _, _, h, _, _ => by simp [bindGs] at h
end
end
end Pv

set_option Elab.async false
set_option linter.all false
set_option maxRecDepth 100000
/-! PvU: comprehensions: the state. -/
namespace Pv
open PySem PySem.Spec PyProof.Rows L2

theorem wipe_len {own : List Nat} {v : Env} : (wipe own v).length = v.length := by
  unfold wipe
  induction own generalizing v with
  | nil => rfl
  | cons i own ih => rw [List.foldl_cons, ih, List.length_set]
theorem wipe_at {own : List Nat} {v : Env} {i : Nat} : getS (wipe own v) i = if i ∈ own then none else getS v i := by
  unfold wipe
  induction own generalizing v with
  | nil => simp
  | cons j own ih =>
    rw [List.foldl_cons, ih, getS_set]
    by_cases h1 : i ∈ own
    · simp [h1]
    · by_cases h2 : j = i
      · subst h2
        simp only [h1, if_false, List.mem_cons, true_or, if_true, true_and]
        split
        · rfl
        · rename_i h3
          unfold getS
          rw [List.getElem?_eq_none (by omega)]
          rfl
      · simp [h1, h2, Ne.symm h2]
theorem wipe_get {own : List Nat} {σ : _root_.L2.St} {i : Nat} (h : i ∉ own) : (_root_.L2.wipe σ own)[i]? = σ[i]? := by
  induction own with
  | nil => rfl
  | cons j own ih =>
    simp only [List.mem_cons, not_or] at h
    unfold _root_.L2.wipe
    rw [List.getElem?_set_ne (Ne.symm h.1), ih h.2]
theorem wipe_none {own : List Nat} {σ : _root_.L2.St} {i : Nat} (h : i ∈ own) (hl : i < σ.length) : (_root_.L2.wipe σ own)[i]? = some none := by
  induction own with
  | nil => cases h
  | cons j own ih =>
    unfold _root_.L2.wipe
    by_cases h2 : j = i
    · subst h2
      rw [List.getElem?_set_self (by rw [_root_.L2.wipe_length]; exact hl)]
    · rw [List.getElem?_set_ne h2]
      rcases List.mem_cons.mp h with h | h
      · exact absurd h.symm h2
      · exact ih h
theorem wipe_eq {own : List Nat} {σ σ' : _root_.L2.St} (hl : σ'.length = σ.length) (h : ∀ i, i ∉ own → σ'[i]? = σ[i]?) : _root_.L2.wipe σ' own = _root_.L2.wipe σ own := by
  apply List.ext_getElem?
  intro i
  by_cases hi : i ∈ own
  · by_cases hs : i < σ.length
    · rw [wipe_none hi hs, wipe_none hi (by omega)]
    · rw [List.getElem?_eq_none (by rw [_root_.L2.wipe_length]; omega), List.getElem?_eq_none (by rw [_root_.L2.wipe_length]; omega)]
  · rw [wipe_get hi, wipe_get hi, h i hi]
theorem wipe_wipe {own own2 : List Nat} {σ : _root_.L2.St} (h : ∀ i ∈ own2, i ∈ own) : _root_.L2.wipe (_root_.L2.wipe σ own2) own = _root_.L2.wipe σ own :=
  wipe_eq (_root_.L2.wipe_length _ _) fun i hi => wipe_get fun z => hi (h i z)
theorem backOwn_len {own : List Nat} {v0 v : Env} : (backOwn own v0 v).length = v.length := by
  unfold backOwn
  induction own generalizing v with
  | nil => rfl
  | cons i own ih => rw [List.foldl_cons, ih, List.length_set]
theorem backOwn_at {own : List Nat} {v0 v : Env} {i : Nat} (hl : v.length = v0.length) : getS (backOwn own v0 v) i = if i ∈ own then getS v0 i else getS v i := by
  unfold backOwn
  induction own generalizing v with
  | nil => simp
  | cons j own ih =>
    rw [List.foldl_cons, ih (by rw [List.length_set]; exact hl), getS_set]
    by_cases h1 : i ∈ own
    · simp [h1]
    · by_cases h2 : j = i
      · subst h2
        simp only [h1, if_false, List.mem_cons, true_or, if_true, true_and]
        split
        · rename_i h3
          unfold getS
          rw [List.getElem?_eq_getElem (by omega)]
          rfl
        · unfold getS
          rw [List.getElem?_eq_none (by omega), List.getElem?_eq_none (by omega)]
      · simp [h1, h2, Ne.symm h2]
section
variable {X : Cx} {c : Cfg} {T : Tbl} {P : Fn} {xo : Xs} {W0 : WX} {e : Bool} {e1 e2 e3 e4 o tg : Expr} {es xs : List Expr} {a b d g : E} {p p' p2 ap : Pos} {σ : _root_.L2.St} {F F' F1 F2 F0 F3 F4 H H' H0 H1 H2 H3 H4 : Hp} {L L' L0 L1 L2 L3 L4 Lc : Ft} {Q : VK} {J : Info} {A : Ad} {v v1 : Env} {D : Addr} {os : List O} {own own2 : List Nat}
/-- Rel sees of v the slots and the length -/
theorem Rel.env {v' : Env} (R : Rel c xo F H L σ v) (hl : v'.length = v.length) (h : ∀ i, getS v' i = getS v i) : Rel c xo F H L σ v' :=
  ⟨R.le, fun i o q => R.slot i o (by rw [← h i]; exact q), R.nd, R.dj, R.df, fun i q => R.dead i (by rw [← h i]; exact q), by rw [R.len, hl], R.xs⟩
theorem Rel.wiped (R : Rel c xo F H L σ v) (hx : ∀ i ∈ own, i ∉ xo.fr) : Rel c xo F H (Lw own L) (_root_.L2.wipe σ own) (wipe own v) := by
  refine ⟨R.le, fun i o h => ?_, fun i => ?_, fun i j q hi hj => R.dj i j q (Lw_mem hi).1 (Lw_mem hj).1, fun i q hq => R.df i q (Lw_mem hq).1, fun i h => ?_, by rw [_root_.L2.wipe_length, wipe_len, R.len], xo.cong (fun i hi => wipe_get fun z => hx i z hi) R.xs⟩
  · rw [wipe_at] at h
    split at h
    · cases h
    · rename_i hi
      obtain ⟨u, h1, h2⟩ := R.slot i o h
      refine ⟨u, by rw [wipe_get hi]; exact h1, ?_⟩
      unfold Lw
      rw [if_neg hi]
      exact h2
  · unfold Lw
    split
    · exact List.nodup_nil
    · exact R.nd i
  · unfold Lw
    split
    · rfl
    · rename_i hi
      rw [wipe_at, if_neg hi] at h
      exact R.dead i h
theorem Rel.own_nil (R : Rel c xo F H L σ (wipe own v)) : Lw own L = L := by
  funext i
  unfold Lw
  split
  · rename_i hi
    rw [R.dead i (by rw [wipe_at, if_pos hi])]
  · rfl
def Lo (own : List Nat) (L1 L2 : Ft) : Ft := fun i => if i ∈ own then L1 i else L2 i
theorem Rel.unwipe {vF : Env} (R1 : Rel c xo F1 H1 L1 σ v1) (R2 : Rel c xo F2 H2 L2 (_root_.L2.wipe σ own) (wipe own vF)) (s : Step e F1 H1 (Lw own L1) F2 H2 L2) :
    Rel c xo F2 H2 (Lo own L1 L2) σ (backOwn own v1 vF) ∧ Step e F1 H1 L1 F2 H2 (Lo own L1 L2) := by
  have hl : vF.length = v1.length := by
    have := R2.len
    rw [_root_.L2.wipe_length, wipe_len, R1.len] at this
    exact this.symm
  have no : ∀ {p : Addr} {i : Nat}, i ∈ own → p ∈ L1 i → ∀ j, p ∉ Lw own L1 j := fun {p i} hi hp j hj => by
    obtain ⟨h1, h2⟩ := Lw_mem hj
    have := R1.dj i j p hp h1
    subst this
    exact h2 hi
  refine ⟨⟨R2.le, fun i o h => ?_, fun i => ?_, fun i j q hi hj => ?_, fun i q hq => ?_, fun i h => ?_, by rw [backOwn_len, ← wipe_len (own := own), ← R2.len, _root_.L2.wipe_length], xo.mono s.f R1.xs⟩, ⟨s.f, fun q x hq hl => s.h q x hq fun z i hi => hl z i (Lw_mem hi).1, fun q x hq => ?_, fun i q hq => ?_, fun z => ?_⟩⟩
  · rw [backOwn_at hl] at h
    unfold Lo
    split at h
    · rename_i hi
      rw [if_pos hi]
      obtain ⟨u, h1, h2⟩ := R1.slot i o h
      exact ⟨u, h1, Own.keep s.f o u _ (fun q x hq hx => s.h q x hx fun _ j hj => no hi hq j hj) h2⟩
    · rename_i hi
      rw [if_neg hi]
      obtain ⟨u, h1, h2⟩ := R2.slot i o (by rw [wipe_at, if_neg hi]; exact h)
      exact ⟨u, by rw [wipe_get hi] at h1; exact h1, h2⟩
  · unfold Lo
    split
    · exact R1.nd i
    · exact R2.nd i
  · unfold Lo at hi hj
    have mix : ∀ {i j : Nat}, i ∈ own → q ∈ L1 i → q ∈ L2 j → False := fun {i j} h1 h2 h3 => by
      rcases s.l j q h3 with h4 | ⟨k, h4⟩
      · obtain ⟨x, hx⟩ := R1.mem h2
        rw [h4] at hx
        cases hx
      · exact no h1 h2 k h4
    split at hi
    · split at hj
      · exact R1.dj i j q hi hj
      · exact (mix (by assumption) hi hj).elim
    · split at hj
      · exact (mix (by assumption) hj hi).elim
      · exact R2.dj i j q hi hj
  · unfold Lo at hq
    split at hq
    · rename_i hi
      cases h : F2 q with
      | none => rfl
      | some x =>
        obtain ⟨y, hy⟩ := R1.mem hq
        rcases s.g q x h with h1 | h1 | ⟨_, j, h1⟩
        · rw [R1.df i q hq] at h1; cases h1
        · rw [h1] at hy; cases hy
        · exact (no hi hq j h1).elim
    · exact R2.df i q hq
  · rw [backOwn_at hl] at h
    unfold Lo
    split at h
    · rename_i hi
      rw [if_pos hi]
      exact R1.dead i h
    · rename_i hi
      rw [if_neg hi]
      exact R2.dead i (by rw [wipe_at, if_neg hi]; exact h)
  · rcases s.g q x hq with h | h | ⟨z, j, h⟩
    · exact .inl h
    · exact .inr (.inl h)
    · exact .inr (.inr ⟨z, j, (Lw_mem h).1⟩)
  · unfold Lo at hq
    split at hq
    · exact .inr ⟨i, hq⟩
    · rcases s.l i q hq with h | ⟨j, h⟩
      · exact .inl h
      · exact .inr ⟨j, (Lw_mem h).1⟩
  · rw [s.q z]
    funext i
    unfold Lo Lw
    split <;> rfl
theorem Rel.updNew {o : HO} (R : Rel c xo F H L σ v) (h : F D = none) (hL : ∀ i, D ∉ L i) : Rel c xo F (upd H D o) L σ v := by
  refine ⟨fun q x hx => ?_, fun i w hw => ?_, R.nd, R.dj, R.df, R.dead, R.len, R.xs⟩
  · by_cases z : q = D
    · rw [z, h] at hx; cases hx
    · rw [upd_ne z]; exact R.le q x hx
  · obtain ⟨u, h1, h2⟩ := R.slot i w hw
    refine ⟨u, h1, Own.keep (Same.refl F) w u _ (fun q x hq hx => ?_) h2⟩
    rw [upd_ne fun z => hL i (by rw [← z]; exact hq)]
    exact hx
/-- an item has come -/
theorem yield_ok {ds : List Pv.D} {i : Nat} {x : V} (R : Rel c xo F H L σ v) (hs : Same F1 F) (y : YD c F1 ds i H x H') : ∃ d F2, ds[i]? = some d ∧ Rel c xo F2 H' L σ v ∧ Step e F H L F2 H' L ∧ Rep c F2 d x ∧ Same F1 F2 := by
  obtain ⟨d, hd, h⟩ := y
  rcases h with ⟨rfl, r⟩ | ⟨T, o, h1, rfl, h2⟩
  · exact ⟨d, F, hd, R, Step.refl, Rep.mono hs d x r, hs⟩
  · exact ⟨d, upd F T o, hd, R.newF h1, Step.newF R.le h1, h2 F hs (R.le.free h1), hs.trans (same_new (R.le.free h1))⟩

/-! ### the new list at D, its items so far -/
structure Mid (c : Cfg) (e : Bool) (F0 H0 : Hp) (L0 : Ft) (D : Addr) (os : List O) (F H : Hp) (L : Ft) : Prop where
  s : Step e F0 H0 L0 F H L
  m : ∃ vs B, H D = some (.lst vs) ∧ Owns c F H os vs B ∧ Free F L (D :: B) ∧ New e H0 L0 (D :: B)
theorem Mid.at (M : Mid c e F0 H0 L0 D os F H L) : F D = none ∧ ∀ i, D ∉ L i := by
  obtain ⟨vs, B, h1, h2, h3, h4⟩ := M.m
  exact ⟨h3.f D List.mem_cons_self, fun i => h3.l i D List.mem_cons_self⟩
theorem Mid.step (M : Mid c e F0 H0 L0 D os F H L) (s : Step e F H L F' H' L') : Mid c e F0 H0 L0 D os F' H' L' := by
  obtain ⟨vs, B, h1, h2, h3, h4⟩ := M.m
  have k : ∀ p x, p ∈ D :: B → H p = some x → H' p = some x := fun p x hp hx => s.h p x hx fun _ i => h3.l i p hp
  refine ⟨M.s.trans s, vs, B, k D _ List.mem_cons_self h1, Owns.keep s.f os vs B (fun p x hp => k p x (List.mem_cons_of_mem _ hp)) h2, h3.step (fun p hp => ?_) s, h4⟩
  rcases List.mem_cons.mp hp with rfl | hp
  · exact ⟨_, h1⟩
  · exact Owns.mem os vs B h2 p hp
theorem Mid.lw (M : Mid c e F0 H0 L0 D os F H L) (h : e = false → Lw own L = L) : Mid c e F0 H0 L0 D os F H (Lw own L) := by
  obtain ⟨vs, B, h1, h2, h3, h4⟩ := M.m
  exact ⟨M.s.lw h, vs, B, h1, h2, ⟨h3.nd, h3.f, fun i p hp hi => h3.l i p hp (Lw_mem hi).1⟩, h4⟩
theorem owns_app : ∀ {xs : List O} {vs : List V} {B : List Addr} {o : O} {u : V} {B2 : List Addr}, Owns c F H xs vs B → Own c F H o u B2 → Owns c F H (xs ++ [o]) (vs ++ [u]) (B ++ B2)
  | [], vs, B, o, u, B2, ⟨h1, h2⟩, h => by
    subst h1 h2
    exact ⟨u, [], B2, [], rfl, by simp, h, rfl, rfl⟩
  | x :: xs, vs, B, o, u, B2, ⟨w, r, A1, A2, h1, h2, h3, h4⟩, h => by
    subst h1 h2
    exact ⟨w, r ++ [u], A1, A2 ++ B2, rfl, by simp, h3, owns_app h4 h⟩
theorem Mid.add {o : O} {u : V} {B4 : List Addr} (M : Mid c e F0 H0 L0 D os F3 H3 L3) (s : Step e F3 H3 L3 F4 H4 L4) (ow : Own c F4 H4 o u B4) (fr : Free F4 L4 B4) (n : New e H3 L3 B4) :
    ∃ vs, H4 D = some (.lst vs) ∧ vs.length = os.length ∧ Mid c e F0 H0 L0 D (os ++ [o]) F4 (upd H4 D (.lst (vs ++ [u]))) L4 := by
  obtain ⟨vs, B, h1, h2, h3, h4⟩ := M.m
  have m3 : ∀ p ∈ D :: B, ∃ x, H3 p = some x := fun p hp => by
    rcases List.mem_cons.mp hp with rfl | hp
    · exact ⟨_, h1⟩
    · exact Owns.mem os vs B h2 p hp
  have dis : ∀ p ∈ D :: B, p ∉ B4 := fun p hp hq => by
    rcases n p hq with h | ⟨_, i, h⟩
    · obtain ⟨x, hx⟩ := m3 p hp
      rw [h] at hx; cases hx
    · exact h3.l i p hp h
  have M4 := M.step s
  have k : ∀ p x, p ∈ D :: B → H3 p = some x → H4 p = some x := fun p x hp hx => s.h p x hx fun _ i => h3.l i p hp
  have e1 := k D _ List.mem_cons_self h1
  have w4 : Owns c F4 H4 os vs B := Owns.keep s.f os vs B (fun p x hp => k p x (List.mem_cons_of_mem _ hp)) h2
  have f4 := h3.step m3 s
  have nd := List.nodup_cons.mp f4.nd
  have n4 : New e H0 L0 B4 := n.step M.s
  have nD : H0 D = none ∨ (e = true ∧ ∃ i, D ∈ L0 i) := h4 D List.mem_cons_self
  refine ⟨vs, e1, h2.length.symm, ⟨?_, vs ++ [u], B ++ B4, upd_same, ?_, ⟨?_, fun p hp => ?_, fun i p hp => ?_⟩, fun p hp => ?_⟩⟩
  · refine ⟨M4.s.f, fun p x hp hl => ?_, M4.s.g, M4.s.l, M4.s.q⟩
    have hne : p ≠ D := fun z => by
      subst z
      rcases nD with h | ⟨z, i, h⟩
      · rw [hp] at h; cases h
      · exact hl z i h
    rw [upd_ne hne]
    exact M4.s.h p x hp hl
  · refine owns_app (Owns.keep (Same.refl _) os vs B (fun p x hp hx => ?_) w4) (Own.keep (Same.refl _) o u B4 (fun p x hp hx => ?_) ow)
    · rw [upd_ne fun z => nd.1 (by rw [← z]; exact hp)]; exact hx
    · rw [upd_ne fun z => dis D List.mem_cons_self (by rw [← z]; exact hp)]; exact hx
  · refine List.nodup_cons.mpr ⟨fun z => ?_, List.nodup_append.mpr ⟨nd.2, fr.nd, fun x hx y hy z => ?_⟩⟩
    · rcases List.mem_append.mp z with z | z
      · exact nd.1 z
      · exact dis D List.mem_cons_self z
    · subst z
      exact dis x (List.mem_cons_of_mem _ hx) hy
  · rcases List.mem_cons.mp hp with rfl | hp
    · exact f4.f _ List.mem_cons_self
    · rcases List.mem_append.mp hp with hp | hp
      · exact f4.f p (List.mem_cons_of_mem _ hp)
      · exact fr.f p hp
  · rcases List.mem_cons.mp hp with rfl | hp
    · exact f4.l i _ List.mem_cons_self
    · rcases List.mem_append.mp hp with hp | hp
      · exact f4.l i p (List.mem_cons_of_mem _ hp)
      · exact fr.l i p hp
  · rcases List.mem_cons.mp hp with rfl | hp
    · exact nD
    · rcases List.mem_append.mp hp with hp | hp
      · exact h4 p (List.mem_cons_of_mem _ hp)
      · exact n4 p hp
/-- the list is begun -/
theorem Mid.zero {D : Addr} (R : Rel c xo F H L σ v) (hD : H D = none) : Mid c e F H L D [] F (upd H D (.lst [])) L := by
  have hL : ∀ i, D ∉ L i := fun i h => by
    obtain ⟨x, hx⟩ := R.mem h
    rw [hD] at hx; cases hx
  refine ⟨Step.newH hD, [], [], upd_same, ⟨rfl, rfl⟩, ⟨List.nodup_cons.mpr ⟨List.not_mem_nil, List.nodup_nil⟩, fun p hp => ?_, fun i p hp => ?_⟩, fun p hp => ?_⟩
  · rcases List.mem_cons.mp hp with rfl | hp
    · exact R.le.free hD
    · cases hp
  · rcases List.mem_cons.mp hp with rfl | hp
    · exact hL i
    · cases hp
  · rcases List.mem_cons.mp hp with rfl | hp
    · exact .inl hD
    · cases hp
end
end Pv

set_option Elab.async false
set_option linter.all false
set_option maxRecDepth 100000
/-! PvV: comprehensions. -/
namespace Pv
open PySem PySem.Spec PyProof.Rows L2

/-- nothing is let out -/
abbrev WF : WX := fun _ _ _ _ => False
/-- a clause's test -/
def ttO (c : Cfg) (T : Tbl) (P : Fn) (xo : Xs) (W : WX) : OE → TT
  | .no => tYes
  | .yes a => tT c T P xo W a
/-- a step of a comprehension -/
def lcStep (T : Tbl) (P : Fn) (X : Option Exc) (own : List Nat) (g : G) (t : OE) (a : E) : D → Env → R (Option O) := fun d v => match bindG g d (wipe own v) with
  | some v => (evc T P X t v).bind fun b v => match b with
    | true => (ev T P X a v).bind fun x v => match x.own with
      | some o => .ok (some o) v
      | none => .bad
    | false => .ok none v
  | none => .bad
section
variable {X : Cx} {c : Cfg} {T : Tbl} {P : Fn} {xo : Xs} {W0 : WX} {e : Bool} {e1 e2 e3 e4 o tg : Expr} {es xs : List Expr} {a b d : E} {g g2 : G} {p p' p2 ap : Pos} {σ : _root_.L2.St} {F F' F1 F2 F0 F3 F4 H H' H0 H1 H2 H3 H4 : Hp} {L L' L0 L1 L2 L3 L4 Lc : Ft} {Q : VK} {J : Info} {A : Ad} {v v1 : Env} {K : Addr} {os : List O} {own own2 : List Nat} {t t2 : OE}
theorem lcLoop_exc {step : D → Env → R (Option O)} : ∀ {ds : List D} {acc : List O} {v : Env} {x : Exc} {v' : Env}, lcLoop step ds acc v ≠ .exc x v'
  | [], acc, v, x, v' => by simp [lcLoop]
  | d :: ds, acc, v, x, v' => by
    unfold lcLoop
    split
    · exact lcLoop_exc
    · split
      · exact lcLoop_exc
      · simp
    · simp
theorem own_rv {x : Val} {o : O} {u : V} {B : List Addr} (h : x.own = some o) (r : RV c F H L x u B) : ∃ B2, Own c F H o u B2 ∧ Free F L B2 ∧ ∀ p ∈ B2, p ∈ B := by
  cases x with
  | fz d => cases h; exact ⟨[], ⟨r, rfl⟩, Free.nil, fun _ z => by cases z⟩
  | tmp o' => cases h; exact ⟨B, r.1, r.2.1, fun _ z => z⟩
  | vw _ _ => cases h
/-- a clause's test, by its value -/
theorem tt_ok {bv : Bool} {v2 : Env} {QT : Bool → Hp → Prop} (R0 : Rel c xo F H L σ v) (h : evc T P xo.e t v = .ok bv v2) (k : ∀ F2 H2 L2, Rel c xo F2 H2 L2 σ v2 → Step (!t.pur) F H L F2 H2 L2 → QT bv H2) : ttO c T P xo W0 t σ H QT := by
  cases t with
  | no =>
    simp only [evc] at h
    cases h
    exact k F H L R0 Step.refl
  | yes a =>
    refine ⟨F, L, v, R0, ?_⟩
    simp only [evc] at h
    rw [h]
    exact fun F2 H2 L2 B R2 s n => k F2 H2 L2 R2 s
/-- the turns of one clause; D0: the new list -/
theorem loop_core {J : It} {ds : List D} {D0 : Addr} {σ1 : _root_.L2.St} {acc0 os : List O} {w0 vF : Env} {Qd : Hp → Prop} (wJ : WalkD c F1 J ds) (hgs : ∀ i ∈ g.sl, i ∈ own) (hxo : ∀ i ∈ own, i ∉ xo.fr) (ht : e = false → t.pur = true) (ha : e = false → a.pur = true)
    (hr : lcLoop (lcStep T P xo.e own g t a) ds acc0 w0 = .ok os vF) (hF : Same F1 F) (R0 : Rel c xo F H L (_root_.L2.wipe σ1 own) (wipe own w0)) (M0 : Mid c e F0 H0 L0 D0 acc0 F H L)
    (hd : ∀ F' L' H', Rel c xo F' H' L' (_root_.L2.wipe σ1 own) (wipe own vF) → Step e F H L F' H' L' ∨ Mid c e F0 H0 L0 D0 os F' H' L' → Same F F' → Mid c e F0 H0 L0 D0 os F' H' L' → Qd H') :
    ∃ W : Nat → Nat → Hp → Prop, (∃ m, W 0 m H) ∧ ∀ i m H, W i m H → (J.stop i H ∧ Qd H) ∨ (J.go i H ∧ ∃ Nx : Hp → Prop, (∀ H', Nx H' → ∃ m', m' < m ∧ W (i + 1) m' H') ∧ ∀ x H', J.yld i H x H' → gR c.K g x (_root_.L2.wipe σ1 own) H' fun σ2 H2 => _root_.L2.wipe σ2 own = _root_.L2.wipe σ1 own ∧ ttO c T P xo WF t σ2 H2 fun b H3 =>
      if b = true then tE c T P xo WF a σ2 H3 fun y H4 => ∃ acc, H4 D0 = some (.lst acc) ∧ acc.length < sizeLine ∧ Nx (upd H4 D0 (.lst (acc ++ [y]))) else Nx H3) := by
  refine ⟨fun i m H' => m = ds.length - i ∧ i ≤ ds.length ∧ ∃ F' L' acc w, lcLoop (lcStep T P xo.e own g t a) (ds.drop i) acc w = .ok os vF ∧ Same F F' ∧ Rel c xo F' H' L' (_root_.L2.wipe σ1 own) (wipe own w) ∧ Mid c e F0 H0 L0 D0 acc F' H' L', ⟨ds.length, by simp, Nat.zero_le _, F, L, acc0, w0, hr, Same.refl F, R0, M0⟩, ?_⟩
  rintro i m H' ⟨rfl, hi, F', L', acc, w, hl, hFF, R', M'⟩
  have hG : Same F1 H' := (hF.trans hFF).trans R'.le
  by_cases hlt : i < ds.length
  · refine .inr ⟨wJ.goes i H' hlt hG, fun H'' => i + 1 ≤ ds.length ∧ ∃ F' L' acc w, lcLoop (lcStep T P xo.e own g t a) (ds.drop (i + 1)) acc w = .ok os vF ∧ Same F F' ∧ Rel c xo F' H'' L' (_root_.L2.wipe σ1 own) (wipe own w) ∧ Mid c e F0 H0 L0 D0 acc F' H'' L', fun H'' q => ⟨ds.length - (i + 1), by omega, rfl, hlt, q.2⟩, fun x H2 hy => ?_⟩
    obtain ⟨d, F2, hd1, R2, s2, r2, hF2⟩ := yield_ok (e := e) R' (hF.trans hFF) (wJ.yields i H' x H2 hlt hG hy)
    have M2 := M'.step s2
    have hdrop : ds.drop i = d :: ds.drop (i + 1) := by
      rw [List.drop_eq_getElem_cons hlt]
      congr 1
      rw [List.getElem?_eq_getElem hlt] at hd1
      exact Option.some.inj hd1
    rw [hdrop] at hl
    unfold lcLoop at hl
    have hs : ∃ w2, bindG g d (wipe own w) = some w2 := by
      cases hb : bindG g d (wipe own w) with
      | some w2 => exact ⟨w2, rfl⟩
      | none =>
        have : lcStep T P xo.e own g t a d w = .bad := by
          unfold lcStep
          rw [hb]
        rw [this] at hl
        cases hl
    obtain ⟨w2, hb⟩ := hs
    have hstep : lcStep T P xo.e own g t a d w = (evc T P xo.e t w2).bind fun b v => match b with
        | true => (ev T P xo.e a v).bind fun x v => match x.own with
          | some o => .ok (some o) v
          | none => .bad
        | false => .ok none v := by
      unfold lcStep
      rw [hb]
    rw [hstep] at hl
    refine gR_ok R2 r2 hb (fun i hi => hxo i (hgs i hi)) fun σ2 hσ R3 => ?_
    have hLw : Lw g.sl L' = L' := by
      have h1 := R'.own_nil
      funext j
      unfold Lw
      split
      · rename_i hj
        have := congrFun h1 j
        unfold Lw at this
        rw [if_pos (hgs j hj)] at this
        exact this
      · rfl
    rw [hLw] at R3
    have hlen : σ2.length = (_root_.L2.wipe σ1 own).length := by rw [R3.len, bindG_len hb, R2.len]
    have hw : _root_.L2.wipe σ2 own = _root_.L2.wipe σ1 own := by
      rw [← wipe_wipe (own := own) (own2 := own) (σ := σ1) fun _ z => z]
      exact wipe_eq hlen fun j hj => hσ j fun z => hj (hgs j z)
    refine ⟨hw, ?_⟩
    cases hc : evc T P xo.e t w2 with
    | ok bv w3 =>
      rw [hc] at hl
      refine tt_ok R3 hc fun F3 H3 L3 R4 s4 => ?_
      have s4 := s4.mono (e := e) fun z => by rw [ht z]; rfl
      have M3 := M2.step s4
      -- to the next turn
      have next : ∀ {F5 H5 : Hp} {L5 : Ft} {w5 : Env} {acc5 : List O}, Rel c xo F5 H5 L5 σ2 w5 → Mid c e F0 H0 L0 D0 acc5 F5 H5 L5 → Same F2 F5 → (e = false → L5 = L') → lcLoop (lcStep T P xo.e own g t a) (ds.drop (i + 1)) acc5 w5 = .ok os vF →
          i + 1 ≤ ds.length ∧ ∃ F' L' acc w, lcLoop (lcStep T P xo.e own g t a) (ds.drop (i + 1)) acc w = .ok os vF ∧ Same F F' ∧ Rel c xo F' H5 L' (_root_.L2.wipe σ1 own) (wipe own w) ∧ Mid c e F0 H0 L0 D0 acc F' H5 L' := fun {F5 H5 L5 w5 acc5} R5 M5 h1 h2 h3 => by
        have R6 := R5.wiped (own := own) hxo
        rw [hw] at R6
        exact ⟨hlt, F5, _, acc5, w5, h3, (hFF.trans s2.f).trans h1, R6, M5.lw fun z => by rw [h2 z]; exact R'.own_nil⟩
      cases bv with
      | false =>
        have hl : lcLoop (lcStep T P xo.e own g t a) (ds.drop (i + 1)) acc w3 = .ok os vF := hl
        rw [if_neg (by simp)]
        exact next R4 M3 s4.f (fun z => s4.q z) hl
      | true =>
        rw [if_pos rfl]
        refine ⟨F3, L3, w3, R4, ?_⟩
        cases hv : ev T P xo.e a w3 with
        | ok x w4 =>
          have hl : (match (match x.own with
            | some o => R.ok (some o) w4
            | none => .bad : R (Option O)) with
            | .ok none v => lcLoop (lcStep T P xo.e own g t a) (ds.drop (i + 1)) acc v
            | .ok (some o) v => if decide (acc.length < sizeLine) then lcLoop (lcStep T P xo.e own g t a) (ds.drop (i + 1)) (acc ++ [o]) v else .bad
            | _ => .bad) = R.ok os vF := by
            have hl := hl
            simp only [R.bind, hv] at hl
            exact hl
          intro F4 H4 L4 B4 R5 s5 n5 u r5
          have s5 := s5.mono (e := e) fun z => by rw [ha z]; rfl
          have n5 := n5.mono (e := e) fun z => by rw [ha z]; rfl
          cases ho : x.own with
          | none => rw [ho] at hl; cases hl
          | some oo =>
            rw [ho] at hl
            obtain ⟨B5, ow, fr, sub⟩ := own_rv ho r5
            obtain ⟨vs, e1, e2, M4⟩ := M3.add s5 ow fr fun p hp => n5 p (sub p hp)
            have hl : (if decide (acc.length < sizeLine) then lcLoop (lcStep T P xo.e own g t a) (ds.drop (i + 1)) (acc ++ [oo]) w4 else .bad) = R.ok os vF := hl
            split at hl
            · rename_i hsz
              have hsz : acc.length < sizeLine := by simpa using hsz
              have R6 : Rel c xo F4 (upd H4 D0 (.lst (vs ++ [u]))) L4 σ2 w4 := R5.updNew M4.at.1 M4.at.2
              exact ⟨vs, e1, by omega, next R6 M4 (s4.f.trans s5.f) (fun z => by rw [s5.q z, s4.q z]) hl⟩
            · cases hl
        | exc x w4 =>
          simp only [R.bind, hv] at hl
          cases hl
        | bad =>
          simp only [R.bind, hv] at hl
          cases hl
    | exc x w3 =>
      rw [hc] at hl
      cases hl
    | bad =>
      rw [hc] at hl
      cases hl
  · have e1 : i = ds.length := by omega
    subst e1
    rw [List.drop_length] at hl
    simp only [lcLoop, R.ok.injEq] at hl
    obtain ⟨rfl, rfl⟩ := hl
    exact .inl ⟨wJ.stops H' hG, hd F' L' H' R' (.inr M') hFF M'⟩
theorem own_snd {N : List Str} {own : List Nat} : (ownOf N own).map (·.2) = own := by
  unfold ownOf
  rw [List.map_map]
  exact List.map_id' own
/-- the reading of [elt for tg in iter if ..] -/
theorem lc_read {it : Pv.I} (q : tE c T P xo W0 (.lc own g it t a) σ H Q) (hgs : ∀ i ∈ g.sl, i ∈ own) (hxo : ∀ i ∈ own, i ∉ xo.fr) : tLc (tI c T P xo W0 it) (gR c.K g) (ttO c T P xo WF t) (tE c T P xo WF a) own σ H Q := by
  obtain ⟨F, L, v, R0, q⟩ := q
  simp only [ev] at q
  have pp : ((!(E.lc own g it t a).pur) = false → it.pur = true) ∧ ((!(E.lc own g it t a).pur) = false → t.pur = true) ∧ ((!(E.lc own g it t a).pur) = false → a.pur = true) := by
    simp only [E.pur]
    cases it.pur <;> cases t.pur <;> cases a.pur <;> simp
  refine ⟨F, L, v, R0, ?_⟩
  cases hI : evI T P xo.e it v with
  | ok ds v1 =>
    rw [hI] at q
    intro F1 H1 L1 B R1 s1 n1 J wJ D0 hD
    have s1 := s1.mono (e := !(E.lc own g it t a).pur) fun z => by rw [pp.1 z]; rfl
    have q : okR c xo (!(E.lc own g it t a).pur) F H L σ ((lcLoop (lcStep T P xo.e own g t a) ds [] v1).bind fun os v' => .ok (.tmp (.lst os)) (backOwn own v1 v')) (vQ c Q) (fun cls d H' => W0 cls d σ H') := q
    cases hr : lcLoop (lcStep T P xo.e own g t a) ds [] v1 with
    | ok os vF =>
      rw [hr] at q
      have q := okR.step q s1
      have Rw := R1.wiped (own := own) hxo
      have M0 := Mid.zero (e := !(E.lc own g it t a).pur) Rw hD
      refine loop_core (F0 := F1) (H0 := H1) (L0 := Lw own L1) wJ hgs hxo pp.2.1 pp.2.2 hr (Same.refl F1) (Rw.updNew M0.at.1 M0.at.2) M0 fun F' L' H' R' _ _ M' => ?_
      obtain ⟨R2, s2⟩ := R1.unwipe R' M'.s
      obtain ⟨vs, B, h1, h2, h3, h4⟩ := M'.m
      have n2 : New (!(E.lc own g it t a).pur) H1 L1 (D0 :: B) := fun p hp => by
        rcases h4 p hp with h | ⟨z, i, h⟩
        · exact .inl h
        · exact .inr ⟨z, i, (Lw_mem h).1⟩
      refine q F' H' _ (D0 :: B) R2 s2 n2 (.ref D0) ⟨⟨D0, vs, B, rfl, h1, rfl, h2⟩, ⟨h3.nd, h3.f, fun i p hp hi => ?_⟩, trivial⟩
      unfold Lo at hi
      split at hi
      · rename_i ho
        rcases h4 p hp with h | ⟨_, j, h⟩
        · obtain ⟨x, hx⟩ := R1.mem hi
          rw [h] at hx; cases hx
        · obtain ⟨h5, h6⟩ := Lw_mem h
          have := R1.dj i j p hi h5
          subst this
          exact h6 ho
      · exact h3.l i p hp hi
    | exc x v' => exact absurd hr lcLoop_exc
    | bad => rw [hr] at q; exact q.elim
  | exc x v1 => rw [hI] at q; exact fun F1 H1 L1 cls d R1 s1 rx => q F1 H1 L1 cls d R1 (s1.mono fun z => by rw [pp.1 z]; rfl) rx
  | bad => rw [hI] at q; exact q
/-- [elt for tg in iter if ..] -/
theorem s_lc {it : Pv.I} {ifs : List Expr} {sc2 : Scope} (hc : X.calm = true) (hN : X.N.Nodup) (hi : PI X tg e2 (tI c T P xo W0 it)) (ok : BlkOk X.N X.env.scope sc2 (ownOf X.N own))
    (hg : ∀ (s : Shared) (H : Hp) (C : Addr) (cl : List (Str × Addr)) (fp : List Addr), PG (X.blk s H sc2 (compEnvC sc2 cl C X.env) fp) tg (gR c.K g)) (ht : ∀ (s : Shared) (H : Hp) (C : Addr) (cl : List (Str × Addr)) (fp : List Addr), PTs (X.blk s H sc2 (compEnvC sc2 cl C X.env) fp) ifs (ttO c T P xo WF t))
    (he : ∀ (s : Shared) (H : Hp) (C : Addr) (cl : List (Str × Addr)) (fp : List Addr), PE (X.blk s H sc2 (compEnvC sc2 cl C X.env) fp) e1 (tE c T P xo WF a)) (hs : plainX e2 = true) (hgs : ∀ i ∈ g.sl, i ∈ own) (hxo : ∀ i ∈ own, i ∉ xo.fr) :
    PE X (.ListComp e1 [⟨tg, e2, ifs, 0⟩] sc2 p) (tE c T P xo W0 (.lc own g it t a)) := by
  refine pe_imp (pe_lc hc hN hi ok hg ht he fun x => plain_fold hs _ x) fun σ H Q q => ?_
  rw [own_snd]
  exact lc_read q hgs hxo
/-! ### two clauses -/
def lcStep2 (T : Tbl) (P : Fn) (X : Option Exc) (own own2 : List Nat) (g : G) (t : OE) (g2 : G) (it2 : Pv.I) (t2 : OE) (a : E) : D → List O → Env → R (List O) := fun d acc v => match bindG g d (wipe own v) with
  | some v => (evc T P X t v).bind fun b v => match b with
    | true => (evI T P X it2 v).bind fun ds2 v => lcLoop (lcStep T P X own2 g2 t2 a) ds2 acc v
    | false => .ok acc v
  | none => .bad
theorem lcLoop2_exc {step : D → List O → Env → R (List O)} : ∀ {ds : List D} {acc : List O} {v : Env} {x : Exc} {v' : Env}, lcLoop2 step ds acc v ≠ .exc x v'
  | [], acc, v, x, v' => by simp [lcLoop2]
  | d :: ds, acc, v, x, v' => by
    unfold lcLoop2
    split
    · exact lcLoop2_exc
    · simp
theorem lc2_read {it it2 : Pv.I} (q : tE c T P xo W0 (.lc2 own own2 g it t g2 it2 t2 a) σ H Q) (hgs : ∀ i ∈ g.sl, i ∈ own) (hgs2 : ∀ i ∈ g2.sl, i ∈ own2) (hoo : ∀ i ∈ own2, i ∈ own) (hxo : ∀ i ∈ own, i ∉ xo.fr) : tLc2 (tI c T P xo W0 it) (gR c.K g) (ttO c T P xo WF t) (tI c T P xo WF it2) (gR c.K g2) (ttO c T P xo WF t2) (tE c T P xo WF a) own own2 σ H Q := by
  obtain ⟨F, L, v, R0, q⟩ := q
  simp only [ev] at q
  generalize he : (!(E.lc2 own own2 g it t g2 it2 t2 a).pur) = e at q
  have pp : (e = false → it.pur = true) ∧ (e = false → t.pur = true) ∧ (e = false → it2.pur = true) ∧ (e = false → t2.pur = true) ∧ (e = false → a.pur = true) := by
    rw [← he]
    simp only [E.pur]
    cases it.pur <;> cases t.pur <;> cases it2.pur <;> cases t2.pur <;> cases a.pur <;> simp
  refine ⟨F, L, v, R0, ?_⟩
  cases hI : evI T P xo.e it v with
  | ok ds v1 =>
    rw [hI] at q
    intro F1 H1 L1 B R1 s1 n1 J wJ D0 hD
    have s1 := s1.mono (e := e) fun z => by rw [pp.1 z]; rfl
    have q : okR c xo e F H L σ ((lcLoop2 (lcStep2 T P xo.e own own2 g t g2 it2 t2 a) ds [] v1).bind fun os v' => .ok (.tmp (.lst os)) (backOwn own v1 v')) (vQ c Q) (fun cls d H' => W0 cls d σ H') := q
    cases hr : lcLoop2 (lcStep2 T P xo.e own own2 g t g2 it2 t2 a) ds [] v1 with
    | ok os vF =>
      rw [hr] at q
      have q := okR.step q s1
      have Rw := R1.wiped (own := own) hxo
      have M0 := Mid.zero (e := e) Rw hD
      -- the end
      have done : ∀ F' L' H', Rel c xo F' H' L' (_root_.L2.wipe σ own) (wipe own vF) → Mid c e F1 H1 (Lw own L1) D0 os F' H' L' → Q (.ref D0) H' := fun F' L' H' R' M' => by
        obtain ⟨R2, s2⟩ := R1.unwipe R' M'.s
        obtain ⟨vs, B, h1, h2, h3, h4⟩ := M'.m
        have n2 : New e H1 L1 (D0 :: B) := fun p hp => by
          rcases h4 p hp with h | ⟨z, i, h⟩
          · exact .inl h
          · exact .inr ⟨z, i, (Lw_mem h).1⟩
        refine q F' H' _ (D0 :: B) R2 s2 n2 (.ref D0) ⟨⟨D0, vs, B, rfl, h1, rfl, h2⟩, ⟨h3.nd, h3.f, fun i p hp hi => ?_⟩, trivial⟩
        unfold Lo at hi
        split at hi
        · rename_i ho
          rcases h4 p hp with h | ⟨_, j, h⟩
          · obtain ⟨x, hx⟩ := R1.mem hi
            rw [h] at hx; cases hx
          · obtain ⟨h5, h6⟩ := Lw_mem h
            have := R1.dj i j p hi h5
            subst this
            exact h6 ho
        · exact h3.l i p hp hi
      -- the turns
      let Iv : Nat → Hp → Prop := fun i H' => ∃ F' L' acc w, lcLoop2 (lcStep2 T P xo.e own own2 g t g2 it2 t2 a) (ds.drop i) acc w = .ok os vF ∧ Same F1 F' ∧ Rel c xo F' H' L' (_root_.L2.wipe σ own) (wipe own w) ∧ Mid c e F1 H1 (Lw own L1) D0 acc F' H' L'
      refine ⟨fun i m H' => m = ds.length - i ∧ i ≤ ds.length ∧ Iv i H', ⟨ds.length, by simp, Nat.zero_le _, F1, _, [], v1, hr, Same.refl F1, Rw.updNew M0.at.1 M0.at.2, M0⟩, ?_⟩
      rintro i m H' ⟨rfl, hi, F', L', acc, w, hl, hFF, R', M'⟩
      have hG : Same F1 H' := hFF.trans R'.le
      by_cases hlt : i < ds.length
      · refine .inr ⟨wJ.goes i H' hlt hG, fun H'' => Iv (i + 1) H'', fun H'' q => ⟨ds.length - (i + 1), by omega, rfl, hlt, q⟩, fun x H2 hy => ?_⟩
        obtain ⟨d, F2, hd1, R2, s2, r2, hF2⟩ := yield_ok (e := e) R' hFF (wJ.yields i H' x H2 hlt hG hy)
        have M2 := M'.step s2
        have hdrop : ds.drop i = d :: ds.drop (i + 1) := by
          rw [List.drop_eq_getElem_cons hlt]
          congr 1
          rw [List.getElem?_eq_getElem hlt] at hd1
          exact Option.some.inj hd1
        rw [hdrop] at hl
        unfold lcLoop2 at hl
        have hs : ∃ w2, bindG g d (wipe own w) = some w2 := by
          cases hb : bindG g d (wipe own w) with
          | some w2 => exact ⟨w2, rfl⟩
          | none =>
            have : lcStep2 T P xo.e own own2 g t g2 it2 t2 a d acc w = .bad := by
              unfold lcStep2
              rw [hb]
            rw [this] at hl
            cases hl
        obtain ⟨w2, hb⟩ := hs
        have hstep : lcStep2 T P xo.e own own2 g t g2 it2 t2 a d acc w = (evc T P xo.e t w2).bind fun b v => match b with
            | true => (evI T P xo.e it2 v).bind fun ds2 v => lcLoop (lcStep T P xo.e own2 g2 t2 a) ds2 acc v
            | false => .ok acc v := by
          unfold lcStep2
          rw [hb]
        rw [hstep] at hl
        refine gR_ok R2 r2 hb (fun i hi => hxo i (hgs i hi)) fun σ2 hσ R3 => ?_
        have nil : ∀ j ∈ own, L' j = [] := fun j hj => by
          have := congrFun R'.own_nil j
          unfold Lw at this
          rw [if_pos hj] at this
          exact this.symm
        have lwid : ∀ sl : List Nat, (∀ j ∈ sl, j ∈ own) → Lw sl L' = L' := fun sl h => by
          funext j
          unfold Lw
          split
          · rename_i hj
            exact (nil j (h j hj)).symm
          · rfl
        rw [lwid g.sl hgs] at R3
        have hlen : σ2.length = (_root_.L2.wipe σ own).length := by rw [R3.len, bindG_len hb, R2.len]
        have hw : _root_.L2.wipe σ2 own = _root_.L2.wipe σ own := by
          rw [← wipe_wipe (own := own) (own2 := own) (σ := σ) fun _ z => z]
          exact wipe_eq hlen fun j hj => hσ j fun z => hj (hgs j z)
        refine ⟨hw, ?_⟩
        cases hc : evc T P xo.e t w2 with
        | ok bv w3 =>
          rw [hc] at hl
          refine tt_ok R3 hc fun F3 H3 L3 R4 s4 => ?_
          have s4 := s4.mono (e := e) fun z => by rw [pp.2.1 z]; rfl
          have M3 := M2.step s4
          have next : ∀ {F5 H5 : Hp} {L5 : Ft} {w5 : Env} {acc5 : List O} {σ5 : _root_.L2.St}, Rel c xo F5 H5 L5 σ5 w5 → _root_.L2.wipe σ5 own = _root_.L2.wipe σ own → Mid c e F1 H1 (Lw own L1) D0 acc5 F5 H5 L5 → Same F2 F5 → (e = false → L5 = L') → ∀ w6, wipe own w5 = wipe own w6 →
              lcLoop2 (lcStep2 T P xo.e own own2 g t g2 it2 t2 a) (ds.drop (i + 1)) acc5 w6 = .ok os vF → Iv (i + 1) H5 := fun {F5 H5 L5 w5 acc5 σ5} R5 hw5 M5 h1 h2 w6 h4 h3 => by
            have R6 := R5.wiped (own := own) hxo
            rw [hw5, h4] at R6
            exact ⟨F5, _, acc5, w6, h3, (hFF.trans s2.f).trans h1, R6, M5.lw fun z => by rw [h2 z]; exact R'.own_nil⟩
          cases bv with
          | false =>
            have hl : lcLoop2 (lcStep2 T P xo.e own own2 g t g2 it2 t2 a) (ds.drop (i + 1)) acc w3 = .ok os vF := hl
            rw [if_neg (by simp)]
            exact next R4 hw M3 s4.f (fun z => s4.q z) w3 rfl hl
          | true =>
            rw [if_pos rfl]
            refine ⟨F3, L3, w3, R4, ?_⟩
            cases hI2 : evI T P xo.e it2 w3 with
            | ok ds2 w4 =>
              have hl : (match lcLoop (lcStep T P xo.e own2 g2 t2 a) ds2 acc w4 with
                | .ok acc v => lcLoop2 (lcStep2 T P xo.e own own2 g t g2 it2 t2 a) (ds.drop (i + 1)) acc v
                | _ => .bad) = R.ok os vF := by
                simp only [R.bind, hI2] at hl
                exact hl
              intro F4 H4 L4 B4 R5 s5 n5 J2 wJ2
              have s5 := s5.mono (e := e) fun z => by rw [pp.2.2.1 z]; rfl
              have M4 := M3.step s5
              cases hl2 : lcLoop (lcStep T P xo.e own2 g2 t2 a) ds2 acc w4 with
              | ok acc2 wF =>
                rw [hl2] at hl
                have R6 := R5.wiped (own := own2) fun i hi => hxo i (hoo i hi)
                have hL4 : e = false → L4 = L' := fun z => by rw [s5.q z, s4.q z]
                have M5 := M4.lw (own := own2) fun z => by rw [hL4 z]; exact lwid own2 hoo
                refine loop_core (F0 := F1) (H0 := H1) (L0 := Lw own L1) wJ2 hgs2 (fun i hi => hxo i (hoo i hi)) pp.2.2.2.1 pp.2.2.2.2 hl2 (Same.refl F4) R6 M5 fun F7 L7 H7 R7 _ h7 M7 => ?_
                refine next R7 (by rw [wipe_wipe hoo, hw]) M7 ((s4.f.trans s5.f).trans h7) (fun z => ?_) wF ?_ hl
                · rw [M7.s.q z, ← M4.s.q z, hL4 z]
                · apply List.ext_getElem?
                  intro j
                  have key : ∀ (v : Env) (j : Nat), v[j]? = if j < v.length then some (getS v j) else none := fun v j => by
                    unfold getS
                    split
                    · rename_i h
                      rw [List.getElem?_eq_getElem h]
                      rfl
                    · rename_i h
                      rw [List.getElem?_eq_none (by omega)]
                  rw [key, key, wipe_len, wipe_len, wipe_len, wipe_at, wipe_at, wipe_at]
                  by_cases h1 : j ∈ own
                  · simp [h1]
                  · have h2 : j ∉ own2 := fun z => h1 (hoo j z)
                    simp [h1, h2]
              | exc x v' => rw [hl2] at hl; cases hl
              | bad => rw [hl2] at hl; cases hl
            | exc x w4 => simp only [R.bind, hI2] at hl; cases hl
            | bad => simp only [R.bind, hI2] at hl; cases hl
        | exc x w3 => rw [hc] at hl; cases hl
        | bad => rw [hc] at hl; cases hl
      · have e1 : i = ds.length := by omega
        subst e1
        rw [List.drop_length] at hl
        simp only [lcLoop2, R.ok.injEq] at hl
        obtain ⟨rfl, rfl⟩ := hl
        exact .inl ⟨wJ.stops H' hG, done F' L' H' R' M'⟩
    | exc x v' => exact absurd hr lcLoop2_exc
    | bad => rw [hr] at q; exact q.elim
  | exc x v1 => rw [hI] at q; exact fun F1 H1 L1 cls d R1 s1 rx => q F1 H1 L1 cls d R1 (s1.mono fun z => by rw [pp.1 z]; rfl) rx
  | bad => rw [hI] at q; exact q
theorem s_lc2 {it it2 : Pv.I} {ifs ifs2 : List Expr} {sc2 : Scope} {tg2 : Expr} (hc : X.calm = true) (hN : X.N.Nodup) (hi : PI X tg e2 (tI c T P xo W0 it)) (ok : BlkOk X.N X.env.scope sc2 (ownOf X.N own)) (hoo : ∀ i ∈ own2, i ∈ own)
    (hg : ∀ (s : Shared) (H : Hp) (C : Addr) (cl : List (Str × Addr)) (fp : List Addr), PG (X.blk s H sc2 (compEnvC sc2 cl C X.env) fp) tg (gR c.K g)) (ht : ∀ (s : Shared) (H : Hp) (C : Addr) (cl : List (Str × Addr)) (fp : List Addr), PTs (X.blk s H sc2 (compEnvC sc2 cl C X.env) fp) ifs (ttO c T P xo WF t))
    (hi2 : ∀ (s : Shared) (H : Hp) (C : Addr) (cl : List (Str × Addr)) (fp : List Addr), PI (X.blk s H sc2 (compEnvC sc2 cl C X.env) fp) tg2 e3 (tI c T P xo WF it2))
    (hg2 : ∀ (s : Shared) (H : Hp) (C : Addr) (cl : List (Str × Addr)) (fp : List Addr), PG (X.blk s H sc2 (compEnvC sc2 cl C X.env) fp) tg2 (gR c.K g2)) (ht2 : ∀ (s : Shared) (H : Hp) (C : Addr) (cl : List (Str × Addr)) (fp : List Addr), PTs (X.blk s H sc2 (compEnvC sc2 cl C X.env) fp) ifs2 (ttO c T P xo WF t2))
    (he : ∀ (s : Shared) (H : Hp) (C : Addr) (cl : List (Str × Addr)) (fp : List Addr), PE (X.blk s H sc2 (compEnvC sc2 cl C X.env) fp) e1 (tE c T P xo WF a)) (hs : plainX e2 = true) (hs2 : plainX e3 = true) (hgs : ∀ i ∈ g.sl, i ∈ own) (hgs2 : ∀ i ∈ g2.sl, i ∈ own2) (hxo : ∀ i ∈ own, i ∉ xo.fr) :
    PE X (.ListComp e1 [⟨tg, e2, ifs, 0⟩, ⟨tg2, e3, ifs2, 0⟩] sc2 p) (tE c T P xo W0 (.lc2 own own2 g it t g2 it2 t2 a)) := by
  refine pe_imp (pe_lc2 (vs1 := own2) hc hN hi ok (by rw [own_snd]; exact hoo) hg ht hi2 hg2 ht2 he (fun x => plain_fold hs _ x) fun env x => plain_fold hs2 env x) fun σ H Q q => ?_
  rw [own_snd]
  exact lc2_read q hgs hgs2 hoo hxo
end
end Pv

set_option Elab.async false
set_option linter.all false
set_option maxRecDepth 100000
/-! PvW: what is looked at holds: expressions. -/
namespace Pv
open PySem PySem.Spec PyProof.Rows L2

/-- a frame of the text -/
structure Gd (c : Cfg) (J : Info) (T : Tbl) (P : Fn) (A : Ad) (xa : Bool) (X : Cx) (sc : Scope) (N : List Str) : Prop where
  N : X.N = N
  sc : X.env.scope = sc
  fx : xa = false → Fx c J T P A X
  wd : Wd c J T X.mg
  K : X.K = c.K
  calm : xa = false → X.calm = true
  un : X.A.units + 64 < cLine
  nd : X.N.Nodup
theorem pe_one {X : Cx} {e : Expr} {o : BoolOp} {p : Pos} {t : TE} (h : PE X e t) : PE X (.BoolOp o [e] p) t := ⟨fun pins s σ H Q I q => h.run pins s σ H Q I q⟩
theorem cx_kind {X : Cx} {x : Str} {sc : Scope} (h : X.env.scope = sc) (g : sc.names.lookup x = some .globalImplicit) : Gl X x := by
  show X.env.scope.names.lookup x = _
  rw [h]; exact g
section
variable {c : Cfg} {J : Info} {T : Tbl} {P : Fn} {A : Ad} {X : Cx} {sc : Scope} {N : List Str} {xf : List Nat}
variable {xa : Bool}
theorem Gd.blk {s2 : Scope} {s : Shared} {H : Hp} {C : Addr} {cl : List (Str × Addr)} {fp : List Addr} (g : Gd c J T P A xa X sc N) (hxa : xa = false) : Gd c J T P A false (X.blk s H s2 (compEnvC s2 cl C X.env) fp) (relS s2 sc) N := by
  have f := g.fx hxa
  refine ⟨g.N, ?_, fun _ => ⟨f.rm, f.rm2, f.rz, f.lv, f.bd, f.kp, f.gl, f.mth, f.ini, f.kpi, f.inp, f.prp, f.kbf, f.kbc⟩, g.wd, g.K, fun _ => g.calm hxa, g.un, g.nd⟩
  show relS s2 X.env.scope = _
  rw [g.sc]
theorem Gd.units (g : Gd c J T P A xa X sc N) : X.A.units + 64 < cLine := g.un
theorem Gd.slot {i : Nat} {x : Str} (g : Gd c J T P A xa X sc N) (h : slotIs sc N i x = true) : X.N[i]? = some x ∧ Vis X.env.scope x ∧ (x == ("__debug__" : Str)) = false ∧ (x == ("__classdict__" : Str)) = false := by
  unfold slotIs seen at h
  simp only [Bool.and_eq_true, Bool.not_eq_true', Bool.or_eq_true] at h
  obtain ⟨h1, h2, h3, h4⟩ := h
  refine ⟨by rw [g.N]; exact eq_of_beq h1, ?_, h3, h4⟩
  rw [g.sc]
  rcases h2 with h2 | h2 | h2
  · exact .inl (eq_of_beq h2)
  · exact .inr (.inl (eq_of_beq h2))
  · exact .inr (.inr (eq_of_beq h2))
theorem Gd.gl {x : Str} (g : Gd c J T P A xa X sc N) (h : Pv.gl sc x = true) : Gl X x ∧ (x == ("__debug__" : Str)) = false ∧ (x == ("__name__" : Str)) = false := by
  obtain ⟨h1, h2, h3⟩ := gl_of h
  exact ⟨cx_kind g.sc h1, h2, h3⟩
theorem Gd.free {x : Str} (g : Gd c J T P A xa X sc N) (h : x ∈ freeNames) : X.mg x = none := g.wd.free x h
theorem bi_free (b : Bi) : biName b ∈ freeNames := by cases b <;> decide +kernel
/-- what is wanted of an expression -/
abbrev OkX (c : Cfg) (T : Tbl) (P : Fn) (X : Cx) (xo : Xs) (W0 : WX) (w : Bool) (a : E) (e : Expr) : Prop := (w = false → PE X e (tE c T P xo W0 a)) ∧ (w = true → PT X e (tT c T P xo W0 a))
theorem ok1 {xo : Xs} {W0 : WX} {w : Bool} {a : E} {e : Expr} (hK : X.K = c.K) (ht : tst w e = true) (h : PE X e (tE c T P xo W0 a)) : OkX c T P X xo W0 w a e :=
  ⟨fun _ => h, fun z => by
    rw [z] at ht
    exact st_any hK ht h⟩
theorem ok0 {xo : Xs} {W0 : WX} {w : Bool} {a : E} {e : Expr} (ht : (!w) = true) (h : PE X e (tE c T P xo W0 a)) : OkX c T P X xo W0 w a e :=
  ⟨fun _ => h, fun z => by rw [z] at ht; cases ht⟩
theorem ok2 {xo : Xs} {W0 : WX} {w : Bool} {a : E} {e : Expr} (ht : w = true) (h : PT X e (tT c T P xo W0 a)) : OkX c T P X xo W0 w a e :=
  ⟨fun z => (by rw [z] at ht; cases ht), fun _ => h⟩
/-- of arguments: how many, and plain -/
theorem chkEL_len {xa : Bool} {xo : Option Exc} : ∀ {es : EL} {xs : List Expr}, chkEL J xf xa sc N es xs = true → xs.all plainX = true ∧ (xs = [] → es = .nil) ∧ ∀ as v v', evs T P xo es v = .ok as v' → as.length = xs.length
  | .nil, [], _ => ⟨rfl, fun _ => rfl, fun as v v' h => by
    simp only [evs] at h
    cases h
    rfl⟩
  | .cons a es, x :: xs, h => by
    simp only [chkEL, Bool.and_eq_true] at h
    obtain ⟨h1, h2, h3⟩ := h
    obtain ⟨i1, i2, i3⟩ := chkEL_len (xo := xo) h3
    refine ⟨by rw [List.all_cons, h1, i1]; rfl, (fun z => by cases z), fun as v v' h => ?_⟩
    simp only [evs] at h
    obtain ⟨y, v1, _, h⟩ := bind_ok h
    cases hx : y.fin with
    | none => rw [hx] at h; cases h
    | some d =>
      rw [hx] at h
      obtain ⟨as', v2, h1, h⟩ := bind_ok h
      cases h
      rw [List.length_cons, List.length_cons, i3 _ _ _ h1]
  | .ref k es, x :: xs, h => by
    simp only [chkEL, Bool.and_eq_true] at h
    obtain ⟨h1, h3⟩ := h
    obtain ⟨i1, i2, i3⟩ := chkEL_len (xo := xo) h3
    have hq := opt_and h1
    clear h1
    obtain ⟨z, hz, _⟩ := hq
    obtain ⟨p, rfl⟩ := dName_eq hz
    refine ⟨by rw [List.all_cons, i1]; rfl, (fun z => by cases z), fun as v v' h => ?_⟩
    simp only [evs] at h
    cases hx : getS v k with
    | none => rw [hx] at h; cases h
    | some d =>
      rw [hx] at h
      obtain ⟨as', v2, h1, h⟩ := bind_ok h
      cases h
      rw [List.length_cons, List.length_cons, i3 _ _ _ h1]
  | .nil, _ :: _, h => by simp [chkEL] at h
  | .cons _ _, [], h => by simp [chkEL] at h
  | .ref _ _, [], h => by simp [chkEL] at h
/-- what is known of the exception of a suite -/
abbrev XaOk (c : Cfg) (T : Tbl) (P : Fn) (N : List Str) (xf : List Nat) (X : Cx) (sc : Scope) (xo : Xs) (xa : Bool) : Prop := xa = true → ∀ (k f : Nat) (z : Str) (p p' : Pos) (W0 : WX), k ∈ xf → slotIs sc N k z = true → PE X (.Attribute (.Name z p) (c.an f) p') (tE c T P xo W0 (.xat k f))
theorem XaOk.no {xo : Xs} : XaOk c T P N xf X sc xo false := fun z => by cases z
mutual
theorem chkX_ok : ∀ (a : E) (e : Expr) {xa w : Bool} {sc : Scope} {X : Cx} {xo : Xs} {W0 : WX}, Gd c J T P A xa X sc N → xo.fr = xf → XaOk c T P N xf X sc xo xa → Takes X W0 → chkX J xf xa w sc N a e = true → OkX c T P X xo W0 w a e
  | .c d, e, xa, w, sc, X, xo, W0, g, hf, hx, tk, h => by
    simp only [chkX, Bool.and_eq_true] at h
    obtain ⟨h1, h2⟩ := h
    have hq := opt_and h2
    clear h2
    obtain ⟨k, hk, h2⟩ := hq
    obtain ⟨j, p, rfl⟩ := dConst_eq hk
    exact ok1 g.K h1 (s_c h2)
  | .g x d, e, xa, w, sc, X, xo, W0, g, hf, hx, tk, h => by
    simp only [chkX, Bool.and_eq_true] at h
    obtain ⟨h1, h2⟩ := h
    have hq := opt_and h2
    clear h2
    obtain ⟨y, hk, h2⟩ := hq
    obtain ⟨p, rfl⟩ := dName_eq hk
    simp only [Bool.and_eq_true] at h2
    obtain ⟨h3, h4, h5⟩ := h2
    have := eq_of_beq h3
    subst this
    obtain ⟨q1, q2, q3⟩ := g.gl h4
    obtain ⟨q, hq, hq2⟩ := List.any_eq_true.mp h5
    simp only [Bool.and_eq_true] at hq2
    obtain ⟨u, hu, ru⟩ := g.wd.cst q hq
    obtain ⟨e1, e2⟩ := D.eqC_eq hq2.2
    rw [eq_of_beq hq2.1] at hu
    subst e1
    exact ok1 g.K h1 (s_g q1 hu ru e2 q2)
  | .v i, e, xa, w, sc, X, xo, W0, g, hf, hx, tk, h => by
    simp only [chkX, Bool.and_eq_true] at h
    obtain ⟨h1, h2⟩ := h
    have hq := opt_and h2
    clear h2
    obtain ⟨y, hk, h2⟩ := hq
    obtain ⟨p, rfl⟩ := dName_eq hk
    obtain ⟨q1, q2, q3, q4⟩ := g.slot h2
    exact ok1 g.K h1 (s_v q1 q2 q3 q4)
  | .mv i, e, xa, w, sc, X, xo, W0, g, hf, hx, tk, h => by
    simp [chkX] at h
  | .o2 o a b, e, xa, w, sc, X, xo, W0, g, hf, hx, tk, h => by
    simp only [chkX, Bool.and_eq_true] at h
    obtain ⟨h1, h2⟩ := h
    have hq := opt_and h2
    clear h2
    obtain ⟨⟨l, op, r⟩, hk, h2⟩ := hq
    obtain ⟨p, rfl⟩ := dBin_eq hk
    simp only [Bool.and_eq_true] at h2
    obtain ⟨h3, h4, h5⟩ := h2
    exact ok1 g.K h1 (s_o2 h3 ((chkX_ok a l g hf hx tk h4).1 rfl) ((chkX_ok b r g hf hx tk h5).1 rfl))
  | .ng a, e, xa, w, sc, X, xo, W0, g, hf, hx, tk, h => by
    simp only [chkX, Bool.and_eq_true] at h
    obtain ⟨h1, h2⟩ := h
    split at h2
    · rename_i x hk
      obtain ⟨p, rfl⟩ := dUn_eq hk
      exact ok0 h1 (s_ng ((chkX_ok a x g hf hx tk h2).1 rfl))
    · cases h2
  | .cm o a b, e, xa, w, sc, X, xo, W0, g, hf, hx, tk, h => by
    simp only [chkX] at h
    split at h
    · rename_i l op r hk
      obtain ⟨p, rfl⟩ := dCmp_eq hk
      simp only [Bool.and_eq_true] at h
      obtain ⟨h1, h2, h3, h4⟩ := h
      have := eq_of_beq h1
      subst this
      have i1 := (chkX_ok a l g hf hx tk h3).1 rfl
      have i2 := (chkX_ok b r g hf hx tk h4).1 rfl
      exact ⟨fun _ => s_cm g.K g.units h2 i1 i2, fun _ => st_cm g.K g.units h2 i1 i2⟩
    · cases h
  | .ch o q a b d, e, xa, w, sc, X, xo, W0, g, hf, hx, tk, h => by
    simp only [chkX] at h
    split at h
    · rename_i x q1 r1 y z hk
      obtain ⟨p, rfl⟩ := dCmp_eq hk
      simp only [Bool.and_eq_true] at h
      obtain ⟨h1, h2, h3, h4, h5, h6, h7⟩ := h
      have := eq_of_beq h1
      subst this
      have := eq_of_beq h2
      subst this
      have i1 := (chkX_ok a x g hf hx tk h5).1 rfl
      have i2 := (chkX_ok b y g hf hx tk h6).1 rfl
      have i3 := (chkX_ok d z g hf hx tk h7).1 rfl
      exact ⟨fun _ => s_ch g.K g.units h3 h4 i1 i2 i3, fun _ => st_ch g.K g.units h3 h4 i1 i2 i3⟩
    · cases h
  | .ch3 o q s a b d f, e, xa, w, sc, X, xo, W0, g, hf, hx, tk, h => by
    simp only [chkX] at h
    split at h
    · rename_i x q1 r1 t1 y z u hk
      obtain ⟨p, rfl⟩ := dCmp_eq hk
      simp only [Bool.and_eq_true] at h
      obtain ⟨h1, h2, h3, h4, h5, h6, h7, h8, h9, h10⟩ := h
      have := eq_of_beq h1
      subst this
      have := eq_of_beq h2
      subst this
      have := eq_of_beq h3
      subst this
      have i1 := (chkX_ok a x g hf hx tk h7).1 rfl
      have i2 := (chkX_ok b y g hf hx tk h8).1 rfl
      have i3 := (chkX_ok d z g hf hx tk h9).1 rfl
      have i4 := (chkX_ok f u g hf hx tk h10).1 rfl
      exact ⟨fun _ => s_ch3 g.K g.units h6 i1 i2 i3 i4, fun _ => st_ch3 g.K g.units h6 i1 i2 i3 i4⟩
    · cases h
  | .an a b, e, xa, w, sc, X, xo, W0, g, hf, hx, tk, h => by
    simp only [chkX, Bool.and_eq_true] at h
    obtain ⟨h1, h2⟩ := h
    split at h2
    · rename_i x y p hk
      have := dBoolP_eq hk
      subst this
      simp only [Bool.and_eq_true] at h2
      exact ok0 h1 (s_an ((chkX_ok a x g hf hx tk h2.1).1 rfl) (pe_one ((chkX_ok b y g hf hx tk h2.2).1 rfl)))
    · rename_i x y z r p hk
      have := dBoolP_eq hk
      subst this
      simp only [Bool.and_eq_true] at h2
      exact ok0 h1 (s_an ((chkX_ok a x g hf hx tk h2.1).1 rfl) ((chkX_ok b _ g hf hx tk h2.2).1 rfl))
    · cases h2
  | .or a b, e, xa, w, sc, X, xo, W0, g, hf, hx, tk, h => by
    simp only [chkX, Bool.and_eq_true] at h
    obtain ⟨h1, h2⟩ := h
    split at h2
    · rename_i x y p hk
      have := dBoolP_eq hk
      subst this
      simp only [Bool.and_eq_true] at h2
      exact ok0 h1 (s_or ((chkX_ok a x g hf hx tk h2.1).1 rfl) (pe_one ((chkX_ok b y g hf hx tk h2.2).1 rfl)))
    · rename_i x y z r p hk
      have := dBoolP_eq hk
      subst this
      simp only [Bool.and_eq_true] at h2
      exact ok0 h1 (s_or ((chkX_ok a x g hf hx tk h2.1).1 rfl) ((chkX_ok b _ g hf hx tk h2.2).1 rfl))
    · cases h2
  | .ta a b, e, xa, w, sc, X, xo, W0, g, hf, hx, tk, h => by
    simp only [chkX] at h
    split at h
    · rename_i x y p hk
      have := dBoolP_eq hk
      subst this
      simp only [Bool.and_eq_true] at h
      exact ok2 h.1 (st_ta ((chkX_ok a x g hf hx tk h.2.1).2 rfl) (pw_and1 ((chkX_ok b y g hf hx tk h.2.2).2 rfl)).pt)
    · rename_i x y z r p hk
      have := dBoolP_eq hk
      subst this
      simp only [Bool.and_eq_true] at h
      exact ok2 h.1 (st_ta ((chkX_ok a x g hf hx tk h.2.1).2 rfl) ((chkX_ok b _ g hf hx tk h.2.2).2 rfl))
    · cases h
  | .to a b, e, xa, w, sc, X, xo, W0, g, hf, hx, tk, h => by
    simp only [chkX] at h
    split at h
    · rename_i x y p hk
      have := dBoolP_eq hk
      subst this
      simp only [Bool.and_eq_true] at h
      exact ok2 h.1 (st_to ((chkX_ok a x g hf hx tk h.2.1).2 rfl) (pw_or1 ((chkX_ok b y g hf hx tk h.2.2).2 rfl)).pt)
    · rename_i x y z r p hk
      have := dBoolP_eq hk
      subst this
      simp only [Bool.and_eq_true] at h
      exact ok2 h.1 (st_to ((chkX_ok a x g hf hx tk h.2.1).2 rfl) ((chkX_ok b _ g hf hx tk h.2.2).2 rfl))
    · cases h
  | .nt a, e, xa, w, sc, X, xo, W0, g, hf, hx, tk, h => by
    simp only [chkX] at h
    split at h
    · rename_i x hk
      obtain ⟨p, rfl⟩ := dUn_eq hk
      have i := chkX_ok a x g hf hx tk h
      exact ⟨fun z => s_nt g.K (i.1 z), fun z => st_nt (i.2 z)⟩
    · cases h
  | .ite t a b, e, xa, w, sc, X, xo, W0, g, hf, hx, tk, h => by
    simp only [chkX, Bool.and_eq_true] at h
    obtain ⟨h1, h2⟩ := h
    have hq := opt_and h2
    clear h2
    obtain ⟨⟨x, y, z⟩, hk, h2⟩ := hq
    obtain ⟨p, rfl⟩ := dIf_eq hk
    simp only [Bool.and_eq_true] at h2
    obtain ⟨h3, h4, h5⟩ := h2
    exact ok0 h1 (s_ite ((chkX_ok t x g hf hx tk h3).2 rfl) ((chkX_ok a y g hf hx tk h4).1 rfl) ((chkX_ok b z g hf hx tk h5).1 rfl))
  | .tup es, e, xa, w, sc, X, xo, W0, g, hf, hx, tk, h => by
    simp only [chkX, Bool.and_eq_true] at h
    obtain ⟨h1, h2⟩ := h
    have hq := opt_and h2
    clear h2
    obtain ⟨xs, hk, h2⟩ := hq
    obtain ⟨k, p, rfl⟩ := dTup_eq hk
    simp only [Bool.and_eq_true, decide_eq_true_eq] at h2
    exact ok0 h1 (s_tup h2.1 (chkEL_ok es xs g hf hx tk h2.2) (chkEL_len h2.2).2.2)
  | .lst es, e, xa, w, sc, X, xo, W0, g, hf, hx, tk, h => by
    simp only [chkX, Bool.and_eq_true] at h
    obtain ⟨h1, h2⟩ := h
    have hq := opt_and h2
    clear h2
    obtain ⟨xs, hk, h2⟩ := hq
    obtain ⟨p, rfl⟩ := dLst_eq hk
    simp only [Bool.and_eq_true, decide_eq_true_eq] at h2
    exact ok0 h1 (s_lst h2.1 (chkEL_ok es xs g hf hx tk h2.2) (chkEL_len h2.2).2.2)
  | .ix a i, e, xa, w, sc, X, xo, W0, g, hf, hx, tk, h => by
    simp only [chkX, Bool.and_eq_true] at h
    obtain ⟨h1, h2⟩ := h
    have hq := opt_and h2
    clear h2
    obtain ⟨⟨x, y⟩, hk, h2⟩ := hq
    obtain ⟨p, rfl, hp⟩ := dSub_eq hk
    simp only [Bool.and_eq_true] at h2
    exact ok1 g.K h1 (s_ix g.K hp ((chkX_ok a x g hf hx tk h2.1).1 rfl) ((chkX_ok i y g hf hx tk h2.2).1 rfl))
  | .ixv k i, e, xa, w, sc, X, xo, W0, g, hf, hx, tk, h => by
    simp only [chkX, Bool.and_eq_true] at h
    obtain ⟨h1, h2⟩ := h
    have hq := opt_and h2
    clear h2
    obtain ⟨⟨x, y⟩, hk, h2⟩ := hq
    obtain ⟨p, rfl, hp⟩ := dSub_eq hk
    simp only [Bool.and_eq_true] at h2
    obtain ⟨z, hz, h3⟩ := opt_and h2.1
    obtain ⟨p', rfl⟩ := dName_eq hz
    obtain ⟨q1, q2, q3, q4⟩ := g.slot h3
    exact ok1 g.K h1 (s_ixv g.K hp q1 q2 q3 q4 ((chkX_ok i y g hf hx tk h2.2).1 rfl))
  | .sl a lo hi, e, xa, w, sc, X, xo, W0, g, hf, hx, tk, h => by
    simp only [chkX, Bool.and_eq_true] at h
    obtain ⟨h1, h2⟩ := h
    have hq := opt_and h2
    clear h2
    obtain ⟨⟨x, l, u⟩, hk, h2⟩ := hq
    obtain ⟨p, p2, rfl⟩ := dSl_eq hk
    simp only [Bool.and_eq_true] at h2
    exact ok1 g.K h1 (s_sl g.K ((chkX_ok a x g hf hx tk h2.1).1 rfl) (chkOE_ok lo l g hf hx tk h2.2.1) (chkOE_ok hi u g hf hx tk h2.2.2))
  | .att a f, e, xa, w, sc, X, xo, W0, g, hf, hx, tk, h => by
    simp only [chkX, Bool.and_eq_true] at h
    obtain ⟨hxa, h1, h2⟩ := h
    have hxa : xa = false := by simpa using hxa
    have hq := opt_and h2
    clear h2
    obtain ⟨⟨x, y⟩, hk, h2⟩ := hq
    obtain ⟨p, rfl⟩ := dAtt_eq hk
    simp only [Bool.and_eq_true] at h2
    exact ok1 g.K h1 (s_att g.wd (g.fx hxa) g.K h2.2.1 (by rw [eq_of_beq h2.1, g.wd.anm]) ((chkX_ok a x g hf hx tk h2.2.2).1 rfl))
  | .kat _ _ _, e, xa, w, sc, X, xo, W0, g, hf, hx, tk, h => by simp [chkX] at h
  | .bi b es, e, xa, w, sc, X, xo, W0, g, hf, hx, tk, h => by
    simp only [chkX, Bool.and_eq_true] at h
    obtain ⟨hxa, h1, h2⟩ := h
    have hxa : xa = false := by simpa using hxa
    split at h2
    · rename_i x y hk
      obtain ⟨p, q, rfl⟩ := dCall_eq hk
      simp only [Bool.and_eq_true] at h2
      obtain ⟨h3, h4, h5, h6⟩ := h2
      have := eq_of_beq h3
      subst this
      obtain ⟨q1, q2, q3⟩ := g.gl h4
      match es, h5, h6 with
      | .cons a .nil, _, h6 =>
        simp only [chkEL, Bool.and_eq_true] at h6
        exact ok1 g.K h1 (s_bi1 g.K (g.calm hxa) q1 (g.free (bi_free b)) h6.1 ((chkX_ok a y g hf hx tk h6.2.1).1 rfl))
      | .nil, _, h6 => simp [chkEL] at h6
      | .ref _ _, h5, _ => cases h5
      | .cons a (.ref _ _), h5, _ => cases h5
      | .cons a (.cons _ _), _, h6 => simp [chkEL] at h6
    · rename_i x y z hk
      obtain ⟨p, q, rfl⟩ := dCall_eq hk
      simp only [Bool.and_eq_true] at h2
      obtain ⟨h3, h4, h5, h6⟩ := h2
      have := eq_of_beq h3
      subst this
      obtain ⟨q1, q2, q3⟩ := g.gl h4
      match es, h5, h6 with
      | .cons a (.cons d .nil), _, h6 =>
        simp only [chkEL, Bool.and_eq_true] at h6
        exact ok1 g.K h1 (s_bi2 g.K (g.calm hxa) q1 (g.free (bi_free b)) h6.1 h6.2.2.1 ((chkX_ok a y g hf hx tk h6.2.1).1 rfl) ((chkX_ok d z g hf hx tk h6.2.2.2.1).1 rfl))
      | .nil, _, h6 => simp [chkEL] at h6
      | .ref _ _, h5, _ => cases h5
      | .cons a .nil, _, h6 => simp [chkEL] at h6
      | .cons a (.ref _ _), h5, _ => cases h5
      | .cons a (.cons _ (.ref _ _)), h5, _ => cases h5
      | .cons a (.cons _ (.cons _ _)), _, h6 => simp [chkEL] at h6
    · cases h2
  | .rep a n, e, xa, w, sc, X, xo, W0, g, hf, hx, tk, h => by
    simp only [chkX, Bool.and_eq_true] at h
    obtain ⟨h1, h2⟩ := h
    split at h2
    · rename_i l r hk
      obtain ⟨p, rfl⟩ := dBin_eq hk
      simp only [Bool.and_eq_true] at h2
      exact ok1 g.K h1 (s_rep g.K ((chkX_ok a l g hf hx tk h2.1).1 rfl) ((chkX_ok n r g hf hx tk h2.2).1 rfl))
    · cases h2
  | .dm a b, e, xa, w, sc, X, xo, W0, g, hf, hx, tk, h => by
    simp only [chkX, Bool.and_eq_true] at h
    obtain ⟨hxa, h1, h2⟩ := h
    have hxa : xa = false := by simpa using hxa
    split at h2
    · rename_i x y z hk
      obtain ⟨p, q, rfl⟩ := dCall_eq hk
      simp only [Bool.and_eq_true] at h2
      obtain ⟨h3, h4, h5, h6, h7, h8⟩ := h2
      have := eq_of_beq h3
      subst this
      obtain ⟨q1, q2, q3⟩ := g.gl h4
      exact ok1 g.K h1 (s_dm (g.calm hxa) q1 (g.free (by decide +kernel)) h5 h6 ((chkX_ok a y g hf hx tk h7).1 rfl) ((chkX_ok b z g hf hx tk h8).1 rfl))
    · cases h2
  | .isi a ts one, e, xa, w, sc, X, xo, W0, g, hf, hx, tk, h => by
    simp only [chkX, Bool.and_eq_true] at h
    obtain ⟨h1, h2⟩ := h
    split at h2
    · rename_i x y z hk
      obtain ⟨p, q, rfl⟩ := dCall_eq hk
      simp only [Bool.and_eq_true] at h2
      obtain ⟨h3, h4, h5, h6, h7, h8⟩ := h2
      have := eq_of_beq h3
      subst this
      obtain ⟨q1, q2, q3⟩ := g.gl h4
      have i := (chkX_ok a y g hf hx tk h7).1 rfl
      split at h8
      · rename_i t
        have h8 : chkTy J X.env.scope t z = true := by rw [g.sc]; exact h8
        obtain ⟨j1, j2⟩ := s_ty g.wd h8
        exact ok1 g.K h1 (s_isi1 g.wd g.K q1 (g.free (by decide +kernel)) h5 h6 i j1 j2)
      · obtain ⟨zs, hz, h9⟩ := opt_and h8
        obtain ⟨k, p2, rfl⟩ := dTup_eq hz
        simp only [Bool.and_eq_true, decide_eq_true_eq] at h9
        exact ok1 g.K h1 (s_isiT g.wd g.K q1 (g.free (by decide +kernel)) h5 i h9.1 (by rw [g.sc]; exact h9.2))
      · cases h8
    · cases h2
  | .lc own gg it t el, e, xa, w, sc, X, xo, W0, g, hf, hx, tk, h => by
    simp only [chkX, Bool.and_eq_true] at h
    obtain ⟨hxa, h1, h2⟩ := h
    have hxa : xa = false := by simpa using hxa
    have hq := opt_and h2
    clear h2
    obtain ⟨⟨x, tg, itx, ifs, s⟩, hk, h2⟩ := hq
    obtain ⟨p, rfl⟩ := dLc_eq hk
    simp only [Bool.and_eq_true] at h2
    obtain ⟨h3, h4, h5, h6, h7, h8, h9, h10⟩ := h2
    have hq := opt_and h10
    clear h10
    obtain ⟨o, ho, h10⟩ := hq
    have hxo : ∀ i ∈ own, i ∉ xo.fr := fun i hi => by
      have := List.all_eq_true.mp h3 i hi
      rw [hf]
      simpa using this
    have hgs : ∀ i ∈ gg.sl, i ∈ own := fun i hi => by
      have := List.all_eq_true.mp h8 i hi
      simpa using this
    refine ok0 h1 (s_lc (g.calm hxa) g.nd (chkI_ok it itx g hf hx tk h6) (by rw [g.N, g.sc]; exact blkOk_by h4) (fun s0 H C cl fp => ?_) (fun s0 H C cl fp => ?_) (fun s0 H C cl fp => ?_) h5 hgs hxo)
    · have gb := g.blk (hxa := hxa) (s2 := s) (s := s0) (H := H) (C := C) (cl := cl) (fp := fp)
      have := pg_of (gb.calm rfl) gb.nd gg tg (by rw [gb.sc, gb.N]; exact h7)
      rw [gb.K] at this
      exact this
    · have gb := g.blk (hxa := hxa) (s2 := s) (s := s0) (H := H) (C := C) (cl := cl) (fp := fp)
      exact chkOT_ok t o gb hf XaOk.no takes0 h10 ho
    · have gb := g.blk (hxa := hxa) (s2 := s) (s := s0) (H := H) (C := C) (cl := cl) (fp := fp)
      exact (chkX_ok el x gb hf XaOk.no takes0 h9).1 rfl
  | .lc2 own own2 gg it t gg2 it2 t2 el, e, xa, w, sc, X, xo, W0, g, hf, hx, tk, h => by
    simp only [chkX, Bool.and_eq_true] at h
    obtain ⟨hxa, h1, h2⟩ := h
    have hxa : xa = false := by simpa using hxa
    have hq := opt_and h2
    clear h2
    obtain ⟨⟨x, tg, itx, ifs, tg2, itx2, ifs2, s⟩, hk, h2⟩ := hq
    obtain ⟨p, rfl⟩ := dLc2_eq hk
    simp only [Bool.and_eq_true] at h2
    obtain ⟨h3, h4, h5, h5', h6, h7, h7', h7'', h8, h8', h9, hoo, h10, h10'⟩ := h2
    have hq := opt_and h10
    clear h10
    obtain ⟨o, ho, h10⟩ := hq
    have hq := opt_and h10'
    clear h10'
    obtain ⟨o2, ho2, h10'⟩ := hq
    have hxo : ∀ i ∈ own, i ∉ xo.fr := fun i hi => by
      have := List.all_eq_true.mp h3 i hi
      rw [hf]
      simpa using this
    have hgs : ∀ i ∈ gg.sl, i ∈ own := fun i hi => by
      have := List.all_eq_true.mp h8 i hi
      simpa using this
    have hgs2 : ∀ i ∈ gg2.sl, i ∈ own2 := fun i hi => by
      have := List.all_eq_true.mp h8' i hi
      simpa using this
    have hoo : ∀ i ∈ own2, i ∈ own := fun i hi => by
      have := List.all_eq_true.mp hoo i hi
      simpa using this
    refine ok0 h1 (s_lc2 (g.calm hxa) g.nd (chkI_ok it itx g hf hx tk h6) (by rw [g.N, g.sc]; exact blkOk_by h4) hoo (fun s0 H C cl fp => ?_) (fun s0 H C cl fp => ?_) (fun s0 H C cl fp => ?_) (fun s0 H C cl fp => ?_) (fun s0 H C cl fp => ?_) (fun s0 H C cl fp => ?_) h5 h5' hgs hgs2 hxo)
    · have gb := g.blk (hxa := hxa) (s2 := s) (s := s0) (H := H) (C := C) (cl := cl) (fp := fp)
      have := pg_of (gb.calm rfl) gb.nd gg tg (by rw [gb.sc, gb.N]; exact h7)
      rw [gb.K] at this
      exact this
    · have gb := g.blk (hxa := hxa) (s2 := s) (s := s0) (H := H) (C := C) (cl := cl) (fp := fp)
      exact chkOT_ok t o gb hf XaOk.no takes0 h10 ho
    · have gb := g.blk (hxa := hxa) (s2 := s) (s := s0) (H := H) (C := C) (cl := cl) (fp := fp)
      exact chkI_ok it2 itx2 gb hf XaOk.no takes0 h7'
    · have gb := g.blk (hxa := hxa) (s2 := s) (s := s0) (H := H) (C := C) (cl := cl) (fp := fp)
      have := pg_of (gb.calm rfl) gb.nd gg2 tg2 (by rw [gb.sc, gb.N]; exact h7'')
      rw [gb.K] at this
      exact this
    · have gb := g.blk (hxa := hxa) (s2 := s) (s := s0) (H := H) (C := C) (cl := cl) (fp := fp)
      exact chkOT_ok t2 o2 gb hf XaOk.no takes0 h10' ho2
    · have gb := g.blk (hxa := hxa) (s2 := s) (s := s0) (H := H) (C := C) (cl := cl) (fp := fp)
      exact (chkX_ok el x gb hf XaOk.no takes0 h9).1 rfl
  | .call f es, e, xa, w, sc, X, xo, W0, g, hf, hx, tk, h => by
    simp only [chkX, Bool.and_eq_true] at h
    obtain ⟨hxa, h1, h2⟩ := h
    have hxa : xa = false := by simpa using hxa
    have hq := opt_and h2
    clear h2
    obtain ⟨⟨x, xs⟩, hk, h2⟩ := hq
    obtain ⟨p, q, rfl⟩ := dCall_eq hk
    simp only [Bool.and_eq_true] at h2
    obtain ⟨h3, h4, h5, h6, h7, h8⟩ := h2
    obtain ⟨q1, q2, q3⟩ := g.gl h6
    cases xs with
    | nil => cases h7
    | cons y ys => exact ok1 g.K h1 (s_call (g.fx hxa) tk q1 q2 (eq_of_beq h3) (by simpa using h4) (by simpa using h5) (chkEL_len (T := T) (P := P) (xo := none) h8).1 (chkEL_ok es _ g hf hx tk h8))
  | .callk f pm es ek, e, xa, w, sc, X, xo, W0, g, hf, hx, tk, h => by
    simp only [chkX, Bool.and_eq_true] at h
    obtain ⟨hxa, h1, h2⟩ := h
    have hxa : xa = false := by simpa using hxa
    have hq := opt_and h2
    clear h2
    obtain ⟨⟨x, xs, kws⟩, hk, h2⟩ := hq
    obtain ⟨p, q, rfl⟩ := dCallK_eq hk
    have hq := opt_and h2
    clear h2
    obtain ⟨⟨ks, ys⟩, hkw, h2⟩ := hq
    simp only [Bool.and_eq_true] at h2
    obtain ⟨h3, h4, h6, h7, h8, h9, h10⟩ := h2
    obtain ⟨q1, q2, q3⟩ := g.gl h6
    cases xs with
    | nil => cases h7
    | cons y zs =>
      have l2 := (chkEL_len (T := T) (P := P) (xo := xo.e) h10).2.2
      obtain ⟨_, _, _, k4, k5⟩ := kws_names X.env p hkw
      exact ok1 g.K h1 (s_callk (g.fx hxa) tk q1 q2 (eq_of_beq h3) (by simpa using h4) (chkEL_len (T := T) (P := P) (xo := none) h9).1 (chkEL_ok es _ g hf hx tk h9) (chkEK_ok ek kws g hf hx tk hkw h10) hkw (kIn_mem h8) (chkEL_len h9).2.2 fun as v v' he => by rw [l2 as v v' he, ← k4, k5])
  | .meth m es, e, xa, w, sc, X, xo, W0, g, hf, hx, tk, h => by
    simp only [chkX, Bool.and_eq_true] at h
    obtain ⟨hxa, h1, h2⟩ := h
    have hxa : xa = false := by simpa using hxa
    have hq := opt_and h2
    clear h2
    obtain ⟨⟨o, y, xs⟩, hk, h2⟩ := hq
    obtain ⟨ap, p, rfl, hap⟩ := dMeth_eq hk
    simp only [Bool.and_eq_true, decide_eq_true_eq] at h2
    obtain ⟨h3, h4, h5⟩ := h2
    cases es with
    | nil => cases h5
    | cons a es =>
      simp only [Bool.and_eq_true] at h5
      obtain ⟨h6, h7, h8⟩ := h5
      have l := chkEL_len (T := T) (P := P) (xo := none) h8
      exact ok1 g.K h1 (s_methV g.wd (g.fx hxa) tk g.K (by rw [eq_of_beq h3, g.wd.anm]) h6 h4 l.1 hap ((chkX_ok a o g hf hx tk h7).1 rfl) (chkEL_ok es xs g hf hx tk h8) l.2.1)
    | ref k es =>
      simp only [Bool.and_eq_true] at h5
      obtain ⟨h6, h8⟩ := h5
      have hq := opt_and h6
      clear h6
      obtain ⟨z, hz, h6⟩ := hq
      obtain ⟨p', rfl⟩ := dName_eq hz
      obtain ⟨q1, q2, q3, q4⟩ := g.slot h6
      have l := chkEL_len (T := T) (P := P) (xo := none) h8
      exact ok1 g.K h1 (s_methR g.wd (g.fx hxa) tk g.K (by rw [eq_of_beq h3, g.wd.anm]) q1 q2 q3 q4 h4 l.1 hap (chkEL_ok es xs g hf hx tk h8) l.2.1)
  | .new k es, e, xa, w, sc, X, xo, W0, g, hf, hx, tk, h => by
    simp only [chkX, Bool.and_eq_true] at h
    obtain ⟨hxa, h1, h2⟩ := h
    have hxa : xa = false := by simpa using hxa
    have hq := opt_and h2
    clear h2
    obtain ⟨⟨x, xs⟩, hk, h2⟩ := hq
    obtain ⟨p, q, rfl⟩ := dCall_eq hk
    simp only [Bool.and_eq_true] at h2
    obtain ⟨h3, h4, h5, h6, h7, h8⟩ := h2
    obtain ⟨q1, q2, q3⟩ := g.gl h6
    have hkp : k ∈ J.kp := by simpa using h5
    cases xs with
    | nil => cases h7
    | cons y ys => exact ok1 g.K h1 (s_new g.wd (g.fx hxa) tk q1 q2 (eq_of_beq h3) (by simpa using h4) hkp (chkEL_len (T := T) (P := P) (xo := none) h8).1 (chkEL_ok es _ g hf hx tk h8) ((g.fx hxa).kpi k hkp))
  | .newk k pm es ek, e, xa, w, sc, X, xo, W0, g, hf, hx, tk, h => by
    simp only [chkX, Bool.and_eq_true] at h
    obtain ⟨hxa, h1, h2⟩ := h
    have hxa : xa = false := by simpa using hxa
    have hq := opt_and h2
    clear h2
    obtain ⟨⟨x, xs, kws⟩, hk, h2⟩ := hq
    obtain ⟨p, q, rfl⟩ := dCallK_eq hk
    have hq := opt_and h2
    clear h2
    obtain ⟨⟨ks, ys⟩, hkw, h2⟩ := hq
    simp only [Bool.and_eq_true] at h2
    obtain ⟨h3, h4, h6, h7, h8, h9, h10⟩ := h2
    obtain ⟨q1, q2, q3⟩ := g.gl h6
    cases xs with
    | nil => cases h7
    | cons y zs =>
      have l2 := (chkEL_len (T := T) (P := P) (xo := xo.e) h10).2.2
      obtain ⟨_, _, _, k4, k5⟩ := kws_names X.env p hkw
      exact ok1 g.K h1 (s_newk g.wd (g.fx hxa) tk q1 q2 (eq_of_beq h3) (by simpa using h4) (chkEL_len (T := T) (P := P) (xo := none) h9).1 (chkEL_ok es _ g hf hx tk h9) (chkEK_ok ek kws g hf hx tk hkw h10) hkw (kIn_mem h8) (chkEL_len h9).2.2 fun as v v' he => by rw [l2 as v v' he, ← k4, k5])
  | .xat k f, e, xa, w, sc, X, xo, W0, g, hf, hx, tk, h => by
    simp only [chkX, Bool.and_eq_true] at h
    obtain ⟨h1, h2, h3, h4⟩ := h
    have hq := opt_and h4
    clear h4
    obtain ⟨⟨x, y⟩, hk, h4⟩ := hq
    obtain ⟨p, rfl⟩ := dAtt_eq hk
    simp only [Bool.and_eq_true] at h4
    obtain ⟨z, hz, h5⟩ := opt_and h4.2
    obtain ⟨p', rfl⟩ := dName_eq hz
    have hy : y = c.an f := by rw [eq_of_beq h4.1, g.wd.anm]
    subst hy
    exact ok1 g.K h1 (hx h2 k f z p' p W0 (by simpa using h3) h5)
  | .xis _ _ _, e, xa, w, sc, X, xo, W0, g, hf, hx, tk, h => by simp [chkX] at h
theorem chkOE_ok : ∀ (a : OE) (e : Option Expr) {xa : Bool} {sc : Scope} {X : Cx} {xo : Xs} {W0 : WX}, Gd c J T P A xa X sc N → xo.fr = xf → XaOk c T P N xf X sc xo xa → Takes X W0 → chkOE J xf xa sc N a e = true → PO X e (tOE c T P xo W0 a)
  | .no, none, _, _, _, _, _, _, _, _, _, _ => s_no
  | .yes a, some e, xa, sc, X, xo, W0, g, hf, hx, tk, h => s_yes ((chkX_ok a e g hf hx tk (by simpa [chkOE] using h)).1 rfl)
  | .no, some _, _, _, _, _, _, _, _, _, _, h => by simp [chkOE] at h
  | .yes _, none, _, _, _, _, _, _, _, _, _, h => by simp [chkOE] at h
theorem chkOT_ok : ∀ (a : OE) (e : Option Expr) {xa : Bool} {sc : Scope} {X : Cx} {xo : Xs} {W0 : WX} {ifs : List Expr}, Gd c J T P A xa X sc N → xo.fr = xf → XaOk c T P N xf X sc xo xa → Takes X W0 → chkOT J xf xa sc N a e = true → one? ifs = some e → PTs X ifs (ttO c T P xo W0 a)
  | .no, none, _, _, _, _, _, ifs, _, _, _, _, _, hi => by
    match ifs, hi with
    | [], _ => exact pts_nil
    | [_], hi => cases hi
    | _ :: _ :: _, hi => cases hi
  | .yes a, some e, xa, sc, X, xo, W0, ifs, g, hf, hx, tk, h, hi => by
    match ifs, hi with
    | [], hi => cases hi
    | [_], hi =>
      cases hi
      exact pts_one ((chkX_ok a e g hf hx tk (by simpa [chkOT] using h)).2 rfl)
    | _ :: _ :: _, hi => cases hi
  | .no, some _, _, _, _, _, _, _, _, _, _, _, h, _ => by simp [chkOT] at h
  | .yes _, none, _, _, _, _, _, _, _, _, _, _, h, _ => by simp [chkOT] at h
theorem chkEL_ok : ∀ (a : EL) (e : List Expr) {xa : Bool} {sc : Scope} {X : Cx} {xo : Xs} {W0 : WX}, Gd c J T P A xa X sc N → xo.fr = xf → XaOk c T P N xf X sc xo xa → Takes X W0 → chkEL J xf xa sc N a e = true → PA X e (tEL c T P xo W0 a)
  | .nil, [], _, _, _, _, _, _, _, _, _, _ => s_nil
  | .cons a es, x :: xs, xa, sc, X, xo, W0, g, hf, hx, tk, h => by
    simp only [chkEL, Bool.and_eq_true] at h
    exact s_cons h.1 ((chkX_ok a x g hf hx tk h.2.1).1 rfl) (chkEL_ok es xs g hf hx tk h.2.2)
  | .ref k es, x :: xs, xa, sc, X, xo, W0, g, hf, hx, tk, h => by
    simp only [chkEL, Bool.and_eq_true] at h
    obtain ⟨z, hz, h3⟩ := opt_and h.1
    obtain ⟨p, rfl⟩ := dName_eq hz
    obtain ⟨q1, q2, q3, q4⟩ := g.slot h3
    exact s_ref q1 q2 q3 q4 (chkEL_ok es xs g hf hx tk h.2)
  | .nil, _ :: _, _, _, _, _, _, _, _, _, _, h => by simp [chkEL] at h
  | .cons _ _, [], _, _, _, _, _, _, _, _, _, h => by simp [chkEL] at h
  | .ref _ _, [], _, _, _, _, _, _, _, _, _, h => by simp [chkEL] at h
theorem chkEK_ok : ∀ (a : EL) (kws : List Keyword) {ks : List Str} {ys : List Expr} {xa : Bool} {sc : Scope} {X : Cx} {xo : Xs} {W0 : WX}, Gd c J T P A xa X sc N → xo.fr = xf → XaOk c T P N xf X sc xo xa → Takes X W0 → kwsOf kws = some (ks, ys) → chkEL J xf xa sc N a ys = true → PK X kws (tEL c T P xo W0 a)
  | .nil, kws, ks, ys, xa, sc, X, xo, W0, g, hf, hx, tk, hk, h => by
    cases ys with
    | cons _ _ => simp [chkEL] at h
    | nil =>
      match kws, hk with
      | [], _ => exact k_nil
      | ⟨none, _, _⟩ :: _, hk => cases hk
      | ⟨some x, e, q⟩ :: kws, hk =>
        simp only [kwsOf, Option.map_eq_some_iff] at hk
        obtain ⟨⟨k2, y2⟩, h1, h2⟩ := hk
        cases h2
  | .cons a es, kws, ks, ys, xa, sc, X, xo, W0, g, hf, hx, tk, hk, h => by
    match kws, hk with
    | [], hk => cases hk; simp [chkEL] at h
    | ⟨none, _, _⟩ :: _, hk => cases hk
    | ⟨some x, e, q⟩ :: kws, hk =>
      simp only [kwsOf, Option.map_eq_some_iff] at hk
      obtain ⟨⟨k2, y2⟩, h1, h2⟩ := hk
      cases h2
      simp only [chkEL, Bool.and_eq_true] at h
      exact k_cons ((chkX_ok a e g hf hx tk h.2.1).1 rfl) (chkEK_ok es kws g hf hx tk h1 h.2.2)
  | .ref k es, kws, ks, ys, xa, sc, X, xo, W0, g, hf, hx, tk, hk, h => by
    match kws, hk with
    | [], hk => cases hk; simp [chkEL] at h
    | ⟨none, _, _⟩ :: _, hk => cases hk
    | ⟨some x, e, q⟩ :: kws, hk =>
      simp only [kwsOf, Option.map_eq_some_iff] at hk
      obtain ⟨⟨k2, y2⟩, h1, h2⟩ := hk
      cases h2
      simp only [chkEL, Bool.and_eq_true] at h
      obtain ⟨z, hz, h3⟩ := opt_and h.1
      obtain ⟨p, rfl⟩ := dName_eq hz
      obtain ⟨q1, q2, q3, q4⟩ := g.slot h3
      exact k_ref q1 q2 q3 q4 (chkEK_ok es kws g hf hx tk h1 h.2)
theorem chkI_ok : ∀ (a : Pv.I) (e : Expr) {tg : Expr} {xa : Bool} {sc : Scope} {X : Cx} {xo : Xs} {W0 : WX}, Gd c J T P A xa X sc N → xo.fr = xf → XaOk c T P N xf X sc xo xa → Takes X W0 → chkI J xf xa sc N a tg e = true → PI X tg e (tI c T P xo W0 a)
  | .seq a, e, tg, xa, sc, X, xo, W0, g, hf, hx, tk, h => by
    simp only [chkI, Bool.and_eq_true] at h
    exact s_seq g.K ((chkX_ok a e g hf hx tk h.2).1 rfl)
  | .rng1 a, e, tg, xa, sc, X, xo, W0, g, hf, hx, tk, h => by
    simp only [chkI] at h
    split at h
    · rename_i x y hk
      obtain ⟨p, q, rfl⟩ := dCall_eq hk
      simp only [Bool.and_eq_true] at h
      obtain ⟨h3, h4, h5, h6⟩ := h
      have := eq_of_beq h3
      subst this
      obtain ⟨q1, q2, q3⟩ := g.gl h4
      exact s_rng1 q1 (g.free (by decide +kernel)) h5 ((chkX_ok a y g hf hx tk h6).1 rfl)
    · cases h
  | .rng2 a b, e, tg, xa, sc, X, xo, W0, g, hf, hx, tk, h => by
    simp only [chkI] at h
    split at h
    · rename_i x y z hk
      obtain ⟨p, q, rfl⟩ := dCall_eq hk
      simp only [Bool.and_eq_true] at h
      obtain ⟨h3, h4, h5, h6, h7, h8⟩ := h
      have := eq_of_beq h3
      subst this
      obtain ⟨q1, q2, q3⟩ := g.gl h4
      exact s_rng2 q1 (g.free (by decide +kernel)) h5 h6 ((chkX_ok a y g hf hx tk h7).1 rfl) ((chkX_ok b z g hf hx tk h8).1 rfl)
    · cases h
  | .enum a, e, tg, xa, sc, X, xo, W0, g, hf, hx, tk, h => by
    simp only [chkI, Bool.and_eq_true] at h
    obtain ⟨h1, h⟩ := h
    obtain ⟨es, he⟩ := Option.isSome_iff_exists.mp h1
    obtain ⟨k, p2, rfl⟩ := dTup_eq he
    split at h
    · rename_i x y hk
      obtain ⟨p, q, rfl⟩ := dCall_eq hk
      simp only [Bool.and_eq_true] at h
      obtain ⟨h3, h4, h5, h6⟩ := h
      have := eq_of_beq h3
      subst this
      obtain ⟨q1, q2, q3⟩ := g.gl h4
      exact s_enum g.K q1 (g.free (by decide +kernel)) h5 ((chkX_ok a y g hf hx tk h6).1 rfl)
    · cases h
  | .zip _ _, e, tg, xa, sc, X, xo, W0, g, hf, hx, tk, h => by simp [chkI] at h
end
end
end Pv

set_option Elab.async false
set_option linter.all false
set_option maxRecDepth 100000
/-! PvX: statements: readings. -/
namespace Pv
open PySem PySem.Spec PyProof.Rows L2

abbrev Keep (sl : List Nat) (σ σ' : _root_.L2.St) : Prop := ∀ i, i ∉ sl → σ'[i]? = σ[i]?
/-- what is wanted of a flow -/
def okF (c : Cfg) (xo : Xs) (F H : Hp) (L : Ft) (σ : _root_.L2.St) (sl : List Nat) (r : Fl) (D : Ends) (W : WX) : Prop := match r with
  | .next v => ∀ F' H' L' σ', Rel c xo F' H' L' σ' v → Step true F H L F' H' L' → Keep sl σ σ' → D.nx σ' H'
  | .brk v => ∀ F' H' L' σ', Rel c xo F' H' L' σ' v → Step true F H L F' H' L' → Keep sl σ σ' → D.bk σ' H'
  | .cont v => ∀ F' H' L' σ', Rel c xo F' H' L' σ' v → Step true F H L F' H' L' → Keep sl σ σ' → D.ct σ' H'
  | .ret o v => ∀ F' H' L' σ' u B, Rel c xo F' H' L' σ' v → Step true F H L F' H' L' → Keep sl σ σ' → Own c F' H' o u B → Free F' L' B → New true H L B → D.rt u H'
  | .exc x v => ∀ F' H' L' σ' cls d, Rel c xo F' H' L' σ' v → Step true F H L F' H' L' → Keep sl σ σ' → RX c F' x cls d → W cls d σ' H'
  | .bad => False
def tS (c : Cfg) (T : Tbl) (P : Fn) (xo : Xs) (W : WX) (s : S) : TS := fun D σ H => ∃ F L v, Rel c xo F H L σ v ∧ okF c xo F H L σ s.sl (exs T P xo.e s v) D W
def tSs (c : Cfg) (T : Tbl) (P : Fn) (xo : Xs) (W : WX) (s : SL) : TS := fun D σ H => ∃ F L v, Rel c xo F H L σ v ∧ okF c xo F H L σ s.sl (exss T P xo.e s v) D W
section
variable {X : Cx} {c : Cfg} {T : Tbl} {P : Fn} {xo : Xs} {W0 : WX} {e e1 e2 e3 o tg : Expr} {es xs : List Expr} {a b d : E} {g : G} {p p' p2 ap : Pos} {σ σ1 : _root_.L2.St} {F F' F1 F2 H H' H1 H2 : Hp} {L L' L1 L2 : Ft} {v v1 : Env} {D : Ends} {sl sl' : List Nat} {r : Fl} {st : Stmt}
theorem okF.step (h : okF c xo F H L σ sl r D W0) (s : Step true F H L F1 H1 L1) (k : Keep sl σ σ1) : okF c xo F1 H1 L1 σ1 sl r D W0 := by
  have kk : ∀ {σ'}, Keep sl σ1 σ' → Keep sl σ σ' := fun h i hi => (h i hi).trans (k i hi)
  cases r with
  | next v => exact fun F' H' L' σ' R t q => h F' H' L' σ' R (s.trans t) (kk q)
  | brk v => exact fun F' H' L' σ' R t q => h F' H' L' σ' R (s.trans t) (kk q)
  | cont v => exact fun F' H' L' σ' R t q => h F' H' L' σ' R (s.trans t) (kk q)
  | ret o v => exact fun F' H' L' σ' u B R t q ow fr n => h F' H' L' σ' u B R (s.trans t) (kk q) ow fr (n.step s)
  | exc x v => exact fun F' H' L' σ' cls d R t q rx => h F' H' L' σ' cls d R (s.trans t) (kk q) rx
  | bad => exact h
theorem okF.less (h : okF c xo F H L σ sl r D W0) (k : ∀ i ∈ sl', i ∈ sl) : okF c xo F H L σ sl' r D W0 := by
  have kk : ∀ {σ'}, Keep sl' σ σ' → Keep sl σ σ' := fun h i hi => h i fun z => hi (k i z)
  cases r with
  | next v => exact fun F' H' L' σ' R t q => h F' H' L' σ' R t (kk q)
  | brk v => exact fun F' H' L' σ' R t q => h F' H' L' σ' R t (kk q)
  | cont v => exact fun F' H' L' σ' R t q => h F' H' L' σ' R t (kk q)
  | ret o v => exact fun F' H' L' σ' u B R t q ow fr n => h F' H' L' σ' u B R t (kk q) ow fr n
  | exc x v => exact fun F' H' L' σ' cls d R t q rx => h F' H' L' σ' cls d R t (kk q) rx
  | bad => exact h
theorem Keep.refl : Keep sl σ σ := fun _ _ => rfl
/-- evaluate a, then go on -/
theorem bindF {f : Val → Env → Fl} {Q1 : VK} (R0 : Rel c xo F H L σ v) (h : okF c xo F H L σ sl ((ev T P xo.e a v).fl f) D W0)
    (k : ∀ x v1 F1 H1 L1 u B, Rel c xo F1 H1 L1 σ v1 → Step true F H L F1 H1 L1 → RV c F1 H1 L1 x u B → New true H L B → okF c xo F H L σ sl (f x v1) D W0 → okF c xo F1 H1 L1 σ sl (f x v1) D W0 → Q1 u H1) : tE c T P xo W0 a σ H Q1 := by
  refine ⟨F, L, v, R0, ?_⟩
  cases q : ev T P xo.e a v with
  | ok x v1 =>
    rw [q] at h
    exact fun F1 H1 L1 B R1 s n u r => k x v1 F1 H1 L1 u B R1 s.up r (n.mono fun z => by cases z) h (okF.step h s.up Keep.refl)
  | exc x v1 =>
    rw [q] at h
    exact fun F1 H1 L1 cls d R1 s r => h F1 H1 L1 σ cls d R1 s.up Keep.refl r
  | bad =>
    rw [q] at h
    exact h
/-- slot i gets a thing of its own -/
theorem Rel.setO {F0 H0 : Hp} {L0 : Ft} {i : Nat} {ob : O} {u : V} {B : List Addr} (R : Rel c xo F H L σ v) (ow : Own c F H ob u B) (fr : Free F L B) (hx : i ∉ xo.fr) (s : Step true F0 H0 L0 F H L) (n : New true H0 L0 B) :
    ∃ L', Rel c xo F H L' (σ.set i (some u)) (v.set i (some ob)) ∧ Step true F0 H0 L0 F H L' := by
  by_cases hi : i < v.length
  · refine ⟨fun j => if j = i then B else L j, ⟨R.le, fun j o h => ?_, fun j => ?_, fun j k q hj hk => ?_, fun j q hq => ?_, fun j h => ?_, by rw [List.length_set, List.length_set, R.len], xo.cong (fun j hj => List.getElem?_set_ne fun z => hx (by rw [z]; exact hj)) R.xs⟩, ⟨s.f, s.h, s.g, fun j q hq => ?_, fun z => by cases z⟩⟩
    · rw [getS_set] at h
      split at h
      · rename_i hij
        obtain ⟨rfl, hl⟩ := hij
        cases h
        refine ⟨u, by rw [List.getElem?_set_self (by rw [R.len]; exact hl)], ?_⟩
        rw [if_pos rfl]
        exact ow
      · rename_i hij
        have hne : j ≠ i := fun z => hij ⟨z.symm, hi⟩
        obtain ⟨w, h1, h2⟩ := R.slot j o h
        refine ⟨w, by rw [List.getElem?_set_ne (Ne.symm hne)]; exact h1, ?_⟩
        rw [if_neg hne]
        exact h2
    · show (if j = i then B else L j).Nodup
      split
      · exact fr.nd
      · exact R.nd j
    · have hj : q ∈ (if j = i then B else L j) := hj
      have hk : q ∈ (if k = i then B else L k) := hk
      split at hj
      · split at hk
        · rename_i h1 h2
          rw [h1, h2]
        · exact (fr.l k q hj hk).elim
      · split at hk
        · exact (fr.l j q hk hj).elim
        · exact R.dj j k q hj hk
    · have hq : q ∈ (if j = i then B else L j) := hq
      split at hq
      · exact fr.f q hq
      · exact R.df j q hq
    · rw [getS_set] at h
      show (if j = i then B else L j) = []
      split at h
      · cases h
      · rename_i hij
        rw [if_neg fun z => hij ⟨z.symm, hi⟩]
        exact R.dead j h
    · have hq : q ∈ (if j = i then B else L j) := hq
      split at hq
      · exact (n q hq).imp id fun z => z.2
      · exact s.l j q hq
  · refine ⟨L, ?_, s⟩
    have hl := R.len
    rw [List.set_eq_of_length_le (show σ.length ≤ i by omega), List.set_eq_of_length_le (show v.length ≤ i by omega)]
    exact R
/-! ### simple statements -/
theorem ps_imp {t t' : TS} (h : PS X st t) (k : ∀ D σ H, t' D σ H → t D σ H) : PS X st t' := ⟨fun pins s σ H D I q => h.run pins s σ H D I (k D σ H q)⟩
theorem pss_imp {st : List Stmt} {t t' : TS} (h : PSs X st t) (k : ∀ D σ H, t' D σ H → t D σ H) : PSs X st t' := ⟨fun pins s σ H D I q => h.run pins s σ H D I (k D σ H q)⟩
theorem s_ret (ha : PE X e (tE c T P xo W0 a)) : PS X (.Return (some e) p) (tS c T P xo W0 (.ret a)) := by
  refine ps_imp (ps_ret ha) fun D σ H ⟨F, L, v, R0, q⟩ => ?_
  simp only [exs] at q
  refine bindF R0 q fun x v1 F1 H1 L1 u B R1 s1 r1 n1 q0 q1 => ?_
  cases ho : x.own with
  | none => rw [ho] at q0; exact q0.elim
  | some oo =>
    rw [ho] at q0
    obtain ⟨B2, ow, fr, sub⟩ := own_rv ho r1
    exact q0 F1 H1 L1 σ u B2 R1 s1 Keep.refl ow fr fun q hq => n1 q (sub q hq)
theorem s_retN : PS X (.Return none p) (tS c T P xo W0 .retN) := by
  refine ps_imp ps_retN fun D σ H ⟨F, L, v, R0, q⟩ => ?_
  simp only [exs] at q
  exact q F H L σ .non [] R0 Step.refl Keep.refl ⟨rfl, rfl⟩ Free.nil New.nil
theorem s_pass : PS X (.Pass p) (tS c T P xo W0 .pass) := by
  refine ps_imp ps_pass fun D σ H ⟨F, L, v, R0, q⟩ => ?_
  simp only [exs] at q
  exact q F H L σ R0 Step.refl Keep.refl
theorem s_brk : PS X (.Break p) (tS c T P xo W0 .brk) := by
  refine ps_imp ps_break fun D σ H ⟨F, L, v, R0, q⟩ => ?_
  simp only [exs] at q
  exact q F H L σ R0 Step.refl Keep.refl
theorem s_cont : PS X (.Continue p) (tS c T P xo W0 .cont) := by
  refine ps_imp ps_continue fun D σ H ⟨F, L, v, R0, q⟩ => ?_
  simp only [exs] at q
  exact q F H L σ R0 Step.refl Keep.refl
theorem s_ex (ha : PE X e (tE c T P xo W0 a)) (hs : swapsWith e none p.line X.env = pure false) : PS X (.Expr e p) (tS c T P xo W0 (.ex a)) := by
  refine ps_imp (ps_expr ha hs) fun D σ H ⟨F, L, v, R0, q⟩ => ?_
  simp only [exs] at q
  refine bindF R0 q fun x v1 F1 H1 L1 u B R1 s1 r1 n1 q0 q1 => ?_
  exact q0 F1 H1 L1 σ R1 s1 Keep.refl
/-- name = value: the reading behind the value -/
theorem set_read {i : Nat} (q : tS c T P xo W0 (.asg (.n i) a) D σ H) (hx : i ∉ xo.fr) : tAsg (tE c T P xo W0 a) (gName i) D σ H := by
  obtain ⟨F, L, v, R0, q⟩ := q
  simp only [exs] at q
  refine bindF R0 q fun x v1 F1 H1 L1 u B R1 s1 r1 n1 q0 q1 => ?_
  cases ho : x.own with
  | none => rw [ho] at q0; exact q0.elim
  | some oo =>
    rw [ho] at q0
    obtain ⟨B2, ow, fr, sub⟩ := own_rv ho r1
    obtain ⟨L2, R2, s2⟩ := R1.setO (i := i) ow fr hx s1 fun q hq => n1 q (sub q hq)
    refine q0 F1 H1 L2 _ R2 s2 fun j hj => ?_
    have : j ≠ i := by simpa [S.sl, G.sl] using hj
    rw [List.getElem?_set_ne (Ne.symm this)]
/-- a, b = value -/
theorem tup_read {gs : List G} (q : tS c T P xo W0 (.asg (.t gs) a) D σ H) (hx : ∀ i ∈ G.sls gs, i ∉ xo.fr) : tAsg (tE c T P xo W0 a) (gR c.K (.t gs)) D σ H := by
  obtain ⟨F, L, v, R0, q⟩ := q
  simp only [exs] at q
  refine bindF R0 q fun x v1 F1 H1 L1 u B R1 s1 r1 n1 q0 q1 => ?_
  cases hf : x.fin with
  | none => rw [hf] at q0; exact q0.elim
  | some d =>
    rw [hf] at q0
    obtain ⟨F2, R2, s2, k2, r2⟩ := fin_rep hf R1 s1 r1 n1
    cases hb : bindG (.t gs) d v1 with
    | none => simp only [hb] at q0; exact q0.elim
    | some v2 =>
      simp only [hb] at q0
      refine gR_ok (g := .t gs) R2 r2 hb hx fun σ2 hσ R3 => ?_
      exact q0 F2 H1 _ σ2 R3 (s2.lw fun z => by cases z) hσ
end
end Pv

set_option Elab.async false
set_option linter.all false
set_option maxRecDepth 100000
/-! PwN: raise C(..). -/
namespace Pv
open PySem PySem.Spec PyProof.Rows L2

section
variable {X : Cx} {c : Cfg} {T : Tbl} {P : Fn} {xo : Xs} {W0 : WX} {e : Expr} {xs : List Expr} {p p' p2 : Pos} {σ : _root_.L2.St} {F F' H H' : Hp} {L L' : Ft} {v v1 : Env} {D : Ends} {sl : List Nat} {J : Info} {A : Ad}
theorem bindAF {es : EL} {f : List Ar → Env → Fl} {Q1 : List V → Hp → Prop} (R0 : Rel c xo F H L σ v) (h : okF c xo F H L σ sl ((evs T P xo.e es v).fl f) D W0)
    (k : ∀ as v1 F1 H1 L1 vs, Rel c xo F1 H1 L1 σ v1 → Step true F H L F1 H1 L1 → Args c F1 σ as vs → okF c xo F1 H1 L1 σ sl (f as v1) D W0 → Q1 vs H1) : tEL c T P xo W0 es σ H Q1 := by
  refine ⟨F, L, v, R0, ?_⟩
  cases q : evs T P xo.e es v with
  | ok as v1 =>
    rw [q] at h
    exact fun F1 H1 L1 B R1 s n vs r => k as v1 F1 H1 L1 vs R1 s.up r (okF.step h s.up Keep.refl)
  | exc x v1 =>
    rw [q] at h
    exact fun F1 H1 L1 cls d R1 s r => h F1 H1 L1 σ cls d R1 s.up Keep.refl r
  | bad =>
    rw [q] at h
    exact h
theorem Reps.shown : ∀ {ds : List Pv.D} {vs : List V}, Reps c F ds vs → ds.all excOk = true → ∀ u ∈ vs, Shown u
  | [], vs, h, _, u, hu => by cases (show vs = _ from h); cases hu
  | d :: ds, vs, ⟨v, r, h1, h2, h3⟩, e, u, hu => by
    subst h1
    simp only [List.all_cons, Bool.and_eq_true] at e
    rcases List.mem_cons.mp hu with rfl | hu
    · cases d with
      | int i =>
        cases (show u = _ from h2)
        exact of_decide_eq_true (p := i.natAbs.log2 < 1920) e.1
      | str z =>
        cases (show u = _ from h2)
        exact of_decide_eq_true (p := z.length ≤ 10000) e.1
      | _ => cases e.1
    · exact Reps.shown h3 e.2 u hu
theorem Repf.app : ∀ {fs gs : List (Nat × Pv.D)} {vs ws : List (Str × V)}, Repf c F fs vs → Repf c F gs ws → Repf c F (fs ++ gs) (vs ++ ws)
  | [], gs, vs, ws, h, h2 => by cases (show vs = _ from h); exact h2
  | q :: fs, gs, vs, ws, ⟨v, r, h1, h2, h3⟩, h => by
    subst h1
    exact ⟨v, r ++ ws, rfl, h2, Repf.app h3 h⟩
theorem Repf.rev : ∀ {fs : List (Nat × Pv.D)} {vs : List (Str × V)}, Repf c F fs vs → Repf c F fs.reverse vs.reverse
  | [], vs, h => by cases (show vs = _ from h); exact rfl
  | q :: fs, vs, ⟨v, r, h1, h2, h3⟩ => by
    subst h1
    rw [List.reverse_cons, List.reverse_cons]
    exact (Repf.rev h3).app ⟨v, [], rfl, h2, rfl⟩
theorem Repf.zip : ∀ {fs : List Nat} {ds : List Pv.D} {vs : List V}, Reps c F ds vs → Repf c F (fs.zip ds) ((fs.map c.an).zip vs)
  | [], _, _, _ => rfl
  | _ :: _, [], vs, h => by cases (show vs = _ from h); exact rfl
  | f :: fs, d :: ds, vs, ⟨v, r, h1, h2, h3⟩ => by
    subst h1
    exact ⟨v, _, rfl, h2, Repf.zip h3⟩
theorem s_raise {k : Nat} {el : EL} {x : Str} (fx : Fx c J T P A X) (hK : X.K = c.K) (hc : X.calm = true) (tk : Takes X W0) (hno : xo.e = none) (hg : Gl X x) (hd : (x == ("__debug__" : Str)) = false) (hx : x = J.cnm k) (hk : k ∈ J.rk) (hp : (e :: xs).all plainX = true) (hA : PA X (e :: xs) (tEL c T P xo W0 el)) :
    PS X (.Raise (some (.Call (.Name x p') (e :: xs) [] p)) none p2) (tS c T P xo W0 (.raise k el)) := by
  have hp : plainX e = true ∧ xs.all plainX = true := by simpa using hp
  obtain ⟨hm, Dd, fI, fd, ps, oc, iC, tI, F1, hb, SI, hfi⟩ := fx.rz k hk
  rw [← hK] at oc iC tI F1 hb SI hfi
  have hps : Passes (L2.CX X.prog X.w) X (fun _ _ _ => False) := fun pins σ H s e s' I q => tk e s' (XE.of_call I (fun _ _ _ h => h.elim) q)
  refine ps_imp (ps_raise hc tk (pmk_oex (k := 1) oc iC tI F1 fx.rm2 hb .nil hps hg (by rw [hx]; exact hm) hA hd (plain_star hp.1 _ _) (plain_stars hp.2 _ _))) fun D σ H ⟨F, L, v, R0, q⟩ => ?_
  rw [hno] at q
  simp only [exs] at q
  have q : okF c xo F H L σ [] ((evs T P xo.e el v).fl fun as v => match (fins as).bind (excOf k (T.exf k)) with
      | some x => .exc x v
      | none => .bad) D W0 := by rw [hno]; exact q
  refine bindAF R0 q fun as v1 F1 H1 L1 vs R1 s1 r1 q1 => ?_
  cases hf : fins as with
  | none => rw [hf] at q1; exact q1.elim
  | some ds =>
    rw [hf] at q1
    rw [Option.bind_some] at q1
    unfold excOf at q1
    split at q1
    · rename_i y he
      split at he
      · rename_i g
        cases he
        simp only [Bool.and_eq_true, beq_iff_eq] at g
        obtain ⟨g1, g3, g2⟩ := g
        have g3 := of_decide_eq_true g3
        have rr := r1.fins hf
        have hl := rr.length
        have hlen : vs.length = ((T.exf k).map c.an).length := by rw [List.length_map, g1, hl]
        refine ⟨?_, fun a ha => ⟨a, c.ca k, vs, by rw [List.append_nil], hlen, rr.shown g2, SI, fun y hy => ?_, upd_same, fun dx H2 h1 h2 h3 h4 h5 => ⟨rfl, dx, _, h3, h4, ?_, ?_⟩⟩⟩
        · rw [← rr.length]; omega
        · obtain ⟨f, hf, rfl⟩ := List.mem_map.mp hy
          exact hfi f hf
        · rw [upd_ne h2] at h1
          exact h1
        · rw [upd_ne h2] at h1
          have e : upd (del H2 a) dx (.xd (((T.exf k).map c.an).zip vs).reverse) = upd H1 dx (.xd (((T.exf k).map c.an).zip vs).reverse) := by
            funext b
            by_cases hb : b = dx
            · rw [hb, upd_same, upd_same]
            · rw [upd_ne hb, upd_ne hb]
              by_cases hb2 : b = a
              · rw [hb2, del_same, ha]
              · rw [del_ne hb2, h5 b hb hb2, upd_ne hb2]
          rw [e]
          refine q1 _ _ L1 σ _ _ (R1.newF h1) (Step.newF R1.le h1) Keep.refl ⟨rfl, .inr ⟨dx, _, rfl, upd_same, ?_⟩⟩
          exact (Repf.mono (same_new (R1.le.free h1)) _ _ (Repf.zip rr)).rev
      · cases he
    · exact q1.elim
end
end Pv

set_option Elab.async false
set_option linter.all false
set_option maxRecDepth 100000
/-! PvY: statements: what changes a thing of a slot. -/
namespace Pv
open PySem PySem.Spec PyProof.Rows L2

section
variable {X : Cx} {c : Cfg} {T : Tbl} {P : Fn} {xo : Xs} {W0 : WX} {e e1 e2 e3 o tg : Expr} {es xs : List Expr} {a b d : E} {g : G} {p p' p2 ap : Pos} {σ σ1 : _root_.L2.St} {F F' F0 F1 F2 H H' H0 H1 H2 : Hp} {L L' L0 L1 L2 : Ft} {v v1 : Env} {D : Ends} {sl sl' : List Nat} {r : Fl} {st : Stmt} {J : Info} {A : Ad}
/-- a set of addresses out of two that are apart -/
structure Out (A' A B : List Addr) : Prop where
  sub : ∀ p ∈ A', p ∈ A ∨ p ∈ B
  nd : A.Nodup → B.Nodup → (∀ p ∈ A, p ∉ B) → A'.Nodup
theorem owns_set : ∀ {os : List O} {vs : List V} {A : List Addr} {j : Nat} {x : O} {u : V} {B : List Addr}, Owns c F H os vs A → Own c F H x u B → j < os.length → ∃ A', Owns c F H (os.set j x) (vs.set j u) A' ∧ Out A' A B
  | [], _, _, j, _, _, _, _, _, h => by simp at h
  | y :: os, vs, A, 0, x, u, B, ⟨w, r, A1, A2, h1, h2, h3, h4⟩, h, _ => by
    subst h1 h2
    refine ⟨B ++ A2, ⟨u, r, B, A2, rfl, rfl, h, h4⟩, fun p hp => ?_, fun n1 n2 dj => ?_⟩
    · rcases List.mem_append.mp hp with hp | hp
      · exact .inr hp
      · exact .inl (List.mem_append_right _ hp)
    · refine List.nodup_append.mpr ⟨n2, (List.nodup_append.mp n1).2.1, fun a ha b hb z => ?_⟩
      subst z
      exact dj a (List.mem_append_right _ hb) ha
  | y :: os, vs, A, j + 1, x, u, B, ⟨w, r, A1, A2, h1, h2, h3, h4⟩, h, hl => by
    subst h1 h2
    obtain ⟨A', q1, q2⟩ := owns_set (j := j) h4 h (by simpa using hl)
    refine ⟨A1 ++ A', ⟨w, _, A1, A', rfl, rfl, h3, q1⟩, fun p hp => ?_, fun n1 n2 dj => ?_⟩
    · rcases List.mem_append.mp hp with hp | hp
      · exact .inl (List.mem_append_left _ hp)
      · exact (q2.sub p hp).imp (List.mem_append_right _) id
    · obtain ⟨m1, m2, m3⟩ := List.nodup_append.mp n1
      refine List.nodup_append.mpr ⟨m1, q2.nd m2 n2 fun p hp => dj p (List.mem_append_right _ hp), fun a ha b hb z => ?_⟩
      subst z
      rcases q2.sub a hb with h5 | h5
      · exact m3 a ha a h5 rfl
      · exact dj a (List.mem_append_left _ ha) h5
theorem ownf_set {f : Nat} : ∀ {fs : List (Nat × O)} {vs : List (Str × V)} {A : List Addr} {x : O} {u : V} {B : List Addr}, Ownf c F H fs vs A → Own c F H x u B → ∃ A', Ownf c F H (setN f x fs) (putF (c.an f) u vs) A' ∧ Out A' A B
  | [], vs, A, x, u, B, ⟨h1, h2⟩, h => by
    subst h1 h2
    refine ⟨B, ⟨u, [], B, [], rfl, by simp, h, rfl, rfl⟩, fun p hp => .inr hp, fun _ n2 _ => n2⟩
  | q :: fs, vs, A, x, u, B, ⟨w, r, A1, A2, h1, h2, h3, h4⟩, h => by
    subst h1 h2
    by_cases hq : q.1 = f
    · have e1 : setN f x (q :: fs) = (f, x) :: fs := by
        unfold setN
        rw [if_pos (by simp [hq])]
      have e2 : putF (c.an f) u ((c.an q.1, w) :: r) = (c.an f, u) :: r := by
        unfold putF
        rw [if_pos (by rw [hq]), hq]
      rw [e1, e2]
      refine ⟨B ++ A2, ⟨u, r, B, A2, rfl, rfl, h, h4⟩, fun p hp => ?_, fun n1 n2 dj => ?_⟩
      · rcases List.mem_append.mp hp with hp | hp
        · exact .inr hp
        · exact .inl (List.mem_append_right _ hp)
      · refine List.nodup_append.mpr ⟨n2, (List.nodup_append.mp n1).2.1, fun a ha b hb z => ?_⟩
        subst z
        exact dj a (List.mem_append_right _ hb) ha
    · obtain ⟨A', q1, q2⟩ := ownf_set (f := f) h4 h
      have e1 : setN f x (q :: fs) = q :: setN f x fs := by
        conv => lhs; unfold setN
        rw [if_neg (by simp [hq])]
      have e2 : putF (c.an f) u ((c.an q.1, w) :: r) = (c.an q.1, w) :: putF (c.an f) u r := by
        conv => lhs; unfold putF
        rw [if_neg fun z => hq (c.inj _ _ z)]
      rw [e1, e2]
      refine ⟨A1 ++ A', ⟨w, _, A1, A', rfl, rfl, h3, q1⟩, fun p hp => ?_, fun n1 n2 dj => ?_⟩
      · rcases List.mem_append.mp hp with hp | hp
        · exact .inl (List.mem_append_left _ hp)
        · exact (q2.sub p hp).imp (List.mem_append_right _) id
      · obtain ⟨m1, m2, m3⟩ := List.nodup_append.mp n1
        refine List.nodup_append.mpr ⟨m1, q2.nd m2 n2 fun p hp => dj p (List.mem_append_right _ hp), fun a ha b hb z => ?_⟩
        subst z
        rcases q2.sub a hb with h5 | h5
        · exact m3 a ha a h5 rfl
        · exact dj a (List.mem_append_left _ ha) h5
/-- the object at l, which slot k owns, is written -/
theorem Rel.mod {k : Nat} {l : Addr} {ho : HO} {ob : O} {u : V} {A' B : List Addr} (R : Rel c xo F H L σ v) (hσ : σ[k]? = some (some u)) (hl : l ∈ L k) (ow : Own c F (upd H l ho) ob u A') (sub : ∀ p ∈ A', p ∈ L k ∨ p ∈ B) (nd : A'.Nodup) (fr : Free F L B)
    (s : Step true F0 H0 L0 F H L) (n : New true H0 L0 B) : ∃ L', Rel c xo F (upd H l ho) L' σ (v.set k (some ob)) ∧ Step true F0 H0 L0 F (upd H l ho) L' := by
  have hk : k < v.length := by
    rw [← R.len]
    exact (List.getElem?_eq_some_iff.mp hσ).1
  have hF := R.df k l hl
  refine ⟨fun j => if j = k then A' else L j, ⟨fun q x hq => ?_, fun j o h => ?_, fun j => ?_, fun i j q hi hj => ?_, fun j q hq => ?_, fun j h => ?_, by rw [List.length_set, R.len], R.xs⟩, ⟨s.f, fun q x hq hL => ?_, s.g, fun j q hq => ?_, fun z => by cases z⟩⟩
  · have : q ≠ l := fun z => by
      subst z
      rw [hF] at hq; cases hq
    rw [upd_ne this]
    exact R.le q x hq
  · rw [getS_set] at h
    split at h
    · rename_i hij
      obtain ⟨rfl, _⟩ := hij
      cases h
      refine ⟨u, hσ, ?_⟩
      rw [if_pos rfl]
      exact ow
    · rename_i hij
      have hne : j ≠ k := fun z => hij ⟨z.symm, hk⟩
      obtain ⟨w, h1, h2⟩ := R.slot j o h
      refine ⟨w, h1, ?_⟩
      rw [if_neg hne]
      refine Own.keep (Same.refl F) o w _ (fun q x hq hx => ?_) h2
      rw [upd_ne fun z => hne (R.dj j k q hq (by rw [z]; exact hl))]
      exact hx
  · show (if j = k then A' else L j).Nodup
    split
    · exact nd
    · exact R.nd j
  · have hi : q ∈ (if i = k then A' else L i) := hi
    have hj : q ∈ (if j = k then A' else L j) := hj
    have mix : ∀ {i : Nat}, i ≠ k → q ∈ L i → q ∈ A' → False := fun {i} h1 h2 h3 => by
      rcases sub q h3 with h4 | h4
      · exact h1 (R.dj i k q h2 h4)
      · exact fr.l i q h4 h2
    split at hi
    · split at hj
      · rename_i h1 h2
        rw [h1, h2]
      · exact (mix (by assumption) hj hi).elim
    · split at hj
      · exact (mix (by assumption) hi hj).elim
      · exact R.dj i j q hi hj
  · have hq : q ∈ (if j = k then A' else L j) := hq
    split at hq
    · rcases sub q hq with h | h
      · exact R.df k q h
      · exact fr.f q h
    · exact R.df j q hq
  · show (if j = k then A' else L j) = []
    rw [getS_set] at h
    split at h
    · cases h
    · rename_i hij
      rw [if_neg fun z => hij ⟨z.symm, hk⟩]
      exact R.dead j h
  · have : q ≠ l := fun z => by
      subst z
      rcases s.l k q hl with h1 | ⟨i, h1⟩
      · rw [h1] at hq; cases hq
      · exact hL rfl i h1
    rw [upd_ne this]
    exact s.h q x hq hL
  · have hq : q ∈ (if j = k then A' else L j) := hq
    split at hq
    · rcases sub q hq with h | h
      · exact s.l k q h
      · exact (n q h).imp id fun z => z.2
    · exact s.l j q hq
theorem fl_ok {α : Type} {a : α} {v : Env} {f : α → Env → Fl} : (R.ok a v).fl f = f a v := rfl
/-- x.f = value, x a name -/
theorem s_setf {k f : Nat} {x y : Str} (wd : Wd c J T X.mg) (hK : X.K = c.K) (hy : y = c.an f) (hN : X.N[k]? = some x) (hv : Vis X.env.scope x) (hd : (x == ("__debug__" : Str)) = false) (hcd : (x == ("__classdict__" : Str)) = false) (hs : swapsWith e (some (.Attribute (.Name x p') y p2)) p.line X.env = pure false) (ha : PE X e (tE c T P xo W0 a)) :
    PS X (.Assign [.Attribute (.Name x p') y p2] e p) (tS c T P xo W0 (.setf (.v k) f a)) := by
  subst hy
  refine ps_imp (ps_fld (pe_var hN hv hd hcd) ha hs) fun D σ H ⟨F, L, v, R0, q⟩ => ?_
  simp only [exs, path] at q
  refine bindF R0 q fun x v1 F1 H1 L1 u B R1 s1 r1 n1 q0 q1 => ?_
  simp only [fl_ok] at q0
  cases ho : x.own with
  | none => rw [ho] at q0; exact q0.elim
  | some oo =>
    rw [ho] at q0
    obtain ⟨B2, ow, fr, sub⟩ := own_rv ho r1
    have n2 : New true H L B2 := fun q hq => n1 q (sub q hq)
    simp only [updS] at q0
    cases hg : getS v1 k with
    | none => rw [hg] at q0; exact q0.elim
    | some ok =>
      rw [hg] at q0
      cases ok with
      | obj C fs =>
        simp only [Option.bind_some, updO, fld1] at q0
        by_cases hc : (decide (fs.length < 900) && ((T.ini C).isSome && (T.att C f).isFld)) = true
        · rw [if_pos hc] at q0
          simp only [Bool.and_eq_true, decide_eq_true_eq] at hc
          obtain ⟨hc1, hc2, hc3⟩ := hc
          obtain ⟨w, hw, l, dx, vs, B3, rfl, h2, h3, h4⟩ := R1.slot k _ hg
          have hatt : T.att C f = .fld := by
            cases hA : T.att C f <;> rw [hA] at hc3 <;> first | rfl | cases hc3
          have hlen : fs.length = vs.length := by
            have : ∀ {fs : List (Nat × O)} {vs : List (Str × V)} {A : List Addr}, Ownf c F1 H1 fs vs A → fs.length = vs.length := by
              intro fs
              induction fs with
              | nil => intro vs A h; rw [h.1]; rfl
              | cons p fs ih => intro vs A ⟨w, r, A1, A2, h1, h2, h3, h4⟩; rw [h1, List.length_cons, List.length_cons, ih h4]
            exact this h4
          have nd := List.nodup_cons.mp (by rw [← h3]; exact R1.nd k)
          have hl : l ∈ L1 k := by rw [h3]; exact List.mem_cons_self
          have dis : ∀ p ∈ l :: B3, p ∉ B2 := fun p hp hq => fr.l k p hq (by rw [h3]; exact hp)
          obtain ⟨A', o1, o2⟩ := ownf_set (f := f) h4 ow
          have nl : ∀ p ∈ A', p ≠ l := fun p hp z => by
            subst z
            rcases o2.sub p hp with h5 | h5
            · exact nd.1 h5
            · exact dis p List.mem_cons_self h5
          have ow2 : Own c F1 (upd H1 l (.ins (c.ca C) dx (putF (c.an f) u vs))) (.obj C (setN f oo fs)) (.ref l) (l :: A') :=
            ⟨l, dx, _, A', rfl, upd_same, rfl, Ownf.keep (Same.refl F1) _ _ _ (fun p x hp hx => by rw [upd_ne (nl p hp)]; exact hx) o1⟩
          obtain ⟨L2, R2, s2⟩ := R1.mod hw hl ow2 (fun p hp => by
            rcases List.mem_cons.mp hp with rfl | hp
            · exact .inl hl
            · rcases o2.sub p hp with h5 | h5
              · exact .inl (by rw [h3]; exact List.mem_cons_of_mem _ h5)
              · exact .inr h5) (List.nodup_cons.mpr ⟨fun z => nl l z rfl, o2.nd nd.2 fr.nd fun p hp => dis p (List.mem_cons_of_mem _ hp)⟩) fr s1 n2
          rw [hK]
          refine ⟨.ref l, hw, l, c.ca C, dx, vs, rfl, h2, wd.cls C hc2, wd.fld C f hc2 hatt, by omega, ?_⟩
          exact q0 F1 _ L2 σ R2 s2 Keep.refl
        · rw [if_neg hc] at q0
          exact q0.elim
      | fz _ => exact q0.elim
      | lst _ => exact q0.elim
/-- x[i] = value, x a name -/
theorem s_seti {k : Nat} {x : Str} (hasg : ∀ v, assign (.Subscript (.Name x p') e2 p2) X.env v = (do
      let ov ← holding [v] (eval (.Name x p') X.env)
      let iv ← holding [v, ov] (eval e2 X.env)
      standAt p2
      holding [v, ov, iv] (setItem ov iv v)
      release [v, ov, iv] [])) (hN : X.N[k]? = some x) (hv : Vis X.env.scope x) (hd : (x == ("__debug__" : Str)) = false) (hcd : (x == ("__classdict__" : Str)) = false) (hs : swapsWithSole [.Subscript (.Name x p') e2 p2] e p.line X.env = pure false)
    (hw : swappedStores [.Subscript (.Name x p') e2 p2] e X.env = pure none) (ha : PE X e (tE c T P xo W0 a)) (hb : PE X e2 (tE c T P xo W0 b)) :
    PS X (.Assign [.Subscript (.Name x p') e2 p2] e p) (tS c T P xo W0 (.seti (.v k) b a)) := by
  refine ps_imp (ps_asg ha (pg_sub (pe_var hN hv hd hcd) hb set_list hasg) hs hw rfl) fun D σ H ⟨F, L, v, R0, q⟩ => ?_
  simp only [exs, path] at q
  refine bindF R0 q fun x v1 F1 H1 L1 u B R1 s1 r1 n1 q0 q1 => ?_
  simp only [fl_ok] at q0
  by_cases hp : (isLstAt v1 k [] && b.pur) = true
  · rw [if_pos hp] at q0
    simp only [Bool.and_eq_true] at hp
    obtain ⟨hl, hp⟩ := hp
    unfold isLstAt at hl
    cases hg : getS v1 k with
    | none => rw [hg] at hl; cases hl
    | some ok =>
      obtain ⟨w, hw, _⟩ := R1.slot k _ hg
      refine ⟨w, hw, ?_⟩
      refine ⟨F1, L1, v1, R1, ?_⟩
      cases hv2 : ev T P xo.e b v1 with
      | ok y v2 =>
        rw [hv2] at q0
        simp only [fl_ok] at q0
        intro F2 H2 L2 B' R2 s2 n2 u2 r2
        have s2' : Step false F1 H1 L1 F2 H2 L2 := s2.mono fun _ => by rw [hp]; rfl
        have s12 := s1.trans s2.up
        cases ho : x.own with
        | none => rw [ho] at q0; exact q0.elim
        | some oo =>
          rw [ho] at q0
          obtain ⟨B2, ow, fr, sub⟩ := own_rv ho r1
          have n3 : New true H L B2 := fun q hq => n1 q (sub q hq)
          have m2 := Own.mem oo u B2 ow
          have ow2 : Own c F2 H2 oo u B2 := Own.keep s2'.f oo u B2 (fun p x _ hx => s2'.h p x hx fun z => by cases z) ow
          have fr2 := fr.step m2 s2'
          cases y with
          | fz dy =>
            cases dy with
            | int n =>
              simp only [updS] at q0
              cases hg2 : getS v2 k with
              | none => rw [hg2] at q0; exact q0.elim
              | some ok2 =>
                rw [hg2] at q0
                cases ok2 with
                | lst ys =>
                  simp only [Option.bind_some, updO, set1] at q0
                  cases hj : ixn ys.length n with
                  | none => rw [hj] at q0; exact q0.elim
                  | some j =>
                    rw [hj] at q0
                    obtain ⟨w', hw', l, vs, B3, rfl, h2, h3, h4⟩ := R2.slot k _ hg2
                    rw [hw] at hw'
                    cases hw'
                    cases (show u2 = _ from r2)
                    have hjl : j < ys.length := by
                      exact (ixN_seq hj).2.1
                    have nd := List.nodup_cons.mp (by rw [← h3]; exact R2.nd k)
                    have hl : l ∈ L2 k := by rw [h3]; exact List.mem_cons_self
                    have dis : ∀ p ∈ l :: B3, p ∉ B2 := fun p hp hq => fr2.l k p hq (by rw [h3]; exact hp)
                    obtain ⟨A', o1, o2⟩ := owns_set (j := j) h4 ow2 hjl
                    have nl : ∀ p ∈ A', p ≠ l := fun p hp z => by
                      subst z
                      rcases o2.sub p hp with h5 | h5
                      · exact nd.1 h5
                      · exact dis p List.mem_cons_self h5
                    have ow3 : Own c F2 (upd H2 l (.lst (vs.set j u))) (.lst (ys.set j oo)) (.ref l) (l :: A') :=
                      ⟨l, _, A', rfl, upd_same, rfl, Owns.keep (Same.refl F2) _ _ _ (fun p x hp hx => by rw [upd_ne (nl p hp)]; exact hx) o1⟩
                    obtain ⟨L3, R3, s3⟩ := R2.mod hw hl ow3 (fun p hp => by
                      rcases List.mem_cons.mp hp with rfl | hp
                      · exact .inl hl
                      · rcases o2.sub p hp with h5 | h5
                        · exact .inl (by rw [h3]; exact List.mem_cons_of_mem _ h5)
                        · exact .inr h5) (List.nodup_cons.mpr ⟨fun z => nl l z rfl, o2.nd nd.2 fr2.nd fun p hp => dis p (List.mem_cons_of_mem _ hp)⟩) fr2 s12 n3
                    refine ⟨l, vs, n, j, rfl, rfl, h2, ?_, ?_⟩
                    · rw [← h4.length]
                      exact hj
                    · exact q0 F2 _ L3 σ R3 s3 Keep.refl
                | fz _ => exact q0.elim
                | obj _ _ => exact q0.elim
            | _ => exact q0.elim
          | tmp _ => exact q0.elim
          | vw _ _ => exact q0.elim
      | exc y v2 =>
        rw [hv2] at q0
        exact fun F2 H2 L2 cls d R2 s2 rx => q0 F2 H2 L2 σ cls d R2 (s1.trans s2.up) Keep.refl rx
      | bad =>
        rw [hv2] at q0
        exact q0.elim
  · rw [if_neg hp] at q0
    exact q0.elim
/-- x.append(value), x a name -/
theorem s_app {k : Nat} {x : Str} {cp : Pos} (hN : X.N[k]? = some x) (hv : Vis X.env.scope x) (hd : (x == ("__debug__" : Str)) = false) (hcd : (x == ("__classdict__" : Str)) = false) (hline : (ap.endLine == cp.line) = true) (hp : plainX e = true) (ha : PE X e (tE c T P xo W0 a)) :
    PS X (.Expr (.Call (.Attribute (.Name x p') "append" ap) [e] [] cp) p) (tS c T P xo W0 (.app (.v k) a)) := by
  have hfew : ((backTo cp (starEach [e] X.env)).all (fun x => !x.1) && (backToKw cp (keywordEach [] X.env)).all (fun x => x.1.isSome)
      && decide ([e].length + ([] : List Keyword).length + (if ([] : List Keyword).isEmpty then 0 else 1) < 30)) = true := by
    rw [plain_star hp]
    rfl
  refine ps_imp (ps_expr (pe_bm PySem.F.plainAttrs_list PySem.F.slot_list_append PySem.F.type_list_append mt_append (pe_var hN hv hd hcd) (pa_cons ha pa_nil (plain_star hp _ _)) rfl hfew hline (plain_star hp _ _) rfl)) fun D σ H ⟨F, L, v, R0, q⟩ => ?_
  simp only [exs, path, fl_ok] at q
  by_cases hl : (isLstAt v k [] && ([] : List Stp).isEmpty || a.pur) = true ∨ True
  · by_cases hc : (isLstAt v k [] && (([] : List Stp).isEmpty || a.pur)) = true
    · rw [if_pos hc] at q
      simp only [Bool.and_eq_true] at hc
      have hc := hc.1
      unfold isLstAt at hc
      cases hg : getS v k with
      | none => rw [hg] at hc; cases hc
      | some ok =>
        rw [hg] at hc
        cases ok with
        | lst os0 =>
          obtain ⟨w, hw, l, vs0, B0, rfl, h02, h03, h04⟩ := R0.slot k _ hg
          refine ⟨.ref l, hw, .inl ⟨rfl, vs0, .inl (.inl h02)⟩, ?_⟩
          refine bindF R0 q fun x v1 F1 H1 L1 u B R1 s1 r1 n1 q0 q1 => ?_
          cases ho : x.own with
          | none => rw [ho] at q0; exact q0.elim
          | some oo =>
            rw [ho] at q0
            obtain ⟨B2, ow, fr, sub⟩ := own_rv ho r1
            have n2 : New true H L B2 := fun q hq => n1 q (sub q hq)
            simp only [updS] at q0
            cases hg2 : getS v1 k with
            | none => rw [hg2] at q0; exact q0.elim
            | some ok2 =>
              rw [hg2] at q0
              cases ok2 with
              | lst ys =>
                simp only [Option.bind_some, updO, app1] at q0
                obtain ⟨w', hw', l', vs, B3, rfl, h2, h3, h4⟩ := R1.slot k _ hg2
                rw [hw] at hw'
                cases hw'
                by_cases hz : (decide (ys.length < sizeLine)) = true
                · rw [if_pos hz] at q0
                  simp only [decide_eq_true_eq] at hz
                  have nd := List.nodup_cons.mp (by rw [← h3]; exact R1.nd k)
                  have hl : l ∈ L1 k := by rw [h3]; exact List.mem_cons_self
                  have dis : ∀ p ∈ l :: B3, p ∉ B2 := fun p hp hq => fr.l k p hq (by rw [h3]; exact hp)
                  have nl : ∀ p ∈ B3 ++ B2, p ≠ l := fun p hp z => by
                    subst z
                    rcases List.mem_append.mp hp with h5 | h5
                    · exact nd.1 h5
                    · exact dis p List.mem_cons_self h5
                  have ow3 : Own c F1 (upd H1 l (.lst (vs ++ [u]))) (.lst (ys ++ [oo])) (.ref l) (l :: (B3 ++ B2)) :=
                    ⟨l, _, _, rfl, upd_same, rfl, Owns.keep (Same.refl F1) _ _ _ (fun p x hp hx => by rw [upd_ne (nl p hp)]; exact hx) (owns_app h4 ow)⟩
                  obtain ⟨L3, R3, s3⟩ := R1.mod hw hl ow3 (fun p hp => by
                    rcases List.mem_cons.mp hp with rfl | hp
                    · exact .inl hl
                    · rcases List.mem_append.mp hp with h5 | h5
                      · exact .inl (by rw [h3]; exact List.mem_cons_of_mem _ h5)
                      · exact .inr h5) (List.nodup_cons.mpr ⟨fun z => nl l z rfl, List.nodup_append.mpr ⟨nd.2, fr.nd, fun a ha b hb z => by
                      subst z
                      exact dis a (List.mem_cons_of_mem _ ha) hb⟩⟩) fr s1 n2
                  refine ⟨l, vs, u, rfl, rfl, h2, ?_, ?_⟩
                  · rw [← h4.length]; exact hz
                  · exact q0 F1 _ L3 σ R3 s3 Keep.refl
                · rw [if_neg hz] at q0
                  exact q0.elim
              | fz _ => exact q0.elim
              | obj _ _ => exact q0.elim
        | fz _ => cases hc
        | obj _ _ => cases hc
    · rw [if_neg hc] at q
      exact q.elim
  · exact absurd (Or.inr trivial) hl
end
end Pv

set_option Elab.async false
set_option linter.all false
set_option maxRecDepth 100000
/-! PvZ: statements: rows, if, for. -/
namespace Pv
open PySem PySem.Spec PyProof.Rows L2

section
variable {X : Cx} {c : Cfg} {T : Tbl} {P : Fn} {xo : Xs} {W0 : WX} {e e1 e2 e3 o tg : Expr} {es xs : List Expr} {a b d : E} {g : G} {p p' p2 ap : Pos} {σ σ1 : _root_.L2.St} {F F' F0 F1 F2 H H' H0 H1 H2 : Hp} {L L' L0 L1 L2 : Ft} {v v1 : Env} {D : Ends} {sl sl' : List Nat} {r : Fl} {st : Stmt} {J : Info} {A : Ad}
theorem pss_or {ss : List Stmt} {t : TS} (h : PSs X ss t) : PSs X ss t := h
theorem s_seq0 : PSs X [] (tSs c T P xo W0 .nil) := by
  refine pss_imp pss_nil fun D σ H ⟨F, L, v, R0, q⟩ => ?_
  simp only [exss] at q
  exact q F H L σ R0 Step.refl Keep.refl
theorem s_seq1 {s : S} {r : SL} {ss : List Stmt} (h1 : PS X st (tS c T P xo W0 s)) (h2 : PSs X ss (tSs c T P xo W0 r)) : PSs X (st :: ss) (tSs c T P xo W0 (.cons s r)) := by
  refine pss_imp (pss_cons h1 h2) fun D σ H ⟨F, L, v, R0, q⟩ => ?_
  simp only [exss] at q
  have l1 : ∀ i ∈ s.sl, i ∈ (SL.cons s r).sl := fun i hi => List.mem_append_left _ hi
  have l2 : ∀ i ∈ r.sl, i ∈ (SL.cons s r).sl := fun i hi => List.mem_append_right _ hi
  have kk : ∀ {σ'}, Keep s.sl σ σ' → Keep (SL.cons s r).sl σ σ' := fun h i hi => h i fun z => hi (l1 i z)
  refine ⟨F, L, v, R0, ?_⟩
  cases hs : exs T P xo.e s v with
  | next v1 =>
    rw [hs] at q
    exact fun F' H' L' σ' R t k => ⟨F', L', v1, R, (okF.step q t (kk k)).less l2⟩
  | ret ob v1 => rw [hs] at q; exact fun F' H' L' σ' u B R t k => q F' H' L' σ' u B R t (kk k)
  | brk v1 => rw [hs] at q; exact fun F' H' L' σ' R t k => q F' H' L' σ' R t (kk k)
  | cont v1 => rw [hs] at q; exact fun F' H' L' σ' R t k => q F' H' L' σ' R t (kk k)
  | exc x v1 => rw [hs] at q; exact fun F' H' L' σ' cls d R t k => q F' H' L' σ' cls d R t (kk k)
  | bad => rw [hs] at q; exact q
/-- a slot's thing stays from now on -/
theorem Rel.drop {i : Nat} (R : Rel c xo F H L σ v) : Rel c xo F H (Lw [i] L) σ (v.set i none) := by
  refine ⟨R.le, fun j o h => ?_, fun j => ?_, fun j k q hj hk => R.dj j k q (Lw_mem hj).1 (Lw_mem hk).1, fun j q hq => R.df j q (Lw_mem hq).1, fun j h => ?_, by rw [List.length_set, R.len], R.xs⟩
  · rw [getS_set] at h
    split at h
    · cases h
    · rename_i hij
      obtain ⟨w, h1, h2⟩ := R.slot j o h
      have hj : j < v.length := by
        rw [← R.len]
        exact (List.getElem?_eq_some_iff.mp h1).1
      refine ⟨w, h1, ?_⟩
      unfold Lw
      rw [if_neg]
      · exact h2
      · intro z
        have z : j = i := by simpa using z
        subst z
        exact hij ⟨rfl, hj⟩
  · unfold Lw
    split
    · exact List.nodup_nil
    · exact R.nd j
  · unfold Lw
    split
    · rfl
    · rename_i hj
      have hj : j ≠ i := by simpa using hj
      rw [getS_set, if_neg fun z => hj z.1.symm] at h
      exact R.dead j h
theorem Rel.frz {i : Nat} {ob : O} (R : Rel c xo F H L σ v) (hg : getS v i = some ob) (hx : i ∉ xo.fr) : ∃ F2 L2, Rel c xo F2 H L2 σ (v.set i (some (.fz ob.frz))) ∧ Step true F H L F2 H L2 := by
  obtain ⟨u, hu, ow⟩ := R.slot i ob hg
  have R1 := R.drop (i := i)
  have fr : Free F (Lw [i] L) (L i) := ⟨R.nd i, fun q hq => R.df i q hq, fun j q hq hj => by
    obtain ⟨h1, h2⟩ := Lw_mem hj
    exact h2 (by rw [R.dj i j q hq h1]; simp)⟩
  have s1 : Step true F H L F H (Lw [i] L) := Step.refl.lw fun z => by cases z
  obtain ⟨F2, R2, s2, _, r2⟩ := frozen (e' := true) R1 s1 ow fr fun q hq => .inr ⟨rfl, i, hq⟩
  have R3 := R2.setF (i := i) r2 hx
  have e1 : σ.set i (some u) = σ := by
    apply List.ext_getElem?
    intro j
    by_cases hj : i = j
    · subst hj
      rw [List.getElem?_set_self (List.getElem?_eq_some_iff.mp hu).1, hu]
    · rw [List.getElem?_set_ne hj]
  rw [e1, List.set_set] at R3
  exact ⟨F2, _, R3, s2.lw fun z => by cases z⟩
theorem s_frz {i : Nat} {r : SL} {ss : List Stmt} (hx : i ∉ xo.fr) (h2 : PSs X ss (tSs c T P xo W0 r)) : PSs X ss (tSs c T P xo W0 (.cons (.frz i) r)) := by
  refine pss_imp h2 fun D σ H ⟨F, L, v, R0, q⟩ => ?_
  simp only [exss, exs] at q
  cases hg : getS v i with
  | none => rw [hg] at q; exact q.elim
  | some ob =>
    rw [hg] at q
    obtain ⟨F2, L2, R2, s2⟩ := R0.frz hg hx
    exact ⟨F2, L2, _, R2, (okF.step q s2 Keep.refl).less fun i hi => List.mem_append_right _ hi⟩
/-- a test, then go on -/
theorem bindFT {f : Val → Env → Fl} {k : Bool → Env → Fl} {QT : Bool → Hp → Prop} (hf : ∀ x v, f x v = match truth x with | some b => k b v | none => .bad) (R0 : Rel c xo F H L σ v) (h : okF c xo F H L σ sl ((ev T P xo.e a v).fl f) D W0)
    (kk : ∀ b v1 F1 H1 L1, Rel c xo F1 H1 L1 σ v1 → Step true F H L F1 H1 L1 → okF c xo F1 H1 L1 σ sl (k b v1) D W0 → QT b H1) : tT c T P xo W0 a σ H QT := by
  refine ⟨F, L, v, R0, ?_⟩
  cases q : ev T P xo.e a v with
  | ok x v1 =>
    rw [q] at h
    have h : okF c xo F H L σ sl (f x v1) D W0 := h
    rw [hf] at h
    show okR c xo _ F H L σ (R.of v1 (truth x)) _ _
    cases ht : truth x with
    | none => rw [ht] at h; exact h.elim
    | some b =>
      rw [ht] at h
      exact fun F1 H1 L1 B R1 s n => kk b v1 F1 H1 L1 R1 s.up (okF.step h s.up Keep.refl)
  | exc x v1 =>
    rw [q] at h
    exact fun F1 H1 L1 cls d R1 s r => h F1 H1 L1 σ cls d R1 s.up Keep.refl r
  | bad =>
    rw [q] at h
    exact h
theorem s_if {t : E} {x y : SL} {ss us : List Stmt} (ht : PT X e (tT c T P xo W0 t)) (hx : PSs X ss (tSs c T P xo W0 x)) (hy : PSs X us (tSs c T P xo W0 y)) : PS X (.If e ss us p) (tS c T P xo W0 (.ife t x y)) := by
  refine ps_imp (ps_if ht hx hy) fun D σ H ⟨F, L, v, R0, q⟩ => ?_
  simp only [exs] at q
  refine bindFT (k := fun b v => match b with | true => exss T P xo.e x v | false => exss T P xo.e y v) (fun z v => ?_) R0 q fun b v1 F1 H1 L1 R1 s1 q1 => ?_
  · cases truth z with
    | none => rfl
    | some b => cases b <;> rfl
  · cases b with
    | true =>
      rw [if_pos rfl]
      exact ⟨F1, L1, v1, R1, q1.less fun i hi => List.mem_append_left _ hi⟩
    | false =>
      rw [if_neg Bool.false_ne_true]
      exact ⟨F1, L1, v1, R1, q1.less fun i hi => List.mem_append_right _ hi⟩
/-- for tg in iter: .. -/
theorem s_for {it : Pv.I} {x : SL} {ss : List Stmt} (hp : PassesOwn (model X.prog X.w) X.A X.env X.xe) (hc : X.calm = true) (hno : xo.e = none) (hi : PI X tg e (tI c T P xo W0 it)) (hg : PG X tg (gR c.K g)) (hb : PSs X ss (tSs c T P xo W0 x)) (hs : plainX e = true) (hx : ∀ i ∈ g.sl, i ∉ xo.fr) :
    PS X (.For tg e ss [] p) (tS c T P xo W0 (.fr g it x)) := by
  refine ps_imp (ps_for hp hc hi hg hb fun y => plain_fold hs _ y) fun D σ H ⟨F, L, v, R0, q⟩ => ?_
  simp only [exs, hno] at q
  refine ⟨F, L, v, R0, ?_⟩
  rw [hno]
  cases hI : evI T P none it v with
  | ok ds v1 =>
    rw [hI] at q
    intro F1 H1 L1 B R1 s1 n1 J wJ
    have q : okF c xo F H L σ (S.fr g it x).sl (forLoop g (exss T P none x) ds v1) D W0 := q
    refine for_it wJ (fun i σ' H' => ∃ F' L' w, Rel c xo F' H' L' σ' w ∧ Same F1 F' ∧ okF c xo F' H' L' σ' (S.fr g it x).sl (forLoop g (exss T P none x) (ds.drop i) w) D W0) ⟨F1, L1, v1, R1, Same.refl F1, okF.step q s1.up Keep.refl⟩ (fun i σ' H' hi ⟨F', L', w, R', hF, _⟩ => hF.trans R'.le) (fun i u σ' H' H2 hi ⟨F', L', w, R', hF, q'⟩ hy => ?_) fun σ' H' ⟨F', L', w, R', hF, q'⟩ => ?_
    · obtain ⟨d, F2, hd1, R2, s2, r2, hF2⟩ := yield_ok (e := true) R' hF hy
      have hdrop : ds.drop i = d :: ds.drop (i + 1) := by
        rw [List.drop_eq_getElem_cons hi]
        congr 1
        rw [List.getElem?_eq_getElem hi] at hd1
        exact Option.some.inj hd1
      rw [hdrop] at q'
      unfold forLoop at q'
      cases hb : bindG g d w with
      | none => rw [hb] at q'; exact q'.elim
      | some w2 =>
        rw [hb] at q'
        refine gR_ok R2 r2 hb hx fun σ2 hσ R3 => ?_
        have s3 : Step true F' H' L' F2 H2 (Lw g.sl L') := s2.lw fun z => by cases z
        have kg : Keep (S.fr g it x).sl σ' σ2 := fun i hi => hσ i fun z => hi (List.mem_append_left _ z)
        have q2 := okF.step q' s3 kg
        have lx : ∀ i ∈ x.sl, i ∈ (S.fr g it x).sl := fun i hi => List.mem_append_right _ hi
        have kx : ∀ {σ3}, Keep x.sl σ2 σ3 → Keep (S.fr g it x).sl σ2 σ3 := fun h i hi => h i fun z => hi (lx i z)
        refine ⟨F2, _, w2, R3, ?_⟩
        rw [hno]
        cases hr : exss T P none x w2 with
        | next w3 =>
          simp only [hr] at q2
          exact fun F4 H4 L4 σ4 R4 s4 k4 => ⟨F4, L4, w3, R4, (hF.trans s2.f).trans s4.f, okF.step q2 s4 (kx k4)⟩
        | cont w3 =>
          simp only [hr] at q2
          exact fun F4 H4 L4 σ4 R4 s4 k4 => ⟨F4, L4, w3, R4, (hF.trans s2.f).trans s4.f, okF.step q2 s4 (kx k4)⟩
        | brk w3 =>
          simp only [hr] at q2
          exact fun F4 H4 L4 σ4 R4 s4 k4 => q2 F4 H4 L4 σ4 R4 s4 (kx k4)
        | ret ob w3 =>
          simp only [hr] at q2
          exact fun F4 H4 L4 σ4 u B R4 s4 k4 => q2 F4 H4 L4 σ4 u B R4 s4 (kx k4)
        | exc y w3 =>
          simp only [hr] at q2
          exact fun F4 H4 L4 σ4 cls d R4 s4 k4 => q2 F4 H4 L4 σ4 cls d R4 s4 (kx k4)
        | bad =>
          simp only [hr] at q2
          exact q2.elim
    · rw [List.drop_length] at q'
      exact q' F' H' L' σ' R' Step.refl Keep.refl
  | exc y v1 =>
    rw [hI] at q
    exact fun F1 H1 L1 cls d R1 s1 rx => q F1 H1 L1 σ cls d R1 s1.up Keep.refl rx
  | bad => rw [hI] at q; exact q
end
end Pv

set_option Elab.async false
set_option linter.all false
set_option maxRecDepth 100000
/-! PwA: try with several clauses, each with or without a name. -/
namespace Pv
open PySem PySem.Spec PyProof.Rows L2

/-- the ends of a suite whose name i goes -/
def goesD (i : Nat) (D : Ends) : Ends := { nx := fun σ' H' => D.nx (σ'.set i none) H', rt := D.rt, bk := fun σ' H' => D.bk (σ'.set i none) H', ct := fun σ' H' => D.ct (σ'.set i none) H' }
/-- what the clauses wish of an exception of the body, one after the other -/
def wN (K : PySem.W.Frag) (Wout : WX) (D : Ends) : List (Value × Option Nat × (Addr → Value → Option Addr → TS)) → WX
  | [] => Wout
  | (c, none, ts) :: r => fun cls d σ H => ∃ b, PySem.W.exmOne K cls c = some b ∧ (b = true → ∀ a, H a = none → ts a cls d D σ H) ∧ (b = false → wN K Wout D r cls d σ H)
  | (c, some i, ts) :: r => fun cls d σ H => ∃ b, PySem.W.exmOne K cls c = some b ∧ (b = true → ∀ a, H a = none → ts a cls d (goesD i D) (σ.set i (some (.ref a))) H) ∧ (b = false → wN K Wout D r cls d σ H)
inductive HdsN (X : Cx) : List ExceptHandler → List (Value × Option Nat × (Addr → Value → Option Addr → TS)) → Prop
  | nil : HdsN X [] []
  | cons {x : Str} {c : Value} {ts : Addr → Value → Option Addr → TS} {b₀ : Stmt} {suite : List Stmt} {np pos' : Pos} {hds : List ExceptHandler} {l : List (Value × Option Nat × (Addr → Value → Option Addr → TS))} (hc : Names X x c)
      (hsu : ∀ (a : Addr) (oe : Obj) (cls : Value) (d : Option Addr) (pn : List (Addr × Obj)), Zc cls d oe → (∃ vs, oe.data = .fields vs) → PSs (X.suite a ((a, oe) :: pn)) (b₀ :: suite) (ts a cls d)) (r : HdsN X hds l) :
      HdsN X (.ExceptHandler (some (.Name x np)) none (b₀ :: suite) pos' :: hds) ((c, none, ts) :: l)
  | consN {x n : Str} {i : Nat} {c : Value} {ts : Addr → Value → Option Addr → TS} {b₀ : Stmt} {suite : List Stmt} {np pos' : Pos} {hds : List ExceptHandler} {l : List (Value × Option Nat × (Addr → Value → Option Addr → TS))} (hc : Names X x c) (hi : X.N[i]? = some n) (hln : X.env.kindOf n = some .local)
      (hsu : ∀ (a : Addr) (oe : Obj) (cls : Value) (d : Option Addr) (pn : List (Addr × Obj)), Zc cls d oe → (∃ vs, oe.data = .fields vs) → PSs (X.suite a ((a, oe) :: pn)) (b₀ :: suite) (ts a cls d)) (r : HdsN X hds l) :
      HdsN X (.ExceptHandler (some (.Name x np)) (some n) (b₀ :: suite) pos' :: hds) ((c, some i, ts) :: l)
section
variable {X : Cx} {body : List Stmt} {h₀ : ExceptHandler} {hds : List ExceptHandler} {l : List (Value × Option Nat × (Addr → Value → Option Addr → TS))} {pos : Pos} {tb : WX → TS} {Wout : WX}
theorem ps_tryN (hs : X.stack = X.env :: X.outer) (hf : X.env.frame = some X.env.locals) (hN : X.N.Nodup) (tk : Takes X Wout)
    (hb : ∀ (W : WX) (pn : List (Addr × Obj)) (xe : Value → Shared → Prop), Takes (X.tr pn xe) W → PassesOwn (model X.prog X.w) X.A X.env xe → PSs (X.tr pn xe) body (tb W))
    (hh : HdsN X (h₀ :: hds) l) : PS X (.Try body (h₀ :: hds) [] [] pos) (fun D σ H => tb (wN X.K Wout D l) D σ H) := by
  refine ⟨fun pins s σ H D I h => ?_⟩
  have ok := I.ok
  have hfr : X.A.frames = some (X.env :: X.outer) := by rw [ok.frames, hs]
  refine wpAny_Try_except ?_
  refine wpAny_mono ((hb (wN X.K Wout D l) (X.pn ++ pins) (fun e s₁ => wpAny (model X.prog X.w) X.A (noteFrame e X.env) (fun _ s₂ => wpAny (model X.prog X.w) X.A (setFlight e none) (fun _ s₃ =>
    wpAny (model X.prog X.w) X.A (handleBy e X.env (h₀ :: hds)) (SP X pins D) X.xe s₃) X.xe s₂) X.xe s₁) (fun u s' xx => ?_) PassesOwn.looking).run [] s σ H D (I.toTry _) h) (fun f s1 hsp => ?_) (fun e s1 he => he)
  · -- the catch
    obtain ⟨a, B, sI, pins', σ', H', cls, d, rfl, J', nb, up, sky, na, os, ag, w⟩ := xx
    have J : Inv X pins σ' H' sI := J'.ofTry ok
    have sky' : Sky B (X.env :: X.outer) a (Zc cls d) X.env.locals s'.heap := by rw [← hs]; exact sky
    show wpAny (model X.prog X.w) X.A (noteFrame (.ref a) X.env) _ _ _
    refine Sky.land Zc.steady hfr hf sky' fun h3 fl3 up3 => ?_
    have J3 : Inv X pins σ' H' { s' with heap := h3 } := J.landed nb fl3.1 (up.trans up3) os ag
    obtain ⟨oe3, vs3, he3, hz3, hd3⟩ := fl3.there
    have notFr : ∀ {h : Heap} {o : Obj} {vs : Array Value}, h.FunFrames B (X.env :: X.outer) → h.get? a = some o → o.data = .fields vs → a ∉ frs (X.env :: X.outer) := fun {h o vs} ff e dd hm => by
      obtain ⟨_, o', e', hnf⟩ := ff.mem hm
      rw [e] at e'; cases e'
      exact hnf _ dd
    have nfr := notFr fl3.2.2.1 he3 hd3
    have nL : a ≠ X.env.locals := fun z => nfr (List.mem_filterMap.mpr ⟨X.env, List.mem_cons_self, by rw [hf, z]⟩)
    have nF : a ∉ X.fs := fun hm => by
      obtain ⟨e, he, q⟩ := List.mem_filterMap.mp hm
      exact nfr (List.mem_filterMap.mpr ⟨e, List.mem_cons_of_mem _ he, q⟩)
    have S3 := J3.suite he3 hd3 na nL nF
    have go : ∀ {hds' : List ExceptHandler} {l' : List (Value × Option Nat × (Addr → Value → Option Addr → TS))}, HdsN X hds' l' → wN X.K Wout D l' cls d σ' H' →
        wpAny (model X.prog X.w) X.A (handleBy (.ref a) X.env hds') (SP X pins D) X.xe { s' with heap := h3 } := by
      intro hds' l' hk
      induction hk with
      | nil =>
        intro w
        refine wpAny_handleBy_nil ?_
        obtain ⟨k1, k2, k3, oe, vs, T, oT, ts', he, hz, hd, h1, hr⟩ := id fl3
        unfold PySem.passOn
        refine wpAny_bind (wpAny_field he hd h1 ?_)
        rw [if_neg (show ¬ ((Value.ref T == Value.none) = true) from by simp)]
        have fin : wpAny (model X.prog X.w) X.A (setFlight (.ref a) X.env.frame) (fun _ s4 => wpAny (model X.prog X.w) X.A (throw (.ref a) : Sem Flow) (SP X pins D) X.xe s4) X.xe { s' with heap := h3 } := by
          rw [hf]
          refine HandSPX.setFlight_upZ fl3 fun h4 hh4 up4 => wpAny_throw (tk _ _ ?_)
          exact ⟨a, B, sI, pins, σ', H', cls, d, rfl, J, nb, (up.trans up3).trans up4, .inr (.inr (by rw [hs]; exact hh4)), na, os, ag, w⟩
        first
          | exact wpAny_bind (wpAny_pure (wpAny_bind fin))
          | exact wpAny_bind fin
      | @cons x c ts b₀ suite np pos' hds2 l2 hc hsu r ih =>
        intro w
        obtain ⟨b, hb1, hyes, hno⟩ := w
        refine wpAny_handleBy_cons (codeAny_handlers_test ?_) (by intro q; cases q)
        have LT : PySem.W.Looks (model X.prog X.w) h3 (typeOf (.ref a)) cls := fun A Q E s k q => wpAny_typeOf_ref (k _ _ he3) (by rw [hz3.1]; exact q)
        have LM := PySem.W.exm_one (M := model X.prog X.w) (J3.kIn) LT hb1
        have test : ∀ {Q : Value → Shared → Prop} {E : Value → Shared → Prop}, Q c { s' with heap := h3 } → wpAny (model X.prog X.w) (X.A.mark (some (.ref a))) (eval (.Name x np) X.env) Q E { s' with heap := h3 } := fun {Q E} q => by
          obtain ⟨hg, hdbg, hm | ⟨hm, hv, hnn⟩⟩ := hc
          · exact ld_glob (X := X.suite a ((a, oe3) :: (X.pn ++ pins))) S3 hg hm q hdbg
          · exact ld_blt (X := X.suite a ((a, oe3) :: (X.pn ++ pins))) S3 hg hm hv q hnn hdbg
        refine test (LM.here ?_)
        cases b with
        | true =>
          refine codeAny_handlers_suite ?_
          refine HandSPX.lands_againZ fl3 fun h4 fl4 up4 => ?_
          have J4 : Inv X pins σ' H' { s' with heap := h4 } := J.landed nb fl4.1 ((up.trans up3).trans up4) os ag
          obtain ⟨oe4, vs4, he4, hz4, hd4⟩ := fl4.there
          have S4 := J4.suite he4 hd4 na nL nF
          refine wpAny_mono ((hsu a oe4 cls d (X.pn ++ pins) hz4 ⟨_, hd4⟩).run [] _ _ H' _ S4 (hyes rfl a na)) (fun f s6 hsp => ?_) (fun _ _ z => False.elim z)
          cases f with
          | next =>
            obtain ⟨σ6, H6, S6, q6⟩ := hsp
            exact ⟨_, _, S6.unsuite ok, q6⟩
          | brk =>
            obtain ⟨σ6, H6, S6, q6⟩ := hsp
            exact ⟨_, _, S6.unsuite ok, q6⟩
          | cont =>
            obtain ⟨σ6, H6, S6, q6⟩ := hsp
            exact ⟨_, _, S6.unsuite ok, q6⟩
          | ret u =>
            obtain ⟨v6, σ6, H6, S6, r6, q6⟩ := hsp
            exact ⟨_, _, _, S6.unsuite ok, r6, q6⟩
        | false =>
          show wpAny _ X.A (handleBy (.ref a) X.env hds2) _ _ _
          exact ih (hno rfl)
      | @consN x n i c ts b₀ suite np pos' hds2 l2 hc hi hln hsu r ih =>
        intro w
        obtain ⟨b, hb1, hyes, hno⟩ := w
        have hloc : Loc X.env.scope n := .inl hln
        refine wpAny_handleBy_cons (codeAny_handlers_test ?_) (by intro q; cases q)
        have LT : PySem.W.Looks (model X.prog X.w) h3 (typeOf (.ref a)) cls := fun A Q E s k q => wpAny_typeOf_ref (k _ _ he3) (by rw [hz3.1]; exact q)
        have LM := PySem.W.exm_one (M := model X.prog X.w) (J3.kIn) LT hb1
        have test : ∀ {Q : Value → Shared → Prop} {E : Value → Shared → Prop}, Q c { s' with heap := h3 } → wpAny (model X.prog X.w) (X.A.mark (some (.ref a))) (eval (.Name x np) X.env) Q E { s' with heap := h3 } := fun {Q E} q => by
          obtain ⟨hg, hdbg, hm | ⟨hm, hv, hnn⟩⟩ := hc
          · exact ld_glob (X := X.suite a ((a, oe3) :: (X.pn ++ pins))) S3 hg hm q hdbg
          · exact ld_blt (X := X.suite a ((a, oe3) :: (X.pn ++ pins))) S3 hg hm hv q hnn hdbg
        refine test (LM.here ?_)
        cases b with
        | true =>
          refine codeAny_handlers_suite_as ?_
          refine HandSPX.lands_againZ fl3 fun h4 fl4 up4 => ?_
          have J4 : Inv X pins σ' H' { s' with heap := h4 } := J.landed nb fl4.1 ((up.trans up3).trans up4) os ag
          obtain ⟨oe4, vs4, he4, hz4, hd4⟩ := fl4.there
          have S4 := J4.suite he4 hd4 na nL nF
          refine store_ok (X := X.suite a ((a, oe4) :: (X.pn ++ pins))) (v := .ref a) S4 hN hi hloc rfl (fun s5 S5 => ?_) (.inr hln)
          refine wpAny_mono ((hsu a oe4 cls d (X.pn ++ pins) hz4 ⟨_, hd4⟩).run [] s5 _ H' _ S5 (hyes rfl a na)) (fun f s6 hsp => ?_) (fun _ _ z => False.elim z)
          have end_ : ∀ {σ6 : _root_.L2.St} {H6 : Hp} {Q : Shared → Prop}, Inv (X.suite a ((a, oe4) :: (X.pn ++ pins))) [] σ6 H6 s6 → (∀ s7, Inv X pins (σ6.set i none) H6 s7 → Q s7) →
              wpAny (model X.prog X.w) X.A (do bindName X.env n .none; unbindBehindTheSuite X.env n pos') (fun _ s7 => Q s7) X.xe s6 := fun {σ6 H6 Q} S6 hq => gone_ok (S6.unsuite ok) hN hi hln hq
          cases f with
          | next =>
            obtain ⟨σ6, H6, S6, q6⟩ := hsp
            exact end_ S6 fun s7 J7 => ⟨_, _, J7, q6⟩
          | brk =>
            obtain ⟨σ6, H6, S6, q6⟩ := hsp
            exact end_ S6 fun s7 J7 => ⟨_, _, J7, q6⟩
          | cont =>
            obtain ⟨σ6, H6, S6, q6⟩ := hsp
            exact end_ S6 fun s7 J7 => ⟨_, _, J7, q6⟩
          | ret u =>
            obtain ⟨v6, σ6, H6, S6, r6, q6⟩ := hsp
            exact end_ S6 fun s7 J7 => ⟨_, _, _, J7, r6, q6⟩
        | false =>
          show wpAny _ X.A (handleBy (.ref a) X.env hds2) _ _ _
          exact ih (hno rfl)
    exact go hh w
  · cases f with
    | next =>
      obtain ⟨σ', H', J', q⟩ := hsp
      exact wpAny_execs_nil ⟨σ', H', J'.ofTry ok, q⟩
    | brk =>
      obtain ⟨σ', H', J', q⟩ := hsp
      exact ⟨σ', H', J'.ofTry ok, q⟩
    | cont =>
      obtain ⟨σ', H', J', q⟩ := hsp
      exact ⟨σ', H', J'.ofTry ok, q⟩
    | ret u =>
      obtain ⟨v, σ', H', J', r, q⟩ := hsp
      exact ⟨v, σ', H', J'.ofTry ok, r, q⟩
end
end Pv

set_option Elab.async false
set_option linter.all false
set_option maxRecDepth 100000
/-! PwB: try: what the evaluator says of it. -/
namespace Pv
open PySem PySem.Spec PyProof.Rows L2

/-- what is known in a suite: its name's slot holds the exception, its fields stay -/
def xsOf (c : Cfg) (nm : Option Nat) (a : Addr) (d : Option Addr) (x : Exc) : Xs where
  e := some x
  fr := nm.toList
  ok := fun σ F => (∀ i, nm = some i → σ[i]? = some (some (.ref a))) ∧ ((x.fs = [] ∧ d = none) ∨ ∃ dd vs, d = some dd ∧ F dd = some (.xd vs) ∧ Repf c F x.fs vs)
  mono := fun s h => ⟨h.1, h.2.imp id fun ⟨dd, vs, h1, h2, h3⟩ => ⟨dd, vs, h1, s _ _ h2, Repf.mono s _ _ h3⟩⟩
  cong := fun k h => ⟨fun i hi => by rw [k i (by rw [hi]; exact List.mem_singleton.mpr rfl)]; exact h.1 i hi, h.2⟩
section
variable {X : Cx} {c : Cfg} {T : Tbl} {P : Fn} {xo : Xs} {W0 : WX} {e e1 e2 e3 o tg : Expr} {es xs : List Expr} {a b d : E} {g : G} {p p' p2 ap : Pos} {σ σ1 : _root_.L2.St} {F F' F0 F1 F2 H H' H0 H1 H2 : Hp} {L L' L0 L1 L2 : Ft} {v v1 : Env} {D : Ends} {sl sl' : List Nat} {r : Fl} {st : Stmt} {J : Info} {A : Ad}
/-- a suite's reading -/
def tSu (c : Cfg) (T : Tbl) (P : Fn) (nm : Option Nat) (b : SL) (a : Addr) (cls : Value) (d : Option Addr) : TS := fun D σ H => ∃ x : Exc, (cls = .ref (c.ca x.cls) ∧ T.exc x.cls = true) ∧ tSs c T P (xsOf c nm a d x) WF b D σ H
theorem pss_ex {ι : Type} {ss : List Stmt} {t : ι → TS} (h : ∀ x, PSs X ss (t x)) : PSs X ss (fun D σ H => ∃ x, t x D σ H) := ⟨fun pins s σ H D I ⟨x, q⟩ => (h x).run pins s σ H D I q⟩
/-- err.f -/
theorem s_xat {k f : Nat} {z : Str} {aa : Addr} {oe : Obj} {cls : Value} {dd : Option Addr} {pn : List (Addr × Obj)} {x : Exc} (we : We c J T X.mg) (hK : X.K = c.K) (hz : Zc cls dd oe) (hf : ∃ vs, oe.data = .fields vs) (hcls : cls = .ref (c.ca x.cls)) (hxc : T.exc x.cls = true)
    (hN : X.N[k]? = some z) (hv : Vis X.env.scope z) (hd : (z == ("__debug__" : Str)) = false) (hcd : (z == ("__classdict__" : Str)) = false) :
    PE (X.suite aa ((aa, oe) :: pn)) (.Attribute (.Name z p) (c.an f) p') (tE c T P (xsOf c (some k) aa dd x) W0 (.xat k f)) := by
  refine ⟨fun pins s σ H Q I ⟨F, L, v, R0, q⟩ => ?_⟩
  simp only [ev, xsOf] at q
  by_cases hc : (T.exc x.cls && (T.exf x.cls).contains f) = true
  · rw [if_pos hc] at q
    simp only [Bool.and_eq_true] at hc
    obtain ⟨y, hy, q2⟩ := okR.of q
    simp only [Option.map_eq_some_iff] at hy
    obtain ⟨dv, hdv, rfl⟩ := hy
    obtain ⟨hs, hx⟩ := R0.xs
    have hf2 : f ∈ T.exf x.cls := by simpa using hc.2
    refine (pe_xf (X := X) (a := aa) (C := c.ca x.cls) (oe := oe) (cls := cls) (d := dd) (pn := pn) (n := c.an f) (by rw [hK]; exact we.xfc _ hc.1) (by rw [hK]; exact we.fld _ _ hc.1 hf2) hz hf (pe_var (X := X.suite aa ((aa, oe) :: pn)) hN hv hd hcd) (plain_base rfl _ _)).run pins s σ H Q I ?_
    refine ⟨.ref aa, hs k rfl, rfl, hcls, ?_⟩
    rcases hx with ⟨h1, _⟩ | ⟨da, vs, h1, h2, h3⟩
    · rw [h1] at hdv; cases hdv
    · obtain ⟨u, hu, ru⟩ := find_some h3 hdv
      exact ⟨da, vs, u, h1, R0.le _ _ h2, hu, okR.fin q2 R0 ru⟩
  · rw [if_neg hc] at q
    exact q.elim
/-- nothing is known of a suite -/
theorem Rel.no (R : Rel c xo F H L σ v) : Rel c .no F H L σ v := ⟨R.le, R.slot, R.nd, R.dj, R.df, R.dead, R.len, trivial⟩
theorem Rel.inS {nm : Option Nat} {aa : Addr} {dd : Option Addr} {x : Exc} {cls : Value} (R : Rel c xo F H L σ v) (rx : RX c F x cls dd) (h : ∀ i, nm = some i → σ[i]? = some (some (.ref aa))) : Rel c (xsOf c nm aa dd x) F H L σ v := by
  refine ⟨R.le, R.slot, R.nd, R.dj, R.df, R.dead, R.len, h, ?_⟩
  rcases rx.2 with h1 | ⟨da, vs, h1, h2, h3⟩
  · exact .inl h1
  · exact .inr ⟨da, vs, h1, h2, h3⟩
/-- slot i is put to something that is not told -/
theorem Rel.gone {i : Nat} {w : Option V} (R : Rel c xo F H L σ v) : Rel c .no F H (Lw [i] L) (σ.set i w) (v.set i none) := by
  refine ⟨R.le, fun j o h => ?_, fun j => ?_, fun j k q hj hk => R.dj j k q (Lw_mem hj).1 (Lw_mem hk).1, fun j q hq => R.df j q (Lw_mem hq).1, fun j h => ?_, by rw [List.length_set, List.length_set, R.len], trivial⟩
  · rw [getS_set] at h
    split at h
    · cases h
    · rename_i hij
      obtain ⟨u, h1, h2⟩ := R.slot j o h
      have hj : j < v.length := by
        rw [← R.len]
        exact (List.getElem?_eq_some_iff.mp h1).1
      have hne : i ≠ j := fun z => hij ⟨z, by rw [z]; exact hj⟩
      refine ⟨u, by rw [List.getElem?_set_ne hne]; exact h1, ?_⟩
      unfold Lw
      rw [if_neg (by simp [Ne.symm hne])]
      exact h2
  · unfold Lw
    split
    · exact List.nodup_nil
    · exact R.nd j
  · unfold Lw
    split
    · rfl
    · rename_i hj
      have hj : j ≠ i := by simpa using hj
      rw [getS_set, if_neg fun z => hj z.1.symm] at h
      exact R.dead j h
/-- the clauses' readings -/
def tHl (c : Cfg) (T : Tbl) (P : Fn) : HL → List (Value × Option Nat × (Addr → Value → Option Addr → TS))
  | .nil => []
  | .cons cs nm b r => (.ref (c.ca (cs.headD 0)), nm, tSu c T P nm b) :: tHl c T P r
/-- each clause names one class -/
def HL.one : HL → Bool
  | .nil => true
  | .cons cs _ _ r => cs.length == 1 && r.one
theorem wN_ok (we : We c J T X.mg) {x : Exc} {cls : Value} {dd : Option Addr} : ∀ {hs : HL}, hs.one = true → (∀ i ∈ hs.sl, i ∈ sl) → Rel c .no F H L σ v → RX c F x cls dd → okF c .no F H L σ sl (exh T P x hs v) D W0 → wN c.K W0 D (tHl c T P hs) cls dd σ H
  | .nil, _, _, R, rx, q => by
    simp only [exh] at q
    exact q F H L σ cls dd R Step.refl Keep.refl rx
  | .cons cs nm b r, ho, hsl, R, rx, q => by
    simp only [HL.one, Bool.and_eq_true, beq_iff_eq] at ho
    obtain ⟨k, rfl⟩ := List.length_eq_one_iff.mp ho.1
    simp only [exh] at q
    by_cases hc : (T.exc x.cls && ([k].all T.exc && nmOk nm v)) = true
    · rw [if_pos hc] at q
      simp only [Bool.and_eq_true, List.all_cons, List.all_nil, Bool.and_true, List.any_cons, List.any_nil, Bool.or_false] at hc q
      have hcls := rx.1
      have hex : PySem.W.exmOne c.K cls (.ref (c.ca k)) = some (T.sup x.cls k) := by
        rw [hcls]
        exact we.exm _ _ hc.1 hc.2.1
      have hslb : ∀ i ∈ b.sl, i ∈ sl := fun i hi => hsl i (List.mem_append_right _ (List.mem_append_left _ hi))
      have hslr : ∀ i ∈ r.sl, i ∈ sl := fun i hi => hsl i (List.mem_append_right _ (List.mem_append_right _ hi))
      cases nm with
      | none =>
        refine ⟨T.sup x.cls k, hex, fun hb aa ha => ?_, fun hb => ?_⟩
        · rw [if_pos hb] at q
          have q : okF c .no F H L σ sl (goes none (exss T P (some x) b v)) D W0 := q
          refine ⟨x, ⟨hcls, hc.1⟩, F, L, v, R.inS rx (fun i hi => by cases hi), ?_⟩
          have kk : ∀ {σ'}, Keep b.sl σ σ' → Keep sl σ σ' := fun h i hi => h i fun z => hi (hslb i z)
          show okF c _ F H L σ b.sl (exss T P (some x) b v) D WF
          cases hr : exss T P (some x) b v with
          | next v1 => rw [hr] at q; exact fun F' H' L' σ' R' s k => q F' H' L' σ' R'.no s (kk k)
          | ret o v1 => rw [hr] at q; exact fun F' H' L' σ' u B R' s k => q F' H' L' σ' u B R'.no s (kk k)
          | brk v1 => rw [hr] at q; exact fun F' H' L' σ' R' s k => q F' H' L' σ' R'.no s (kk k)
          | cont v1 => rw [hr] at q; exact fun F' H' L' σ' R' s k => q F' H' L' σ' R'.no s (kk k)
          | exc y v1 => rw [hr] at q; exact q.elim
          | bad => rw [hr] at q; exact q.elim
        · rw [if_neg (by rw [hb]; exact Bool.false_ne_true)] at q
          exact wN_ok we ho.2 hslr R rx q
      | some i =>
        have hi : i ∈ sl := hsl i (List.mem_append_left _ (List.mem_singleton.mpr rfl))
        refine ⟨T.sup x.cls k, hex, fun hb aa ha => ?_, fun hb => ?_⟩
        · rw [if_pos hb] at q
          have q : okF c .no F H L σ sl (goes (some i) (exss T P (some x) b (v.set i none))) D W0 := q
          have hlen : i < σ.length := by
            have h2 := hc.2.2
            simp only [nmOk, decide_eq_true_eq] at h2
            rw [R.len]
            exact h2
          · have R1 := R.gone (i := i) (w := some (.ref aa))
            refine ⟨x, ⟨hcls, hc.1⟩, F, _, v.set i none, R1.inS rx (fun j hj => by cases hj; rw [List.getElem?_set_self hlen]), ?_⟩
            have s0 : Step true F H L F H (Lw [i] L) := Step.refl.lw fun z => by cases z
            have kk : ∀ {σ'}, Keep b.sl (σ.set i (some (.ref aa))) σ' → Keep sl σ (σ'.set i none) := fun {σ'} h j hj => by
              have hne : i ≠ j := fun z => hj (by rw [← z]; exact hi)
              rw [List.getElem?_set_ne hne, h j fun z => hj (hslb j z), List.getElem?_set_ne hne]
            show okF c _ F H (Lw [i] L) (σ.set i (some (.ref aa))) b.sl (exss T P (some x) b (v.set i none)) (goesD i D) WF
            cases hr : exss T P (some x) b (v.set i none) with
            | next v1 => rw [hr] at q; exact fun F' H' L' σ' R' s k => q F' H' _ (σ'.set i none) R'.gone ((s0.trans s).lw fun z => by cases z) (kk k)
            | ret o v1 =>
              rw [hr] at q
              exact fun F' H' L' σ' u B R' s k ow fr n => q F' H' _ (σ'.set i none) u B R'.gone ((s0.trans s).lw fun z => by cases z) (kk k) ow ⟨fr.nd, fr.f, fun j p hp hj => fr.l j p hp (Lw_mem hj).1⟩ (n.step s0)
            | brk v1 => rw [hr] at q; exact fun F' H' L' σ' R' s k => q F' H' _ (σ'.set i none) R'.gone ((s0.trans s).lw fun z => by cases z) (kk k)
            | cont v1 => rw [hr] at q; exact fun F' H' L' σ' R' s k => q F' H' _ (σ'.set i none) R'.gone ((s0.trans s).lw fun z => by cases z) (kk k)
            | exc y v1 => rw [hr] at q; exact q.elim
            | bad => rw [hr] at q; exact q.elim
        · rw [if_neg (by rw [hb]; exact Bool.false_ne_true)] at q
          exact wN_ok we ho.2 hslr R rx q
    · rw [if_neg hc] at q
      exact q.elim
theorem s_try {b : SL} {hs : HL} {body : List Stmt} {h0 : ExceptHandler} {hds : List ExceptHandler} (we : We c J T X.mg) (hK : X.K = c.K) (ho : hs.one = true) (hstk : X.stack = X.env :: X.outer) (hfr : X.env.frame = some X.env.locals) (hN : X.N.Nodup) (tk : Takes X W0)
    (hb : ∀ (W : WX) (pn : List (Addr × Obj)) (xe : Value → Shared → Prop), Takes (X.tr pn xe) W → PassesOwn (model X.prog X.w) X.A X.env xe → PSs (X.tr pn xe) body (tSs c T P .no W b))
    (hh : HdsN X (h0 :: hds) (tHl c T P hs)) : PS X (.Try body (h0 :: hds) [] [] p) (tS c T P .no W0 (.tr b hs)) := by
  refine ps_imp (ps_tryN hstk hfr hN tk (tb := fun W => tSs c T P .no W b) hb hh) fun D σ H ⟨F, L, v, R0, q⟩ => ?_
  simp only [exs, Xs.no] at q
  have hsl : ∀ i ∈ hs.sl, i ∈ (S.tr b hs).sl := fun i hi => List.mem_append_right _ hi
  have kk : ∀ {σ'}, Keep b.sl σ σ' → Keep (S.tr b hs).sl σ σ' := fun h i hi => h i fun z => hi (List.mem_append_left _ z)
  refine ⟨F, L, v, R0, ?_⟩
  show okF c .no F H L σ b.sl (exss T P none b v) D _
  rw [hK]
  cases hr : exss T P none b v with
  | next v1 => rw [hr] at q; exact fun F' H' L' σ' R' s k => q F' H' L' σ' R' s (kk k)
  | ret o v1 => rw [hr] at q; exact fun F' H' L' σ' u B R' s k => q F' H' L' σ' u B R' s (kk k)
  | brk v1 => rw [hr] at q; exact fun F' H' L' σ' R' s k => q F' H' L' σ' R' s (kk k)
  | cont v1 => rw [hr] at q; exact fun F' H' L' σ' R' s k => q F' H' L' σ' R' s (kk k)
  | exc y v1 =>
    rw [hr] at q
    exact fun F' H' L' σ' cls d R' s k rx => wN_ok we ho hsl R' rx (okF.step q s (kk k))
  | bad => rw [hr] at q; exact q.elim
end
end Pv

set_option Elab.async false
set_option linter.all false
set_option maxRecDepth 100000
/-! PwC: the look at statements. -/
namespace Pv
open PySem PySem.Spec PyProof.Rows L2

def noComp : Expr → Bool
  | .ListComp _ _ _ _ => false
  | .SetComp _ _ _ _ => false
  | .DictComp _ _ _ _ _ => false
  | _ => true
theorem noComp_swap {e : Expr} (h : noComp e = true) (t : Option Expr) (l : Nat) (env : PySem.Env) : swapsWith e t l env = pure false := by
  cases e <;> first | (cases h; done) | rfl
def isLc : E → Bool
  | .lc _ _ _ _ _ => true
  | .lc2 _ _ _ _ _ _ _ _ _ => true
  | _ => false
def lcScope : Expr → Option (Scope × Pos)
  | .ListComp _ _ s p => some (s, p)
  | _ => none
def dNameP : Expr → Option (Str × Pos)
  | .Name x p => some (x, p)
  | _ => none
theorem dNameP_eq {e : Expr} {x p} (h : dNameP e = some (x, p)) : e = .Name x p := by
  cases e <;> simp [dNameP] at h
  obtain ⟨rfl, rfl⟩ := h; rfl
def swapOk (sc : Scope) (x : Str) (py : Pos) (e : Expr) : Bool := oand (lcScope e) fun q => sc.names.lookup x == some .local && ((py.line == q.2.line) && !(q.1.names.any fun (n, k) => n == x && (k == .local || k == .cell)))
/-- x.append(y) -/
def dApp : Expr → Option (Expr × Expr)
  | .Call (.Attribute o y ap) [x] [] cp => if y == ("append" : Str) && ap.endLine == cp.line then some (o, x) else none
  | _ => none
theorem dApp_eq {e o x : Expr} (h : dApp e = some (o, x)) : ∃ ap cp, e = .Call (.Attribute o "append" ap) [x] [] cp ∧ (ap.endLine == cp.line) = true := by
  unfold dApp at h
  split at h
  · split at h
    · rename_i g
      simp only [Bool.and_eq_true] at g
      have := eq_of_beq g.1
      subst this
      cases h
      exact ⟨_, _, rfl, g.2⟩
    · cases h
  · cases h
def dAsg : Stmt → Option (Expr × Expr)
  | .Assign [t] e _ => some (t, e)
  | _ => none
theorem dAsg_eq {s : Stmt} {t e} (h : dAsg s = some (t, e)) : ∃ p, s = .Assign [t] e p := by
  unfold dAsg at h
  split at h
  · cases h; exact ⟨_, rfl⟩
  · cases h
def dEx : Stmt → Option Expr
  | .Expr e _ => some e
  | _ => none
theorem dEx_eq {s : Stmt} {e} (h : dEx s = some e) : ∃ p, s = .Expr e p := by
  cases s <;> simp [dEx] at h
  subst h; exact ⟨_, rfl⟩
def dRet : Stmt → Option (Option Expr)
  | .Return e _ => some e
  | _ => none
theorem dRet_eq {s : Stmt} {e} (h : dRet s = some e) : ∃ p, s = .Return e p := by
  cases s <;> simp [dRet] at h
  subst h; exact ⟨_, rfl⟩
def dIfS : Stmt → Option (Expr × List Stmt × List Stmt)
  | .If t a b _ => some (t, a, b)
  | _ => none
theorem dIfS_eq {s : Stmt} {t a b} (h : dIfS s = some (t, a, b)) : ∃ p, s = .If t a b p := by
  cases s <;> simp [dIfS] at h
  obtain ⟨rfl, rfl, rfl⟩ := h; exact ⟨_, rfl⟩
def dFor : Stmt → Option (Expr × Expr × List Stmt)
  | .For t i b [] _ => some (t, i, b)
  | _ => none
theorem dFor_eq {s : Stmt} {t i b} (h : dFor s = some (t, i, b)) : ∃ p, s = .For t i b [] p := by
  unfold dFor at h
  split at h
  · cases h; exact ⟨_, rfl⟩
  · cases h
def dTry : Stmt → Option (List Stmt × List ExceptHandler)
  | .Try b (h :: hs) [] [] _ => some (b, h :: hs)
  | _ => none
theorem dTry_eq {s : Stmt} {b hs} (h : dTry s = some (b, hs)) : ∃ h0 hds p, hs = h0 :: hds ∧ s = .Try b (h0 :: hds) [] [] p := by
  unfold dTry at h
  split at h
  · cases h; exact ⟨_, _, _, rfl, rfl⟩
  · cases h
def dRaise : Stmt → Option (Str × Expr × List Expr)
  | .Raise (some (.Call (.Name x _) (e :: xs) [] _)) none _ => some (x, e, xs)
  | _ => none
theorem dRaise_eq {s : Stmt} {x e xs} (h : dRaise s = some (x, e, xs)) : ∃ p1 p2 p3, s = .Raise (some (.Call (.Name x p1) (e :: xs) [] p2)) none p3 := by
  unfold dRaise at h
  split at h
  · cases h; exact ⟨_, _, _, rfl⟩
  · cases h
def isPass : Stmt → Bool
  | .Pass _ => true
  | _ => false
def isBrk : Stmt → Bool
  | .Break _ => true
  | _ => false
def isCnt : Stmt → Bool
  | .Continue _ => true
  | _ => false
def dV : E → Option Nat
  | .v k => some k
  | _ => none
theorem dV_eq {e : E} {k : Nat} (h : dV e = some k) : e = .v k := by
  cases e <;> simp [dV] at h
  subst h; rfl
def dFrz : S → Option Nat
  | .frz i => some i
  | _ => none
theorem dFrz_eq {s : S} {k : Nat} (h : dFrz s = some k) : s = .frz k := by
  cases s <;> simp [dFrz] at h
  subst h; rfl
def dHd : ExceptHandler → Option (Str × Option Str × Stmt × List Stmt)
  | .ExceptHandler (some (.Name x _)) n (s :: ss) _ => some (x, n, s, ss)
  | _ => none
theorem dHd_eq {h : ExceptHandler} {x n s ss} (e : dHd h = some (x, n, s, ss)) : ∃ np p, h = .ExceptHandler (some (.Name x np)) n (s :: ss) p := by
  unfold dHd at e
  split at e
  · cases e; exact ⟨_, _, rfl⟩
  · cases e
def nmIs (sc : Scope) (N : List Str) : Option Nat → Option Str → Bool
  | none, none => true
  | some i, some y => N[i]? == some y && sc.names.lookup y == some .local
  | _, _ => false
def asgOk (xf : List Nat) (xa : Bool) (sc : Scope) (N : List Str) (g : G) (a : E) (t e : Expr) : Bool := match g with
  | .n i => oand (dNameP t) fun q => N[i]? == some q.1 && ((sc.names.lookup q.1 == some .local || sc.names.lookup q.1 == some .cell) && (!xf.contains i && (if isLc a then swapOk sc q.1 q.2 e else noComp e)))
  | .t gs => !xa && (chkG sc fsAll N (.t gs) t && ((dTup e).isNone && (noComp e && (G.sls gs).all (fun i => !xf.contains i))))
section
variable (J : Info)
mutual
def chkS (xf : List Nat) (xa : Bool) (sc : Scope) (N : List Str) : S → Stmt → Bool
  | .ret a, s => oand (dRet s) fun o => oand o fun e => chkX J xf xa false sc N a e
  | .retN, s => oand (dRet s) fun o => o.isNone
  | .pass, s => isPass s
  | .brk, s => isBrk s
  | .cont, s => isCnt s
  | .ex a, s => oand (dEx s) fun e => noComp e && chkX J xf xa false sc N a e
  | .asg g a, s => oand (dAsg s) fun q => chkX J xf xa false sc N a q.2 && asgOk xf xa sc N g a q.1 q.2
  | .setf pe f a, s => oand (dV pe) fun k => oand (dAsg s) fun q => oand (dAtt q.1) fun r => oand (dName r.1) fun x => slotIs sc N k x && (r.2 == J.anm f && (noComp q.2 && chkX J xf xa false sc N a q.2))
  | .seti pe i a, s => oand (dV pe) fun k => oand (dAsg s) fun q => oand (dSub q.1) fun r => oand (dName r.1) fun x => slotIs sc N k x && (noComp q.2 && (chkX J xf xa false sc N i r.2 && chkX J xf xa false sc N a q.2))
  | .app pe a, s => oand (dV pe) fun k => oand (dEx s) fun c => oand (dApp c) fun r => oand (dName r.1) fun z => slotIs sc N k z && (plainX r.2 && chkX J xf xa false sc N a r.2)
  | .ife t a b, s => oand (dIfS s) fun q => chkX J xf xa true sc N t q.1 && (chkSL xf xa sc N a q.2.1 && chkSL xf xa sc N b q.2.2)
  | .fr g it b, s => !xa && oand (dFor s) fun q => plainX q.2.1 && (chkI J xf xa sc N it q.1 q.2.1 && (chkG sc fsAll N g q.1 && ((g.sl.all fun i => !xf.contains i) && chkSL xf xa sc N b q.2.2)))
  | .tr b hs, s => !xa && (xf.isEmpty && oand (dTry s) fun q => hs.one && (chkSL xf xa sc N b q.1 && chkHL sc N hs q.2))
  | .raise k es, s => !xa && oand (dRaise s) fun q => q.1 == J.cnm k && (J.rk.contains k && (gl sc q.1 && chkEL J xf xa sc N es (q.2.1 :: q.2.2)))
  | _, _ => false
def chkSL (xf : List Nat) (xa : Bool) (sc : Scope) (N : List Str) : SL → List Stmt → Bool
  | .nil, [] => true
  | .nil, _ :: _ => false
  | .cons s r, ss => match dFrz s with
    | some i => !xf.contains i && chkSL xf xa sc N r ss
    | none => match ss with
      | x :: ss => chkS xf xa sc N s x && chkSL xf xa sc N r ss
      | [] => false
def chkHL (sc : Scope) (N : List Str) : HL → List ExceptHandler → Bool
  | .nil, hds => hds.isEmpty
  | .cons cs nm b r, hds => match hds with
    | hd :: hds => oand (dHd hd) fun q => (cs.all fun k => J.xs.contains k && q.1 == J.cnm k) && (gl sc q.1 && (nmIs sc N nm q.2.1 && (chkSL nm.toList true sc N b (q.2.2.1 :: q.2.2.2) && chkHL sc N r hds)))
    | [] => false
end
end
end Pv

set_option Elab.async false
set_option linter.all false
set_option maxRecDepth 100000
/-! PwD: what is looked at holds: statements. -/
namespace Pv
open PySem PySem.Spec PyProof.Rows L2

/-- a frame of the text, for statements -/
structure Gs (c : Cfg) (J : Info) (T : Tbl) (P : Fn) (A : Ad) (xa : Bool) (X : Cx) (sc : Scope) (N : List Str) : Prop where
  g : Gd c J T P A xa X sc N
  we : We c J T X.mg
  fn : X.fn = fsAll
  kd : sc.kind = .function
  hp : xa = false → PassesOwn (model X.prog X.w) X.A X.env X.xe
  stk : xa = false → X.stack = X.env :: X.outer
  frm : xa = false → X.env.frame = some X.env.locals
theorem no_swap {t e : Expr} (h : (dTup e).isNone = true) (env : PySem.Env) : swappedStores [t] e env = pure none := by
  cases e <;> first | (cases h; done) | (cases t <;> rfl)
section
variable {c : Cfg} {J : Info} {T : Tbl} {P : Fn} {A : Ad} {X : Cx} {sc : Scope} {N : List Str} {xf : List Nat} {xa : Bool} {xo : Xs} {W0 : WX}
theorem Gs.tr {pn : List (Addr × Obj)} {xe : Value → Shared → Prop} (g : Gs c J T P A xa X sc N) (hp : PassesOwn (model X.prog X.w) X.A X.env xe) : Gs c J T P A xa (X.tr pn xe) sc N := by
  refine ⟨⟨g.g.N, g.g.sc, fun h => ?_, g.g.wd, g.g.K, g.g.calm, g.g.un, g.g.nd⟩, g.we, g.fn, g.kd, fun _ => hp, g.stk, g.frm⟩
  have f := g.g.fx h
  exact ⟨f.rm, f.rm2, f.rz, f.lv, f.bd, f.kp, f.gl, f.mth, f.ini, f.kpi, f.inp, f.prp, f.kbf, f.kbc⟩
theorem Gs.suite {a : Addr} {pn : List (Addr × Obj)} (g : Gs c J T P A xa X sc N) : Gs c J T P A true (X.suite a pn) sc N :=
  ⟨⟨g.g.N, g.g.sc, (fun z => by cases z), g.g.wd, g.g.K, (fun z => by cases z), g.g.un, g.g.nd⟩, g.we, g.fn, g.kd, (fun z => by cases z), (fun z => by cases z), (fun z => by cases z)⟩
/-- a list made: its parts -/
theorem lc_set {own : List Nat} {gg : G} {it : Pv.I} {t : OE} {el : E} {e : Expr} {i : Nat} {x : Str} {p py : Pos} (g : Gs c J T P A xa X sc N) (hf : xo.fr = xf) (hx : XaOk c T P N xf X sc xo xa) (tk : Takes X W0) (h : chkX J xf xa false sc N (.lc own gg it t el) e = true) (hi : X.N[i]? = some x) (hs : swapOk sc x py e = true) (hxi : i ∉ xo.fr) :
    PS X (.Assign [.Name x py] e p) (tS c T P xo W0 (.asg (.n i) (.lc own gg it t el))) := by
  simp only [chkX, Bool.and_eq_true] at h
  obtain ⟨hxa, h1, h2⟩ := h
  have hxa : xa = false := by simpa using hxa
  have hq := opt_and h2
  clear h2
  obtain ⟨⟨y, tg, itx, ifs, s⟩, hk, h2⟩ := hq
  obtain ⟨p', rfl⟩ := dLc_eq hk
  simp only [Bool.and_eq_true] at h2
  obtain ⟨h3, h4, h5, h6, h7, h8, h9, h10⟩ := h2
  obtain ⟨o, ho, h10⟩ := opt_and h10
  have hxo : ∀ i ∈ own, i ∉ xo.fr := fun i hi => by
    have := List.all_eq_true.mp h3 i hi
    rw [hf]
    simpa using this
  have hgs : ∀ i ∈ gg.sl, i ∈ own := fun i hi => by
    have := List.all_eq_true.mp h8 i hi
    simpa using this
  simp only [swapOk, lcScope, oand, Bool.and_eq_true, Bool.not_eq_true'] at hs
  obtain ⟨s1, s2, s3⟩ := hs
  have hyl : X.env.scope.names.lookup x = some .local := by rw [g.g.sc]; exact eq_of_beq s1
  have gb := fun (s0 : Shared) (H : Hp) (C : Addr) (cl : List (Str × Addr)) (fp : List Addr) => g.g.blk (hxa := hxa) (s2 := s) (s := s0) (H := H) (C := C) (cl := cl) (fp := fp)
  refine ps_imp (ps_setLc (g := gR c.K gg) (g.g.calm hxa) g.g.nd hi hyl (sw_true (by rw [g.g.sc]; exact g.kd) hyl s2 s3) (chkI_ok it itx g.g hf hx tk h6) (by rw [g.g.N, g.g.sc]; exact blkOk_by h4) (fun s0 H C cl fp => ?_) (fun s0 H C cl fp => chkOT_ok t o (gb s0 H C cl fp) hf XaOk.no takes0 h10 ho) (fun s0 H C cl fp => (chkX_ok el y (gb s0 H C cl fp) hf XaOk.no takes0 h9).1 rfl) fun z => plain_fold h5 _ z) fun D σ H q => ?_
  · have g2 := gb s0 H C cl fp
    have := pg_of (g2.calm rfl) g2.nd gg tg (by rw [g2.sc, g2.N]; exact h7)
    rw [g2.K] at this
    exact this
  · have := set_read q hxi
    rw [own_snd]
    exact lc_read this hgs hxo
theorem lc2_set {own own2 : List Nat} {gg gg2 : G} {it it2 : Pv.I} {t t2 : OE} {el : E} {e : Expr} {i : Nat} {x : Str} {p py : Pos} (g : Gs c J T P A xa X sc N) (hf : xo.fr = xf) (hx : XaOk c T P N xf X sc xo xa) (tk : Takes X W0) (h : chkX J xf xa false sc N (.lc2 own own2 gg it t gg2 it2 t2 el) e = true) (hi : X.N[i]? = some x) (hs : swapOk sc x py e = true) (hxi : i ∉ xo.fr) :
    PS X (.Assign [.Name x py] e p) (tS c T P xo W0 (.asg (.n i) (.lc2 own own2 gg it t gg2 it2 t2 el))) := by
  simp only [chkX, Bool.and_eq_true] at h
  obtain ⟨hxa, h1, h2⟩ := h
  have hxa : xa = false := by simpa using hxa
  have hq := opt_and h2
  clear h2
  obtain ⟨⟨y, tg, itx, ifs, tg2, itx2, ifs2, s⟩, hk, h2⟩ := hq
  obtain ⟨p', rfl⟩ := dLc2_eq hk
  simp only [Bool.and_eq_true] at h2
  obtain ⟨h3, h4, h5, h5', h6, h7, h7', h7'', h8, h8', h9, hoo, h10, h10'⟩ := h2
  obtain ⟨o, ho, h10⟩ := opt_and h10
  obtain ⟨o2, ho2, h10'⟩ := opt_and h10'
  have hxo : ∀ i ∈ own, i ∉ xo.fr := fun i hi => by
    have := List.all_eq_true.mp h3 i hi
    rw [hf]
    simpa using this
  have hgs : ∀ i ∈ gg.sl, i ∈ own := fun i hi => by
    have := List.all_eq_true.mp h8 i hi
    simpa using this
  have hgs2 : ∀ i ∈ gg2.sl, i ∈ own2 := fun i hi => by
    have := List.all_eq_true.mp h8' i hi
    simpa using this
  have hoo : ∀ i ∈ own2, i ∈ own := fun i hi => by
    have := List.all_eq_true.mp hoo i hi
    simpa using this
  simp only [swapOk, lcScope, oand, Bool.and_eq_true, Bool.not_eq_true'] at hs
  obtain ⟨s1, s2, s3⟩ := hs
  have hyl : X.env.scope.names.lookup x = some .local := by rw [g.g.sc]; exact eq_of_beq s1
  have gb := fun (s0 : Shared) (H : Hp) (C : Addr) (cl : List (Str × Addr)) (fp : List Addr) => g.g.blk (hxa := hxa) (s2 := s) (s := s0) (H := H) (C := C) (cl := cl) (fp := fp)
  have pg : ∀ (q : G) (tq : Expr), chkG (relS s sc) (fsOf s) N q tq = true → ∀ (s0 : Shared) (H : Hp) (C : Addr) (cl : List (Str × Addr)) (fp : List Addr), PG (X.blk s0 H s (compEnvC s cl C X.env) fp) tq (gR c.K q) := fun q tq hq s0 H C cl fp => by
    have g2 := gb s0 H C cl fp
    have := pg_of (g2.calm rfl) g2.nd q tq (by rw [g2.sc, g2.N]; exact hq)
    rw [g2.K] at this
    exact this
  refine ps_imp (ps_setLc2 (g := gR c.K gg) (g1 := gR c.K gg2) (vs1 := own2) (g.g.calm hxa) g.g.nd hi hyl (sw_true (by rw [g.g.sc]; exact g.kd) hyl s2 s3) (chkI_ok it itx g.g hf hx tk h6) (by rw [g.g.N, g.g.sc]; exact blkOk_by h4) (by rw [own_snd]; exact hoo) (pg gg tg h7) (fun s0 H C cl fp => chkOT_ok t o (gb s0 H C cl fp) hf XaOk.no takes0 h10 ho)
    (fun s0 H C cl fp => chkI_ok it2 itx2 (gb s0 H C cl fp) hf XaOk.no takes0 h7') (pg gg2 tg2 h7'') (fun s0 H C cl fp => chkOT_ok t2 o2 (gb s0 H C cl fp) hf XaOk.no takes0 h10' ho2) (fun s0 H C cl fp => (chkX_ok el y (gb s0 H C cl fp) hf XaOk.no takes0 h9).1 rfl) (fun z => plain_fold h5 _ z) fun env z => plain_fold h5' env z) fun D σ H q => ?_
  have := set_read q hxi
  rw [own_snd]
  exact lc2_read this hgs hgs2 hoo hxo
end
end Pv

set_option Elab.async false
set_option linter.all false
set_option maxRecDepth 100000
/-! PwE: what is looked at holds: statements. -/
namespace Pv
open PySem PySem.Spec PyProof.Rows L2

theorem sub_asg {o i : Expr} {p : Pos} {t : Expr} (h : dSub t = some (o, i)) (env : PySem.Env) : ∃ p, t = .Subscript o i p ∧ ∀ v, assign (.Subscript o i p) env v = (do
      let ov ← holding [v] (eval o env)
      let iv ← holding [v, ov] (eval i env)
      standAt p
      holding [v, ov, iv] (setItem ov iv v)
      release [v, ov, iv] []) := by
  cases t with
  | Subscript b j p =>
    cases j <;> simp [dSub] at h <;> (obtain ⟨rfl, rfl⟩ := h; exact ⟨_, rfl, fun _ => rfl⟩)
  | _ => simp [dSub] at h
section
variable {c : Cfg} {J : Info} {T : Tbl} {P : Fn} {A : Ad} {N : List Str} {sc : Scope}
/-- what is wanted of the frame, for statements -/
structure In (c : Cfg) (J : Info) (T : Tbl) (P : Fn) (A : Ad) (xf : List Nat) (xa : Bool) (X : Cx) (sc : Scope) (N : List Str) (xo : Xs) (W0 : WX) : Prop where
  g : Gs c J T P A xa X sc N
  fr : xo.fr = xf
  no : xa = false → xo = Xs.no
  x : XaOk c T P N xf X sc xo xa
  tk : Takes X W0
mutual
theorem chkS_ok : ∀ (s : S) (st : Stmt) {xf : List Nat} {xa : Bool} {X : Cx} {xo : Xs} {W0 : WX}, In c J T P A xf xa X sc N xo W0 → chkS J xf xa sc N s st = true → PS X st (tS c T P xo W0 s)
  | .ret a, st, xf, xa, X, xo, W0, i, h => by
    simp only [chkS] at h
    have hq := opt_and h
    clear h
    obtain ⟨o, ho, h⟩ := hq
    obtain ⟨p, rfl⟩ := dRet_eq ho
    have hq := opt_and h
    clear h
    obtain ⟨e, rfl, h⟩ := hq
    exact s_ret ((chkX_ok a e i.g.g i.fr i.x i.tk h).1 rfl)
  | .retN, st, xf, xa, X, xo, W0, i, h => by
    simp only [chkS] at h
    have hq := opt_and h
    clear h
    obtain ⟨o, ho, h⟩ := hq
    obtain ⟨p, rfl⟩ := dRet_eq ho
    cases o with
    | none => exact s_retN
    | some _ => cases h
  | .pass, st, xf, xa, X, xo, W0, i, h => by
    simp only [chkS] at h
    cases st <;> first | (cases h; done) | exact s_pass
  | .brk, st, xf, xa, X, xo, W0, i, h => by
    simp only [chkS] at h
    cases st <;> first | (cases h; done) | exact s_brk
  | .cont, st, xf, xa, X, xo, W0, i, h => by
    simp only [chkS] at h
    cases st <;> first | (cases h; done) | exact s_cont
  | .ex a, st, xf, xa, X, xo, W0, i, h => by
    simp only [chkS] at h
    have hq := opt_and h
    clear h
    obtain ⟨e, he, h⟩ := hq
    obtain ⟨p, rfl⟩ := dEx_eq he
    simp only [Bool.and_eq_true] at h
    exact s_ex ((chkX_ok a e i.g.g i.fr i.x i.tk h.2).1 rfl) (noComp_swap h.1 _ _ _)
  | .asg g a, st, xf, xa, X, xo, W0, i, h => by
    simp only [chkS] at h
    have hq := opt_and h
    clear h
    obtain ⟨⟨t, e⟩, he, h⟩ := hq
    obtain ⟨p, rfl⟩ := dAsg_eq he
    simp only [Bool.and_eq_true] at h
    obtain ⟨hx, h⟩ := h
    have ok := chkX_ok a e i.g.g i.fr i.x i.tk hx
    cases g with
    | n k =>
      simp only [asgOk] at h
      have hq := opt_and h
      clear h
      obtain ⟨⟨x, py⟩, hn, h⟩ := hq
      have := dNameP_eq hn
      subst this
      simp only [Bool.and_eq_true, Bool.or_eq_true] at h
      obtain ⟨h1, h2, h3, h5⟩ := h
      have hN : X.N[k]? = some x := by rw [i.g.g.N]; exact eq_of_beq h1
      have hk : k ∉ xo.fr := by rw [i.fr]; simpa using h3
      have hl : Loc X.env.scope x := by
        rw [i.g.g.sc]
        rcases h2 with h2 | h2
        · exact .inl (eq_of_beq h2)
        · exact .inr (eq_of_beq h2)
      have plain : noComp e = true → PS X (.Assign [.Name x py] e p) (tS c T P xo W0 (.asg (.n k) a)) := fun hn =>
        ps_imp (ps_set i.g.g.nd hN hl (ok.1 rfl) (noComp_swap hn _ _ _) (.inl (by rw [i.g.fn]; rfl))) fun D σ H q => set_read q hk
      cases a with
      | lc own gg it t el => exact lc_set i.g i.fr i.x i.tk hx hN h5 hk
      | lc2 own own2 gg it t gg2 it2 t2 el => exact lc2_set i.g i.fr i.x i.tk hx hN h5 hk
      | _ => exact plain h5
    | t gs =>
      simp only [asgOk, Bool.and_eq_true] at h
      obtain ⟨h0, h1, h2, h3, h4⟩ := h
      have hxa : xa = false := by simpa using h0
      have hpg := pg_of (i.g.g.calm hxa) i.g.g.nd (.t gs) t (by rw [i.g.g.sc, i.g.g.N, i.g.fn]; exact h1)
      rw [i.g.g.K] at hpg
      refine ps_imp (ps_asg (ok.1 rfl) hpg (noComp_swap h3 _ _ _) (no_swap h2 _) (by rw [plain_asg h1]; rfl)) fun D σ H q => tup_read q fun j hj => ?_
      have := List.all_eq_true.mp h4 j hj
      rw [i.fr]
      simpa using this
  | .setf pe f a, st, xf, xa, X, xo, W0, i, h => by
    simp only [chkS] at h
    have hq := opt_and h
    clear h
    obtain ⟨k, hk, h⟩ := hq
    have := dV_eq hk
    subst this
    have hq := opt_and h
    clear h
    obtain ⟨⟨t, e⟩, he, h⟩ := hq
    obtain ⟨p, rfl⟩ := dAsg_eq he
    have hq := opt_and h
    clear h
    obtain ⟨⟨o, y⟩, ho, h⟩ := hq
    obtain ⟨p2, rfl⟩ := dAtt_eq ho
    have hq := opt_and h
    clear h
    obtain ⟨x, hx, h⟩ := hq
    obtain ⟨p3, rfl⟩ := dName_eq hx
    simp only [Bool.and_eq_true] at h
    obtain ⟨h1, h2, h3, h4⟩ := h
    obtain ⟨q1, q2, q3, q4⟩ := i.g.g.slot h1
    exact s_setf i.g.g.wd i.g.g.K (by rw [eq_of_beq h2, i.g.g.wd.anm]) q1 q2 q3 q4 (noComp_swap h3 _ _ _) ((chkX_ok a e i.g.g i.fr i.x i.tk h4).1 rfl)
  | .seti pe b a, st, xf, xa, X, xo, W0, i, h => by
    simp only [chkS] at h
    have hq := opt_and h
    clear h
    obtain ⟨k, hk, h⟩ := hq
    have := dV_eq hk
    subst this
    have hq := opt_and h
    clear h
    obtain ⟨⟨t, e⟩, he, h⟩ := hq
    obtain ⟨p, rfl⟩ := dAsg_eq he
    have hq := opt_and h
    clear h
    obtain ⟨⟨o, y⟩, ho, h⟩ := hq
    obtain ⟨p2, rfl, hasg⟩ := sub_asg (p := p) ho X.env
    have hq := opt_and h
    clear h
    obtain ⟨x, hx, h⟩ := hq
    obtain ⟨p3, rfl⟩ := dName_eq hx
    simp only [Bool.and_eq_true] at h
    obtain ⟨h1, h2, h3, h4⟩ := h
    obtain ⟨q1, q2, q3, q4⟩ := i.g.g.slot h1
    exact s_seti hasg q1 q2 q3 q4 (noComp_swap h2 (some (.Subscript (.Name x p3) y p2)) p.line X.env) rfl ((chkX_ok a e i.g.g i.fr i.x i.tk h4).1 rfl) ((chkX_ok b y i.g.g i.fr i.x i.tk h3).1 rfl)
  | .app pe a, st, xf, xa, X, xo, W0, i, h => by
    simp only [chkS] at h
    have hq := opt_and h
    clear h
    obtain ⟨k, hk, h⟩ := hq
    have := dV_eq hk
    subst this
    have hq := opt_and h
    clear h
    obtain ⟨e, he, h⟩ := hq
    obtain ⟨p, rfl⟩ := dEx_eq he
    have hq := opt_and h
    clear h
    obtain ⟨⟨o, x⟩, ho, h⟩ := hq
    obtain ⟨ap, cp, rfl, hline⟩ := dApp_eq ho
    have hq := opt_and h
    clear h
    obtain ⟨z, hz, h⟩ := hq
    obtain ⟨p3, rfl⟩ := dName_eq hz
    simp only [Bool.and_eq_true] at h
    obtain ⟨h1, h2, h3⟩ := h
    obtain ⟨q1, q2, q3, q4⟩ := i.g.g.slot h1
    exact s_app q1 q2 q3 q4 hline h2 ((chkX_ok a x i.g.g i.fr i.x i.tk h3).1 rfl)
  | .ife t a b, st, xf, xa, X, xo, W0, i, h => by
    simp only [chkS] at h
    have hq := opt_and h
    clear h
    obtain ⟨⟨e, x, y⟩, he, h⟩ := hq
    obtain ⟨p, rfl⟩ := dIfS_eq he
    simp only [Bool.and_eq_true] at h
    obtain ⟨h1, h2, h3⟩ := h
    exact s_if ((chkX_ok t e i.g.g i.fr i.x i.tk h1).2 rfl) (chkSL_ok a x i h2) (chkSL_ok b y i h3)
  | .fr gg it b, st, xf, xa, X, xo, W0, i, h => by
    simp only [chkS, Bool.and_eq_true] at h
    obtain ⟨h0, h⟩ := h
    have hxa : xa = false := by simpa using h0
    have hq := opt_and h
    clear h
    obtain ⟨⟨t, e, x⟩, he, h⟩ := hq
    obtain ⟨p, rfl⟩ := dFor_eq he
    simp only [Bool.and_eq_true] at h
    obtain ⟨h1, h2, h3, h4, h5⟩ := h
    have hpg := pg_of (i.g.g.calm hxa) i.g.g.nd gg t (by rw [i.g.g.sc, i.g.g.N, i.g.fn]; exact h3)
    rw [i.g.g.K] at hpg
    refine s_for (i.g.hp hxa) (i.g.g.calm hxa) (by rw [i.no hxa]; rfl) (chkI_ok it e i.g.g i.fr i.x i.tk h2) hpg (chkSL_ok b x i h5) h1 fun j hj => ?_
    have := List.all_eq_true.mp h4 j hj
    rw [i.fr]
    simpa using this
  | .tr b hs, st, xf, xa, X, xo, W0, i, h => by
    simp only [chkS, Bool.and_eq_true] at h
    obtain ⟨h0, hxf, h⟩ := h
    have hxa : xa = false := by simpa using h0
    have hq := opt_and h
    clear h
    obtain ⟨⟨x, hds⟩, he, h⟩ := hq
    obtain ⟨h00, hds0, p, hhd, rfl⟩ := dTry_eq he
    subst hhd
    simp only [Bool.and_eq_true] at h
    obtain ⟨h1, h2, h3⟩ := h
    have hno := i.no hxa
    subst hno
    subst hxa
    refine s_try i.g.we i.g.g.K h1 (i.g.stk rfl) (i.g.frm rfl) i.g.g.nd i.tk (fun W pn xe tk hp => ?_) (chkHL_ok hs _ h1 i.g h3)
    exact chkSL_ok b x ⟨i.g.tr hp, i.fr, fun _ => rfl, XaOk.no, tk⟩ h2
  | .aug _ _ _, st, xf, xa, X, xo, W0, i, h => by simp [chkS] at h
  | .wh _ _, st, xf, xa, X, xo, W0, i, h => by simp [chkS] at h
  | .raise k es, st, xf, xa, X, xo, W0, i, h => by
    simp only [chkS, Bool.and_eq_true] at h
    obtain ⟨h0, h⟩ := h
    have hxa : xa = false := by simpa using h0
    have hq := opt_and h
    clear h
    obtain ⟨⟨x, e, xs⟩, hk, h⟩ := hq
    obtain ⟨p1, p2, p3, rfl⟩ := dRaise_eq hk
    simp only [Bool.and_eq_true] at h
    obtain ⟨h1, h2, h3, h4⟩ := h
    obtain ⟨q1, q2, q3⟩ := i.g.g.gl h3
    exact s_raise (i.g.g.fx hxa) i.g.g.K (i.g.g.calm hxa) i.tk (by rw [i.no hxa]; rfl) q1 q2 (eq_of_beq h1) (by simpa using h2) (chkEL_len (T := T) (P := P) (xo := none) h4).1 (chkEL_ok es _ i.g.g i.fr i.x i.tk h4)
  | .frz _, st, xf, xa, X, xo, W0, i, h => by simp [chkS] at h
theorem chkSL_ok : ∀ (s : SL) (ss : List Stmt) {xf : List Nat} {xa : Bool} {X : Cx} {xo : Xs} {W0 : WX}, In c J T P A xf xa X sc N xo W0 → chkSL J xf xa sc N s ss = true → PSs X ss (tSs c T P xo W0 s)
  | .nil, [], xf, xa, X, xo, W0, i, h => s_seq0
  | .nil, _ :: _, xf, xa, X, xo, W0, i, h => by simp [chkSL] at h
  | .cons s r, ss, xf, xa, X, xo, W0, i, h => by
    simp only [chkSL] at h
    cases hd : dFrz s with
    | some k =>
      rw [hd] at h
      have := dFrz_eq hd
      subst this
      simp only [Bool.and_eq_true] at h
      exact s_frz (by rw [i.fr]; simpa using h.1) (chkSL_ok r ss i h.2)
    | none =>
      rw [hd] at h
      cases ss with
      | nil => cases h
      | cons st ss =>
        simp only [Bool.and_eq_true] at h
        exact s_seq1 (chkS_ok s st i h.1) (chkSL_ok r ss i h.2)
theorem chkHL_ok : ∀ (hs : HL) (hds : List ExceptHandler) {X : Cx}, hs.one = true → Gs c J T P A false X sc N → chkHL J sc N hs hds = true → HdsN X hds (tHl c T P hs)
  | .nil, hds, X, _, g, h => by
    cases hds with
    | nil => exact .nil
    | cons _ _ => simp [chkHL] at h
  | .cons cs nm b r, hds, X, ho, g, h => by
    simp only [chkHL] at h
    cases hds with
    | nil => cases h
    | cons hd hds =>
      have hq := opt_and h
      clear h
      obtain ⟨⟨x, n, s, ss⟩, he, h⟩ := hq
      obtain ⟨np, p, rfl⟩ := dHd_eq he
      simp only [Bool.and_eq_true] at h
      obtain ⟨h1, h2, h3, h4, h5⟩ := h
      simp only [HL.one, Bool.and_eq_true, beq_iff_eq] at ho
      obtain ⟨k, rfl⟩ := List.length_eq_one_iff.mp ho.1
      simp only [List.all_cons, List.all_nil, Bool.and_true, Bool.and_eq_true] at h1
      have ih := chkHL_ok r hds ho.2 g h5
      obtain ⟨q1, q2, q3⟩ := g.g.gl h2
      have hn : Names X x (.ref (c.ca k)) := by
        refine ⟨q1, q2, .inl ?_⟩
        rw [eq_of_beq h1.2]
        exact (g.we.cls k (by simpa using h1.1)).1
      have su : ∀ (a : Addr) (oe : Obj) (cls : Value) (d : Option Addr) (pn : List (Addr × Obj)), Zc cls d oe → (∃ vs, oe.data = .fields vs) → PSs (X.suite a ((a, oe) :: pn)) (s :: ss) (tSu c T P nm b a cls d) := fun a oe cls d pn hz hf => by
        refine pss_ex fun y => ?_
        by_cases hc : cls = .ref (c.ca y.cls) ∧ T.exc y.cls = true
        · refine pss_imp (chkSL_ok b (s :: ss) (xo := xsOf c nm a d y) (W0 := WF) ⟨g.suite, rfl, (fun z => by cases z), fun _ k f z p p' W0 hk hsl => ?_, takes0⟩ h4) fun D σ H q => q.2
          have hk : k ∈ nm.toList := hk
          have : nm = some k := by simpa using hk
          subst this
          obtain ⟨r1, r2, r3, r4⟩ := g.g.slot hsl
          exact s_xat g.we g.g.K hz hf hc.1 hc.2 r1 r2 r3 r4
        · exact ⟨fun pins s σ H D I q => absurd q.1 hc⟩
      cases nm with
      | none =>
        cases n with
        | none => exact .cons hn su ih
        | some _ => simp [nmIs] at h3
      | some i =>
        cases n with
        | none => simp [nmIs] at h3
        | some y =>
          simp only [nmIs, Bool.and_eq_true] at h3
          exact .consN hn (by rw [g.g.N]; exact eq_of_beq h3.1) (by show X.env.scope.names.lookup y = _; rw [g.g.sc]; exact eq_of_beq h3.2) su ih
end
end
end Pv

set_option Elab.async false
set_option linter.all false
set_option maxRecDepth 100000
/-! PwF: a def's body: from the promise to the reading. -/
namespace Pv
open PySem PySem.Spec PyProof.Rows L2

section
variable {c : Cfg} {T : Tbl} {P : Fn} {F F' H H' : Hp} {L L' : Ft} {vs : List V} {os : List O} {v : Env} {Q : VK} {E : XK} {N : List Str} {d : Def}
/-- the slots at the entry -/
def entry (os : List O) (ns np : Nat) : Env := os.map some ++ List.replicate (ns - np) none
theorem entry_at {ns np k : Nat} {o : O} (h : getS (entry os ns np) k = some o) : getS (os.map some) k = some o := by
  unfold getS entry at *
  by_cases hk : k < (os.map some).length
  · rw [List.getElem?_append_left hk] at h
    exact h
  · rw [List.getElem?_append_right (by omega)] at h
    rw [List.getElem?_replicate] at h
    split at h <;> simp at h
theorem Rel.entered {ns : Nat} (R : Rel c .no F H L (vs.map some) (os.map some)) (hN : N.length = ns) (hl : os.length = vs.length) (hle : vs.length ≤ ns) : Rel c .no F H L (_root_.L2.start N vs) (entry os ns vs.length) := by
  refine ⟨R.le, fun k o h => ?_, R.nd, R.dj, R.df, fun k h => ?_, ?_, trivial⟩
  · obtain ⟨u, h1, h2⟩ := R.slot k o (entry_at h)
    refine ⟨u, ?_, h2⟩
    unfold _root_.L2.start
    rw [List.getElem?_append_left (List.getElem?_eq_some_iff.mp h1).1]
    exact h1
  · by_cases hk : k < os.length
    · have : getS (entry os ns vs.length) k = getS (os.map some) k := by
        unfold getS entry
        rw [List.getElem?_append_left (by rw [List.length_map]; exact hk)]
      rw [this] at h
      exact R.dead k h
    · refine R.dead k ?_
      unfold getS
      rw [List.getElem?_eq_none (by rw [List.length_map]; omega)]
      rfl
  · unfold _root_.L2.start entry
    rw [List.length_append, List.length_append, List.length_map, List.length_map, List.length_replicate, List.length_replicate, hN, hl]
/-- the state at the end, as the caller sees it -/
theorem Rel.end_ {A : List Nat} {σ : _root_.L2.St} (R : Rel c .no F H L σ v) (k : Keep A (_root_.L2.start N vs) σ) : Rel c .no F H (fun i => if i < vs.length ∧ i ∉ A then L i else []) (vs.map some) (outs vs.length A v) := by
  have at_ : ∀ {i : Nat} {o : O}, getS (outs vs.length A v) i = some o → i < vs.length ∧ i ∉ A ∧ getS v i = some o := fun {i o} h => by
    unfold getS outs at h
    rw [List.getElem?_map] at h
    by_cases hi : i < vs.length
    · rw [List.getElem?_range hi] at h
      simp only [Option.map_some, Option.bind_some, id_eq] at h
      by_cases ha : A.contains i = true
      · rw [if_pos ha] at h; cases h
      · rw [if_neg ha] at h
        exact ⟨hi, by simpa using ha, h⟩
    · rw [List.getElem?_eq_none (by simp; omega)] at h
      cases h
  refine ⟨R.le, fun i o h => ?_, fun i => ?_, fun i j q hi hj => ?_, fun i q hq => ?_, fun i h => ?_, by unfold outs; simp, trivial⟩
  · obtain ⟨h1, h2, h3⟩ := at_ h
    obtain ⟨u, h4, h5⟩ := R.slot i o h3
    refine ⟨u, ?_, by rw [if_pos ⟨h1, h2⟩]; exact h5⟩
    rw [k i h2] at h4
    unfold _root_.L2.start at h4
    rw [List.getElem?_append_left (by rw [List.length_map]; exact h1)] at h4
    exact h4
  · show (if i < vs.length ∧ i ∉ A then L i else []).Nodup
    split
    · exact R.nd i
    · exact List.nodup_nil
  · have hi : q ∈ (if i < vs.length ∧ i ∉ A then L i else []) := hi
    have hj : q ∈ (if j < vs.length ∧ j ∉ A then L j else []) := hj
    split at hi
    · split at hj
      · exact R.dj i j q hi hj
      · cases hj
    · cases hi
  · have hq : q ∈ (if i < vs.length ∧ i ∉ A then L i else []) := hq
    split at hq
    · exact R.df i q hq
    · cases hq
  · show (if i < vs.length ∧ i ∉ A then L i else []) = []
    split
    · rename_i hi
      refine R.dead i ?_
      cases hg : getS v i with
      | none => rfl
      | some o =>
        have : getS (outs vs.length A v) i = some o := by
          unfold getS outs
          rw [List.getElem?_map, List.getElem?_range hi.1]
          simp only [Option.map_some, Option.bind_some, id_eq]
          rw [if_neg (by simpa using hi.2)]
          exact hg
        rw [this] at h
        cases h
    · rfl
theorem Step.end_ {A : List Nat} {F0 H0 : Hp} {L0 : Ft} {n : Nat} (s : Step true F0 H0 L0 F H L) : Step true F0 H0 L0 F H (fun i => if i < n ∧ i ∉ A then L i else []) := by
  refine ⟨s.f, s.h, s.g, fun i q hq => ?_, fun z => by cases z⟩
  have hq : q ∈ (if i < n ∧ i ∉ A then L i else []) := hq
  split at hq
  · exact s.l i q hq
  · cases hq
/-- the promise of a def from its body's reading -/
theorem body_read {n f : Nat} (hT : T.fn f = some d) (hN : N.length = d.ns) (hle : d.np ≤ d.ns) (h : spF c (callN T (n + 1)) f d.np vs H Q E) : tSs c T (callN T n) .no (fun cls dd _ H => E cls dd H) d.body { nx := fun _ H' => Q .non H', rt := Q } (_root_.L2.start N vs) H := by
  obtain ⟨F, L, os, h1, h2, R, h⟩ := h
  have hl : os.length = vs.length := by rw [h1, h2]
  have R1 := R.entered (N := N) hN hl (by rw [h1]; exact hle)
  refine ⟨F, L, _, R1, ?_⟩
  simp only [callN, hT] at h
  rw [if_pos (by simp [h2])] at h
  have he : os.map some ++ List.replicate (d.ns - d.np) none = entry os d.ns vs.length := by rw [h1]; rfl
  rw [he] at h
  have ln : ∀ {F' H' : Hp} {L' : Ft} {σ : _root_.L2.St} {v : Env}, Rel c .no F' H' L' σ v → Keep d.body.sl (_root_.L2.start N vs) σ → True := fun _ _ => trivial
  show okF c .no F H L _ d.body.sl (exss T (callN T n) none d.body (entry os d.ns vs.length)) _ _
  rw [← h1] at h
  cases hr : exss T (callN T n) none d.body (entry os d.ns vs.length) with
  | next v1 =>
    rw [hr] at h
    intro F' H' L' σ' R' s k
    exact h F' H' _ .non [] (R'.end_ k) s.end_ ⟨rfl, rfl⟩ Free.nil New.nil
  | ret o v1 =>
    rw [hr] at h
    intro F' H' L' σ' u B R' s k ow fr nw
    exact h F' H' _ u B (R'.end_ k) s.end_ ow ⟨fr.nd, fr.f, fun i p hp hi => by
        have hi : p ∈ (if i < vs.length ∧ i ∉ d.body.sl then L' i else []) := hi
        split at hi
        · exact fr.l i p hp hi
        · cases hi⟩ nw
  | exc x v1 =>
    rw [hr] at h
    intro F' H' L' σ' cls dd R' s k rx
    exact h F' H' _ cls dd (R'.end_ k) s.end_ rx
  | brk v1 => rw [hr] at h; exact h.elim
  | cont v1 => rw [hr] at h; exact h.elim
  | bad => rw [hr] at h; exact h.elim
end
end Pv

set_option Elab.async false
set_option linter.all false
set_option maxRecDepth 100000
/-! PwG: all defs keep their promises. -/
namespace Pv
open PySem PySem.Spec PyProof.Rows L2

/-- a def of the text: what is looked at -/
def DefOk (c : Cfg) (J : Info) (A : Ad) (f : Nat) (d : Def) : Prop :=
  ∃ (name qual : Str) (params : Arguments) (body : List Stmt) (scope : Scope) (dV kV doc pm cdv ct oc : Value) (an od : Option Addr) (osl : Array (Option Value)) (N : List Str),
    A.fd f = PySem.W.fnOf name qual params body scope dV kV doc pm an cdv ct ∧ c.K.lookup (A.fa f) = some ⟨oc, od, .func (PySem.W.fnOf name qual params body scope dV kV doc pm an cdv ct), osl⟩ ∧ PySem.W.codeIn c.K cdv qual = true ∧ FnScope N (A.ps f) scope ∧
    chkSL J [] false scope N d.body body = true ∧ N.length = d.ns ∧ (A.ps f).length = d.np ∧ d.np ≤ d.ns
/-- what may be called, as the top has it -/
structure Fs (c : Cfg) (J : Info) (T : Tbl) (A : Ad) (mg : Str → Option Value) (Pr : Program) : Prop where
  rz : ∀ k ∈ J.rk, mg (J.cnm k) = some (.ref (c.ca k)) ∧ ∀ (w : World) (base : Heap) (CX : CXT), Rz c T Pr w mg base CX k
  ok : ∀ f d, T.fn f = some d → DefOk c J A f d
  bd : ∀ f d, T.fn f = some d → f ∈ J.fp → Binds c.K (A.fd f) (A.ps f) []
  kp : ∀ f d, T.fn f = some d → PySem.W.keepIn c.K (.ref (A.fa f)) = true
  gl : ∀ f ∈ J.fg, (∃ d, T.fn f = some d) ∧ mg (J.fnm f) = some (.ref (A.fa f))
  mth : ∀ k m f, (T.ini k).isSome = true → T.mth k m = some f → Meth c.K (c.ca k) (c.an m) (A.fa f) ∧ f ∈ J.fp ∧ ∃ d, T.fn f = some d
  ini : ∀ k f, T.ini k = some f → Mk c.K (c.ca k) (A.fa f) ∧ ∃ d, T.fn f = some d
  kpi : ∀ k ∈ J.kp, (T.ini k).isSome = true
  inp : ∀ k f, T.ini k = some f → k ∈ J.kp → f ∈ J.fp
  prp : ∀ k f g, (T.ini k).isSome = true → T.att k f = .prop g → PropOf c.K (c.ca k) (c.an f) (A.pa k f) (A.fa g) ∧ g ∈ J.fp
  kbf : ∀ q ∈ J.kf, ∃ g gV, KBn c.K (A.fd q.1) (A.ps q.1) q.2.1 q.2.2.1 g gV ∧ ∀ vs zs : List V, vs.length = q.2.1 → zs.length = q.2.2.1.length → permV (vs ++ zs) q.2.2.2 = some (gV vs zs)
  kbc : ∀ q ∈ J.kc, (T.ini q.1).isSome = true ∧ ∀ f, T.ini q.1 = some f → ∃ g gV, KBn c.K (A.fd f) (A.ps f) (q.2.1 + 1) q.2.2.1 g gV ∧ ∀ (u : V) (vs zs : List V), vs.length = q.2.1 → zs.length = q.2.2.1.length → ∃ r, permV (vs ++ zs) q.2.2.2 = some r ∧ gV (u :: vs) zs = u :: r
section
variable {c : Cfg} {J : Info} {T : Tbl} {A : Ad} {mg : Str → Option Value} {Pr : Program} {w : World} {base : Heap}
theorem callN_lv {n f : Nat} {os : List O} (h : callN T n f os ≠ .bad) : ∃ d, T.fn f = some d ∧ os.length = d.np := by
  cases n with
  | zero => exact absurd rfl h
  | succ n =>
    simp only [callN] at h
    cases hT : T.fn f with
    | none => rw [hT] at h; exact absurd rfl h
    | some d =>
      rw [hT] at h
      refine ⟨d, rfl, ?_⟩
      by_cases hl : os.length = d.np
      · exact hl
      · simp [hl] at h
theorem fns_ok (fs : Fs c J T A mg Pr) (wd : Wd c J T mg) (we : We c J T mg) : ∀ (n f : Nat) (d : Def), T.fn f = some d → FnOk Pr w c.K mg base (L2.CX Pr w) (2 * n + 1) (A.fa f) (A.fd f) (A.ps f) (spF c (callN T n) f d.np)
  | 0, f, d, hT => by
    refine ⟨fun vs H Q E h => ?_, fun A outer s H args us vs Q E hr e0 hb r h => ?_⟩
    · obtain ⟨_, _, _, _, _, _, h⟩ := h
      exact h.elim
    · obtain ⟨_, _, _, _, _, _, h⟩ := h
      exact h.elim
  | n + 1, f, d, hT => by
    obtain ⟨name, qual, params, body, scope, dV, kV, doc, pm, cdv, ct, oc, an, od, osl, N, e1, lk, hcd, S, hchk, hN, hps, hle⟩ := fs.ok f d hT
    have ih := fns_ok fs wd we n
    rw [e1]
    refine fn_of (k := 2 * n + 2) lk hcd S (fun vs H Q E h => by rw [spF_len h, hps]) fun Ar outer s H vs Q E hr h => ⟨_, ?_, body_read hT hN hle h⟩
    have fx : Fx c J T (callN T n) A (cxOf (L2.CX Pr w) Pr w c.K mg base N qual scope (A.fa f) cdv Ar outer s H E) :=
      ⟨⟨2 * n + 1, hr, ih⟩, hr.mono (by omega), fun k hk => ⟨(fs.rz k hk).1, (fs.rz k hk).2 w base _⟩, fun f os h => callN_lv h, fs.bd, fs.kp, fs.gl, fs.mth, fs.ini, fs.kpi, fs.inp, fs.prp, fs.kbf, fs.kbc⟩
    have gd : Gd c J T (callN T n) A false (cxOf (L2.CX Pr w) Pr w c.K mg base N qual scope (A.fa f) cdv Ar outer s H E) scope N :=
      ⟨rfl, rfl, fun _ => fx, wd, rfl, fun _ => rfl, hr.units, S.nd⟩
    have gs : Gs c J T (callN T n) A false (cxOf (L2.CX Pr w) Pr w c.K mg base N qual scope (A.fa f) cdv Ar outer s H E) scope N :=
      ⟨gd, we, rfl, S.kind, fun _ => passes_of rfl, fun _ => rfl, fun _ => rfl⟩
    exact chkSL_ok d.body body (xf := []) ⟨gs, rfl, fun _ => rfl, XaOk.no, takes_of rfl rfl rfl rfl⟩ hchk
end
end Pv

set_option Elab.async false
set_option linter.all false
set_option maxRecDepth 100000
/-! PwO: a law's tables; what the top has left, read off a part of the heap by one Bool. -/
namespace Pv
open PySem PySem.Spec PyProof.Rows L2

theorem look2_mem {α : Type} {k m : Nat} {x : α} : ∀ {l : List (Nat × Nat × α)}, look2 l k m = some x → (k, m, x) ∈ l
  | [], h => by cases h
  | (a, b, y) :: r, h => by
    unfold look2 at h
    split at h
    · rename_i g
      simp only [Bool.and_eq_true, beq_iff_eq] at g
      obtain ⟨rfl, rfl⟩ := g
      cases h
      exact List.mem_cons_self
    · exact List.mem_cons_of_mem _ (look2_mem h)
theorem look_mem {α β : Type} [BEq α] [LawfulBEq α] {k : α} {x : β} : ∀ {l : List (α × β)}, l.lookup k = some x → (k, x) ∈ l
  | [], h => by cases h
  | (a, y) :: r, h => by
    rw [List.lookup_cons] at h
    split at h
    · rename_i g
      cases h
      rw [eq_of_beq g]
      exact List.mem_cons_self
    · exact List.mem_cons_of_mem _ (look_mem h)
/-- where a def stands: a name; a class and its method; .. its property -/
abbrev Loc := Str × Option Str × Bool
/-- a def of the text -/
structure Dd where
  id : Nat
  loc : Loc
  name : Str
  qual : Str
  st : Stmt
  ps : List Str
  N : List Str
  dfl : List D
  kwd : List (Str × D)
/-- an exception's __init__: of class k, written in the class dcl -/
structure Xd where
  k : Nat
  dcl : Str
  qual : Str
  st : Stmt
  N : List Str
  me : Str
structure LD where
  t : LT
  defs : List Dd
  xds : List Xd
  cl : List (Nat × Str)
  an : List (Nat × Str)
  cst : List (Str × D)
  ks : List Nat
  xs : List Nat
  fg : List Nat
  fp : List Nat
  kp : List Nat
  kf : List (Nat × Nat × List Str × List Pm)
  kc : List (Nat × Nat × List Str × List Pm)
def LD.def? (l : LD) (f : Nat) : Option Dd := l.defs.find? fun d => d.id == f
def LD.loc (l : LD) (f : Nat) : Loc := match l.def? f with
  | some d => d.loc
  | none => ("", none, false)
def LD.cnm (l : LD) (k : Nat) : Str := (l.cl.lookup k).getD ""
def LD.anm (l : LD) (k : Nat) : Str := (l.an.lookup k).getD ⟨Array.replicate (k + 100) default⟩
def LD.J (l : LD) : Info where
  fnm := fun f => (l.loc f).1
  cnm := l.cnm
  anm := l.anm
  cst := l.cst
  ks := l.ks
  xs := l.xs
  rk := l.xds.map (·.k)
  fg := l.fg
  fp := l.fp
  kp := l.kp
  kf := l.kf
  kc := l.kc
/-- the attributes' names differ -/
def anB (an : List (Nat × Str)) : Bool := (an.all fun p => decide (p.2.length < 100)) && an.all fun p => an.all fun q => !(p.2 == q.2) || p.1 == q.1
theorem anm_inj {l : LD} (h : anB l.an = true) : ∀ i j, l.anm i = l.anm j → i = j := by
  obtain ⟨h1, h2⟩ := He.ba h
  have sh : ∀ {i : Nat} {x : Str}, l.an.lookup i = some x → x.length < 100 := fun q => of_decide_eq_true (List.all_eq_true.mp h1 _ (look_mem q))
  have lg : ∀ i : Nat, (⟨Array.replicate (i + 100) default⟩ : Str).length = i + 100 := fun i => by
    show (Array.replicate (i + 100) _).size = _
    simp
  intro i j e
  unfold LD.anm at e
  cases q1 : l.an.lookup i with
  | none =>
    cases q2 : l.an.lookup j with
    | none =>
      rw [q1, q2] at e
      have := congrArg Str.length e
      simp only [Option.getD_none] at this
      rw [lg, lg] at this
      omega
    | some y =>
      rw [q1, q2] at e
      have := congrArg Str.length e
      simp only [Option.getD_none, Option.getD_some] at this
      rw [lg] at this
      have := sh q2
      omega
  | some x =>
    cases q2 : l.an.lookup j with
    | none =>
      rw [q1, q2] at e
      have := congrArg Str.length e
      simp only [Option.getD_none, Option.getD_some] at this
      rw [lg] at this
      have := sh q1
      omega
    | some y =>
      rw [q1, q2] at e
      simp only [Option.getD_some] at e
      subst e
      have := List.all_eq_true.mp (List.all_eq_true.mp h2 _ (look_mem q1)) _ (look_mem q2)
      simpa using this
section
variable (K : PySem.W.Frag)
/-- a property's getter -/
def prG (p : Addr) : Addr := match PySem.W.recIn K p "property" with
  | some (.ref g :: _) => g
  | _ => 0
def lAd (l : Loc) : Addr := match l.2.1 with
  | none => He.ga K l.1
  | some m => if l.2.2 then prG K (He.ma K (He.ga K l.1) m) else He.ma K (He.ga K l.1) m
def fdAt (a : Addr) : FuncData := match K.lookup a with
  | some ⟨_, _, .func fd, _⟩ => fd
  | _ => PySem.W.fnOf "" "" ⟨[], [], none, [], [], none, []⟩ [] ⟨.function, [], false, false, []⟩ .none .none .none .none none .none .none
end
def LD.cfg (l : LD) (K : PySem.W.Frag) (h : anB l.an = true) : Cfg := ⟨K, fun k => He.ga K (l.cnm k), l.anm, anm_inj h⟩
def LD.fa (l : LD) (K : PySem.W.Frag) (f : Nat) : Addr := lAd K (l.loc f)
def LD.ad (l : LD) (K : PySem.W.Frag) : Ad where
  fa := l.fa K
  fd := fun f => fdAt K (l.fa K f)
  ps := fun f => match l.def? f with
    | some d => d.ps
    | none => []
  pa := fun k f => He.ma K (He.ga K (l.cnm k)) (l.anm f)
abbrev FnO : Type := Option (Str × Str × Arguments × FuncBody × Scope × Addr × List Str × Addr)
def fnO (K : PySem.W.Frag) (a : Addr) : FnO := match K.lookup a with
  | some ⟨_, _, .func fd, _⟩ => some (fd.name, fd.qualname, fd.params, fd.body, fd.scope, fd.globals, fd.closure.map (·.1), fd.builtins)
  | _ => none
def Dd.val (d : Dd) : FnO := some (d.name, d.qual, defArgs d.st, .stmts (defBody d.st), defScope d.st, mainGlobals, [], builtinsNs)
def Dd.dvs (d : Dd) : List V := d.dfl.map fv
def Dd.kws (d : Dd) : List (Str × V) := d.kwd.map fun q => (q.1, fv q.2)
def Dd.ok (K : PySem.W.Frag) (d : Dd) : Bool := PySem.W.keepIn K (.ref (lAd K d.loc)) && (match K.lookup (lAd K d.loc) with
  | some ⟨_, _, .func fd, _⟩ => PySem.W.codeIn K fd.code d.qual && (He.dflB K fd.defaults d.dvs && He.kwdB K fd.kwdefaults d.kws)
  | _ => false)
abbrev Dd.F (d : Dd) (K : PySem.W.Frag) (a : Addr) (fd : FuncData) : Prop := FunD K d.name d.qual (defArgs d.st) (defBody d.st) (defScope d.st) d.dvs d.kws a fd
theorem Dd.funD {K : PySem.W.Frag} {d : Dd} (e : fnO K (lAd K d.loc) = d.val) (c : d.ok K = true) : d.F K (lAd K d.loc) (fdAt K (lAd K d.loc)) := by
  obtain ⟨kp, c2⟩ := He.ba c
  unfold fnO at e
  unfold fdAt
  cases q : K.lookup (lAd K d.loc) with
  | none =>
    rw [q] at c2
    cases c2
  | some o =>
    obtain ⟨oc, od, dt, osl⟩ := o
    rw [q] at c2 e
    cases dt with
    | func fd =>
      obtain ⟨n1, n2, n3, n4, n5, n6, n7, n8, n9, n10, n11, n12, n13, n14, n15⟩ := fd
      have e2 : (some (n1, n2, n3, n4, n5, n6, n7.map (·.1), n15) : FnO) = some (d.name, d.qual, defArgs d.st, .stmts (defBody d.st), defScope d.st, mainGlobals, [], builtinsNs) := e
      simp only [Option.some.injEq, Prod.mk.injEq] at e2
      obtain ⟨h1, h2, h3, h4, h5, h6, h7, h8⟩ := e2
      have h7 : n7 = [] := by simpa using h7
      subst h1 h2 h3 h4 h5 h6 h7 h8
      have c3 : (PySem.W.codeIn K n13 d.qual && (He.dflB K n8 d.dvs && He.kwdB K n9 d.kws)) = true := c2
      obtain ⟨k1, k2⟩ := He.ba c3
      obtain ⟨k3, k4⟩ := He.ba k2
      exact ⟨⟨oc, od, n8, n9, n10, n11, n12, n13, n14, osl, rfl, q, k1, He.dflB_ok k3, He.kwdB_ok k4⟩, kp⟩
    | _ => cases c2
def Xd.val (d : Xd) : FnO := some ("__init__", d.qual, defArgs d.st, .stmts (defBody d.st), defScope d.st, mainGlobals, ["__class__"], builtinsNs)
/-! ### scopes -/
def fnScB (N P : List Str) (sc : Scope) : Bool := (sc.kind == .function) && ((!sc.isCoroutine && !sc.isGenerator) && (decide N.Nodup && (decide (N.take P.length = P) && ((P.all fun x => sc.names.lookup x == some .local || sc.names.lookup x == some .cell) && sc.names.all fun y => y.2 != .free))))
theorem fnSc_ok {N P : List Str} {sc : Scope} (h : fnScB N P sc = true) : FnScope N P sc := by
  unfold fnScB at h
  simp only [Bool.and_eq_true, decide_eq_true_eq, Bool.not_eq_true', List.all_eq_true, Bool.or_eq_true, beq_iff_eq, bne_iff_ne] at h
  obtain ⟨h1, ⟨h2, h3⟩, h4, h5, h6, h7⟩ := h
  exact ⟨h1, h2, h3, h4, h5, h6, h7⟩
def supScB (N : List Str) (sc : Scope) : Bool := (sc.kind == .function) && ((!sc.isCoroutine && !sc.isGenerator) && (decide N.Nodup && ((N.all fun x => sc.names.lookup x == some .local) && sc.names.all fun y => y.2 != .cell && (y.2 != .free || y.1 == ("__class__" : Str)))))
theorem supSc_ok {N : List Str} {sc : Scope} (h : supScB N sc = true) : SupScope N N sc := by
  unfold supScB at h
  simp only [Bool.and_eq_true, decide_eq_true_eq, Bool.not_eq_true', List.all_eq_true, Bool.or_eq_true, beq_iff_eq, bne_iff_ne] at h
  obtain ⟨h1, ⟨h2, h3⟩, h4, h6, h7⟩ := h
  exact ⟨h1, h2, h3, h4, rfl, h6, fun y hy => (h7 y hy).1, fun y hy z => (h7 y hy).2.resolve_left fun w => w z⟩
/-! ### an exception class -/
def oexB (K : PySem.W.Frag) (C : Addr) : Bool := (match K.lookup C with
  | some ⟨.type "type", _, .cls cd, sl⟩ => (match cd.mro, sl.toList with
    | .ref C' :: bm, [_, _, _, _, some (.builtin n), _] => C' == C && (n == "ValueError.__new__" && (!cd.hasDel && (cd.hasDict && PySem.HandSPX.refsVE bm)))
    | _, _ => false)
  | _ => false) && (decide (PySem.W.findIn K (.ref C) "__setattr__" = some (some (.builtin "object.__setattr__"))) && (decide (PySem.W.subIn K (.ref C) (.type "BaseException") = some true) && (decide (PySem.W.typeIn K (.ref C) = some (.type "type")) && PySem.W.keepIn K (.ref C))))
theorem oex_ok {K : PySem.W.Frag} {C : Addr} (h : oexB K C = true) : OexC K C := by
  obtain ⟨q, h⟩ := He.ba h
  obtain ⟨h1, h⟩ := He.ba h
  obtain ⟨h2, h⟩ := He.ba h
  obtain ⟨h3, h4⟩ := He.ba h
  refine ⟨?_, of_decide_eq_true h1, of_decide_eq_true h2, of_decide_eq_true h3, h4⟩
  split at q
  · rename_i dd cd sl ho
    split at q
    · rename_i C' bm k0 k1 k2 k3 n k5 hm hs
      simp only [Bool.and_eq_true, beq_iff_eq, Bool.not_eq_true'] at q
      obtain ⟨rfl, rfl, hdel, hdc, hr⟩ := q
      obtain ⟨nm, bs, mro, ns, qn, hd, sn, sub, ab, col, del⟩ := cd
      dsimp only at hm hdel hdc hr
      subst hm hdel hdc
      have hsl : sl = #[k0, k1, k2, k3, some (.builtin "ValueError.__new__"), k5] := by
        obtain ⟨l⟩ := sl
        simp only at hs
        rw [hs]
      subst hsl
      exact ⟨nm, qn, ns, bs, bm, sn, sub, ab, col, dd, k0, k1, k2, k3, k5, ho, hr⟩
    · cases q
  · cases q
def supIB (K : PySem.W.Frag) (C D : Addr) : Bool := oexB K C && (decide (PySem.W.mroIn K C (.ref D) = some true) && (decide (PySem.W.ks_superIn K C D "__init__" = some (some (.builtin "ValueError.__init__"))) && decide (PySem.W.subIn K (.ref C) (.type "ValueError") = some true)))
theorem supI_ok {K : PySem.W.Frag} {C D : Addr} (h : supIB K C D = true) : SupI K C D := by
  obtain ⟨q, h⟩ := He.ba h
  obtain ⟨h1, h⟩ := He.ba h
  obtain ⟨h2, h3⟩ := He.ba h
  exact ⟨oex_ok q, of_decide_eq_true h1, of_decide_eq_true h2, of_decide_eq_true h3⟩
end Pv

set_option Elab.async false
set_option linter.all false
set_option maxRecDepth 100000
/-! PwP: .. what the Bools say. -/
namespace Pv
open PySem PySem.Spec PyProof.Rows L2

section
variable (K : PySem.W.Frag) (l : LD)
def gloB (x : Str) : Bool := decide (PySem.W.nsIn K mainGlobals x = some (some (.ref (He.ga K x))))
def clsB (C : Addr) : Bool := PySem.W.plainGet K C Str.empty && (PySem.W.hasDictIn K C && (PySem.W.plainOver K C && decide (PySem.W.findIn K (.ref C) "__setattr__" = some (some (.builtin "object.__setattr__")))))
def mkB (C f : Addr) : Bool := PySem.W.makesIn K C && (decide (PySem.W.findIn K (.ref C) "__init__" = some (some (.ref f))) && (PySem.W.isFn K (.ref f) && PySem.W.keepIn K (.ref C)))
def methB (C : Addr) (m : Str) (f : Addr) : Bool := decide (PySem.W.findIn K (.ref C) m = some (some (.ref f))) && (PySem.W.isFn K (.ref f) && PySem.W.keepIn K (.ref f))
def propB (C : Addr) (f : Str) (p g : Addr) : Bool := decide (PySem.W.findIn K (.ref C) f = some (some (.ref p))) && (decide (PySem.W.specialIn K (.ref p) "__get__" = some (some (.builtin "property.__get__"))) && (decide (PySem.W.takesIn K (.ref p) = some true) && (match PySem.W.recIn K p "property" with
  | some (.ref g' :: _) => g' == g
  | _ => false)))
def conKB (C : Addr) (f : Str) (d : D) : Bool := d.flat && (!(PySem.W.copiedNames.contains f) && (match PySem.W.findIn K (.ref C) f with
  | some (some u) => He.relB (fv d) u && decide (PySem.W.specialIn K u "__get__" = some none)
  | _ => false))
def attB (q : Nat × Nat × Ak) : Bool := match q.2.2 with
  | .no => true
  | .fld => decide (PySem.W.findIn K (.ref (He.ga K (l.cnm q.1))) (l.anm q.2.1) = some none)
  | .prop g => propB K (He.ga K (l.cnm q.1)) (l.anm q.2.1) (He.ma K (He.ga K (l.cnm q.1)) (l.anm q.2.1)) (l.fa K g)
  | .con d => conKB K (He.ga K (l.cnm q.1)) (l.anm q.2.1) d
/-- the class is one of plain objects -/
def insB (k : Nat) : Bool := clsB K (He.ga K (l.cnm k)) && ((["int", "bool", "str", "list", "tuple"] : List String).all (fun t => decide (PySem.W.kitOne K (.ref (He.ga K (l.cnm k))) (.type t) = some false)) && ((l.ks.all fun k2 => decide (PySem.W.kitOne K (.ref (He.ga K (l.cnm k))) (.ref (He.ga K (l.cnm k2))) = some (l.t.T.sup k k2))) &&
  (decide (PySem.W.findIn K (.ref (He.ga K (l.cnm k))) "__class__" = some (some (.builtin "object.__class__"))) && decide (PySem.W.mroIn K (He.ga K (l.cnm k)) (.type "object") = some true))))
def tyB : Bool := decide (PySem.W.specialIn K (.builtin "object.__class__") "__get__" = some (some (.builtin "getset_descriptor.__get__"))) && decide (PySem.W.takesIn K (.builtin "object.__class__") = some true)
def wdB : Bool := (freeNames.all fun x => decide (PySem.W.nsIn K mainGlobals x = some none)) && ((l.cst.all fun q => match PySem.W.nsIn K mainGlobals q.1 with
    | some (some u) => He.relB (fv q.2) u
    | _ => false) && ((l.ks.all fun k => gloB K (l.cnm k)) && ((l.t.inis.all fun q => insB K l q.1) && ((l.t.atts.all fun q => attB K l q) && (tyB K && l.ks.all fun k => (["NoneType", "bool", "int", "str", "tuple", "list"] : List String).all fun t => decide (PySem.W.kitOne K (.type t) (.ref (He.ga K (l.cnm k))) = some false))))))
def weB : Bool := (l.xs.all fun k => gloB K (l.cnm k) && l.t.T.exc k) && ((l.t.exc.all fun i => l.t.exc.all fun j => decide (PySem.W.exmOne K (.ref (He.ga K (l.cnm i))) (.ref (He.ga K (l.cnm j))) = some (l.t.T.sup i j))) && ((l.t.exc.all fun i => xfB K (He.ga K (l.cnm i))) && l.t.exf.all fun q => q.2.all fun f => decide (PySem.W.findIn K (.ref (He.ga K (l.cnm q.1))) (l.anm f) = some none)))
def fgB (f : Nat) : Bool := (l.t.T.fn f).isSome && ((l.def? f).isSome && ((l.loc f).2.1.isNone && gloB K (l.loc f).1))
def mthB (q : Nat × Nat × Nat) : Bool := methB K (He.ga K (l.cnm q.1)) (l.anm q.2.1) (l.fa K q.2.2) && (l.fp.contains q.2.2 && (l.t.T.fn q.2.2).isSome)
def iniB (q : Nat × Nat) : Bool := mkB K (He.ga K (l.cnm q.1)) (l.fa K q.2) && ((l.t.T.fn q.2).isSome && (!l.kp.contains q.1 || l.fp.contains q.2))
/-- the cell __class__ -/
def cellB (cl : List (Str × Addr)) (D : Addr) : Bool := match cl with
  | [p] => (match K.lookup p.2 with
    | some ⟨_, _, .cell (some (.ref a)), _⟩ => a == D
    | _ => false)
  | _ => false
/-- the code's file -/
def codB (cd : Value) (main : Str) : Bool := match cd with
  | .ref cda => (match K.lookup cda with
    | some ⟨_, _, .fields vs, _⟩ => (match vs[2]? with
      | some (Value.str file _) => main == file
      | _ => false)
    | _ => false)
  | _ => false
theorem cellB_ok {K : PySem.W.Frag} {cl : List (Str × Addr)} {D : Addr} (h : cellB K cl D = true) : ∃ x cc ocl odl osl, cl = [(x, cc)] ∧ K.lookup cc = some ⟨ocl, odl, .cell (some (.ref D)), osl⟩ := by
  unfold cellB at h
  split at h
  · rename_i p
    split at h
    · rename_i ocl odl a osl e
      rw [eq_of_beq h] at e
      exact ⟨p.1, p.2, ocl, odl, osl, rfl, e⟩
    · cases h
  · cases h
theorem codB_ok {K : PySem.W.Frag} {cd : Value} {main : Str} (h : codB K cd main = true) : ∃ cda ccl cdd vs ccs file tf, cd = .ref cda ∧ K.lookup cda = some ⟨ccl, cdd, .fields vs, ccs⟩ ∧ vs[2]? = some (.str file tf) ∧ (main == file) = true := by
  unfold codB at h
  split at h
  · rename_i cda
    split at h
    · rename_i ccl cdd vs ccs e
      split at h
      · rename_i file tf e2
        exact ⟨_, _, _, _, _, _, _, rfl, e, e2, h⟩
      · cases h
    · cases h
  · cases h
/-- an exception that is raised -/
def xdB (main : Str) (d : Xd) : Bool := gloB K (l.cnm d.k) && (supIB K (He.ga K (l.cnm d.k)) (He.ga K d.dcl) && ((PySem.W.clsIn K (He.ga K d.dcl)).isSome && (decide (PySem.W.nsIn K PySem.cStatics "thirdparty.any" = some none) && (decide (PySem.W.findIn K (.ref (He.ga K (l.cnm d.k))) "__init__" = some (some (.ref (He.ma K (He.ga K (l.cnm d.k)) "__init__")))) &&
  (decide (PySem.W.typeIn K (.ref (He.ma K (He.ga K (l.cnm d.k)) "__init__")) = some (.type "function")) && ((l.t.T.exf d.k).all fun f => decide (PySem.W.findIn K (.ref (He.ga K (l.cnm d.k))) (l.anm f) = some none)) && (match K.lookup (He.ma K (He.ga K (l.cnm d.k)) "__init__") with
  | some ⟨_, _, .func fd, _⟩ => He.dflB K fd.defaults [] && (PySem.W.codeIn K fd.code d.qual && (cellB K fd.closure (He.ga K d.dcl) && codB K fd.code main))
  | _ => false))))))
def fsB (main : Str) : Bool := (l.defs.all fun d => d.ok K) && ((l.fg.all fun f => fgB K l f) && ((l.t.mths.all fun q => mthB K l q) && ((l.t.inis.all fun q => iniB K l q) && l.xds.all fun d => xdB K l main d)))
def allB (main : Str) : Bool := wdB K l && (weB K l && (fsB K l main && decide (PySem.W.nsIn K mainGlobals "super" = some none)))
end
/-- what is looked at of the heap -/
abbrev AlP : Type := Bool × (List FnO × List FnO)
def obsP (main : Str) (l : LD) (K : PySem.W.Frag) : AlP := (allB K l main, l.defs.map (fun d => fnO K (lAd K d.loc)), l.xds.map fun d => fnO K (He.ma K (He.ga K (l.cnm d.k)) "__init__"))
def valP (l : LD) : AlP := (true, l.defs.map Dd.val, l.xds.map Xd.val)
def reach (g : Addr → Option Obj) : Nat → List Addr
  | 0 => [mainGlobals, PySem.cStatics]
  | n + 1 => He.growD g (reach g n)
def obsPG (n : Nat) (main : Str) (l : LD) (g : Addr → Option Obj) : AlP := obsP main l (He.frG g (reach g n))
def hookP (n : Nat) (main : Str) (l : LD) : PySem.W.Hook where
  α := AlP
  obs := fun s => obsPG n main l s.heap.get?
  val := fun _ => valP l
  says := fun _ h => ∃ K : PySem.W.Frag, K.In h ∧ obsP main l K = valP l
  of := fun _ _ e => ⟨_, He.frG_in, e⟩
  keeps := fun _ _ _ ⟨K, hK, c⟩ k => ⟨K, PySem.W.Frag.In.keeps hK k, c⟩
theorem obsPG_eq {n : Nat} {main : Str} {l : LD} {g : Addr → Option Obj} {s : Shared} (h : ∀ a, g a = s.heap.get? a) : obsPG n main l g = (hookP n main l).obs s := by
  have e : g = s.heap.get? := funext h
  rw [e] <;> rfl
/-! ### the look at the text -/
section
variable (l : LD)
def defB (p : Nat × Def) : Bool := match l.def? p.1 with
  | some d => fnScB d.N d.ps (defScope d.st) && (chkSL l.J [] false (defScope d.st) d.N p.2.body (defBody d.st) && (d.N.length == p.2.ns && (d.ps.length == p.2.np && decide (p.2.np ≤ p.2.ns))))
  | none => false
def xdsB (d : Xd) : Bool := supScB d.N (defScope d.st) && (d.N[0]? == some d.me && (((defScope d.st).names.lookup ("super" : Str) == some .globalImplicit) && (((defScope d.st).names.lookup ("__class__" : Str) == some .free) && (d.N.length == (l.t.T.exf d.k).length + 1 && (initOk d.N ((l.t.T.exf d.k).map l.anm) (defBody d.st) && (match ((defArgs d.st).posonlyargs ++ (defArgs d.st).args).head? with
  | some ar => ar.arg == d.me
  | none => false))))))
def restB : Bool := (l.kp.all fun k => (l.t.T.ini k).isSome) && ((l.t.atts.all fun q => match q.2.2 with
  | .prop g => l.fp.contains g
  | _ => true) && ((l.kc.all fun q => (l.t.T.ini q.1).isSome) && l.kf.all fun q => (l.t.T.fn q.1).isSome))
def stB : Bool := (l.t.fns.all fun p => defB l p) && ((l.xds.all fun d => xdsB l d) && restB l)
end
/-- arguments by place, bound -/
def BdD (l : LD) : Prop := ∀ d ∈ l.defs, d.id ∈ l.fp → ∀ (K : PySem.W.Frag) (a : Addr) (fd : FuncData), d.F K a fd → Binds K fd d.ps []
def BdX (l : LD) : Prop := ∀ d ∈ l.xds, ∀ (K : PySem.W.Frag) (a : Addr) (dV kV doc pm cdv ct : Value) (an : Option Addr) (cc : Addr), DflV K dV [] → Binds K (PySem.W.ksFn "__init__" d.qual (defArgs d.st) (defBody d.st) (defScope d.st) dV kV doc pm an cdv ct cc) d.N []
/-- with keywords -/
def BdF (l : LD) : Prop := ∀ q ∈ l.kf, ∀ (K : PySem.W.Frag) (a : Addr) (fd : FuncData), (∃ d, l.def? q.1 = some d ∧ d.F K a fd) → ∃ g gV, KBn K fd ((l.ad K).ps q.1) q.2.1 q.2.2.1 g gV ∧ ∀ vs zs : List V, vs.length = q.2.1 → zs.length = q.2.2.1.length → permV (vs ++ zs) q.2.2.2 = some (gV vs zs)
def BdC (l : LD) : Prop := ∀ q ∈ l.kc, ∀ f, l.t.T.ini q.1 = some f → ∀ (K : PySem.W.Frag) (a : Addr) (fd : FuncData), (∃ d, l.def? f = some d ∧ d.F K a fd) → ∃ g gV, KBn K fd ((l.ad K).ps f) (q.2.1 + 1) q.2.2.1 g gV ∧ ∀ (u : V) (vs zs : List V), vs.length = q.2.1 → zs.length = q.2.2.1.length → ∃ r, permV (vs ++ zs) q.2.2.2 = some r ∧ gV (u :: vs) zs = u :: r
end Pv

set_option Elab.async false
set_option linter.all false
set_option maxRecDepth 100000
/-! PwQ: the facts from the Bools. -/
namespace Pv
open PySem PySem.Spec PyProof.Rows L2

section
variable {K : PySem.W.Frag} {l : LD} {h : Heap} {mg : Str → Option Value} {main : Str}
theorem al {α : Type} {l : List α} {p : α → Bool} (h : l.all p = true) : ∀ x ∈ l, p x = true := List.all_eq_true.mp h
theorem ald {α : Type} {l : List α} {p : α → Prop} [∀ x, Decidable (p x)] (h : (l.all fun x => decide (p x)) = true) : ∀ x ∈ l, p x := fun x hx => of_decide_eq_true (List.all_eq_true.mp h x hx)
theorem deq {p : Prop} [Decidable p] (h : decide p = true) : p := of_decide_eq_true h
theorem glo_of (X : K.In h) (G : h.Ns mainGlobals mg) {x : Str} (c : gloB K x = true) : mg x = some (.ref (He.ga K x)) := PySem.W.mg_of X G (deq c)
theorem cls_of {C : Addr} (c : clsB K C = true) : Cls K C := by
  obtain ⟨c1, c⟩ := He.ba c
  obtain ⟨c2, c⟩ := He.ba c
  obtain ⟨c3, c4⟩ := He.ba c
  exact ⟨c1, c2, c3, deq c4⟩
theorem mk_of_ {C f : Addr} (c : mkB K C f = true) : Mk K C f := by
  obtain ⟨c1, c⟩ := He.ba c
  obtain ⟨c2, c⟩ := He.ba c
  obtain ⟨c3, c4⟩ := He.ba c
  exact ⟨c1, deq c2, c3, c4⟩
theorem meth_of {C f : Addr} {m : Str} (c : methB K C m f = true) : Meth K C m f := by
  obtain ⟨c1, c⟩ := He.ba c
  obtain ⟨c2, c3⟩ := He.ba c
  exact ⟨deq c1, c2, c3⟩
theorem prop_of {C p g : Addr} {f : Str} (c : propB K C f p g = true) : PropOf K C f p g := by
  obtain ⟨c1, c⟩ := He.ba c
  obtain ⟨c2, c⟩ := He.ba c
  obtain ⟨c3, c4⟩ := He.ba c
  refine ⟨deq c1, deq c2, deq c3, ?_⟩
  split at c4
  · rename_i g' r e
    rw [eq_of_beq c4] at e
    exact ⟨r, e⟩
  · cases c4
theorem con_of {C : Addr} {f : Str} {d : D} (c : conKB K C f d = true) : d.flat = true ∧ ∃ u, Con K C f (fv d) u := by
  obtain ⟨c1, c⟩ := He.ba c
  obtain ⟨c2, c3⟩ := He.ba c
  refine ⟨c1, ?_⟩
  split at c3
  · rename_i u e
    obtain ⟨c4, c5⟩ := He.ba c3
    exact ⟨u, e, He.relB_ok c4, deq c5, by simpa using c2⟩
  · cases c3
theorem ini_mem {k : Nat} (h : (l.t.T.ini k).isSome = true) : ∃ f, (k, f) ∈ l.t.inis := by
  obtain ⟨f, e⟩ := Option.isSome_iff_exists.mp h
  exact ⟨f, look_mem e⟩
theorem att_mem {k f : Nat} {a : Ak} (e : l.t.T.att k f = a) (ha : a ≠ .no) : (k, f, a) ∈ l.t.atts := by
  have e : (look2 l.t.atts k f).getD .no = a := e
  cases q : look2 l.t.atts k f with
  | none =>
    rw [q] at e
    exact absurd e.symm ha
  | some b =>
    rw [q] at e
    have e : b = a := e
    subst e
    exact look2_mem q
theorem ins_of {k : Nat} (hw : tyB K = true) (c : insB K l k = true) : (Cls K (He.ga K (l.cnm k)) ∧ ∀ (H : Hp) a dx vs, H a = some (.ins (He.ga K (l.cnm k)) dx vs) → TyX K H (.ref a) (.ref (He.ga K (l.cnm k)))) ∧
    (∀ t ∈ (["int", "bool", "str", "list", "tuple"] : List String), PySem.W.kitOne K (.ref (He.ga K (l.cnm k))) (.type t) = some false) ∧ ∀ k2 ∈ l.ks, PySem.W.kitOne K (.ref (He.ga K (l.cnm k))) (.ref (He.ga K (l.cnm k2))) = some (l.t.T.sup k k2) := by
  obtain ⟨c1, c⟩ := He.ba c
  obtain ⟨c2, c⟩ := He.ba c
  obtain ⟨c3, c⟩ := He.ba c
  obtain ⟨c4, c5⟩ := He.ba c
  obtain ⟨w1, w2⟩ := He.ba hw
  exact ⟨⟨cls_of c1, fun H a dx vs e => .base (.ins e (cls_of c1) (deq c4) (deq w1) (deq w2) (deq c5))⟩, fun t ht => ald c2 t ht, fun k2 hk => ald c3 k2 hk⟩
theorem wd_ok (hn : anB l.an = true) (X : K.In h) (G : h.Ns mainGlobals mg) (c : wdB K l = true) : Wd (l.cfg K hn) l.J l.t.T mg := by
  obtain ⟨c1, c⟩ := He.ba c
  obtain ⟨c2, c⟩ := He.ba c
  obtain ⟨c3, c⟩ := He.ba c
  obtain ⟨c4, c⟩ := He.ba c
  obtain ⟨c5, c⟩ := He.ba c
  obtain ⟨c6, c7⟩ := He.ba c
  have ib : ∀ {k : Nat}, (l.t.T.ini k).isSome = true → insB K l k = true := fun {k} hk => by
    obtain ⟨f, hf⟩ := ini_mem hk
    have z := al c4 (k, f) hf
    exact z
  have ins := fun {k : Nat} (hk : (l.t.T.ini k).isSome = true) => ins_of c6 (ib hk)
  refine ⟨rfl, fun x hx => PySem.W.mg_none_of X G (ald c1 x hx), fun q hq => ?_, fun k hk => ?_, fun k hk => (ins hk).1.1, fun k f hk ha => ?_, fun k f d hk ha => ?_, fun k hk => (ins hk).1.2, fun k hk => (ins hk).2.1, fun k hk t ht => ?_, fun k hk => (ins hk).2.2⟩
  · have := al c2 q hq
    split at this
    · rename_i u e
      exact ⟨u, PySem.W.mg_of X G e, He.relB_ok this⟩
    · cases this
  · have z : gloB K (l.cnm k) = true := al c3 k hk
    exact glo_of X G z
  · have z : attB K l (k, f, .fld) = true := al c5 _ (att_mem ha fun z => by cases z)
    have z2 := deq (p := PySem.W.findIn K (.ref (He.ga K (l.cnm k))) (l.anm f) = some none) z
    exact z2
  · have z : attB K l (k, f, .con d) = true := al c5 _ (att_mem ha fun z => by cases z)
    exact con_of z
  · have z := al c7 k hk
    exact ald z t ht
theorem we_ok (hn : anB l.an = true) (X : K.In h) (G : h.Ns mainGlobals mg) (c : weB K l = true) : We (l.cfg K hn) l.J l.t.T mg := by
  obtain ⟨c1, c⟩ := He.ba c
  obtain ⟨c2, c⟩ := He.ba c
  obtain ⟨c3, c4⟩ := He.ba c
  have mem : ∀ {i : Nat}, l.t.T.exc i = true → i ∈ l.t.exc := fun h => List.contains_iff_mem.mp h
  refine ⟨fun k hk => ?_, fun i j hi hj => ald (al c2 i (mem hi)) j (mem hj), fun i hi => xfB_ok (al c3 i (mem hi)), fun i f hi hf => ?_⟩
  · obtain ⟨q1, q2⟩ := He.ba (al c1 k hk)
    exact ⟨glo_of X G q1, q2⟩
  · have hf : f ∈ (l.t.exf.lookup i).getD [] := hf
    cases q : l.t.exf.lookup i with
    | none => rw [q] at hf; cases hf
    | some fs =>
      rw [q] at hf
      exact ald (al c4 _ (look_mem q)) f hf
theorem def_mem {f : Nat} {d : Dd} (e : l.def? f = some d) : d ∈ l.defs ∧ d.id = f := ⟨List.mem_of_find?_eq_some e, by have := List.find?_some e; simpa using this⟩
theorem map_at {α β : Type} {f g : α → β} : ∀ {l : List α}, l.map f = l.map g → ∀ x ∈ l, f x = g x
  | [], _, x, hx => by cases hx
  | a :: l, e, x, hx => by
    rw [List.map_cons, List.map_cons] at e
    injection e with e1 e2
    rcases List.mem_cons.mp hx with rfl | hx
    · exact e1
    · exact map_at e2 x hx
/-- an exception that is raised: its __init__ -/
theorem xd_ok {Pr : Program} (hn : anB l.an = true) (X : K.In h) (G : h.Ns mainGlobals mg) (hsup : Pr.main.scope.names.lookup ("super" : Str) = none) (hms : mg ("super" : Str) = none) (bx : BdX l) {d : Xd} (hd : d ∈ l.xds) (hs : xdsB l d = true) (c : xdB K l Pr.main.file d = true) (e : fnO K (He.ma K (He.ga K (l.cnm d.k)) "__init__") = d.val) :
    mg (l.cnm d.k) = some (.ref (He.ga K (l.cnm d.k))) ∧ ∀ (w : World) (base : Heap) (CX : CXT), Rz (l.cfg K hn) l.t.T Pr w mg base CX d.k := by
  obtain ⟨c0, c⟩ := He.ba c
  obtain ⟨c1, c⟩ := He.ba c
  obtain ⟨c2, c⟩ := He.ba c
  obtain ⟨c3, c⟩ := He.ba c
  obtain ⟨c4, c⟩ := He.ba c
  obtain ⟨c56, c7⟩ := He.ba c
  obtain ⟨c5, c6⟩ := He.ba c56
  obtain ⟨s1, s⟩ := He.ba hs
  obtain ⟨s2, s⟩ := He.ba s
  obtain ⟨s3, s⟩ := He.ba s
  obtain ⟨s4, s⟩ := He.ba s
  obtain ⟨s5, s⟩ := He.ba s
  obtain ⟨s6, s7⟩ := He.ba s
  refine ⟨glo_of X G c0, fun w base CX => ?_⟩
  unfold fnO at e
  cases q : K.lookup (He.ma K (He.ga K (l.cnm d.k)) "__init__") with
  | none => rw [q] at c7; cases c7
  | some o =>
    obtain ⟨oc, od, dt, osl⟩ := o
    rw [q] at c7 e
    cases dt with
    | func fd =>
      obtain ⟨n1, n2, n3, n4, n5, n6, n7, n8, n9, n10, n11, n12, n13, n14, n15⟩ := fd
      have e2 : (some (n1, n2, n3, n4, n5, n6, n7.map (·.1), n15) : FnO) = (some ("__init__", d.qual, defArgs d.st, .stmts (defBody d.st), defScope d.st, mainGlobals, ["__class__"], builtinsNs) : FnO) := e
      simp only [Option.some.injEq, Prod.mk.injEq] at e2
      obtain ⟨h1, h2, h3, h4, h5, h6, h7, h8⟩ := e2
      subst h1 h2 h3 h4 h5 h6 h8
      obtain ⟨k0, k⟩ := He.ba c7
      obtain ⟨k1, k⟩ := He.ba k
      obtain ⟨k2, k3⟩ := He.ba k
      obtain ⟨x, cc, ocl, odl, oslc, hcl, hcell⟩ := cellB_ok k2
      obtain ⟨cda, ccl, cdd, vs, ccs, file, tf, hcd, hcode, hvs, hfile⟩ := codB_ok k3
      have hcl : n7 = [(x, cc)] := hcl
      have hcd : n13 = .ref cda := hcd
      subst hcl hcd
      have h7 : [x] = [("__class__" : Str)] := h7
      injection h7 with h7 _
      subst h7
      have s7 : (match ((defArgs d.st).posonlyargs ++ (defArgs d.st).args).head? with
        | some ar => ar.arg == d.me
        | none => false) = true := s7
      cases har : ((defArgs d.st).posonlyargs ++ (defArgs d.st).args).head? with
      | none => rw [har] at s7; cases s7
      | some ar =>
        rw [har] at s7
        have dv := He.dflB_ok k0
        have SC : SupC Pr K (He.ma K (He.ga K (l.cnm d.k)) "__init__") cc cda (He.ga K d.dcl) d.me :=
          ⟨⟨oc, od, _, osl, ar, q, har, eq_of_beq s7⟩, ⟨ccl, cdd, vs, ccs, file, tf, hcode, hvs, hfile⟩, ⟨_, _, _, hcell⟩, Option.isSome_iff_exists.mp c2, by rw [hsup]; rfl, deq c3⟩
        refine ⟨He.ga K d.dcl, _, _, d.N, (supI_ok c1).oex, deq c4, deq c5, init_ok (k := 0) q k1 (supSc_ok s1) hcell SC hms (eq_of_beq s2) (eq_of_beq s3) (eq_of_beq s4) ?_ s6, bx d hd K (He.ma K (He.ga K (l.cnm d.k)) "__init__") _ _ _ _ _ _ _ _ dv, supI_ok c1, fun f hf => ald c6 f hf⟩
        rw [List.length_map]
        exact eq_of_beq s5
    | _ => cases c7
theorem fs_all {Pr : Program} (hn : anB l.an = true) (X : K.In h) (G : h.Ns mainGlobals mg) (hsup : Pr.main.scope.names.lookup ("super" : Str) = none) (hms : mg ("super" : Str) = none) (bd : BdD l) (bx : BdX l) (bf : BdF l) (bc : BdC l) (hs : stB l = true) (c : fsB K l Pr.main.file = true) (ha : (l.t.atts.all fun q => attB K l q) = true)
    (e1 : l.defs.map (fun d => fnO K (lAd K d.loc)) = l.defs.map Dd.val) (e2 : (l.xds.map fun d => fnO K (He.ma K (He.ga K (l.cnm d.k)) "__init__")) = l.xds.map Xd.val) : Fs (l.cfg K hn) l.J l.t.T (l.ad K) mg Pr := by
  obtain ⟨c1, c⟩ := He.ba c
  obtain ⟨c2, c⟩ := He.ba c
  obtain ⟨c3, c⟩ := He.ba c
  obtain ⟨c4, c5⟩ := He.ba c
  obtain ⟨s1, s⟩ := He.ba hs
  obtain ⟨s2, s⟩ := He.ba s
  obtain ⟨s3, s⟩ := He.ba s
  obtain ⟨s4, s⟩ := He.ba s
  obtain ⟨s5, s6⟩ := He.ba s
  have fn : ∀ {f : Nat} {d : Def}, l.t.T.fn f = some d → ∃ dd, l.def? f = some dd ∧ dd ∈ l.defs ∧ dd.id = f ∧ dd.F K (l.fa K f) (fdAt K (l.fa K f)) ∧ FnScope dd.N dd.ps (defScope dd.st) ∧ chkSL l.J [] false (defScope dd.st) dd.N d.body (defBody dd.st) = true ∧ dd.N.length = d.ns ∧ dd.ps.length = d.np ∧ d.np ≤ d.ns := fun {f d} hf => by
    have m := al s1 _ (look_mem hf)
    unfold defB at m
    split at m
    · rename_i dd hdd
      obtain ⟨m1, m⟩ := He.ba m
      obtain ⟨m2, m⟩ := He.ba m
      obtain ⟨m3, m⟩ := He.ba m
      obtain ⟨m4, m5⟩ := He.ba m
      obtain ⟨q1, q2⟩ := def_mem hdd
      have hl : l.fa K f = lAd K dd.loc := by
        unfold LD.fa LD.loc
        rw [hdd]
      exact ⟨dd, hdd, q1, q2, by rw [hl]; exact Dd.funD (map_at e1 dd q1) (al c1 dd q1), fnSc_ok m1, m2, eq_of_beq m3, eq_of_beq m4, of_decide_eq_true m5⟩
    · cases m
  have ps : ∀ {f : Nat} {dd : Dd}, l.def? f = some dd → (l.ad K).ps f = dd.ps := fun {f dd} hdd => by
    show (match l.def? f with
      | some d => d.ps
      | none => []) = _
    rw [hdd]
  refine ⟨fun k hk => ?_, fun f d hf => ?_, fun f d hf hp => ?_, fun f d hf => ?_, fun f hf => ?_, fun k m f hk hf => ?_, fun k f hf => ?_, fun k hk => al s3 k hk, fun k f hf hk => ?_, fun k f g hk hg => ?_, fun q hq => ?_, fun q hq => ?_⟩
  · obtain ⟨d, hd, rfl⟩ := List.mem_map.mp hk
    exact xd_ok hn X G hsup hms bx hd (al s2 d hd) (al c5 d hd) (map_at e2 d hd)
  · obtain ⟨dd, h1, h2, h3, F, h4, h5, h6, h7, h8⟩ := fn hf
    obtain ⟨oc, od, dV, kV, doc, pm, an, cdv, ct, osl, q1, q2, q3, _, _⟩ := F.ex
    refine ⟨dd.name, dd.qual, defArgs dd.st, defBody dd.st, defScope dd.st, dV, kV, doc, pm, cdv, ct, oc, an, od, osl, dd.N, q1, ?_, q3, by rw [ps h1]; exact h4, h5, h6, by rw [ps h1]; exact h7, h8⟩
    rw [← q1]
    exact q2
  · obtain ⟨dd, h1, h2, h3, F, _⟩ := fn hf
    rw [ps h1]
    exact bd dd h2 (by rw [h3]; exact hp) K _ _ F
  · obtain ⟨dd, h1, h2, h3, F, _⟩ := fn hf
    exact F.kp
  · obtain ⟨q1, q⟩ := He.ba (al c2 f hf)
    obtain ⟨q2, q⟩ := He.ba q
    obtain ⟨q3, q4⟩ := He.ba q
    refine ⟨Option.isSome_iff_exists.mp q1, ?_⟩
    have e : l.fa K f = He.ga K (l.loc f).1 := by
      unfold LD.fa lAd
      rw [Option.isNone_iff_eq_none.mp q3]
    show mg (l.loc f).1 = some (.ref (l.fa K f))
    rw [e]
    exact glo_of X G q4
  · have m := al c3 _ (look2_mem hf)
    obtain ⟨q1, q⟩ := He.ba m
    obtain ⟨q2, q3⟩ := He.ba q
    exact ⟨meth_of q1, List.contains_iff_mem.mp q2, Option.isSome_iff_exists.mp q3⟩
  · have m := al c4 _ (look_mem hf)
    obtain ⟨q1, q⟩ := He.ba m
    obtain ⟨q2, q3⟩ := He.ba q
    exact ⟨mk_of_ q1, Option.isSome_iff_exists.mp q2⟩
  · have m := al c4 _ (look_mem hf)
    obtain ⟨q1, q⟩ := He.ba m
    obtain ⟨q2, q3⟩ := He.ba q
    rcases Bool.or_eq_true_iff.mp q3 with z | z
    · have hk : l.kp.contains k = true := List.contains_iff_mem.mpr hk
      have z : (!l.kp.contains k) = true := z
      rw [hk] at z
      cases z
    · exact List.contains_iff_mem.mp z
  · have mm := att_mem hg fun z => by cases z
    exact ⟨prop_of (al ha _ mm), List.contains_iff_mem.mp (al s4 _ mm)⟩
  · obtain ⟨df, hdf⟩ := Option.isSome_iff_exists.mp (al s6 q hq)
    obtain ⟨dd, h1, h2, h3, F, _⟩ := fn hdf
    exact bf q hq K _ _ ⟨dd, h1, F⟩
  · refine ⟨al s5 q hq, fun f hf => ?_⟩
    have m := al c4 _ (look_mem hf)
    obtain ⟨q1, qq⟩ := He.ba m
    obtain ⟨q2, q3⟩ := He.ba qq
    obtain ⟨df, hdf⟩ := Option.isSome_iff_exists.mp q2
    obtain ⟨dd, h1, h2, h3, F, _⟩ := fn hdf
    exact bc q hq f hf K _ _ ⟨dd, h1, F⟩
end
end Pv

set_option Elab.async false
set_option linter.all false
set_option maxRecDepth 100000
/-! PwR: from the plain law to the walk's end. -/
namespace Pv
open PySem PySem.Spec PyProof.Rows L2

/-- a class's statements -/
def cBody : Stmt → List Stmt
  | .ClassDef (body := b) .. => b
  | _ => []
/-- all arguments are given by place -/
theorem bindsFull {K : PySem.W.Frag} {x qual : Str} {params : Arguments} {body : List Stmt} {scope : Scope} {dvs : List V} {kws : List (Str × V)} {f : Addr} {fd : FuncData} {ps : List Str} (F : FunD K x qual params body scope dvs kws f fd) (hd : dvs ≠ [])
    (h : ∀ (T : Addr) (kV doc pm : Value) (an : Option Addr) (cdv ct : Value) (us its : List Value), us.length = ps.length → its.length = dvs.length →
      ∃ k, bindArgs (PySem.W.fnOf x qual params body scope (.ref T) kV doc pm an cdv ct) ⟨us, []⟩ = seqItems? (.ref T) >>= k ∧ k (some its.toArray) = pure (ps.zip us)) : Binds K fd ps [] := by
  obtain ⟨ds, h1, h2⟩ := F.binds1 (ps := ps) ps.length dvs.length hd (by omega) fun T kV doc pm an cdv ct us its hl hi => by
    obtain ⟨k, e1, e2⟩ := h T kV doc pm an cdv ct us its hl hi
    exact ⟨k, e1, by rw [e2, List.drop_of_length_le (by omega), List.append_nil]⟩
  rw [List.drop_length] at h1
  cases h1
  exact h2
theorem nox0 {P : Program} {w : World} {K : PySem.W.Frag} {mg : Str → Option Value} {base : Heap} {k : Nat} {f : Addr} {fd : FuncData} {ps : List Str} {sp : Sp} (F : FnOk P w K mg base (L2.CX P w) k f fd ps sp) :
    FnOk P w K mg base CX0 k f fd ps (fun vs H Q _ => sp vs H Q (fun _ _ _ => False)) := by
  refine ⟨fun vs H Q E h => F.len _ _ _ _ h, fun A outer s H args us vs Q E hr e0 hb r h => ?_⟩
  refine codeAny_mono (F.run A outer s H args us vs Q _ hr e0 hb r h) fun r s' q => ?_
  cases r with
  | ok fl => cases fl <;> exact q
  | error e =>
    obtain ⟨_, _, _, _, _, _, _, _, _, _, _, _, z⟩ := q
    exact z.elim
/-- the script as the evaluator has it -/
theorem script_sp {c : Cfg} {T : Tbl} {n f : Nat} {H : Hp} {a : Addr} {ns : List Int} {Q : VK} {E : XK} (hS : SqL c.K H a (ns.map V.int)) {outs : List (Option O)} (h : callN T n f [.fz (.lst (ns.map .int))] = .ok (.fz (.bl true)) outs) (q : ∀ H', Q (.bl true) H') : spF c (callN T n) f 1 [.ref a] H Q E := by
  have rs : ∀ ns : List Int, Reps c H (ns.map D.int) (ns.map V.int) := fun ns => by
    induction ns with
    | nil => rfl
    | cons i ns ih => exact ⟨_, _, rfl, rfl, ih⟩
  have at1 : ∀ {i : Nat} {o : O}, getS [some (O.fz (.lst (ns.map .int)))] i = some o → i = 0 ∧ o = .fz (.lst (ns.map .int)) := fun {i o} h => by
    cases i with
    | zero => cases h; exact ⟨rfl, rfl⟩
    | succ i => cases h
  refine ⟨H, fun _ => [], [.fz (.lst (ns.map .int))], rfl, rfl, ⟨Same.refl H, fun i o hi => ?_, fun _ => List.nodup_nil, (fun _ _ _ z => by cases z), (fun _ _ z => by cases z), fun _ _ => rfl, rfl, trivial⟩, ?_⟩
  · obtain ⟨rfl, rfl⟩ := at1 hi
    exact ⟨.ref a, rfl, ⟨a, _, rfl, hS, rs ns⟩, rfl⟩
  · rw [h]
    intro F' H' L' u B _ _ ow _ _
    cases (show u = V.bl true from ow.1)
    exact q H'
theorem law_F {n m f : Nat} {d : Def} {dd : Dd} {l : LD} {Pr : Program} {w : World} {K : PySem.W.Frag} {h : Heap} {mg : Str → Option Value} {fa : Addr} (hn : anB l.an = true) (X : K.In h) (G : h.Ns mainGlobals mg) (hsup : Pr.main.scope.names.lookup ("super" : Str) = none)
    (bd : BdD l) (bx : BdX l) (bf : BdF l) (bc : BdC l) (hs : stB l = true) (c : obsP Pr.main.file l K = valP l) (hT : l.t.T.fn f = some d) (hd : l.def? f = some dd) (hloc : dd.loc = ((("law" : Str), (none : Option Str), false) : Loc)) (hps : dd.ps = [("script" : Str)]) (hnp : d.np = 1) (hfa : mg ("law" : Str) = some (.ref fa)) (hg : f ∈ l.fg)
    (hb : ∀ (K : PySem.W.Frag) (a : Addr) (fd : FuncData), dd.F K a fd → ∀ (s : Shared) (u : Value), BindsTo s fd ⟨[u], []⟩ [("script", u)])
    (hlaw : ∀ ns : List Int, ns.length ≤ m → ∃ outs, callN l.t.T n f [.fz (.lst (ns.map .int))] = .ok (.fz (.bl true)) outs) :
    ∃ (K : PySem.W.Frag) (fd : FuncData) (sp : Sp), K.In h ∧ (∀ (s : Shared) (u : Value), BindsTo s fd ⟨[u], []⟩ [("script", u)]) ∧
      (∀ (H : Hp) (a : Addr) (ns : List Int), ns.length ≤ m → Only H → SqL K H a (ns.map V.int) → sp [.ref a] H (fun v _ => v = .bl true) fun _ _ _ => False) ∧
      ∀ base : Heap, K.In base → base.Ns mainGlobals mg → FnOk Pr w K mg base CX0 (2 * n + 1) fa fd ["script"] sp := by
  have c1 : allB K l Pr.main.file = true := congrArg (fun z : AlP => z.1) c
  have c2 : l.defs.map (fun d => fnO K (lAd K d.loc)) = l.defs.map Dd.val := congrArg (fun z : AlP => z.2.1) c
  have c3 : (l.xds.map fun d => fnO K (He.ma K (He.ga K (l.cnm d.k)) "__init__")) = l.xds.map Xd.val := congrArg (fun z : AlP => z.2.2) c
  obtain ⟨w1, c4⟩ := He.ba c1
  obtain ⟨w2, c5⟩ := He.ba c4
  obtain ⟨w3, w4⟩ := He.ba c5
  have hms : mg ("super" : Str) = none := PySem.W.mg_none_of X G (deq w4)
  have at_ : (l.t.atts.all fun q => attB K l q) = true := by
    obtain ⟨_, z⟩ := He.ba w1
    obtain ⟨_, z⟩ := He.ba z
    obtain ⟨_, z⟩ := He.ba z
    obtain ⟨_, z⟩ := He.ba z
    exact (He.ba z).1
  have fs : Fs (l.cfg K hn) l.J l.t.T (l.ad K) mg Pr := fs_all hn X G hsup hms bd bx bf bc hs w3 at_ c2 c3
  have F := fun base => fns_ok (Pr := Pr) (w := w) (base := base) fs (wd_ok hn X G w1) (we_ok hn X G w2) n f d hT
  have e : l.fa K f = fa := by
    have q := (fs.gl f hg).2
    have e1 : l.J.fnm f = ("law" : Str) := by
      show (l.loc f).1 = _
      unfold LD.loc
      rw [hd]
      show dd.loc.1 = _
      rw [hloc]
    rw [e1, hfa] at q
    cases q
    rfl
  have ep : (l.ad K).ps f = [("script" : Str)] := by
    show (match l.def? f with
      | some d => d.ps
      | none => []) = _
    rw [hd]
    exact hps
  have hF : dd.F K (lAd K dd.loc) (fdAt K (lAd K dd.loc)) := by
    obtain ⟨q1, q2⟩ := def_mem hd
    obtain ⟨v1, _⟩ := He.ba w3
    exact Dd.funD (map_at c2 dd q1) (al v1 dd q1)
  have el : lAd K dd.loc = l.fa K f := by
    unfold LD.fa LD.loc
    rw [hd]
  refine ⟨K, fdAt K (l.fa K f), fun vs H Q _ => spF (l.cfg K hn) (callN l.t.T n) f 1 vs H Q (fun _ _ _ => False), X, ?_, fun H a ns hl _ hS => ?_, fun base _ _ => ?_⟩
  · rw [← el]
    exact hb K _ _ hF
  · obtain ⟨outs, ho⟩ := hlaw ns hl
    exact script_sp (c := l.cfg K hn) hS ho fun _ => rfl
  · have z := nox0 (F base)
    rw [hnp] at z
    have z : FnOk Pr w K mg base CX0 (2 * n + 1) (l.fa K f) (fdAt K (l.fa K f)) ((l.ad K).ps f) _ := z
    rw [ep, e] at z
    rw [e]
    exact z
end Pv

set_option Elab.async false
set_option linter.all false
set_option maxRecDepth 100000
/-! PxA: the evaluator, step by step. -/
namespace Pv.Pl
open PySem

section
variable {α β : Type} {a : α} {v : Env} {f : α → Env → R β} {g : α → Env → Fl} {x : Exc}
theorem bind_ok : (R.ok a v).bind f = f a v := rfl
theorem bind_exc : (R.exc x v : R α).bind f = .exc x v := rfl
theorem fl_ok : (R.ok a v).fl g = g a v := rfl
theorem fl_exc : (R.exc x v : R α).fl g = .exc x v := rfl
theorem of_some : R.of v (some a) = .ok a v := rfl
theorem held_fz {d : D} {p : Bool} {r : R α} : held (.fz d) p r = r := rfl
theorem held_tmp {o : O} {p : Bool} {r : R α} : held (.tmp o) p r = r := rfl
theorem held_vw {i : Nat} {o : O} {r : R α} : held (.vw i o) true r = r := rfl
theorem held_t {x : Val} {r : R α} : held x true r = r := by cases x <;> rfl
theorem at_fz {i : Nat} {d : D} : Val.at i (.fz d) = .fz d := rfl
theorem at_lst {i : Nat} {xs : List O} : Val.at i (.lst xs) = .vw i (.lst xs) := rfl
theorem at_obj {i c : Nat} {fs : List (Nat × O)} : Val.at i (.obj c fs) = .vw i (.obj c fs) := rfl
theorem new_fz {d : D} : Val.new (.fz d) = .fz d := rfl
theorem new_lst {xs : List O} : Val.new (.lst xs) = .tmp (.lst xs) := rfl
theorem new_obj {c : Nat} {fs : List (Nat × O)} : Val.new (.obj c fs) = .tmp (.obj c fs) := rfl
theorem own_fz {d : D} : (Val.fz d).own = some (.fz d) := rfl
theorem own_tmp {o : O} : (Val.tmp o).own = some o := rfl
theorem fin_fz {d : D} : (Val.fz d).fin = some d := rfl
theorem fin_tmp {o : O} : (Val.tmp o).fin = some o.frz := rfl
end
section
variable {x0 x1 x2 x3 x4 x5 x6 x7 x8 x9 x10 x11 x12 y : Option O} {v : Env}
theorem g0 : getS (x0 :: v) 0 = x0 := rfl
theorem g1 : getS (x0 :: x1 :: v) 1 = x1 := rfl
theorem g2 : getS (x0 :: x1 :: x2 :: v) 2 = x2 := rfl
theorem g3 : getS (x0 :: x1 :: x2 :: x3 :: v) 3 = x3 := rfl
theorem g4 : getS (x0 :: x1 :: x2 :: x3 :: x4 :: v) 4 = x4 := rfl
theorem g5 : getS (x0 :: x1 :: x2 :: x3 :: x4 :: x5 :: v) 5 = x5 := rfl
theorem g6 : getS (x0 :: x1 :: x2 :: x3 :: x4 :: x5 :: x6 :: v) 6 = x6 := rfl
theorem g7 : getS (x0 :: x1 :: x2 :: x3 :: x4 :: x5 :: x6 :: x7 :: v) 7 = x7 := rfl
theorem g8 : getS (x0 :: x1 :: x2 :: x3 :: x4 :: x5 :: x6 :: x7 :: x8 :: v) 8 = x8 := rfl
theorem g9 : getS (x0 :: x1 :: x2 :: x3 :: x4 :: x5 :: x6 :: x7 :: x8 :: x9 :: v) 9 = x9 := rfl
theorem g10 : getS (x0 :: x1 :: x2 :: x3 :: x4 :: x5 :: x6 :: x7 :: x8 :: x9 :: x10 :: v) 10 = x10 := rfl
theorem g11 : getS (x0 :: x1 :: x2 :: x3 :: x4 :: x5 :: x6 :: x7 :: x8 :: x9 :: x10 :: x11 :: v) 11 = x11 := rfl
theorem s0 : List.set (x0 :: v) 0 y = y :: v := rfl
theorem s1 : List.set (x0 :: x1 :: v) 1 y = x0 :: y :: v := rfl
theorem s2 : List.set (x0 :: x1 :: x2 :: v) 2 y = x0 :: x1 :: y :: v := rfl
theorem s3 : List.set (x0 :: x1 :: x2 :: x3 :: v) 3 y = x0 :: x1 :: x2 :: y :: v := rfl
theorem s4 : List.set (x0 :: x1 :: x2 :: x3 :: x4 :: v) 4 y = x0 :: x1 :: x2 :: x3 :: y :: v := rfl
theorem s5 : List.set (x0 :: x1 :: x2 :: x3 :: x4 :: x5 :: v) 5 y = x0 :: x1 :: x2 :: x3 :: x4 :: y :: v := rfl
theorem s6 : List.set (x0 :: x1 :: x2 :: x3 :: x4 :: x5 :: x6 :: v) 6 y = x0 :: x1 :: x2 :: x3 :: x4 :: x5 :: y :: v := rfl
theorem s7 : List.set (x0 :: x1 :: x2 :: x3 :: x4 :: x5 :: x6 :: x7 :: v) 7 y = x0 :: x1 :: x2 :: x3 :: x4 :: x5 :: x6 :: y :: v := rfl
theorem s8 : List.set (x0 :: x1 :: x2 :: x3 :: x4 :: x5 :: x6 :: x7 :: x8 :: v) 8 y = x0 :: x1 :: x2 :: x3 :: x4 :: x5 :: x6 :: x7 :: y :: v := rfl
theorem s9 : List.set (x0 :: x1 :: x2 :: x3 :: x4 :: x5 :: x6 :: x7 :: x8 :: x9 :: v) 9 y = x0 :: x1 :: x2 :: x3 :: x4 :: x5 :: x6 :: x7 :: x8 :: y :: v := rfl
theorem s10 : List.set (x0 :: x1 :: x2 :: x3 :: x4 :: x5 :: x6 :: x7 :: x8 :: x9 :: x10 :: v) 10 y = x0 :: x1 :: x2 :: x3 :: x4 :: x5 :: x6 :: x7 :: x8 :: x9 :: y :: v := rfl
theorem s11 : List.set (x0 :: x1 :: x2 :: x3 :: x4 :: x5 :: x6 :: x7 :: x8 :: x9 :: x10 :: x11 :: v) 11 y = x0 :: x1 :: x2 :: x3 :: x4 :: x5 :: x6 :: x7 :: x8 :: x9 :: x10 :: y :: v := rfl
end
/-! ### values, step by step -/
section
variable {i j : Int} {b c : Bool} {x y : Str} {xs : List D} {k : Nat} {os : List O}
theorem tr_bl : truth (.fz (.bl b)) = some b := rfl
theorem tr_int : truth (.fz (.int i)) = some (i != 0) := rfl
theorem tr_non : truth (.fz .non) = some false := rfl
theorem tr_lst : truth (.fz (.lst xs)) = some (!xs.isEmpty) := rfl
theorem tr_tup : truth (.fz (.tup xs)) = some (!xs.isEmpty) := rfl
theorem c_lt : cmp .lt (.fz (.int i)) (.fz (.int j)) = some (decide (i < j)) := rfl
theorem c_le : cmp .le (.fz (.int i)) (.fz (.int j)) = some (decide (i ≤ j)) := rfl
theorem c_gt : cmp .gt (.fz (.int i)) (.fz (.int j)) = some (decide (j < i)) := rfl
theorem c_ge : cmp .ge (.fz (.int i)) (.fz (.int j)) = some (decide (j ≤ i)) := rfl
theorem c_eqi : cmp .eq (.fz (.int i)) (.fz (.int j)) = some (i == j) := rfl
theorem c_nei : cmp .ne (.fz (.int i)) (.fz (.int j)) = some (!(i == j)) := rfl
theorem c_eqs : cmp .eq (.fz (.str x)) (.fz (.str y)) = some (x == y) := rfl
theorem c_nes : cmp .ne (.fz (.str x)) (.fz (.str y)) = some (!(x == y)) := rfl
theorem c_is0 : cmp .is (.fz .non) (.fz .non) = some true := rfl
theorem c_isi : cmp .is (.fz (.int i)) (.fz .non) = some false := rfl
theorem c_isl : cmp .is (.fz (.lst xs)) (.fz .non) = some false := rfl
theorem c_isnt0 : cmp .isnt (.fz .non) (.fz .non) = some false := rfl
theorem c_isnti : cmp .isnt (.fz (.int i)) (.fz .non) = some true := rfl
theorem c_isntl : cmp .isnt (.fz (.lst xs)) (.fz .non) = some true := rfl
theorem o_add : op2 .add (.fz (.int i)) (.fz (.int j)) = some (.fz (.int (i + j))) := rfl
theorem o_sub : op2 .sub (.fz (.int i)) (.fz (.int j)) = some (.fz (.int (i - j))) := rfl
theorem o_mul (h : (small i || small j) = true) : op2 .mul (.fz (.int i)) (.fz (.int j)) = some (.fz (.int (i * j))) := by simp only [op2, h, if_true]
theorem o_fdiv (h0 : 0 < j) (h1 : j < 1073741824) : op2 .fdiv (.fz (.int i)) (.fz (.int j)) = some (.fz (.int (i / j))) := by simp only [op2, decide_eq_true h0, decide_eq_true h1, Bool.and_self, if_true]
theorem o_mod (h0 : 0 < j) : op2 .mod (.fz (.int i)) (.fz (.int j)) = some (.fz (.int (i % j))) := by simp only [op2, decide_eq_true h0, if_true]
theorem b_lenl : bi .len [.fz (.lst xs)] = some (.fz (.int xs.length)) := rfl
theorem b_lent : bi .len [.fz (.tup xs)] = some (.fz (.int xs.length)) := rfl
theorem b_lenm : bi .len [.tmp (.lst os)] = some (.fz (.int os.length)) := rfl
theorem b_lenv : bi .len [.vw k (.lst os)] = some (.fz (.int os.length)) := rfl
theorem b_int : bi .int [.fz (.int i)] = some (.fz (.int i)) := rfl
theorem b_bool : bi .bool [.fz (.bl b)] = some (.fz (.bl b)) := rfl
theorem b_tupt : bi .tuple [.fz (.tup xs)] = some (.fz (.tup xs)) := rfl
theorem b_tupl : bi .tuple [.fz (.lst xs)] = some (.fz (.tup xs)) := rfl
theorem b_listt : bi .list [.fz (.tup xs)] = some (newL xs) := rfl
theorem b_listl : bi .list [.fz (.lst xs)] = some (newL xs) := rfl
theorem fzs_map : ∀ xs : List D, O.fzs (xs.map .fz) = some xs
  | [] => rfl
  | x :: xs => by simp only [List.map_cons, O.fzs, fzs_map xs, Option.map_some]
theorem b_tupm : bi .tuple [newL xs] = some (.fz (.tup xs)) := by simp only [bi, newL, Val.items, fzs_map, Option.map_some]
end
section
variable {P : Fn} {f i : Nat} {a b c d e g : D} {o : O} {v : Env}
theorem cf0 : callF P f [] v = ofCall [] v (P f []) := rfl
theorem cf1 : callF P f [.val a] v = ofCall [none] v (P f [.fz a]) := rfl
theorem cf2 : callF P f [.val a, .val b] v = ofCall [none, none] v (P f [.fz a, .fz b]) := rfl
theorem cf3 : callF P f [.val a, .val b, .val c] v = ofCall [none, none, none] v (P f [.fz a, .fz b, .fz c]) := rfl
theorem cf4 : callF P f [.val a, .val b, .val c, .val d] v = ofCall [none, none, none, none] v (P f [.fz a, .fz b, .fz c, .fz d]) := rfl
theorem cf5 : callF P f [.val a, .val b, .val c, .val d, .val e] v = ofCall [none, none, none, none, none] v (P f [.fz a, .fz b, .fz c, .fz d, .fz e]) := rfl
theorem cfr1 (h : getS v i = some o) : callF P f [.ref i] v = ofCall [some i] v (P f [o]) := by
  simp only [callF, getAll, Ar.get, h]
  rfl
theorem cfr2 (h : getS v i = some o) : callF P f [.ref i, .val a] v = ofCall [some i, none] v (P f [o, .fz a]) := by
  simp only [callF, getAll, Ar.get, h]
  rfl
end
section
variable {o : O} {x : Exc} {os : List (Option O)} {v : Env} {i : Nat} {as : List (Option Nat)} {p : Option O}
theorem oc_ok : ofCall as v (.ok o os) = .ok (.new o) (takeBack as os v) := rfl
theorem oc_exc : ofCall as v (.exc x os) = .exc x (takeBack as os v) := rfl
theorem tb_none : takeBack (none :: as) (p :: os) v = takeBack as os v := rfl
theorem tb_some : takeBack (some i :: as) (p :: os) v = takeBack as os (v.set i p) := rfl
theorem tb_nil : takeBack [] os v = v := by cases os <;> rfl
end
/-- a def's run, by its body -/
theorem call_of {T : Tbl} {n f : Nat} {d : Def} {as : List O} (hT : T.fn f = some d) (hl : (as.length == d.np) = true) : callN T (n + 1) f as = (exss T (callN T n) none d.body (as.map some ++ List.replicate (d.ns - d.np) none)).cr d.np d.body.sl := by
  simp only [callN, hT, hl, if_true]
/-! ### loops -/
theorem for_inv {g : G} {body : Env → Fl} (I : List D → Env → Prop) : ∀ {ds : List D} {v : Env}, I ds v → (∀ d ds v, I (d :: ds) v → ∃ v1 v2, bindG g d v = some v1 ∧ (body v1 = .next v2 ∨ body v1 = .cont v2) ∧ I ds v2) → ∃ v2, forLoop g body ds v = .next v2 ∧ I [] v2
  | [], v, h, _ => ⟨v, rfl, h⟩
  | d :: ds, v, h, k => by
    obtain ⟨v1, v2, e1, e2, h2⟩ := k d ds v h
    obtain ⟨v3, e3, h3⟩ := for_inv I h2 k
    refine ⟨v3, ?_, h3⟩
    rcases e2 with e2 | e2 <;> simp only [forLoop, e1, e2, e3]
/-- .. or it ends as R says -/
theorem for_end {g : G} {body : Env → Fl} (I : List D → Env → Prop) (R : Fl → Prop) : ∀ {ds : List D} {v : Env}, I ds v → (∀ v, I [] v → R (.next v)) →
    (∀ d ds v, I (d :: ds) v → ∃ v1, bindG g d v = some v1 ∧ ((∃ v2, (body v1 = .next v2 ∨ body v1 = .cont v2) ∧ I ds v2) ∨ (∃ o v2, body v1 = .ret o v2 ∧ R (.ret o v2)) ∨ (∃ x v2, body v1 = .exc x v2 ∧ R (.exc x v2)) ∨ (∃ v2, body v1 = .brk v2 ∧ R (.next v2)))) → R (forLoop g body ds v)
  | [], v, h, hn, _ => hn v h
  | d :: ds, v, h, hn, k => by
    obtain ⟨v1, e1, q⟩ := k d ds v h
    rcases q with ⟨v2, e2, h2⟩ | ⟨o, v2, e2, h2⟩ | ⟨x, v2, e2, h2⟩ | ⟨v2, e2, h2⟩
    · have := for_end I R h2 hn k
      rcases e2 with e2 | e2 <;> simpa only [forLoop, e1, e2] using this
    · simpa only [forLoop, e1, e2] using h2
    · simpa only [forLoop, e1, e2] using h2
    · simpa only [forLoop, e1, e2] using h2
/-- a comprehension that takes all items -/
theorem lc_map {step : D → Env → R (Option O)} (I : List D → List O → Env → Prop) : ∀ {ds : List D} {acc : List O} {v : Env}, I ds acc v → (∀ d ds acc v, I (d :: ds) acc v → acc.length < sizeLine ∧ ∃ o v2, step d v = .ok (some o) v2 ∧ I ds (acc ++ [o]) v2) → ∃ acc2 v2, lcLoop step ds acc v = .ok acc2 v2 ∧ I [] acc2 v2
  | [], acc, v, h, _ => ⟨acc, v, rfl, h⟩
  | d :: ds, acc, v, h, k => by
    obtain ⟨hl, o, v2, e, h2⟩ := k d ds acc v h
    obtain ⟨acc2, v3, e3, h3⟩ := lc_map I h2 k
    refine ⟨acc2, v3, ?_, h3⟩
    simp only [lcLoop, e, decide_eq_true hl, if_true, e3]
/-- .. or some -/
theorem lc_some {step : D → Env → R (Option O)} (I : List D → List O → Env → Prop) : ∀ {ds : List D} {acc : List O} {v : Env}, I ds acc v → (∀ d ds acc v, I (d :: ds) acc v → (∃ v2, step d v = .ok none v2 ∧ I ds acc v2) ∨ (acc.length < sizeLine ∧ ∃ o v2, step d v = .ok (some o) v2 ∧ I ds (acc ++ [o]) v2)) → ∃ acc2 v2, lcLoop step ds acc v = .ok acc2 v2 ∧ I [] acc2 v2
  | [], acc, v, h, _ => ⟨acc, v, rfl, h⟩
  | d :: ds, acc, v, h, k => by
    rcases k d ds acc v h with ⟨v2, e, h2⟩ | ⟨hl, o, v2, e, h2⟩
    · obtain ⟨acc2, v3, e3, h3⟩ := lc_some I h2 k
      exact ⟨acc2, v3, by simp only [lcLoop, e, e3], h3⟩
    · obtain ⟨acc2, v3, e3, h3⟩ := lc_some I h2 k
      exact ⟨acc2, v3, by simp only [lcLoop, e, decide_eq_true hl, if_true, e3], h3⟩
section
variable {a b c d e : D} {xs : List D} {x y : Val} {i k : Nat} {j : Int} {os : List O}
theorem fi0 : fins [] = some [] := rfl
theorem fi1 : fins [.val a] = some [a] := rfl
theorem fi2 : fins [.val a, .val b] = some [a, b] := rfl
theorem fi3 : fins [.val a, .val b, .val c] = some [a, b, c] := rfl
theorem fi4 : fins [.val a, .val b, .val c, .val d] = some [a, b, c, d] := rfl
theorem fi5 : fins [.val a, .val b, .val c, .val d, .val e] = some [a, b, c, d, e] := rfl
theorem it_l : item (.fz (.lst xs)) (.fz (.int j)) = (nth xs j).map .fz := rfl
theorem it_t : item (.fz (.tup xs)) (.fz (.int j)) = (nth xs j).map .fz := rfl
theorem sl_l {lo hi : Option Int} : slice (.fz (.lst xs)) lo hi = some (newL (cut xs lo hi)) := rfl
theorem sl_t {lo hi : Option Int} : slice (.fz (.tup xs)) lo hi = some (.fz (.tup (cut xs lo hi))) := rfl
theorem wk_l : (Val.fz (.lst xs)).walks = some xs := rfl
theorem wk_t : (Val.fz (.tup xs)).walks = some xs := rfl
theorem wl_l : (Val.fz (.lst xs)).walksL = some xs := rfl
theorem wl_t : (Val.fz (.tup xs)).walksL = some xs := rfl
theorem wk_n : (newL xs).walks = some xs := fzs_map xs
theorem wl_n : (newL xs).walksL = some xs := fzs_map xs
theorem bg_n {d : D} {v : Env} : bindG (.n i) d v = some (v.set i (some (.fz d))) := rfl
end
theorem frzs_map : ∀ xs : List D, O.frzs (xs.map .fz) = xs
  | [] => rfl
  | x :: xs => by rw [List.map_cons, O.frzs, frzs_map xs]; rfl
theorem fin_newL (xs : List D) : (newL xs).fin = some (.lst xs) := by
  show some (D.lst (O.frzs (xs.map .fz))) = _
  rw [frzs_map]
/-! ### statement by statement -/
section
variable {T : Tbl} {P : Fn} {X : Option Exc} {s : S} {r b c : SL} {v v1 v2 : Env} {n : Nat} {A : List Nat} {R : CR} {e : E} {x : Val} {o : O} {g : G} {it : I} {ds : List D} {w : Exc} {q : Fl}
theorem call_body {n f : Nat} {d : Def} {as : List O} (hT : T.fn f = some d) (hl : (as.length == d.np) = true) (hv : as.map some ++ List.replicate (d.ns - d.np) none = v) (k : (exss T (callN T n) none d.body v).cr d.np d.body.sl = R) : callN T (n + 1) f as = R := by
  rw [call_of hT hl, hv, k]
theorem run_next (h : exs T P X s v = .next v1) (k : (exss T P X r v1).cr n A = R) : (exss T P X (.cons s r) v).cr n A = R := by
  simp only [exss, h, k]
theorem run_exc (h : exs T P X s v = .exc w v1) : (exss T P X (.cons s r) v).cr n A = .exc w (outs n A v1) := by
  simp only [exss, h, Fl.cr]
theorem run_ret (h : ev T P X e v = .ok x v1) (ho : x.own = some o) : (exss T P X (.cons (.ret e) r) v).cr n A = .ok o (outs n A v1) := by
  simp only [exss, exs, h, fl_ok, ho, Fl.cr]
theorem run_retS (h : exs T P X s v = .ret o v1) : (exss T P X (.cons s r) v).cr n A = .ok o (outs n A v1) := by
  simp only [exss, h, Fl.cr]
theorem run_nil : (exss T P X .nil v).cr n A = .ok (.fz .non) (outs n A v) := by
  simp only [exss, Fl.cr]
theorem exs_for (hI : evI T P none it v = .ok ds v1) (h : forLoop g (exss T P none b) ds v1 = q) : exs T P none (.fr g it b) v = q := by
  simp only [exs, hI, fl_ok, h]
theorem exs_if0 (h : ev T P X e v = .ok x v1) (ht : truth x = some false) (k : exss T P X c v1 = q) : exs T P X (.ife e b c) v = q := by
  simp only [exs, h, fl_ok, ht, k]
theorem exs_if1 (h : ev T P X e v = .ok x v1) (ht : truth x = some true) (k : exss T P X b v1 = q) : exs T P X (.ife e b c) v = q := by
  simp only [exs, h, fl_ok, ht, k]
theorem ss_next (h : exs T P X s v = .next v1) : exss T P X (.cons s r) v = exss T P X r v1 := by
  simp only [exss, h]
theorem ss_nil : exss T P X .nil v = .next v := by simp only [exss]
theorem ev_bi1 {bt : Bi} {y : Val} (h : ev T P X e v = .ok x v1) (hb : bi bt [x] = some y) : ev T P X (.bi bt (.cons e .nil)) v = .ok y v1 := by
  simp only [ev, evv, EL.pur, h, bind_ok, held_t, hb, of_some]
theorem exs_asg {i : Nat} (h : ev T P X e v = .ok x v1) (ho : x.own = some o) : exs T P X (.asg (.n i) e) v = .next (v1.set i (some o)) := by
  simp only [exs, h, fl_ok, ho]
end
end Pv.Pl

set_option Elab.async false
set_option linter.all false
set_option maxRecDepth 100000
/-! PxB: comprehensions, fields, ranges. -/
namespace Pv.Pl
open PySem

section
variable {T : Tbl} {P : Fn} {X : Option Exc} {v v1 v2 : Env} {e : E} {x : Val} {o : O} {g : G} {it : I} {ds : List D} {own : List Nat} {t : OE}
/-- a comprehension whose test and element change nothing -/
theorem ev_lcF (N : D → Env) (p : D → Bool) (F : D → O) (hI : evI T P X it v = .ok ds v1) (hlen : ds.length < sizeLine) (h1 : ∀ d ∈ ds, bindG g d (wipe own v1) = some (N d)) (h2 : ∀ d ∈ ds, ∀ d' ∈ ds, bindG g d (wipe own (N d')) = some (N d))
    (ht : ∀ d ∈ ds, evc T P X t (N d) = .ok (p d) (N d)) (he : ∀ d ∈ ds, p d = true → ∃ x, ev T P X e (N d) = .ok x (N d) ∧ x.own = some (F d)) (hb1 : backOwn own v1 v1 = v1) (hb : ∀ d ∈ ds, backOwn own v1 (N d) = v1) :
    ev T P X (.lc own g it t e) v = .ok (.tmp (.lst ((ds.filter p).map F))) v1 := by
  have key : ∀ (es : List D), (∀ d ∈ es, d ∈ ds) → ∀ (acc : List O) (w : Env), (w = v1 ∨ ∃ d ∈ ds, w = N d) → acc.length + es.length ≤ ds.length → ∃ w2, lcLoop (fun d v => match bindG g d (wipe own v) with
      | some v => (evc T P X t v).bind fun b v => match b with
        | true => (ev T P X e v).bind fun x v => match x.own with
          | some o => .ok (some o) v
          | none => .bad
        | false => .ok none v
      | none => .bad) es acc w = .ok (acc ++ (es.filter p).map F) w2 ∧ (w2 = v1 ∨ ∃ d ∈ ds, w2 = N d) := by
    intro es
    induction es with
    | nil => exact fun _ acc w hw _ => ⟨w, by simp only [lcLoop, List.filter_nil, List.map_nil, List.append_nil], hw⟩
    | cons d es ih =>
      intro hes acc w hw hl
      have hd := hes d List.mem_cons_self
      have hbd : bindG g d (wipe own w) = some (N d) := by
        rcases hw with rfl | ⟨d', hd', rfl⟩
        · exact h1 d hd
        · exact h2 d hd d' hd'
      cases hp : p d with
      | false =>
        obtain ⟨w2, e2, hw2⟩ := ih (fun x hx => hes x (List.mem_cons_of_mem _ hx)) acc (N d) (.inr ⟨d, hd, rfl⟩) (by rw [List.length_cons] at hl; omega)
        refine ⟨w2, ?_, hw2⟩
        have tt := ht d hd
        rw [hp] at tt
        simp only [lcLoop, hbd, tt, bind_ok, e2, List.filter_cons, hp]
        rfl
      | true =>
        obtain ⟨x, e1, e3⟩ := he d hd hp
        obtain ⟨w2, e2, hw2⟩ := ih (fun x hx => hes x (List.mem_cons_of_mem _ hx)) (acc ++ [F d]) (N d) (.inr ⟨d, hd, rfl⟩) (by rw [List.length_append, List.length_singleton]; rw [List.length_cons] at hl; omega)
        refine ⟨w2, ?_, hw2⟩
        have tt := ht d hd
        rw [hp] at tt
        have hsz : decide (acc.length < sizeLine) = true := decide_eq_true (by rw [List.length_cons] at hl; omega)
        simp only [lcLoop, hbd, tt, bind_ok, e1, e3, hsz, if_true, e2, List.filter_cons, hp, List.map_cons, List.append_assoc, List.cons_append, List.nil_append]
  obtain ⟨w2, e2, hw2⟩ := key ds (fun _ h => h) [] v1 (.inl rfl) (by simp)
  simp only [ev, hI, bind_ok]
  refine (congrArg (fun r : R (List O) => r.bind fun os v' => R.ok (Val.tmp (.lst os)) (backOwn own v1 v')) e2).trans ?_
  simp only [bind_ok, List.nil_append]
  rcases hw2 with rfl | ⟨d, hd, rfl⟩
  · rw [hb1]
  · rw [hb d hd]
/-- .. that takes all -/
theorem ev_lcA (N : D → Env) (F : D → O) (hI : evI T P X it v = .ok ds v1) (hlen : ds.length < sizeLine) (h1 : ∀ d ∈ ds, bindG g d (wipe own v1) = some (N d)) (h2 : ∀ d ∈ ds, ∀ d' ∈ ds, bindG g d (wipe own (N d')) = some (N d))
    (he : ∀ d ∈ ds, ∃ x, ev T P X e (N d) = .ok x (N d) ∧ x.own = some (F d)) (hb1 : backOwn own v1 v1 = v1) (hb : ∀ d ∈ ds, backOwn own v1 (N d) = v1) :
    ev T P X (.lc own g it .no e) v = .ok (.tmp (.lst (ds.map F))) v1 := by
  have := ev_lcF (t := .no) (X := X) N (fun _ => true) F hI hlen h1 h2 (fun d hd => by simp only [evc]) (fun d hd _ => he d hd) hb1 hb
  rw [show ds.filter (fun _ => true) = ds from List.filter_eq_self.mpr fun _ _ => rfl] at this
  exact this
theorem exs_setf {k c f : Nat} {fs : List (Nat × O)} (h : ev T P X e v = .ok x v1) (ho : x.own = some o) (hg : getS v1 k = some (.obj c fs)) (hl : fs.length < 900) (hi : (T.ini c).isSome = true) (ha : T.att c f = .fld) :
    exs T P X (.setf (.v k) f e) v = .next (v1.set k (some (.obj c (setN f o fs)))) := by
  simp only [exs, h, fl_ok, path, ho, updS, hg, Option.bind_some, updO, fld1, decide_eq_true hl, hi, ha, Ak.isFld, Bool.and_self, if_true, Option.map_some]
end
section
variable {T : Tbl} {P : Fn} {X : Option Exc} {v v1 v2 : Env} {e n : E} {x : Val} {i k : Int} {ds : List D}
theorem ev_rng1 (h : ev T P X e v = .ok (.fz (.int i)) v1) (h2 : inRng i = true) : evI T P X (.rng1 e) v = .ok (rng 0 i) v1 := by
  simp only [evI, h, bind_ok, h2, if_true]
theorem ev_rng2 {b : E} {j : Int} (h : ev T P X e v = .ok (.fz (.int i)) v1) (h' : ev T P X b v1 = .ok (.fz (.int j)) v2) (h2 : inRng i = true) (h3 : inRng j = true) : evI T P X (.rng2 e b) v = .ok (rng i j) v2 := by
  simp only [evI, h, h', bind_ok, h2, h3, Bool.and_self, if_true]
theorem ev_rep (h : ev T P X e v = .ok (newL ds) v1) (h' : ev T P X n v1 = .ok (.fz (.int k)) v2) (hk : inRng k = true) (hs : ds.length * k.toNat ≤ sizeLine) : ev T P X (.rep e n) v = .ok (newL (List.replicate k.toNat ds).flatten) v2 := by
  have h1 : (newL ds).items = some ds := fzs_map ds
  have h2 : (newL ds).isTmp = true := rfl
  have h3 : ∀ (p : Bool) (r : R Val), held (newL ds) p r = r := fun _ _ => rfl
  simp only [ev, h, bind_ok, h3, h', h1, h2, hk, decide_eq_true hs, Bool.and_self, if_true]
end
theorem rng_nat (k : Nat) : rng 0 (k : Int) = (List.range k).map fun j => .int (j : Int) := by
  unfold rng
  rw [show ((k : Int) - 0).toNat = k by omega]
  exact List.map_congr_left fun j _ => by rw [Int.zero_add]
theorem inR {i : Int} (h0 : 0 ≤ i) (h : i ≤ 1000000) : inRng i = true := by
  exact decide_eq_true (show i.natAbs < 4611686018427387904 by omega)
end Pv.Pl

set_option Elab.async false
set_option linter.all false
set_option maxRecDepth 100000
/-! PxC: two clauses, append, methods. -/
namespace Pv.Pl
open PySem

section
variable {T : Tbl} {P : Fn} {X : Option Exc} {v v1 v2 : Env} {e : E} {x : Val} {o : O} {g g2 : G} {it it2 : I} {ds ds2 : List D} {own own2 : List Nat}
theorem ev_lc2A (N1 : D → Env) (N2 : D → D → Env) (F : D → D → O) (hI : evI T P X it v = .ok ds v1) (hI2 : ∀ d ∈ ds, evI T P X it2 (N1 d) = .ok ds2 (N1 d)) (hlen : ds.length * ds2.length < sizeLine)
    (h1 : ∀ d ∈ ds, bindG g d (wipe own v1) = some (N1 d)) (h2 : ∀ d ∈ ds, ∀ d' ∈ ds, bindG g d (wipe own (N1 d')) = some (N1 d)) (h3 : ∀ d ∈ ds, ∀ d' ∈ ds, ∀ f ∈ ds2, bindG g d (wipe own (N2 d' f)) = some (N1 d))
    (k1 : ∀ d ∈ ds, ∀ f ∈ ds2, bindG g2 f (wipe own2 (N1 d)) = some (N2 d f)) (k2 : ∀ d ∈ ds, ∀ f ∈ ds2, ∀ f' ∈ ds2, bindG g2 f (wipe own2 (N2 d f')) = some (N2 d f))
    (he : ∀ d ∈ ds, ∀ f ∈ ds2, ∃ x, ev T P X e (N2 d f) = .ok x (N2 d f) ∧ x.own = some (F d f)) (b1 : backOwn own v1 v1 = v1) (b2 : ∀ d ∈ ds, backOwn own v1 (N1 d) = v1) (b3 : ∀ d ∈ ds, ∀ f ∈ ds2, backOwn own v1 (N2 d f) = v1) :
    ev T P X (.lc2 own own2 g it .no g2 it2 .no e) v = .ok (.tmp (.lst (ds.flatMap fun d => ds2.map (F d)))) v1 := by
  have inner : ∀ (d : D), d ∈ ds → ∀ (es : List D), (∀ f ∈ es, f ∈ ds2) → ∀ (acc : List O) (w : Env), (w = N1 d ∨ ∃ f ∈ ds2, w = N2 d f) → acc.length + es.length < sizeLine → ∃ w2, lcLoop (fun d v => match bindG g2 d (wipe own2 v) with
      | some v => (evc T P X .no v).bind fun b v => match b with
        | true => (ev T P X e v).bind fun x v => match x.own with
          | some o => .ok (some o) v
          | none => .bad
        | false => .ok none v
      | none => .bad) es acc w = .ok (acc ++ es.map (F d)) w2 ∧ (w2 = N1 d ∨ ∃ f ∈ ds2, w2 = N2 d f) := by
    intro d hd es
    induction es with
    | nil => exact fun _ acc w hw _ => ⟨w, by simp only [lcLoop, List.map_nil, List.append_nil], hw⟩
    | cons f es ih =>
      intro hes acc w hw hl
      have hf := hes f List.mem_cons_self
      have hbd : bindG g2 f (wipe own2 w) = some (N2 d f) := by
        rcases hw with rfl | ⟨f', hf', rfl⟩
        · exact k1 d hd f hf
        · exact k2 d hd f hf f' hf'
      obtain ⟨x, e1, e3⟩ := he d hd f hf
      obtain ⟨w2, e2, hw2⟩ := ih (fun x hx => hes x (List.mem_cons_of_mem _ hx)) (acc ++ [F d f]) (N2 d f) (.inr ⟨f, hf, rfl⟩) (by rw [List.length_append, List.length_singleton]; rw [List.length_cons] at hl; omega)
      refine ⟨w2, ?_, hw2⟩
      have hsz : decide (acc.length < sizeLine) = true := decide_eq_true (by rw [List.length_cons] at hl; omega)
      have hc : evc T P X .no (N2 d f) = .ok true (N2 d f) := by simp only [evc]
      simp only [lcLoop, hbd, hc, bind_ok, e1, e3, hsz, if_true, e2, List.map_cons, List.append_assoc, List.cons_append, List.nil_append]
  have outer : ∀ (es : List D), (∀ d ∈ es, d ∈ ds) → ∀ (acc : List O) (w : Env), (w = v1 ∨ (∃ d ∈ ds, w = N1 d) ∨ ∃ d ∈ ds, ∃ f ∈ ds2, w = N2 d f) → acc.length + es.length * ds2.length < sizeLine → ∃ w2, lcLoop2 (fun d acc v => match bindG g d (wipe own v) with
      | some v => (evc T P X .no v).bind fun b v => match b with
        | true => (evI T P X it2 v).bind fun ds2 v => lcLoop (fun d v => match bindG g2 d (wipe own2 v) with
          | some v => (evc T P X .no v).bind fun b v => match b with
            | true => (ev T P X e v).bind fun x v => match x.own with
              | some o => .ok (some o) v
              | none => .bad
            | false => .ok none v
          | none => .bad) ds2 acc v
        | false => .ok acc v
      | none => .bad) es acc w = .ok (acc ++ es.flatMap fun d => ds2.map (F d)) w2 ∧ (w2 = v1 ∨ (∃ d ∈ ds, w2 = N1 d) ∨ ∃ d ∈ ds, ∃ f ∈ ds2, w2 = N2 d f) := by
    intro es
    induction es with
    | nil => exact fun _ acc w hw _ => ⟨w, by simp only [lcLoop2, List.flatMap_nil, List.append_nil], hw⟩
    | cons d es ih =>
      intro hes acc w hw hl
      have hd := hes d List.mem_cons_self
      have hbd : bindG g d (wipe own w) = some (N1 d) := by
        rcases hw with rfl | ⟨d', hd', rfl⟩ | ⟨d', hd', f, hf, rfl⟩
        · exact h1 d hd
        · exact h2 d hd d' hd'
        · exact h3 d hd d' hd' f hf
      have hl2 : acc.length + ds2.length + es.length * ds2.length < sizeLine := by
        rw [List.length_cons, Nat.succ_mul] at hl
        omega
      obtain ⟨w1, i1, hw1⟩ := inner d hd ds2 (fun _ h => h) acc (N1 d) (.inl rfl) (by omega)
      obtain ⟨w2, i2, hw2⟩ := ih (fun x hx => hes x (List.mem_cons_of_mem _ hx)) (acc ++ ds2.map (F d)) w1 (by
        rcases hw1 with rfl | ⟨f, hf, rfl⟩
        · exact .inr (.inl ⟨d, hd, rfl⟩)
        · exact .inr (.inr ⟨d, hd, f, hf, rfl⟩)) (by rw [List.length_append, List.length_map]; omega)
      refine ⟨w2, ?_, hw2⟩
      have hc : evc T P X .no (N1 d) = .ok true (N1 d) := by simp only [evc]
      simp only [lcLoop2, hbd, hc, bind_ok, hI2 d hd, i1, i2, List.flatMap_cons, List.append_assoc]
  obtain ⟨w2, e2, hw2⟩ := outer ds (fun _ h => h) [] v1 (.inl rfl) (by simpa using hlen)
  simp only [ev, hI, bind_ok]
  refine (congrArg (fun r : R (List O) => r.bind fun os v' => R.ok (Val.tmp (.lst os)) (backOwn own v1 v')) e2).trans ?_
  simp only [bind_ok, List.nil_append]
  rcases hw2 with rfl | ⟨d, hd, rfl⟩ | ⟨d, hd, f, hf, rfl⟩
  · rw [b1]
  · rw [b2 d hd]
  · rw [b3 d hd f hf]
theorem exs_app {k : Nat} {os os1 : List O} (hg : getS v k = some (.lst os)) (h : ev T P X e v = .ok x v1) (hg1 : getS v1 k = some (.lst os1)) (ho : x.own = some o) (hl : os1.length < sizeLine) : exs T P X (.app (.v k) e) v = .next (v1.set k (some (.lst (os1 ++ [o])))) := by
  simp only [exs, path, fl_ok, isLstAt, hg, Option.bind_some, seeO, List.isEmpty_nil, Bool.true_or, Bool.and_self, if_true, h, ho, updS, hg1, updO, app1, decide_eq_true hl, Option.map_some]
theorem exs_seti {k j : Nat} {os : List O} {i : E} {n : Int} (h : ev T P X e v = .ok x v1) (ho : x.own = some o) (hg : getS v1 k = some (.lst os)) (hp : i.pur = true) (hi : ev T P X i v1 = .ok (.fz (.int n)) v1) (hx : ixn os.length n = some j) : exs T P X (.seti (.v k) i e) v = .next (v1.set k (some (.lst (os.set j o)))) := by
  simp only [exs, h, fl_ok, path, isLstAt, hg, Option.bind_some, seeO, hp, Bool.and_self, if_true, hi, ho, updS, updO, set1, hx, Option.map_some]
theorem exs_tr {b : SL} {hs : HL} (h : exss T P none b v = .next v1) : exs T P none (.tr b hs) v = .next v1 := by
  simp only [exs, h]
theorem exs_trx {b : SL} {hs : HL} {w : Exc} (h : exss T P none b v = .exc w v1) : exs T P none (.tr b hs) v = exh T P w hs v1 := by
  simp only [exs, h]
theorem evs_cons {es : EL} {d : D} {as : List Ar} (h : ev T P X e v = .ok x v1) (hf : x.fin = some d) (h2 : evs T P X es v1 = .ok as v2) : evs T P X (.cons e es) v = .ok (.val d :: as) v2 := by
  simp only [evs, h, bind_ok, hf, h2]
theorem evs_nil : evs T P X .nil v = .ok [] v := by simp only [evs]
theorem ev_call {f : Nat} {es : EL} {as : List Ar} (h : evs T P X es v = .ok as v1) : ev T P X (.call f es) v = callF P f as v1 := by
  simp only [ev, h, bind_ok]
theorem ev_cm {a b : E} {o : Cm} {d : D} {y : Val} {q : Bool} (h : ev T P X a v = .ok (.fz d) v1) (h' : ev T P X b v1 = .ok y v2) (hc : cmp o (.fz d) y = some q) : ev T P X (.cm o a b) v = .ok (.fz (.bl q)) v2 := by
  simp only [ev, h, bind_ok, held_fz, h', hc, Option.map_some, of_some]
theorem ev_ta1 {a b : E} {y : Val} {q : Bool} (h : ev T P X a v = .ok x v1) (ht : truth x = some true) (h' : ev T P X b v1 = .ok y v2) (hq : truth y = some q) : ev T P X (.ta a b) v = .ok (.fz (.bl q)) v2 := by
  simp only [ev, h, bind_ok, ht, h', hq, Option.map_some, of_some]
theorem ev_ta0 {a b : E} (h : ev T P X a v = .ok x v1) (ht : truth x = some false) : ev T P X (.ta a b) v = .ok (.fz (.bl false)) v1 := by
  simp only [ev, h, bind_ok, ht]
theorem exs_frz {k : Nat} (hg : getS v k = some o) : exs T P X (.frz k) v = .next (v.set k (some (.fz o.frz))) := by
  simp only [exs, hg]
/-- a method of a value -/
theorem ev_meth1 {m f : Nat} {a b : E} {d c : D} {y : O} {os : List (Option O)} (ha : ev T P X a v = .ok (.fz d) v) (hm : ∀ v, (Ar.val d).mthOf T m v = some f) (hb : ev T P X b v = .ok (.fz c) v) (hp : P f [.fz d, .fz c] = .ok y os) : ev T P X (.meth m (.cons a (.cons b .nil))) v = .ok (.new y) v := by
  simp only [ev, evs, ha, bind_ok, fin_fz, hm, hb, cf2, hp, oc_ok]
  cases os with
  | nil => rfl
  | cons p os =>
    cases os with
    | nil => rfl
    | cons q os => rw [tb_none, tb_none, tb_nil]
theorem ev_dm {a b : E} {i j : Int} (ha : ev T P X a v = .ok (.fz (.int i)) v1) (hb : ev T P X b v1 = .ok (.fz (.int j)) v2) (h0 : 0 < j) (h1 : j < 1073741824) : ev T P X (.dm a b) v = .ok (.fz (.tup [.int (i / j), .int (i % j)])) v2 := by
  simp only [ev, ha, bind_ok, hb, decide_eq_true h0, decide_eq_true h1, Bool.and_self, if_true]
theorem exs_asgT {gs : List G} {d : D} (h : ev T P X e v = .ok x v1) (hf : x.fin = some d) (hb : bindG (.t gs) d v1 = some v2) : exs T P X (.asg (.t gs) e) v = .next v2 := by
  simp only [exs, h, fl_ok, hf, hb]
theorem ev_att {f : Nat} {a : E} {y : Val} (ha : ev T P X a v = .ok x v) (h : attF T P f x v = .ok y v) : ev T P X (.att a f) v = .ok y v := by
  simp only [ev, ha, bind_ok, h]
theorem ev_ite1 {t a b : E} (h : ev T P X t v = .ok x v1) (ht : truth x = some true) : ev T P X (.ite t a b) v = ev T P X a v1 := by
  simp only [ev, h, bind_ok, ht]
theorem ev_ite0 {t a b : E} (h : ev T P X t v = .ok x v1) (ht : truth x = some false) : ev T P X (.ite t a b) v = ev T P X b v1 := by
  simp only [ev, h, bind_ok, ht]
end
theorem tbn1 {os : List (Option O)} {v : Env} : takeBack [none] os v = v := by
  cases os with
  | nil => rfl
  | cons a os => rw [tb_none, tb_nil]
theorem tbn2 {os : List (Option O)} {v : Env} : takeBack [none, none] os v = v := by
  cases os with
  | nil => rfl
  | cons a os => rw [tb_none, tbn1]
theorem tbn3 {os : List (Option O)} {v : Env} : takeBack [none, none, none] os v = v := by
  cases os with
  | nil => rfl
  | cons a os => rw [tb_none, tbn2]
theorem tbn4 {os : List (Option O)} {v : Env} : takeBack [none, none, none, none] os v = v := by
  cases os with
  | nil => rfl
  | cons a os => rw [tb_none, tbn3]
theorem held_n {α : Type} {xs : List D} {p : Bool} {r : R α} : held (newL xs) p r = r := rfl
theorem fzs_int (L : List Int) : O.fzs (L.map fun i => O.fz (.int i)) = some (L.map D.int) := by
  have := fzs_map (L.map D.int)
  rw [List.map_map] at this
  exact this
theorem anyEq_int (x : Int) : ∀ L : List Int, anyEq (.int x) (L.map D.int) = L.any (· == x)
  | [] => rfl
  | i :: L => by
    have e : (D.int i).eqv (.int x) = (i == x) := by simp [D.eqv]
    rw [List.map_cons, anyEq, anyEq_int x L, List.any_cons, e]
theorem allFlat_int : ∀ L : List Int, allFlat (L.map D.int) = true
  | [] => rfl
  | i :: L => by rw [List.map_cons, allFlat, allFlat_int L]; rfl
theorem in_seen (x : Int) (k : Nat) (L : List Int) : cmp .inn (.fz (.int x)) (.vw k (.lst (L.map fun i => .fz (.int i)))) = some (L.any (· == x)) := by
  show (match (O.fzs (L.map fun i => O.fz (.int i))) with
    | some ys => if (D.int x).flat && allFlat ys then some (anyEq (.int x) ys) else none
    | none => none) = _
  rw [fzs_int]
  show (if (D.int x).flat && allFlat (L.map D.int) then some (anyEq (.int x) (L.map D.int)) else none) = _
  rw [allFlat_int, anyEq_int]
  rfl
end Pv.Pl

set_option Elab.async false
set_option linter.all false
set_option maxRecDepth 100000
namespace Pv
open PySem
/-- is_int: 0 thing -/
def f_is_int : Def := ⟨1, 1, (.cons (.ret (.an (.isi (.v 0) [.int] true) (.nt (.isi (.v 0) [.bool] true)))) .nil)⟩
/-- check_number: 0 name 1 thing 2 low 3 high -/
def f_check_number : Def := ⟨4, 4, (.cons (.ife (.to (.nt (.call 358 (.cons (.v 1) .nil))) (.cm .lt (.v 1) (.v 2))) (.cons (.raise 14 (.cons (.v 0) .nil)) .nil) .nil) (.cons (.ife (.ta (.cm .isnt (.v 3) (.c .non)) (.cm .gt (.v 1) (.v 3))) (.cons (.raise 14 (.cons (.v 0) .nil)) .nil) .nil) .nil))⟩
/-- check_house: 0 name 1 thing 2 many -/
def f_check_house : Def := ⟨3, 3, (.cons (.ife (.to (.nt (.call 358 (.cons (.v 1) .nil))) (.nt (.ch .le .lt (.c (.int 0)) (.v 1) (.v 2)))) (.cons (.raise 8 (.cons (.v 0) .nil)) .nil) .nil) .nil)⟩
/-- is_row: 0 thing -/
def f_is_row : Def := ⟨1, 1, (.cons (.ret (.isi (.v 0) [.tuple, .list] false)) .nil)⟩
/-- well_named: 0 name 1 sign -/
def f_well_named : Def := ⟨1, 2, (.cons (.ife (.to (.nt (.isi (.v 0) [.str] true)) (.nt (.ch .le .le (.c (.int 1)) (.bi .len (.cons (.v 0) .nil)) (.c (.int 8))))) (.cons (.ret (.c (.bl false))) .nil) .nil) (.cons (.ret (.an (.cm .inn (.ix (.v 0) (.c (.int 0))) (.g "FIRST_SIGNS" (.str "abcdefghijklmnopqrstuvwxyz"))) (.bi .all (.cons (.lc [1] (.n 1) (.seq (.v 0)) .no (.cm .inn (.v 1) (.g "SIGNS" (.str "abcdefghijklmnopqrstuvwxyz0123456789")))) .nil)))) .nil))⟩
/-- check_names: 0 names 1 place 2 name -/
def f_check_names : Def := ⟨1, 3, (.cons (.ife (.to (.nt (.call 365 (.cons (.v 0) .nil))) (.nt (.ch .le .le (.c (.int 2)) (.bi .len (.cons (.v 0) .nil)) (.c (.int 12))))) (.cons (.raise 12 (.cons (.ng (.c (.int 1))) .nil)) .nil) .nil) (.cons (.fr (.t [(.n 1), (.n 2)]) (.enum (.v 0)) (.cons (.ife (.to (.nt (.call 571 (.cons (.v 2) .nil))) (.cm .inn (.v 2) (.sl (.v 0) .no (.yes (.v 1))))) (.cons (.raise 12 (.cons (.v 1) .nil)) .nil) .nil) .nil)) .nil))⟩
/-- good_seats: 0 seats -/
def f_good_seats : Def := ⟨1, 1, (.cons (.ret (.an (.call 358 (.cons (.v 0) .nil)) (.ch .le .le (.c (.int 1)) (.v 0) (.g "MOST_SEATS" (.int 1000000000000000000000000000000))))) .nil)⟩
/-- check_meeting: 0 place 1 row 2 many 3 hours 4 part 5 a 6 b 7 early 8 late 9 seats -/
def f_check_meeting : Def := ⟨4, 10, (.cons (.ife (.to (.nt (.call 365 (.cons (.v 1) .nil))) (.to (.cm .ne (.bi .len (.cons (.v 1) .nil)) (.c (.int 5))) (.nt (.bi .all (.cons (.lc [4] (.n 4) (.seq (.v 1)) .no (.call 358 (.cons (.v 4) .nil))) .nil))))) (.cons (.raise 11 (.cons (.v 0) .nil)) .nil) .nil) (.cons (.asg (.t [(.n 5), (.n 6), (.n 7), (.n 8), (.n 9)]) (.v 1)) (.cons (.ife (.to (.cm .eq (.v 5) (.v 6)) (.nt (.ta (.ch .le .lt (.c (.int 0)) (.v 5) (.v 2)) (.ch .le .lt (.c (.int 0)) (.v 6) (.v 2))))) (.cons (.raise 11 (.cons (.v 0) .nil)) .nil) .nil) (.cons (.ife (.to (.nt (.ch3 .le .le .le (.c (.int 1)) (.v 7) (.v 8) (.v 3))) (.nt (.call 329 (.cons (.v 9) .nil)))) (.cons (.raise 11 (.cons (.v 0) .nil)) .nil) .nil) .nil))))⟩
/-- check_meetings: 0 meetings 1 many 2 hours 3 place 4 row -/
def f_check_meetings : Def := ⟨3, 5, (.cons (.ife (.to (.nt (.call 365 (.cons (.v 0) .nil))) (.cm .gt (.bi .len (.cons (.v 0) .nil)) (.g "MOST_MEETINGS" (.int 60)))) (.cons (.raise 11 (.cons (.ng (.c (.int 1))) .nil)) .nil) .nil) (.cons (.fr (.t [(.n 3), (.n 4)]) (.enum (.v 0)) (.cons (.ex (.call 258 (.cons (.v 3) (.cons (.v 4) (.cons (.v 1) (.cons (.v 2) .nil)))))) .nil)) .nil))⟩
/-- check_bags: 0 bags 1 many 2 firm 3 place 4 bag -/
def f_check_bags : Def := ⟨3, 5, (.cons (.ife (.cm .is (.v 0) (.c .non)) (.cons .retN .nil) .nil) (.cons (.ife (.to (.nt (.call 365 (.cons (.v 0) .nil))) (.cm .ne (.bi .len (.cons (.v 0) .nil)) (.v 1))) (.cons (.raise 1 (.cons (.ng (.c (.int 1))) .nil)) .nil) .nil) (.cons (.fr (.t [(.n 3), (.n 4)]) (.enum (.v 0)) (.cons (.ife (.ta (.cm .isnt (.v 4) (.c .non)) (.nt (.ta (.v 2) (.call 329 (.cons (.v 4) .nil))))) (.cons (.raise 1 (.cons (.v 3) .nil)) .nil) .nil) .nil)) .nil)))⟩
/-- check_firm: 0 place 1 meetings 2 a 3 b 4 early 5 late 6 row -/
def f_check_firm : Def := ⟨2, 7, (.cons (.asg (.t [(.n 2), (.n 3), (.n 4), (.n 5)]) (.sl (.ix (.v 1) (.v 0)) .no (.yes (.c (.int 4))))) (.cons (.ife (.cm .lt (.v 4) (.v 5)) (.cons (.raise 42 (.cons (.v 0) .nil)) .nil) .nil) (.cons (.fr (.n 6) (.seq (.sl (.v 1) .no (.yes (.v 0)))) (.cons (.ife (.ta (.cm .eq (.ix (.v 6) (.c (.int 2))) (.v 4)) (.to (.cm .inn (.ix (.v 6) (.c (.int 0))) (.tup (.cons (.v 2) (.cons (.v 3) .nil)))) (.cm .inn (.ix (.v 6) (.c (.int 1))) (.tup (.cons (.v 2) (.cons (.v 3) .nil)))))) (.cons (.raise 42 (.cons (.v 0) .nil)) .nil) .nil) .nil)) .nil)))⟩
/-- Day.__init__: 0 self 1 names 2 hours 3 meetings 4 bags 5 firm 6 place 7 row -/
def f_Day___init__ : Def := ⟨6, 8, (.cons (.ex (.call 260 (.cons (.v 1) .nil))) (.cons (.ex (.call 263 (.cons (.c (.str "hours")) (.cons (.v 2) (.cons (.c (.int 1)) (.cons (.g "MOST_HOURS" (.int 60)) .nil)))))) (.cons (.ex (.call 259 (.cons (.v 3) (.cons (.bi .len (.cons (.v 1) .nil)) (.cons (.v 2) .nil))))) (.cons (.setf (.v 0) 764 (.bi .bool (.cons (.v 5) .nil))) (.cons (.ex (.call 242 (.cons (.v 4) (.cons (.bi .len (.cons (.v 1) .nil)) (.cons (.att (.v 0) 764) .nil))))) (.cons (.ife (.att (.v 0) 764) (.cons (.fr (.n 6) (.rng1 (.bi .len (.cons (.v 3) .nil))) (.cons (.ex (.call 249 (.cons (.v 6) (.cons (.v 3) .nil)))) .nil)) .nil) .nil) (.cons (.setf (.v 0) 954 (.bi .tuple (.cons (.v 1) .nil))) (.cons (.setf (.v 0) 831 (.v 2)) (.cons (.setf (.v 0) 933 (.bi .tuple (.cons (.lc [7] (.n 7) (.seq (.v 3)) .no (.bi .tuple (.cons (.v 7) .nil))) .nil))) (.cons (.setf (.v 0) 639 (.bi .tuple (.cons (.ite (.cm .is (.v 4) (.c .non)) (.rep (.lst (.cons (.c .non) .nil)) (.bi .len (.cons (.v 1) .nil))) (.v 4)) .nil))) .nil))))))))))⟩
/-- Day.size: 0 self -/
def f_Day_size : Def := ⟨1, 1, (.cons (.ret (.bi .len (.cons (.att (.v 0) 954) .nil))) .nil)⟩
/-- Day.many: 0 self -/
def f_Day_many : Def := ⟨1, 1, (.cons (.ret (.bi .len (.cons (.att (.v 0) 933) .nil))) .nil)⟩
/-- Day.kind: 0 self -/
def f_Day_kind : Def := ⟨1, 1, (.cons (.ret (.ite (.att (.v 0) 764) (.att (.v 0) 0) (.att (.v 0) 1))) .nil)⟩
/-- Day.meetings_of: 0 self 1 house 2 place 3 row -/
def f_Day_meetings_of : Def := ⟨2, 4, (.cons (.ex (.call 251 (.cons (.c (.str "house")) (.cons (.v 1) (.cons (.bi .len (.cons (.att (.v 0) 954) .nil)) .nil))))) (.cons (.ret (.bi .tuple (.cons (.lc [2, 3] (.t [(.n 2), (.n 3)]) (.enum (.att (.v 0) 933)) (.yes (.cm .inn (.v 1) (.sl (.v 3) .no (.yes (.c (.int 2)))))) (.v 2)) .nil))) .nil))⟩
/-- Plan.__init__: 0 self 1 day 2 days -/
def f_Plan___init__ : Def := ⟨3, 3, (.cons (.ex (.call 263 (.cons (.c (.str "days")) (.cons (.v 2) (.cons (.c (.int 1)) (.cons (.g "MOST_DAYS" (.int 60)) .nil)))))) (.cons (.ife (.to (.cm .gt (.o2 .mul (.v 2) (.att (.v 1) 831)) (.g "MOST_PLAN_HOURS" (.int 600))) (.cm .gt (.o2 .mul (.v 2) (.bi .len (.cons (.att (.v 1) 933) .nil))) (.g "MOST_PLAN_MEETINGS" (.int 400)))) (.cons (.raise 14 (.cons (.c (.str "days")) .nil)) .nil) .nil) (.cons (.setf (.v 0) 730 (.v 1)) (.cons (.setf (.v 0) 733 (.v 2)) .nil))))⟩
/-- Plan.many: 0 self -/
def f_Plan_many : Def := ⟨1, 1, (.cons (.ret (.o2 .mul (.att (.v 0) 733) (.bi .len (.cons (.att (.att (.v 0) 730) 933) .nil)))) .nil)⟩
/-- Plan.size: 0 self -/
def f_Plan_size : Def := ⟨1, 1, (.cons (.ret (.bi .len (.cons (.att (.att (.v 0) 730) 954) .nil))) .nil)⟩
/-- Plan.origin: 0 self 1 number 2 before 3 meeting -/
def f_Plan_origin : Def := ⟨2, 4, (.cons (.ex (.call 263 (.cons (.c (.str "number")) (.cons (.v 1) (.cons (.c (.int 0)) (.cons (.o2 .sub (.att (.v 0) 924) (.c (.int 1))) .nil)))))) (.cons (.asg (.t [(.n 2), (.n 3)]) (.dm (.v 1) (.bi .len (.cons (.att (.att (.v 0) 730) 933) .nil)))) (.cons (.ret (.tup (.cons (.v 3) (.cons (.o2 .add (.v 2) (.c (.int 1))) .nil)))) .nil)))⟩
/-- Plan.meeting: 0 self 1 number 2 meeting 3 day 4 a 5 b 6 early 7 late 8 room 9 shift -/
def f_Plan_meeting : Def := ⟨2, 10, (.cons (.asg (.t [(.n 2), (.n 3)]) (.meth 992 (.cons (.v 0) (.cons (.v 1) .nil)))) (.cons (.asg (.t [(.n 4), (.n 5), (.n 6), (.n 7), (.n 8)]) (.ix (.att (.att (.v 0) 730) 933) (.v 2))) (.cons (.asg (.n 9) (.o2 .mul (.o2 .sub (.v 3) (.c (.int 1))) (.att (.att (.v 0) 730) 831))) (.cons (.ret (.tup (.cons (.v 4) (.cons (.v 5) (.cons (.o2 .add (.v 6) (.v 9)) (.cons (.o2 .add (.v 7) (.v 9)) (.cons (.v 8) .nil))))))) .nil))))⟩
/-- Plan.stretch_of: 0 self 1 number -/
def f_Plan_stretch_of : Def := ⟨2, 2, (.cons (.ret (.sl (.meth 931 (.cons (.v 0) (.cons (.v 1) .nil))) (.yes (.c (.int 2))) (.yes (.c (.int 4))))) .nil)⟩
/-- Plan.with_house: 0 self 1 house 2 found 3 each 4 turn 5 place -/
def f_Plan_with_house : Def := ⟨2, 6, (.cons (.ex (.call 251 (.cons (.c (.str "house")) (.cons (.v 1) (.cons (.att (.v 0) 1085) .nil))))) (.cons (.asg (.n 2) (.meth 934 (.cons (.att (.v 0) 730) (.cons (.v 1) .nil)))) (.cons (.asg (.n 3) (.bi .len (.cons (.att (.att (.v 0) 730) 933) .nil))) (.cons (.frz 2) (.cons (.ret (.bi .tuple (.cons (.lc2 [4, 5] [5] (.n 4) (.rng1 (.att (.v 0) 733)) .no (.n 5) (.seq (.v 2)) .no (.o2 .add (.o2 .mul (.v 4) (.v 3)) (.v 5))) .nil))) .nil)))))⟩
/-- _law_draws: 0 script 1 row 2 at 3 cell 4 turn 5 number -/
def g_law_draws : Def := ⟨1, 6, (.cons (.asg (.n 1) (.lst .nil)) (.cons (.fr (.n 2) (.rng1 (.bi .min (.cons (.bi .len (.cons (.v 0) .nil)) (.cons (.c (.int 63)) .nil)))) (.cons (.asg (.n 3) (.bi .int (.cons (.ix (.v 0) (.v 2)) .nil))) (.cons (.ife (.cm .lt (.v 3) (.c (.int 0))) (.cons (.asg (.n 3) (.o2 .sub (.c (.int 7)) (.o2 .mul (.v 3) (.c (.int 3))))) .nil) .nil) (.cons (.ife (.cm .ge (.v 3) (.o2 .pow (.c (.int 10)) (.c (.int 18)))) (.cons (.fr (.n 4) (.rng1 (.c (.int 40))) (.cons (.ife (.cm .gt (.v 3) (.c (.int 0))) (.cons (.app (.v 1) (.o2 .mod (.bi .int (.cons (.v 3) .nil)) (.c (.int 30)))) (.cons (.asg (.n 3) (.o2 .fdiv (.v 3) (.c (.int 30)))) .nil)) .nil) .nil)) .nil) (.cons (.asg (.n 5) (.o2 .mod (.bi .int (.cons (.o2 .add (.o2 .add (.o2 .mul (.v 3) (.c (.int 40014))) (.o2 .mul (.v 2) (.c (.int 20011)))) (.c (.int 5))) .nil)) (.c (.int 2147483563)))) (.cons (.fr (.n 4) (.rng1 (.c (.int 7))) (.cons (.asg (.n 5) (.o2 .mod (.bi .int (.cons (.o2 .add (.o2 .add (.o2 .add (.o2 .mul (.v 5) (.c (.int 40692))) (.o2 .fdiv (.v 5) (.c (.int 97)))) (.o2 .mul (.v 4) (.c (.int 3)))) (.v 2)) .nil)) (.c (.int 2147483399)))) (.cons (.app (.v 1) (.o2 .fdiv (.v 5) (.c (.int 8)))) .nil))) .nil))) .nil)))) (.cons (.frz 1) (.cons (.ret (.lst (.cons (.v 1) (.cons (.c (.int 0)) .nil)))) .nil))))⟩
/-- _law_take: 0 draws 1 many 2 at -/
def g_law_take : Def := ⟨2, 3, (.cons (.asg (.n 2) (.ix (.v 0) (.c (.int 1)))) (.cons (.seti (.v 0) (.c (.int 1)) (.o2 .add (.v 2) (.c (.int 1)))) (.cons (.ife (.cm .ge (.v 2) (.bi .len (.cons (.ix (.v 0) (.c (.int 0))) .nil))) (.cons (.ret (.c (.int 0))) .nil) .nil) (.cons (.ret (.o2 .mod (.bi .int (.cons (.ix (.ix (.v 0) (.c (.int 0))) (.v 2)) .nil)) (.v 1))) .nil))))⟩
/-- _law_int: 0 thing -/
def g_law_int : Def := ⟨1, 1, (.cons (.ret (.an (.isi (.v 0) [.int] true) (.nt (.isi (.v 0) [.bool] true)))) .nil)⟩
/-- _law_names: 0 size -/
def g_law_names : Def := ⟨1, 1, (.cons (.ret (.sl (.lst (.cons (.c (.str "a")) (.cons (.c (.str "b")) (.cons (.c (.str "c")) (.cons (.c (.str "d")) (.cons (.c (.str "e")) (.cons (.c (.str "f")) (.cons (.c (.str "g")) (.cons (.c (.str "h")) (.cons (.c (.str "i")) (.cons (.c (.str "j")) (.cons (.c (.str "k")) (.cons (.c (.str "l")) .nil))))))))))))) .no (.yes (.v 0)))) .nil)⟩
/-- _law_few: 0 draws 1 size 2 hours 3 wide 4 meets 5 k 6 one 7 other 8 early 9 late -/
def g_law_few : Def := ⟨1, 10, (.cons (.asg (.n 1) (.o2 .add (.c (.int 2)) (.call 1001 (.ref 0 (.cons (.c (.int 5)) .nil))))) (.cons (.asg (.n 2) (.ix (.lst (.cons (.c (.int 3)) (.cons (.c (.int 1)) (.cons (.c (.int 8)) (.cons (.c (.int 2)) (.cons (.c (.int 5)) .nil)))))) (.call 1001 (.ref 0 (.cons (.c (.int 5)) .nil))))) (.cons (.asg (.n 3) (.ix (.lst (.cons (.c (.int 20)) (.cons (.c (.int 4)) (.cons (.c (.int 9)) .nil)))) (.call 1001 (.ref 0 (.cons (.c (.int 3)) .nil))))) (.cons (.asg (.n 4) (.lst .nil)) (.cons (.fr (.n 5) (.rng1 (.ix (.lst (.cons (.c (.int 4)) (.cons (.c (.int 12)) (.cons (.c (.int 2)) (.cons (.c (.int 8)) (.cons (.c (.int 0)) (.cons (.c (.int 1)) .nil))))))) (.call 1001 (.ref 0 (.cons (.c (.int 6)) .nil))))) (.cons (.asg (.n 6) (.o2 .mod (.bi .int (.cons (.o2 .add (.call 1001 (.ref 0 (.cons (.c (.int 30)) .nil))) (.o2 .mul (.c (.int 2)) (.v 5))) .nil)) (.v 1))) (.cons (.asg (.n 7) (.o2 .mod (.bi .int (.cons (.o2 .add (.o2 .add (.v 6) (.c (.int 1))) (.call 1001 (.ref 0 (.cons (.o2 .sub (.v 1) (.c (.int 1))) .nil)))) .nil)) (.v 1))) (.cons (.asg (.n 8) (.o2 .add (.c (.int 1)) (.o2 .mod (.bi .int (.cons (.o2 .add (.call 1001 (.ref 0 (.cons (.c (.int 30)) .nil))) (.o2 .fdiv (.v 5) (.c (.int 2)))) .nil)) (.v 2)))) (.cons (.asg (.n 9) (.v 8)) (.cons (.ife (.cm .eq (.call 1001 (.ref 0 (.cons (.v 3) .nil))) (.c (.int 3))) (.cons (.asg (.n 9) (.bi .min (.cons (.v 2) (.cons (.o2 .add (.o2 .add (.v 8) (.c (.int 1))) (.call 1001 (.ref 0 (.cons (.c (.int 2)) .nil)))) .nil)))) .nil) .nil) (.cons (.app (.v 4) (.tup (.cons (.v 6) (.cons (.v 7) (.cons (.v 8) (.cons (.v 9) (.cons (.o2 .add (.c (.int 1)) (.call 1001 (.ref 0 (.cons (.c (.int 3)) .nil)))) .nil))))))) .nil))))))) (.cons (.frz 1) (.cons (.frz 4) (.cons (.ret (.lst (.cons (.v 1) (.cons (.v 2) (.cons (.v 4) .nil))))) .nil))))))))⟩
/-- _law_many: 0 draws 1 size 2 meets 3 k 4 one 5 at 6 to 7 hour -/
def g_law_many : Def := ⟨1, 8, (.cons (.asg (.n 1) (.o2 .add (.c (.int 2)) (.call 1001 (.ref 0 (.cons (.c (.int 11)) .nil))))) (.cons (.asg (.n 2) (.lst .nil)) (.cons (.fr (.n 3) (.rng1 (.c (.int 60))) (.cons (.asg (.n 4) (.o2 .mod (.bi .int (.cons (.o2 .add (.o2 .mul (.c (.int 7)) (.v 3)) (.call 1001 (.ref 0 (.cons (.c (.int 30)) .nil)))) .nil)) (.v 1))) (.cons (.app (.v 2) (.tup (.cons (.v 4) (.cons (.o2 .mod (.bi .int (.cons (.o2 .add (.o2 .add (.v 4) (.c (.int 1))) (.o2 .mod (.v 3) (.o2 .sub (.v 1) (.c (.int 1))))) .nil)) (.v 1)) (.cons (.o2 .add (.o2 .mod (.bi .int (.cons (.o2 .mul (.c (.int 11)) (.v 3)) .nil)) (.c (.int 60))) (.c (.int 1))) (.cons (.o2 .add (.o2 .mod (.bi .int (.cons (.o2 .mul (.c (.int 11)) (.v 3)) .nil)) (.c (.int 60))) (.c (.int 1))) (.cons (.c (.int 1)) .nil))))))) .nil))) (.cons (.asg (.n 5) (.o2 .mod (.bi .int (.cons (.o2 .add (.o2 .mul (.c (.int 30)) (.call 1001 (.ref 0 (.cons (.c (.int 30)) .nil)))) (.call 1001 (.ref 0 (.cons (.c (.int 30)) .nil)))) .nil)) (.c (.int 60)))) (.cons (.asg (.n 6) (.o2 .mod (.bi .int (.cons (.o2 .add (.o2 .add (.o2 .mul (.c (.int 30)) (.call 1001 (.ref 0 (.cons (.c (.int 30)) .nil)))) (.call 1001 (.ref 0 (.cons (.c (.int 30)) .nil)))) (.c (.int 59))) .nil)) (.c (.int 60)))) (.cons (.ife (.cm .ne (.call 1001 (.ref 0 (.cons (.c (.int 4)) .nil))) (.c (.int 3))) (.cons (.asg (.n 7) (.ix (.ix (.v 2) (.v 6)) (.c (.int 2)))) (.cons (.seti (.v 2) (.v 5) (.tup (.cons (.ix (.ix (.v 2) (.v 5)) (.c (.int 0))) (.cons (.ix (.ix (.v 2) (.v 5)) (.c (.int 1))) (.cons (.v 7) (.cons (.bi .min (.cons (.c (.int 60)) (.cons (.o2 .add (.v 7) (.ix (.lst (.cons (.c (.int 0)) (.cons (.c (.int 0)) (.cons (.c (.int 1)) .nil)))) (.call 1001 (.ref 0 (.cons (.c (.int 3)) .nil))))) .nil))) (.cons (.c (.int 2)) .nil))))))) .nil)) .nil) (.cons (.frz 1) (.cons (.frz 2) (.cons (.ret (.lst (.cons (.v 1) (.cons (.c (.int 60)) (.cons (.v 2) .nil))))) .nil)))))))))⟩
/-- _law_clash: 0 meets 1 at 2 one 3 other -/
def g_law_clash : Def := ⟨1, 4, (.cons (.fr (.n 1) (.rng1 (.bi .len (.cons (.v 0) .nil))) (.cons (.asg (.n 2) (.ix (.v 0) (.v 1))) (.cons (.ife (.cm .lt (.ix (.v 2) (.c (.int 2))) (.ix (.v 2) (.c (.int 3)))) (.cons (.ret (.v 1)) .nil) .nil) (.cons (.fr (.n 3) (.seq (.sl (.v 0) .no (.yes (.v 1)))) (.cons (.ife (.ta (.cm .eq (.ix (.v 3) (.c (.int 2))) (.ix (.v 2) (.c (.int 2)))) (.to (.cm .inn (.ix (.v 3) (.c (.int 0))) (.sl (.v 2) .no (.yes (.c (.int 2))))) (.cm .inn (.ix (.v 3) (.c (.int 1))) (.sl (.v 2) .no (.yes (.c (.int 2))))))) (.cons (.ret (.v 1)) .nil) .nil) .nil)) .nil)))) (.cons (.ret (.c .non)) .nil))⟩
/-- _law_place: 0 made 1 meets 2 sacks 3 firmly 4 told 5 wrong -/
def g_law_place : Def := ⟨4, 6, (.cons (.asg (.n 4) (.c .non)) (.cons (.tr (.cons (.ex (.newk 27 [.a 0, .a 1, .a 2, .a 3, .a 4] (.cons (.call 1003 (.cons (.ix (.v 0) (.c (.int 0))) .nil)) (.cons (.ix (.v 0) (.c (.int 1))) (.cons (.v 1) .nil))) (.cons (.v 2) (.cons (.v 3) .nil)))) .nil) (.cons [42] (some 5) (.cons (.asg (.n 4) (.xat 5 1006)) .nil) (.cons [38] none (.cons (.asg (.n 4) (.c (.str "other"))) .nil) .nil))) (.cons (.ret (.v 4)) .nil)))⟩
/-- _law_no_two: 0 made 1 meets 2 sacks 3 day 4 plan 5 house 6 seen 7 number 8 hours 9 meet -/
def g_law_no_two : Def := ⟨3, 10, (.cons (.asg (.n 3) (.newk 27 [.a 0, .a 1, .a 2, .a 3, .a 4] (.cons (.call 1003 (.cons (.ix (.v 0) (.c (.int 0))) .nil)) (.cons (.ix (.v 0) (.c (.int 1))) (.cons (.v 1) .nil))) (.cons (.v 2) (.cons (.c (.bl true)) .nil)))) (.cons (.frz 3) (.cons (.asg (.n 4) (.new 46 (.cons (.v 3) (.cons (.c (.int 2)) .nil)))) (.cons (.ife (.to (.nt (.isi (.att (.v 3) 764) [.bool] true)) (.to (.nt (.att (.v 3) 764)) (.cm .ne (.att (.v 3) 866) (.c (.str "firm"))))) (.cons (.ret (.c (.bl false))) .nil) .nil) (.cons (.fr (.n 5) (.rng1 (.ix (.v 0) (.c (.int 0)))) (.cons (.asg (.n 6) (.lst .nil)) (.cons (.frz 4) (.cons (.fr (.n 7) (.seq (.meth 1165 (.cons (.v 4) (.cons (.v 5) .nil)))) (.cons (.frz 4) (.cons (.asg (.n 8) (.meth 1107 (.cons (.v 4) (.cons (.v 7) .nil)))) (.cons (.ife (.to (.cm .ne (.ix (.v 8) (.c (.int 0))) (.ix (.v 8) (.c (.int 1)))) (.cm .inn (.ix (.v 8) (.c (.int 0))) (.v 6))) (.cons (.ret (.c (.bl false))) .nil) .nil) (.cons (.app (.v 6) (.ix (.v 8) (.c (.int 0)))) .nil))))) (.cons (.ife (.cm .ne (.bi .len (.cons (.v 6) .nil)) (.o2 .mul (.c (.int 2)) (.bi .len (.cons (.lc [9] (.n 9) (.seq (.v 1)) (.yes (.cm .inn (.v 5) (.sl (.v 9) .no (.yes (.c (.int 2)))))) (.v 9)) .nil)))) (.cons (.ret (.c (.bl false))) .nil) .nil) .nil))))) (.cons (.ret (.c (.bl true))) .nil))))))⟩
/-- law: 0 script 1 draws 2 made 3 meets 4 sacks 5 house 6 due 7 told 8 meet 9 many -/
def f_law : Def := ⟨1, 10, (.cons (.asg (.n 1) (.call 1000 (.cons (.v 0) .nil))) (.cons (.ife (.cm .eq (.call 1001 (.ref 1 (.cons (.c (.int 4)) .nil))) (.c (.int 3))) (.cons (.asg (.n 2) (.call 1005 (.ref 1 .nil))) .nil) (.cons (.asg (.n 2) (.call 1004 (.ref 1 .nil))) .nil)) (.cons (.asg (.n 3) (.ix (.v 2) (.c (.int 2)))) (.cons (.asg (.n 4) (.c .non)) (.cons (.ife (.cm .eq (.call 1001 (.ref 1 (.cons (.c (.int 2)) .nil))) (.c (.int 1))) (.cons (.asg (.n 4) (.lc [5] (.n 5) (.rng1 (.ix (.v 2) (.c (.int 0)))) .no (.ix (.lst (.cons (.c .non) (.cons (.c (.int 1)) (.cons (.c (.int 5)) .nil)))) (.call 1001 (.ref 1 (.cons (.c (.int 3)) .nil)))))) .nil) .nil) (.cons (.asg (.n 6) (.call 1006 (.cons (.v 3) .nil))) (.cons (.frz 2) (.cons (.frz 4) (.cons (.asg (.n 7) (.call 1007 (.cons (.v 2) (.cons (.lc [8] (.n 8) (.seq (.v 3)) .no (.bi .list (.cons (.v 8) .nil))) (.cons (.v 4) (.cons (.c (.bl true)) .nil)))))) (.cons (.ife (.cm .is (.v 6) (.c .non)) (.cons (.ife (.cm .isnt (.v 7) (.c .non)) (.cons (.ret (.c (.bl false))) .nil) .nil) (.cons (.asg (.n 6) (.bi .len (.cons (.v 3) .nil))) .nil)) (.cons (.frz 7) (.cons (.ife (.to (.nt (.call 1002 (.cons (.v 7) .nil))) (.cm .ne (.v 7) (.v 6))) (.cons (.ret (.c (.bl false))) .nil) .nil) .nil))) (.cons (.frz 2) (.cons (.ife (.cm .isnt (.call 1007 (.cons (.v 2) (.cons (.bi .list (.cons (.v 3) .nil)) (.cons (.c .non) (.cons (.c (.bl false)) .nil))))) (.c .non)) (.cons (.ret (.c (.bl false))) .nil) .nil) (.cons (.fr (.n 9) (.rng2 (.bi .max (.cons (.c (.int 0)) (.cons (.o2 .sub (.v 6) (.c (.int 4))) .nil))) (.o2 .add (.v 6) (.c (.int 1)))) (.cons (.frz 2) (.cons (.frz 4) (.cons (.ife (.cm .isnt (.call 1007 (.cons (.v 2) (.cons (.sl (.v 3) .no (.yes (.v 9))) (.cons (.v 4) (.cons (.c (.bl true)) .nil))))) (.c .non)) (.cons (.ret (.c (.bl false))) .nil) .nil) .nil)))) (.cons (.frz 2) (.cons (.frz 4) (.cons (.ife (.ta (.cm .lt (.o2 .add (.v 6) (.c (.int 1))) (.bi .len (.cons (.v 3) .nil))) (.cm .ne (.call 1007 (.cons (.v 2) (.cons (.sl (.v 3) .no (.yes (.o2 .add (.v 6) (.c (.int 1))))) (.cons (.v 4) (.cons (.c (.bl true)) .nil))))) (.v 6))) (.cons (.ret (.c (.bl false))) .nil) .nil) (.cons (.frz 2) (.cons (.frz 4) (.cons (.ret (.call 1008 (.cons (.v 2) (.cons (.sl (.v 3) .no (.yes (.v 6))) (.cons (.v 4) .nil))))) .nil)))))))))))))))))))⟩
def lt : LT where
  fns := [(358, f_is_int), (263, f_check_number), (251, f_check_house), (365, f_is_row), (571, f_well_named), (260, f_check_names), (329, f_good_seats), (258, f_check_meeting), (259, f_check_meetings), (242, f_check_bags), (249, f_check_firm), (60, f_Day___init__), (66, f_Day_size), (63, f_Day_many), (62, f_Day_kind), (64, f_Day_meetings_of), (142, f_Plan___init__), (145, f_Plan_many), (150, f_Plan_size), (148, f_Plan_origin), (146, f_Plan_meeting), (151, f_Plan_stretch_of), (152, f_Plan_with_house), (1000, g_law_draws), (1001, g_law_take), (1002, g_law_int), (1003, g_law_names), (1004, g_law_few), (1005, g_law_many), (1006, g_law_clash), (1007, g_law_place), (1008, g_law_no_two), (1009, f_law)]
  atts := [(27, 764, .fld), (27, 954, .fld), (27, 831, .fld), (27, 933, .fld), (27, 639, .fld), (27, 1085, .prop 66), (27, 924, .prop 63), (27, 866, .prop 62), (27, 0, .con (.str "firm")), (27, 1, .con (.str "loose")), (46, 730, .fld), (46, 733, .fld), (46, 924, .prop 145), (46, 1085, .prop 150)]
  mths := [(27, 934, 64), (46, 992, 148), (46, 931, 146), (46, 1107, 151), (46, 1165, 152)]
  inis := [(27, 60), (46, 142)]
  sups := [(38, 38), (14, 14), (14, 38), (8, 8), (8, 38), (12, 12), (12, 38), (11, 11), (11, 38), (1, 1), (1, 38), (42, 42), (42, 38), (27, 27), (46, 46)]
  exf := [(14, [953]), (8, [953]), (12, [1006]), (11, [1006]), (1, [1006]), (42, [1006])]
  exc := [38, 14, 8, 12, 11, 1, 42]
def T : Tbl := lt.T
theorem T358 : T.fn 358 = some f_is_int := rfl
theorem T263 : T.fn 263 = some f_check_number := rfl
theorem T251 : T.fn 251 = some f_check_house := rfl
theorem T365 : T.fn 365 = some f_is_row := rfl
theorem T571 : T.fn 571 = some f_well_named := rfl
theorem T260 : T.fn 260 = some f_check_names := rfl
theorem T329 : T.fn 329 = some f_good_seats := rfl
theorem T258 : T.fn 258 = some f_check_meeting := rfl
theorem T259 : T.fn 259 = some f_check_meetings := rfl
theorem T242 : T.fn 242 = some f_check_bags := rfl
theorem T249 : T.fn 249 = some f_check_firm := rfl
theorem T60 : T.fn 60 = some f_Day___init__ := rfl
theorem T66 : T.fn 66 = some f_Day_size := rfl
theorem T63 : T.fn 63 = some f_Day_many := rfl
theorem T62 : T.fn 62 = some f_Day_kind := rfl
theorem T64 : T.fn 64 = some f_Day_meetings_of := rfl
theorem T142 : T.fn 142 = some f_Plan___init__ := rfl
theorem T145 : T.fn 145 = some f_Plan_many := rfl
theorem T150 : T.fn 150 = some f_Plan_size := rfl
theorem T148 : T.fn 148 = some f_Plan_origin := rfl
theorem T146 : T.fn 146 = some f_Plan_meeting := rfl
theorem T151 : T.fn 151 = some f_Plan_stretch_of := rfl
theorem T152 : T.fn 152 = some f_Plan_with_house := rfl
theorem T1000 : T.fn 1000 = some g_law_draws := rfl
theorem T1001 : T.fn 1001 = some g_law_take := rfl
theorem T1002 : T.fn 1002 = some g_law_int := rfl
theorem T1003 : T.fn 1003 = some g_law_names := rfl
theorem T1004 : T.fn 1004 = some g_law_few := rfl
theorem T1005 : T.fn 1005 = some g_law_many := rfl
theorem T1006 : T.fn 1006 = some g_law_clash := rfl
theorem T1007 : T.fn 1007 = some g_law_place := rfl
theorem T1008 : T.fn 1008 = some g_law_no_two := rfl
theorem T1009 : T.fn 1009 = some f_law := rfl
theorem I27 : T.ini 27 = some 60 := rfl
theorem I46 : T.ini 46 = some 142 := rfl
theorem M27_934 : T.mth 27 934 = some 64 := rfl
theorem M46_992 : T.mth 46 992 = some 148 := rfl
theorem M46_931 : T.mth 46 931 = some 146 := rfl
theorem M46_1107 : T.mth 46 1107 = some 151 := rfl
theorem M46_1165 : T.mth 46 1165 = some 152 := rfl
theorem A27_764 : T.att 27 764 = .fld := rfl
theorem A27_954 : T.att 27 954 = .fld := rfl
theorem A27_831 : T.att 27 831 = .fld := rfl
theorem A27_933 : T.att 27 933 = .fld := rfl
theorem A27_639 : T.att 27 639 = .fld := rfl
theorem A27_1085 : T.att 27 1085 = .prop 66 := rfl
theorem A27_924 : T.att 27 924 = .prop 63 := rfl
theorem A27_866 : T.att 27 866 = .prop 62 := rfl
theorem A27_0 : T.att 27 0 = .con (.str "firm") := rfl
theorem A27_1 : T.att 27 1 = .con (.str "loose") := rfl
theorem A46_730 : T.att 46 730 = .fld := rfl
theorem A46_733 : T.att 46 733 = .fld := rfl
theorem A46_924 : T.att 46 924 = .prop 145 := rfl
theorem A46_1085 : T.att 46 1085 = .prop 150 := rfl
end Pv

set_option Elab.async false
set_option linter.all false
set_option maxRecDepth 100000
/-! P1: numbers, names, meetings: what the checks let by. -/
namespace Pv.Pl
open PySem

theorem is_int_ok (n : Nat) (i : Int) : callN T (n + 1) 358 [.fz (.int i)] = .ok (.fz (.bl true)) [some (.fz (.int i))] := rfl
theorem is_row_l (n : Nat) (xs : List D) : callN T (n + 1) 365 [.fz (.lst xs)] = .ok (.fz (.bl true)) [some (.fz (.lst xs))] := rfl
theorem is_row_t (n : Nat) (xs : List D) : callN T (n + 1) 365 [.fz (.tup xs)] = .ok (.fz (.bl true)) [some (.fz (.tup xs))] := rfl
theorem df {p : Prop} [Decidable p] (h : ¬p) : decide p = false := decide_eq_false h
theorem check_number_ok (n : Nat) (nm : D) (x lo hi : Int) (h1 : lo ≤ x) (h2 : x ≤ hi) : callN T (n + 2) 263 [.fz nm, .fz (.int x), .fz (.int lo), .fz (.int hi)] = .ok (.fz .non) [some (.fz nm), some (.fz (.int x)), some (.fz (.int lo)), some (.fz (.int hi))] := by
  have e1 : decide (x < lo) = false := df (by omega)
  have e2 : decide (hi < x) = false := df (by omega)
  rw [call_of T263 rfl]
  simp only [f_check_number, exss, exs, ev, evs, evv, evI, evc, evo, E.pur, EL.pur, OE.pur, g0, g1, g2, g3, g4, g5, g6, g7, g8, g9, g10, g11, s0, s1, s2, s3, s4, s5, s6, s7, s8, s9, s10, s11, at_fz, at_lst, at_obj, bind_ok, bind_exc, fl_ok, fl_exc, of_some, held_fz, held_tmp, held_vw, held_t, new_fz, new_lst, new_obj, own_fz, own_tmp, fin_fz, fin_tmp, tr_bl, tr_int, tr_non, c_lt, c_le, c_gt, c_ge, c_eqi, c_nei, c_eqs, c_nes, c_is0, c_isi, c_isl, c_isnt0, c_isnti, c_isntl, o_add, o_sub, b_lenl, b_lent, b_lenm, b_lenv, b_int, b_bool, b_tupt, b_tupl, b_tupm, b_listt, b_listl, cf0, cf1, cf2, cf3, cf4, cf5, oc_ok, oc_exc, tb_none, tb_some, tb_nil, Option.map_some, Bool.not_true, Bool.not_false, Bool.and_self, Bool.and_true, Bool.true_and, if_true, List.map_cons, List.map_nil, List.nil_append, List.cons_append, Nat.reduceSub, Nat.sub_self, List.replicate_zero, List.replicate_succ, List.append_nil, fi0, fi1, fi2, fi3, fi4, fi5, it_l, it_t, sl_l, sl_t, wk_l, wk_t, wl_l, wl_t, wk_n, wl_n, bg_n, fin_newL, is_int_ok, e1, e2]
  rfl
theorem check_house_ok (n : Nat) (nm : D) (x m : Int) (h1 : 0 ≤ x) (h2 : x < m) : callN T (n + 2) 251 [.fz nm, .fz (.int x), .fz (.int m)] = .ok (.fz .non) [some (.fz nm), some (.fz (.int x)), some (.fz (.int m))] := by
  have e1 : decide (0 ≤ x) = true := decide_eq_true h1
  have e2 : decide (x < m) = true := decide_eq_true h2
  rw [call_of T251 rfl]
  simp only [f_check_house, exss, exs, ev, evs, evv, evI, evc, evo, E.pur, EL.pur, OE.pur, g0, g1, g2, g3, g4, g5, g6, g7, g8, g9, g10, g11, s0, s1, s2, s3, s4, s5, s6, s7, s8, s9, s10, s11, at_fz, at_lst, at_obj, bind_ok, bind_exc, fl_ok, fl_exc, of_some, held_fz, held_tmp, held_vw, held_t, new_fz, new_lst, new_obj, own_fz, own_tmp, fin_fz, fin_tmp, tr_bl, tr_int, tr_non, c_lt, c_le, c_gt, c_ge, c_eqi, c_nei, c_eqs, c_nes, c_is0, c_isi, c_isl, c_isnt0, c_isnti, c_isntl, o_add, o_sub, b_lenl, b_lent, b_lenm, b_lenv, b_int, b_bool, b_tupt, b_tupl, b_tupm, b_listt, b_listl, cf0, cf1, cf2, cf3, cf4, cf5, oc_ok, oc_exc, tb_none, tb_some, tb_nil, Option.map_some, Bool.not_true, Bool.not_false, Bool.and_self, Bool.and_true, Bool.true_and, if_true, List.map_cons, List.map_nil, List.nil_append, List.cons_append, Nat.reduceSub, Nat.sub_self, List.replicate_zero, List.replicate_succ, List.append_nil, fi0, fi1, fi2, fi3, fi4, fi5, it_l, it_t, sl_l, sl_t, wk_l, wk_t, wl_l, wl_t, wk_n, wl_n, bg_n, fin_newL, is_int_ok, e1, e2]
  rfl
def names12 : List D := [.str "a", .str "b", .str "c", .str "d", .str "e", .str "f", .str "g", .str "h", .str "i", .str "j", .str "k", .str "l"]
theorem upto12 {z : Int} (h0 : 0 ≤ z) (h : z ≤ 12) : z = 0 ∨ z = 1 ∨ z = 2 ∨ z = 3 ∨ z = 4 ∨ z = 5 ∨ z = 6 ∨ z = 7 ∨ z = 8 ∨ z = 9 ∨ z = 10 ∨ z = 11 ∨ z = 12 := by omega
theorem law_names_ok (n : Nat) (z : Int) (h0 : 0 ≤ z) (h : z ≤ 12) : callN T (n + 1) 1003 [.fz (.int z)] = .ok (newL (names12.take z.toNat)).o [some (.fz (.int z))] := by
  rcases upto12 h0 h with rfl | rfl | rfl | rfl | rfl | rfl | rfl | rfl | rfl | rfl | rfl | rfl | rfl <;> rfl
theorem check_names_ok (n : Nat) (z : Int) (h0 : 2 ≤ z) (h : z ≤ 12) : callN T (n + 3) 260 [.fz (.lst (names12.take z.toNat))] = .ok (.fz .non) [some (.fz (.lst (names12.take z.toNat)))] := by
  rcases upto12 (by omega) h with rfl | rfl | rfl | rfl | rfl | rfl | rfl | rfl | rfl | rfl | rfl | rfl | rfl
  · omega
  · omega
  all_goals kernel_rfl
theorem good_seats_ok (n : Nat) (s : Int) (h1 : 1 ≤ s) (h2 : s ≤ 1000000000000000000000000000000) : callN T (n + 2) 329 [.fz (.int s)] = .ok (.fz (.bl true)) [some (.fz (.int s))] := by
  have e1 : decide (1 ≤ s) = true := decide_eq_true h1
  have e2 : decide (s ≤ 1000000000000000000000000000000) = true := decide_eq_true h2
  rw [call_of T329 rfl]
  simp only [f_good_seats, exss, exs, ev, evs, evv, evI, evc, evo, E.pur, EL.pur, OE.pur, g0, g1, g2, g3, g4, g5, g6, g7, g8, g9, g10, g11, s0, s1, s2, s3, s4, s5, s6, s7, s8, s9, s10, s11, at_fz, at_lst, at_obj, bind_ok, bind_exc, fl_ok, fl_exc, of_some, held_fz, held_tmp, held_vw, held_t, new_fz, new_lst, new_obj, own_fz, own_tmp, fin_fz, fin_tmp, tr_bl, tr_int, tr_non, c_lt, c_le, c_gt, c_ge, c_eqi, c_nei, c_eqs, c_nes, c_is0, c_isi, c_isl, c_isnt0, c_isnti, c_isntl, o_add, o_sub, b_lenl, b_lent, b_lenm, b_lenv, b_int, b_bool, b_tupt, b_tupl, b_tupm, b_listt, b_listl, cf0, cf1, cf2, cf3, cf4, cf5, oc_ok, oc_exc, tb_none, tb_some, tb_nil, Option.map_some, Bool.not_true, Bool.not_false, Bool.and_self, Bool.and_true, Bool.true_and, if_true, List.map_cons, List.map_nil, List.nil_append, List.cons_append, Nat.reduceSub, Nat.sub_self, List.replicate_zero, List.replicate_succ, List.append_nil, fi0, fi1, fi2, fi3, fi4, fi5, it_l, it_t, sl_l, sl_t, wk_l, wk_t, wl_l, wl_t, wk_n, wl_n, bg_n, fin_newL, is_int_ok, e1, e2]
  rfl
/-- a meeting -/
structure M5 where
  a : Int
  b : Int
  e : Int
  l : Int
  s : Int
def M5.xs (m : M5) : List D := [.int m.a, .int m.b, .int m.e, .int m.l, .int m.s]
def Row (m : M5) (d : D) : Prop := d = .tup m.xs ∨ d = .lst m.xs
structure M5.ok (size hours : Int) (m : M5) : Prop where
  a0 : 0 ≤ m.a
  a1 : m.a < size
  b0 : 0 ≤ m.b
  b1 : m.b < size
  ne : m.a ≠ m.b
  e0 : 1 ≤ m.e
  el : m.e ≤ m.l
  l1 : m.l ≤ hours
  s0 : 1 ≤ m.s
  s1 : m.s ≤ 1000000000000000000000000000000
theorem check_meeting_ok (n : Nat) (pl : D) (d : D) (m : M5) (size hours : Int) (hr : Row m d) (h : m.ok size hours) : callN T (n + 3) 258 [.fz pl, .fz d, .fz (.int size), .fz (.int hours)] = .ok (.fz .non) [some (.fz pl), some (.fz d), some (.fz (.int size)), some (.fz (.int hours))] := by
  obtain ⟨a, b, e, l, s⟩ := m
  obtain ⟨h1, h2, h3, h4, h5, h6, h7, h8, h9, h10⟩ := h
  dsimp only at h1 h2 h3 h4 h5 h6 h7 h8 h9 h10
  have c1 : decide (0 ≤ a) = true := decide_eq_true h1
  have c2 : decide (a < size) = true := decide_eq_true h2
  have c3 : decide (0 ≤ b) = true := decide_eq_true h3
  have c4 : decide (b < size) = true := decide_eq_true h4
  have c5 : (a == b) = false := by simpa using h5
  have c6 : decide (1 ≤ e) = true := decide_eq_true h6
  have c7 : decide (e ≤ l) = true := decide_eq_true h7
  have c8 : decide (l ≤ hours) = true := decide_eq_true h8
  have gs := good_seats_ok n s h9 h10
  rcases hr with rfl | rfl
  · have q : ev T (callN T (n + 2)) none (.to (.nt (.call 365 (.cons (.v 1) .nil))) (.to (.cm .ne (.bi .len (.cons (.v 1) .nil)) (.c (.int 5))) (.nt (.bi .all (.cons (.lc [4] (.n 4) (.seq (.v 1)) .no (.call 358 (.cons (.v 4) .nil))) .nil))))) [some (.fz pl), some (.fz (.tup (M5.xs ⟨a, b, e, l, s⟩))), some (.fz (.int size)), some (.fz (.int hours)), none, none, none, none, none, none] =
      .ok (.fz (.bl false)) [some (.fz pl), some (.fz (.tup (M5.xs ⟨a, b, e, l, s⟩))), some (.fz (.int size)), some (.fz (.int hours)), none, none, none, none, none, none] := rfl
    rw [call_of T258 rfl]
    simp only [f_check_meeting, exss, exs, List.map_cons, List.map_nil, List.nil_append, List.cons_append, List.replicate_succ, List.replicate_zero, Nat.reduceSub, q, fl_ok, tr_bl]
    simp only [exss, exs, ev, evs, evv, evI, evc, evo, E.pur, EL.pur, OE.pur, g0, g1, g2, g3, g4, g5, g6, g7, g8, g9, g10, g11, s0, s1, s2, s3, s4, s5, s6, s7, s8, s9, s10, s11, at_fz, at_lst, at_obj, bind_ok, bind_exc, fl_ok, fl_exc, of_some, held_fz, held_tmp, held_vw, held_t, new_fz, new_lst, new_obj, own_fz, own_tmp, fin_fz, fin_tmp, tr_bl, tr_int, tr_non, c_lt, c_le, c_gt, c_ge, c_eqi, c_nei, c_eqs, c_nes, c_is0, c_isi, c_isl, c_isnt0, c_isnti, c_isntl, o_add, o_sub, b_lenl, b_lent, b_lenm, b_lenv, b_int, b_bool, b_tupt, b_tupl, b_tupm, b_listt, b_listl, cf0, cf1, cf2, cf3, cf4, cf5, oc_ok, oc_exc, tb_none, tb_some, tb_nil, Option.map_some, Bool.not_true, Bool.not_false, Bool.and_self, Bool.and_true, Bool.true_and, if_true, List.map_cons, List.map_nil, List.nil_append, List.cons_append, Nat.reduceSub, Nat.sub_self, List.replicate_zero, List.replicate_succ, List.append_nil, fi0, fi1, fi2, fi3, fi4, fi5, it_l, it_t, sl_l, sl_t, wk_l, wk_t, wl_l, wl_t, wk_n, wl_n, bg_n, fin_newL, M5.xs, bindG, bindGs, Option.bind_some, c1, c2, c3, c4, c5, c6, c7, c8, gs]
    rfl
  · have q : ev T (callN T (n + 2)) none (.to (.nt (.call 365 (.cons (.v 1) .nil))) (.to (.cm .ne (.bi .len (.cons (.v 1) .nil)) (.c (.int 5))) (.nt (.bi .all (.cons (.lc [4] (.n 4) (.seq (.v 1)) .no (.call 358 (.cons (.v 4) .nil))) .nil))))) [some (.fz pl), some (.fz (.lst (M5.xs ⟨a, b, e, l, s⟩))), some (.fz (.int size)), some (.fz (.int hours)), none, none, none, none, none, none] =
      .ok (.fz (.bl false)) [some (.fz pl), some (.fz (.lst (M5.xs ⟨a, b, e, l, s⟩))), some (.fz (.int size)), some (.fz (.int hours)), none, none, none, none, none, none] := rfl
    rw [call_of T258 rfl]
    simp only [f_check_meeting, exss, exs, List.map_cons, List.map_nil, List.nil_append, List.cons_append, List.replicate_succ, List.replicate_zero, Nat.reduceSub, q, fl_ok, tr_bl]
    simp only [exss, exs, ev, evs, evv, evI, evc, evo, E.pur, EL.pur, OE.pur, g0, g1, g2, g3, g4, g5, g6, g7, g8, g9, g10, g11, s0, s1, s2, s3, s4, s5, s6, s7, s8, s9, s10, s11, at_fz, at_lst, at_obj, bind_ok, bind_exc, fl_ok, fl_exc, of_some, held_fz, held_tmp, held_vw, held_t, new_fz, new_lst, new_obj, own_fz, own_tmp, fin_fz, fin_tmp, tr_bl, tr_int, tr_non, c_lt, c_le, c_gt, c_ge, c_eqi, c_nei, c_eqs, c_nes, c_is0, c_isi, c_isl, c_isnt0, c_isnti, c_isntl, o_add, o_sub, b_lenl, b_lent, b_lenm, b_lenv, b_int, b_bool, b_tupt, b_tupl, b_tupm, b_listt, b_listl, cf0, cf1, cf2, cf3, cf4, cf5, oc_ok, oc_exc, tb_none, tb_some, tb_nil, Option.map_some, Bool.not_true, Bool.not_false, Bool.and_self, Bool.and_true, Bool.true_and, if_true, List.map_cons, List.map_nil, List.nil_append, List.cons_append, Nat.reduceSub, Nat.sub_self, List.replicate_zero, List.replicate_succ, List.append_nil, fi0, fi1, fi2, fi3, fi4, fi5, it_l, it_t, sl_l, sl_t, wk_l, wk_t, wl_l, wl_t, wk_n, wl_n, bg_n, fin_newL, M5.xs, bindG, bindGs, Option.bind_some, c1, c2, c3, c4, c5, c6, c7, c8, gs]
    rfl
end Pv.Pl

set_option Elab.async false
set_option linter.all false
set_option maxRecDepth 100000
/-! P2: meetings, bags, firm days: what the checks tell. -/
namespace Pv.Pl
open PySem

def Rows : List M5 → List D → Prop
  | [], [] => True
  | m :: ms, d :: ds => Row m d ∧ Rows ms ds
  | _, _ => False
theorem Rows.len : ∀ {ms : List M5} {ds : List D}, Rows ms ds → ds.length = ms.length
  | [], [], _ => rfl
  | m :: ms, d :: ds, h => by rw [List.length_cons, List.length_cons, Rows.len h.2]
  | [], _ :: _, h => h.elim
  | _ :: _, [], h => h.elim
theorem Rows.at_ : ∀ {ms : List M5} {ds : List D} {k : Nat} {m : M5}, Rows ms ds → ms[k]? = some m → ∃ d, ds[k]? = some d ∧ Row m d
  | m :: ms, d :: ds, 0, _, h, e => by cases e; exact ⟨d, rfl, h.1⟩
  | m :: ms, d :: ds, k + 1, _, h, e => Rows.at_ (k := k) h.2 (by simpa using e)
  | [], _, k, _, h, e => by simp at e
  | _ :: _, [], _, _, h, _ => h.elim
theorem Rows.take : ∀ {ms : List M5} {ds : List D} (k : Nat), Rows ms ds → Rows (ms.take k) (ds.take k)
  | _, _, 0, _ => by simp [Rows]
  | m :: ms, d :: ds, k + 1, h => ⟨h.1, Rows.take k h.2⟩
  | [], [], k + 1, _ => by simp [Rows]
  | [], _ :: _, _, h => h.elim
  | _ :: _, [], _, h => h.elim
theorem check_meetings_ok (n : Nat) (ds : List D) (ms : List M5) (size hours : Int) (hR : Rows ms ds) (hok : ∀ m ∈ ms, m.ok size hours) (hl : ds.length ≤ 60) : callN T (n + 4) 259 [.fz (.lst ds), .fz (.int size), .fz (.int hours)] = .ok (.fz .non) [some (.fz (.lst ds)), some (.fz (.int size)), some (.fz (.int hours))] := by
  have e1 : decide ((60 : Int) < (ds.length : Int)) = false := df (by omega)
  refine call_body T259 rfl (v := [some (.fz (.lst ds)), some (.fz (.int size)), some (.fz (.int hours)), none, none]) rfl ?_
  refine run_next (v1 := [some (.fz (.lst ds)), some (.fz (.int size)), some (.fz (.int hours)), none, none]) ?_ ?_
  · simp only [exss, exs, ev, evs, evv, evI, evc, evo, E.pur, EL.pur, OE.pur, g0, g1, g2, g3, g4, g5, g6, g7, g8, g9, g10, g11, s0, s1, s2, s3, s4, s5, s6, s7, s8, s9, s10, s11, at_fz, at_lst, at_obj, bind_ok, bind_exc, fl_ok, fl_exc, of_some, held_fz, held_tmp, held_vw, held_t, new_fz, new_lst, new_obj, own_fz, own_tmp, fin_fz, fin_tmp, tr_bl, tr_int, tr_non, c_lt, c_le, c_gt, c_ge, c_eqi, c_nei, c_eqs, c_nes, c_is0, c_isi, c_isl, c_isnt0, c_isnti, c_isntl, o_add, o_sub, b_lenl, b_lent, b_lenm, b_lenv, b_int, b_bool, b_tupt, b_tupl, b_tupm, b_listt, b_listl, cf0, cf1, cf2, cf3, cf4, cf5, oc_ok, oc_exc, tb_none, tb_some, tb_nil, Option.map_some, Bool.not_true, Bool.not_false, Bool.and_self, Bool.and_true, Bool.true_and, if_true, List.map_cons, List.map_nil, List.nil_append, List.cons_append, Nat.reduceSub, Nat.sub_self, List.replicate_zero, List.replicate_succ, List.append_nil, fi0, fi1, fi2, fi3, fi4, fi5, it_l, it_t, sl_l, sl_t, wk_l, wk_t, wl_l, wl_t, wk_n, wl_n, bg_n, fin_newL, is_row_l, e1]
  obtain ⟨v2, h1, h2⟩ := for_inv (g := .t [.n 3, .n 4]) (body := exss T (callN T (n + 3)) none (.cons (.ex (.call 258 (.cons (.v 3) (.cons (.v 4) (.cons (.v 1) (.cons (.v 2) .nil)))))) .nil))
    (fun rest v => ∃ k ms' ds', rest = enumD k ds' ∧ Rows ms' ds' ∧ (∀ m ∈ ms', m.ok size hours) ∧ ∃ x y, v = [some (.fz (.lst ds)), some (.fz (.int size)), some (.fz (.int hours)), x, y])
    (ds := enumD 0 ds) (v := [some (.fz (.lst ds)), some (.fz (.int size)), some (.fz (.int hours)), none, none]) ⟨0, ms, ds, rfl, hR, hok, none, none, rfl⟩ (by
      rintro d rest v ⟨k, ms', ds', hd, hr, ho, x, y, rfl⟩
      cases ds' with
      | nil => cases hd
      | cons d' ds' =>
        cases ms' with
        | nil => exact hr.elim
        | cons m ms' =>
          cases hd
          have c := check_meeting_ok n (.int (k : Int)) d' m size hours hr.1 (ho m List.mem_cons_self)
          refine ⟨_, [some (.fz (.lst ds)), some (.fz (.int size)), some (.fz (.int hours)), some (.fz (.int (k : Int))), some (.fz d')], rfl, .inl ?_, k + 1, ms', ds', rfl, hr.2, fun m hm => ho m (List.mem_cons_of_mem _ hm), _, _, rfl⟩
          simp only [exss, exs, ev, evs, evv, evI, evc, evo, E.pur, EL.pur, OE.pur, g0, g1, g2, g3, g4, g5, g6, g7, g8, g9, g10, g11, s0, s1, s2, s3, s4, s5, s6, s7, s8, s9, s10, s11, at_fz, at_lst, at_obj, bind_ok, bind_exc, fl_ok, fl_exc, of_some, held_fz, held_tmp, held_vw, held_t, new_fz, new_lst, new_obj, own_fz, own_tmp, fin_fz, fin_tmp, tr_bl, tr_int, tr_non, c_lt, c_le, c_gt, c_ge, c_eqi, c_nei, c_eqs, c_nes, c_is0, c_isi, c_isl, c_isnt0, c_isnti, c_isntl, o_add, o_sub, b_lenl, b_lent, b_lenm, b_lenv, b_int, b_bool, b_tupt, b_tupl, b_tupm, b_listt, b_listl, cf0, cf1, cf2, cf3, cf4, cf5, oc_ok, oc_exc, tb_none, tb_some, tb_nil, Option.map_some, Bool.not_true, Bool.not_false, Bool.and_self, Bool.and_true, Bool.true_and, if_true, List.map_cons, List.map_nil, List.nil_append, List.cons_append, Nat.reduceSub, Nat.sub_self, List.replicate_zero, List.replicate_succ, List.append_nil, fi0, fi1, fi2, fi3, fi4, fi5, it_l, it_t, sl_l, sl_t, wk_l, wk_t, wl_l, wl_t, wk_n, wl_n, bg_n, fin_newL, c])
  obtain ⟨_, _, _, _, _, _, x, y, rfl⟩ := h2
  refine run_next (exs_for (by simp only [exss, exs, ev, evs, evv, evI, evc, evo, E.pur, EL.pur, OE.pur, g0, g1, g2, g3, g4, g5, g6, g7, g8, g9, g10, g11, s0, s1, s2, s3, s4, s5, s6, s7, s8, s9, s10, s11, at_fz, at_lst, at_obj, bind_ok, bind_exc, fl_ok, fl_exc, of_some, held_fz, held_tmp, held_vw, held_t, new_fz, new_lst, new_obj, own_fz, own_tmp, fin_fz, fin_tmp, tr_bl, tr_int, tr_non, c_lt, c_le, c_gt, c_ge, c_eqi, c_nei, c_eqs, c_nes, c_is0, c_isi, c_isl, c_isnt0, c_isnti, c_isntl, o_add, o_sub, b_lenl, b_lent, b_lenm, b_lenv, b_int, b_bool, b_tupt, b_tupl, b_tupm, b_listt, b_listl, cf0, cf1, cf2, cf3, cf4, cf5, oc_ok, oc_exc, tb_none, tb_some, tb_nil, Option.map_some, Bool.not_true, Bool.not_false, Bool.and_self, Bool.and_true, Bool.true_and, if_true, List.map_cons, List.map_nil, List.nil_append, List.cons_append, Nat.reduceSub, Nat.sub_self, List.replicate_zero, List.replicate_succ, List.append_nil, fi0, fi1, fi2, fi3, fi4, fi5, it_l, it_t, sl_l, sl_t, wk_l, wk_t, wl_l, wl_t, wk_n, wl_n, bg_n, fin_newL, Val.walksL, Val.items]) h1) ?_
  rfl
/-- a bag -/
def BagOk (d : D) : Prop := d = .non ∨ ∃ i : Int, d = .int i ∧ 1 ≤ i ∧ i ≤ 1000000000000000000000000000000
theorem check_bags_non (n : Nat) (size firm : D) : callN T (n + 1) 242 [.fz .non, .fz size, .fz firm] = .ok (.fz .non) [some (.fz .non), some (.fz size), some (.fz firm)] := rfl
theorem check_bags_ok (n : Nat) (bs : List D) (hb : ∀ b ∈ bs, BagOk b) : callN T (n + 3) 242 [.fz (.lst bs), .fz (.int bs.length), .fz (.bl true)] = .ok (.fz .non) [some (.fz (.lst bs)), some (.fz (.int bs.length)), some (.fz (.bl true))] := by
  have e1 : ((bs.length : Int) == (bs.length : Int)) = true := by simp
  refine call_body T242 rfl (v := [some (.fz (.lst bs)), some (.fz (.int bs.length)), some (.fz (.bl true)), none, none]) rfl ?_
  refine run_next (v1 := [some (.fz (.lst bs)), some (.fz (.int bs.length)), some (.fz (.bl true)), none, none]) ?_ ?_
  · simp only [exss, exs, ev, evs, evv, evI, evc, evo, E.pur, EL.pur, OE.pur, g0, g1, g2, g3, g4, g5, g6, g7, g8, g9, g10, g11, s0, s1, s2, s3, s4, s5, s6, s7, s8, s9, s10, s11, at_fz, at_lst, at_obj, bind_ok, bind_exc, fl_ok, fl_exc, of_some, held_fz, held_tmp, held_vw, held_t, new_fz, new_lst, new_obj, own_fz, own_tmp, fin_fz, fin_tmp, tr_bl, tr_int, tr_non, c_lt, c_le, c_gt, c_ge, c_eqi, c_nei, c_eqs, c_nes, c_is0, c_isi, c_isl, c_isnt0, c_isnti, c_isntl, o_add, o_sub, b_lenl, b_lent, b_lenm, b_lenv, b_int, b_bool, b_tupt, b_tupl, b_tupm, b_listt, b_listl, cf0, cf1, cf2, cf3, cf4, cf5, oc_ok, oc_exc, tb_none, tb_some, tb_nil, Option.map_some, Bool.not_true, Bool.not_false, Bool.and_self, Bool.and_true, Bool.true_and, if_true, List.map_cons, List.map_nil, List.nil_append, List.cons_append, Nat.reduceSub, Nat.sub_self, List.replicate_zero, List.replicate_succ, List.append_nil, fi0, fi1, fi2, fi3, fi4, fi5, it_l, it_t, sl_l, sl_t, wk_l, wk_t, wl_l, wl_t, wk_n, wl_n, bg_n, fin_newL]
  refine run_next (v1 := [some (.fz (.lst bs)), some (.fz (.int bs.length)), some (.fz (.bl true)), none, none]) ?_ ?_
  · simp only [exss, exs, ev, evs, evv, evI, evc, evo, E.pur, EL.pur, OE.pur, g0, g1, g2, g3, g4, g5, g6, g7, g8, g9, g10, g11, s0, s1, s2, s3, s4, s5, s6, s7, s8, s9, s10, s11, at_fz, at_lst, at_obj, bind_ok, bind_exc, fl_ok, fl_exc, of_some, held_fz, held_tmp, held_vw, held_t, new_fz, new_lst, new_obj, own_fz, own_tmp, fin_fz, fin_tmp, tr_bl, tr_int, tr_non, c_lt, c_le, c_gt, c_ge, c_eqi, c_nei, c_eqs, c_nes, c_is0, c_isi, c_isl, c_isnt0, c_isnti, c_isntl, o_add, o_sub, b_lenl, b_lent, b_lenm, b_lenv, b_int, b_bool, b_tupt, b_tupl, b_tupm, b_listt, b_listl, cf0, cf1, cf2, cf3, cf4, cf5, oc_ok, oc_exc, tb_none, tb_some, tb_nil, Option.map_some, Bool.not_true, Bool.not_false, Bool.and_self, Bool.and_true, Bool.true_and, if_true, List.map_cons, List.map_nil, List.nil_append, List.cons_append, Nat.reduceSub, Nat.sub_self, List.replicate_zero, List.replicate_succ, List.append_nil, fi0, fi1, fi2, fi3, fi4, fi5, it_l, it_t, sl_l, sl_t, wk_l, wk_t, wl_l, wl_t, wk_n, wl_n, bg_n, fin_newL, is_row_l, e1]
  obtain ⟨v2, h1, h2⟩ := for_inv (g := .t [.n 3, .n 4]) (body := exss T (callN T (n + 2)) none (.cons (.ife (.ta (.cm .isnt (.v 4) (.c .non)) (.nt (.ta (.v 2) (.call 329 (.cons (.v 4) .nil))))) (.cons (.raise 1 (.cons (.v 3) .nil)) .nil) .nil) .nil))
    (fun rest v => ∃ k ds', rest = enumD k ds' ∧ (∀ b ∈ ds', BagOk b) ∧ ∃ x y, v = [some (.fz (.lst bs)), some (.fz (.int bs.length)), some (.fz (.bl true)), x, y])
    (ds := enumD 0 bs) (v := [some (.fz (.lst bs)), some (.fz (.int bs.length)), some (.fz (.bl true)), none, none]) ⟨0, bs, rfl, hb, none, none, rfl⟩ (by
      rintro d rest v ⟨k, ds', hd, ho, x, y, rfl⟩
      cases ds' with
      | nil => cases hd
      | cons d' ds' =>
        cases hd
        refine ⟨_, [some (.fz (.lst bs)), some (.fz (.int bs.length)), some (.fz (.bl true)), some (.fz (.int (k : Int))), some (.fz d')], rfl, .inl ?_, k + 1, ds', rfl, fun m hm => ho m (List.mem_cons_of_mem _ hm), _, _, rfl⟩
        rcases ho d' List.mem_cons_self with rfl | ⟨i, rfl, i1, i2⟩
        · simp only [exss, exs, ev, evs, evv, evI, evc, evo, E.pur, EL.pur, OE.pur, g0, g1, g2, g3, g4, g5, g6, g7, g8, g9, g10, g11, s0, s1, s2, s3, s4, s5, s6, s7, s8, s9, s10, s11, at_fz, at_lst, at_obj, bind_ok, bind_exc, fl_ok, fl_exc, of_some, held_fz, held_tmp, held_vw, held_t, new_fz, new_lst, new_obj, own_fz, own_tmp, fin_fz, fin_tmp, tr_bl, tr_int, tr_non, c_lt, c_le, c_gt, c_ge, c_eqi, c_nei, c_eqs, c_nes, c_is0, c_isi, c_isl, c_isnt0, c_isnti, c_isntl, o_add, o_sub, b_lenl, b_lent, b_lenm, b_lenv, b_int, b_bool, b_tupt, b_tupl, b_tupm, b_listt, b_listl, cf0, cf1, cf2, cf3, cf4, cf5, oc_ok, oc_exc, tb_none, tb_some, tb_nil, Option.map_some, Bool.not_true, Bool.not_false, Bool.and_self, Bool.and_true, Bool.true_and, if_true, List.map_cons, List.map_nil, List.nil_append, List.cons_append, Nat.reduceSub, Nat.sub_self, List.replicate_zero, List.replicate_succ, List.append_nil, fi0, fi1, fi2, fi3, fi4, fi5, it_l, it_t, sl_l, sl_t, wk_l, wk_t, wl_l, wl_t, wk_n, wl_n, bg_n, fin_newL]
        · simp only [exss, exs, ev, evs, evv, evI, evc, evo, E.pur, EL.pur, OE.pur, g0, g1, g2, g3, g4, g5, g6, g7, g8, g9, g10, g11, s0, s1, s2, s3, s4, s5, s6, s7, s8, s9, s10, s11, at_fz, at_lst, at_obj, bind_ok, bind_exc, fl_ok, fl_exc, of_some, held_fz, held_tmp, held_vw, held_t, new_fz, new_lst, new_obj, own_fz, own_tmp, fin_fz, fin_tmp, tr_bl, tr_int, tr_non, c_lt, c_le, c_gt, c_ge, c_eqi, c_nei, c_eqs, c_nes, c_is0, c_isi, c_isl, c_isnt0, c_isnti, c_isntl, o_add, o_sub, b_lenl, b_lent, b_lenm, b_lenv, b_int, b_bool, b_tupt, b_tupl, b_tupm, b_listt, b_listl, cf0, cf1, cf2, cf3, cf4, cf5, oc_ok, oc_exc, tb_none, tb_some, tb_nil, Option.map_some, Bool.not_true, Bool.not_false, Bool.and_self, Bool.and_true, Bool.true_and, if_true, List.map_cons, List.map_nil, List.nil_append, List.cons_append, Nat.reduceSub, Nat.sub_self, List.replicate_zero, List.replicate_succ, List.append_nil, fi0, fi1, fi2, fi3, fi4, fi5, it_l, it_t, sl_l, sl_t, wk_l, wk_t, wl_l, wl_t, wk_n, wl_n, bg_n, fin_newL, good_seats_ok n i i1 i2])
  obtain ⟨_, _, _, _, x, y, rfl⟩ := h2
  refine run_next (exs_for (by simp only [exss, exs, ev, evs, evv, evI, evc, evo, E.pur, EL.pur, OE.pur, g0, g1, g2, g3, g4, g5, g6, g7, g8, g9, g10, g11, s0, s1, s2, s3, s4, s5, s6, s7, s8, s9, s10, s11, at_fz, at_lst, at_obj, bind_ok, bind_exc, fl_ok, fl_exc, of_some, held_fz, held_tmp, held_vw, held_t, new_fz, new_lst, new_obj, own_fz, own_tmp, fin_fz, fin_tmp, tr_bl, tr_int, tr_non, c_lt, c_le, c_gt, c_ge, c_eqi, c_nei, c_eqs, c_nes, c_is0, c_isi, c_isl, c_isnt0, c_isnti, c_isntl, o_add, o_sub, b_lenl, b_lent, b_lenm, b_lenv, b_int, b_bool, b_tupt, b_tupl, b_tupm, b_listt, b_listl, cf0, cf1, cf2, cf3, cf4, cf5, oc_ok, oc_exc, tb_none, tb_some, tb_nil, Option.map_some, Bool.not_true, Bool.not_false, Bool.and_self, Bool.and_true, Bool.true_and, if_true, List.map_cons, List.map_nil, List.nil_append, List.cons_append, Nat.reduceSub, Nat.sub_self, List.replicate_zero, List.replicate_succ, List.append_nil, fi0, fi1, fi2, fi3, fi4, fi5, it_l, it_t, sl_l, sl_t, wk_l, wk_t, wl_l, wl_t, wk_n, wl_n, bg_n, fin_newL, Val.walksL, Val.items]) h1) ?_
  rfl
/-- shares an hour and a house with an earlier one -/
def clash (m o : M5) : Bool := (o.e == m.e) && ((m.a == o.a || m.b == o.a) || (m.a == o.b || m.b == o.b))
/-- the meeting at k is not firm -/
def bad (ms : List M5) (k : Nat) : Bool := match ms[k]? with
  | some m => decide (m.e < m.l) || (ms.take k).any (clash m)
  | none => false
theorem ix_row {m : M5} {d : D} (h : Row m d) : item (.fz d) (.fz (.int 0)) = some (.fz (.int m.a)) ∧ item (.fz d) (.fz (.int 1)) = some (.fz (.int m.b)) ∧ item (.fz d) (.fz (.int 2)) = some (.fz (.int m.e)) := by
  rcases h with rfl | rfl <;> exact ⟨rfl, rfl, rfl⟩
theorem eqv_int (i j : Int) : (D.int i).eqv (.int j) = (i == j) := by simp [D.eqv]
theorem in2 (x a b : Int) : cmp .inn (.fz (.int x)) (.fz (.tup [.int a, .int b])) = some (a == x || b == x) := by
  show some (anyEq (.int x) [.int a, .int b]) = _
  simp only [anyEq, eqv_int, Bool.or_false]
theorem fix_row {m : M5} {d : D} (h : Row m d) : ∃ x, slice (.fz d) none (some 4) = some x ∧ ∃ d2, x.fin = some d2 ∧ ∀ v v1 v2 v3 v4 v5 v6 : Option O, bindG (.t [.n 2, .n 3, .n 4, .n 5]) d2 [v, v1, v2, v3, v4, v5, v6] = some [v, v1, some (.fz (.int m.a)), some (.fz (.int m.b)), some (.fz (.int m.e)), some (.fz (.int m.l)), v6] := by
  rcases h with rfl | rfl
  · exact ⟨_, rfl, _, rfl, fun _ _ _ _ _ _ _ => rfl⟩
  · exact ⟨_, rfl, _, rfl, fun _ _ _ _ _ _ _ => rfl⟩
def wFirm (k : Nat) : Exc := ⟨42, [(1006, .int (k : Int))]⟩
theorem exc42 (k : Nat) (h : k < 1000) : (some [D.int (k : Int)]).bind (excOf 42 (T.exf 42)) = some (wFirm k) := by
  have e : excOk (.int (k : Int)) = true := by
    show decide (((k : Int)).natAbs.log2 < 1920) = true
    rw [Int.natAbs_natCast]
    have := Nat.log2_le_self k
    exact decide_eq_true (by omega)
  show (excOf 42 [1006] [.int (k : Int)]) = _
  simp only [excOf, List.all_cons, List.all_nil, e]
  rfl
theorem nth_nat {α : Type} (xs : List α) (k : Nat) (x : α) (h : xs[k]? = some x) : nth xs (k : Int) = some x := by
  have hk : k < xs.length := (List.getElem?_eq_some_iff.mp h).1
  have e : ixn xs.length (k : Int) = some k := by
    unfold ixn L2.ixN
    simp only [show ¬ ((k : Int) < 0) by omega, if_false, Int.toNat_natCast, hk, if_true, decide_true]
    first | rfl | simp [hk]
  unfold nth
  rw [e, Option.bind_some, h]
theorem cut_take {α : Type} (xs : List α) (k : Nat) : cut xs none (some (k : Int)) = xs.take k := by
  unfold cut
  rw [HT.sIx_none, HT.sIx_nat, List.drop_zero, Nat.sub_zero]
  by_cases h : k ≤ xs.length
  · rw [Nat.min_eq_left h]
  · rw [Nat.min_eq_right (by omega), List.take_of_length_le (by omega), List.take_of_length_le (by omega)]
end Pv.Pl

set_option Elab.async false
set_option linter.all false
set_option maxRecDepth 100000
/-! P3: what check_firm tells. -/
namespace Pv.Pl
open PySem

def firmB : SL := .cons (.ife (.ta (.cm .eq (.ix (.v 6) (.c (.int 2))) (.v 4)) (.to (.cm .inn (.ix (.v 6) (.c (.int 0))) (.tup (.cons (.v 2) (.cons (.v 3) .nil)))) (.cm .inn (.ix (.v 6) (.c (.int 1))) (.tup (.cons (.v 2) (.cons (.v 3) .nil)))))) (.cons (.raise 42 (.cons (.v 0) .nil)) .nil) .nil) .nil
theorem firm_cond (P : Fn) (k : Nat) (m o : M5) (x1 x5 : Option O) (d : D) (h : Row o d) : ev T P none (.ta (.cm .eq (.ix (.v 6) (.c (.int 2))) (.v 4)) (.to (.cm .inn (.ix (.v 6) (.c (.int 0))) (.tup (.cons (.v 2) (.cons (.v 3) .nil)))) (.cm .inn (.ix (.v 6) (.c (.int 1))) (.tup (.cons (.v 2) (.cons (.v 3) .nil)))))) [some (.fz (.int (k : Int))), x1, some (.fz (.int m.a)), some (.fz (.int m.b)), some (.fz (.int m.e)), x5, some (.fz d)] =
    .ok (.fz (.bl (clash m o))) [some (.fz (.int (k : Int))), x1, some (.fz (.int m.a)), some (.fz (.int m.b)), some (.fz (.int m.e)), x5, some (.fz d)] := by
  obtain ⟨i0, i1, i2⟩ := ix_row h
  simp only [exss, exs, ev, evs, evv, evI, evc, evo, E.pur, EL.pur, OE.pur, g0, g1, g2, g3, g4, g5, g6, g7, g8, g9, g10, g11, s0, s1, s2, s3, s4, s5, s6, s7, s8, s9, s10, s11, at_fz, at_lst, at_obj, bind_ok, bind_exc, fl_ok, fl_exc, of_some, held_fz, held_tmp, held_vw, held_t, new_fz, new_lst, new_obj, own_fz, own_tmp, fin_fz, fin_tmp, tr_bl, tr_int, tr_non, c_lt, c_le, c_gt, c_ge, c_eqi, c_nei, c_eqs, c_nes, c_is0, c_isi, c_isl, c_isnt0, c_isnti, c_isntl, o_add, o_sub, b_lenl, b_lent, b_lenm, b_lenv, b_int, b_bool, b_tupt, b_tupl, b_tupm, b_listt, b_listl, cf0, cf1, cf2, cf3, cf4, cf5, oc_ok, oc_exc, tb_none, tb_some, tb_nil, Option.map_some, Bool.not_true, Bool.not_false, Bool.and_self, Bool.and_true, Bool.true_and, if_true, List.map_cons, List.map_nil, List.nil_append, List.cons_append, Nat.reduceSub, Nat.sub_self, List.replicate_zero, List.replicate_succ, List.append_nil, fi0, fi1, fi2, fi3, fi4, fi5, it_l, it_t, sl_l, sl_t, wk_l, wk_t, wl_l, wl_t, wk_n, wl_n, bg_n, fin_newL, i0, i1, i2, in2]
  unfold clash
  cases o.e == m.e <;> cases m.a == o.a <;> cases m.b == o.a <;> cases m.a == o.b <;> cases m.b == o.b <;> rfl
theorem firm_loop (P : Fn) (k : Nat) (hk : k < 1000) (m : M5) (x1 x5 : Option O) : ∀ (ms : List M5) (ds : List D) (x6 : Option O), Rows ms ds →
    (ms.any (clash m) = false → ∃ y, forLoop (.n 6) (exss T P none firmB) ds [some (.fz (.int (k : Int))), x1, some (.fz (.int m.a)), some (.fz (.int m.b)), some (.fz (.int m.e)), x5, x6] = .next [some (.fz (.int (k : Int))), x1, some (.fz (.int m.a)), some (.fz (.int m.b)), some (.fz (.int m.e)), x5, y]) ∧
    (ms.any (clash m) = true → ∃ y, forLoop (.n 6) (exss T P none firmB) ds [some (.fz (.int (k : Int))), x1, some (.fz (.int m.a)), some (.fz (.int m.b)), some (.fz (.int m.e)), x5, x6] = .exc (wFirm k) [some (.fz (.int (k : Int))), x1, some (.fz (.int m.a)), some (.fz (.int m.b)), some (.fz (.int m.e)), x5, y])
  | [], [], x6, _ => ⟨fun _ => ⟨x6, rfl⟩, fun z => by cases z⟩
  | [], _ :: _, _, h => h.elim
  | _ :: _, [], _, h => h.elim
  | o :: ms, d :: ds, x6, h => by
    have c := firm_cond P k m o x1 x5 d h.1
    obtain ⟨i1, i2⟩ := firm_loop P k hk m x1 x5 ms ds (some (.fz d)) h.2
    cases q : clash m o with
    | false =>
      rw [q] at c
      have b : exss T P none firmB [some (.fz (.int (k : Int))), x1, some (.fz (.int m.a)), some (.fz (.int m.b)), some (.fz (.int m.e)), x5, some (.fz d)] = .next [some (.fz (.int (k : Int))), x1, some (.fz (.int m.a)), some (.fz (.int m.b)), some (.fz (.int m.e)), x5, some (.fz d)] := by
        simp only [firmB, exss, exs, c, fl_ok, tr_bl]
      refine ⟨fun z => ?_, fun z => ?_⟩
      · obtain ⟨y, e⟩ := i1 (by simpa [q] using z)
        exact ⟨y, by simp only [forLoop, bg_n, s6, b, e]⟩
      · obtain ⟨y, e⟩ := i2 (by simpa [q] using z)
        exact ⟨y, by simp only [forLoop, bg_n, s6, b, e]⟩
    | true =>
      rw [q] at c
      have b : exss T P none firmB [some (.fz (.int (k : Int))), x1, some (.fz (.int m.a)), some (.fz (.int m.b)), some (.fz (.int m.e)), x5, some (.fz d)] = .exc (wFirm k) [some (.fz (.int (k : Int))), x1, some (.fz (.int m.a)), some (.fz (.int m.b)), some (.fz (.int m.e)), x5, some (.fz d)] := by
        simp only [firmB, exss, exs, c, fl_ok, tr_bl]
        simp only [exss, exs, ev, evs, evv, evI, evc, evo, E.pur, EL.pur, OE.pur, g0, g1, g2, g3, g4, g5, g6, g7, g8, g9, g10, g11, s0, s1, s2, s3, s4, s5, s6, s7, s8, s9, s10, s11, at_fz, at_lst, at_obj, bind_ok, bind_exc, fl_ok, fl_exc, of_some, held_fz, held_tmp, held_vw, held_t, new_fz, new_lst, new_obj, own_fz, own_tmp, fin_fz, fin_tmp, tr_bl, tr_int, tr_non, c_lt, c_le, c_gt, c_ge, c_eqi, c_nei, c_eqs, c_nes, c_is0, c_isi, c_isl, c_isnt0, c_isnti, c_isntl, o_add, o_sub, b_lenl, b_lent, b_lenm, b_lenv, b_int, b_bool, b_tupt, b_tupl, b_tupm, b_listt, b_listl, cf0, cf1, cf2, cf3, cf4, cf5, oc_ok, oc_exc, tb_none, tb_some, tb_nil, Option.map_some, Bool.not_true, Bool.not_false, Bool.and_self, Bool.and_true, Bool.true_and, if_true, List.map_cons, List.map_nil, List.nil_append, List.cons_append, Nat.reduceSub, Nat.sub_self, List.replicate_zero, List.replicate_succ, List.append_nil, fi0, fi1, fi2, fi3, fi4, fi5, it_l, it_t, sl_l, sl_t, wk_l, wk_t, wl_l, wl_t, wk_n, wl_n, bg_n, fin_newL, exc42 k hk]
      refine ⟨fun z => ?_, fun _ => ⟨some (.fz d), by simp only [forLoop, bg_n, s6, b]⟩⟩
      rw [List.any_cons, q] at z
      cases z
theorem check_firm_both (n k : Nat) (hk : k < 1000) (m : M5) (ms : List M5) (ds : List D) (hR : Rows ms ds) (hm : ms[k]? = some m) :
    (bad ms k = false → callN T (n + 1) 249 [.fz (.int (k : Int)), .fz (.lst ds)] = .ok (.fz .non) [some (.fz (.int (k : Int))), some (.fz (.lst ds))]) ∧
    (bad ms k = true → callN T (n + 1) 249 [.fz (.int (k : Int)), .fz (.lst ds)] = .exc (wFirm k) [some (.fz (.int (k : Int))), some (.fz (.lst ds))]) := by
  obtain ⟨d, hd, hr⟩ := hR.at_ hm
  obtain ⟨x, hs, d2, hf, hb⟩ := fix_row hr
  have e0 : nth ds (k : Int) = some d := nth_nat ds k d hd
  have st : exs T (callN T n) none (.asg (.t [.n 2, .n 3, .n 4, .n 5]) (.sl (.ix (.v 1) (.v 0)) .no (.yes (.c (.int 4))))) [some (.fz (.int (k : Int))), some (.fz (.lst ds)), none, none, none, none, none] = .next [some (.fz (.int (k : Int))), some (.fz (.lst ds)), some (.fz (.int m.a)), some (.fz (.int m.b)), some (.fz (.int m.e)), some (.fz (.int m.l)), none] := by
    simp only [exss, exs, ev, evs, evv, evI, evc, evo, E.pur, EL.pur, OE.pur, g0, g1, g2, g3, g4, g5, g6, g7, g8, g9, g10, g11, s0, s1, s2, s3, s4, s5, s6, s7, s8, s9, s10, s11, at_fz, at_lst, at_obj, bind_ok, bind_exc, fl_ok, fl_exc, of_some, held_fz, held_tmp, held_vw, held_t, new_fz, new_lst, new_obj, own_fz, own_tmp, fin_fz, fin_tmp, tr_bl, tr_int, tr_non, c_lt, c_le, c_gt, c_ge, c_eqi, c_nei, c_eqs, c_nes, c_is0, c_isi, c_isl, c_isnt0, c_isnti, c_isntl, o_add, o_sub, b_lenl, b_lent, b_lenm, b_lenv, b_int, b_bool, b_tupt, b_tupl, b_tupm, b_listt, b_listl, cf0, cf1, cf2, cf3, cf4, cf5, oc_ok, oc_exc, tb_none, tb_some, tb_nil, Option.map_some, Bool.not_true, Bool.not_false, Bool.and_self, Bool.and_true, Bool.true_and, if_true, List.map_cons, List.map_nil, List.nil_append, List.cons_append, Nat.reduceSub, Nat.sub_self, List.replicate_zero, List.replicate_succ, List.append_nil, fi0, fi1, fi2, fi3, fi4, fi5, it_l, it_t, sl_l, sl_t, wk_l, wk_t, wl_l, wl_t, wk_n, wl_n, bg_n, fin_newL, e0, hs, hf, hb]
  obtain ⟨l1, l2⟩ := firm_loop (callN T n) k hk m (some (.fz (.lst ds))) (some (.fz (.int m.l))) (ms.take k) (ds.take k) none (hR.take k)
  have hbad : bad ms k = (decide (m.e < m.l) || (ms.take k).any (clash m)) := by
    unfold bad
    rw [hm]
  rw [hbad]
  refine ⟨fun z => ?_, fun z => ?_⟩
  · simp only [Bool.or_eq_false_iff] at z
    obtain ⟨y, e⟩ := l1 z.2
    refine call_body T249 rfl (v := [some (.fz (.int (k : Int))), some (.fz (.lst ds)), none, none, none, none, none]) rfl (run_next st ?_)
    refine run_next (v1 := [some (.fz (.int (k : Int))), some (.fz (.lst ds)), some (.fz (.int m.a)), some (.fz (.int m.b)), some (.fz (.int m.e)), some (.fz (.int m.l)), none]) ?_ ?_
    · simp only [exss, exs, ev, evs, evv, evI, evc, evo, E.pur, EL.pur, OE.pur, g0, g1, g2, g3, g4, g5, g6, g7, g8, g9, g10, g11, s0, s1, s2, s3, s4, s5, s6, s7, s8, s9, s10, s11, at_fz, at_lst, at_obj, bind_ok, bind_exc, fl_ok, fl_exc, of_some, held_fz, held_tmp, held_vw, held_t, new_fz, new_lst, new_obj, own_fz, own_tmp, fin_fz, fin_tmp, tr_bl, tr_int, tr_non, c_lt, c_le, c_gt, c_ge, c_eqi, c_nei, c_eqs, c_nes, c_is0, c_isi, c_isl, c_isnt0, c_isnti, c_isntl, o_add, o_sub, b_lenl, b_lent, b_lenm, b_lenv, b_int, b_bool, b_tupt, b_tupl, b_tupm, b_listt, b_listl, cf0, cf1, cf2, cf3, cf4, cf5, oc_ok, oc_exc, tb_none, tb_some, tb_nil, Option.map_some, Bool.not_true, Bool.not_false, Bool.and_self, Bool.and_true, Bool.true_and, if_true, List.map_cons, List.map_nil, List.nil_append, List.cons_append, Nat.reduceSub, Nat.sub_self, List.replicate_zero, List.replicate_succ, List.append_nil, fi0, fi1, fi2, fi3, fi4, fi5, it_l, it_t, sl_l, sl_t, wk_l, wk_t, wl_l, wl_t, wk_n, wl_n, bg_n, fin_newL, z.1]
    refine run_next (exs_for (by simp only [exss, exs, ev, evs, evv, evI, evc, evo, E.pur, EL.pur, OE.pur, g0, g1, g2, g3, g4, g5, g6, g7, g8, g9, g10, g11, s0, s1, s2, s3, s4, s5, s6, s7, s8, s9, s10, s11, at_fz, at_lst, at_obj, bind_ok, bind_exc, fl_ok, fl_exc, of_some, held_fz, held_tmp, held_vw, held_t, new_fz, new_lst, new_obj, own_fz, own_tmp, fin_fz, fin_tmp, tr_bl, tr_int, tr_non, c_lt, c_le, c_gt, c_ge, c_eqi, c_nei, c_eqs, c_nes, c_is0, c_isi, c_isl, c_isnt0, c_isnti, c_isntl, o_add, o_sub, b_lenl, b_lent, b_lenm, b_lenv, b_int, b_bool, b_tupt, b_tupl, b_tupm, b_listt, b_listl, cf0, cf1, cf2, cf3, cf4, cf5, oc_ok, oc_exc, tb_none, tb_some, tb_nil, Option.map_some, Bool.not_true, Bool.not_false, Bool.and_self, Bool.and_true, Bool.true_and, if_true, List.map_cons, List.map_nil, List.nil_append, List.cons_append, Nat.reduceSub, Nat.sub_self, List.replicate_zero, List.replicate_succ, List.append_nil, fi0, fi1, fi2, fi3, fi4, fi5, it_l, it_t, sl_l, sl_t, wk_l, wk_t, wl_l, wl_t, wk_n, wl_n, bg_n, fin_newL, cut_take]) e) ?_
    rfl
  · refine call_body T249 rfl (v := [some (.fz (.int (k : Int))), some (.fz (.lst ds)), none, none, none, none, none]) rfl (run_next st ?_)
    cases q : decide (m.e < m.l) with
    | true =>
      refine run_exc (v1 := [some (.fz (.int (k : Int))), some (.fz (.lst ds)), some (.fz (.int m.a)), some (.fz (.int m.b)), some (.fz (.int m.e)), some (.fz (.int m.l)), none]) ?_
      simp only [exss, exs, ev, evs, evv, evI, evc, evo, E.pur, EL.pur, OE.pur, g0, g1, g2, g3, g4, g5, g6, g7, g8, g9, g10, g11, s0, s1, s2, s3, s4, s5, s6, s7, s8, s9, s10, s11, at_fz, at_lst, at_obj, bind_ok, bind_exc, fl_ok, fl_exc, of_some, held_fz, held_tmp, held_vw, held_t, new_fz, new_lst, new_obj, own_fz, own_tmp, fin_fz, fin_tmp, tr_bl, tr_int, tr_non, c_lt, c_le, c_gt, c_ge, c_eqi, c_nei, c_eqs, c_nes, c_is0, c_isi, c_isl, c_isnt0, c_isnti, c_isntl, o_add, o_sub, b_lenl, b_lent, b_lenm, b_lenv, b_int, b_bool, b_tupt, b_tupl, b_tupm, b_listt, b_listl, cf0, cf1, cf2, cf3, cf4, cf5, oc_ok, oc_exc, tb_none, tb_some, tb_nil, Option.map_some, Bool.not_true, Bool.not_false, Bool.and_self, Bool.and_true, Bool.true_and, if_true, List.map_cons, List.map_nil, List.nil_append, List.cons_append, Nat.reduceSub, Nat.sub_self, List.replicate_zero, List.replicate_succ, List.append_nil, fi0, fi1, fi2, fi3, fi4, fi5, it_l, it_t, sl_l, sl_t, wk_l, wk_t, wl_l, wl_t, wk_n, wl_n, bg_n, fin_newL, q, exc42 k hk]
    | false =>
      rw [q] at z
      obtain ⟨y, e⟩ := l2 (by simpa using z)
      refine run_next (v1 := [some (.fz (.int (k : Int))), some (.fz (.lst ds)), some (.fz (.int m.a)), some (.fz (.int m.b)), some (.fz (.int m.e)), some (.fz (.int m.l)), none]) ?_ ?_
      · simp only [exss, exs, ev, evs, evv, evI, evc, evo, E.pur, EL.pur, OE.pur, g0, g1, g2, g3, g4, g5, g6, g7, g8, g9, g10, g11, s0, s1, s2, s3, s4, s5, s6, s7, s8, s9, s10, s11, at_fz, at_lst, at_obj, bind_ok, bind_exc, fl_ok, fl_exc, of_some, held_fz, held_tmp, held_vw, held_t, new_fz, new_lst, new_obj, own_fz, own_tmp, fin_fz, fin_tmp, tr_bl, tr_int, tr_non, c_lt, c_le, c_gt, c_ge, c_eqi, c_nei, c_eqs, c_nes, c_is0, c_isi, c_isl, c_isnt0, c_isnti, c_isntl, o_add, o_sub, b_lenl, b_lent, b_lenm, b_lenv, b_int, b_bool, b_tupt, b_tupl, b_tupm, b_listt, b_listl, cf0, cf1, cf2, cf3, cf4, cf5, oc_ok, oc_exc, tb_none, tb_some, tb_nil, Option.map_some, Bool.not_true, Bool.not_false, Bool.and_self, Bool.and_true, Bool.true_and, if_true, List.map_cons, List.map_nil, List.nil_append, List.cons_append, Nat.reduceSub, Nat.sub_self, List.replicate_zero, List.replicate_succ, List.append_nil, fi0, fi1, fi2, fi3, fi4, fi5, it_l, it_t, sl_l, sl_t, wk_l, wk_t, wl_l, wl_t, wk_n, wl_n, bg_n, fin_newL, q]
      exact run_exc (exs_for (by simp only [exss, exs, ev, evs, evv, evI, evc, evo, E.pur, EL.pur, OE.pur, g0, g1, g2, g3, g4, g5, g6, g7, g8, g9, g10, g11, s0, s1, s2, s3, s4, s5, s6, s7, s8, s9, s10, s11, at_fz, at_lst, at_obj, bind_ok, bind_exc, fl_ok, fl_exc, of_some, held_fz, held_tmp, held_vw, held_t, new_fz, new_lst, new_obj, own_fz, own_tmp, fin_fz, fin_tmp, tr_bl, tr_int, tr_non, c_lt, c_le, c_gt, c_ge, c_eqi, c_nei, c_eqs, c_nes, c_is0, c_isi, c_isl, c_isnt0, c_isnti, c_isntl, o_add, o_sub, b_lenl, b_lent, b_lenm, b_lenv, b_int, b_bool, b_tupt, b_tupl, b_tupm, b_listt, b_listl, cf0, cf1, cf2, cf3, cf4, cf5, oc_ok, oc_exc, tb_none, tb_some, tb_nil, Option.map_some, Bool.not_true, Bool.not_false, Bool.and_self, Bool.and_true, Bool.true_and, if_true, List.map_cons, List.map_nil, List.nil_append, List.cons_append, Nat.reduceSub, Nat.sub_self, List.replicate_zero, List.replicate_succ, List.append_nil, fi0, fi1, fi2, fi3, fi4, fi5, it_l, it_t, sl_l, sl_t, wk_l, wk_t, wl_l, wl_t, wk_n, wl_n, bg_n, fin_newL, cut_take]) e)
end Pv.Pl

set_option Elab.async false
set_option linter.all false
set_option maxRecDepth 100000
/-! P4: a day is made. -/
namespace Pv.Pl
open PySem

def M5.t (m : M5) : D := .tup m.xs
abbrev nms (z : Int) : List D := names12.take z.toNat
def dayO (f : Bool) (z hours : Int) (ms : List M5) (bg : List D) : O := .obj 27 [(764, .fz (.bl f)), (954, .fz (.tup (nms z))), (831, .fz (.int hours)), (933, .fz (.tup (ms.map M5.t))), (639, .fz (.tup bg))]
theorem nms_len {z : Int} (h0 : 0 ≤ z) (h : z ≤ 12) : ((nms z).length : Int) = z := by
  rcases upto12 h0 h with rfl | rfl | rfl | rfl | rfl | rfl | rfl | rfl | rfl | rfl | rfl | rfl | rfl <;> rfl
/-- what a day may be made of -/
structure DayIn (f : Bool) (z hours : Int) (ms : List M5) (ds : List D) (bags : D) (bg : List D) : Prop where
  z0 : 2 ≤ z
  z1 : z ≤ 12
  h0 : 1 ≤ hours
  h1 : hours ≤ 60
  rows : Rows ms ds
  ok : ∀ m ∈ ms, m.ok z hours
  len : ms.length ≤ 60
  bags : (bags = .non ∧ bg = List.replicate z.toNat .non) ∨ (∃ bs, bags = .lst bs ∧ bg = bs ∧ (∀ b ∈ bs, BagOk b) ∧ (bs.length : Int) = z ∧ f = true)
section
variable {f : Bool} {z hours : Int} {ms : List M5} {ds : List D} {bags : D} {bg : List D} {n : Nat}
theorem tup_rows : ∀ {ms : List M5} {ds : List D}, Rows ms ds → ds.map (fun d => match d with | .tup xs => O.fz (.tup xs) | .lst xs => .fz (.tup xs) | d => .fz d) = (ms.map M5.t).map O.fz
  | [], [], _ => rfl
  | m :: ms, d :: ds, h => by
    rw [List.map_cons, List.map_cons, List.map_cons, tup_rows h.2]
    rcases h.1 with rfl | rfl <;> rfl
  | [], _ :: _, h => h.elim
  | _ :: _, [], h => h.elim
theorem row_mem : ∀ {ms : List M5} {ds : List D} {d : D}, Rows ms ds → d ∈ ds → ∃ m ∈ ms, Row m d
  | [], [], d, _, h => by cases h
  | m :: ms, e :: ds, d, h, hd => by
    rcases List.mem_cons.mp hd with rfl | hd
    · exact ⟨m, List.mem_cons_self, h.1⟩
    · obtain ⟨m', h1, h2⟩ := row_mem h.2 hd
      exact ⟨m', List.mem_cons_of_mem _ h1, h2⟩
  | [], _ :: _, _, h, _ => h.elim
  | _ :: _, [], _, h, _ => h.elim
/-- the slots of Day.__init__ -/
abbrev dE (s : O) (z hours : Int) (ds : List D) (bags : D) (f : Bool) (x : Option O) : Env := [some s, some (.fz (.lst (nms z))), some (.fz (.int hours)), some (.fz (.lst ds)), some (.fz bags), some (.fz (.bl f)), x, none]
abbrev dS1 (f : Bool) : O := .obj 27 [(764, .fz (.bl f))]
theorem day_head (hD : DayIn f z hours ms ds bags bg) {R : CR}
    (k : (exss T (callN T (n + 4)) none (.cons (.ife (.att (.v 0) 764) (.cons (.fr (.n 6) (.rng1 (.bi .len (.cons (.v 3) .nil))) (.cons (.ex (.call 249 (.cons (.v 6) (.cons (.v 3) .nil)))) .nil)) .nil) .nil) (.cons (.setf (.v 0) 954 (.bi .tuple (.cons (.v 1) .nil))) (.cons (.setf (.v 0) 831 (.v 2)) (.cons (.setf (.v 0) 933 (.bi .tuple (.cons (.lc [7] (.n 7) (.seq (.v 3)) .no (.bi .tuple (.cons (.v 7) .nil))) .nil))) (.cons (.setf (.v 0) 639 (.bi .tuple (.cons (.ite (.cm .is (.v 4) (.c .non)) (.rep (.lst (.cons (.c .non) .nil)) (.bi .len (.cons (.v 1) .nil))) (.v 4)) .nil))) .nil))))) (dE (dS1 f) z hours ds bags f none)).cr 6 f_Day___init__.body.sl = R) :
    callN T (n + 5) 60 [.obj 27 [], .fz (.lst (nms z)), .fz (.int hours), .fz (.lst ds), .fz bags, .fz (.bl f)] = R := by
  have hl := nms_len (show 0 ≤ z by have := hD.z0; omega) hD.z1
  refine call_body T60 rfl (v := dE (.obj 27 []) z hours ds bags f none) rfl ?_
  refine run_next (v1 := dE (.obj 27 []) z hours ds bags f none) ?_ ?_
  · simp only [exss, exs, ev, evs, evv, evI, evc, evo, E.pur, EL.pur, OE.pur, g0, g1, g2, g3, g4, g5, g6, g7, g8, g9, g10, g11, s0, s1, s2, s3, s4, s5, s6, s7, s8, s9, s10, s11, at_fz, at_lst, at_obj, bind_ok, bind_exc, fl_ok, fl_exc, of_some, held_fz, held_tmp, held_vw, held_t, new_fz, new_lst, new_obj, own_fz, own_tmp, fin_fz, fin_tmp, tr_bl, tr_int, tr_non, c_lt, c_le, c_gt, c_ge, c_eqi, c_nei, c_eqs, c_nes, c_is0, c_isi, c_isl, c_isnt0, c_isnti, c_isntl, o_add, o_sub, b_lenl, b_lent, b_lenm, b_lenv, b_int, b_bool, b_tupt, b_tupl, b_tupm, b_listt, b_listl, cf0, cf1, cf2, cf3, cf4, cf5, oc_ok, oc_exc, tb_none, tb_some, tb_nil, Option.map_some, Bool.not_true, Bool.not_false, Bool.and_self, Bool.and_true, Bool.true_and, if_true, List.map_cons, List.map_nil, List.nil_append, List.cons_append, Nat.reduceSub, Nat.sub_self, List.replicate_zero, List.replicate_succ, List.append_nil, fi0, fi1, fi2, fi3, fi4, fi5, it_l, it_t, sl_l, sl_t, wk_l, wk_t, wl_l, wl_t, wk_n, wl_n, bg_n, fin_newL, check_names_ok (n + 1) z hD.z0 hD.z1]
  refine run_next (v1 := dE (.obj 27 []) z hours ds bags f none) ?_ ?_
  · simp only [exss, exs, ev, evs, evv, evI, evc, evo, E.pur, EL.pur, OE.pur, g0, g1, g2, g3, g4, g5, g6, g7, g8, g9, g10, g11, s0, s1, s2, s3, s4, s5, s6, s7, s8, s9, s10, s11, at_fz, at_lst, at_obj, bind_ok, bind_exc, fl_ok, fl_exc, of_some, held_fz, held_tmp, held_vw, held_t, new_fz, new_lst, new_obj, own_fz, own_tmp, fin_fz, fin_tmp, tr_bl, tr_int, tr_non, c_lt, c_le, c_gt, c_ge, c_eqi, c_nei, c_eqs, c_nes, c_is0, c_isi, c_isl, c_isnt0, c_isnti, c_isntl, o_add, o_sub, b_lenl, b_lent, b_lenm, b_lenv, b_int, b_bool, b_tupt, b_tupl, b_tupm, b_listt, b_listl, cf0, cf1, cf2, cf3, cf4, cf5, oc_ok, oc_exc, tb_none, tb_some, tb_nil, Option.map_some, Bool.not_true, Bool.not_false, Bool.and_self, Bool.and_true, Bool.true_and, if_true, List.map_cons, List.map_nil, List.nil_append, List.cons_append, Nat.reduceSub, Nat.sub_self, List.replicate_zero, List.replicate_succ, List.append_nil, fi0, fi1, fi2, fi3, fi4, fi5, it_l, it_t, sl_l, sl_t, wk_l, wk_t, wl_l, wl_t, wk_n, wl_n, bg_n, fin_newL, check_number_ok (n + 2) _ hours 1 60 hD.h0 hD.h1]
  refine run_next (v1 := dE (.obj 27 []) z hours ds bags f none) ?_ ?_
  · have c := check_meetings_ok n ds ms z hours hD.rows hD.ok (by rw [hD.rows.len]; exact hD.len)
    simp only [exss, exs, ev, evs, evv, evI, evc, evo, E.pur, EL.pur, OE.pur, g0, g1, g2, g3, g4, g5, g6, g7, g8, g9, g10, g11, s0, s1, s2, s3, s4, s5, s6, s7, s8, s9, s10, s11, at_fz, at_lst, at_obj, bind_ok, bind_exc, fl_ok, fl_exc, of_some, held_fz, held_tmp, held_vw, held_t, new_fz, new_lst, new_obj, own_fz, own_tmp, fin_fz, fin_tmp, tr_bl, tr_int, tr_non, c_lt, c_le, c_gt, c_ge, c_eqi, c_nei, c_eqs, c_nes, c_is0, c_isi, c_isl, c_isnt0, c_isnti, c_isntl, o_add, o_sub, b_lenl, b_lent, b_lenm, b_lenv, b_int, b_bool, b_tupt, b_tupl, b_tupm, b_listt, b_listl, cf0, cf1, cf2, cf3, cf4, cf5, oc_ok, oc_exc, tb_none, tb_some, tb_nil, Option.map_some, Bool.not_true, Bool.not_false, Bool.and_self, Bool.and_true, Bool.true_and, if_true, List.map_cons, List.map_nil, List.nil_append, List.cons_append, Nat.reduceSub, Nat.sub_self, List.replicate_zero, List.replicate_succ, List.append_nil, fi0, fi1, fi2, fi3, fi4, fi5, it_l, it_t, sl_l, sl_t, wk_l, wk_t, wl_l, wl_t, wk_n, wl_n, bg_n, fin_newL, hl, c]
  refine run_next (v1 := dE (dS1 f) z hours ds bags f none) ?_ ?_
  · exact exs_setf (x := .fz (.bl f)) (v1 := dE (.obj 27 []) z hours ds bags f none) (fs := []) (by simp only [exss, exs, ev, evs, evv, evI, evc, evo, E.pur, EL.pur, OE.pur, g0, g1, g2, g3, g4, g5, g6, g7, g8, g9, g10, g11, s0, s1, s2, s3, s4, s5, s6, s7, s8, s9, s10, s11, at_fz, at_lst, at_obj, bind_ok, bind_exc, fl_ok, fl_exc, of_some, held_fz, held_tmp, held_vw, held_t, new_fz, new_lst, new_obj, own_fz, own_tmp, fin_fz, fin_tmp, tr_bl, tr_int, tr_non, c_lt, c_le, c_gt, c_ge, c_eqi, c_nei, c_eqs, c_nes, c_is0, c_isi, c_isl, c_isnt0, c_isnti, c_isntl, o_add, o_sub, b_lenl, b_lent, b_lenm, b_lenv, b_int, b_bool, b_tupt, b_tupl, b_tupm, b_listt, b_listl, cf0, cf1, cf2, cf3, cf4, cf5, oc_ok, oc_exc, tb_none, tb_some, tb_nil, Option.map_some, Bool.not_true, Bool.not_false, Bool.and_self, Bool.and_true, Bool.true_and, if_true, List.map_cons, List.map_nil, List.nil_append, List.cons_append, Nat.reduceSub, Nat.sub_self, List.replicate_zero, List.replicate_succ, List.append_nil, fi0, fi1, fi2, fi3, fi4, fi5, it_l, it_t, sl_l, sl_t, wk_l, wk_t, wl_l, wl_t, wk_n, wl_n, bg_n, fin_newL]) rfl rfl (show (0 : Nat) < 900 by decide) rfl rfl
  refine run_next (v1 := dE (dS1 f) z hours ds bags f none) ?_ k
  have a1 : ∀ v : Env, attF T (callN T (n + 4)) 764 (.vw 0 (dS1 f)) v = .ok (.fz (.bl f)) v := fun _ => rfl
  rcases hD.bags with ⟨rfl, _⟩ | ⟨bs, rfl, _, hb, hz, rfl⟩
  · simp only [exss, exs, ev, evs, evv, evI, evc, evo, E.pur, EL.pur, OE.pur, g0, g1, g2, g3, g4, g5, g6, g7, g8, g9, g10, g11, s0, s1, s2, s3, s4, s5, s6, s7, s8, s9, s10, s11, at_fz, at_lst, at_obj, bind_ok, bind_exc, fl_ok, fl_exc, of_some, held_fz, held_tmp, held_vw, held_t, new_fz, new_lst, new_obj, own_fz, own_tmp, fin_fz, fin_tmp, tr_bl, tr_int, tr_non, c_lt, c_le, c_gt, c_ge, c_eqi, c_nei, c_eqs, c_nes, c_is0, c_isi, c_isl, c_isnt0, c_isnti, c_isntl, o_add, o_sub, b_lenl, b_lent, b_lenm, b_lenv, b_int, b_bool, b_tupt, b_tupl, b_tupm, b_listt, b_listl, cf0, cf1, cf2, cf3, cf4, cf5, oc_ok, oc_exc, tb_none, tb_some, tb_nil, Option.map_some, Bool.not_true, Bool.not_false, Bool.and_self, Bool.and_true, Bool.true_and, if_true, List.map_cons, List.map_nil, List.nil_append, List.cons_append, Nat.reduceSub, Nat.sub_self, List.replicate_zero, List.replicate_succ, List.append_nil, fi0, fi1, fi2, fi3, fi4, fi5, it_l, it_t, sl_l, sl_t, wk_l, wk_t, wl_l, wl_t, wk_n, wl_n, bg_n, fin_newL, a1, hl, check_bags_non (n + 3)]
  · have c := check_bags_ok (n + 1) bs hb
    rw [hz] at c
    simp only [exss, exs, ev, evs, evv, evI, evc, evo, E.pur, EL.pur, OE.pur, g0, g1, g2, g3, g4, g5, g6, g7, g8, g9, g10, g11, s0, s1, s2, s3, s4, s5, s6, s7, s8, s9, s10, s11, at_fz, at_lst, at_obj, bind_ok, bind_exc, fl_ok, fl_exc, of_some, held_fz, held_tmp, held_vw, held_t, new_fz, new_lst, new_obj, own_fz, own_tmp, fin_fz, fin_tmp, tr_bl, tr_int, tr_non, c_lt, c_le, c_gt, c_ge, c_eqi, c_nei, c_eqs, c_nes, c_is0, c_isi, c_isl, c_isnt0, c_isnti, c_isntl, o_add, o_sub, b_lenl, b_lent, b_lenm, b_lenv, b_int, b_bool, b_tupt, b_tupl, b_tupm, b_listt, b_listl, cf0, cf1, cf2, cf3, cf4, cf5, oc_ok, oc_exc, tb_none, tb_some, tb_nil, Option.map_some, Bool.not_true, Bool.not_false, Bool.and_self, Bool.and_true, Bool.true_and, if_true, List.map_cons, List.map_nil, List.nil_append, List.cons_append, Nat.reduceSub, Nat.sub_self, List.replicate_zero, List.replicate_succ, List.append_nil, fi0, fi1, fi2, fi3, fi4, fi5, it_l, it_t, sl_l, sl_t, wk_l, wk_t, wl_l, wl_t, wk_n, wl_n, bg_n, fin_newL, a1, hl, c]
abbrev O1 (f : Bool) (z : Int) : O := .obj 27 [(764, .fz (.bl f)), (954, .fz (.tup (nms z)))]
abbrev O2 (f : Bool) (z hours : Int) : O := .obj 27 [(764, .fz (.bl f)), (954, .fz (.tup (nms z))), (831, .fz (.int hours))]
abbrev O3 (f : Bool) (z hours : Int) (ms : List M5) : O := .obj 27 [(764, .fz (.bl f)), (954, .fz (.tup (nms z))), (831, .fz (.int hours)), (933, .fz (.tup (ms.map M5.t)))]
theorem dt1 (P : Fn) (x : Option O) : exs T P none (.setf (.v 0) 954 (.bi .tuple (.cons (.v 1) .nil))) (dE (dS1 f) z hours ds bags f x) = .next (dE (O1 f z) z hours ds bags f x) :=
  exs_setf (x := .fz (.tup (nms z))) (v1 := dE (dS1 f) z hours ds bags f x) (fs := [(764, .fz (.bl f))]) (by simp only [exss, exs, ev, evs, evv, evI, evc, evo, E.pur, EL.pur, OE.pur, g0, g1, g2, g3, g4, g5, g6, g7, g8, g9, g10, g11, s0, s1, s2, s3, s4, s5, s6, s7, s8, s9, s10, s11, at_fz, at_lst, at_obj, bind_ok, bind_exc, fl_ok, fl_exc, of_some, held_fz, held_tmp, held_vw, held_t, new_fz, new_lst, new_obj, own_fz, own_tmp, fin_fz, fin_tmp, tr_bl, tr_int, tr_non, c_lt, c_le, c_gt, c_ge, c_eqi, c_nei, c_eqs, c_nes, c_is0, c_isi, c_isl, c_isnt0, c_isnti, c_isntl, o_add, o_sub, b_lenl, b_lent, b_lenm, b_lenv, b_int, b_bool, b_tupt, b_tupl, b_tupm, b_listt, b_listl, cf0, cf1, cf2, cf3, cf4, cf5, oc_ok, oc_exc, tb_none, tb_some, tb_nil, Option.map_some, Bool.not_true, Bool.not_false, Bool.and_self, Bool.and_true, Bool.true_and, if_true, List.map_cons, List.map_nil, List.nil_append, List.cons_append, Nat.reduceSub, Nat.sub_self, List.replicate_zero, List.replicate_succ, List.append_nil, fi0, fi1, fi2, fi3, fi4, fi5, it_l, it_t, sl_l, sl_t, wk_l, wk_t, wl_l, wl_t, wk_n, wl_n, bg_n, fin_newL]) rfl rfl (show (1 : Nat) < 900 by decide) rfl rfl
theorem dt2 (P : Fn) (x : Option O) : exs T P none (.setf (.v 0) 831 (.v 2)) (dE (O1 f z) z hours ds bags f x) = .next (dE (O2 f z hours) z hours ds bags f x) :=
  exs_setf (x := .fz (.int hours)) (v1 := dE (O1 f z) z hours ds bags f x) (fs := [(764, .fz (.bl f)), (954, .fz (.tup (nms z)))]) (by simp only [exss, exs, ev, evs, evv, evI, evc, evo, E.pur, EL.pur, OE.pur, g0, g1, g2, g3, g4, g5, g6, g7, g8, g9, g10, g11, s0, s1, s2, s3, s4, s5, s6, s7, s8, s9, s10, s11, at_fz, at_lst, at_obj, bind_ok, bind_exc, fl_ok, fl_exc, of_some, held_fz, held_tmp, held_vw, held_t, new_fz, new_lst, new_obj, own_fz, own_tmp, fin_fz, fin_tmp, tr_bl, tr_int, tr_non, c_lt, c_le, c_gt, c_ge, c_eqi, c_nei, c_eqs, c_nes, c_is0, c_isi, c_isl, c_isnt0, c_isnti, c_isntl, o_add, o_sub, b_lenl, b_lent, b_lenm, b_lenv, b_int, b_bool, b_tupt, b_tupl, b_tupm, b_listt, b_listl, cf0, cf1, cf2, cf3, cf4, cf5, oc_ok, oc_exc, tb_none, tb_some, tb_nil, Option.map_some, Bool.not_true, Bool.not_false, Bool.and_self, Bool.and_true, Bool.true_and, if_true, List.map_cons, List.map_nil, List.nil_append, List.cons_append, Nat.reduceSub, Nat.sub_self, List.replicate_zero, List.replicate_succ, List.append_nil, fi0, fi1, fi2, fi3, fi4, fi5, it_l, it_t, sl_l, sl_t, wk_l, wk_t, wl_l, wl_t, wk_n, wl_n, bg_n, fin_newL]) rfl rfl (show (2 : Nat) < 900 by decide) rfl rfl
theorem dt3a (hD : DayIn f z hours ms ds bags bg) (P : Fn) (x : Option O) : ev T P none (.lc [7] (.n 7) (.seq (.v 3)) .no (.bi .tuple (.cons (.v 7) .nil))) (dE (O2 f z hours) z hours ds bags f x) = .ok (.tmp (.lst ((ms.map M5.t).map .fz))) (dE (O2 f z hours) z hours ds bags f x) := by
  rw [← tup_rows hD.rows]
  exact ev_lcA (T := T) (P := P) (X := none) (own := [7]) (g := .n 7) (it := .seq (.v 3)) (e := .bi .tuple (.cons (.v 7) .nil)) (ds := ds)
    (fun d => [some (O2 f z hours), some (.fz (.lst (nms z))), some (.fz (.int hours)), some (.fz (.lst ds)), some (.fz bags), some (.fz (.bl f)), x, some (.fz d)])
    (fun d => match d with | .tup xs => O.fz (.tup xs) | .lst xs => .fz (.tup xs) | d => .fz d) (by simp only [exss, exs, ev, evs, evv, evI, evc, evo, E.pur, EL.pur, OE.pur, g0, g1, g2, g3, g4, g5, g6, g7, g8, g9, g10, g11, s0, s1, s2, s3, s4, s5, s6, s7, s8, s9, s10, s11, at_fz, at_lst, at_obj, bind_ok, bind_exc, fl_ok, fl_exc, of_some, held_fz, held_tmp, held_vw, held_t, new_fz, new_lst, new_obj, own_fz, own_tmp, fin_fz, fin_tmp, tr_bl, tr_int, tr_non, c_lt, c_le, c_gt, c_ge, c_eqi, c_nei, c_eqs, c_nes, c_is0, c_isi, c_isl, c_isnt0, c_isnti, c_isntl, o_add, o_sub, b_lenl, b_lent, b_lenm, b_lenv, b_int, b_bool, b_tupt, b_tupl, b_tupm, b_listt, b_listl, cf0, cf1, cf2, cf3, cf4, cf5, oc_ok, oc_exc, tb_none, tb_some, tb_nil, Option.map_some, Bool.not_true, Bool.not_false, Bool.and_self, Bool.and_true, Bool.true_and, if_true, List.map_cons, List.map_nil, List.nil_append, List.cons_append, Nat.reduceSub, Nat.sub_self, List.replicate_zero, List.replicate_succ, List.append_nil, fi0, fi1, fi2, fi3, fi4, fi5, it_l, it_t, sl_l, sl_t, wk_l, wk_t, wl_l, wl_t, wk_n, wl_n, bg_n, fin_newL]) (by rw [hD.rows.len]; have := hD.len; have := PySem.sizeLine_eq; omega) (fun _ _ => rfl) (fun _ _ _ _ => rfl) (fun d hd => by
      obtain ⟨m, _, hr⟩ := row_mem hD.rows hd
      rcases hr with rfl | rfl
      · exact ⟨.fz (.tup m.xs), by simp only [exss, exs, ev, evs, evv, evI, evc, evo, E.pur, EL.pur, OE.pur, g0, g1, g2, g3, g4, g5, g6, g7, g8, g9, g10, g11, s0, s1, s2, s3, s4, s5, s6, s7, s8, s9, s10, s11, at_fz, at_lst, at_obj, bind_ok, bind_exc, fl_ok, fl_exc, of_some, held_fz, held_tmp, held_vw, held_t, new_fz, new_lst, new_obj, own_fz, own_tmp, fin_fz, fin_tmp, tr_bl, tr_int, tr_non, c_lt, c_le, c_gt, c_ge, c_eqi, c_nei, c_eqs, c_nes, c_is0, c_isi, c_isl, c_isnt0, c_isnti, c_isntl, o_add, o_sub, b_lenl, b_lent, b_lenm, b_lenv, b_int, b_bool, b_tupt, b_tupl, b_tupm, b_listt, b_listl, cf0, cf1, cf2, cf3, cf4, cf5, oc_ok, oc_exc, tb_none, tb_some, tb_nil, Option.map_some, Bool.not_true, Bool.not_false, Bool.and_self, Bool.and_true, Bool.true_and, if_true, List.map_cons, List.map_nil, List.nil_append, List.cons_append, Nat.reduceSub, Nat.sub_self, List.replicate_zero, List.replicate_succ, List.append_nil, fi0, fi1, fi2, fi3, fi4, fi5, it_l, it_t, sl_l, sl_t, wk_l, wk_t, wl_l, wl_t, wk_n, wl_n, bg_n, fin_newL], rfl⟩
      · exact ⟨.fz (.tup m.xs), by simp only [exss, exs, ev, evs, evv, evI, evc, evo, E.pur, EL.pur, OE.pur, g0, g1, g2, g3, g4, g5, g6, g7, g8, g9, g10, g11, s0, s1, s2, s3, s4, s5, s6, s7, s8, s9, s10, s11, at_fz, at_lst, at_obj, bind_ok, bind_exc, fl_ok, fl_exc, of_some, held_fz, held_tmp, held_vw, held_t, new_fz, new_lst, new_obj, own_fz, own_tmp, fin_fz, fin_tmp, tr_bl, tr_int, tr_non, c_lt, c_le, c_gt, c_ge, c_eqi, c_nei, c_eqs, c_nes, c_is0, c_isi, c_isl, c_isnt0, c_isnti, c_isntl, o_add, o_sub, b_lenl, b_lent, b_lenm, b_lenv, b_int, b_bool, b_tupt, b_tupl, b_tupm, b_listt, b_listl, cf0, cf1, cf2, cf3, cf4, cf5, oc_ok, oc_exc, tb_none, tb_some, tb_nil, Option.map_some, Bool.not_true, Bool.not_false, Bool.and_self, Bool.and_true, Bool.true_and, if_true, List.map_cons, List.map_nil, List.nil_append, List.cons_append, Nat.reduceSub, Nat.sub_self, List.replicate_zero, List.replicate_succ, List.append_nil, fi0, fi1, fi2, fi3, fi4, fi5, it_l, it_t, sl_l, sl_t, wk_l, wk_t, wl_l, wl_t, wk_n, wl_n, bg_n, fin_newL], rfl⟩) rfl (fun _ _ => rfl)
theorem dt3 (hD : DayIn f z hours ms ds bags bg) (P : Fn) (x : Option O) : exs T P none (.setf (.v 0) 933 (.bi .tuple (.cons (.lc [7] (.n 7) (.seq (.v 3)) .no (.bi .tuple (.cons (.v 7) .nil))) .nil))) (dE (O2 f z hours) z hours ds bags f x) = .next (dE (O3 f z hours ms) z hours ds bags f x) :=
  exs_setf (x := .fz (.tup (ms.map M5.t))) (v1 := dE (O2 f z hours) z hours ds bags f x) (fs := [(764, .fz (.bl f)), (954, .fz (.tup (nms z))), (831, .fz (.int hours))]) (ev_bi1 (dt3a hD P x) b_tupm) rfl rfl (show (3 : Nat) < 900 by decide) rfl rfl
theorem dt4a (hD : DayIn f z hours ms ds bags bg) (P : Fn) (x : Option O) : ev T P none (.bi .tuple (.cons (.ite (.cm .is (.v 4) (.c .non)) (.rep (.lst (.cons (.c .non) .nil)) (.bi .len (.cons (.v 1) .nil))) (.v 4)) .nil)) (dE (O3 f z hours ms) z hours ds bags f x) = .ok (.fz (.tup bg)) (dE (O3 f z hours ms) z hours ds bags f x) := by
  have hl := nms_len (show 0 ≤ z by have := hD.z0; omega) hD.z1
  rcases hD.bags with ⟨rfl, rfl⟩ | ⟨bs, rfl, rfl, _, _, rfl⟩
  · have h2 : inRng z = true := inR (by have := hD.z0; omega) (by have := hD.z1; omega)
    have h3 : (List.replicate z.toNat [D.non]).flatten = List.replicate z.toNat .non := by
      induction z.toNat with
      | zero => rfl
      | succ k ih => rw [List.replicate_succ, List.flatten_cons, ih]; rfl
    have h4 : ([D.non] : List D).length * z.toNat ≤ sizeLine := by
      have := hD.z1
      have := PySem.sizeLine_eq
      rw [List.length_singleton]
      omega
    have e1 := ev_rep (T := T) (P := P) (X := none) (e := .lst (.cons (.c .non) .nil)) (n := .bi .len (.cons (.v 1) .nil)) (v := dE (O3 f z hours ms) z hours ds .non f x) (v1 := dE (O3 f z hours ms) z hours ds .non f x) (v2 := dE (O3 f z hours ms) z hours ds .non f x) (ds := [.non]) (by simp only [exss, exs, ev, evs, evv, evI, evc, evo, E.pur, EL.pur, OE.pur, g0, g1, g2, g3, g4, g5, g6, g7, g8, g9, g10, g11, s0, s1, s2, s3, s4, s5, s6, s7, s8, s9, s10, s11, at_fz, at_lst, at_obj, bind_ok, bind_exc, fl_ok, fl_exc, of_some, held_fz, held_tmp, held_vw, held_t, new_fz, new_lst, new_obj, own_fz, own_tmp, fin_fz, fin_tmp, tr_bl, tr_int, tr_non, c_lt, c_le, c_gt, c_ge, c_eqi, c_nei, c_eqs, c_nes, c_is0, c_isi, c_isl, c_isnt0, c_isnti, c_isntl, o_add, o_sub, b_lenl, b_lent, b_lenm, b_lenv, b_int, b_bool, b_tupt, b_tupl, b_tupm, b_listt, b_listl, cf0, cf1, cf2, cf3, cf4, cf5, oc_ok, oc_exc, tb_none, tb_some, tb_nil, Option.map_some, Bool.not_true, Bool.not_false, Bool.and_self, Bool.and_true, Bool.true_and, if_true, List.map_cons, List.map_nil, List.nil_append, List.cons_append, Nat.reduceSub, Nat.sub_self, List.replicate_zero, List.replicate_succ, List.append_nil, fi0, fi1, fi2, fi3, fi4, fi5, it_l, it_t, sl_l, sl_t, wk_l, wk_t, wl_l, wl_t, wk_n, wl_n, bg_n, fin_newL]) (by simp only [exss, exs, ev, evs, evv, evI, evc, evo, E.pur, EL.pur, OE.pur, g0, g1, g2, g3, g4, g5, g6, g7, g8, g9, g10, g11, s0, s1, s2, s3, s4, s5, s6, s7, s8, s9, s10, s11, at_fz, at_lst, at_obj, bind_ok, bind_exc, fl_ok, fl_exc, of_some, held_fz, held_tmp, held_vw, held_t, new_fz, new_lst, new_obj, own_fz, own_tmp, fin_fz, fin_tmp, tr_bl, tr_int, tr_non, c_lt, c_le, c_gt, c_ge, c_eqi, c_nei, c_eqs, c_nes, c_is0, c_isi, c_isl, c_isnt0, c_isnti, c_isntl, o_add, o_sub, b_lenl, b_lent, b_lenm, b_lenv, b_int, b_bool, b_tupt, b_tupl, b_tupm, b_listt, b_listl, cf0, cf1, cf2, cf3, cf4, cf5, oc_ok, oc_exc, tb_none, tb_some, tb_nil, Option.map_some, Bool.not_true, Bool.not_false, Bool.and_self, Bool.and_true, Bool.true_and, if_true, List.map_cons, List.map_nil, List.nil_append, List.cons_append, Nat.reduceSub, Nat.sub_self, List.replicate_zero, List.replicate_succ, List.append_nil, fi0, fi1, fi2, fi3, fi4, fi5, it_l, it_t, sl_l, sl_t, wk_l, wk_t, wl_l, wl_t, wk_n, wl_n, bg_n, fin_newL, hl]) h2 h4
    rw [h3] at e1
    refine ev_bi1 (x := newL (List.replicate z.toNat .non)) ?_ b_tupm
    simp only [ev, g4, at_fz, bind_ok, E.pur, held_t, c_is0, Option.map_some, of_some, tr_bl]
    exact e1
  · simp only [exss, exs, ev, evs, evv, evI, evc, evo, E.pur, EL.pur, OE.pur, g0, g1, g2, g3, g4, g5, g6, g7, g8, g9, g10, g11, s0, s1, s2, s3, s4, s5, s6, s7, s8, s9, s10, s11, at_fz, at_lst, at_obj, bind_ok, bind_exc, fl_ok, fl_exc, of_some, held_fz, held_tmp, held_vw, held_t, new_fz, new_lst, new_obj, own_fz, own_tmp, fin_fz, fin_tmp, tr_bl, tr_int, tr_non, c_lt, c_le, c_gt, c_ge, c_eqi, c_nei, c_eqs, c_nes, c_is0, c_isi, c_isl, c_isnt0, c_isnti, c_isntl, o_add, o_sub, b_lenl, b_lent, b_lenm, b_lenv, b_int, b_bool, b_tupt, b_tupl, b_tupm, b_listt, b_listl, cf0, cf1, cf2, cf3, cf4, cf5, oc_ok, oc_exc, tb_none, tb_some, tb_nil, Option.map_some, Bool.not_true, Bool.not_false, Bool.and_self, Bool.and_true, Bool.true_and, if_true, List.map_cons, List.map_nil, List.nil_append, List.cons_append, Nat.reduceSub, Nat.sub_self, List.replicate_zero, List.replicate_succ, List.append_nil, fi0, fi1, fi2, fi3, fi4, fi5, it_l, it_t, sl_l, sl_t, wk_l, wk_t, wl_l, wl_t, wk_n, wl_n, bg_n, fin_newL]
theorem dt4 (hD : DayIn f z hours ms ds bags bg) (P : Fn) (x : Option O) : exs T P none (.setf (.v 0) 639 (.bi .tuple (.cons (.ite (.cm .is (.v 4) (.c .non)) (.rep (.lst (.cons (.c .non) .nil)) (.bi .len (.cons (.v 1) .nil))) (.v 4)) .nil))) (dE (O3 f z hours ms) z hours ds bags f x) = .next (dE (dayO f z hours ms bg) z hours ds bags f x) :=
  exs_setf (x := .fz (.tup bg)) (v1 := dE (O3 f z hours ms) z hours ds bags f x) (fs := [(764, .fz (.bl f)), (954, .fz (.tup (nms z))), (831, .fz (.int hours)), (933, .fz (.tup (ms.map M5.t)))]) (dt4a hD P x) rfl rfl (show (4 : Nat) < 900 by decide) rfl rfl
theorem day_tail (hD : DayIn f z hours ms ds bags bg) (x : Option O) :
    (exss T (callN T (n + 4)) none (.cons (.setf (.v 0) 954 (.bi .tuple (.cons (.v 1) .nil))) (.cons (.setf (.v 0) 831 (.v 2)) (.cons (.setf (.v 0) 933 (.bi .tuple (.cons (.lc [7] (.n 7) (.seq (.v 3)) .no (.bi .tuple (.cons (.v 7) .nil))) .nil))) (.cons (.setf (.v 0) 639 (.bi .tuple (.cons (.ite (.cm .is (.v 4) (.c .non)) (.rep (.lst (.cons (.c .non) .nil)) (.bi .len (.cons (.v 1) .nil))) (.v 4)) .nil))) .nil)))) (dE (dS1 f) z hours ds bags f x)).cr 6 f_Day___init__.body.sl =
    .ok (.fz .non) [some (dayO f z hours ms bg), some (.fz (.lst (nms z))), some (.fz (.int hours)), some (.fz (.lst ds)), some (.fz bags), some (.fz (.bl f))] := by
  refine run_next (dt1 _ x) (run_next (dt2 _ x) (run_next (dt3 hD _ x) (run_next (dt4 hD _ x) ?_)))
  exact run_nil
/-- a day is made -/
theorem day_loose (hD : DayIn false z hours ms ds bags bg) : callN T (n + 5) 60 [.obj 27 [], .fz (.lst (nms z)), .fz (.int hours), .fz (.lst ds), .fz bags, .fz (.bl false)] =
    .ok (.fz .non) [some (dayO false z hours ms bg), some (.fz (.lst (nms z))), some (.fz (.int hours)), some (.fz (.lst ds)), some (.fz bags), some (.fz (.bl false))] := by
  refine day_head hD (run_next (v1 := dE (dS1 false) z hours ds bags false none) ?_ (day_tail hD none))
  have a1 : ∀ v : Env, attF T (callN T (n + 4)) 764 (.vw 0 (dS1 false)) v = .ok (.fz (.bl false)) v := fun _ => rfl
  simp only [exss, exs, ev, evs, evv, evI, evc, evo, E.pur, EL.pur, OE.pur, g0, g1, g2, g3, g4, g5, g6, g7, g8, g9, g10, g11, s0, s1, s2, s3, s4, s5, s6, s7, s8, s9, s10, s11, at_fz, at_lst, at_obj, bind_ok, bind_exc, fl_ok, fl_exc, of_some, held_fz, held_tmp, held_vw, held_t, new_fz, new_lst, new_obj, own_fz, own_tmp, fin_fz, fin_tmp, tr_bl, tr_int, tr_non, c_lt, c_le, c_gt, c_ge, c_eqi, c_nei, c_eqs, c_nes, c_is0, c_isi, c_isl, c_isnt0, c_isnti, c_isntl, o_add, o_sub, b_lenl, b_lent, b_lenm, b_lenv, b_int, b_bool, b_tupt, b_tupl, b_tupm, b_listt, b_listl, cf0, cf1, cf2, cf3, cf4, cf5, oc_ok, oc_exc, tb_none, tb_some, tb_nil, Option.map_some, Bool.not_true, Bool.not_false, Bool.and_self, Bool.and_true, Bool.true_and, if_true, List.map_cons, List.map_nil, List.nil_append, List.cons_append, Nat.reduceSub, Nat.sub_self, List.replicate_zero, List.replicate_succ, List.append_nil, fi0, fi1, fi2, fi3, fi4, fi5, it_l, it_t, sl_l, sl_t, wk_l, wk_t, wl_l, wl_t, wk_n, wl_n, bg_n, fin_newL, a1]
theorem firm_all (hD : DayIn true z hours ms ds bags bg) : ∀ (c j : Nat) (x : Option O), j + c ≤ ms.length → (∀ i, j ≤ i → i < j + c → bad ms i = false) → ∃ y, forLoop (.n 6) (exss T (callN T (n + 4)) none (.cons (.ex (.call 249 (.cons (.v 6) (.cons (.v 3) .nil)))) .nil)) ((List.range' j c).map fun (i : Nat) => D.int (i : Int)) (dE (dS1 true) z hours ds bags true x) = .next (dE (dS1 true) z hours ds bags true y)
  | 0, j, x, _, _ => ⟨x, rfl⟩
  | c + 1, j, x, hl, hb => by
    obtain ⟨y, e⟩ := firm_all hD c (j + 1) (some (.fz (.int (j : Int)))) (by omega) fun i h1 h2 => hb i (by omega) (by omega)
    have hj : j < ms.length := by omega
    have hm : ms[j]? = some ms[j] := List.getElem?_eq_getElem hj
    have c1 := (check_firm_both (n + 3) j (by have := hD.len; omega) _ ms ds hD.rows hm).1 (hb j (by omega) (by omega))
    refine ⟨y, ?_⟩
    have b1 : exss T (callN T (n + 4)) none (.cons (.ex (.call 249 (.cons (.v 6) (.cons (.v 3) .nil)))) .nil) (dE (dS1 true) z hours ds bags true (some (.fz (.int (j : Int))))) = .next (dE (dS1 true) z hours ds bags true (some (.fz (.int (j : Int))))) := by
      simp only [exss, exs, ev, evs, evv, evI, evc, evo, E.pur, EL.pur, OE.pur, g0, g1, g2, g3, g4, g5, g6, g7, g8, g9, g10, g11, s0, s1, s2, s3, s4, s5, s6, s7, s8, s9, s10, s11, at_fz, at_lst, at_obj, bind_ok, bind_exc, fl_ok, fl_exc, of_some, held_fz, held_tmp, held_vw, held_t, new_fz, new_lst, new_obj, own_fz, own_tmp, fin_fz, fin_tmp, tr_bl, tr_int, tr_non, c_lt, c_le, c_gt, c_ge, c_eqi, c_nei, c_eqs, c_nes, c_is0, c_isi, c_isl, c_isnt0, c_isnti, c_isntl, o_add, o_sub, b_lenl, b_lent, b_lenm, b_lenv, b_int, b_bool, b_tupt, b_tupl, b_tupm, b_listt, b_listl, cf0, cf1, cf2, cf3, cf4, cf5, oc_ok, oc_exc, tb_none, tb_some, tb_nil, Option.map_some, Bool.not_true, Bool.not_false, Bool.and_self, Bool.and_true, Bool.true_and, if_true, List.map_cons, List.map_nil, List.nil_append, List.cons_append, Nat.reduceSub, Nat.sub_self, List.replicate_zero, List.replicate_succ, List.append_nil, fi0, fi1, fi2, fi3, fi4, fi5, it_l, it_t, sl_l, sl_t, wk_l, wk_t, wl_l, wl_t, wk_n, wl_n, bg_n, fin_newL, c1]
    rw [List.range'_succ, List.map_cons]
    simp only [forLoop, bg_n, s6, b1, e]
theorem firm_stop (hD : DayIn true z hours ms ds bags bg) (k : Nat) (hk : k < ms.length) (hbk : bad ms k = true) : ∀ (c j : Nat) (x : Option O), j + c = ms.length → j ≤ k → (∀ i, j ≤ i → i < k → bad ms i = false) → ∃ y, forLoop (.n 6) (exss T (callN T (n + 4)) none (.cons (.ex (.call 249 (.cons (.v 6) (.cons (.v 3) .nil)))) .nil)) ((List.range' j c).map fun (i : Nat) => D.int (i : Int)) (dE (dS1 true) z hours ds bags true x) = .exc (wFirm k) (dE (dS1 true) z hours ds bags true y)
  | 0, j, x, hl, hjk, hb => absurd hk (by omega)
  | c + 1, j, x, hl, hjk, hb => by
    have hj : j < ms.length := by omega
    have hm : ms[j]? = some ms[j] := List.getElem?_eq_getElem hj
    have cb := check_firm_both (n + 3) j (by have := hD.len; omega) _ ms ds hD.rows hm
    rw [List.range'_succ, List.map_cons]
    by_cases hjk2 : j = k
    · subst hjk2
      have c1 := cb.2 hbk
      have b1 : exss T (callN T (n + 4)) none (.cons (.ex (.call 249 (.cons (.v 6) (.cons (.v 3) .nil)))) .nil) (dE (dS1 true) z hours ds bags true (some (.fz (.int (j : Int))))) = .exc (wFirm j) (dE (dS1 true) z hours ds bags true (some (.fz (.int (j : Int))))) := by
        simp only [exss, exs, ev, evs, evv, evI, evc, evo, E.pur, EL.pur, OE.pur, g0, g1, g2, g3, g4, g5, g6, g7, g8, g9, g10, g11, s0, s1, s2, s3, s4, s5, s6, s7, s8, s9, s10, s11, at_fz, at_lst, at_obj, bind_ok, bind_exc, fl_ok, fl_exc, of_some, held_fz, held_tmp, held_vw, held_t, new_fz, new_lst, new_obj, own_fz, own_tmp, fin_fz, fin_tmp, tr_bl, tr_int, tr_non, c_lt, c_le, c_gt, c_ge, c_eqi, c_nei, c_eqs, c_nes, c_is0, c_isi, c_isl, c_isnt0, c_isnti, c_isntl, o_add, o_sub, b_lenl, b_lent, b_lenm, b_lenv, b_int, b_bool, b_tupt, b_tupl, b_tupm, b_listt, b_listl, cf0, cf1, cf2, cf3, cf4, cf5, oc_ok, oc_exc, tb_none, tb_some, tb_nil, Option.map_some, Bool.not_true, Bool.not_false, Bool.and_self, Bool.and_true, Bool.true_and, if_true, List.map_cons, List.map_nil, List.nil_append, List.cons_append, Nat.reduceSub, Nat.sub_self, List.replicate_zero, List.replicate_succ, List.append_nil, fi0, fi1, fi2, fi3, fi4, fi5, it_l, it_t, sl_l, sl_t, wk_l, wk_t, wl_l, wl_t, wk_n, wl_n, bg_n, fin_newL, c1]
      exact ⟨some (.fz (.int (j : Int))), by simp only [forLoop, bg_n, s6, b1]⟩
    · have c1 := cb.1 (hb j (by omega) (by omega))
      obtain ⟨y, e⟩ := firm_stop hD k hk hbk c (j + 1) (some (.fz (.int (j : Int)))) (by omega) (by omega) fun i h1 h2 => hb i (by omega) h2
      have b1 : exss T (callN T (n + 4)) none (.cons (.ex (.call 249 (.cons (.v 6) (.cons (.v 3) .nil)))) .nil) (dE (dS1 true) z hours ds bags true (some (.fz (.int (j : Int))))) = .next (dE (dS1 true) z hours ds bags true (some (.fz (.int (j : Int))))) := by
        simp only [exss, exs, ev, evs, evv, evI, evc, evo, E.pur, EL.pur, OE.pur, g0, g1, g2, g3, g4, g5, g6, g7, g8, g9, g10, g11, s0, s1, s2, s3, s4, s5, s6, s7, s8, s9, s10, s11, at_fz, at_lst, at_obj, bind_ok, bind_exc, fl_ok, fl_exc, of_some, held_fz, held_tmp, held_vw, held_t, new_fz, new_lst, new_obj, own_fz, own_tmp, fin_fz, fin_tmp, tr_bl, tr_int, tr_non, c_lt, c_le, c_gt, c_ge, c_eqi, c_nei, c_eqs, c_nes, c_is0, c_isi, c_isl, c_isnt0, c_isnti, c_isntl, o_add, o_sub, b_lenl, b_lent, b_lenm, b_lenv, b_int, b_bool, b_tupt, b_tupl, b_tupm, b_listt, b_listl, cf0, cf1, cf2, cf3, cf4, cf5, oc_ok, oc_exc, tb_none, tb_some, tb_nil, Option.map_some, Bool.not_true, Bool.not_false, Bool.and_self, Bool.and_true, Bool.true_and, if_true, List.map_cons, List.map_nil, List.nil_append, List.cons_append, Nat.reduceSub, Nat.sub_self, List.replicate_zero, List.replicate_succ, List.append_nil, fi0, fi1, fi2, fi3, fi4, fi5, it_l, it_t, sl_l, sl_t, wk_l, wk_t, wl_l, wl_t, wk_n, wl_n, bg_n, fin_newL, c1]
      exact ⟨y, by simp only [forLoop, bg_n, s6, b1, e]⟩
theorem firm_it (hD : DayIn true z hours ms ds bags bg) (P : Fn) : evI T P none (.rng1 (.bi .len (.cons (.v 3) .nil))) (dE (dS1 true) z hours ds bags true none) = .ok ((List.range' 0 ms.length).map fun (i : Nat) => D.int (i : Int)) (dE (dS1 true) z hours ds bags true none) := by
  have h2 : inRng ((ds.length : Nat) : Int) = true := inR (by omega) (by rw [hD.rows.len]; have := hD.len; omega)
  have h3 : rng 0 ((ds.length : Nat) : Int) = (List.range' 0 ms.length).map fun (i : Nat) => D.int (i : Int) := by
    rw [rng_nat, hD.rows.len, List.range_eq_range']
  rw [← h3]
  exact ev_rng1 (by simp only [exss, exs, ev, evs, evv, evI, evc, evo, E.pur, EL.pur, OE.pur, g0, g1, g2, g3, g4, g5, g6, g7, g8, g9, g10, g11, s0, s1, s2, s3, s4, s5, s6, s7, s8, s9, s10, s11, at_fz, at_lst, at_obj, bind_ok, bind_exc, fl_ok, fl_exc, of_some, held_fz, held_tmp, held_vw, held_t, new_fz, new_lst, new_obj, own_fz, own_tmp, fin_fz, fin_tmp, tr_bl, tr_int, tr_non, c_lt, c_le, c_gt, c_ge, c_eqi, c_nei, c_eqs, c_nes, c_is0, c_isi, c_isl, c_isnt0, c_isnti, c_isntl, o_add, o_sub, b_lenl, b_lent, b_lenm, b_lenv, b_int, b_bool, b_tupt, b_tupl, b_tupm, b_listt, b_listl, cf0, cf1, cf2, cf3, cf4, cf5, oc_ok, oc_exc, tb_none, tb_some, tb_nil, Option.map_some, Bool.not_true, Bool.not_false, Bool.and_self, Bool.and_true, Bool.true_and, if_true, List.map_cons, List.map_nil, List.nil_append, List.cons_append, Nat.reduceSub, Nat.sub_self, List.replicate_zero, List.replicate_succ, List.append_nil, fi0, fi1, fi2, fi3, fi4, fi5, it_l, it_t, sl_l, sl_t, wk_l, wk_t, wl_l, wl_t, wk_n, wl_n, bg_n, fin_newL]) h2
theorem day_firm (hD : DayIn true z hours ms ds bags bg) (hb : ∀ i < ms.length, bad ms i = false) : callN T (n + 5) 60 [.obj 27 [], .fz (.lst (nms z)), .fz (.int hours), .fz (.lst ds), .fz bags, .fz (.bl true)] =
    .ok (.fz .non) [some (dayO true z hours ms bg), some (.fz (.lst (nms z))), some (.fz (.int hours)), some (.fz (.lst ds)), some (.fz bags), some (.fz (.bl true))] := by
  obtain ⟨y, e⟩ := firm_all (n := n) hD ms.length 0 none (by omega) fun i _ h => hb i (by omega)
  refine day_head hD (run_next (v1 := dE (dS1 true) z hours ds bags true y) ?_ (day_tail hD y))
  have a1 : ∀ v : Env, attF T (callN T (n + 4)) 764 (.vw 0 (dS1 true)) v = .ok (.fz (.bl true)) v := fun _ => rfl
  refine exs_if1 (x := .fz (.bl true)) (v1 := dE (dS1 true) z hours ds bags true none) (by simp only [exss, exs, ev, evs, evv, evI, evc, evo, E.pur, EL.pur, OE.pur, g0, g1, g2, g3, g4, g5, g6, g7, g8, g9, g10, g11, s0, s1, s2, s3, s4, s5, s6, s7, s8, s9, s10, s11, at_fz, at_lst, at_obj, bind_ok, bind_exc, fl_ok, fl_exc, of_some, held_fz, held_tmp, held_vw, held_t, new_fz, new_lst, new_obj, own_fz, own_tmp, fin_fz, fin_tmp, tr_bl, tr_int, tr_non, c_lt, c_le, c_gt, c_ge, c_eqi, c_nei, c_eqs, c_nes, c_is0, c_isi, c_isl, c_isnt0, c_isnti, c_isntl, o_add, o_sub, b_lenl, b_lent, b_lenm, b_lenv, b_int, b_bool, b_tupt, b_tupl, b_tupm, b_listt, b_listl, cf0, cf1, cf2, cf3, cf4, cf5, oc_ok, oc_exc, tb_none, tb_some, tb_nil, Option.map_some, Bool.not_true, Bool.not_false, Bool.and_self, Bool.and_true, Bool.true_and, if_true, List.map_cons, List.map_nil, List.nil_append, List.cons_append, Nat.reduceSub, Nat.sub_self, List.replicate_zero, List.replicate_succ, List.append_nil, fi0, fi1, fi2, fi3, fi4, fi5, it_l, it_t, sl_l, sl_t, wk_l, wk_t, wl_l, wl_t, wk_n, wl_n, bg_n, fin_newL, a1]) rfl ?_
  rw [ss_next (exs_for (firm_it hD _) e), ss_nil]
/-- .. or refused -/
theorem day_not (hD : DayIn true z hours ms ds bags bg) (k : Nat) (hk : k < ms.length) (hbk : bad ms k = true) (hb : ∀ i < k, bad ms i = false) : ∃ x, callN T (n + 5) 60 [.obj 27 [], .fz (.lst (nms z)), .fz (.int hours), .fz (.lst ds), .fz bags, .fz (.bl true)] =
    .exc (wFirm k) [some x, some (.fz (.lst (nms z))), some (.fz (.int hours)), some (.fz (.lst ds)), some (.fz bags), some (.fz (.bl true))] := by
  obtain ⟨y, e⟩ := firm_stop (n := n) hD k hk hbk ms.length 0 none (by omega) (by omega) fun i _ h => hb i h
  refine ⟨dS1 true, day_head hD (run_exc (v1 := dE (dS1 true) z hours ds bags true y) ?_)⟩
  have a1 : ∀ v : Env, attF T (callN T (n + 4)) 764 (.vw 0 (dS1 true)) v = .ok (.fz (.bl true)) v := fun _ => rfl
  refine exs_if1 (x := .fz (.bl true)) (v1 := dE (dS1 true) z hours ds bags true none) (by simp only [exss, exs, ev, evs, evv, evI, evc, evo, E.pur, EL.pur, OE.pur, g0, g1, g2, g3, g4, g5, g6, g7, g8, g9, g10, g11, s0, s1, s2, s3, s4, s5, s6, s7, s8, s9, s10, s11, at_fz, at_lst, at_obj, bind_ok, bind_exc, fl_ok, fl_exc, of_some, held_fz, held_tmp, held_vw, held_t, new_fz, new_lst, new_obj, own_fz, own_tmp, fin_fz, fin_tmp, tr_bl, tr_int, tr_non, c_lt, c_le, c_gt, c_ge, c_eqi, c_nei, c_eqs, c_nes, c_is0, c_isi, c_isl, c_isnt0, c_isnti, c_isntl, o_add, o_sub, b_lenl, b_lent, b_lenm, b_lenv, b_int, b_bool, b_tupt, b_tupl, b_tupm, b_listt, b_listl, cf0, cf1, cf2, cf3, cf4, cf5, oc_ok, oc_exc, tb_none, tb_some, tb_nil, Option.map_some, Bool.not_true, Bool.not_false, Bool.and_self, Bool.and_true, Bool.true_and, if_true, List.map_cons, List.map_nil, List.nil_append, List.cons_append, Nat.reduceSub, Nat.sub_self, List.replicate_zero, List.replicate_succ, List.append_nil, fi0, fi1, fi2, fi3, fi4, fi5, it_l, it_t, sl_l, sl_t, wk_l, wk_t, wl_l, wl_t, wk_n, wl_n, bg_n, fin_newL, a1]) rfl ?_
  simp only [exss, exs_for (firm_it hD _) e]
end
end Pv.Pl

set_option Elab.async false
set_option linter.all false
set_option maxRecDepth 100000
/-! P5: a day, a plan of two days: what they tell. -/
namespace Pv.Pl
open PySem

def dayD (f : Bool) (z hours : Int) (ms : List M5) (bg : List D) : D := .obj 27 [(764, .bl f), (954, .tup (nms z)), (831, .int hours), (933, .tup (ms.map M5.t)), (639, .tup bg)]
def planD (d : D) : D := .obj 46 [(730, d), (733, .int 2)]
section
variable {f : Bool} {z hours : Int} {ms : List M5} {bg : List D} {n : Nat} {P : Fn} {v : Env}
theorem dayO_frz : (dayO f z hours ms bg).frz = dayD f z hours ms bg := rfl
theorem a831 : attF T P 831 (.fz (dayD f z hours ms bg)) v = .ok (.fz (.int hours)) v := rfl
theorem a933 : attF T P 933 (.fz (dayD f z hours ms bg)) v = .ok (.fz (.tup (ms.map M5.t))) v := rfl
theorem a954 : attF T P 954 (.fz (dayD f z hours ms bg)) v = .ok (.fz (.tup (nms z))) v := rfl
theorem a764 : attF T P 764 (.fz (dayD f z hours ms bg)) v = .ok (.fz (.bl f)) v := rfl
theorem a730 {d : D} : attF T P 730 (.fz (planD d)) v = .ok (.fz d) v := rfl
theorem a733 {d : D} : attF T P 733 (.fz (planD d)) v = .ok (.fz (.int 2)) v := rfl
theorem kind_ok : callN T (n + 1) 62 [.fz (dayD true z hours ms bg)] = .ok (.fz (.str "firm")) [some (.fz (dayD true z hours ms bg))] := rfl
theorem a866 : attF T (callN T (n + 1)) 866 (.fz (dayD true z hours ms bg)) v = .ok (.fz (.str "firm")) v := rfl
theorem mul2 (j : Int) : op2 .mul (.fz (.int 2)) (.fz (.int j)) = some (.fz (.int (2 * j))) := rfl
theorem many_ok : callN T (n + 1) 145 [.fz (planD (dayD f z hours ms bg))] = .ok (.fz (.int (2 * (ms.length : Int)))) [some (.fz (planD (dayD f z hours ms bg)))] := by
  refine call_body T145 rfl (v := [some (.fz (planD (dayD f z hours ms bg)))]) rfl ?_
  refine (run_ret (x := .fz (.int (2 * (ms.length : Int)))) (v1 := [some (.fz (planD (dayD f z hours ms bg)))]) (o := .fz (.int (2 * (ms.length : Int)))) ?_ rfl).trans rfl
  simp only [exss, exs, ev, evs, evv, evI, evc, evo, E.pur, EL.pur, OE.pur, g0, g1, g2, g3, g4, g5, g6, g7, g8, g9, g10, g11, s0, s1, s2, s3, s4, s5, s6, s7, s8, s9, s10, s11, at_fz, at_lst, at_obj, bind_ok, bind_exc, fl_ok, fl_exc, of_some, held_fz, held_tmp, held_vw, held_t, new_fz, new_lst, new_obj, own_fz, own_tmp, fin_fz, fin_tmp, tr_bl, tr_int, tr_non, c_lt, c_le, c_gt, c_ge, c_eqi, c_nei, c_eqs, c_nes, c_is0, c_isi, c_isl, c_isnt0, c_isnti, c_isntl, o_add, o_sub, b_lenl, b_lent, b_lenm, b_lenv, b_int, b_bool, b_tupt, b_tupl, b_tupm, b_listt, b_listl, cf0, cf1, cf2, cf3, cf4, cf5, oc_ok, oc_exc, tb_none, tb_some, tb_nil, Option.map_some, Bool.not_true, Bool.not_false, Bool.and_self, Bool.and_true, Bool.true_and, if_true, List.map_cons, List.map_nil, List.nil_append, List.cons_append, Nat.reduceSub, Nat.sub_self, List.replicate_zero, List.replicate_succ, List.append_nil, fi0, fi1, fi2, fi3, fi4, fi5, it_l, it_t, sl_l, sl_t, wk_l, wk_t, wl_l, wl_t, wk_n, wl_n, bg_n, fin_newL, a730, a733, a933, List.length_map, mul2]
theorem size_ok (h0 : 0 ≤ z) (h : z ≤ 12) : callN T (n + 1) 150 [.fz (planD (dayD f z hours ms bg))] = .ok (.fz (.int z)) [some (.fz (planD (dayD f z hours ms bg)))] := by
  refine call_body T150 rfl (v := [some (.fz (planD (dayD f z hours ms bg)))]) rfl ?_
  refine (run_ret (x := .fz (.int z)) (v1 := [some (.fz (planD (dayD f z hours ms bg)))]) (o := .fz (.int z)) ?_ rfl).trans rfl
  simp only [exss, exs, ev, evs, evv, evI, evc, evo, E.pur, EL.pur, OE.pur, g0, g1, g2, g3, g4, g5, g6, g7, g8, g9, g10, g11, s0, s1, s2, s3, s4, s5, s6, s7, s8, s9, s10, s11, at_fz, at_lst, at_obj, bind_ok, bind_exc, fl_ok, fl_exc, of_some, held_fz, held_tmp, held_vw, held_t, new_fz, new_lst, new_obj, own_fz, own_tmp, fin_fz, fin_tmp, tr_bl, tr_int, tr_non, c_lt, c_le, c_gt, c_ge, c_eqi, c_nei, c_eqs, c_nes, c_is0, c_isi, c_isl, c_isnt0, c_isnti, c_isntl, o_add, o_sub, b_lenl, b_lent, b_lenm, b_lenv, b_int, b_bool, b_tupt, b_tupl, b_tupm, b_listt, b_listl, cf0, cf1, cf2, cf3, cf4, cf5, oc_ok, oc_exc, tb_none, tb_some, tb_nil, Option.map_some, Bool.not_true, Bool.not_false, Bool.and_self, Bool.and_true, Bool.true_and, if_true, List.map_cons, List.map_nil, List.nil_append, List.cons_append, Nat.reduceSub, Nat.sub_self, List.replicate_zero, List.replicate_succ, List.append_nil, fi0, fi1, fi2, fi3, fi4, fi5, it_l, it_t, sl_l, sl_t, wk_l, wk_t, wl_l, wl_t, wk_n, wl_n, bg_n, fin_newL, a730, a954, nms_len h0 h]
theorem a924 : attF T (callN T (n + 1)) 924 (.fz (planD (dayD f z hours ms bg))) v = .ok (.fz (.int (2 * (ms.length : Int)))) v := by
  have e : attF T (callN T (n + 1)) 924 (.fz (planD (dayD f z hours ms bg))) v = (match callN T (n + 1) 145 [.fz (planD (dayD f z hours ms bg))] with
        | .ok o _ => .ok (.new o) v
        | _ => .bad) := rfl
  rw [e, many_ok]
  rfl
theorem a1085 (h0 : 0 ≤ z) (h : z ≤ 12) : attF T (callN T (n + 1)) 1085 (.fz (planD (dayD f z hours ms bg))) v = .ok (.fz (.int z)) v := by
  have e : attF T (callN T (n + 1)) 1085 (.fz (planD (dayD f z hours ms bg))) v = (match callN T (n + 1) 150 [.fz (planD (dayD f z hours ms bg))] with
        | .ok o _ => .ok (.new o) v
        | _ => .bad) := rfl
  rw [e, size_ok h0 h]
  rfl
theorem plan_ok (h0 : 1 ≤ hours) (h1 : hours ≤ 60) (hl : ms.length ≤ 60) : callN T (n + 3) 142 [.obj 46 [], .fz (dayD f z hours ms bg), .fz (.int 2)] = .ok (.fz .non) [some (.obj 46 [(730, .fz (dayD f z hours ms bg)), (733, .fz (.int 2))]), some (.fz (dayD f z hours ms bg)), some (.fz (.int 2))] := by
  have c1 : decide ((600 : Int) < 2 * hours) = false := df (by omega)
  have c2 : decide ((400 : Int) < 2 * (ms.length : Int)) = false := df (by omega)
  refine call_body T142 rfl (v := [some (.obj 46 []), some (.fz (dayD f z hours ms bg)), some (.fz (.int 2))]) rfl ?_
  refine run_next (v1 := [some (.obj 46 []), some (.fz (dayD f z hours ms bg)), some (.fz (.int 2))]) ?_ ?_
  · simp only [exss, exs, ev, evs, evv, evI, evc, evo, E.pur, EL.pur, OE.pur, g0, g1, g2, g3, g4, g5, g6, g7, g8, g9, g10, g11, s0, s1, s2, s3, s4, s5, s6, s7, s8, s9, s10, s11, at_fz, at_lst, at_obj, bind_ok, bind_exc, fl_ok, fl_exc, of_some, held_fz, held_tmp, held_vw, held_t, new_fz, new_lst, new_obj, own_fz, own_tmp, fin_fz, fin_tmp, tr_bl, tr_int, tr_non, c_lt, c_le, c_gt, c_ge, c_eqi, c_nei, c_eqs, c_nes, c_is0, c_isi, c_isl, c_isnt0, c_isnti, c_isntl, o_add, o_sub, b_lenl, b_lent, b_lenm, b_lenv, b_int, b_bool, b_tupt, b_tupl, b_tupm, b_listt, b_listl, cf0, cf1, cf2, cf3, cf4, cf5, oc_ok, oc_exc, tb_none, tb_some, tb_nil, Option.map_some, Bool.not_true, Bool.not_false, Bool.and_self, Bool.and_true, Bool.true_and, if_true, List.map_cons, List.map_nil, List.nil_append, List.cons_append, Nat.reduceSub, Nat.sub_self, List.replicate_zero, List.replicate_succ, List.append_nil, fi0, fi1, fi2, fi3, fi4, fi5, it_l, it_t, sl_l, sl_t, wk_l, wk_t, wl_l, wl_t, wk_n, wl_n, bg_n, fin_newL, check_number_ok n _ 2 1 60 (by decide) (by decide)]
  refine run_next (v1 := [some (.obj 46 []), some (.fz (dayD f z hours ms bg)), some (.fz (.int 2))]) ?_ ?_
  · simp only [exss, exs, ev, evs, evv, evI, evc, evo, E.pur, EL.pur, OE.pur, g0, g1, g2, g3, g4, g5, g6, g7, g8, g9, g10, g11, s0, s1, s2, s3, s4, s5, s6, s7, s8, s9, s10, s11, at_fz, at_lst, at_obj, bind_ok, bind_exc, fl_ok, fl_exc, of_some, held_fz, held_tmp, held_vw, held_t, new_fz, new_lst, new_obj, own_fz, own_tmp, fin_fz, fin_tmp, tr_bl, tr_int, tr_non, c_lt, c_le, c_gt, c_ge, c_eqi, c_nei, c_eqs, c_nes, c_is0, c_isi, c_isl, c_isnt0, c_isnti, c_isntl, o_add, o_sub, b_lenl, b_lent, b_lenm, b_lenv, b_int, b_bool, b_tupt, b_tupl, b_tupm, b_listt, b_listl, cf0, cf1, cf2, cf3, cf4, cf5, oc_ok, oc_exc, tb_none, tb_some, tb_nil, Option.map_some, Bool.not_true, Bool.not_false, Bool.and_self, Bool.and_true, Bool.true_and, if_true, List.map_cons, List.map_nil, List.nil_append, List.cons_append, Nat.reduceSub, Nat.sub_self, List.replicate_zero, List.replicate_succ, List.append_nil, fi0, fi1, fi2, fi3, fi4, fi5, it_l, it_t, sl_l, sl_t, wk_l, wk_t, wl_l, wl_t, wk_n, wl_n, bg_n, fin_newL, a831, a933, List.length_map, mul2, c1, c2]
  refine run_next (v1 := [some (.obj 46 [(730, .fz (dayD f z hours ms bg))]), some (.fz (dayD f z hours ms bg)), some (.fz (.int 2))]) ?_ ?_
  · exact exs_setf (x := .fz (dayD f z hours ms bg)) (v1 := [some (.obj 46 []), some (.fz (dayD f z hours ms bg)), some (.fz (.int 2))]) (fs := []) (by simp only [exss, exs, ev, evs, evv, evI, evc, evo, E.pur, EL.pur, OE.pur, g0, g1, g2, g3, g4, g5, g6, g7, g8, g9, g10, g11, s0, s1, s2, s3, s4, s5, s6, s7, s8, s9, s10, s11, at_fz, at_lst, at_obj, bind_ok, bind_exc, fl_ok, fl_exc, of_some, held_fz, held_tmp, held_vw, held_t, new_fz, new_lst, new_obj, own_fz, own_tmp, fin_fz, fin_tmp, tr_bl, tr_int, tr_non, c_lt, c_le, c_gt, c_ge, c_eqi, c_nei, c_eqs, c_nes, c_is0, c_isi, c_isl, c_isnt0, c_isnti, c_isntl, o_add, o_sub, b_lenl, b_lent, b_lenm, b_lenv, b_int, b_bool, b_tupt, b_tupl, b_tupm, b_listt, b_listl, cf0, cf1, cf2, cf3, cf4, cf5, oc_ok, oc_exc, tb_none, tb_some, tb_nil, Option.map_some, Bool.not_true, Bool.not_false, Bool.and_self, Bool.and_true, Bool.true_and, if_true, List.map_cons, List.map_nil, List.nil_append, List.cons_append, Nat.reduceSub, Nat.sub_self, List.replicate_zero, List.replicate_succ, List.append_nil, fi0, fi1, fi2, fi3, fi4, fi5, it_l, it_t, sl_l, sl_t, wk_l, wk_t, wl_l, wl_t, wk_n, wl_n, bg_n, fin_newL]) rfl rfl (show (0 : Nat) < 900 by decide) rfl rfl
  refine run_next (v1 := [some (.obj 46 [(730, .fz (dayD f z hours ms bg)), (733, .fz (.int 2))]), some (.fz (dayD f z hours ms bg)), some (.fz (.int 2))]) ?_ ?_
  · exact exs_setf (x := .fz (.int 2)) (v1 := [some (.obj 46 [(730, .fz (dayD f z hours ms bg))]), some (.fz (dayD f z hours ms bg)), some (.fz (.int 2))]) (fs := [(730, .fz (dayD f z hours ms bg))]) (by simp only [exss, exs, ev, evs, evv, evI, evc, evo, E.pur, EL.pur, OE.pur, g0, g1, g2, g3, g4, g5, g6, g7, g8, g9, g10, g11, s0, s1, s2, s3, s4, s5, s6, s7, s8, s9, s10, s11, at_fz, at_lst, at_obj, bind_ok, bind_exc, fl_ok, fl_exc, of_some, held_fz, held_tmp, held_vw, held_t, new_fz, new_lst, new_obj, own_fz, own_tmp, fin_fz, fin_tmp, tr_bl, tr_int, tr_non, c_lt, c_le, c_gt, c_ge, c_eqi, c_nei, c_eqs, c_nes, c_is0, c_isi, c_isl, c_isnt0, c_isnti, c_isntl, o_add, o_sub, b_lenl, b_lent, b_lenm, b_lenv, b_int, b_bool, b_tupt, b_tupl, b_tupm, b_listt, b_listl, cf0, cf1, cf2, cf3, cf4, cf5, oc_ok, oc_exc, tb_none, tb_some, tb_nil, Option.map_some, Bool.not_true, Bool.not_false, Bool.and_self, Bool.and_true, Bool.true_and, if_true, List.map_cons, List.map_nil, List.nil_append, List.cons_append, Nat.reduceSub, Nat.sub_self, List.replicate_zero, List.replicate_succ, List.append_nil, fi0, fi1, fi2, fi3, fi4, fi5, it_l, it_t, sl_l, sl_t, wk_l, wk_t, wl_l, wl_t, wk_n, wl_n, bg_n, fin_newL]) rfl rfl (show (1 : Nat) < 900 by decide) rfl rfl
  rfl
/-! ### origin, meeting, stretch_of -/
theorem origin_ok (t p : Nat) (ht : t < 2) (hp : p < ms.length) (hl : ms.length ≤ 60) : callN T (n + 3) 148 [.fz (planD (dayD f z hours ms bg)), .fz (.int ((t * ms.length + p : Nat) : Int))] = .ok (.fz (.tup [.int (p : Int), .int ((t : Int) + 1)])) [some (.fz (planD (dayD f z hours ms bg))), some (.fz (.int ((t * ms.length + p : Nat) : Int)))] := by
  have hn : t * ms.length + p < 2 * ms.length := by
    have : t = 0 ∨ t = 1 := by omega
    rcases this with rfl | rfl <;> omega
  have e1 : ((t * ms.length + p : Nat) : Int) / (ms.length : Int) = (t : Int) := by
    rw [← Int.natCast_ediv]
    have : (t * ms.length + p) / ms.length = t := by
      rw [Nat.mul_comm, Nat.mul_add_div (by omega), Nat.div_eq_of_lt hp, Nat.add_zero]
    rw [this]
  have e2 : ((t * ms.length + p : Nat) : Int) % (ms.length : Int) = (p : Int) := by
    rw [← Int.natCast_emod]
    have : (t * ms.length + p) % ms.length = p := by
      rw [Nat.mul_comm, Nat.mul_add_mod, Nat.mod_eq_of_lt hp]
    rw [this]
  have c1 : (0 : Int) < (ms.length : Int) := by omega
  have c2 : (ms.length : Int) < 1073741824 := by omega
  generalize hN : ((t * ms.length + p : Nat) : Int) = N at *
  have n0 : 0 ≤ N := by omega
  have n1 : N ≤ 2 * (ms.length : Int) - 1 := by omega
  refine call_body T148 rfl (v := [some (.fz (planD (dayD f z hours ms bg))), some (.fz (.int N)), none, none]) rfl ?_
  refine run_next (v1 := [some (.fz (planD (dayD f z hours ms bg))), some (.fz (.int N)), none, none]) ?_ ?_
  · simp only [exss, exs, ev, evs, evv, evI, evc, evo, E.pur, EL.pur, OE.pur, g0, g1, g2, g3, g4, g5, g6, g7, g8, g9, g10, g11, s0, s1, s2, s3, s4, s5, s6, s7, s8, s9, s10, s11, at_fz, at_lst, at_obj, bind_ok, bind_exc, fl_ok, fl_exc, of_some, held_fz, held_tmp, held_vw, held_t, new_fz, new_lst, new_obj, own_fz, own_tmp, fin_fz, fin_tmp, tr_bl, tr_int, tr_non, c_lt, c_le, c_gt, c_ge, c_eqi, c_nei, c_eqs, c_nes, c_is0, c_isi, c_isl, c_isnt0, c_isnti, c_isntl, o_add, o_sub, b_lenl, b_lent, b_lenm, b_lenv, b_int, b_bool, b_tupt, b_tupl, b_tupm, b_listt, b_listl, cf0, cf1, cf2, cf3, cf4, cf5, oc_ok, oc_exc, tb_none, tb_some, tb_nil, Option.map_some, Bool.not_true, Bool.not_false, Bool.and_self, Bool.and_true, Bool.true_and, if_true, List.map_cons, List.map_nil, List.nil_append, List.cons_append, Nat.reduceSub, Nat.sub_self, List.replicate_zero, List.replicate_succ, List.append_nil, fi0, fi1, fi2, fi3, fi4, fi5, it_l, it_t, sl_l, sl_t, wk_l, wk_t, wl_l, wl_t, wk_n, wl_n, bg_n, fin_newL, a924, check_number_ok n _ N 0 _ n0 n1]
  refine run_next (v1 := [some (.fz (planD (dayD f z hours ms bg))), some (.fz (.int N)), some (.fz (.int (t : Int))), some (.fz (.int (p : Int)))]) ?_ ?_
  · have hL : ev T (callN T (n + 2)) none (.bi .len (.cons (.att (.att (.v 0) 730) 933) .nil)) [some (.fz (planD (dayD f z hours ms bg))), some (.fz (.int N)), none, none] = .ok (.fz (.int (ms.length : Int))) [some (.fz (planD (dayD f z hours ms bg))), some (.fz (.int N)), none, none] := by
      rw [← List.length_map (as := ms) M5.t]
      exact ev_bi1 (x := .fz (.tup (ms.map M5.t))) (ev_att (x := .fz (dayD f z hours ms bg)) (ev_att (x := .fz (planD (dayD f z hours ms bg))) rfl a730) a933) rfl
    have hd := ev_dm (T := T) (P := callN T (n + 2)) (X := none) (a := .v 1) (v := [some (.fz (planD (dayD f z hours ms bg))), some (.fz (.int N)), none, none]) (i := N) rfl hL c1 c2
    rw [e1, e2] at hd
    exact exs_asgT hd rfl rfl
  refine (run_ret (x := .fz (.tup [.int (p : Int), .int ((t : Int) + 1)])) (v1 := [some (.fz (planD (dayD f z hours ms bg))), some (.fz (.int N)), some (.fz (.int (t : Int))), some (.fz (.int (p : Int)))]) (o := .fz (.tup [.int (p : Int), .int ((t : Int) + 1)])) ?_ rfl).trans rfl
  simp only [exss, exs, ev, evs, evv, evI, evc, evo, E.pur, EL.pur, OE.pur, g0, g1, g2, g3, g4, g5, g6, g7, g8, g9, g10, g11, s0, s1, s2, s3, s4, s5, s6, s7, s8, s9, s10, s11, at_fz, at_lst, at_obj, bind_ok, bind_exc, fl_ok, fl_exc, of_some, held_fz, held_tmp, held_vw, held_t, new_fz, new_lst, new_obj, own_fz, own_tmp, fin_fz, fin_tmp, tr_bl, tr_int, tr_non, c_lt, c_le, c_gt, c_ge, c_eqi, c_nei, c_eqs, c_nes, c_is0, c_isi, c_isl, c_isnt0, c_isnti, c_isntl, o_add, o_sub, b_lenl, b_lent, b_lenm, b_lenv, b_int, b_bool, b_tupt, b_tupl, b_tupm, b_listt, b_listl, cf0, cf1, cf2, cf3, cf4, cf5, oc_ok, oc_exc, tb_none, tb_some, tb_nil, Option.map_some, Bool.not_true, Bool.not_false, Bool.and_self, Bool.and_true, Bool.true_and, if_true, List.map_cons, List.map_nil, List.nil_append, List.cons_append, Nat.reduceSub, Nat.sub_self, List.replicate_zero, List.replicate_succ, List.append_nil, fi0, fi1, fi2, fi3, fi4, fi5, it_l, it_t, sl_l, sl_t, wk_l, wk_t, wl_l, wl_t, wk_n, wl_n, bg_n, fin_newL]
end
end Pv.Pl

set_option Elab.async false
set_option linter.all false
set_option maxRecDepth 100000
/-! P6: a plan's meetings, a house's meetings. -/
namespace Pv.Pl
open PySem

section
variable {T0 : Tbl} {P : Fn} {X : Option Exc} {v v1 v2 : Env} {a : E} {x : Val}
theorem ev_sl {i j : Int} (h : ev T0 P X a v = .ok x v1) : ev T0 P X (.sl a (.yes (.c (.int i))) (.yes (.c (.int j)))) v = R.of v1 (slice x (some i) (some j)) := by
  simp only [ev, evo, h, bind_ok, OE.pur, E.pur, Bool.and_self, held_t]
theorem ev_ix {i : E} {y z : Val} (h : ev T0 P X a v = .ok (.fz x.o.frz) v1) (hi : ev T0 P X i v1 = .ok y v2) (hz : item (.fz x.o.frz) y = some z) : ev T0 P X (.ix a i) v = .ok z v2 := by
  simp only [ev, h, bind_ok, held_fz, hi, hz, of_some]
theorem ev_ixf {i : E} {y z : Val} {d : D} (h : ev T0 P X a v = .ok (.fz d) v1) (hi : ev T0 P X i v1 = .ok y v2) (hz : item (.fz d) y = some z) : ev T0 P X (.ix a i) v = .ok z v2 := by
  simp only [ev, h, bind_ok, held_fz, hi, hz, of_some]
theorem ev_o2 {b : E} {o : B2} {d : D} {y z : Val} (h : ev T0 P X a v = .ok (.fz d) v1) (hi : ev T0 P X b v1 = .ok y v2) (hz : op2 o (.fz d) y = some z) : ev T0 P X (.o2 o a b) v = .ok z v2 := by
  simp only [ev, h, bind_ok, held_fz, hi, hz, of_some]
end
section
variable {f : Bool} {z hours : Int} {ms : List M5} {bg : List D} {n : Nat}
theorem mth_origin {d : D} (v : Env) : (Ar.val (planD d)).mthOf T 992 v = some 148 := rfl
theorem mth_meeting {d : D} (v : Env) : (Ar.val (planD d)).mthOf T 931 v = some 146 := rfl
theorem mth_of {v : Env} : (Ar.val (dayD f z hours ms bg)).mthOf T 934 v = some 64 := rfl
theorem smul (t : Nat) (ht : t < 2) (j : Int) : op2 .mul (.fz (.int (t : Int))) (.fz (.int j)) = some (.fz (.int ((t : Int) * j))) := o_mul (by
  have : small (t : Int) = true := decide_eq_true (show ((t : Int)).natAbs < 18446744073709551616 by omega)
  rw [this]
  rfl)
theorem meeting_ok (t p : Nat) (m : M5) (ht : t < 2) (hm : ms[p]? = some m) (hl : ms.length ≤ 60) : ∃ os, callN T (n + 4) 146 [.fz (planD (dayD f z hours ms bg)), .fz (.int ((t * ms.length + p : Nat) : Int))] =
    .ok (.fz (.tup [.int m.a, .int m.b, .int (m.e + t * hours), .int (m.l + t * hours), .int m.s])) os := by
  have hp : p < ms.length := (List.getElem?_eq_some_iff.mp hm).1
  have ho := origin_ok (n := n) (f := f) (z := z) (hours := hours) (bg := bg) t p ht hp hl
  generalize ((t * ms.length + p : Nat) : Int) = N at *
  have hr : (ms.map M5.t)[p]? = some m.t := by rw [List.getElem?_map, hm]; rfl
  refine ⟨[some (.fz (planD (dayD f z hours ms bg))), some (.fz (.int N))], call_body T146 rfl (v := [some (.fz (planD (dayD f z hours ms bg))), some (.fz (.int N)), none, none, none, none, none, none, none, none]) rfl ?_⟩
  refine run_next (v1 := [some (.fz (planD (dayD f z hours ms bg))), some (.fz (.int N)), some (.fz (.int (p : Int))), some (.fz (.int ((t : Int) + 1))), none, none, none, none, none, none]) ?_ ?_
  · exact exs_asgT (ev_meth1 (T := T) (P := callN T (n + 3)) (d := planD (dayD f z hours ms bg)) (c := .int N) rfl (fun v => mth_origin v) rfl ho) rfl rfl
  refine run_next (v1 := [some (.fz (planD (dayD f z hours ms bg))), some (.fz (.int N)), some (.fz (.int (p : Int))), some (.fz (.int ((t : Int) + 1))), some (.fz (.int m.a)), some (.fz (.int m.b)), some (.fz (.int m.e)), some (.fz (.int m.l)), some (.fz (.int m.s)), none]) ?_ ?_
  · refine exs_asgT (x := .fz m.t) (ev_ixf (d := .tup (ms.map M5.t)) (y := .fz (.int (p : Int))) (ev_att (x := .fz (dayD f z hours ms bg)) (ev_att (x := .fz (planD (dayD f z hours ms bg))) (by rfl) a730) a933) (by rfl) ?_) rfl rfl
    rw [it_t, nth_nat _ _ _ hr]
    rfl
  refine run_next (v1 := [some (.fz (planD (dayD f z hours ms bg))), some (.fz (.int N)), some (.fz (.int (p : Int))), some (.fz (.int ((t : Int) + 1))), some (.fz (.int m.a)), some (.fz (.int m.b)), some (.fz (.int m.e)), some (.fz (.int m.l)), some (.fz (.int m.s)), some (.fz (.int (t * hours)))]) ?_ ?_
  · refine exs_asg (x := .fz (.int (t * hours))) (v1 := [some (.fz (planD (dayD f z hours ms bg))), some (.fz (.int N)), some (.fz (.int (p : Int))), some (.fz (.int ((t : Int) + 1))), some (.fz (.int m.a)), some (.fz (.int m.b)), some (.fz (.int m.e)), some (.fz (.int m.l)), some (.fz (.int m.s)), none]) (ev_o2 (d := .int (t : Int)) (y := .fz (.int hours)) (ev_o2 (d := .int ((t : Int) + 1)) (y := .fz (.int 1)) (by rfl) (by rfl) ?_) (ev_att (x := .fz (dayD f z hours ms bg)) (ev_att (x := .fz (planD (dayD f z hours ms bg))) (by rfl) a730) a831) (smul t ht hours)) rfl
    rw [o_sub, Int.add_sub_cancel]
  refine (run_ret (x := .fz (.tup [.int m.a, .int m.b, .int (m.e + t * hours), .int (m.l + t * hours), .int m.s])) (v1 := [some (.fz (planD (dayD f z hours ms bg))), some (.fz (.int N)), some (.fz (.int (p : Int))), some (.fz (.int ((t : Int) + 1))), some (.fz (.int m.a)), some (.fz (.int m.b)), some (.fz (.int m.e)), some (.fz (.int m.l)), some (.fz (.int m.s)), some (.fz (.int (t * hours)))]) (o := .fz (.tup [.int m.a, .int m.b, .int (m.e + t * hours), .int (m.l + t * hours), .int m.s])) ?_ rfl).trans rfl
  simp only [exss, exs, ev, evs, evv, evI, evc, evo, E.pur, EL.pur, OE.pur, g0, g1, g2, g3, g4, g5, g6, g7, g8, g9, g10, g11, s0, s1, s2, s3, s4, s5, s6, s7, s8, s9, s10, s11, at_fz, at_lst, at_obj, bind_ok, bind_exc, fl_ok, fl_exc, of_some, held_fz, held_tmp, held_vw, held_t, new_fz, new_lst, new_obj, own_fz, own_tmp, fin_fz, fin_tmp, tr_bl, tr_int, tr_non, c_lt, c_le, c_gt, c_ge, c_eqi, c_nei, c_eqs, c_nes, c_is0, c_isi, c_isl, c_isnt0, c_isnti, c_isntl, o_add, o_sub, b_lenl, b_lent, b_lenm, b_lenv, b_int, b_bool, b_tupt, b_tupl, b_tupm, b_listt, b_listl, cf0, cf1, cf2, cf3, cf4, cf5, oc_ok, oc_exc, tb_none, tb_some, tb_nil, Option.map_some, Bool.not_true, Bool.not_false, Bool.and_self, Bool.and_true, Bool.true_and, if_true, List.map_cons, List.map_nil, List.nil_append, List.cons_append, Nat.reduceSub, Nat.sub_self, List.replicate_zero, List.replicate_succ, List.append_nil, fi0, fi1, fi2, fi3, fi4, fi5, it_l, it_t, sl_l, sl_t, wk_l, wk_t, wl_l, wl_t, wk_n, wl_n, bg_n, fin_newL]
theorem stretch_ok (t p : Nat) (m : M5) (ht : t < 2) (hm : ms[p]? = some m) (hl : ms.length ≤ 60) : ∃ os, callN T (n + 5) 151 [.fz (planD (dayD f z hours ms bg)), .fz (.int ((t * ms.length + p : Nat) : Int))] =
    .ok (.fz (.tup [.int (m.e + t * hours), .int (m.l + t * hours)])) os := by
  obtain ⟨os, ho⟩ := meeting_ok (n := n) (f := f) (z := z) (hours := hours) (bg := bg) t p m ht hm hl
  generalize ((t * ms.length + p : Nat) : Int) = N at *
  refine ⟨[some (.fz (planD (dayD f z hours ms bg))), some (.fz (.int N))], call_body T151 rfl (v := [some (.fz (planD (dayD f z hours ms bg))), some (.fz (.int N))]) rfl ?_⟩
  refine (run_ret (x := .fz (.tup [.int (m.e + t * hours), .int (m.l + t * hours)])) (v1 := [some (.fz (planD (dayD f z hours ms bg))), some (.fz (.int N))]) (o := .fz (.tup [.int (m.e + t * hours), .int (m.l + t * hours)])) ?_ rfl).trans rfl
  rw [ev_sl (ev_meth1 (T := T) (P := callN T (n + 4)) (v := [some (.fz (planD (dayD f z hours ms bg))), some (.fz (.int N))]) (a := .v 0) (b := .v 1) (d := planD (dayD f z hours ms bg)) (c := .int N) rfl (fun v => mth_meeting v) rfl ho)]
  rfl
/-! ### a house's meetings -/
def has (h : Int) (m : M5) : Bool := m.a == h || m.b == h
def places (h : Int) : Nat → List M5 → List Nat
  | _, [] => []
  | k, m :: ms => if has h m then k :: places h (k + 1) ms else places h (k + 1) ms
theorem places_at {h : Int} : ∀ {ms : List M5} {k i : Nat}, i ∈ places h k ms → ∃ j m, i = k + j ∧ ms[j]? = some m ∧ has h m = true
  | [], k, i, hi => by cases hi
  | m :: ms, k, i, hi => by
    unfold places at hi
    split at hi
    · rename_i hm
      rcases List.mem_cons.mp hi with rfl | hi
      · exact ⟨0, m, rfl, rfl, hm⟩
      · obtain ⟨j, m', e, e1, e2⟩ := places_at hi
        exact ⟨j + 1, m', by omega, by simpa using e1, e2⟩
    · obtain ⟨j, m', e, e1, e2⟩ := places_at hi
      exact ⟨j + 1, m', by omega, by simpa using e1, e2⟩
theorem places_lt {h : Int} : ∀ {ms : List M5} {k : Nat}, (places h k ms).Pairwise (· < ·) ∧ ∀ i ∈ places h k ms, k ≤ i
  | [], k => ⟨List.Pairwise.nil, fun i hi => by cases hi⟩
  | m :: ms, k => by
    obtain ⟨i1, i2⟩ := places_lt (h := h) (ms := ms) (k := k + 1)
    unfold places
    split
    · refine ⟨List.pairwise_cons.mpr ⟨fun i hi => by have := i2 i hi; omega, i1⟩, fun i hi => ?_⟩
      rcases List.mem_cons.mp hi with rfl | hi
      · exact Nat.le_refl _
      · have := i2 i hi; omega
    · exact ⟨i1, fun i hi => by have := i2 i hi; omega⟩
theorem places_len {h : Int} : ∀ {ms : List M5} {k : Nat}, (places h k ms).length = (ms.filter (has h)).length
  | [], k => rfl
  | m :: ms, k => by
    unfold places
    rw [List.filter_cons]
    split
    · rw [List.length_cons, List.length_cons, places_len]
    · exact places_len
def pE (h : Int) : D → Bool
  | .tup [_, .tup (.int a :: .int b :: _)] => a == h || b == h
  | _ => false
def fE : D → O
  | .tup [i, _] => .fz i
  | d => .fz d
theorem enum_places (h : Int) : ∀ (ms : List M5) (k : Nat), ((enumD k (ms.map M5.t)).filter (pE h)).map fE = (places h k ms).map fun (i : Nat) => O.fz (.int (i : Int))
  | [], k => rfl
  | m :: ms, k => by
    have e : pE h (.tup [.int (k : Int), m.t]) = has h m := rfl
    rw [List.map_cons, enumD, List.filter_cons, e]
    unfold places
    split
    · rw [List.map_cons, List.map_cons, enum_places h ms (k + 1)]
      rfl
    · exact enum_places h ms (k + 1)
theorem enum_mem : ∀ {ms : List M5} {k : Nat} {d : D}, d ∈ enumD k (ms.map M5.t) → ∃ (i : Nat) (m : M5), d = .tup [.int (i : Int), m.t]
  | [], k, d, h => by cases h
  | m :: ms, k, d, h => by
    rw [List.map_cons, enumD] at h
    rcases List.mem_cons.mp h with rfl | h
    · exact ⟨k, m, rfl⟩
    · exact enum_mem h
theorem enum_len : ∀ {xs : List D} {k : Nat}, (enumD k xs).length = xs.length
  | [], k => rfl
  | x :: xs, k => by rw [enumD, List.length_cons, List.length_cons, enum_len]
theorem meetings_of_ok (h : Int) (h0 : 0 ≤ h) (h1 : h < z) (hz : z ≤ 12) (hl : ms.length ≤ 60) : callN T (n + 3) 64 [.fz (dayD f z hours ms bg), .fz (.int h)] = .ok (.fz (.tup ((places h 0 ms).map fun (i : Nat) => D.int (i : Int)))) [some (.fz (dayD f z hours ms bg)), some (.fz (.int h))] := by
  refine call_body T64 rfl (v := [some (.fz (dayD f z hours ms bg)), some (.fz (.int h)), none, none]) rfl ?_
  refine run_next (v1 := [some (.fz (dayD f z hours ms bg)), some (.fz (.int h)), none, none]) ?_ ?_
  · simp only [exss, exs, ev, evs, evv, evI, evc, evo, E.pur, EL.pur, OE.pur, g0, g1, g2, g3, g4, g5, g6, g7, g8, g9, g10, g11, s0, s1, s2, s3, s4, s5, s6, s7, s8, s9, s10, s11, at_fz, at_lst, at_obj, bind_ok, bind_exc, fl_ok, fl_exc, of_some, held_fz, held_tmp, held_vw, held_t, new_fz, new_lst, new_obj, own_fz, own_tmp, fin_fz, fin_tmp, tr_bl, tr_int, tr_non, c_lt, c_le, c_gt, c_ge, c_eqi, c_nei, c_eqs, c_nes, c_is0, c_isi, c_isl, c_isnt0, c_isnti, c_isntl, o_add, o_sub, b_lenl, b_lent, b_lenm, b_lenv, b_int, b_bool, b_tupt, b_tupl, b_tupm, b_listt, b_listl, cf0, cf1, cf2, cf3, cf4, cf5, oc_ok, oc_exc, tb_none, tb_some, tb_nil, Option.map_some, Bool.not_true, Bool.not_false, Bool.and_self, Bool.and_true, Bool.true_and, if_true, List.map_cons, List.map_nil, List.nil_append, List.cons_append, Nat.reduceSub, Nat.sub_self, List.replicate_zero, List.replicate_succ, List.append_nil, fi0, fi1, fi2, fi3, fi4, fi5, it_l, it_t, sl_l, sl_t, wk_l, wk_t, wl_l, wl_t, wk_n, wl_n, bg_n, fin_newL, a954, nms_len (show 0 ≤ z by omega) hz, check_house_ok n _ h z h0 h1]
  refine (run_ret (x := .fz (.tup ((places h 0 ms).map fun (i : Nat) => D.int (i : Int)))) (v1 := [some (.fz (dayD f z hours ms bg)), some (.fz (.int h)), none, none]) (o := .fz (.tup ((places h 0 ms).map fun (i : Nat) => D.int (i : Int)))) ?_ rfl).trans rfl
  have lc := ev_lcF (T := T) (P := callN T (n + 2)) (X := none) (own := [2, 3]) (g := .t [.n 2, .n 3]) (it := .enum (.att (.v 0) 933)) (t := .yes (.cm .inn (.v 1) (.sl (.v 3) .no (.yes (.c (.int 2)))))) (e := .v 2) (ds := enumD 0 (ms.map M5.t)) (v := [some (.fz (dayD f z hours ms bg)), some (.fz (.int h)), none, none])
    (v1 := [some (.fz (dayD f z hours ms bg)), some (.fz (.int h)), none, none]) (fun d => match d with
      | .tup [i, r] => [some (.fz (dayD f z hours ms bg)), some (.fz (.int h)), some (.fz i), some (.fz r)]
      | _ => []) (pE h) fE (by simp only [exss, exs, ev, evs, evv, evI, evc, evo, E.pur, EL.pur, OE.pur, g0, g1, g2, g3, g4, g5, g6, g7, g8, g9, g10, g11, s0, s1, s2, s3, s4, s5, s6, s7, s8, s9, s10, s11, at_fz, at_lst, at_obj, bind_ok, bind_exc, fl_ok, fl_exc, of_some, held_fz, held_tmp, held_vw, held_t, new_fz, new_lst, new_obj, own_fz, own_tmp, fin_fz, fin_tmp, tr_bl, tr_int, tr_non, c_lt, c_le, c_gt, c_ge, c_eqi, c_nei, c_eqs, c_nes, c_is0, c_isi, c_isl, c_isnt0, c_isnti, c_isntl, o_add, o_sub, b_lenl, b_lent, b_lenm, b_lenv, b_int, b_bool, b_tupt, b_tupl, b_tupm, b_listt, b_listl, cf0, cf1, cf2, cf3, cf4, cf5, oc_ok, oc_exc, tb_none, tb_some, tb_nil, Option.map_some, Bool.not_true, Bool.not_false, Bool.and_self, Bool.and_true, Bool.true_and, if_true, List.map_cons, List.map_nil, List.nil_append, List.cons_append, Nat.reduceSub, Nat.sub_self, List.replicate_zero, List.replicate_succ, List.append_nil, fi0, fi1, fi2, fi3, fi4, fi5, it_l, it_t, sl_l, sl_t, wk_l, wk_t, wl_l, wl_t, wk_n, wl_n, bg_n, fin_newL, a933]) (by rw [enum_len, List.length_map]; have := PySem.sizeLine_eq; omega)
    (fun d hd => by obtain ⟨i, m, rfl⟩ := enum_mem hd; rfl) (fun d hd d' hd' => by obtain ⟨i, m, rfl⟩ := enum_mem hd; obtain ⟨i', m', rfl⟩ := enum_mem hd'; rfl)
    (fun d hd => by
      obtain ⟨i, m, rfl⟩ := enum_mem hd
      have e : cmp .inn (.fz (.int h)) (.fz (.tup [.int m.a, .int m.b])) = some (m.a == h || m.b == h) := in2 h m.a m.b
      have e2 : slice (.fz m.t) none (some 2) = some (.fz (.tup [.int m.a, .int m.b])) := rfl
      simp only [evc, ev, evo, E.pur, OE.pur, Bool.and_self, g1, g3, at_fz, bind_ok, held_t, e2, of_some, e, Option.map_some, tr_bl]
      rfl)
    (fun d hd _ => by obtain ⟨i, m, rfl⟩ := enum_mem hd; exact ⟨.fz (.int (i : Int)), rfl, rfl⟩) rfl (fun d hd => by obtain ⟨i, m, rfl⟩ := enum_mem hd; rfl)
  rw [enum_places] at lc
  have b : bi .tuple [.tmp (.lst ((places h 0 ms).map fun (i : Nat) => O.fz (.int (i : Int))))] = some (.fz (.tup ((places h 0 ms).map fun (i : Nat) => D.int (i : Int)))) := by
    have := b_tupm (xs := (places h 0 ms).map fun (i : Nat) => D.int (i : Int))
    unfold newL at this
    rw [List.map_map] at this
    exact this
  exact ev_bi1 lc b
def numbers (h : Int) (ms : List M5) : List Nat := (List.range 2).flatMap fun t => (places h 0 ms).map fun p => t * ms.length + p
theorem with_house_ok (h : Int) (h0 : 0 ≤ h) (h1 : h < z) (hz : z ≤ 12) (hl : ms.length ≤ 60) : ∃ os, callN T (n + 4) 152 [.fz (planD (dayD f z hours ms bg)), .fz (.int h)] = .ok (.fz (.tup ((numbers h ms).map fun (i : Nat) => D.int (i : Int)))) os := by
  have hzz : 0 ≤ z := by omega
  refine ⟨[some (.fz (planD (dayD f z hours ms bg))), some (.fz (.int h))], call_body T152 rfl (v := [some (.fz (planD (dayD f z hours ms bg))), some (.fz (.int h)), none, none, none, none]) rfl ?_⟩
  refine run_next (v1 := [some (.fz (planD (dayD f z hours ms bg))), some (.fz (.int h)), none, none, none, none]) ?_ ?_
  · simp only [exss, exs, ev, evs, evv, evI, evc, evo, E.pur, EL.pur, OE.pur, g0, g1, g2, g3, g4, g5, g6, g7, g8, g9, g10, g11, s0, s1, s2, s3, s4, s5, s6, s7, s8, s9, s10, s11, at_fz, at_lst, at_obj, bind_ok, bind_exc, fl_ok, fl_exc, of_some, held_fz, held_tmp, held_vw, held_t, new_fz, new_lst, new_obj, own_fz, own_tmp, fin_fz, fin_tmp, tr_bl, tr_int, tr_non, c_lt, c_le, c_gt, c_ge, c_eqi, c_nei, c_eqs, c_nes, c_is0, c_isi, c_isl, c_isnt0, c_isnti, c_isntl, o_add, o_sub, b_lenl, b_lent, b_lenm, b_lenv, b_int, b_bool, b_tupt, b_tupl, b_tupm, b_listt, b_listl, cf0, cf1, cf2, cf3, cf4, cf5, oc_ok, oc_exc, tb_none, tb_some, tb_nil, Option.map_some, Bool.not_true, Bool.not_false, Bool.and_self, Bool.and_true, Bool.true_and, if_true, List.map_cons, List.map_nil, List.nil_append, List.cons_append, Nat.reduceSub, Nat.sub_self, List.replicate_zero, List.replicate_succ, List.append_nil, fi0, fi1, fi2, fi3, fi4, fi5, it_l, it_t, sl_l, sl_t, wk_l, wk_t, wl_l, wl_t, wk_n, wl_n, bg_n, fin_newL, a1085 hzz hz, check_house_ok (n + 1) _ h z h0 h1]
  refine run_next (v1 := [some (.fz (planD (dayD f z hours ms bg))), some (.fz (.int h)), some (.fz (.tup ((places h 0 ms).map fun (i : Nat) => D.int (i : Int)))), none, none, none]) ?_ ?_
  · exact exs_asg (ev_meth1 (T := T) (P := callN T (n + 3)) (d := dayD f z hours ms bg) (c := .int h) (ev_att (x := .fz (planD (dayD f z hours ms bg))) (by rfl) a730) (fun v => mth_of) rfl (meetings_of_ok h h0 h1 hz hl)) rfl
  refine run_next (v1 := [some (.fz (planD (dayD f z hours ms bg))), some (.fz (.int h)), some (.fz (.tup ((places h 0 ms).map fun (i : Nat) => D.int (i : Int)))), some (.fz (.int (ms.length : Int))), none, none]) ?_ ?_
  · have hL : ev T (callN T (n + 3)) none (.bi .len (.cons (.att (.att (.v 0) 730) 933) .nil)) [some (.fz (planD (dayD f z hours ms bg))), some (.fz (.int h)), some (.fz (.tup ((places h 0 ms).map fun (i : Nat) => D.int (i : Int)))), none, none, none] = .ok (.fz (.int (ms.length : Int))) [some (.fz (planD (dayD f z hours ms bg))), some (.fz (.int h)), some (.fz (.tup ((places h 0 ms).map fun (i : Nat) => D.int (i : Int)))), none, none, none] := by
      rw [← List.length_map (as := ms) M5.t]
      exact ev_bi1 (x := .fz (.tup (ms.map M5.t))) (ev_att (x := .fz (dayD f z hours ms bg)) (ev_att (x := .fz (planD (dayD f z hours ms bg))) (by rfl) a730) a933) rfl
    exact exs_asg hL rfl
  refine run_next (v1 := [some (.fz (planD (dayD f z hours ms bg))), some (.fz (.int h)), some (.fz (.tup ((places h 0 ms).map fun (i : Nat) => D.int (i : Int)))), some (.fz (.int (ms.length : Int))), none, none]) ?_ ?_
  · exact exs_frz (o := .fz (.tup ((places h 0 ms).map fun (i : Nat) => D.int (i : Int)))) rfl
  refine (run_ret (x := .fz (.tup ((numbers h ms).map fun (i : Nat) => D.int (i : Int)))) (v1 := [some (.fz (planD (dayD f z hours ms bg))), some (.fz (.int h)), some (.fz (.tup ((places h 0 ms).map fun (i : Nat) => D.int (i : Int)))), some (.fz (.int (ms.length : Int))), none, none]) (o := .fz (.tup ((numbers h ms).map fun (i : Nat) => D.int (i : Int)))) ?_ rfl).trans rfl
  have hpl : (places h 0 ms).length ≤ 60 := by
    rw [places_len]
    exact Nat.le_trans (List.length_filter_le _ _) hl
  have lc := ev_lc2A (T := T) (P := callN T (n + 3)) (X := none) (own := [4, 5]) (own2 := [5]) (g := .n 4) (g2 := .n 5) (it := .rng1 (.att (.v 0) 733)) (it2 := .seq (.v 2)) (e := .o2 .add (.o2 .mul (.v 4) (.v 3)) (.v 5)) (ds := (List.range 2).map fun (j : Nat) => D.int (j : Int)) (ds2 := (places h 0 ms).map fun (i : Nat) => D.int (i : Int))
    (v := [some (.fz (planD (dayD f z hours ms bg))), some (.fz (.int h)), some (.fz (.tup ((places h 0 ms).map fun (i : Nat) => D.int (i : Int)))), some (.fz (.int (ms.length : Int))), none, none])
    (v1 := [some (.fz (planD (dayD f z hours ms bg))), some (.fz (.int h)), some (.fz (.tup ((places h 0 ms).map fun (i : Nat) => D.int (i : Int)))), some (.fz (.int (ms.length : Int))), none, none])
    (fun d => [some (.fz (planD (dayD f z hours ms bg))), some (.fz (.int h)), some (.fz (.tup ((places h 0 ms).map fun (i : Nat) => D.int (i : Int)))), some (.fz (.int (ms.length : Int))), some (.fz d), none])
    (fun d e => [some (.fz (planD (dayD f z hours ms bg))), some (.fz (.int h)), some (.fz (.tup ((places h 0 ms).map fun (i : Nat) => D.int (i : Int)))), some (.fz (.int (ms.length : Int))), some (.fz d), some (.fz e)])
    (fun d e => match d, e with
      | .int t, .int p => .fz (.int (t * ms.length + p))
      | _, _ => .fz .non)
    (by
      have e : rng 0 2 = (List.range 2).map fun (j : Nat) => D.int (j : Int) := rng_nat 2
      rw [← e]
      exact ev_rng1 (i := 2) (ev_att (x := .fz (planD (dayD f z hours ms bg))) (by rfl) a733) rfl)
    (fun d _ => rfl) (by rw [List.length_map, List.length_map, List.length_range]; have := PySem.sizeLine_eq; omega)
    (fun _ _ => rfl) (fun _ _ _ _ => rfl) (fun _ _ _ _ _ _ => rfl) (fun _ _ _ _ => rfl) (fun _ _ _ _ _ _ => rfl)
    (fun d hd e he => by
      obtain ⟨t, ht, rfl⟩ := List.mem_map.mp hd
      obtain ⟨p, hp, rfl⟩ := List.mem_map.mp he
      have ht := List.mem_range.mp ht
      exact ⟨.fz (.int (t * ms.length + p)), ev_o2 (d := .int (t * ms.length)) (y := .fz (.int (p : Int))) (ev_o2 (d := .int (t : Int)) (y := .fz (.int (ms.length : Int))) rfl rfl (smul t ht _)) rfl rfl, rfl⟩) rfl (fun _ _ => rfl) (fun _ _ _ _ => rfl)
  have el : ((List.range 2).map fun (j : Nat) => D.int (j : Int)).flatMap (fun d => ((places h 0 ms).map fun (i : Nat) => D.int (i : Int)).map fun e => match d, e with
      | .int t, .int p => O.fz (.int (t * ms.length + p))
      | _, _ => .fz .non) = (numbers h ms).map fun (i : Nat) => O.fz (.int (i : Int)) := by
    unfold numbers
    rw [List.flatMap_map, List.map_flatMap]
    congr 1
    funext t
    rw [List.map_map, List.map_map]
    refine List.map_congr_left fun p _ => ?_
    show O.fz (.int ((t : Int) * ms.length + p)) = O.fz (.int ((t * ms.length + p : Nat) : Int))
    rw [Int.natCast_add, Int.natCast_mul]
  refine ev_bi1 (lc.trans (congrArg (fun o => R.ok (Val.tmp (.lst o)) _) el)) ?_
  have := b_tupm (xs := (numbers h ms).map fun (i : Nat) => D.int (i : Int))
  unfold newL at this
  rw [List.map_map] at this
  exact this
end
end Pv.Pl

set_option Elab.async false
set_option linter.all false
set_option maxRecDepth 100000
/-! P7: the script's draws. -/
namespace Pv.Pl
open PySem

def iL (xs : List Int) : O := .lst (xs.map fun i => .fz (.int i))
def drO (row : List Int) (a : Nat) : O := .lst [.fz (.lst (row.map .int)), .fz (.int (a : Int))]
theorem take_ok (n : Nat) (row : List Int) (a : Nat) (m : Int) (hm : 0 < m) : ∃ r, 0 ≤ r ∧ r < m ∧ callN T (n + 1) 1001 [drO row a, .fz (.int m)] = .ok (.fz (.int r)) [some (drO row (a + 1)), some (.fz (.int m))] := by
  have s1 : exs T (callN T n) none (.asg (.n 2) (.ix (.v 0) (.c (.int 1)))) [some (drO row a), some (.fz (.int m)), none] = .next [some (drO row a), some (.fz (.int m)), some (.fz (.int (a : Int)))] := rfl
  have s2 : exs T (callN T n) none (.seti (.v 0) (.c (.int 1)) (.o2 .add (.v 2) (.c (.int 1)))) [some (drO row a), some (.fz (.int m)), some (.fz (.int (a : Int)))] = .next [some (drO row (a + 1)), some (.fz (.int m)), some (.fz (.int (a : Int)))] := rfl
  have l0 : ev T (callN T n) none (.bi .len (.cons (.ix (.v 0) (.c (.int 0))) .nil)) [some (drO row (a + 1)), some (.fz (.int m)), some (.fz (.int (a : Int)))] = .ok (.fz (.int (row.length : Int))) [some (drO row (a + 1)), some (.fz (.int m)), some (.fz (.int (a : Int)))] := by
    rw [← List.length_map (as := row) D.int]
    rfl
  have c0 : ev T (callN T n) none (.cm .ge (.v 2) (.bi .len (.cons (.ix (.v 0) (.c (.int 0))) .nil))) [some (drO row (a + 1)), some (.fz (.int m)), some (.fz (.int (a : Int)))] = .ok (.fz (.bl (decide ((row.length : Int) ≤ (a : Int))))) [some (drO row (a + 1)), some (.fz (.int m)), some (.fz (.int (a : Int)))] := by
    have e : ev T (callN T n) none (.v 2) [some (drO row (a + 1)), some (.fz (.int m)), some (.fz (.int (a : Int)))] = .ok (.fz (.int (a : Int))) [some (drO row (a + 1)), some (.fz (.int m)), some (.fz (.int (a : Int)))] := rfl
    rw [ev, e, bind_ok, held_fz, l0, bind_ok, c_ge, Option.map_some, of_some]
  by_cases h : row.length ≤ a
  · refine ⟨0, Int.le_refl _, hm, call_body T1001 rfl (v := [some (drO row a), some (.fz (.int m)), none]) rfl (run_next s1 (run_next s2 ?_))⟩
    refine (run_retS (o := .fz (.int 0)) (v1 := [some (drO row (a + 1)), some (.fz (.int m)), some (.fz (.int (a : Int)))]) ?_).trans rfl
    rw [decide_eq_true (show (row.length : Int) ≤ (a : Int) by omega)] at c0
    exact exs_if1 c0 rfl rfl
  · have hk : a < row.length := by omega
    have hr : (row.map D.int)[a]? = some (.int row[a]) := by rw [List.getElem?_map, List.getElem?_eq_getElem hk]; rfl
    refine ⟨row[a] % m, Int.emod_nonneg _ (by omega), Int.emod_lt_of_pos _ hm, call_body T1001 rfl (v := [some (drO row a), some (.fz (.int m)), none]) rfl (run_next s1 (run_next s2 ?_))⟩
    rw [decide_eq_false (show ¬ (row.length : Int) ≤ (a : Int) by omega)] at c0
    refine run_next (v1 := [some (drO row (a + 1)), some (.fz (.int m)), some (.fz (.int (a : Int)))]) (exs_if0 c0 rfl ss_nil) ?_
    refine (run_ret (x := .fz (.int (row[a] % m))) (v1 := [some (drO row (a + 1)), some (.fz (.int m)), some (.fz (.int (a : Int)))]) (o := .fz (.int (row[a] % m))) ?_ rfl).trans rfl
    refine ev_o2 (d := .int row[a]) (y := .fz (.int m)) (ev_bi1 (x := .fz (.int row[a])) (ev_ixf (d := .lst (row.map .int)) (y := .fz (.int (a : Int))) (by rfl) (by rfl) ?_) rfl) rfl (o_mod hm)
    rw [it_l, nth_nat _ _ _ hr]
    rfl
theorem take0 (n : Nat) (row : List Int) (a : Nat) (m : Int) (hm : 0 < m) : ∃ r, 0 ≤ r ∧ r < m ∧ ∀ w, callF (callN T (n + 1)) 1001 [.ref 0, .val (.int m)] (some (drO row a) :: w) = .ok (.fz (.int r)) (some (drO row (a + 1)) :: w) := by
  obtain ⟨r, h0, h1, e⟩ := take_ok n row a m hm
  refine ⟨r, h0, h1, fun w => ?_⟩
  rw [cfr2 rfl, e]
  rfl
theorem take1 (n : Nat) (row : List Int) (a : Nat) (m : Int) (hm : 0 < m) : ∃ r, 0 ≤ r ∧ r < m ∧ ∀ x w, callF (callN T (n + 1)) 1001 [.ref 1, .val (.int m)] (x :: some (drO row a) :: w) = .ok (.fz (.int r)) (x :: some (drO row (a + 1)) :: w) := by
  obtain ⟨r, h0, h1, e⟩ := take_ok n row a m hm
  refine ⟨r, h0, h1, fun x w => ?_⟩
  rw [cfr2 rfl, e]
  rfl
/-! ### the draws -/
theorem smallr {i j : Int} (h : small j = true) : op2 .mul (.fz (.int i)) (.fz (.int j)) = some (.fz (.int (i * j))) := o_mul (by rw [h, Bool.or_true])
theorem pow18 : op2 .pow (.fz (.int 10)) (.fz (.int 18)) = some (.fz (.int 1000000000000000000)) := rfl
theorem app_len {xs : List Int} (h : xs.length ≤ 100000) : (xs.map fun i => O.fz (.int i)).length < sizeLine := by
  rw [List.length_map]
  have := PySem.sizeLine_eq
  omega
theorem app_iL (xs : List Int) (i : Int) : O.lst ((xs.map fun i => O.fz (.int i)) ++ [.fz (.int i)]) = iL (xs ++ [i]) := by
  unfold iL
  rw [List.map_append]
  rfl
def bigB : SL := .cons (.ife (.cm .gt (.v 3) (.c (.int 0))) (.cons (.app (.v 1) (.o2 .mod (.bi .int (.cons (.v 3) .nil)) (.c (.int 30)))) (.cons (.asg (.n 3) (.o2 .fdiv (.v 3) (.c (.int 30)))) .nil)) .nil) .nil
theorem big_loop (P : Fn) (s x2 x5 : Option O) : ∀ (ds : List D) (row : List Int) (c : Int) (x4 : Option O), row.length + ds.length ≤ 100000 → ∃ row' c' y4, row'.length ≤ row.length + ds.length ∧ forLoop (.n 4) (exss T P none bigB) ds [s, some (iL row), x2, some (.fz (.int c)), x4, x5] = .next [s, some (iL row'), x2, some (.fz (.int c')), y4, x5]
  | [], row, c, x4, _ => ⟨row, c, x4, Nat.le_refl _, rfl⟩
  | d :: ds, row, c, x4, hl => by
    rw [List.length_cons] at hl
    by_cases hc : 0 < c
    · obtain ⟨row', c', y4, h1, h2⟩ := big_loop P s x2 x5 ds (row ++ [c % 30]) (c / 30) (some (.fz d)) (by rw [List.length_append, List.length_singleton]; omega)
      refine ⟨row', c', y4, by rw [List.length_append, List.length_singleton] at h1; rw [List.length_cons]; omega, ?_⟩
      have a1 : exs T P none (.app (.v 1) (.o2 .mod (.bi .int (.cons (.v 3) .nil)) (.c (.int 30)))) [s, some (iL row), x2, some (.fz (.int c)), some (.fz d), x5] = .next [s, some (iL (row ++ [c % 30])), x2, some (.fz (.int c)), some (.fz d), x5] := by
        rw [← app_iL]
        exact exs_app (x := .fz (.int (c % 30))) (v1 := [s, some (iL row), x2, some (.fz (.int c)), some (.fz d), x5]) rfl (by simp only [exss, exs, ev, evs, evv, evI, evc, evo, E.pur, EL.pur, OE.pur, g0, g1, g2, g3, g4, g5, g6, g7, g8, g9, g10, g11, s0, s1, s2, s3, s4, s5, s6, s7, s8, s9, s10, s11, at_fz, at_lst, at_obj, bind_ok, bind_exc, fl_ok, fl_exc, of_some, held_fz, held_tmp, held_vw, held_t, new_fz, new_lst, new_obj, own_fz, own_tmp, fin_fz, fin_tmp, tr_bl, tr_int, tr_non, c_lt, c_le, c_gt, c_ge, c_eqi, c_nei, c_eqs, c_nes, c_is0, c_isi, c_isl, c_isnt0, c_isnti, c_isntl, o_add, o_sub, b_lenl, b_lent, b_lenm, b_lenv, b_int, b_bool, b_tupt, b_tupl, b_tupm, b_listt, b_listl, cf0, cf1, cf2, cf3, cf4, cf5, oc_ok, oc_exc, tb_none, tb_some, tb_nil, Option.map_some, Bool.not_true, Bool.not_false, Bool.and_self, Bool.and_true, Bool.true_and, if_true, List.map_cons, List.map_nil, List.nil_append, List.cons_append, Nat.reduceSub, Nat.sub_self, List.replicate_zero, List.replicate_succ, List.append_nil, fi0, fi1, fi2, fi3, fi4, fi5, it_l, it_t, sl_l, sl_t, wk_l, wk_t, wl_l, wl_t, wk_n, wl_n, bg_n, fin_newL, o_mod (show (0 : Int) < 30 by decide)]) rfl rfl (app_len (by omega))
      have a2 : exs T P none (.asg (.n 3) (.o2 .fdiv (.v 3) (.c (.int 30)))) [s, some (iL (row ++ [c % 30])), x2, some (.fz (.int c)), some (.fz d), x5] = .next [s, some (iL (row ++ [c % 30])), x2, some (.fz (.int (c / 30))), some (.fz d), x5] := by
        simp only [exss, exs, ev, evs, evv, evI, evc, evo, E.pur, EL.pur, OE.pur, g0, g1, g2, g3, g4, g5, g6, g7, g8, g9, g10, g11, s0, s1, s2, s3, s4, s5, s6, s7, s8, s9, s10, s11, at_fz, at_lst, at_obj, bind_ok, bind_exc, fl_ok, fl_exc, of_some, held_fz, held_tmp, held_vw, held_t, new_fz, new_lst, new_obj, own_fz, own_tmp, fin_fz, fin_tmp, tr_bl, tr_int, tr_non, c_lt, c_le, c_gt, c_ge, c_eqi, c_nei, c_eqs, c_nes, c_is0, c_isi, c_isl, c_isnt0, c_isnti, c_isntl, o_add, o_sub, b_lenl, b_lent, b_lenm, b_lenv, b_int, b_bool, b_tupt, b_tupl, b_tupm, b_listt, b_listl, cf0, cf1, cf2, cf3, cf4, cf5, oc_ok, oc_exc, tb_none, tb_some, tb_nil, Option.map_some, Bool.not_true, Bool.not_false, Bool.and_self, Bool.and_true, Bool.true_and, if_true, List.map_cons, List.map_nil, List.nil_append, List.cons_append, Nat.reduceSub, Nat.sub_self, List.replicate_zero, List.replicate_succ, List.append_nil, fi0, fi1, fi2, fi3, fi4, fi5, it_l, it_t, sl_l, sl_t, wk_l, wk_t, wl_l, wl_t, wk_n, wl_n, bg_n, fin_newL, o_fdiv (show (0 : Int) < 30 by decide) (show (30 : Int) < 1073741824 by decide)]
      have b : exss T P none bigB [s, some (iL row), x2, some (.fz (.int c)), some (.fz d), x5] = .next [s, some (iL (row ++ [c % 30])), x2, some (.fz (.int (c / 30))), some (.fz d), x5] := by
        unfold bigB
        rw [ss_next (exs_if1 (x := .fz (.bl true)) (v1 := [s, some (iL row), x2, some (.fz (.int c)), some (.fz d), x5]) (by simp only [exss, exs, ev, evs, evv, evI, evc, evo, E.pur, EL.pur, OE.pur, g0, g1, g2, g3, g4, g5, g6, g7, g8, g9, g10, g11, s0, s1, s2, s3, s4, s5, s6, s7, s8, s9, s10, s11, at_fz, at_lst, at_obj, bind_ok, bind_exc, fl_ok, fl_exc, of_some, held_fz, held_tmp, held_vw, held_t, new_fz, new_lst, new_obj, own_fz, own_tmp, fin_fz, fin_tmp, tr_bl, tr_int, tr_non, c_lt, c_le, c_gt, c_ge, c_eqi, c_nei, c_eqs, c_nes, c_is0, c_isi, c_isl, c_isnt0, c_isnti, c_isntl, o_add, o_sub, b_lenl, b_lent, b_lenm, b_lenv, b_int, b_bool, b_tupt, b_tupl, b_tupm, b_listt, b_listl, cf0, cf1, cf2, cf3, cf4, cf5, oc_ok, oc_exc, tb_none, tb_some, tb_nil, Option.map_some, Bool.not_true, Bool.not_false, Bool.and_self, Bool.and_true, Bool.true_and, if_true, List.map_cons, List.map_nil, List.nil_append, List.cons_append, Nat.reduceSub, Nat.sub_self, List.replicate_zero, List.replicate_succ, List.append_nil, fi0, fi1, fi2, fi3, fi4, fi5, it_l, it_t, sl_l, sl_t, wk_l, wk_t, wl_l, wl_t, wk_n, wl_n, bg_n, fin_newL, decide_eq_true hc]) rfl (by rw [ss_next a1, ss_next a2, ss_nil])), ss_nil]
      simp only [forLoop, bg_n, s4, b, h2]
    · obtain ⟨row', c', y4, h1, h2⟩ := big_loop P s x2 x5 ds row c (some (.fz d)) (by omega)
      refine ⟨row', c', y4, by rw [List.length_cons]; omega, ?_⟩
      have b : exss T P none bigB [s, some (iL row), x2, some (.fz (.int c)), some (.fz d), x5] = .next [s, some (iL row), x2, some (.fz (.int c)), some (.fz d), x5] := by
        unfold bigB
        rw [ss_next (exs_if0 (x := .fz (.bl false)) (v1 := [s, some (iL row), x2, some (.fz (.int c)), some (.fz d), x5]) (by simp only [exss, exs, ev, evs, evv, evI, evc, evo, E.pur, EL.pur, OE.pur, g0, g1, g2, g3, g4, g5, g6, g7, g8, g9, g10, g11, s0, s1, s2, s3, s4, s5, s6, s7, s8, s9, s10, s11, at_fz, at_lst, at_obj, bind_ok, bind_exc, fl_ok, fl_exc, of_some, held_fz, held_tmp, held_vw, held_t, new_fz, new_lst, new_obj, own_fz, own_tmp, fin_fz, fin_tmp, tr_bl, tr_int, tr_non, c_lt, c_le, c_gt, c_ge, c_eqi, c_nei, c_eqs, c_nes, c_is0, c_isi, c_isl, c_isnt0, c_isnti, c_isntl, o_add, o_sub, b_lenl, b_lent, b_lenm, b_lenv, b_int, b_bool, b_tupt, b_tupl, b_tupm, b_listt, b_listl, cf0, cf1, cf2, cf3, cf4, cf5, oc_ok, oc_exc, tb_none, tb_some, tb_nil, Option.map_some, Bool.not_true, Bool.not_false, Bool.and_self, Bool.and_true, Bool.true_and, if_true, List.map_cons, List.map_nil, List.nil_append, List.cons_append, Nat.reduceSub, Nat.sub_self, List.replicate_zero, List.replicate_succ, List.append_nil, fi0, fi1, fi2, fi3, fi4, fi5, it_l, it_t, sl_l, sl_t, wk_l, wk_t, wl_l, wl_t, wk_n, wl_n, bg_n, fin_newL, decide_eq_false hc]) rfl ss_nil), ss_nil]
      simp only [forLoop, bg_n, s4, b, h2]
def smB : SL := .cons (.asg (.n 5) (.o2 .mod (.bi .int (.cons (.o2 .add (.o2 .add (.o2 .add (.o2 .mul (.v 5) (.c (.int 40692))) (.o2 .fdiv (.v 5) (.c (.int 97)))) (.o2 .mul (.v 4) (.c (.int 3)))) (.v 2)) .nil)) (.c (.int 2147483399)))) (.cons (.app (.v 1) (.o2 .fdiv (.v 5) (.c (.int 8)))) .nil)
theorem sm_loop (P : Fn) (s x3 : Option O) (j : Int) : ∀ (ds : List D) (row : List Int) (c : Int) (x4 : Option O), row.length + ds.length ≤ 100000 → (∀ d ∈ ds, ∃ t, d = .int t) → ∃ row' c' y4, row'.length ≤ row.length + ds.length ∧ forLoop (.n 4) (exss T P none smB) ds [s, some (iL row), some (.fz (.int j)), x3, x4, some (.fz (.int c))] = .next [s, some (iL row'), some (.fz (.int j)), x3, y4, some (.fz (.int c'))]
  | [], row, c, x4, _, _ => ⟨row, c, x4, Nat.le_refl _, rfl⟩
  | d :: ds, row, c, x4, hl, hd => by
    rw [List.length_cons] at hl
    obtain ⟨t, rfl⟩ := hd d List.mem_cons_self
    let c2 : Int := (c * 40692 + c / 97 + t * 3 + j) % 2147483399
    obtain ⟨row', c', y4, h1, h2⟩ := sm_loop P s x3 j ds (row ++ [c2 / 8]) c2 (some (.fz (.int t))) (by rw [List.length_append, List.length_singleton]; omega) fun d h => hd d (List.mem_cons_of_mem _ h)
    refine ⟨row', c', y4, by rw [List.length_append, List.length_singleton] at h1; rw [List.length_cons]; omega, ?_⟩
    have a1 : exs T P none (.asg (.n 5) (.o2 .mod (.bi .int (.cons (.o2 .add (.o2 .add (.o2 .add (.o2 .mul (.v 5) (.c (.int 40692))) (.o2 .fdiv (.v 5) (.c (.int 97)))) (.o2 .mul (.v 4) (.c (.int 3)))) (.v 2)) .nil)) (.c (.int 2147483399)))) [s, some (iL row), some (.fz (.int j)), x3, some (.fz (.int t)), some (.fz (.int c))] = .next [s, some (iL row), some (.fz (.int j)), x3, some (.fz (.int t)), some (.fz (.int c2))] := by
      simp only [exss, exs, ev, evs, evv, evI, evc, evo, E.pur, EL.pur, OE.pur, g0, g1, g2, g3, g4, g5, g6, g7, g8, g9, g10, g11, s0, s1, s2, s3, s4, s5, s6, s7, s8, s9, s10, s11, at_fz, at_lst, at_obj, bind_ok, bind_exc, fl_ok, fl_exc, of_some, held_fz, held_tmp, held_vw, held_t, new_fz, new_lst, new_obj, own_fz, own_tmp, fin_fz, fin_tmp, tr_bl, tr_int, tr_non, c_lt, c_le, c_gt, c_ge, c_eqi, c_nei, c_eqs, c_nes, c_is0, c_isi, c_isl, c_isnt0, c_isnti, c_isntl, o_add, o_sub, b_lenl, b_lent, b_lenm, b_lenv, b_int, b_bool, b_tupt, b_tupl, b_tupm, b_listt, b_listl, cf0, cf1, cf2, cf3, cf4, cf5, oc_ok, oc_exc, tb_none, tb_some, tb_nil, Option.map_some, Bool.not_true, Bool.not_false, Bool.and_self, Bool.and_true, Bool.true_and, if_true, List.map_cons, List.map_nil, List.nil_append, List.cons_append, Nat.reduceSub, Nat.sub_self, List.replicate_zero, List.replicate_succ, List.append_nil, fi0, fi1, fi2, fi3, fi4, fi5, it_l, it_t, sl_l, sl_t, wk_l, wk_t, wl_l, wl_t, wk_n, wl_n, bg_n, fin_newL, smallr (i := c) (j := 40692) (by decide), smallr (i := t) (j := 3) (by decide), o_fdiv (show (0 : Int) < 97 by decide) (show (97 : Int) < 1073741824 by decide), o_mod (show (0 : Int) < 2147483399 by decide)]
      rfl
    have a2 : exs T P none (.app (.v 1) (.o2 .fdiv (.v 5) (.c (.int 8)))) [s, some (iL row), some (.fz (.int j)), x3, some (.fz (.int t)), some (.fz (.int c2))] = .next [s, some (iL (row ++ [c2 / 8])), some (.fz (.int j)), x3, some (.fz (.int t)), some (.fz (.int c2))] := by
      rw [← app_iL]
      exact exs_app (x := .fz (.int (c2 / 8))) (v1 := [s, some (iL row), some (.fz (.int j)), x3, some (.fz (.int t)), some (.fz (.int c2))]) rfl (by simp only [exss, exs, ev, evs, evv, evI, evc, evo, E.pur, EL.pur, OE.pur, g0, g1, g2, g3, g4, g5, g6, g7, g8, g9, g10, g11, s0, s1, s2, s3, s4, s5, s6, s7, s8, s9, s10, s11, at_fz, at_lst, at_obj, bind_ok, bind_exc, fl_ok, fl_exc, of_some, held_fz, held_tmp, held_vw, held_t, new_fz, new_lst, new_obj, own_fz, own_tmp, fin_fz, fin_tmp, tr_bl, tr_int, tr_non, c_lt, c_le, c_gt, c_ge, c_eqi, c_nei, c_eqs, c_nes, c_is0, c_isi, c_isl, c_isnt0, c_isnti, c_isntl, o_add, o_sub, b_lenl, b_lent, b_lenm, b_lenv, b_int, b_bool, b_tupt, b_tupl, b_tupm, b_listt, b_listl, cf0, cf1, cf2, cf3, cf4, cf5, oc_ok, oc_exc, tb_none, tb_some, tb_nil, Option.map_some, Bool.not_true, Bool.not_false, Bool.and_self, Bool.and_true, Bool.true_and, if_true, List.map_cons, List.map_nil, List.nil_append, List.cons_append, Nat.reduceSub, Nat.sub_self, List.replicate_zero, List.replicate_succ, List.append_nil, fi0, fi1, fi2, fi3, fi4, fi5, it_l, it_t, sl_l, sl_t, wk_l, wk_t, wl_l, wl_t, wk_n, wl_n, bg_n, fin_newL, o_fdiv (show (0 : Int) < 8 by decide) (show (8 : Int) < 1073741824 by decide)]) rfl rfl (app_len (by omega))
    have b : exss T P none smB [s, some (iL row), some (.fz (.int j)), x3, some (.fz (.int t)), some (.fz (.int c))] = .next [s, some (iL (row ++ [c2 / 8])), some (.fz (.int j)), x3, some (.fz (.int t)), some (.fz (.int c2))] := by
      unfold smB
      rw [ss_next a1, ss_next a2, ss_nil]
    simp only [forLoop, bg_n, s4, b, h2]
end Pv.Pl

set_option Elab.async false
set_option linter.all false
set_option maxRecDepth 100000
/-! P8: the draws, a few meetings. -/
namespace Pv.Pl
open PySem

theorem rng_ints {k : Nat} {d : D} (h : d ∈ rng 0 (k : Int)) : ∃ j : Nat, j < k ∧ d = .int (j : Int) := by
  rw [rng_nat] at h
  obtain ⟨j, hj, rfl⟩ := List.mem_map.mp h
  exact ⟨j, List.mem_range.mp hj, rfl⟩
def drB : SL := .cons (.asg (.n 3) (.bi .int (.cons (.ix (.v 0) (.v 2)) .nil))) (.cons (.ife (.cm .lt (.v 3) (.c (.int 0))) (.cons (.asg (.n 3) (.o2 .sub (.c (.int 7)) (.o2 .mul (.v 3) (.c (.int 3))))) .nil) .nil) (.cons (.ife (.cm .ge (.v 3) (.o2 .pow (.c (.int 10)) (.c (.int 18)))) (.cons (.fr (.n 4) (.rng1 (.c (.int 40))) bigB) .nil) (.cons (.asg (.n 5) (.o2 .mod (.bi .int (.cons (.o2 .add (.o2 .add (.o2 .mul (.v 3) (.c (.int 40014))) (.o2 .mul (.v 2) (.c (.int 20011)))) (.c (.int 5))) .nil)) (.c (.int 2147483563)))) (.cons (.fr (.n 4) (.rng1 (.c (.int 7))) smB) .nil))) .nil))
theorem draw_one (P : Fn) (ns : List Int) (j : Nat) (hj : j < ns.length) (row : List Int) (x3 x4 x5 : Option O) (hl : row.length + 40 ≤ 100000) : ∃ row' y3 y4 y5, row'.length ≤ row.length + 40 ∧
    exss T P none drB [some (.fz (.lst (ns.map .int))), some (iL row), some (.fz (.int (j : Int))), x3, x4, x5] = .next [some (.fz (.lst (ns.map .int))), some (iL row'), some (.fz (.int (j : Int))), y3, y4, y5] := by
  have hr : (ns.map D.int)[j]? = some (.int ns[j]) := by rw [List.getElem?_map, List.getElem?_eq_getElem hj]; rfl
  have a1 : exs T P none (.asg (.n 3) (.bi .int (.cons (.ix (.v 0) (.v 2)) .nil))) [some (.fz (.lst (ns.map .int))), some (iL row), some (.fz (.int (j : Int))), x3, x4, x5] = .next [some (.fz (.lst (ns.map .int))), some (iL row), some (.fz (.int (j : Int))), some (.fz (.int ns[j])), x4, x5] := by
    simp only [exss, exs, ev, evs, evv, evI, evc, evo, E.pur, EL.pur, OE.pur, g0, g1, g2, g3, g4, g5, g6, g7, g8, g9, g10, g11, s0, s1, s2, s3, s4, s5, s6, s7, s8, s9, s10, s11, at_fz, at_lst, at_obj, bind_ok, bind_exc, fl_ok, fl_exc, of_some, held_fz, held_tmp, held_vw, held_t, new_fz, new_lst, new_obj, own_fz, own_tmp, fin_fz, fin_tmp, tr_bl, tr_int, tr_non, c_lt, c_le, c_gt, c_ge, c_eqi, c_nei, c_eqs, c_nes, c_is0, c_isi, c_isl, c_isnt0, c_isnti, c_isntl, o_add, o_sub, b_lenl, b_lent, b_lenm, b_lenv, b_int, b_bool, b_tupt, b_tupl, b_tupm, b_listt, b_listl, cf0, cf1, cf2, cf3, cf4, cf5, oc_ok, oc_exc, tb_none, tb_some, tb_nil, Option.map_some, Bool.not_true, Bool.not_false, Bool.and_self, Bool.and_true, Bool.true_and, if_true, List.map_cons, List.map_nil, List.nil_append, List.cons_append, Nat.reduceSub, Nat.sub_self, List.replicate_zero, List.replicate_succ, List.append_nil, fi0, fi1, fi2, fi3, fi4, fi5, it_l, it_t, sl_l, sl_t, wk_l, wk_t, wl_l, wl_t, wk_n, wl_n, bg_n, fin_newL, nth_nat _ _ _ hr]
  obtain ⟨c, a2⟩ : ∃ c : Int, exs T P none (.ife (.cm .lt (.v 3) (.c (.int 0))) (.cons (.asg (.n 3) (.o2 .sub (.c (.int 7)) (.o2 .mul (.v 3) (.c (.int 3))))) .nil) .nil) [some (.fz (.lst (ns.map .int))), some (iL row), some (.fz (.int (j : Int))), some (.fz (.int ns[j])), x4, x5] = .next [some (.fz (.lst (ns.map .int))), some (iL row), some (.fz (.int (j : Int))), some (.fz (.int c)), x4, x5] := by
    by_cases h : ns[j] < 0
    · exact ⟨7 - ns[j] * 3, by simp only [exss, exs, ev, evs, evv, evI, evc, evo, E.pur, EL.pur, OE.pur, g0, g1, g2, g3, g4, g5, g6, g7, g8, g9, g10, g11, s0, s1, s2, s3, s4, s5, s6, s7, s8, s9, s10, s11, at_fz, at_lst, at_obj, bind_ok, bind_exc, fl_ok, fl_exc, of_some, held_fz, held_tmp, held_vw, held_t, new_fz, new_lst, new_obj, own_fz, own_tmp, fin_fz, fin_tmp, tr_bl, tr_int, tr_non, c_lt, c_le, c_gt, c_ge, c_eqi, c_nei, c_eqs, c_nes, c_is0, c_isi, c_isl, c_isnt0, c_isnti, c_isntl, o_add, o_sub, b_lenl, b_lent, b_lenm, b_lenv, b_int, b_bool, b_tupt, b_tupl, b_tupm, b_listt, b_listl, cf0, cf1, cf2, cf3, cf4, cf5, oc_ok, oc_exc, tb_none, tb_some, tb_nil, Option.map_some, Bool.not_true, Bool.not_false, Bool.and_self, Bool.and_true, Bool.true_and, if_true, List.map_cons, List.map_nil, List.nil_append, List.cons_append, Nat.reduceSub, Nat.sub_self, List.replicate_zero, List.replicate_succ, List.append_nil, fi0, fi1, fi2, fi3, fi4, fi5, it_l, it_t, sl_l, sl_t, wk_l, wk_t, wl_l, wl_t, wk_n, wl_n, bg_n, fin_newL, decide_eq_true h, smallr (i := ns[j]) (j := 3) (by decide)]⟩
    · exact ⟨ns[j], by simp only [exss, exs, ev, evs, evv, evI, evc, evo, E.pur, EL.pur, OE.pur, g0, g1, g2, g3, g4, g5, g6, g7, g8, g9, g10, g11, s0, s1, s2, s3, s4, s5, s6, s7, s8, s9, s10, s11, at_fz, at_lst, at_obj, bind_ok, bind_exc, fl_ok, fl_exc, of_some, held_fz, held_tmp, held_vw, held_t, new_fz, new_lst, new_obj, own_fz, own_tmp, fin_fz, fin_tmp, tr_bl, tr_int, tr_non, c_lt, c_le, c_gt, c_ge, c_eqi, c_nei, c_eqs, c_nes, c_is0, c_isi, c_isl, c_isnt0, c_isnti, c_isntl, o_add, o_sub, b_lenl, b_lent, b_lenm, b_lenv, b_int, b_bool, b_tupt, b_tupl, b_tupm, b_listt, b_listl, cf0, cf1, cf2, cf3, cf4, cf5, oc_ok, oc_exc, tb_none, tb_some, tb_nil, Option.map_some, Bool.not_true, Bool.not_false, Bool.and_self, Bool.and_true, Bool.true_and, if_true, List.map_cons, List.map_nil, List.nil_append, List.cons_append, Nat.reduceSub, Nat.sub_self, List.replicate_zero, List.replicate_succ, List.append_nil, fi0, fi1, fi2, fi3, fi4, fi5, it_l, it_t, sl_l, sl_t, wk_l, wk_t, wl_l, wl_t, wk_n, wl_n, bg_n, fin_newL, decide_eq_false h]⟩
  have t : ∀ w : Env, ev T P none (.cm .ge (.v 3) (.o2 .pow (.c (.int 10)) (.c (.int 18)))) [some (.fz (.lst (ns.map .int))), some (iL row), some (.fz (.int (j : Int))), some (.fz (.int c)), x4, x5] = .ok (.fz (.bl (decide (1000000000000000000 ≤ c)))) [some (.fz (.lst (ns.map .int))), some (iL row), some (.fz (.int (j : Int))), some (.fz (.int c)), x4, x5] := fun _ => by
    simp only [exss, exs, ev, evs, evv, evI, evc, evo, E.pur, EL.pur, OE.pur, g0, g1, g2, g3, g4, g5, g6, g7, g8, g9, g10, g11, s0, s1, s2, s3, s4, s5, s6, s7, s8, s9, s10, s11, at_fz, at_lst, at_obj, bind_ok, bind_exc, fl_ok, fl_exc, of_some, held_fz, held_tmp, held_vw, held_t, new_fz, new_lst, new_obj, own_fz, own_tmp, fin_fz, fin_tmp, tr_bl, tr_int, tr_non, c_lt, c_le, c_gt, c_ge, c_eqi, c_nei, c_eqs, c_nes, c_is0, c_isi, c_isl, c_isnt0, c_isnti, c_isntl, o_add, o_sub, b_lenl, b_lent, b_lenm, b_lenv, b_int, b_bool, b_tupt, b_tupl, b_tupm, b_listt, b_listl, cf0, cf1, cf2, cf3, cf4, cf5, oc_ok, oc_exc, tb_none, tb_some, tb_nil, Option.map_some, Bool.not_true, Bool.not_false, Bool.and_self, Bool.and_true, Bool.true_and, if_true, List.map_cons, List.map_nil, List.nil_append, List.cons_append, Nat.reduceSub, Nat.sub_self, List.replicate_zero, List.replicate_succ, List.append_nil, fi0, fi1, fi2, fi3, fi4, fi5, it_l, it_t, sl_l, sl_t, wk_l, wk_t, wl_l, wl_t, wk_n, wl_n, bg_n, fin_newL, pow18]
  have t := t []
  have l40 : (rng 0 40).length = 40 := by rw [show (40 : Int) = ((40 : Nat) : Int) from rfl, rng_nat, List.length_map, List.length_range]
  have l7 : (rng 0 7).length = 7 := by rw [show (7 : Int) = ((7 : Nat) : Int) from rfl, rng_nat, List.length_map, List.length_range]
  by_cases h : 1000000000000000000 ≤ c
  · rw [decide_eq_true h] at t
    obtain ⟨row', c', y4, h1, h2⟩ := big_loop P (some (.fz (.lst (ns.map .int)))) (some (.fz (.int (j : Int)))) x5 (rng 0 40) row c x4 (by rw [l40]; exact hl)
    rw [l40] at h1
    refine ⟨row', some (.fz (.int c')), y4, x5, h1, ?_⟩
    unfold drB
    rw [ss_next a1, ss_next a2, ss_next (exs_if1 t rfl (by rw [ss_next (exs_for (ev_rng1 (i := 40) (by simp only [exss, exs, ev, evs, evv, evI, evc, evo, E.pur, EL.pur, OE.pur, g0, g1, g2, g3, g4, g5, g6, g7, g8, g9, g10, g11, s0, s1, s2, s3, s4, s5, s6, s7, s8, s9, s10, s11, at_fz, at_lst, at_obj, bind_ok, bind_exc, fl_ok, fl_exc, of_some, held_fz, held_tmp, held_vw, held_t, new_fz, new_lst, new_obj, own_fz, own_tmp, fin_fz, fin_tmp, tr_bl, tr_int, tr_non, c_lt, c_le, c_gt, c_ge, c_eqi, c_nei, c_eqs, c_nes, c_is0, c_isi, c_isl, c_isnt0, c_isnti, c_isntl, o_add, o_sub, b_lenl, b_lent, b_lenm, b_lenv, b_int, b_bool, b_tupt, b_tupl, b_tupm, b_listt, b_listl, cf0, cf1, cf2, cf3, cf4, cf5, oc_ok, oc_exc, tb_none, tb_some, tb_nil, Option.map_some, Bool.not_true, Bool.not_false, Bool.and_self, Bool.and_true, Bool.true_and, if_true, List.map_cons, List.map_nil, List.nil_append, List.cons_append, Nat.reduceSub, Nat.sub_self, List.replicate_zero, List.replicate_succ, List.append_nil, fi0, fi1, fi2, fi3, fi4, fi5, it_l, it_t, sl_l, sl_t, wk_l, wk_t, wl_l, wl_t, wk_n, wl_n, bg_n, fin_newL]) (by decide)) h2), ss_nil])), ss_nil]
  · rw [decide_eq_false h] at t
    let c2 : Int := (c * 40014 + j * 20011 + 5) % 2147483563
    have a3 : exs T P none (.asg (.n 5) (.o2 .mod (.bi .int (.cons (.o2 .add (.o2 .add (.o2 .mul (.v 3) (.c (.int 40014))) (.o2 .mul (.v 2) (.c (.int 20011)))) (.c (.int 5))) .nil)) (.c (.int 2147483563)))) [some (.fz (.lst (ns.map .int))), some (iL row), some (.fz (.int (j : Int))), some (.fz (.int c)), x4, x5] = .next [some (.fz (.lst (ns.map .int))), some (iL row), some (.fz (.int (j : Int))), some (.fz (.int c)), x4, some (.fz (.int c2))] := by
      simp only [exss, exs, ev, evs, evv, evI, evc, evo, E.pur, EL.pur, OE.pur, g0, g1, g2, g3, g4, g5, g6, g7, g8, g9, g10, g11, s0, s1, s2, s3, s4, s5, s6, s7, s8, s9, s10, s11, at_fz, at_lst, at_obj, bind_ok, bind_exc, fl_ok, fl_exc, of_some, held_fz, held_tmp, held_vw, held_t, new_fz, new_lst, new_obj, own_fz, own_tmp, fin_fz, fin_tmp, tr_bl, tr_int, tr_non, c_lt, c_le, c_gt, c_ge, c_eqi, c_nei, c_eqs, c_nes, c_is0, c_isi, c_isl, c_isnt0, c_isnti, c_isntl, o_add, o_sub, b_lenl, b_lent, b_lenm, b_lenv, b_int, b_bool, b_tupt, b_tupl, b_tupm, b_listt, b_listl, cf0, cf1, cf2, cf3, cf4, cf5, oc_ok, oc_exc, tb_none, tb_some, tb_nil, Option.map_some, Bool.not_true, Bool.not_false, Bool.and_self, Bool.and_true, Bool.true_and, if_true, List.map_cons, List.map_nil, List.nil_append, List.cons_append, Nat.reduceSub, Nat.sub_self, List.replicate_zero, List.replicate_succ, List.append_nil, fi0, fi1, fi2, fi3, fi4, fi5, it_l, it_t, sl_l, sl_t, wk_l, wk_t, wl_l, wl_t, wk_n, wl_n, bg_n, fin_newL, smallr (i := c) (j := 40014) (by decide), smallr (i := (j : Int)) (j := 20011) (by decide), o_mod (show (0 : Int) < 2147483563 by decide)]
      rfl
    obtain ⟨row', c', y4, h1, h2⟩ := sm_loop P (some (.fz (.lst (ns.map .int)))) (some (.fz (.int c))) (j : Int) (rng 0 7) row c2 x4 (by rw [l7]; omega) (fun d hd => by
      obtain ⟨i, _, rfl⟩ := rng_ints (k := 7) hd
      exact ⟨_, rfl⟩)
    rw [l7] at h1
    refine ⟨row', some (.fz (.int c)), y4, some (.fz (.int c')), by omega, ?_⟩
    unfold drB
    rw [ss_next a1, ss_next a2, ss_next (exs_if0 t rfl (by rw [ss_next a3, ss_next (exs_for (ev_rng1 (i := 7) (by simp only [exss, exs, ev, evs, evv, evI, evc, evo, E.pur, EL.pur, OE.pur, g0, g1, g2, g3, g4, g5, g6, g7, g8, g9, g10, g11, s0, s1, s2, s3, s4, s5, s6, s7, s8, s9, s10, s11, at_fz, at_lst, at_obj, bind_ok, bind_exc, fl_ok, fl_exc, of_some, held_fz, held_tmp, held_vw, held_t, new_fz, new_lst, new_obj, own_fz, own_tmp, fin_fz, fin_tmp, tr_bl, tr_int, tr_non, c_lt, c_le, c_gt, c_ge, c_eqi, c_nei, c_eqs, c_nes, c_is0, c_isi, c_isl, c_isnt0, c_isnti, c_isntl, o_add, o_sub, b_lenl, b_lent, b_lenm, b_lenv, b_int, b_bool, b_tupt, b_tupl, b_tupm, b_listt, b_listl, cf0, cf1, cf2, cf3, cf4, cf5, oc_ok, oc_exc, tb_none, tb_some, tb_nil, Option.map_some, Bool.not_true, Bool.not_false, Bool.and_self, Bool.and_true, Bool.true_and, if_true, List.map_cons, List.map_nil, List.nil_append, List.cons_append, Nat.reduceSub, Nat.sub_self, List.replicate_zero, List.replicate_succ, List.append_nil, fi0, fi1, fi2, fi3, fi4, fi5, it_l, it_t, sl_l, sl_t, wk_l, wk_t, wl_l, wl_t, wk_n, wl_n, bg_n, fin_newL]) (by decide)) h2), ss_nil])), ss_nil]
theorem draws_ok (n : Nat) (ns : List Int) (hl : ns.length ≤ 63) : ∃ row, callN T (n + 1) 1000 [.fz (.lst (ns.map .int))] = .ok (drO row 0) [some (.fz (.lst (ns.map .int)))] := by
  have m1 : (if (63 : Int) < (ns.length : Int) then (63 : Int) else (ns.length : Int)) = (ns.length : Int) := if_neg (by omega)
  have it : evI T (callN T n) none (.rng1 (.bi .min (.cons (.bi .len (.cons (.v 0) .nil)) (.cons (.c (.int 63)) .nil)))) [some (.fz (.lst (ns.map .int))), some (iL []), none, none, none, none] = .ok (rng 0 (ns.length : Int)) [some (.fz (.lst (ns.map .int))), some (iL []), none, none, none, none] := by
    refine ev_rng1 ?_ (inR (by omega) (by omega))
    have e : ∀ a b : Int, bi .min [.fz (.int a), .fz (.int b)] = some (.fz (.int (if b < a then b else a))) := fun _ _ => rfl
    simp only [exss, exs, ev, evs, evv, evI, evc, evo, E.pur, EL.pur, OE.pur, g0, g1, g2, g3, g4, g5, g6, g7, g8, g9, g10, g11, s0, s1, s2, s3, s4, s5, s6, s7, s8, s9, s10, s11, at_fz, at_lst, at_obj, bind_ok, bind_exc, fl_ok, fl_exc, of_some, held_fz, held_tmp, held_vw, held_t, new_fz, new_lst, new_obj, own_fz, own_tmp, fin_fz, fin_tmp, tr_bl, tr_int, tr_non, c_lt, c_le, c_gt, c_ge, c_eqi, c_nei, c_eqs, c_nes, c_is0, c_isi, c_isl, c_isnt0, c_isnti, c_isntl, o_add, o_sub, b_lenl, b_lent, b_lenm, b_lenv, b_int, b_bool, b_tupt, b_tupl, b_tupm, b_listt, b_listl, cf0, cf1, cf2, cf3, cf4, cf5, oc_ok, oc_exc, tb_none, tb_some, tb_nil, Option.map_some, Bool.not_true, Bool.not_false, Bool.and_self, Bool.and_true, Bool.true_and, if_true, List.map_cons, List.map_nil, List.nil_append, List.cons_append, Nat.reduceSub, Nat.sub_self, List.replicate_zero, List.replicate_succ, List.append_nil, fi0, fi1, fi2, fi3, fi4, fi5, it_l, it_t, sl_l, sl_t, wk_l, wk_t, wl_l, wl_t, wk_n, wl_n, bg_n, fin_newL, List.length_map, e, m1]
  obtain ⟨v2, h1, h2⟩ := for_inv (g := .n 2) (body := exss T (callN T n) none drB) (fun rest v => ∃ row x2 x3 x4 x5, v = [some (.fz (.lst (ns.map .int))), some (iL row), x2, x3, x4, x5] ∧ row.length + 40 * rest.length ≤ 40 * 63 ∧ ∀ d ∈ rest, ∃ j : Nat, j < ns.length ∧ d = .int (j : Int))
    (ds := rng 0 (ns.length : Int)) (v := [some (.fz (.lst (ns.map .int))), some (iL []), none, none, none, none]) ⟨[], none, none, none, none, rfl, by rw [rng_nat, List.length_map, List.length_range, List.length_nil]; omega, fun d hd => rng_ints hd⟩ (by
      rintro d rest v ⟨row, x2, x3, x4, x5, rfl, hlen, hd⟩
      obtain ⟨j, hj, rfl⟩ := hd d List.mem_cons_self
      rw [List.length_cons] at hlen
      obtain ⟨row', y3, y4, y5, h1, h2⟩ := draw_one (callN T n) ns j hj row x3 x4 x5 (by omega)
      exact ⟨_, _, rfl, .inl h2, row', _, y3, y4, y5, rfl, by omega, fun d h => hd d (List.mem_cons_of_mem _ h)⟩)
  obtain ⟨row, x2, x3, x4, x5, rfl, hlen, _⟩ := h2
  have fr : (iL row).frz = .lst (row.map .int) := by
    have : row.map (fun i => O.fz (.int i)) = (row.map D.int).map O.fz := by rw [List.map_map]; rfl
    unfold iL
    rw [this]
    show D.lst (O.frzs ((row.map D.int).map .fz)) = _
    rw [frzs_map]
  refine ⟨row, call_body T1000 rfl (v := [some (.fz (.lst (ns.map .int))), none, none, none, none, none]) rfl ?_⟩
  refine run_next (v1 := [some (.fz (.lst (ns.map .int))), some (iL []), none, none, none, none]) rfl ?_
  refine run_next (exs_for it h1) ?_
  refine run_next (v1 := [some (.fz (.lst (ns.map .int))), some (.fz (.lst (row.map .int))), x2, x3, x4, x5]) ?_ ?_
  · rw [← fr]
    exact exs_frz rfl
  rfl
/-! ### a few -/
theorem pickH {r : Int} (h0 : 0 ≤ r) (h1 : r < 5) : ∃ h : Int, 1 ≤ h ∧ h ≤ 8 ∧ item (newL [.int 3, .int 1, .int 8, .int 2, .int 5]) (.fz (.int r)) = some (.fz (.int h)) := by
  rcases (by omega : r = 0 ∨ r = 1 ∨ r = 2 ∨ r = 3 ∨ r = 4) with rfl | rfl | rfl | rfl | rfl <;> exact ⟨_, by decide, by decide, rfl⟩
theorem pickW {r : Int} (h0 : 0 ≤ r) (h1 : r < 3) : ∃ h : Int, 1 ≤ h ∧ item (newL [.int 20, .int 4, .int 9]) (.fz (.int r)) = some (.fz (.int h)) := by
  rcases (by omega : r = 0 ∨ r = 1 ∨ r = 2) with rfl | rfl | rfl <;> exact ⟨_, by decide, rfl⟩
theorem pickN {r : Int} (h0 : 0 ≤ r) (h1 : r < 6) : ∃ k : Nat, k ≤ 12 ∧ item (newL [.int 4, .int 12, .int 2, .int 8, .int 0, .int 1]) (.fz (.int r)) = some (.fz (.int (k : Int))) := by
  rcases (by omega : r = 0 ∨ r = 1 ∨ r = 2 ∨ r = 3 ∨ r = 4 ∨ r = 5) with rfl | rfl | rfl | rfl | rfl | rfl
  · exact ⟨4, by decide, rfl⟩
  · exact ⟨12, by decide, rfl⟩
  · exact ⟨2, by decide, rfl⟩
  · exact ⟨8, by decide, rfl⟩
  · exact ⟨0, by decide, rfl⟩
  · exact ⟨1, by decide, rfl⟩
def mL (ms : List M5) : O := .lst (ms.map fun m => .fz m.t)
theorem mL_frz (ms : List M5) : (mL ms).frz = .lst (ms.map M5.t) := by
  have : ms.map (fun m => O.fz m.t) = (ms.map M5.t).map O.fz := by rw [List.map_map]; rfl
  unfold mL
  rw [this]
  show D.lst (O.frzs ((ms.map M5.t).map .fz)) = _
  rw [frzs_map]
theorem app_mL (ms : List M5) (m : M5) : O.lst ((ms.map fun m => O.fz m.t) ++ [.fz m.t]) = mL (ms ++ [m]) := by
  unfold mL
  rw [List.map_append]
  rfl
/-- what is made of the draws -/
structure Made (size hours : Int) (ms : List M5) : Prop where
  s0 : 2 ≤ size
  s1 : size ≤ 12
  h0 : 1 ≤ hours
  h1 : hours ≤ 60
  ok : ∀ m ∈ ms, m.ok size hours
  len : ms.length ≤ 60
def madeO (size hours : Int) (ms : List M5) : O := .lst [.fz (.int size), .fz (.int hours), .fz (.lst (ms.map M5.t))]
theorem mod_ne {x r s : Int} (hs : 2 ≤ s) (hx : 0 ≤ x) (hx1 : x < s) (h0 : 0 ≤ r) (h1 : r < s - 1) : x ≠ (x + 1 + r) % s := by
  intro e
  by_cases h : x + 1 + r < s
  · rw [Int.emod_eq_of_lt (by omega) h] at e
    omega
  · have : (x + 1 + r) % s = x + 1 + r - s := by
      rw [← Int.sub_emod_right, Int.emod_eq_of_lt (by omega) (by omega)]
    omega
end Pv.Pl

set_option Elab.async false
set_option linter.all false
set_option maxRecDepth 100000
/-! P9: a few meetings, many meetings. -/
namespace Pv.Pl
open PySem

theorem fi6 {a b c d e f : D} : fins [.val a, .val b, .val c, .val d, .val e, .val f] = some [a, b, c, d, e, f] := rfl
theorem o_min (a b : Int) : bi .min [.fz (.int a), .fz (.int b)] = some (.fz (.int (if b < a then b else a))) := rfl
def fewB : SL := (.cons (.asg (.n 6) (.o2 .mod (.bi .int (.cons (.o2 .add (.call 1001 (.ref 0 (.cons (.c (.int 30)) .nil))) (.o2 .mul (.c (.int 2)) (.v 5))) .nil)) (.v 1))) (.cons (.asg (.n 7) (.o2 .mod (.bi .int (.cons (.o2 .add (.o2 .add (.v 6) (.c (.int 1))) (.call 1001 (.ref 0 (.cons (.o2 .sub (.v 1) (.c (.int 1))) .nil)))) .nil)) (.v 1))) (.cons (.asg (.n 8) (.o2 .add (.c (.int 1)) (.o2 .mod (.bi .int (.cons (.o2 .add (.call 1001 (.ref 0 (.cons (.c (.int 30)) .nil))) (.o2 .fdiv (.v 5) (.c (.int 2)))) .nil)) (.v 2)))) (.cons (.asg (.n 9) (.v 8)) (.cons (.ife (.cm .eq (.call 1001 (.ref 0 (.cons (.v 3) .nil))) (.c (.int 3))) (.cons (.asg (.n 9) (.bi .min (.cons (.v 2) (.cons (.o2 .add (.o2 .add (.v 8) (.c (.int 1))) (.call 1001 (.ref 0 (.cons (.c (.int 2)) .nil)))) .nil)))) .nil) .nil) (.cons (.app (.v 4) (.tup (.cons (.v 6) (.cons (.v 7) (.cons (.v 8) (.cons (.v 9) (.cons (.o2 .add (.c (.int 1)) (.call 1001 (.ref 0 (.cons (.c (.int 3)) .nil)))) .nil))))))) .nil))))))
theorem few_one (n : Nat) (row : List Int) (a : Nat) (size hours wide : Int) (ms : List M5) (k : Nat) (x6 x7 x8 x9 : Option O) (hs : 2 ≤ size) (hh : 1 ≤ hours) (hw : 1 ≤ wide) (hl : ms.length ≤ 100) : ∃ a' m y6 y7 y8 y9, m.ok size hours ∧
    exss T (callN T (n + 1)) none fewB [some (drO row a), some (.fz (.int size)), some (.fz (.int hours)), some (.fz (.int wide)), some (mL ms), some (.fz (.int (k : Int))), x6, x7, x8, x9] =
      .next [some (drO row a'), some (.fz (.int size)), some (.fz (.int hours)), some (.fz (.int wide)), some (mL (ms ++ [m])), some (.fz (.int (k : Int))), y6, y7, y8, y9] := by
  obtain ⟨r1, p1, q1, t1⟩ := take0 n row a 30 (by decide)
  obtain ⟨r2, p2, q2, t2⟩ := take0 n row (a + 1) (size - 1) (by omega)
  obtain ⟨r3, p3, q3, t3⟩ := take0 n row (a + 1 + 1) 30 (by decide)
  obtain ⟨r4, p4, q4, t4⟩ := take0 n row (a + 1 + 1 + 1) wide (by omega)
  let one : Int := (r1 + 2 * k) % size
  let oth : Int := (one + 1 + r2) % size
  let ear : Int := 1 + (r3 + k / 2) % hours
  have ms0 : op2 .mul (.fz (.int 2)) (.fz (.int (k : Int))) = some (.fz (.int (2 * k))) := rfl
  have s1 : exs T (callN T (n + 1)) none (.asg (.n 6) (.o2 .mod (.bi .int (.cons (.o2 .add (.call 1001 (.ref 0 (.cons (.c (.int 30)) .nil))) (.o2 .mul (.c (.int 2)) (.v 5))) .nil)) (.v 1))) [some (drO row a), some (.fz (.int size)), some (.fz (.int hours)), some (.fz (.int wide)), some (mL ms), some (.fz (.int (k : Int))), x6, x7, x8, x9] =
      .next [some (drO row (a + 1)), some (.fz (.int size)), some (.fz (.int hours)), some (.fz (.int wide)), some (mL ms), some (.fz (.int (k : Int))), some (.fz (.int one)), x7, x8, x9] := by
    simp only [exss, exs, ev, evs, evv, evI, evc, evo, E.pur, EL.pur, OE.pur, g0, g1, g2, g3, g4, g5, g6, g7, g8, g9, g10, g11, s0, s1, s2, s3, s4, s5, s6, s7, s8, s9, s10, s11, at_fz, at_lst, at_obj, bind_ok, bind_exc, fl_ok, fl_exc, of_some, held_fz, held_tmp, held_vw, held_t, new_fz, new_lst, new_obj, own_fz, own_tmp, fin_fz, fin_tmp, tr_bl, tr_int, tr_non, c_lt, c_le, c_gt, c_ge, c_eqi, c_nei, c_eqs, c_nes, c_is0, c_isi, c_isl, c_isnt0, c_isnti, c_isntl, o_add, o_sub, b_lenl, b_lent, b_lenm, b_lenv, b_int, b_bool, b_tupt, b_tupl, b_tupm, b_listt, b_listl, cf0, cf1, cf2, cf3, cf4, cf5, oc_ok, oc_exc, tb_none, tb_some, tb_nil, Option.map_some, Bool.not_true, Bool.not_false, Bool.and_self, Bool.and_true, Bool.true_and, if_true, List.map_cons, List.map_nil, List.nil_append, List.cons_append, Nat.reduceSub, Nat.sub_self, List.replicate_zero, List.replicate_succ, List.append_nil, fi0, fi1, fi2, fi3, fi4, fi5, it_l, it_t, sl_l, sl_t, wk_l, wk_t, wl_l, wl_t, wk_n, wl_n, bg_n, fin_newL, t1, ms0, o_mod (show 0 < size by omega)]
    rfl
  have s2 : exs T (callN T (n + 1)) none (.asg (.n 7) (.o2 .mod (.bi .int (.cons (.o2 .add (.o2 .add (.v 6) (.c (.int 1))) (.call 1001 (.ref 0 (.cons (.o2 .sub (.v 1) (.c (.int 1))) .nil)))) .nil)) (.v 1))) [some (drO row (a + 1)), some (.fz (.int size)), some (.fz (.int hours)), some (.fz (.int wide)), some (mL ms), some (.fz (.int (k : Int))), some (.fz (.int one)), x7, x8, x9] =
      .next [some (drO row (a + 1 + 1)), some (.fz (.int size)), some (.fz (.int hours)), some (.fz (.int wide)), some (mL ms), some (.fz (.int (k : Int))), some (.fz (.int one)), some (.fz (.int oth)), x8, x9] := by
    simp only [exss, exs, ev, evs, evv, evI, evc, evo, E.pur, EL.pur, OE.pur, g0, g1, g2, g3, g4, g5, g6, g7, g8, g9, g10, g11, s0, s1, s2, s3, s4, s5, s6, s7, s8, s9, s10, s11, at_fz, at_lst, at_obj, bind_ok, bind_exc, fl_ok, fl_exc, of_some, held_fz, held_tmp, held_vw, held_t, new_fz, new_lst, new_obj, own_fz, own_tmp, fin_fz, fin_tmp, tr_bl, tr_int, tr_non, c_lt, c_le, c_gt, c_ge, c_eqi, c_nei, c_eqs, c_nes, c_is0, c_isi, c_isl, c_isnt0, c_isnti, c_isntl, o_add, o_sub, b_lenl, b_lent, b_lenm, b_lenv, b_int, b_bool, b_tupt, b_tupl, b_tupm, b_listt, b_listl, cf0, cf1, cf2, cf3, cf4, cf5, oc_ok, oc_exc, tb_none, tb_some, tb_nil, Option.map_some, Bool.not_true, Bool.not_false, Bool.and_self, Bool.and_true, Bool.true_and, if_true, List.map_cons, List.map_nil, List.nil_append, List.cons_append, Nat.reduceSub, Nat.sub_self, List.replicate_zero, List.replicate_succ, List.append_nil, fi0, fi1, fi2, fi3, fi4, fi5, it_l, it_t, sl_l, sl_t, wk_l, wk_t, wl_l, wl_t, wk_n, wl_n, bg_n, fin_newL, t2, o_mod (show 0 < size by omega)]
    rfl
  have s3 : exs T (callN T (n + 1)) none (.asg (.n 8) (.o2 .add (.c (.int 1)) (.o2 .mod (.bi .int (.cons (.o2 .add (.call 1001 (.ref 0 (.cons (.c (.int 30)) .nil))) (.o2 .fdiv (.v 5) (.c (.int 2)))) .nil)) (.v 2)))) [some (drO row (a + 1 + 1)), some (.fz (.int size)), some (.fz (.int hours)), some (.fz (.int wide)), some (mL ms), some (.fz (.int (k : Int))), some (.fz (.int one)), some (.fz (.int oth)), x8, x9] =
      .next [some (drO row (a + 1 + 1 + 1)), some (.fz (.int size)), some (.fz (.int hours)), some (.fz (.int wide)), some (mL ms), some (.fz (.int (k : Int))), some (.fz (.int one)), some (.fz (.int oth)), some (.fz (.int ear)), x9] := by
    simp only [exss, exs, ev, evs, evv, evI, evc, evo, E.pur, EL.pur, OE.pur, g0, g1, g2, g3, g4, g5, g6, g7, g8, g9, g10, g11, s0, s1, s2, s3, s4, s5, s6, s7, s8, s9, s10, s11, at_fz, at_lst, at_obj, bind_ok, bind_exc, fl_ok, fl_exc, of_some, held_fz, held_tmp, held_vw, held_t, new_fz, new_lst, new_obj, own_fz, own_tmp, fin_fz, fin_tmp, tr_bl, tr_int, tr_non, c_lt, c_le, c_gt, c_ge, c_eqi, c_nei, c_eqs, c_nes, c_is0, c_isi, c_isl, c_isnt0, c_isnti, c_isntl, o_add, o_sub, b_lenl, b_lent, b_lenm, b_lenv, b_int, b_bool, b_tupt, b_tupl, b_tupm, b_listt, b_listl, cf0, cf1, cf2, cf3, cf4, cf5, oc_ok, oc_exc, tb_none, tb_some, tb_nil, Option.map_some, Bool.not_true, Bool.not_false, Bool.and_self, Bool.and_true, Bool.true_and, if_true, List.map_cons, List.map_nil, List.nil_append, List.cons_append, Nat.reduceSub, Nat.sub_self, List.replicate_zero, List.replicate_succ, List.append_nil, fi0, fi1, fi2, fi3, fi4, fi5, it_l, it_t, sl_l, sl_t, wk_l, wk_t, wl_l, wl_t, wk_n, wl_n, bg_n, fin_newL, t3, o_mod (show 0 < hours by omega), o_fdiv (show (0 : Int) < 2 by decide) (show (2 : Int) < 1073741824 by decide)]
    rfl
  have s4 : exs T (callN T (n + 1)) none (.asg (.n 9) (.v 8)) [some (drO row (a + 1 + 1 + 1)), some (.fz (.int size)), some (.fz (.int hours)), some (.fz (.int wide)), some (mL ms), some (.fz (.int (k : Int))), some (.fz (.int one)), some (.fz (.int oth)), some (.fz (.int ear)), x9] =
      .next [some (drO row (a + 1 + 1 + 1)), some (.fz (.int size)), some (.fz (.int hours)), some (.fz (.int wide)), some (mL ms), some (.fz (.int (k : Int))), some (.fz (.int one)), some (.fz (.int oth)), some (.fz (.int ear)), some (.fz (.int ear))] := by
    simp only [exss, exs, ev, evs, evv, evI, evc, evo, E.pur, EL.pur, OE.pur, g0, g1, g2, g3, g4, g5, g6, g7, g8, g9, g10, g11, s0, s1, s2, s3, s4, s5, s6, s7, s8, s9, s10, s11, at_fz, at_lst, at_obj, bind_ok, bind_exc, fl_ok, fl_exc, of_some, held_fz, held_tmp, held_vw, held_t, new_fz, new_lst, new_obj, own_fz, own_tmp, fin_fz, fin_tmp, tr_bl, tr_int, tr_non, c_lt, c_le, c_gt, c_ge, c_eqi, c_nei, c_eqs, c_nes, c_is0, c_isi, c_isl, c_isnt0, c_isnti, c_isntl, o_add, o_sub, b_lenl, b_lent, b_lenm, b_lenv, b_int, b_bool, b_tupt, b_tupl, b_tupm, b_listt, b_listl, cf0, cf1, cf2, cf3, cf4, cf5, oc_ok, oc_exc, tb_none, tb_some, tb_nil, Option.map_some, Bool.not_true, Bool.not_false, Bool.and_self, Bool.and_true, Bool.true_and, if_true, List.map_cons, List.map_nil, List.nil_append, List.cons_append, Nat.reduceSub, Nat.sub_self, List.replicate_zero, List.replicate_succ, List.append_nil, fi0, fi1, fi2, fi3, fi4, fi5, it_l, it_t, sl_l, sl_t, wk_l, wk_t, wl_l, wl_t, wk_n, wl_n, bg_n, fin_newL]
  have e0 : 1 ≤ ear := by
    have := Int.emod_nonneg (r3 + k / 2) (show hours ≠ 0 by omega)
    show 1 ≤ 1 + (r3 + k / 2) % hours
    omega
  have e1 : ear ≤ hours := by
    have := Int.emod_lt_of_pos (r3 + k / 2) (show 0 < hours by omega)
    show 1 + (r3 + k / 2) % hours ≤ hours
    omega
  obtain ⟨a5, late, l0, l1, s5⟩ : ∃ (a5 : Nat) (late : Int), ear ≤ late ∧ late ≤ hours ∧ exs T (callN T (n + 1)) none (.ife (.cm .eq (.call 1001 (.ref 0 (.cons (.v 3) .nil))) (.c (.int 3))) (.cons (.asg (.n 9) (.bi .min (.cons (.v 2) (.cons (.o2 .add (.o2 .add (.v 8) (.c (.int 1))) (.call 1001 (.ref 0 (.cons (.c (.int 2)) .nil)))) .nil)))) .nil) .nil) [some (drO row (a + 1 + 1 + 1)), some (.fz (.int size)), some (.fz (.int hours)), some (.fz (.int wide)), some (mL ms), some (.fz (.int (k : Int))), some (.fz (.int one)), some (.fz (.int oth)), some (.fz (.int ear)), some (.fz (.int ear))] =
      .next [some (drO row a5), some (.fz (.int size)), some (.fz (.int hours)), some (.fz (.int wide)), some (mL ms), some (.fz (.int (k : Int))), some (.fz (.int one)), some (.fz (.int oth)), some (.fz (.int ear)), some (.fz (.int late))] := by
    by_cases h : r4 = 3
    · obtain ⟨r5, p5, q5, t5⟩ := take0 n row (a + 1 + 1 + 1 + 1) 2 (by decide)
      refine ⟨a + 1 + 1 + 1 + 1 + 1, if ear + 1 + r5 < hours then ear + 1 + r5 else hours, ?_, ?_, ?_⟩
      · split <;> omega
      · split <;> omega
      · have hb : (r4 == 3) = true := by simpa using h
        simp only [exss, exs, ev, evs, evv, evI, evc, evo, E.pur, EL.pur, OE.pur, g0, g1, g2, g3, g4, g5, g6, g7, g8, g9, g10, g11, s0, s1, s2, s3, s4, s5, s6, s7, s8, s9, s10, s11, at_fz, at_lst, at_obj, bind_ok, bind_exc, fl_ok, fl_exc, of_some, held_fz, held_tmp, held_vw, held_t, new_fz, new_lst, new_obj, own_fz, own_tmp, fin_fz, fin_tmp, tr_bl, tr_int, tr_non, c_lt, c_le, c_gt, c_ge, c_eqi, c_nei, c_eqs, c_nes, c_is0, c_isi, c_isl, c_isnt0, c_isnti, c_isntl, o_add, o_sub, b_lenl, b_lent, b_lenm, b_lenv, b_int, b_bool, b_tupt, b_tupl, b_tupm, b_listt, b_listl, cf0, cf1, cf2, cf3, cf4, cf5, oc_ok, oc_exc, tb_none, tb_some, tb_nil, Option.map_some, Bool.not_true, Bool.not_false, Bool.and_self, Bool.and_true, Bool.true_and, if_true, List.map_cons, List.map_nil, List.nil_append, List.cons_append, Nat.reduceSub, Nat.sub_self, List.replicate_zero, List.replicate_succ, List.append_nil, fi0, fi1, fi2, fi3, fi4, fi5, it_l, it_t, sl_l, sl_t, wk_l, wk_t, wl_l, wl_t, wk_n, wl_n, bg_n, fin_newL, t4, hb, t5, o_min]
    · have hb : (r4 == 3) = false := by simpa using h
      exact ⟨a + 1 + 1 + 1 + 1, ear, Int.le_refl _, e1, by simp only [exss, exs, ev, evs, evv, evI, evc, evo, E.pur, EL.pur, OE.pur, g0, g1, g2, g3, g4, g5, g6, g7, g8, g9, g10, g11, s0, s1, s2, s3, s4, s5, s6, s7, s8, s9, s10, s11, at_fz, at_lst, at_obj, bind_ok, bind_exc, fl_ok, fl_exc, of_some, held_fz, held_tmp, held_vw, held_t, new_fz, new_lst, new_obj, own_fz, own_tmp, fin_fz, fin_tmp, tr_bl, tr_int, tr_non, c_lt, c_le, c_gt, c_ge, c_eqi, c_nei, c_eqs, c_nes, c_is0, c_isi, c_isl, c_isnt0, c_isnti, c_isntl, o_add, o_sub, b_lenl, b_lent, b_lenm, b_lenv, b_int, b_bool, b_tupt, b_tupl, b_tupm, b_listt, b_listl, cf0, cf1, cf2, cf3, cf4, cf5, oc_ok, oc_exc, tb_none, tb_some, tb_nil, Option.map_some, Bool.not_true, Bool.not_false, Bool.and_self, Bool.and_true, Bool.true_and, if_true, List.map_cons, List.map_nil, List.nil_append, List.cons_append, Nat.reduceSub, Nat.sub_self, List.replicate_zero, List.replicate_succ, List.append_nil, fi0, fi1, fi2, fi3, fi4, fi5, it_l, it_t, sl_l, sl_t, wk_l, wk_t, wl_l, wl_t, wk_n, wl_n, bg_n, fin_newL, t4, hb]⟩
  obtain ⟨r6, p6, q6, t6⟩ := take0 n row a5 3 (by decide)
  let m : M5 := ⟨one, oth, ear, late, 1 + r6⟩
  have s6 : exs T (callN T (n + 1)) none (.app (.v 4) (.tup (.cons (.v 6) (.cons (.v 7) (.cons (.v 8) (.cons (.v 9) (.cons (.o2 .add (.c (.int 1)) (.call 1001 (.ref 0 (.cons (.c (.int 3)) .nil)))) .nil))))))) [some (drO row a5), some (.fz (.int size)), some (.fz (.int hours)), some (.fz (.int wide)), some (mL ms), some (.fz (.int (k : Int))), some (.fz (.int one)), some (.fz (.int oth)), some (.fz (.int ear)), some (.fz (.int late))] =
      .next [some (drO row (a5 + 1)), some (.fz (.int size)), some (.fz (.int hours)), some (.fz (.int wide)), some (mL (ms ++ [m])), some (.fz (.int (k : Int))), some (.fz (.int one)), some (.fz (.int oth)), some (.fz (.int ear)), some (.fz (.int late))] := by
    rw [← app_mL]
    exact exs_app (x := .fz m.t) (v1 := [some (drO row (a5 + 1)), some (.fz (.int size)), some (.fz (.int hours)), some (.fz (.int wide)), some (mL ms), some (.fz (.int (k : Int))), some (.fz (.int one)), some (.fz (.int oth)), some (.fz (.int ear)), some (.fz (.int late))]) (os := ms.map fun m => O.fz m.t) rfl (by simp only [exss, exs, ev, evs, evv, evI, evc, evo, E.pur, EL.pur, OE.pur, g0, g1, g2, g3, g4, g5, g6, g7, g8, g9, g10, g11, s0, s1, s2, s3, s4, s5, s6, s7, s8, s9, s10, s11, at_fz, at_lst, at_obj, bind_ok, bind_exc, fl_ok, fl_exc, of_some, held_fz, held_tmp, held_vw, held_t, new_fz, new_lst, new_obj, own_fz, own_tmp, fin_fz, fin_tmp, tr_bl, tr_int, tr_non, c_lt, c_le, c_gt, c_ge, c_eqi, c_nei, c_eqs, c_nes, c_is0, c_isi, c_isl, c_isnt0, c_isnti, c_isntl, o_add, o_sub, b_lenl, b_lent, b_lenm, b_lenv, b_int, b_bool, b_tupt, b_tupl, b_tupm, b_listt, b_listl, cf0, cf1, cf2, cf3, cf4, cf5, oc_ok, oc_exc, tb_none, tb_some, tb_nil, Option.map_some, Bool.not_true, Bool.not_false, Bool.and_self, Bool.and_true, Bool.true_and, if_true, List.map_cons, List.map_nil, List.nil_append, List.cons_append, Nat.reduceSub, Nat.sub_self, List.replicate_zero, List.replicate_succ, List.append_nil, fi0, fi1, fi2, fi3, fi4, fi5, it_l, it_t, sl_l, sl_t, wk_l, wk_t, wl_l, wl_t, wk_n, wl_n, bg_n, fin_newL, t6]; rfl) rfl rfl (by rw [List.length_map]; have := PySem.sizeLine_eq; omega)
  have o0 : 0 ≤ one := Int.emod_nonneg _ (by omega)
  have o1 : one < size := Int.emod_lt_of_pos _ (by omega)
  refine ⟨a5 + 1, m, some (.fz (.int one)), some (.fz (.int oth)), some (.fz (.int ear)), some (.fz (.int late)), ⟨o0, o1, Int.emod_nonneg _ (by omega), Int.emod_lt_of_pos _ (by omega), mod_ne hs o0 o1 p2 q2, e0, l0, l1, ?_, ?_⟩, ?_⟩
  · show 1 ≤ 1 + r6
    omega
  · show 1 + r6 ≤ 1000000000000000000000000000000
    omega
  · unfold fewB
    rw [ss_next s1, ss_next s2, ss_next s3, ss_next s4, ss_next s5, ss_next s6, ss_nil]
theorem few_ok (n : Nat) (row : List Int) (a : Nat) : ∃ size hours ms a', Made size hours ms ∧ callN T (n + 2) 1004 [drO row a] = .ok (madeO size hours ms) [some (drO row a')] := by
  obtain ⟨r1, p1, q1, t1⟩ := take0 n row a 5 (by decide)
  obtain ⟨r2, p2, q2, t2⟩ := take0 n row (a + 1) 5 (by decide)
  obtain ⟨r3, p3, q3, t3⟩ := take0 n row (a + 1 + 1) 3 (by decide)
  obtain ⟨r4, p4, q4, t4⟩ := take0 n row (a + 1 + 1 + 1) 6 (by decide)
  obtain ⟨hours, h0, h1, i1⟩ := pickH p2 q2
  obtain ⟨wide, w0, i2⟩ := pickW p3 q3
  obtain ⟨c, c0, i3⟩ := pickN p4 q4
  let size : Int := 2 + r1
  obtain ⟨v2, f1, f2⟩ := for_inv (g := .n 5) (body := exss T (callN T (n + 1)) none fewB) (fun rest v => ∃ a' ms x5 x6 x7 x8 x9, v = [some (drO row a'), some (.fz (.int size)), some (.fz (.int hours)), some (.fz (.int wide)), some (mL ms), x5, x6, x7, x8, x9] ∧ (∀ m ∈ ms, m.ok size hours) ∧ ms.length + rest.length ≤ 12 ∧ ∀ d ∈ rest, ∃ j : Nat, j < c ∧ d = .int (j : Int))
    (ds := rng 0 (c : Int)) (v := [some (drO row (a + 1 + 1 + 1 + 1)), some (.fz (.int size)), some (.fz (.int hours)), some (.fz (.int wide)), some (mL []), none, none, none, none, none]) ⟨_, [], none, none, none, none, none, rfl, (fun m h => by cases h), by rw [rng_nat, List.length_map, List.length_range, List.length_nil]; omega, fun d hd => rng_ints hd⟩ (by
      rintro d rest v ⟨a', ms, x5, x6, x7, x8, x9, rfl, hok, hlen, hd⟩
      obtain ⟨j, hj, rfl⟩ := hd d List.mem_cons_self
      rw [List.length_cons] at hlen
      obtain ⟨a2, m, y6, y7, y8, y9, hm, e⟩ := few_one n row a' size hours wide ms j x6 x7 x8 x9 (by show 2 ≤ 2 + r1; omega) h0 w0 (by omega)
      refine ⟨_, _, rfl, .inl e, a2, ms ++ [m], _, y6, y7, y8, y9, rfl, fun m' h => ?_, by rw [List.length_append, List.length_singleton]; omega, fun d h => hd d (List.mem_cons_of_mem _ h)⟩
      rcases List.mem_append.mp h with h | h
      · exact hok m' h
      · rw [List.mem_singleton.mp h]; exact hm)
  obtain ⟨a', ms, x5, x6, x7, x8, x9, rfl, hok, hlen, _⟩ := f2
  refine ⟨size, hours, ms, a', ⟨by show 2 ≤ 2 + r1; omega, by show 2 + r1 ≤ 12; omega, h0, by omega, hok, by rw [List.length_nil] at hlen; omega⟩, ?_⟩
  refine call_body T1004 rfl (v := [some (drO row a), none, none, none, none, none, none, none, none, none]) rfl ?_
  refine run_next (v1 := [some (drO row (a + 1)), some (.fz (.int size)), none, none, none, none, none, none, none, none]) ?_ ?_
  · simp only [exss, exs, ev, evs, evv, evI, evc, evo, E.pur, EL.pur, OE.pur, g0, g1, g2, g3, g4, g5, g6, g7, g8, g9, g10, g11, s0, s1, s2, s3, s4, s5, s6, s7, s8, s9, s10, s11, at_fz, at_lst, at_obj, bind_ok, bind_exc, fl_ok, fl_exc, of_some, held_fz, held_tmp, held_vw, held_t, new_fz, new_lst, new_obj, own_fz, own_tmp, fin_fz, fin_tmp, tr_bl, tr_int, tr_non, c_lt, c_le, c_gt, c_ge, c_eqi, c_nei, c_eqs, c_nes, c_is0, c_isi, c_isl, c_isnt0, c_isnti, c_isntl, o_add, o_sub, b_lenl, b_lent, b_lenm, b_lenv, b_int, b_bool, b_tupt, b_tupl, b_tupm, b_listt, b_listl, cf0, cf1, cf2, cf3, cf4, cf5, oc_ok, oc_exc, tb_none, tb_some, tb_nil, Option.map_some, Bool.not_true, Bool.not_false, Bool.and_self, Bool.and_true, Bool.true_and, if_true, List.map_cons, List.map_nil, List.nil_append, List.cons_append, Nat.reduceSub, Nat.sub_self, List.replicate_zero, List.replicate_succ, List.append_nil, fi0, fi1, fi2, fi3, fi4, fi5, it_l, it_t, sl_l, sl_t, wk_l, wk_t, wl_l, wl_t, wk_n, wl_n, bg_n, fin_newL, t1]
    rfl
  refine run_next (v1 := [some (drO row (a + 1 + 1)), some (.fz (.int size)), some (.fz (.int hours)), none, none, none, none, none, none, none]) ?_ ?_
  · simp only [exss, exs, ev, evs, evv, evI, evc, evo, E.pur, EL.pur, OE.pur, g0, g1, g2, g3, g4, g5, g6, g7, g8, g9, g10, g11, s0, s1, s2, s3, s4, s5, s6, s7, s8, s9, s10, s11, at_fz, at_lst, at_obj, bind_ok, bind_exc, fl_ok, fl_exc, of_some, held_fz, held_tmp, held_vw, held_t, new_fz, new_lst, new_obj, own_fz, own_tmp, fin_fz, fin_tmp, tr_bl, tr_int, tr_non, c_lt, c_le, c_gt, c_ge, c_eqi, c_nei, c_eqs, c_nes, c_is0, c_isi, c_isl, c_isnt0, c_isnti, c_isntl, o_add, o_sub, b_lenl, b_lent, b_lenm, b_lenv, b_int, b_bool, b_tupt, b_tupl, b_tupm, b_listt, b_listl, cf0, cf1, cf2, cf3, cf4, cf5, oc_ok, oc_exc, tb_none, tb_some, tb_nil, Option.map_some, Bool.not_true, Bool.not_false, Bool.and_self, Bool.and_true, Bool.true_and, if_true, List.map_cons, List.map_nil, List.nil_append, List.cons_append, Nat.reduceSub, Nat.sub_self, List.replicate_zero, List.replicate_succ, List.append_nil, fi0, fi1, fi2, fi3, fi4, fi5, it_l, it_t, sl_l, sl_t, wk_l, wk_t, wl_l, wl_t, wk_n, wl_n, bg_n, fin_newL, held_n, t2, i1]
  refine run_next (v1 := [some (drO row (a + 1 + 1 + 1)), some (.fz (.int size)), some (.fz (.int hours)), some (.fz (.int wide)), none, none, none, none, none, none]) ?_ ?_
  · simp only [exss, exs, ev, evs, evv, evI, evc, evo, E.pur, EL.pur, OE.pur, g0, g1, g2, g3, g4, g5, g6, g7, g8, g9, g10, g11, s0, s1, s2, s3, s4, s5, s6, s7, s8, s9, s10, s11, at_fz, at_lst, at_obj, bind_ok, bind_exc, fl_ok, fl_exc, of_some, held_fz, held_tmp, held_vw, held_t, new_fz, new_lst, new_obj, own_fz, own_tmp, fin_fz, fin_tmp, tr_bl, tr_int, tr_non, c_lt, c_le, c_gt, c_ge, c_eqi, c_nei, c_eqs, c_nes, c_is0, c_isi, c_isl, c_isnt0, c_isnti, c_isntl, o_add, o_sub, b_lenl, b_lent, b_lenm, b_lenv, b_int, b_bool, b_tupt, b_tupl, b_tupm, b_listt, b_listl, cf0, cf1, cf2, cf3, cf4, cf5, oc_ok, oc_exc, tb_none, tb_some, tb_nil, Option.map_some, Bool.not_true, Bool.not_false, Bool.and_self, Bool.and_true, Bool.true_and, if_true, List.map_cons, List.map_nil, List.nil_append, List.cons_append, Nat.reduceSub, Nat.sub_self, List.replicate_zero, List.replicate_succ, List.append_nil, fi0, fi1, fi2, fi3, fi4, fi5, it_l, it_t, sl_l, sl_t, wk_l, wk_t, wl_l, wl_t, wk_n, wl_n, bg_n, fin_newL, held_n, t3, i2]
  refine run_next (v1 := [some (drO row (a + 1 + 1 + 1)), some (.fz (.int size)), some (.fz (.int hours)), some (.fz (.int wide)), some (mL []), none, none, none, none, none]) rfl ?_
  refine run_next (exs_for (ev_rng1 (i := (c : Int)) (by simp only [exss, exs, ev, evs, evv, evI, evc, evo, E.pur, EL.pur, OE.pur, g0, g1, g2, g3, g4, g5, g6, g7, g8, g9, g10, g11, s0, s1, s2, s3, s4, s5, s6, s7, s8, s9, s10, s11, at_fz, at_lst, at_obj, bind_ok, bind_exc, fl_ok, fl_exc, of_some, held_fz, held_tmp, held_vw, held_t, new_fz, new_lst, new_obj, own_fz, own_tmp, fin_fz, fin_tmp, tr_bl, tr_int, tr_non, c_lt, c_le, c_gt, c_ge, c_eqi, c_nei, c_eqs, c_nes, c_is0, c_isi, c_isl, c_isnt0, c_isnti, c_isntl, o_add, o_sub, b_lenl, b_lent, b_lenm, b_lenv, b_int, b_bool, b_tupt, b_tupl, b_tupm, b_listt, b_listl, cf0, cf1, cf2, cf3, cf4, cf5, oc_ok, oc_exc, tb_none, tb_some, tb_nil, Option.map_some, Bool.not_true, Bool.not_false, Bool.and_self, Bool.and_true, Bool.true_and, if_true, List.map_cons, List.map_nil, List.nil_append, List.cons_append, Nat.reduceSub, Nat.sub_self, List.replicate_zero, List.replicate_succ, List.append_nil, fi0, fi1, fi2, fi3, fi4, fi5, it_l, it_t, sl_l, sl_t, wk_l, wk_t, wl_l, wl_t, wk_n, wl_n, bg_n, fin_newL, held_n, fi6, t4, i3]) (inR (by omega) (by omega))) f1) ?_
  refine run_next (v1 := [some (drO row a'), some (.fz (.int size)), some (.fz (.int hours)), some (.fz (.int wide)), some (mL ms), x5, x6, x7, x8, x9]) rfl ?_
  refine run_next (v1 := [some (drO row a'), some (.fz (.int size)), some (.fz (.int hours)), some (.fz (.int wide)), some (.fz (.lst (ms.map M5.t))), x5, x6, x7, x8, x9]) ?_ ?_
  · rw [← mL_frz]
    exact exs_frz rfl
  rfl
end Pv.Pl

set_option Elab.async false
set_option linter.all false
set_option maxRecDepth 100000
/-! P10: many meetings; where they clash. -/
namespace Pv.Pl
open PySem

theorem ixn_nat {l k : Nat} (h : k < l) : ixn l (k : Int) = some k := by
  unfold ixn L2.ixN
  rw [if_pos (by omega), if_pos (by omega), Int.toNat_natCast]
def manyB : SL := .cons (.asg (.n 4) (.o2 .mod (.bi .int (.cons (.o2 .add (.o2 .mul (.c (.int 7)) (.v 3)) (.call 1001 (.ref 0 (.cons (.c (.int 30)) .nil)))) .nil)) (.v 1))) (.cons (.app (.v 2) (.tup (.cons (.v 4) (.cons (.o2 .mod (.bi .int (.cons (.o2 .add (.o2 .add (.v 4) (.c (.int 1))) (.o2 .mod (.v 3) (.o2 .sub (.v 1) (.c (.int 1))))) .nil)) (.v 1)) (.cons (.o2 .add (.o2 .mod (.bi .int (.cons (.o2 .mul (.c (.int 11)) (.v 3)) .nil)) (.c (.int 60))) (.c (.int 1))) (.cons (.o2 .add (.o2 .mod (.bi .int (.cons (.o2 .mul (.c (.int 11)) (.v 3)) .nil)) (.c (.int 60))) (.c (.int 1))) (.cons (.c (.int 1)) .nil))))))) .nil)
theorem smull {i j : Int} (h : small i = true) : op2 .mul (.fz (.int i)) (.fz (.int j)) = some (.fz (.int (i * j))) := o_mul (by rw [h, Bool.true_or])
theorem many_one (n : Nat) (row : List Int) (a : Nat) (size : Int) (ms : List M5) (k : Nat) (x4 x5 x6 x7 : Option O) (hs : 2 ≤ size) (hl : ms.length ≤ 100) : ∃ m y4, m.ok size 60 ∧
    exss T (callN T (n + 1)) none manyB [some (drO row a), some (.fz (.int size)), some (mL ms), some (.fz (.int (k : Int))), x4, x5, x6, x7] =
      .next [some (drO row (a + 1)), some (.fz (.int size)), some (mL (ms ++ [m])), some (.fz (.int (k : Int))), y4, x5, x6, x7] := by
  obtain ⟨r1, p1, q1, t1⟩ := take0 n row a 30 (by decide)
  let one : Int := (7 * k + r1) % size
  let oth : Int := (one + 1 + k % (size - 1)) % size
  let ear : Int := (11 * k) % 60 + 1
  let m : M5 := ⟨one, oth, ear, ear, 1⟩
  have s1 : exs T (callN T (n + 1)) none (.asg (.n 4) (.o2 .mod (.bi .int (.cons (.o2 .add (.o2 .mul (.c (.int 7)) (.v 3)) (.call 1001 (.ref 0 (.cons (.c (.int 30)) .nil)))) .nil)) (.v 1))) [some (drO row a), some (.fz (.int size)), some (mL ms), some (.fz (.int (k : Int))), x4, x5, x6, x7] =
      .next [some (drO row (a + 1)), some (.fz (.int size)), some (mL ms), some (.fz (.int (k : Int))), some (.fz (.int one)), x5, x6, x7] := by
    simp only [exss, exs, ev, evs, evv, evI, evc, evo, E.pur, EL.pur, OE.pur, g0, g1, g2, g3, g4, g5, g6, g7, g8, g9, g10, g11, s0, s1, s2, s3, s4, s5, s6, s7, s8, s9, s10, s11, at_fz, at_lst, at_obj, bind_ok, bind_exc, fl_ok, fl_exc, of_some, held_fz, held_tmp, held_vw, held_t, new_fz, new_lst, new_obj, own_fz, own_tmp, fin_fz, fin_tmp, tr_bl, tr_int, tr_non, c_lt, c_le, c_gt, c_ge, c_eqi, c_nei, c_eqs, c_nes, c_is0, c_isi, c_isl, c_isnt0, c_isnti, c_isntl, o_add, o_sub, b_lenl, b_lent, b_lenm, b_lenv, b_int, b_bool, b_tupt, b_tupl, b_tupm, b_listt, b_listl, cf0, cf1, cf2, cf3, cf4, cf5, oc_ok, oc_exc, tb_none, tb_some, tb_nil, Option.map_some, Bool.not_true, Bool.not_false, Bool.and_self, Bool.and_true, Bool.true_and, if_true, List.map_cons, List.map_nil, List.nil_append, List.cons_append, Nat.reduceSub, Nat.sub_self, List.replicate_zero, List.replicate_succ, List.append_nil, fi0, fi1, fi2, fi3, fi4, fi5, it_l, it_t, sl_l, sl_t, wk_l, wk_t, wl_l, wl_t, wk_n, wl_n, bg_n, fin_newL, t1, smull (i := 7) (j := (k : Int)) (by decide), o_mod (show 0 < size by omega)]
    rfl
  have s2 : exs T (callN T (n + 1)) none (.app (.v 2) (.tup (.cons (.v 4) (.cons (.o2 .mod (.bi .int (.cons (.o2 .add (.o2 .add (.v 4) (.c (.int 1))) (.o2 .mod (.v 3) (.o2 .sub (.v 1) (.c (.int 1))))) .nil)) (.v 1)) (.cons (.o2 .add (.o2 .mod (.bi .int (.cons (.o2 .mul (.c (.int 11)) (.v 3)) .nil)) (.c (.int 60))) (.c (.int 1))) (.cons (.o2 .add (.o2 .mod (.bi .int (.cons (.o2 .mul (.c (.int 11)) (.v 3)) .nil)) (.c (.int 60))) (.c (.int 1))) (.cons (.c (.int 1)) .nil))))))) [some (drO row (a + 1)), some (.fz (.int size)), some (mL ms), some (.fz (.int (k : Int))), some (.fz (.int one)), x5, x6, x7] =
      .next [some (drO row (a + 1)), some (.fz (.int size)), some (mL (ms ++ [m])), some (.fz (.int (k : Int))), some (.fz (.int one)), x5, x6, x7] := by
    rw [← app_mL]
    exact exs_app (x := .fz m.t) (v1 := [some (drO row (a + 1)), some (.fz (.int size)), some (mL ms), some (.fz (.int (k : Int))), some (.fz (.int one)), x5, x6, x7]) (os := ms.map fun m => O.fz m.t) rfl (by
      simp only [exss, exs, ev, evs, evv, evI, evc, evo, E.pur, EL.pur, OE.pur, g0, g1, g2, g3, g4, g5, g6, g7, g8, g9, g10, g11, s0, s1, s2, s3, s4, s5, s6, s7, s8, s9, s10, s11, at_fz, at_lst, at_obj, bind_ok, bind_exc, fl_ok, fl_exc, of_some, held_fz, held_tmp, held_vw, held_t, new_fz, new_lst, new_obj, own_fz, own_tmp, fin_fz, fin_tmp, tr_bl, tr_int, tr_non, c_lt, c_le, c_gt, c_ge, c_eqi, c_nei, c_eqs, c_nes, c_is0, c_isi, c_isl, c_isnt0, c_isnti, c_isntl, o_add, o_sub, b_lenl, b_lent, b_lenm, b_lenv, b_int, b_bool, b_tupt, b_tupl, b_tupm, b_listt, b_listl, cf0, cf1, cf2, cf3, cf4, cf5, oc_ok, oc_exc, tb_none, tb_some, tb_nil, Option.map_some, Bool.not_true, Bool.not_false, Bool.and_self, Bool.and_true, Bool.true_and, if_true, List.map_cons, List.map_nil, List.nil_append, List.cons_append, Nat.reduceSub, Nat.sub_self, List.replicate_zero, List.replicate_succ, List.append_nil, fi0, fi1, fi2, fi3, fi4, fi5, it_l, it_t, sl_l, sl_t, wk_l, wk_t, wl_l, wl_t, wk_n, wl_n, bg_n, fin_newL, smull (i := 11) (j := (k : Int)) (by decide), o_mod (show 0 < size by omega), o_mod (show 0 < size - 1 by omega), o_mod (show (0 : Int) < 60 by decide)]
      rfl) rfl rfl (by rw [List.length_map]; have := PySem.sizeLine_eq; omega)
  have o0 : 0 ≤ one := Int.emod_nonneg _ (by omega)
  have o1 : one < size := Int.emod_lt_of_pos _ (by omega)
  have e0 : 1 ≤ ear := by
    show 1 ≤ (11 * (k : Int)) % 60 + 1
    omega
  have e1 : ear ≤ 60 := by
    show (11 * (k : Int)) % 60 + 1 ≤ 60
    omega
  refine ⟨m, some (.fz (.int one)), ⟨o0, o1, Int.emod_nonneg _ (by omega), Int.emod_lt_of_pos _ (by omega), mod_ne hs o0 o1 (Int.emod_nonneg _ (by omega)) (Int.emod_lt_of_pos _ (by omega)), e0, Int.le_refl _, e1, by show (1 : Int) ≤ 1; decide, by show (1 : Int) ≤ _; decide⟩, ?_⟩
  unfold manyB
  rw [ss_next s1, ss_next s2, ss_nil]
theorem pickX {r : Int} (h0 : 0 ≤ r) (h1 : r < 3) : ∃ h : Int, 0 ≤ h ∧ item (newL [.int 0, .int 0, .int 1]) (.fz (.int r)) = some (.fz (.int h)) := by
  rcases (by omega : r = 0 ∨ r = 1 ∨ r = 2) with rfl | rfl | rfl
  · exact ⟨0, by decide, rfl⟩
  · exact ⟨0, by decide, rfl⟩
  · exact ⟨1, by decide, rfl⟩
theorem it_mL {k : Nat} {ms : List M5} {j : Nat} (hj : j < ms.length) : item (.vw k (mL ms)) (.fz (.int (j : Int))) = some (.fz ms[j].t) := by
  have e : (ms.map fun m => O.fz m.t)[j]? = some (.fz ms[j].t) := by rw [List.getElem?_map, List.getElem?_eq_getElem hj]; rfl
  show (nth (ms.map fun m => O.fz m.t) (j : Int)).map (Val.at k) = _
  rw [nth_nat _ _ _ e]
  rfl
theorem lawmany_ok (n : Nat) (row : List Int) (a : Nat) : ∃ size hours ms a', Made size hours ms ∧ callN T (n + 2) 1005 [drO row a] = .ok (madeO size hours ms) [some (drO row a')] := by
  obtain ⟨r1, p1, q1, t1⟩ := take0 n row a 11 (by decide)
  let size : Int := 2 + r1
  obtain ⟨v2, f1, f2⟩ := for_inv (g := .n 3) (body := exss T (callN T (n + 1)) none manyB) (fun rest v => ∃ a' ms x3 x4, v = [some (drO row a'), some (.fz (.int size)), some (mL ms), x3, x4, none, none, none] ∧ (∀ m ∈ ms, m.ok size 60) ∧ ms.length + rest.length = 60 ∧ ∀ d ∈ rest, ∃ j : Nat, j < 60 ∧ d = .int (j : Int))
    (ds := rng 0 ((60 : Nat) : Int)) (v := [some (drO row (a + 1)), some (.fz (.int size)), some (mL []), none, none, none, none, none]) ⟨_, [], none, none, rfl, (fun m h => by cases h), by rw [rng_nat, List.length_map, List.length_range, List.length_nil], fun d hd => rng_ints hd⟩ (by
      rintro d rest v ⟨a', ms, x3, x4, rfl, hok, hlen, hd⟩
      obtain ⟨j, hj, rfl⟩ := hd d List.mem_cons_self
      rw [List.length_cons] at hlen
      obtain ⟨m, y4, hm, e⟩ := many_one n row a' size ms j x4 none none none (by show 2 ≤ 2 + r1; omega) (by omega)
      refine ⟨_, _, rfl, .inl e, a' + 1, ms ++ [m], _, y4, rfl, fun m' h => ?_, by rw [List.length_append, List.length_singleton]; omega, fun d h => hd d (List.mem_cons_of_mem _ h)⟩
      rcases List.mem_append.mp h with h | h
      · exact hok m' h
      · rw [List.mem_singleton.mp h]; exact hm)
  obtain ⟨b, ms, x3, x4, rfl, hok, hlen, _⟩ := f2
  have hlen : ms.length = 60 := hlen
  obtain ⟨r2, p2, q2, t2⟩ := take0 n row b 30 (by decide)
  obtain ⟨r3, p3, q3, t3⟩ := take0 n row (b + 1) 30 (by decide)
  obtain ⟨r4, p4, q4, t4⟩ := take0 n row (b + 1 + 1) 30 (by decide)
  obtain ⟨r5, p5, q5, t5⟩ := take0 n row (b + 1 + 1 + 1) 30 (by decide)
  obtain ⟨r6, p6, q6, t6⟩ := take0 n row (b + 1 + 1 + 1 + 1) 4 (by decide)
  obtain ⟨at_, ha⟩ : ∃ k : Nat, (30 * r2 + r3) % 60 = (k : Int) := ⟨((30 * r2 + r3) % 60).toNat, by omega⟩
  obtain ⟨to, ht⟩ : ∃ k : Nat, (30 * r4 + r5 + 59) % 60 = (k : Int) := ⟨((30 * r4 + r5 + 59) % 60).toNat, by omega⟩
  have hat : at_ < ms.length := by omega
  have hto : to < ms.length := by omega
  have s0 : size = 2 + r1 := rfl
  have sok : 2 ≤ size ∧ size ≤ 12 := by omega
  have s5 : exs T (callN T (n + 1)) none (.asg (.n 5) (.o2 .mod (.bi .int (.cons (.o2 .add (.o2 .mul (.c (.int 30)) (.call 1001 (.ref 0 (.cons (.c (.int 30)) .nil)))) (.call 1001 (.ref 0 (.cons (.c (.int 30)) .nil)))) .nil)) (.c (.int 60)))) [some (drO row b), some (.fz (.int size)), some (mL ms), x3, x4, none, none, none] = .next [some (drO row (b + 1 + 1)), some (.fz (.int size)), some (mL ms), x3, x4, some (.fz (.int (at_ : Int))), none, none] := by
    simp only [exss, exs, ev, evs, evv, evI, evc, evo, E.pur, EL.pur, OE.pur, g0, g1, g2, g3, g4, g5, g6, g7, g8, g9, g10, g11, s0, s1, s2, s3, s4, s5, s6, s7, s8, s9, s10, s11, at_fz, at_lst, at_obj, bind_ok, bind_exc, fl_ok, fl_exc, of_some, held_fz, held_tmp, held_vw, held_t, new_fz, new_lst, new_obj, own_fz, own_tmp, fin_fz, fin_tmp, tr_bl, tr_int, tr_non, c_lt, c_le, c_gt, c_ge, c_eqi, c_nei, c_eqs, c_nes, c_is0, c_isi, c_isl, c_isnt0, c_isnti, c_isntl, o_add, o_sub, b_lenl, b_lent, b_lenm, b_lenv, b_int, b_bool, b_tupt, b_tupl, b_tupm, b_listt, b_listl, cf0, cf1, cf2, cf3, cf4, cf5, oc_ok, oc_exc, tb_none, tb_some, tb_nil, Option.map_some, Bool.not_true, Bool.not_false, Bool.and_self, Bool.and_true, Bool.true_and, if_true, List.map_cons, List.map_nil, List.nil_append, List.cons_append, Nat.reduceSub, Nat.sub_self, List.replicate_zero, List.replicate_succ, List.append_nil, fi0, fi1, fi2, fi3, fi4, fi5, it_l, it_t, sl_l, sl_t, wk_l, wk_t, wl_l, wl_t, wk_n, wl_n, bg_n, fin_newL, t2, t3, smull (i := 30) (j := r2) (by decide), o_mod (show (0 : Int) < 60 by decide), ha]
  have s6 : exs T (callN T (n + 1)) none (.asg (.n 6) (.o2 .mod (.bi .int (.cons (.o2 .add (.o2 .add (.o2 .mul (.c (.int 30)) (.call 1001 (.ref 0 (.cons (.c (.int 30)) .nil)))) (.call 1001 (.ref 0 (.cons (.c (.int 30)) .nil)))) (.c (.int 59))) .nil)) (.c (.int 60)))) [some (drO row (b + 1 + 1)), some (.fz (.int size)), some (mL ms), x3, x4, some (.fz (.int (at_ : Int))), none, none] = .next [some (drO row (b + 1 + 1 + 1 + 1)), some (.fz (.int size)), some (mL ms), x3, x4, some (.fz (.int (at_ : Int))), some (.fz (.int (to : Int))), none] := by
    simp only [exss, exs, ev, evs, evv, evI, evc, evo, E.pur, EL.pur, OE.pur, g0, g1, g2, g3, g4, g5, g6, g7, g8, g9, g10, g11, s0, s1, s2, s3, s4, s5, s6, s7, s8, s9, s10, s11, at_fz, at_lst, at_obj, bind_ok, bind_exc, fl_ok, fl_exc, of_some, held_fz, held_tmp, held_vw, held_t, new_fz, new_lst, new_obj, own_fz, own_tmp, fin_fz, fin_tmp, tr_bl, tr_int, tr_non, c_lt, c_le, c_gt, c_ge, c_eqi, c_nei, c_eqs, c_nes, c_is0, c_isi, c_isl, c_isnt0, c_isnti, c_isntl, o_add, o_sub, b_lenl, b_lent, b_lenm, b_lenv, b_int, b_bool, b_tupt, b_tupl, b_tupm, b_listt, b_listl, cf0, cf1, cf2, cf3, cf4, cf5, oc_ok, oc_exc, tb_none, tb_some, tb_nil, Option.map_some, Bool.not_true, Bool.not_false, Bool.and_self, Bool.and_true, Bool.true_and, if_true, List.map_cons, List.map_nil, List.nil_append, List.cons_append, Nat.reduceSub, Nat.sub_self, List.replicate_zero, List.replicate_succ, List.append_nil, fi0, fi1, fi2, fi3, fi4, fi5, it_l, it_t, sl_l, sl_t, wk_l, wk_t, wl_l, wl_t, wk_n, wl_n, bg_n, fin_newL, t4, t5, smull (i := 30) (j := r4) (by decide), o_mod (show (0 : Int) < 60 by decide), ht]
  obtain ⟨ms2, c, y7, hok2, hlen2, s7⟩ : ∃ ms2 c y7, (∀ m ∈ ms2, m.ok size 60) ∧ ms2.length = 60 ∧ exs T (callN T (n + 1)) none (.ife (.cm .ne (.call 1001 (.ref 0 (.cons (.c (.int 4)) .nil))) (.c (.int 3))) (.cons (.asg (.n 7) (.ix (.ix (.v 2) (.v 6)) (.c (.int 2)))) (.cons (.seti (.v 2) (.v 5) (.tup (.cons (.ix (.ix (.v 2) (.v 5)) (.c (.int 0))) (.cons (.ix (.ix (.v 2) (.v 5)) (.c (.int 1))) (.cons (.v 7) (.cons (.bi .min (.cons (.c (.int 60)) (.cons (.o2 .add (.v 7) (.ix (.lst (.cons (.c (.int 0)) (.cons (.c (.int 0)) (.cons (.c (.int 1)) .nil)))) (.call 1001 (.ref 0 (.cons (.c (.int 3)) .nil))))) .nil))) (.cons (.c (.int 2)) .nil))))))) .nil)) .nil) [some (drO row (b + 1 + 1 + 1 + 1)), some (.fz (.int size)), some (mL ms), x3, x4, some (.fz (.int (at_ : Int))), some (.fz (.int (to : Int))), none] =
      .next [some (drO row c), some (.fz (.int size)), some (mL ms2), x3, x4, some (.fz (.int (at_ : Int))), some (.fz (.int (to : Int))), y7] := by
    by_cases h : r6 = 3
    · have hb : (r6 == 3) = true := by simpa using h
      exact ⟨ms, b + 1 + 1 + 1 + 1 + 1, none, hok, hlen, by simp only [exss, exs, ev, evs, evv, evI, evc, evo, E.pur, EL.pur, OE.pur, g0, g1, g2, g3, g4, g5, g6, g7, g8, g9, g10, g11, s0, s1, s2, s3, s4, s5, s6, s7, s8, s9, s10, s11, at_fz, at_lst, at_obj, bind_ok, bind_exc, fl_ok, fl_exc, of_some, held_fz, held_tmp, held_vw, held_t, new_fz, new_lst, new_obj, own_fz, own_tmp, fin_fz, fin_tmp, tr_bl, tr_int, tr_non, c_lt, c_le, c_gt, c_ge, c_eqi, c_nei, c_eqs, c_nes, c_is0, c_isi, c_isl, c_isnt0, c_isnti, c_isntl, o_add, o_sub, b_lenl, b_lent, b_lenm, b_lenv, b_int, b_bool, b_tupt, b_tupl, b_tupm, b_listt, b_listl, cf0, cf1, cf2, cf3, cf4, cf5, oc_ok, oc_exc, tb_none, tb_some, tb_nil, Option.map_some, Bool.not_true, Bool.not_false, Bool.and_self, Bool.and_true, Bool.true_and, if_true, List.map_cons, List.map_nil, List.nil_append, List.cons_append, Nat.reduceSub, Nat.sub_self, List.replicate_zero, List.replicate_succ, List.append_nil, fi0, fi1, fi2, fi3, fi4, fi5, it_l, it_t, sl_l, sl_t, wk_l, wk_t, wl_l, wl_t, wk_n, wl_n, bg_n, fin_newL, t6, hb]⟩
    · have hb : (r6 == 3) = false := by simpa using h
      obtain ⟨r7, p7, q7, t7⟩ := take0 n row (b + 1 + 1 + 1 + 1 + 1) 3 (by decide)
      obtain ⟨x, x0, i7⟩ := pickX p7 q7
      let hour : Int := ms[to].e
      let m : M5 := ⟨ms[at_].a, ms[at_].b, hour, if hour + x < 60 then hour + x else 60, 2⟩
      have e2 : item (.fz ms[to].t) (.fz (.int 2)) = some (.fz (.int hour)) := rfl
      have ea : item (.fz ms[at_].t) (.fz (.int 0)) = some (.fz (.int ms[at_].a)) := rfl
      have eb : item (.fz ms[at_].t) (.fz (.int 1)) = some (.fz (.int ms[at_].b)) := rfl
      have atm : ∀ (k : Nat) (ms : List M5), Val.at k (mL ms) = .vw k (mL ms) := fun _ _ => rfl
      have u1 : exs T (callN T (n + 1)) none (.asg (.n 7) (.ix (.ix (.v 2) (.v 6)) (.c (.int 2)))) [some (drO row (b + 1 + 1 + 1 + 1 + 1)), some (.fz (.int size)), some (mL ms), x3, x4, some (.fz (.int (at_ : Int))), some (.fz (.int (to : Int))), none] = .next [some (drO row (b + 1 + 1 + 1 + 1 + 1)), some (.fz (.int size)), some (mL ms), x3, x4, some (.fz (.int (at_ : Int))), some (.fz (.int (to : Int))), some (.fz (.int hour))] := by
        simp only [exss, exs, ev, evs, evv, evI, evc, evo, E.pur, EL.pur, OE.pur, g0, g1, g2, g3, g4, g5, g6, g7, g8, g9, g10, g11, s0, s1, s2, s3, s4, s5, s6, s7, s8, s9, s10, s11, at_fz, at_lst, at_obj, bind_ok, bind_exc, fl_ok, fl_exc, of_some, held_fz, held_tmp, held_vw, held_t, new_fz, new_lst, new_obj, own_fz, own_tmp, fin_fz, fin_tmp, tr_bl, tr_int, tr_non, c_lt, c_le, c_gt, c_ge, c_eqi, c_nei, c_eqs, c_nes, c_is0, c_isi, c_isl, c_isnt0, c_isnti, c_isntl, o_add, o_sub, b_lenl, b_lent, b_lenm, b_lenv, b_int, b_bool, b_tupt, b_tupl, b_tupm, b_listt, b_listl, cf0, cf1, cf2, cf3, cf4, cf5, oc_ok, oc_exc, tb_none, tb_some, tb_nil, Option.map_some, Bool.not_true, Bool.not_false, Bool.and_self, Bool.and_true, Bool.true_and, if_true, List.map_cons, List.map_nil, List.nil_append, List.cons_append, Nat.reduceSub, Nat.sub_self, List.replicate_zero, List.replicate_succ, List.append_nil, fi0, fi1, fi2, fi3, fi4, fi5, it_l, it_t, sl_l, sl_t, wk_l, wk_t, wl_l, wl_t, wk_n, wl_n, bg_n, fin_newL, atm, it_mL hto, e2]
      have u2 : exs T (callN T (n + 1)) none (.seti (.v 2) (.v 5) (.tup (.cons (.ix (.ix (.v 2) (.v 5)) (.c (.int 0))) (.cons (.ix (.ix (.v 2) (.v 5)) (.c (.int 1))) (.cons (.v 7) (.cons (.bi .min (.cons (.c (.int 60)) (.cons (.o2 .add (.v 7) (.ix (.lst (.cons (.c (.int 0)) (.cons (.c (.int 0)) (.cons (.c (.int 1)) .nil)))) (.call 1001 (.ref 0 (.cons (.c (.int 3)) .nil))))) .nil))) (.cons (.c (.int 2)) .nil))))))) [some (drO row (b + 1 + 1 + 1 + 1 + 1)), some (.fz (.int size)), some (mL ms), x3, x4, some (.fz (.int (at_ : Int))), some (.fz (.int (to : Int))), some (.fz (.int hour))] = .next [some (drO row (b + 1 + 1 + 1 + 1 + 1 + 1)), some (.fz (.int size)), some (mL (ms.set at_ m)), x3, x4, some (.fz (.int (at_ : Int))), some (.fz (.int (to : Int))), some (.fz (.int hour))] := by
        have e := exs_seti (T := T) (P := callN T (n + 1)) (X := none) (k := 2) (j := at_) (i := .v 5) (n := (at_ : Int)) (os := ms.map fun m => O.fz m.t) (o := .fz m.t) (x := .fz m.t) (v := [some (drO row (b + 1 + 1 + 1 + 1 + 1)), some (.fz (.int size)), some (mL ms), x3, x4, some (.fz (.int (at_ : Int))), some (.fz (.int (to : Int))), some (.fz (.int hour))]) (v1 := [some (drO row (b + 1 + 1 + 1 + 1 + 1 + 1)), some (.fz (.int size)), some (mL ms), x3, x4, some (.fz (.int (at_ : Int))), some (.fz (.int (to : Int))), some (.fz (.int hour))])
          (e := (.tup (.cons (.ix (.ix (.v 2) (.v 5)) (.c (.int 0))) (.cons (.ix (.ix (.v 2) (.v 5)) (.c (.int 1))) (.cons (.v 7) (.cons (.bi .min (.cons (.c (.int 60)) (.cons (.o2 .add (.v 7) (.ix (.lst (.cons (.c (.int 0)) (.cons (.c (.int 0)) (.cons (.c (.int 1)) .nil)))) (.call 1001 (.ref 0 (.cons (.c (.int 3)) .nil))))) .nil))) (.cons (.c (.int 2)) .nil)))))))
          (by
            simp only [exss, exs, ev, evs, evv, evI, evc, evo, E.pur, EL.pur, OE.pur, g0, g1, g2, g3, g4, g5, g6, g7, g8, g9, g10, g11, s0, s1, s2, s3, s4, s5, s6, s7, s8, s9, s10, s11, at_fz, at_lst, at_obj, bind_ok, bind_exc, fl_ok, fl_exc, of_some, held_fz, held_tmp, held_vw, held_t, new_fz, new_lst, new_obj, own_fz, own_tmp, fin_fz, fin_tmp, tr_bl, tr_int, tr_non, c_lt, c_le, c_gt, c_ge, c_eqi, c_nei, c_eqs, c_nes, c_is0, c_isi, c_isl, c_isnt0, c_isnti, c_isntl, o_add, o_sub, b_lenl, b_lent, b_lenm, b_lenv, b_int, b_bool, b_tupt, b_tupl, b_tupm, b_listt, b_listl, cf0, cf1, cf2, cf3, cf4, cf5, oc_ok, oc_exc, tb_none, tb_some, tb_nil, Option.map_some, Bool.not_true, Bool.not_false, Bool.and_self, Bool.and_true, Bool.true_and, if_true, List.map_cons, List.map_nil, List.nil_append, List.cons_append, Nat.reduceSub, Nat.sub_self, List.replicate_zero, List.replicate_succ, List.append_nil, fi0, fi1, fi2, fi3, fi4, fi5, it_l, it_t, sl_l, sl_t, wk_l, wk_t, wl_l, wl_t, wk_n, wl_n, bg_n, fin_newL, held_n, atm, it_mL hat, ea, eb, t7, i7, o_min]
            rfl) rfl rfl rfl (by simp only [exss, exs, ev, evs, evv, evI, evc, evo, E.pur, EL.pur, OE.pur, g0, g1, g2, g3, g4, g5, g6, g7, g8, g9, g10, g11, s0, s1, s2, s3, s4, s5, s6, s7, s8, s9, s10, s11, at_fz, at_lst, at_obj, bind_ok, bind_exc, fl_ok, fl_exc, of_some, held_fz, held_tmp, held_vw, held_t, new_fz, new_lst, new_obj, own_fz, own_tmp, fin_fz, fin_tmp, tr_bl, tr_int, tr_non, c_lt, c_le, c_gt, c_ge, c_eqi, c_nei, c_eqs, c_nes, c_is0, c_isi, c_isl, c_isnt0, c_isnti, c_isntl, o_add, o_sub, b_lenl, b_lent, b_lenm, b_lenv, b_int, b_bool, b_tupt, b_tupl, b_tupm, b_listt, b_listl, cf0, cf1, cf2, cf3, cf4, cf5, oc_ok, oc_exc, tb_none, tb_some, tb_nil, Option.map_some, Bool.not_true, Bool.not_false, Bool.and_self, Bool.and_true, Bool.true_and, if_true, List.map_cons, List.map_nil, List.nil_append, List.cons_append, Nat.reduceSub, Nat.sub_self, List.replicate_zero, List.replicate_succ, List.append_nil, fi0, fi1, fi2, fi3, fi4, fi5, it_l, it_t, sl_l, sl_t, wk_l, wk_t, wl_l, wl_t, wk_n, wl_n, bg_n, fin_newL]) (ixn_nat (by rw [List.length_map]; exact hat))
        have es : O.lst ((ms.map fun m => O.fz m.t).set at_ (.fz m.t)) = mL (ms.set at_ m) := by
          unfold mL
          rw [List.map_set]
        rw [es] at e
        exact e
      have h1 := hok ms[to] (List.getElem_mem hto)
      have h2 := hok ms[at_] (List.getElem_mem hat)
      have hm : m.ok size 60 := by
        refine ⟨h2.a0, h2.a1, h2.b0, h2.b1, h2.ne, h1.e0, ?_, ?_, by show (1 : Int) ≤ 2; decide, by show (2 : Int) ≤ _; decide⟩
        · show hour ≤ if hour + x < 60 then hour + x else 60
          have := h1.el
          have := h1.l1
          have : hour = ms[to].e := rfl
          split <;> omega
        · show (if hour + x < 60 then hour + x else 60) ≤ 60
          split <;> omega
      refine ⟨ms.set at_ m, b + 1 + 1 + 1 + 1 + 1 + 1, some (.fz (.int hour)), fun m' hm' => ?_, by rw [List.length_set]; exact hlen, ?_⟩
      · rcases List.mem_or_eq_of_mem_set hm' with h | rfl
        · exact hok m' h
        · exact hm
      · refine exs_if1 (x := .fz (.bl true)) (v1 := [some (drO row (b + 1 + 1 + 1 + 1 + 1)), some (.fz (.int size)), some (mL ms), x3, x4, some (.fz (.int (at_ : Int))), some (.fz (.int (to : Int))), none]) (by simp only [exss, exs, ev, evs, evv, evI, evc, evo, E.pur, EL.pur, OE.pur, g0, g1, g2, g3, g4, g5, g6, g7, g8, g9, g10, g11, s0, s1, s2, s3, s4, s5, s6, s7, s8, s9, s10, s11, at_fz, at_lst, at_obj, bind_ok, bind_exc, fl_ok, fl_exc, of_some, held_fz, held_tmp, held_vw, held_t, new_fz, new_lst, new_obj, own_fz, own_tmp, fin_fz, fin_tmp, tr_bl, tr_int, tr_non, c_lt, c_le, c_gt, c_ge, c_eqi, c_nei, c_eqs, c_nes, c_is0, c_isi, c_isl, c_isnt0, c_isnti, c_isntl, o_add, o_sub, b_lenl, b_lent, b_lenm, b_lenv, b_int, b_bool, b_tupt, b_tupl, b_tupm, b_listt, b_listl, cf0, cf1, cf2, cf3, cf4, cf5, oc_ok, oc_exc, tb_none, tb_some, tb_nil, Option.map_some, Bool.not_true, Bool.not_false, Bool.and_self, Bool.and_true, Bool.true_and, if_true, List.map_cons, List.map_nil, List.nil_append, List.cons_append, Nat.reduceSub, Nat.sub_self, List.replicate_zero, List.replicate_succ, List.append_nil, fi0, fi1, fi2, fi3, fi4, fi5, it_l, it_t, sl_l, sl_t, wk_l, wk_t, wl_l, wl_t, wk_n, wl_n, bg_n, fin_newL, t6, hb]) rfl ?_
        rw [ss_next u1, ss_next u2, ss_nil]
  refine ⟨size, 60, ms2, c, ⟨sok.1, sok.2, by decide, by decide, hok2, by omega⟩, ?_⟩
  refine call_body T1005 rfl (v := [some (drO row a), none, none, none, none, none, none, none]) rfl ?_
  refine run_next (v1 := [some (drO row (a + 1)), some (.fz (.int size)), none, none, none, none, none, none]) ?_ ?_
  · simp only [exss, exs, ev, evs, evv, evI, evc, evo, E.pur, EL.pur, OE.pur, g0, g1, g2, g3, g4, g5, g6, g7, g8, g9, g10, g11, s0, s1, s2, s3, s4, s5, s6, s7, s8, s9, s10, s11, at_fz, at_lst, at_obj, bind_ok, bind_exc, fl_ok, fl_exc, of_some, held_fz, held_tmp, held_vw, held_t, new_fz, new_lst, new_obj, own_fz, own_tmp, fin_fz, fin_tmp, tr_bl, tr_int, tr_non, c_lt, c_le, c_gt, c_ge, c_eqi, c_nei, c_eqs, c_nes, c_is0, c_isi, c_isl, c_isnt0, c_isnti, c_isntl, o_add, o_sub, b_lenl, b_lent, b_lenm, b_lenv, b_int, b_bool, b_tupt, b_tupl, b_tupm, b_listt, b_listl, cf0, cf1, cf2, cf3, cf4, cf5, oc_ok, oc_exc, tb_none, tb_some, tb_nil, Option.map_some, Bool.not_true, Bool.not_false, Bool.and_self, Bool.and_true, Bool.true_and, if_true, List.map_cons, List.map_nil, List.nil_append, List.cons_append, Nat.reduceSub, Nat.sub_self, List.replicate_zero, List.replicate_succ, List.append_nil, fi0, fi1, fi2, fi3, fi4, fi5, it_l, it_t, sl_l, sl_t, wk_l, wk_t, wl_l, wl_t, wk_n, wl_n, bg_n, fin_newL, t1, s0]
  refine run_next (v1 := [some (drO row (a + 1)), some (.fz (.int size)), some (mL []), none, none, none, none, none]) rfl ?_
  refine run_next (exs_for (ev_rng1 (i := 60) (by simp only [exss, exs, ev, evs, evv, evI, evc, evo, E.pur, EL.pur, OE.pur, g0, g1, g2, g3, g4, g5, g6, g7, g8, g9, g10, g11, s0, s1, s2, s3, s4, s5, s6, s7, s8, s9, s10, s11, at_fz, at_lst, at_obj, bind_ok, bind_exc, fl_ok, fl_exc, of_some, held_fz, held_tmp, held_vw, held_t, new_fz, new_lst, new_obj, own_fz, own_tmp, fin_fz, fin_tmp, tr_bl, tr_int, tr_non, c_lt, c_le, c_gt, c_ge, c_eqi, c_nei, c_eqs, c_nes, c_is0, c_isi, c_isl, c_isnt0, c_isnti, c_isntl, o_add, o_sub, b_lenl, b_lent, b_lenm, b_lenv, b_int, b_bool, b_tupt, b_tupl, b_tupm, b_listt, b_listl, cf0, cf1, cf2, cf3, cf4, cf5, oc_ok, oc_exc, tb_none, tb_some, tb_nil, Option.map_some, Bool.not_true, Bool.not_false, Bool.and_self, Bool.and_true, Bool.true_and, if_true, List.map_cons, List.map_nil, List.nil_append, List.cons_append, Nat.reduceSub, Nat.sub_self, List.replicate_zero, List.replicate_succ, List.append_nil, fi0, fi1, fi2, fi3, fi4, fi5, it_l, it_t, sl_l, sl_t, wk_l, wk_t, wl_l, wl_t, wk_n, wl_n, bg_n, fin_newL]) (by decide)) f1) ?_
  refine run_next s5 (run_next s6 (run_next s7 ?_))
  refine run_next (v1 := [some (drO row c), some (.fz (.int size)), some (mL ms2), x3, x4, some (.fz (.int (at_ : Int))), some (.fz (.int (to : Int))), y7]) rfl ?_
  refine run_next (v1 := [some (drO row c), some (.fz (.int size)), some (.fz (.lst (ms2.map M5.t))), x3, x4, some (.fz (.int (at_ : Int))), some (.fz (.int (to : Int))), y7]) ?_ ?_
  · rw [← mL_frz]
    exact exs_frz rfl
  rfl
end Pv.Pl

set_option Elab.async false
set_option linter.all false
set_option maxRecDepth 100000
/-! P11: where they clash. -/
namespace Pv.Pl
open PySem

def clB : SL := .cons (.ife (.ta (.cm .eq (.ix (.v 3) (.c (.int 2))) (.ix (.v 2) (.c (.int 2)))) (.to (.cm .inn (.ix (.v 3) (.c (.int 0))) (.sl (.v 2) .no (.yes (.c (.int 2))))) (.cm .inn (.ix (.v 3) (.c (.int 1))) (.sl (.v 2) .no (.yes (.c (.int 2))))))) (.cons (.ret (.v 1)) .nil) .nil) .nil
def clO : SL := .cons (.asg (.n 2) (.ix (.v 0) (.v 1))) (.cons (.ife (.cm .lt (.ix (.v 2) (.c (.int 2))) (.ix (.v 2) (.c (.int 3)))) (.cons (.ret (.v 1)) .nil) .nil) (.cons (.fr (.n 3) (.seq (.sl (.v 0) .no (.yes (.v 1)))) clB) .nil))
abbrev rows (ms : List M5) : O := .fz (.lst (ms.map M5.t))
theorem cl_cond (P : Fn) (x0 x1 : Option O) (m o : M5) : ev T P none (.ta (.cm .eq (.ix (.v 3) (.c (.int 2))) (.ix (.v 2) (.c (.int 2)))) (.to (.cm .inn (.ix (.v 3) (.c (.int 0))) (.sl (.v 2) .no (.yes (.c (.int 2))))) (.cm .inn (.ix (.v 3) (.c (.int 1))) (.sl (.v 2) .no (.yes (.c (.int 2))))))) [x0, x1, some (.fz m.t), some (.fz o.t)] = .ok (.fz (.bl (clash m o))) [x0, x1, some (.fz m.t), some (.fz o.t)] := by
  have i0 : item (.fz o.t) (.fz (.int 0)) = some (.fz (.int o.a)) := rfl
  have i1 : item (.fz o.t) (.fz (.int 1)) = some (.fz (.int o.b)) := rfl
  have i2 : item (.fz o.t) (.fz (.int 2)) = some (.fz (.int o.e)) := rfl
  have i3 : item (.fz m.t) (.fz (.int 2)) = some (.fz (.int m.e)) := rfl
  have s2 : slice (.fz m.t) none (some 2) = some (.fz (.tup [.int m.a, .int m.b])) := rfl
  simp only [exss, exs, ev, evs, evv, evI, evc, evo, E.pur, EL.pur, OE.pur, g0, g1, g2, g3, g4, g5, g6, g7, g8, g9, g10, g11, s0, s1, s2, s3, s4, s5, s6, s7, s8, s9, s10, s11, at_fz, at_lst, at_obj, bind_ok, bind_exc, fl_ok, fl_exc, of_some, held_fz, held_tmp, held_vw, held_t, new_fz, new_lst, new_obj, own_fz, own_tmp, fin_fz, fin_tmp, tr_bl, tr_int, tr_non, c_lt, c_le, c_gt, c_ge, c_eqi, c_nei, c_eqs, c_nes, c_is0, c_isi, c_isl, c_isnt0, c_isnti, c_isntl, o_add, o_sub, b_lenl, b_lent, b_lenm, b_lenv, b_int, b_bool, b_tupt, b_tupl, b_tupm, b_listt, b_listl, cf0, cf1, cf2, cf3, cf4, cf5, oc_ok, oc_exc, tb_none, tb_some, tb_nil, Option.map_some, Bool.not_true, Bool.not_false, Bool.and_self, Bool.and_true, Bool.true_and, if_true, List.map_cons, List.map_nil, List.nil_append, List.cons_append, Nat.reduceSub, Nat.sub_self, List.replicate_zero, List.replicate_succ, List.append_nil, fi0, fi1, fi2, fi3, fi4, fi5, it_l, it_t, sl_l, sl_t, wk_l, wk_t, wl_l, wl_t, wk_n, wl_n, bg_n, fin_newL, i0, i1, i2, i3, s2, in2]
  unfold clash
  cases o.e == m.e <;> cases m.a == o.a <;> cases m.b == o.a <;> cases m.a == o.b <;> cases m.b == o.b <;> rfl
theorem cl_inner (P : Fn) (x0 : Option O) (k : Nat) (m : M5) : ∀ (ms : List M5) (x3 : Option O),
    (ms.any (clash m) = false → ∃ y, forLoop (.n 3) (exss T P none clB) (ms.map M5.t) [x0, some (.fz (.int (k : Int))), some (.fz m.t), x3] = .next [x0, some (.fz (.int (k : Int))), some (.fz m.t), y]) ∧
    (ms.any (clash m) = true → ∃ y, forLoop (.n 3) (exss T P none clB) (ms.map M5.t) [x0, some (.fz (.int (k : Int))), some (.fz m.t), x3] = .ret (.fz (.int (k : Int))) [x0, some (.fz (.int (k : Int))), some (.fz m.t), y])
  | [], x3 => ⟨fun _ => ⟨x3, rfl⟩, fun z => by cases z⟩
  | o :: ms, x3 => by
    have c := cl_cond P x0 (some (.fz (.int (k : Int)))) m o
    obtain ⟨i1, i2⟩ := cl_inner P x0 k m ms (some (.fz o.t))
    cases q : clash m o with
    | false =>
      rw [q] at c
      have b : exss T P none clB [x0, some (.fz (.int (k : Int))), some (.fz m.t), some (.fz o.t)] = .next [x0, some (.fz (.int (k : Int))), some (.fz m.t), some (.fz o.t)] := by
        unfold clB
        rw [ss_next (exs_if0 c rfl ss_nil), ss_nil]
      refine ⟨fun z => ?_, fun z => ?_⟩
      · obtain ⟨y, e⟩ := i1 (by simpa [q] using z)
        exact ⟨y, by simp only [List.map_cons, forLoop, bg_n, s3, b, e]⟩
      · obtain ⟨y, e⟩ := i2 (by simpa [q] using z)
        exact ⟨y, by simp only [List.map_cons, forLoop, bg_n, s3, b, e]⟩
    | true =>
      rw [q] at c
      have b : exss T P none clB [x0, some (.fz (.int (k : Int))), some (.fz m.t), some (.fz o.t)] = .ret (.fz (.int (k : Int))) [x0, some (.fz (.int (k : Int))), some (.fz m.t), some (.fz o.t)] := by
        have r : exs T P none (.ife (.ta (.cm .eq (.ix (.v 3) (.c (.int 2))) (.ix (.v 2) (.c (.int 2)))) (.to (.cm .inn (.ix (.v 3) (.c (.int 0))) (.sl (.v 2) .no (.yes (.c (.int 2))))) (.cm .inn (.ix (.v 3) (.c (.int 1))) (.sl (.v 2) .no (.yes (.c (.int 2))))))) (.cons (.ret (.v 1)) .nil) .nil) [x0, some (.fz (.int (k : Int))), some (.fz m.t), some (.fz o.t)] = .ret (.fz (.int (k : Int))) [x0, some (.fz (.int (k : Int))), some (.fz m.t), some (.fz o.t)] := exs_if1 c rfl rfl
        unfold clB
        simp only [exss, r]
      refine ⟨fun z => ?_, fun _ => ⟨some (.fz o.t), by simp only [List.map_cons, forLoop, bg_n, s3, b]⟩⟩
      rw [List.any_cons, q] at z
      cases z
theorem cl_body (P : Fn) (k : Nat) (ms : List M5) (hk : k < ms.length) (x2 x3 : Option O) :
    (bad ms k = false → ∃ y2 y3, exss T P none clO [some (rows ms), some (.fz (.int (k : Int))), x2, x3] = .next [some (rows ms), some (.fz (.int (k : Int))), y2, y3]) ∧
    (bad ms k = true → ∃ y2 y3, exss T P none clO [some (rows ms), some (.fz (.int (k : Int))), x2, x3] = .ret (.fz (.int (k : Int))) [some (rows ms), some (.fz (.int (k : Int))), y2, y3]) := by
  have hm : ms[k]? = some ms[k] := List.getElem?_eq_getElem hk
  generalize hme : ms[k] = m at hm
  have hr : (ms.map M5.t)[k]? = some m.t := by rw [List.getElem?_map, hm]; rfl
  have s1 : exs T P none (.asg (.n 2) (.ix (.v 0) (.v 1))) [some (rows ms), some (.fz (.int (k : Int))), x2, x3] = .next [some (rows ms), some (.fz (.int (k : Int))), some (.fz m.t), x3] := by
    simp only [exss, exs, ev, evs, evv, evI, evc, evo, E.pur, EL.pur, OE.pur, g0, g1, g2, g3, g4, g5, g6, g7, g8, g9, g10, g11, s0, s1, s2, s3, s4, s5, s6, s7, s8, s9, s10, s11, at_fz, at_lst, at_obj, bind_ok, bind_exc, fl_ok, fl_exc, of_some, held_fz, held_tmp, held_vw, held_t, new_fz, new_lst, new_obj, own_fz, own_tmp, fin_fz, fin_tmp, tr_bl, tr_int, tr_non, c_lt, c_le, c_gt, c_ge, c_eqi, c_nei, c_eqs, c_nes, c_is0, c_isi, c_isl, c_isnt0, c_isnti, c_isntl, o_add, o_sub, b_lenl, b_lent, b_lenm, b_lenv, b_int, b_bool, b_tupt, b_tupl, b_tupm, b_listt, b_listl, cf0, cf1, cf2, cf3, cf4, cf5, oc_ok, oc_exc, tb_none, tb_some, tb_nil, Option.map_some, Bool.not_true, Bool.not_false, Bool.and_self, Bool.and_true, Bool.true_and, if_true, List.map_cons, List.map_nil, List.nil_append, List.cons_append, Nat.reduceSub, Nat.sub_self, List.replicate_zero, List.replicate_succ, List.append_nil, fi0, fi1, fi2, fi3, fi4, fi5, it_l, it_t, sl_l, sl_t, wk_l, wk_t, wl_l, wl_t, wk_n, wl_n, bg_n, fin_newL, nth_nat _ _ _ hr]
  have i2 : item (.fz m.t) (.fz (.int 2)) = some (.fz (.int m.e)) := rfl
  have i3 : item (.fz m.t) (.fz (.int 3)) = some (.fz (.int m.l)) := rfl
  have c : ev T P none (.cm .lt (.ix (.v 2) (.c (.int 2))) (.ix (.v 2) (.c (.int 3)))) [some (rows ms), some (.fz (.int (k : Int))), some (.fz m.t), x3] = .ok (.fz (.bl (decide (m.e < m.l)))) [some (rows ms), some (.fz (.int (k : Int))), some (.fz m.t), x3] := by
    simp only [exss, exs, ev, evs, evv, evI, evc, evo, E.pur, EL.pur, OE.pur, g0, g1, g2, g3, g4, g5, g6, g7, g8, g9, g10, g11, s0, s1, s2, s3, s4, s5, s6, s7, s8, s9, s10, s11, at_fz, at_lst, at_obj, bind_ok, bind_exc, fl_ok, fl_exc, of_some, held_fz, held_tmp, held_vw, held_t, new_fz, new_lst, new_obj, own_fz, own_tmp, fin_fz, fin_tmp, tr_bl, tr_int, tr_non, c_lt, c_le, c_gt, c_ge, c_eqi, c_nei, c_eqs, c_nes, c_is0, c_isi, c_isl, c_isnt0, c_isnti, c_isntl, o_add, o_sub, b_lenl, b_lent, b_lenm, b_lenv, b_int, b_bool, b_tupt, b_tupl, b_tupm, b_listt, b_listl, cf0, cf1, cf2, cf3, cf4, cf5, oc_ok, oc_exc, tb_none, tb_some, tb_nil, Option.map_some, Bool.not_true, Bool.not_false, Bool.and_self, Bool.and_true, Bool.true_and, if_true, List.map_cons, List.map_nil, List.nil_append, List.cons_append, Nat.reduceSub, Nat.sub_self, List.replicate_zero, List.replicate_succ, List.append_nil, fi0, fi1, fi2, fi3, fi4, fi5, it_l, it_t, sl_l, sl_t, wk_l, wk_t, wl_l, wl_t, wk_n, wl_n, bg_n, fin_newL, i2, i3]
  have it : evI T P none (.seq (.sl (.v 0) .no (.yes (.v 1)))) [some (rows ms), some (.fz (.int (k : Int))), some (.fz m.t), x3] = .ok ((ms.take k).map M5.t) [some (rows ms), some (.fz (.int (k : Int))), some (.fz m.t), x3] := by
    simp only [exss, exs, ev, evs, evv, evI, evc, evo, E.pur, EL.pur, OE.pur, g0, g1, g2, g3, g4, g5, g6, g7, g8, g9, g10, g11, s0, s1, s2, s3, s4, s5, s6, s7, s8, s9, s10, s11, at_fz, at_lst, at_obj, bind_ok, bind_exc, fl_ok, fl_exc, of_some, held_fz, held_tmp, held_vw, held_t, new_fz, new_lst, new_obj, own_fz, own_tmp, fin_fz, fin_tmp, tr_bl, tr_int, tr_non, c_lt, c_le, c_gt, c_ge, c_eqi, c_nei, c_eqs, c_nes, c_is0, c_isi, c_isl, c_isnt0, c_isnti, c_isntl, o_add, o_sub, b_lenl, b_lent, b_lenm, b_lenv, b_int, b_bool, b_tupt, b_tupl, b_tupm, b_listt, b_listl, cf0, cf1, cf2, cf3, cf4, cf5, oc_ok, oc_exc, tb_none, tb_some, tb_nil, Option.map_some, Bool.not_true, Bool.not_false, Bool.and_self, Bool.and_true, Bool.true_and, if_true, List.map_cons, List.map_nil, List.nil_append, List.cons_append, Nat.reduceSub, Nat.sub_self, List.replicate_zero, List.replicate_succ, List.append_nil, fi0, fi1, fi2, fi3, fi4, fi5, it_l, it_t, sl_l, sl_t, wk_l, wk_t, wl_l, wl_t, wk_n, wl_n, bg_n, fin_newL, cut_take, List.map_take]
  obtain ⟨l1, l2⟩ := cl_inner P (some (rows ms)) k m (ms.take k) x3
  have hbad : bad ms k = (decide (m.e < m.l) || (ms.take k).any (clash m)) := by
    unfold bad
    rw [hm]
  rw [hbad]
  cases q : decide (m.e < m.l) with
  | true =>
    rw [q] at c
    refine ⟨(fun z => by cases z), fun _ => ⟨some (.fz m.t), x3, ?_⟩⟩
    have r : exs T P none (.ife (.cm .lt (.ix (.v 2) (.c (.int 2))) (.ix (.v 2) (.c (.int 3)))) (.cons (.ret (.v 1)) .nil) .nil) [some (rows ms), some (.fz (.int (k : Int))), some (.fz m.t), x3] = .ret (.fz (.int (k : Int))) [some (rows ms), some (.fz (.int (k : Int))), some (.fz m.t), x3] := exs_if1 c rfl rfl
    unfold clO
    rw [ss_next s1]
    simp only [exss, r]
  | false =>
    rw [q] at c
    refine ⟨fun z => ?_, fun z => ?_⟩
    · obtain ⟨y, e⟩ := l1 (by simpa using z)
      refine ⟨some (.fz m.t), y, ?_⟩
      unfold clO
      rw [ss_next s1, ss_next (exs_if0 c rfl ss_nil), ss_next (exs_for it e), ss_nil]
    · obtain ⟨y, e⟩ := l2 (by simpa using z)
      refine ⟨some (.fz m.t), y, ?_⟩
      unfold clO
      rw [ss_next s1, ss_next (exs_if0 c rfl ss_nil)]
      have r := exs_for it e
      simp only [exss, r]
theorem cl_all (P : Fn) (ms : List M5) : ∀ (c j : Nat) (x1 x2 x3 : Option O), j + c = ms.length → (∀ i, j ≤ i → i < j + c → bad ms i = false) → ∃ y1 y2 y3, forLoop (.n 1) (exss T P none clO) ((List.range' j c).map fun (i : Nat) => D.int (i : Int)) [some (rows ms), x1, x2, x3] = .next [some (rows ms), y1, y2, y3]
  | 0, j, x1, x2, x3, _, _ => ⟨x1, x2, x3, rfl⟩
  | c + 1, j, x1, x2, x3, hl, hb => by
    obtain ⟨z2, z3, b1⟩ := (cl_body P j ms (by omega) x2 x3).1 (hb j (by omega) (by omega))
    obtain ⟨y1, y2, y3, e⟩ := cl_all P ms c (j + 1) (some (.fz (.int (j : Int)))) z2 z3 (by omega) fun i h1 h2 => hb i (by omega) (by omega)
    refine ⟨y1, y2, y3, ?_⟩
    rw [List.range'_succ, List.map_cons]
    simp only [forLoop, bg_n, s1, b1, e]
theorem cl_stop (P : Fn) (ms : List M5) (k : Nat) (hk : k < ms.length) (hbk : bad ms k = true) : ∀ (c j : Nat) (x1 x2 x3 : Option O), j + c = ms.length → j ≤ k → (∀ i, j ≤ i → i < k → bad ms i = false) → ∃ y1 y2 y3, forLoop (.n 1) (exss T P none clO) ((List.range' j c).map fun (i : Nat) => D.int (i : Int)) [some (rows ms), x1, x2, x3] = .ret (.fz (.int (k : Int))) [some (rows ms), y1, y2, y3]
  | 0, j, x1, x2, x3, hl, hjk, hb => absurd hk (by omega)
  | c + 1, j, x1, x2, x3, hl, hjk, hb => by
    rw [List.range'_succ, List.map_cons]
    by_cases hjk2 : j = k
    · subst hjk2
      obtain ⟨z2, z3, b1⟩ := (cl_body P j ms (by omega) x2 x3).2 hbk
      exact ⟨some (.fz (.int (j : Int))), z2, z3, by simp only [forLoop, bg_n, s1, b1]⟩
    · obtain ⟨z2, z3, b1⟩ := (cl_body P j ms (by omega) x2 x3).1 (hb j (by omega) (by omega))
      obtain ⟨y1, y2, y3, e⟩ := cl_stop P ms k hk hbk c (j + 1) (some (.fz (.int (j : Int)))) z2 z3 (by omega) (by omega) fun i h1 h2 => hb i (by omega) h2
      exact ⟨y1, y2, y3, by simp only [forLoop, bg_n, s1, b1, e]⟩
theorem cl_it (P : Fn) (ms : List M5) (hl : ms.length ≤ 60) : evI T P none (.rng1 (.bi .len (.cons (.v 0) .nil))) [some (rows ms), none, none, none] = .ok ((List.range' 0 ms.length).map fun (i : Nat) => D.int (i : Int)) [some (rows ms), none, none, none] := by
  rw [← List.range_eq_range', ← rng_nat]
  exact ev_rng1 (by simp only [exss, exs, ev, evs, evv, evI, evc, evo, E.pur, EL.pur, OE.pur, g0, g1, g2, g3, g4, g5, g6, g7, g8, g9, g10, g11, s0, s1, s2, s3, s4, s5, s6, s7, s8, s9, s10, s11, at_fz, at_lst, at_obj, bind_ok, bind_exc, fl_ok, fl_exc, of_some, held_fz, held_tmp, held_vw, held_t, new_fz, new_lst, new_obj, own_fz, own_tmp, fin_fz, fin_tmp, tr_bl, tr_int, tr_non, c_lt, c_le, c_gt, c_ge, c_eqi, c_nei, c_eqs, c_nes, c_is0, c_isi, c_isl, c_isnt0, c_isnti, c_isntl, o_add, o_sub, b_lenl, b_lent, b_lenm, b_lenv, b_int, b_bool, b_tupt, b_tupl, b_tupm, b_listt, b_listl, cf0, cf1, cf2, cf3, cf4, cf5, oc_ok, oc_exc, tb_none, tb_some, tb_nil, Option.map_some, Bool.not_true, Bool.not_false, Bool.and_self, Bool.and_true, Bool.true_and, if_true, List.map_cons, List.map_nil, List.nil_append, List.cons_append, Nat.reduceSub, Nat.sub_self, List.replicate_zero, List.replicate_succ, List.append_nil, fi0, fi1, fi2, fi3, fi4, fi5, it_l, it_t, sl_l, sl_t, wk_l, wk_t, wl_l, wl_t, wk_n, wl_n, bg_n, fin_newL, List.length_map]) (inR (by omega) (by omega))
theorem clash_non (n : Nat) (ms : List M5) (hl : ms.length ≤ 60) (hb : ∀ i < ms.length, bad ms i = false) : callN T (n + 1) 1006 [rows ms] = .ok (.fz .non) [some (rows ms)] := by
  obtain ⟨y1, y2, y3, e⟩ := cl_all (callN T n) ms ms.length 0 none none none (by omega) fun i _ h => hb i (by omega)
  refine call_body T1006 rfl (v := [some (rows ms), none, none, none]) rfl (run_next (exs_for (cl_it _ ms hl) e) ?_)
  rfl
theorem clash_at (n : Nat) (ms : List M5) (hl : ms.length ≤ 60) (k : Nat) (hk : k < ms.length) (hbk : bad ms k = true) (hb : ∀ i < k, bad ms i = false) : callN T (n + 1) 1006 [rows ms] = .ok (.fz (.int (k : Int))) [some (rows ms)] := by
  obtain ⟨y1, y2, y3, e⟩ := cl_stop (callN T n) ms k hk hbk ms.length 0 none none none (by omega) (by omega) fun i _ h => hb i h
  refine call_body T1006 rfl (v := [some (rows ms), none, none, none]) rfl ((run_retS (exs_for (cl_it _ ms hl) e)).trans ?_)
  rfl
theorem least_bad (ms : List M5) : (∀ i < ms.length, bad ms i = false) ∨ ∃ k < ms.length, bad ms k = true ∧ ∀ i < k, bad ms i = false := by
  have key : ∀ c, (∀ i < c, bad ms i = false) ∨ ∃ k < c, bad ms k = true ∧ ∀ i < k, bad ms i = false := by
    intro c
    induction c with
    | zero => exact .inl fun i h => absurd h (Nat.not_lt_zero i)
    | succ c ih =>
      rcases ih with h | ⟨k, h1, h2, h3⟩
      · cases q : bad ms c with
        | false =>
          refine .inl fun i hi => ?_
          by_cases e : i = c
          · rw [e]; exact q
          · exact h i (by omega)
        | true => exact .inr ⟨c, by omega, q, h⟩
      · exact .inr ⟨k, by omega, h2, h3⟩
  exact key ms.length
/-- of the first k meetings -/
theorem bad_take {ms : List M5} {k i : Nat} (h : i < k) : bad (ms.take k) i = bad ms i := by
  unfold bad
  rw [List.getElem?_take_of_lt h, List.take_take, Nat.min_eq_left (by omega)]
end Pv.Pl

set_option Elab.async false
set_option linter.all false
set_option maxRecDepth 100000
/-! P12: the law's own looks at a day. -/
namespace Pv.Pl
open PySem

def madeD (size hours : Int) (x : D) : D := .lst [.int size, .int hours, x]
theorem new_n (xs : List D) : Val.new (newL xs).o = newL xs := rfl
theorem pm5 {a b c d e : D} : perm [.val a, .val b, .val c, .val d, .val e] [.a 0, .a 1, .a 2, .a 3, .a 4] = some [.val a, .val b, .val c, .val d, .val e] := rfl
theorem nf5 {P : Fn} {a b c d e : D} {v : Env} : newF T P 27 [.val a, .val b, .val c, .val d, .val e] v = ofNew 27 [none, none, none, none, none] v (P 60 [.obj 27 [], .fz a, .fz b, .fz c, .fz d, .fz e]) := rfl
theorem nf2 {P : Fn} {a b : D} {v : Env} : newF T P 46 [.val a, .val b] v = ofNew 46 [none, none] v (P 142 [.obj 46 [], .fz a, .fz b]) := rfl
theorem on_ok5 {c : Nat} {o : O} {p q r s t : Option O} {v : Env} : ofNew c [none, none, none, none, none] v (.ok (.fz .non) [some o, p, q, r, s, t]) = .ok (.new o) v := rfl
theorem on_ok2 {c : Nat} {o : O} {p q : Option O} {v : Env} : ofNew c [none, none] v (.ok (.fz .non) [some o, p, q]) = .ok (.new o) v := rfl
theorem on_exc5 {c : Nat} {x : Exc} {o p q r s t : Option O} {v : Env} : ofNew c [none, none, none, none, none] v (.exc x [o, p, q, r, s, t]) = .exc x v := rfl
/-- Day(names(made[0]), made[1], meets, bags, firm) -/
def newE (f : E) : E := .newk 27 [.a 0, .a 1, .a 2, .a 3, .a 4] (.cons (.call 1003 (.cons (.ix (.v 0) (.c (.int 0))) .nil)) (.cons (.ix (.v 0) (.c (.int 1))) (.cons (.v 1) .nil))) (.cons (.v 2) (.cons f .nil))
section
variable {f : Bool} {z hours : Int} {ms : List M5} {ds : List D} {bags x : D} {bg : List D} {n : Nat} {fe : E} {w : Env}
theorem place_non (hD : DayIn f z hours ms ds bags bg) (hb : f = true → ∀ i < ms.length, bad ms i = false) : ∃ os, callN T (n + 6) 1007 [.fz (madeD z hours x), .fz (.lst ds), .fz bags, .fz (.bl f)] = .ok (.fz .non) os := by
  have d : ∃ o p q r s t, callN T (n + 5) 60 [.obj 27 [], .fz (.lst (nms z)), .fz (.int hours), .fz (.lst ds), .fz bags, .fz (.bl f)] = .ok (.fz .non) [some o, p, q, r, s, t] := by
    cases f with
    | false => exact ⟨_, _, _, _, _, _, day_loose hD⟩
    | true => exact ⟨_, _, _, _, _, _, day_firm hD (hb rfl)⟩
  obtain ⟨o, p, q, r, s, t, e⟩ := d
  refine ⟨[some (.fz (madeD z hours x)), some (.fz (.lst ds)), some (.fz bags), some (.fz (.bl f))], call_body T1007 rfl (v := [some (.fz (madeD z hours x)), some (.fz (.lst ds)), some (.fz bags), some (.fz (.bl f)), none, none]) rfl ?_⟩
  refine run_next (v1 := [some (.fz (madeD z hours x)), some (.fz (.lst ds)), some (.fz bags), some (.fz (.bl f)), some (.fz .non), none]) rfl ?_
  have hne : ev T (callN T (n + 5)) none (newE (.v 3)) [some (.fz (madeD z hours x)), some (.fz (.lst ds)), some (.fz bags), some (.fz (.bl f)), some (.fz .non), none] = .ok (.new o) [some (.fz (madeD z hours x)), some (.fz (.lst ds)), some (.fz bags), some (.fz (.bl f)), some (.fz .non), none] := by
    have i0 : item (.fz (madeD z hours x)) (.fz (.int 0)) = some (.fz (.int z)) := rfl
    have i1 : item (.fz (madeD z hours x)) (.fz (.int 1)) = some (.fz (.int hours)) := rfl
    have c := law_names_ok (n + 4) z (by have := hD.z0; omega) hD.z1
    unfold newE
    simp only [exss, exs, ev, evs, evv, evI, evc, evo, E.pur, EL.pur, OE.pur, g0, g1, g2, g3, g4, g5, g6, g7, g8, g9, g10, g11, s0, s1, s2, s3, s4, s5, s6, s7, s8, s9, s10, s11, at_fz, at_lst, at_obj, bind_ok, bind_exc, fl_ok, fl_exc, of_some, held_fz, held_tmp, held_vw, held_t, new_fz, new_lst, new_obj, own_fz, own_tmp, fin_fz, fin_tmp, tr_bl, tr_int, tr_non, c_lt, c_le, c_gt, c_ge, c_eqi, c_nei, c_eqs, c_nes, c_is0, c_isi, c_isl, c_isnt0, c_isnti, c_isntl, o_add, o_sub, b_lenl, b_lent, b_lenm, b_lenv, b_int, b_bool, b_tupt, b_tupl, b_tupm, b_listt, b_listl, cf0, cf1, cf2, cf3, cf4, cf5, oc_ok, oc_exc, tb_none, tb_some, tb_nil, Option.map_some, Bool.not_true, Bool.not_false, Bool.and_self, Bool.and_true, Bool.true_and, if_true, List.map_cons, List.map_nil, List.nil_append, List.cons_append, Nat.reduceSub, Nat.sub_self, List.replicate_zero, List.replicate_succ, List.append_nil, fi0, fi1, fi2, fi3, fi4, fi5, it_l, it_t, sl_l, sl_t, wk_l, wk_t, wl_l, wl_t, wk_n, wl_n, bg_n, fin_newL, i0, i1, c, new_n, pm5, nf5, e, on_ok5]
  have st : exs T (callN T (n + 5)) none (.ex (newE (.v 3))) [some (.fz (madeD z hours x)), some (.fz (.lst ds)), some (.fz bags), some (.fz (.bl f)), some (.fz .non), none] = .next [some (.fz (madeD z hours x)), some (.fz (.lst ds)), some (.fz bags), some (.fz (.bl f)), some (.fz .non), none] := by
    simp only [exs, hne, fl_ok]
  refine run_next (v1 := [some (.fz (madeD z hours x)), some (.fz (.lst ds)), some (.fz bags), some (.fz (.bl f)), some (.fz .non), none]) ?_ ?_
  · have b : exss T (callN T (n + 5)) none (.cons (.ex (newE (.v 3))) .nil) [some (.fz (madeD z hours x)), some (.fz (.lst ds)), some (.fz bags), some (.fz (.bl f)), some (.fz .non), none] = .next [some (.fz (madeD z hours x)), some (.fz (.lst ds)), some (.fz bags), some (.fz (.bl f)), some (.fz .non), none] := by rw [ss_next st, ss_nil]
    exact exs_tr b
  exact (run_ret (x := .fz .non) (v1 := [some (.fz (madeD z hours x)), some (.fz (.lst ds)), some (.fz bags), some (.fz (.bl f)), some (.fz .non), none]) rfl rfl).trans rfl
theorem place_at (hD : DayIn true z hours ms ds bags bg) (k : Nat) (hk : k < ms.length) (hbk : bad ms k = true) (hb : ∀ i < k, bad ms i = false) : ∃ os, callN T (n + 6) 1007 [.fz (madeD z hours x), .fz (.lst ds), .fz bags, .fz (.bl true)] = .ok (.fz (.int (k : Int))) os := by
  obtain ⟨o, e⟩ := day_not (n := n) hD k hk hbk hb
  refine ⟨[some (.fz (madeD z hours x)), some (.fz (.lst ds)), some (.fz bags), some (.fz (.bl true))], call_body T1007 rfl (v := [some (.fz (madeD z hours x)), some (.fz (.lst ds)), some (.fz bags), some (.fz (.bl true)), none, none]) rfl ?_⟩
  refine run_next (v1 := [some (.fz (madeD z hours x)), some (.fz (.lst ds)), some (.fz bags), some (.fz (.bl true)), some (.fz .non), none]) rfl ?_
  have hne : ev T (callN T (n + 5)) none (newE (.v 3)) [some (.fz (madeD z hours x)), some (.fz (.lst ds)), some (.fz bags), some (.fz (.bl true)), some (.fz .non), none] = .exc (wFirm k) [some (.fz (madeD z hours x)), some (.fz (.lst ds)), some (.fz bags), some (.fz (.bl true)), some (.fz .non), none] := by
    have i0 : item (.fz (madeD z hours x)) (.fz (.int 0)) = some (.fz (.int z)) := rfl
    have i1 : item (.fz (madeD z hours x)) (.fz (.int 1)) = some (.fz (.int hours)) := rfl
    have c := law_names_ok (n + 4) z (by have := hD.z0; omega) hD.z1
    unfold newE
    simp only [exss, exs, ev, evs, evv, evI, evc, evo, E.pur, EL.pur, OE.pur, g0, g1, g2, g3, g4, g5, g6, g7, g8, g9, g10, g11, s0, s1, s2, s3, s4, s5, s6, s7, s8, s9, s10, s11, at_fz, at_lst, at_obj, bind_ok, bind_exc, fl_ok, fl_exc, of_some, held_fz, held_tmp, held_vw, held_t, new_fz, new_lst, new_obj, own_fz, own_tmp, fin_fz, fin_tmp, tr_bl, tr_int, tr_non, c_lt, c_le, c_gt, c_ge, c_eqi, c_nei, c_eqs, c_nes, c_is0, c_isi, c_isl, c_isnt0, c_isnti, c_isntl, o_add, o_sub, b_lenl, b_lent, b_lenm, b_lenv, b_int, b_bool, b_tupt, b_tupl, b_tupm, b_listt, b_listl, cf0, cf1, cf2, cf3, cf4, cf5, oc_ok, oc_exc, tb_none, tb_some, tb_nil, Option.map_some, Bool.not_true, Bool.not_false, Bool.and_self, Bool.and_true, Bool.true_and, if_true, List.map_cons, List.map_nil, List.nil_append, List.cons_append, Nat.reduceSub, Nat.sub_self, List.replicate_zero, List.replicate_succ, List.append_nil, fi0, fi1, fi2, fi3, fi4, fi5, it_l, it_t, sl_l, sl_t, wk_l, wk_t, wl_l, wl_t, wk_n, wl_n, bg_n, fin_newL, i0, i1, c, new_n, pm5, nf5, e, on_exc5]
  have b : exss T (callN T (n + 5)) none (.cons (.ex (newE (.v 3))) .nil) [some (.fz (madeD z hours x)), some (.fz (.lst ds)), some (.fz bags), some (.fz (.bl true)), some (.fz .non), none] = .exc (wFirm k) [some (.fz (madeD z hours x)), some (.fz (.lst ds)), some (.fz bags), some (.fz (.bl true)), some (.fz .non), none] := by
    have st : exs T (callN T (n + 5)) none (.ex (newE (.v 3))) [some (.fz (madeD z hours x)), some (.fz (.lst ds)), some (.fz bags), some (.fz (.bl true)), some (.fz .non), none] = .exc (wFirm k) [some (.fz (madeD z hours x)), some (.fz (.lst ds)), some (.fz bags), some (.fz (.bl true)), some (.fz .non), none] := by
      simp only [exs, hne, fl_exc]
    simp only [exss, st]
  refine run_next (v1 := [some (.fz (madeD z hours x)), some (.fz (.lst ds)), some (.fz bags), some (.fz (.bl true)), some (.fz (.int (k : Int))), none]) ?_ ?_
  · exact (exs_trx b).trans rfl
  exact (run_ret (x := .fz (.int (k : Int))) (v1 := [some (.fz (madeD z hours x)), some (.fz (.lst ds)), some (.fz bags), some (.fz (.bl true)), some (.fz (.int (k : Int))), none]) rfl rfl).trans rfl
end
end Pv.Pl

set_option Elab.async false
set_option linter.all false
set_option maxRecDepth 100000
/-! P13: no house has two meetings of an hour. -/
namespace Pv.Pl
open PySem

/-- number i's hour -/
def Vh (ms : List M5) (hours h : Int) (i : Nat) (x : Int) : Prop := ∃ t p m, t < 2 ∧ ms[p]? = some m ∧ has h m = true ∧ i = t * ms.length + p ∧ x = m.e + t * hours
section
variable {z hours : Int} {ms : List M5} {bg : List D} {n : Nat} {h : Int}
theorem has_or {m : M5} (e : has h m = true) : m.a = h ∨ m.b = h := by
  unfold has at e
  simpa using e
theorem clash_of {m o : M5} (e : o.e = m.e) (h1 : has h m = true) (h2 : has h o = true) : clash m o = true := by
  unfold clash
  have a := has_or h1
  have b := has_or h2
  simp only [Bool.and_eq_true, Bool.or_eq_true, beq_iff_eq]
  refine ⟨e, ?_⟩
  rcases b with b | b
  · rcases a with a | a
    · exact .inl (.inl (a.trans b.symm))
    · exact .inl (.inr (a.trans b.symm))
  · rcases a with a | a
    · exact .inr (.inl (a.trans b.symm))
    · exact .inr (.inr (a.trans b.symm))
theorem no_two_at (hb : ∀ i < ms.length, bad ms i = false) {p q : Nat} {m o : M5} (hp : ms[p]? = some m) (hq : ms[q]? = some o) (h1 : has h m = true) (h2 : has h o = true) (e : o.e = m.e) (hlt : q < p) : False := by
  have pl : p < ms.length := (List.getElem?_eq_some_iff.mp hp).1
  have := hb p pl
  unfold bad at this
  rw [hp] at this
  have this : (decide (m.e < m.l) || (ms.take p).any (clash m)) = false := this
  rw [Bool.or_eq_false_iff] at this
  have z := this.2
  rw [List.any_eq_false] at z
  have hm : o ∈ ms.take p := by
    have : (ms.take p)[q]? = some o := by rw [List.getElem?_take_of_lt hlt]; exact hq
    exact List.mem_of_getElem? this
  exact z o hm (clash_of e h1 h2)
theorem Vh.one (hb : ∀ i < ms.length, bad ms i = false) (hok : ∀ m ∈ ms, m.ok z hours) {i j : Nat} {x : Int} (hi : Vh ms hours h i x) (hj : Vh ms hours h j x) : i = j := by
  obtain ⟨t, p, m, ht, hp, h1, rfl, rfl⟩ := hi
  obtain ⟨u, q, o, hu, hq, h2, rfl, e⟩ := hj
  have om := hok m (List.mem_of_getElem? hp)
  have oo := hok o (List.mem_of_getElem? hq)
  have m0 := om.e0
  have m1 := om.el
  have m2 := om.l1
  have n0 := oo.e0
  have n1 := oo.el
  have n2 := oo.l1
  have key : ∀ (e : m.e = o.e), p = q := fun e => by
    rcases Nat.lt_trichotomy p q with l | l | l
    · exact (no_two_at hb hq hp h2 h1 e l).elim
    · exact l
    · exact (no_two_at hb hp hq h1 h2 e.symm l).elim
  have t2 : t = 0 ∨ t = 1 := by omega
  have u2 : u = 0 ∨ u = 1 := by omega
  rcases t2 with rfl | rfl <;> rcases u2 with rfl | rfl
  · rw [key (by simpa using e)]
  · simp at e; omega
  · simp at e; omega
  · rw [key (by simp at e; omega)]
theorem numbers_eq : numbers h ms = (places h 0 ms).map (fun p => 0 * ms.length + p) ++ (places h 0 ms).map fun p => 1 * ms.length + p := by
  unfold numbers
  rw [show List.range 2 = [0, 1] from rfl, List.flatMap_cons, List.flatMap_cons, List.flatMap_nil, List.append_nil]
theorem numbers_len : (numbers h ms).length = 2 * (ms.filter (has h)).length := by
  rw [numbers_eq, List.length_append, List.length_map, List.length_map, places_len]
  omega
theorem numbers_Vh {i : Nat} (hi : i ∈ numbers h ms) : ∃ t p m, t < 2 ∧ ms[p]? = some m ∧ has h m = true ∧ i = t * ms.length + p := by
  unfold numbers at hi
  obtain ⟨t, ht, hi⟩ := List.mem_flatMap.mp hi
  obtain ⟨p, hp, rfl⟩ := List.mem_map.mp hi
  obtain ⟨j, m, e, hm, hh⟩ := places_at hp
  exact ⟨t, p, m, List.mem_range.mp ht, by rw [e, Nat.zero_add]; exact hm, hh, rfl⟩
theorem numbers_nd : (numbers h ms).Pairwise (· < ·) := by
  have pl := places_lt (h := h) (ms := ms) (k := 0)
  have lt : ∀ p ∈ places h 0 ms, p < ms.length := fun p hp => by
    obtain ⟨j, m, e, hm, _⟩ := places_at hp
    have := (List.getElem?_eq_some_iff.mp hm).1
    omega
  rw [numbers_eq, List.pairwise_append]
  refine ⟨?_, ?_, fun a ha b hb => ?_⟩
  · exact List.pairwise_map.mpr (pl.1.imp fun h => by omega)
  · exact List.pairwise_map.mpr (pl.1.imp fun h => by omega)
  · obtain ⟨p, hp, rfl⟩ := List.mem_map.mp ha
    obtain ⟨q, hq, rfl⟩ := List.mem_map.mp hb
    have := lt p hp
    omega
/-- the slots of _law_no_two -/
abbrev nE (made : D) (ms : List M5) (sk : D) (day : D) (pl : O) (x5 x6 x7 x8 x9 : Option O) : Env := [some (.fz made), some (rows ms), some (.fz sk), some (.fz day), some pl, x5, x6, x7, x8, x9]
def n2I : SL := .cons (.frz 4) (.cons (.asg (.n 8) (.meth 1107 (.cons (.v 4) (.cons (.v 7) .nil)))) (.cons (.ife (.to (.cm .ne (.ix (.v 8) (.c (.int 0))) (.ix (.v 8) (.c (.int 1)))) (.cm .inn (.ix (.v 8) (.c (.int 0))) (.v 6))) (.cons (.ret (.c (.bl false))) .nil) .nil) (.cons (.app (.v 6) (.ix (.v 8) (.c (.int 0)))) .nil)))
theorem n2_inner {made sk day : D} {x5 x9 : Option O} (hb : ∀ i < ms.length, bad ms i = false) (hok : ∀ m ∈ ms, m.ok z hours) (hl : ms.length ≤ 60) {full : List M5} (hday : day = dayD true z hours ms bg) : ∀ (R done : List Nat) (seen : List Int) (pl : O) (x7 x8 : Option O), pl.frz = planD day → numbers h ms = done ++ R → (∀ x ∈ seen, ∃ j ∈ done, Vh ms hours h j x) → seen.length = done.length →
    ∃ seen' pl' y7 y8, pl'.frz = planD day ∧ seen'.length = done.length + R.length ∧ forLoop (.n 7) (exss T (callN T (n + 5)) none n2I) (R.map fun (i : Nat) => D.int (i : Int)) (nE made full sk day pl x5 (some (iL seen)) x7 x8 x9) = .next (nE made full sk day pl' x5 (some (iL seen')) y7 y8 x9)
  | [], done, seen, pl, x7, x8, hp, hn, hs, hsl => ⟨seen, pl, x7, x8, hp, by rw [hsl]; rfl, rfl⟩
  | i :: R, done, seen, pl, x7, x8, hp, hn, hs, hsl => by
    have hi : i ∈ numbers h ms := by rw [hn]; simp
    obtain ⟨t, p, m, ht, hm, hh, ei⟩ := numbers_Vh hi
    have om := hok m (List.mem_of_getElem? hm)
    have hpl : p < ms.length := (List.getElem?_eq_some_iff.mp hm).1
    have el : m.e = m.l := by
      have := hb p hpl
      unfold bad at this
      rw [hm] at this
      have this : (decide (m.e < m.l) || (ms.take p).any (clash m)) = false := this
      rw [Bool.or_eq_false_iff] at this
      have := of_decide_eq_false this.1
      have := om.el
      omega
    let x : Int := m.e + t * hours
    have hv : Vh ms hours h i x := ⟨t, p, m, ht, hm, hh, ei, rfl⟩
    have hx : seen.any (· == x) = false := by
      rw [List.any_eq_false]
      intro y hy hyx
      have : y = x := by simpa using hyx
      subst this
      obtain ⟨j, hj, hvj⟩ := hs _ hy
      have := hv.one hb hok hvj
      subst this
      have nd := numbers_nd (h := h) (ms := ms)
      rw [hn, List.pairwise_append] at nd
      have := nd.2.2 i hj i List.mem_cons_self
      omega
    have hlen : done.length + (R.length + 1) ≤ 2 * 60 := by
      have e1 := congrArg List.length hn
      rw [numbers_len, List.length_append, List.length_cons] at e1
      have := List.length_filter_le (has h) ms
      omega
    obtain ⟨os, st⟩ := stretch_ok (n := n) (f := true) (z := z) (hours := hours) (bg := bg) t p m ht hm hl
    rw [← ei, ← hday] at st
    obtain ⟨seen', pl', y7, y8, q1, q2, q3⟩ := n2_inner (made := made) (sk := sk) (x5 := x5) (x9 := x9) hb hok hl (full := full) hday R (done ++ [i]) (seen ++ [x]) (.fz (planD day)) (some (.fz (.int (i : Int)))) (some (.fz (.tup [.int x, .int x]))) rfl (by rw [hn, List.append_assoc]; rfl) (fun y hy => by
      rcases List.mem_append.mp hy with hy | hy
      · obtain ⟨j, hj, hvj⟩ := hs y hy
        exact ⟨j, List.mem_append_left _ hj, hvj⟩
      · rw [List.mem_singleton.mp hy]
        exact ⟨i, List.mem_append_right _ (List.mem_singleton.mpr rfl), hv⟩) (by rw [List.length_append, List.length_append, hsl]; rfl)
    refine ⟨seen', pl', y7, y8, q1, by rw [q2, List.length_append, List.length_singleton, List.length_cons]; omega, ?_⟩
    have s1 : exs T (callN T (n + 5)) none (.frz 4) (nE made full sk day pl x5 (some (iL seen)) (some (.fz (.int (i : Int)))) x8 x9) = .next (nE made full sk day (.fz (planD day)) x5 (some (iL seen)) (some (.fz (.int (i : Int)))) x8 x9) := by
      rw [← hp]
      exact exs_frz rfl
    have xl : m.l + t * hours = x := by rw [← el]
    rw [xl] at st
    have s2 : exs T (callN T (n + 5)) none (.asg (.n 8) (.meth 1107 (.cons (.v 4) (.cons (.v 7) .nil)))) (nE made full sk day (.fz (planD day)) x5 (some (iL seen)) (some (.fz (.int (i : Int)))) x8 x9) = .next (nE made full sk day (.fz (planD day)) x5 (some (iL seen)) (some (.fz (.int (i : Int)))) (some (.fz (.tup [.int x, .int x]))) x9) :=
      exs_asg (v1 := nE made full sk day (.fz (planD day)) x5 (some (iL seen)) (some (.fz (.int (i : Int)))) x8 x9) (ev_meth1 (T := T) (P := callN T (n + 5)) (d := planD day) (c := .int (i : Int)) rfl (fun v => rfl) rfl st) rfl
    have i0 : item (.fz (.tup [.int x, .int x])) (.fz (.int 0)) = some (.fz (.int x)) := rfl
    have i1 : item (.fz (.tup [.int x, .int x])) (.fz (.int 1)) = some (.fz (.int x)) := rfl
    have bx : (x == x) = true := by simp
    have ins : cmp .inn (.fz (.int x)) (.at 6 (iL seen)) = some false := by
      rw [← hx]
      exact in_seen x 6 seen
    have s3 : exs T (callN T (n + 5)) none (.ife (.to (.cm .ne (.ix (.v 8) (.c (.int 0))) (.ix (.v 8) (.c (.int 1)))) (.cm .inn (.ix (.v 8) (.c (.int 0))) (.v 6))) (.cons (.ret (.c (.bl false))) .nil) .nil) (nE made full sk day (.fz (planD day)) x5 (some (iL seen)) (some (.fz (.int (i : Int)))) (some (.fz (.tup [.int x, .int x]))) x9) = .next (nE made full sk day (.fz (planD day)) x5 (some (iL seen)) (some (.fz (.int (i : Int)))) (some (.fz (.tup [.int x, .int x]))) x9) := by
      simp only [exss, exs, ev, evs, evv, evI, evc, evo, E.pur, EL.pur, OE.pur, g0, g1, g2, g3, g4, g5, g6, g7, g8, g9, g10, g11, s0, s1, s2, s3, s4, s5, s6, s7, s8, s9, s10, s11, at_fz, at_lst, at_obj, bind_ok, bind_exc, fl_ok, fl_exc, of_some, held_fz, held_tmp, held_vw, held_t, new_fz, new_lst, new_obj, own_fz, own_tmp, fin_fz, fin_tmp, tr_bl, tr_int, tr_non, c_lt, c_le, c_gt, c_ge, c_eqi, c_nei, c_eqs, c_nes, c_is0, c_isi, c_isl, c_isnt0, c_isnti, c_isntl, o_add, o_sub, b_lenl, b_lent, b_lenm, b_lenv, b_int, b_bool, b_tupt, b_tupl, b_tupm, b_listt, b_listl, cf0, cf1, cf2, cf3, cf4, cf5, oc_ok, oc_exc, tb_none, tb_some, tb_nil, Option.map_some, Bool.not_true, Bool.not_false, Bool.and_self, Bool.and_true, Bool.true_and, if_true, List.map_cons, List.map_nil, List.nil_append, List.cons_append, Nat.reduceSub, Nat.sub_self, List.replicate_zero, List.replicate_succ, List.append_nil, fi0, fi1, fi2, fi3, fi4, fi5, it_l, it_t, sl_l, sl_t, wk_l, wk_t, wl_l, wl_t, wk_n, wl_n, bg_n, fin_newL, i0, i1, bx, ins]
    have s4 : exs T (callN T (n + 5)) none (.app (.v 6) (.ix (.v 8) (.c (.int 0)))) (nE made full sk day (.fz (planD day)) x5 (some (iL seen)) (some (.fz (.int (i : Int)))) (some (.fz (.tup [.int x, .int x]))) x9) = .next (nE made full sk day (.fz (planD day)) x5 (some (iL (seen ++ [x]))) (some (.fz (.int (i : Int)))) (some (.fz (.tup [.int x, .int x]))) x9) := by
      rw [← app_iL]
      exact exs_app (x := .fz (.int x)) (v1 := nE made full sk day (.fz (planD day)) x5 (some (iL seen)) (some (.fz (.int (i : Int)))) (some (.fz (.tup [.int x, .int x]))) x9) (os := seen.map fun i => O.fz (.int i)) rfl (by simp only [exss, exs, ev, evs, evv, evI, evc, evo, E.pur, EL.pur, OE.pur, g0, g1, g2, g3, g4, g5, g6, g7, g8, g9, g10, g11, s0, s1, s2, s3, s4, s5, s6, s7, s8, s9, s10, s11, at_fz, at_lst, at_obj, bind_ok, bind_exc, fl_ok, fl_exc, of_some, held_fz, held_tmp, held_vw, held_t, new_fz, new_lst, new_obj, own_fz, own_tmp, fin_fz, fin_tmp, tr_bl, tr_int, tr_non, c_lt, c_le, c_gt, c_ge, c_eqi, c_nei, c_eqs, c_nes, c_is0, c_isi, c_isl, c_isnt0, c_isnti, c_isntl, o_add, o_sub, b_lenl, b_lent, b_lenm, b_lenv, b_int, b_bool, b_tupt, b_tupl, b_tupm, b_listt, b_listl, cf0, cf1, cf2, cf3, cf4, cf5, oc_ok, oc_exc, tb_none, tb_some, tb_nil, Option.map_some, Bool.not_true, Bool.not_false, Bool.and_self, Bool.and_true, Bool.true_and, if_true, List.map_cons, List.map_nil, List.nil_append, List.cons_append, Nat.reduceSub, Nat.sub_self, List.replicate_zero, List.replicate_succ, List.append_nil, fi0, fi1, fi2, fi3, fi4, fi5, it_l, it_t, sl_l, sl_t, wk_l, wk_t, wl_l, wl_t, wk_n, wl_n, bg_n, fin_newL, i0]) rfl rfl (app_len (by rw [hsl]; omega))
    have b : exss T (callN T (n + 5)) none n2I (nE made full sk day pl x5 (some (iL seen)) (some (.fz (.int (i : Int)))) x8 x9) = .next (nE made full sk day (.fz (planD day)) x5 (some (iL (seen ++ [x]))) (some (.fz (.int (i : Int)))) (some (.fz (.tup [.int x, .int x]))) x9) := by
      unfold n2I
      rw [ss_next s1, ss_next s2, ss_next s3, ss_next s4, ss_nil]
    rw [List.map_cons]
    simp only [forLoop, bg_n, s7, b, q3]
def n2O : SL := .cons (.asg (.n 6) (.lst .nil)) (.cons (.frz 4) (.cons (.fr (.n 7) (.seq (.meth 1165 (.cons (.v 4) (.cons (.v 5) .nil)))) n2I) (.cons (.ife (.cm .ne (.bi .len (.cons (.v 6) .nil)) (.o2 .mul (.c (.int 2)) (.bi .len (.cons (.lc [9] (.n 9) (.seq (.v 1)) (.yes (.cm .inn (.v 5) (.sl (.v 9) .no (.yes (.c (.int 2)))))) (.v 9)) .nil)))) (.cons (.ret (.c (.bl false))) .nil) .nil) .nil)))
def pT (h : Int) : D → Bool
  | .tup (.int a :: .int b :: _) => a == h || b == h
  | _ => false
theorem filt_t (h : Int) (ms : List M5) : ((ms.map M5.t).filter (pT h)).length = (ms.filter (has h)).length := by
  rw [List.filter_map, List.length_map]
  rfl
theorem n2_house {made sk day : D} {x6 x7 x8 : Option O} {pl : O} (hb : ∀ i < ms.length, bad ms i = false) (hok : ∀ m ∈ ms, m.ok z hours) (hl : ms.length ≤ 60) (hz : z ≤ 12) (hday : day = dayD true z hours ms bg) (h0 : 0 ≤ h) (h1 : h < z) (hp : pl.frz = planD day) :
    ∃ pl' y6 y7 y8, pl'.frz = planD day ∧ exss T (callN T (n + 5)) none n2O (nE made ms sk day pl (some (.fz (.int h))) x6 x7 x8 none) = .next (nE made ms sk day pl' (some (.fz (.int h))) y6 y7 y8 none) := by
  obtain ⟨os, wh⟩ := with_house_ok (n := n + 1) (f := true) (z := z) (hours := hours) (ms := ms) (bg := bg) h h0 h1 hz hl
  rw [← hday] at wh
  obtain ⟨seen, pl', y7, y8, q1, q2, q3⟩ := n2_inner (n := n) (h := h) (made := made) (sk := sk) (x5 := some (.fz (.int h))) (x9 := none) hb hok hl (full := ms) hday (numbers h ms) [] [] (.fz (planD day)) x7 x8 rfl rfl (fun x hx => by cases hx) rfl
  rw [List.length_nil, Nat.zero_add, numbers_len] at q2
  refine ⟨pl', some (iL seen), y7, y8, q1, ?_⟩
  have s1 : exs T (callN T (n + 5)) none (.asg (.n 6) (.lst .nil)) (nE made ms sk day pl (some (.fz (.int h))) x6 x7 x8 none) = .next (nE made ms sk day pl (some (.fz (.int h))) (some (iL [])) x7 x8 none) := rfl
  have s2 : exs T (callN T (n + 5)) none (.frz 4) (nE made ms sk day pl (some (.fz (.int h))) (some (iL [])) x7 x8 none) = .next (nE made ms sk day (.fz (planD day)) (some (.fz (.int h))) (some (iL [])) x7 x8 none) := by
    rw [← hp]
    exact exs_frz rfl
  have it : evI T (callN T (n + 5)) none (.seq (.meth 1165 (.cons (.v 4) (.cons (.v 5) .nil)))) (nE made ms sk day (.fz (planD day)) (some (.fz (.int h))) (some (iL [])) x7 x8 none) = .ok ((numbers h ms).map fun (i : Nat) => D.int (i : Int)) (nE made ms sk day (.fz (planD day)) (some (.fz (.int h))) (some (iL [])) x7 x8 none) := by
    have e := ev_meth1 (T := T) (P := callN T (n + 5)) (X := none) (m := 1165) (a := .v 4) (b := .v 5) (v := nE made ms sk day (.fz (planD day)) (some (.fz (.int h))) (some (iL [])) x7 x8 none) (d := planD day) (c := .int h) rfl (fun v => rfl) rfl wh
    rw [evI, e, bind_ok, new_fz, wk_t, of_some]
  have lc := ev_lcF (T := T) (P := callN T (n + 5)) (X := none) (own := [9]) (g := .n 9) (it := .seq (.v 1)) (t := .yes (.cm .inn (.v 5) (.sl (.v 9) .no (.yes (.c (.int 2)))))) (e := .v 9) (ds := ms.map M5.t) (v := nE made ms sk day pl' (some (.fz (.int h))) (some (iL seen)) y7 y8 none) (v1 := nE made ms sk day pl' (some (.fz (.int h))) (some (iL seen)) y7 y8 none)
    (fun d => nE made ms sk day pl' (some (.fz (.int h))) (some (iL seen)) y7 y8 (some (.fz d))) (pT h) (fun d => .fz d) (by simp only [exss, exs, ev, evs, evv, evI, evc, evo, E.pur, EL.pur, OE.pur, g0, g1, g2, g3, g4, g5, g6, g7, g8, g9, g10, g11, s0, s1, s2, s3, s4, s5, s6, s7, s8, s9, s10, s11, at_fz, at_lst, at_obj, bind_ok, bind_exc, fl_ok, fl_exc, of_some, held_fz, held_tmp, held_vw, held_t, new_fz, new_lst, new_obj, own_fz, own_tmp, fin_fz, fin_tmp, tr_bl, tr_int, tr_non, c_lt, c_le, c_gt, c_ge, c_eqi, c_nei, c_eqs, c_nes, c_is0, c_isi, c_isl, c_isnt0, c_isnti, c_isntl, o_add, o_sub, b_lenl, b_lent, b_lenm, b_lenv, b_int, b_bool, b_tupt, b_tupl, b_tupm, b_listt, b_listl, cf0, cf1, cf2, cf3, cf4, cf5, oc_ok, oc_exc, tb_none, tb_some, tb_nil, Option.map_some, Bool.not_true, Bool.not_false, Bool.and_self, Bool.and_true, Bool.true_and, if_true, List.map_cons, List.map_nil, List.nil_append, List.cons_append, Nat.reduceSub, Nat.sub_self, List.replicate_zero, List.replicate_succ, List.append_nil, fi0, fi1, fi2, fi3, fi4, fi5, it_l, it_t, sl_l, sl_t, wk_l, wk_t, wl_l, wl_t, wk_n, wl_n, bg_n, fin_newL]) (by rw [List.length_map]; have := PySem.sizeLine_eq; omega) (fun _ _ => rfl) (fun _ _ _ _ => rfl)
    (fun d hd => by
      obtain ⟨m, _, rfl⟩ := List.mem_map.mp hd
      have e : cmp .inn (.fz (.int h)) (.fz (.tup [.int m.a, .int m.b])) = some (m.a == h || m.b == h) := in2 h m.a m.b
      have e2 : slice (.fz m.t) none (some 2) = some (.fz (.tup [.int m.a, .int m.b])) := rfl
      simp only [evc, ev, evo, E.pur, OE.pur, Bool.and_self, g5, g9, at_fz, bind_ok, held_t, e2, of_some, e, Option.map_some, tr_bl]
      rfl) (fun d _ _ => ⟨.fz d, by simp only [exss, exs, ev, evs, evv, evI, evc, evo, E.pur, EL.pur, OE.pur, g0, g1, g2, g3, g4, g5, g6, g7, g8, g9, g10, g11, s0, s1, s2, s3, s4, s5, s6, s7, s8, s9, s10, s11, at_fz, at_lst, at_obj, bind_ok, bind_exc, fl_ok, fl_exc, of_some, held_fz, held_tmp, held_vw, held_t, new_fz, new_lst, new_obj, own_fz, own_tmp, fin_fz, fin_tmp, tr_bl, tr_int, tr_non, c_lt, c_le, c_gt, c_ge, c_eqi, c_nei, c_eqs, c_nes, c_is0, c_isi, c_isl, c_isnt0, c_isnti, c_isntl, o_add, o_sub, b_lenl, b_lent, b_lenm, b_lenv, b_int, b_bool, b_tupt, b_tupl, b_tupm, b_listt, b_listl, cf0, cf1, cf2, cf3, cf4, cf5, oc_ok, oc_exc, tb_none, tb_some, tb_nil, Option.map_some, Bool.not_true, Bool.not_false, Bool.and_self, Bool.and_true, Bool.true_and, if_true, List.map_cons, List.map_nil, List.nil_append, List.cons_append, Nat.reduceSub, Nat.sub_self, List.replicate_zero, List.replicate_succ, List.append_nil, fi0, fi1, fi2, fi3, fi4, fi5, it_l, it_t, sl_l, sl_t, wk_l, wk_t, wl_l, wl_t, wk_n, wl_n, bg_n, fin_newL], rfl⟩) rfl (fun _ _ => rfl)
  have ll : ev T (callN T (n + 5)) none (.bi .len (.cons (.lc [9] (.n 9) (.seq (.v 1)) (.yes (.cm .inn (.v 5) (.sl (.v 9) .no (.yes (.c (.int 2)))))) (.v 9)) .nil)) (nE made ms sk day pl' (some (.fz (.int h))) (some (iL seen)) y7 y8 none) = .ok (.fz (.int ((ms.filter (has h)).length : Int))) (nE made ms sk day pl' (some (.fz (.int h))) (some (iL seen)) y7 y8 none) := by
    have := ev_bi1 lc b_lenm
    rw [List.length_map, filt_t] at this
    exact this
  have lr : ev T (callN T (n + 5)) none (.o2 .mul (.c (.int 2)) (.bi .len (.cons (.lc [9] (.n 9) (.seq (.v 1)) (.yes (.cm .inn (.v 5) (.sl (.v 9) .no (.yes (.c (.int 2)))))) (.v 9)) .nil))) (nE made ms sk day pl' (some (.fz (.int h))) (some (iL seen)) y7 y8 none) = .ok (.fz (.int (2 * ((ms.filter (has h)).length : Int)))) (nE made ms sk day pl' (some (.fz (.int h))) (some (iL seen)) y7 y8 none) :=
    ev_o2 (d := .int 2) (v1 := nE made ms sk day pl' (some (.fz (.int h))) (some (iL seen)) y7 y8 none) (by simp only [ev]) ll (mul2 _)
  have ls : ev T (callN T (n + 5)) none (.bi .len (.cons (.v 6) .nil)) (nE made ms sk day pl' (some (.fz (.int h))) (some (iL seen)) y7 y8 none) = .ok (.fz (.int (2 * ((ms.filter (has h)).length : Int)))) (nE made ms sk day pl' (some (.fz (.int h))) (some (iL seen)) y7 y8 none) := by
    have e : ((seen.map fun i => O.fz (.int i)).length : Int) = 2 * ((ms.filter (has h)).length : Int) := by
      rw [List.length_map, q2]
      omega
    rw [← e]
    exact ev_bi1 (x := .vw 6 (iL seen)) (by rfl) rfl
  have bb : ((2 * ((ms.filter (has h)).length : Int)) == 2 * ((ms.filter (has h)).length : Int)) = true := by simp
  have s4 : exs T (callN T (n + 5)) none (.ife (.cm .ne (.bi .len (.cons (.v 6) .nil)) (.o2 .mul (.c (.int 2)) (.bi .len (.cons (.lc [9] (.n 9) (.seq (.v 1)) (.yes (.cm .inn (.v 5) (.sl (.v 9) .no (.yes (.c (.int 2)))))) (.v 9)) .nil)))) (.cons (.ret (.c (.bl false))) .nil) .nil) (nE made ms sk day pl' (some (.fz (.int h))) (some (iL seen)) y7 y8 none) = .next (nE made ms sk day pl' (some (.fz (.int h))) (some (iL seen)) y7 y8 none) := by
    refine exs_if0 (x := .fz (.bl false)) (v1 := nE made ms sk day pl' (some (.fz (.int h))) (some (iL seen)) y7 y8 none) ?_ rfl ss_nil
    rw [ev, ls, bind_ok, held_fz, lr, bind_ok, c_nei, bb]
    rfl
  unfold n2O
  rw [ss_next s1, ss_next s2, ss_next (exs_for it q3), ss_next s4, ss_nil]
end
end Pv.Pl

set_option Elab.async false
set_option linter.all false
set_option maxRecDepth 100000
/-! P14: the law's last look. -/
namespace Pv.Pl
open PySem

theorem rows_self : ∀ ms : List M5, Rows ms (ms.map M5.t)
  | [] => trivial
  | m :: ms => ⟨.inl rfl, rows_self ms⟩
theorem rows_list : ∀ ms : List M5, Rows ms (ms.map fun m => D.lst m.xs)
  | [] => trivial
  | m :: ms => ⟨.inr rfl, rows_list ms⟩
section
variable {z hours : Int} {ms : List M5} {bg : List D} {n : Nat} {sk x : D}
theorem no_two_ok (hD : DayIn true z hours ms (ms.map M5.t) sk bg) (hb : ∀ i < ms.length, bad ms i = false) : ∃ os, callN T (n + 6) 1008 [.fz (madeD z hours x), rows ms, .fz sk] = .ok (.fz (.bl true)) os := by
  have z0 : 0 ≤ z := by have := hD.z0; omega
  have e := day_firm (n := n) hD hb
  let day : D := dayD true z hours ms bg
  let plO : O := .obj 46 [(730, .fz day), (733, .fz (.int 2))]
  have pe : callN T (n + 5) 142 [.obj 46 [], .fz day, .fz (.int 2)] = .ok (.fz .non) [some plO, some (.fz day), some (.fz (.int 2))] := plan_ok (n := n + 2) (f := true) (z := z) (hours := hours) (ms := ms) (bg := bg) hD.h0 hD.h1 hD.len
  have i0 : item (.fz (madeD z hours x)) (.fz (.int 0)) = some (.fz (.int z)) := rfl
  have i1 : item (.fz (madeD z hours x)) (.fz (.int 1)) = some (.fz (.int hours)) := rfl
  refine ⟨[some (.fz (madeD z hours x)), some (rows ms), some (.fz sk)], call_body T1008 rfl (v := [some (.fz (madeD z hours x)), some (rows ms), some (.fz sk), none, none, none, none, none, none, none]) rfl ?_⟩
  refine run_next (v1 := [some (.fz (madeD z hours x)), some (rows ms), some (.fz sk), some (dayO true z hours ms bg), none, none, none, none, none, none]) ?_ ?_
  · have hne : ev T (callN T (n + 5)) none (newE (.c (.bl true))) [some (.fz (madeD z hours x)), some (rows ms), some (.fz sk), none, none, none, none, none, none, none] = .ok (.new (dayO true z hours ms bg)) [some (.fz (madeD z hours x)), some (rows ms), some (.fz sk), none, none, none, none, none, none, none] := by
      have c := law_names_ok (n + 4) z z0 hD.z1
      unfold newE
      simp only [exss, exs, ev, evs, evv, evI, evc, evo, E.pur, EL.pur, OE.pur, g0, g1, g2, g3, g4, g5, g6, g7, g8, g9, g10, g11, s0, s1, s2, s3, s4, s5, s6, s7, s8, s9, s10, s11, at_fz, at_lst, at_obj, bind_ok, bind_exc, fl_ok, fl_exc, of_some, held_fz, held_tmp, held_vw, held_t, new_fz, new_lst, new_obj, own_fz, own_tmp, fin_fz, fin_tmp, tr_bl, tr_int, tr_non, c_lt, c_le, c_gt, c_ge, c_eqi, c_nei, c_eqs, c_nes, c_is0, c_isi, c_isl, c_isnt0, c_isnti, c_isntl, o_add, o_sub, b_lenl, b_lent, b_lenm, b_lenv, b_int, b_bool, b_tupt, b_tupl, b_tupm, b_listt, b_listl, cf0, cf1, cf2, cf3, cf4, cf5, oc_ok, oc_exc, tb_none, tb_some, tb_nil, Option.map_some, Bool.not_true, Bool.not_false, Bool.and_self, Bool.and_true, Bool.true_and, if_true, List.map_cons, List.map_nil, List.nil_append, List.cons_append, Nat.reduceSub, Nat.sub_self, List.replicate_zero, List.replicate_succ, List.append_nil, fi0, fi1, fi2, fi3, fi4, fi5, it_l, it_t, sl_l, sl_t, wk_l, wk_t, wl_l, wl_t, wk_n, wl_n, bg_n, fin_newL, i0, i1, c, new_n, pm5, nf5, e, on_ok5]
    exact exs_asg hne rfl
  refine run_next (v1 := [some (.fz (madeD z hours x)), some (rows ms), some (.fz sk), some (.fz day), none, none, none, none, none, none]) ?_ ?_
  · exact exs_frz (o := dayO true z hours ms bg) rfl
  refine run_next (v1 := [some (.fz (madeD z hours x)), some (rows ms), some (.fz sk), some (.fz day), some plO, none, none, none, none, none]) ?_ ?_
  · have hne : ev T (callN T (n + 5)) none (.new 46 (.cons (.v 3) (.cons (.c (.int 2)) .nil))) [some (.fz (madeD z hours x)), some (rows ms), some (.fz sk), some (.fz day), none, none, none, none, none, none] = .ok (.new plO) [some (.fz (madeD z hours x)), some (rows ms), some (.fz sk), some (.fz day), none, none, none, none, none, none] := by
      simp only [exss, exs, ev, evs, evv, evI, evc, evo, E.pur, EL.pur, OE.pur, g0, g1, g2, g3, g4, g5, g6, g7, g8, g9, g10, g11, s0, s1, s2, s3, s4, s5, s6, s7, s8, s9, s10, s11, at_fz, at_lst, at_obj, bind_ok, bind_exc, fl_ok, fl_exc, of_some, held_fz, held_tmp, held_vw, held_t, new_fz, new_lst, new_obj, own_fz, own_tmp, fin_fz, fin_tmp, tr_bl, tr_int, tr_non, c_lt, c_le, c_gt, c_ge, c_eqi, c_nei, c_eqs, c_nes, c_is0, c_isi, c_isl, c_isnt0, c_isnti, c_isntl, o_add, o_sub, b_lenl, b_lent, b_lenm, b_lenv, b_int, b_bool, b_tupt, b_tupl, b_tupm, b_listt, b_listl, cf0, cf1, cf2, cf3, cf4, cf5, oc_ok, oc_exc, tb_none, tb_some, tb_nil, Option.map_some, Bool.not_true, Bool.not_false, Bool.and_self, Bool.and_true, Bool.true_and, if_true, List.map_cons, List.map_nil, List.nil_append, List.cons_append, Nat.reduceSub, Nat.sub_self, List.replicate_zero, List.replicate_succ, List.append_nil, fi0, fi1, fi2, fi3, fi4, fi5, it_l, it_t, sl_l, sl_t, wk_l, wk_t, wl_l, wl_t, wk_n, wl_n, bg_n, fin_newL, nf2, pe, on_ok2]
    exact exs_asg hne rfl
  refine run_next (v1 := [some (.fz (madeD z hours x)), some (rows ms), some (.fz sk), some (.fz day), some plO, none, none, none, none, none]) ?_ ?_
  · have k1 : ∀ v, attF T (callN T (n + 5)) 764 (.fz day) v = .ok (.fz (.bl true)) v := fun _ => a764
    have k2 : ∀ v, attF T (callN T (n + 5)) 866 (.fz day) v = .ok (.fz (.str "firm")) v := fun _ => a866
    have k3 : isTy T.sup (.fz (.bl true)) .bool = true := rfl
    have k4 : knownC T (.fz (.bl true)) = true := rfl
    have k5 : (("firm" : Str) == ("firm" : Str)) = true := by simp
    simp only [exss, exs, ev, evs, evv, evI, evc, evo, E.pur, EL.pur, OE.pur, g0, g1, g2, g3, g4, g5, g6, g7, g8, g9, g10, g11, s0, s1, s2, s3, s4, s5, s6, s7, s8, s9, s10, s11, at_fz, at_lst, at_obj, bind_ok, bind_exc, fl_ok, fl_exc, of_some, held_fz, held_tmp, held_vw, held_t, new_fz, new_lst, new_obj, own_fz, own_tmp, fin_fz, fin_tmp, tr_bl, tr_int, tr_non, c_lt, c_le, c_gt, c_ge, c_eqi, c_nei, c_eqs, c_nes, c_is0, c_isi, c_isl, c_isnt0, c_isnti, c_isntl, o_add, o_sub, b_lenl, b_lent, b_lenm, b_lenv, b_int, b_bool, b_tupt, b_tupl, b_tupm, b_listt, b_listl, cf0, cf1, cf2, cf3, cf4, cf5, oc_ok, oc_exc, tb_none, tb_some, tb_nil, Option.map_some, Bool.not_true, Bool.not_false, Bool.and_self, Bool.and_true, Bool.true_and, if_true, List.map_cons, List.map_nil, List.nil_append, List.cons_append, Nat.reduceSub, Nat.sub_self, List.replicate_zero, List.replicate_succ, List.append_nil, fi0, fi1, fi2, fi3, fi4, fi5, it_l, it_t, sl_l, sl_t, wk_l, wk_t, wl_l, wl_t, wk_n, wl_n, bg_n, fin_newL, k1, k2, k3, k4, k5, List.any_cons, List.any_nil, Bool.or_false]
  obtain ⟨v2, f1, f2⟩ := for_inv (g := .n 5) (body := exss T (callN T (n + 5)) none n2O) (fun rest v => ∃ pl x5 x6 x7 x8, pl.frz = planD day ∧ v = nE (madeD z hours x) ms sk day pl x5 x6 x7 x8 none ∧ ∀ d ∈ rest, ∃ j : Nat, (j : Int) < z ∧ d = .int (j : Int))
    (ds := rng 0 (z.toNat : Int)) (v := nE (madeD z hours x) ms sk day plO none none none none none) ⟨plO, none, none, none, none, rfl, rfl, fun d hd => by
      obtain ⟨j, hj, e⟩ := rng_ints hd
      exact ⟨j, by omega, e⟩⟩ (by
      rintro d rest v ⟨pl, x5, x6, x7, x8, hp, rfl, hd⟩
      obtain ⟨j, hj, rfl⟩ := hd d List.mem_cons_self
      obtain ⟨pl', y6, y7, y8, q1, q2⟩ := n2_house (n := n) (h := (j : Int)) (made := madeD z hours x) (sk := sk) (day := day) (x6 := x6) (x7 := x7) (x8 := x8) hb hD.ok hD.len hD.z1 rfl (by omega) hj hp
      exact ⟨_, _, rfl, .inl q2, pl', _, y6, y7, y8, q1, rfl, fun d h => hd d (List.mem_cons_of_mem _ h)⟩)
  obtain ⟨pl, x5, x6, x7, x8, _, rfl, _⟩ := f2
  have hz : (z.toNat : Int) = z := by omega
  rw [hz] at f1
  refine run_next (exs_for (ev_rng1 (i := z) (v1 := nE (madeD z hours x) ms sk day plO none none none none none) (by simp only [exss, exs, ev, evs, evv, evI, evc, evo, E.pur, EL.pur, OE.pur, g0, g1, g2, g3, g4, g5, g6, g7, g8, g9, g10, g11, s0, s1, s2, s3, s4, s5, s6, s7, s8, s9, s10, s11, at_fz, at_lst, at_obj, bind_ok, bind_exc, fl_ok, fl_exc, of_some, held_fz, held_tmp, held_vw, held_t, new_fz, new_lst, new_obj, own_fz, own_tmp, fin_fz, fin_tmp, tr_bl, tr_int, tr_non, c_lt, c_le, c_gt, c_ge, c_eqi, c_nei, c_eqs, c_nes, c_is0, c_isi, c_isl, c_isnt0, c_isnti, c_isntl, o_add, o_sub, b_lenl, b_lent, b_lenm, b_lenv, b_int, b_bool, b_tupt, b_tupl, b_tupm, b_listt, b_listl, cf0, cf1, cf2, cf3, cf4, cf5, oc_ok, oc_exc, tb_none, tb_some, tb_nil, Option.map_some, Bool.not_true, Bool.not_false, Bool.and_self, Bool.and_true, Bool.true_and, if_true, List.map_cons, List.map_nil, List.nil_append, List.cons_append, Nat.reduceSub, Nat.sub_self, List.replicate_zero, List.replicate_succ, List.append_nil, fi0, fi1, fi2, fi3, fi4, fi5, it_l, it_t, sl_l, sl_t, wk_l, wk_t, wl_l, wl_t, wk_n, wl_n, bg_n, fin_newL, i0]) (inR z0 (by have := hD.z1; omega))) f1) ?_
  exact (run_ret (x := .fz (.bl true)) (v1 := nE (madeD z hours x) ms sk day pl x5 x6 x7 x8 none) rfl rfl).trans rfl
end
end Pv.Pl

set_option Elab.async false
set_option linter.all false
set_option maxRecDepth 100000
/-! P15: the law. -/
namespace Pv.Pl
open PySem

def Sk (size : Int) (d : D) : Prop := d = .non ∨ ∃ bs, d = .lst bs ∧ (∀ b ∈ bs, BagOk b) ∧ (bs.length : Int) = size
section
variable {size hours : Int} {ms : List M5} {n : Nat}
theorem dayT {ms' : List M5} {ds : List D} {sk : D} (hM : Made size hours ms) (hs : Sk size sk) (hR : Rows ms' ds) (hl : ms'.length ≤ ms.length) (hm : ∀ m ∈ ms', m ∈ ms) : ∃ bg, DayIn true size hours ms' ds sk bg := by
  have hlen := hM.len
  rcases hs with rfl | ⟨bs, rfl, hb, hz⟩
  · exact ⟨_, hM.s0, hM.s1, hM.h0, hM.h1, hR, fun m h => hM.ok m (hm m h), by omega, .inl ⟨rfl, rfl⟩⟩
  · exact ⟨bs, hM.s0, hM.s1, hM.h0, hM.h1, hR, fun m h => hM.ok m (hm m h), by omega, .inr ⟨bs, rfl, rfl, hb, hz, rfl⟩⟩
theorem dayF {ds : List D} (hM : Made size hours ms) (hR : Rows ms ds) : DayIn false size hours ms ds .non (List.replicate size.toNat .non) := ⟨hM.s0, hM.s1, hM.h0, hM.h1, hR, hM.ok, hM.len, .inl ⟨rfl, rfl⟩⟩
theorem pl_non {f : Bool} {ms' : List M5} {ds : List D} {sk x : D} {bg : List D} (hD : DayIn f size hours ms' ds sk bg) (hb : f = true → ∀ i < ms'.length, bad ms' i = false) (v : Env) : callF (callN T (n + 6)) 1007 [.val (madeD size hours x), .val (.lst ds), .val sk, .val (.bl f)] v = .ok (.fz .non) v := by
  obtain ⟨os, e⟩ := place_non (n := n) (x := x) hD hb
  rw [cf4, e, oc_ok, tbn4, new_fz]
theorem pl_at {ms' : List M5} {ds : List D} {sk x : D} {bg : List D} (hD : DayIn true size hours ms' ds sk bg) (k : Nat) (hk : k < ms'.length) (hbk : bad ms' k = true) (hb : ∀ i < k, bad ms' i = false) (v : Env) : callF (callN T (n + 6)) 1007 [.val (madeD size hours x), .val (.lst ds), .val sk, .val (.bl true)] v = .ok (.fz (.int (k : Int))) v := by
  obtain ⟨os, e⟩ := place_at (n := n) (x := x) hD k hk hbk hb
  rw [cf4, e, oc_ok, tbn4, new_fz]
abbrev LE (s : D) (dr : O) (made : Option O) (ms : List M5) (sk x5 x6 x7 x9 : Option O) : Env := [some (.fz s), some dr, made, some (rows ms), sk, x5, x6, x7, none, x9]
theorem pickB {r : Int} (h0 : 0 ≤ r) (h1 : r < 3) : ∃ d, BagOk d ∧ item (newL [.non, .int 1, .int 5]) (.fz (.int r)) = some (.fz d) := by
  rcases (by omega : r = 0 ∨ r = 1 ∨ r = 2) with rfl | rfl | rfl
  · exact ⟨.non, .inl rfl, rfl⟩
  · exact ⟨.int 1, .inr ⟨1, rfl, by decide, by decide⟩, rfl⟩
  · exact ⟨.int 5, .inr ⟨5, rfl, by decide, by decide⟩, rfl⟩
/-- the bags -/
theorem sacks_ok (s : D) (row : List Int) (a : Nat) (hM : Made size hours ms) : ∃ (a' : Nat) (bs : List D), (∀ b ∈ bs, BagOk b) ∧ (bs.length : Int) = size ∧
    ev T (callN T (n + 1)) none (.lc [5] (.n 5) (.rng1 (.ix (.v 2) (.c (.int 0)))) .no (.ix (.lst (.cons (.c .non) (.cons (.c (.int 1)) (.cons (.c (.int 5)) .nil)))) (.call 1001 (.ref 1 (.cons (.c (.int 3)) .nil))))) (LE s (drO row a) (some (madeO size hours ms)) ms (some (.fz .non)) none none none none) =
      .ok (.tmp (.lst (bs.map .fz))) (LE s (drO row a') (some (madeO size hours ms)) ms (some (.fz .non)) none none none none) := by
  have z0 : 0 ≤ size := by have := hM.s0; omega
  have hz : (size.toNat : Int) = size := by omega
  have it : evI T (callN T (n + 1)) none (.rng1 (.ix (.v 2) (.c (.int 0)))) (LE s (drO row a) (some (madeO size hours ms)) ms (some (.fz .non)) none none none none) = .ok (rng 0 (size.toNat : Int)) (LE s (drO row a) (some (madeO size hours ms)) ms (some (.fz .non)) none none none none) := by
    rw [hz]
    exact ev_rng1 rfl (inR z0 (by have := hM.s1; omega))
  obtain ⟨acc, v2, e, acc', a', bs, y, h1, h2, h3, h4⟩ : ∃ acc v2, lcLoop (fun d v => match bindG (.n 5) d (wipe [5] v) with
      | some v => (evc T (callN T (n + 1)) none .no v).bind fun b v => match b with
        | true => (ev T (callN T (n + 1)) none (.ix (.lst (.cons (.c .non) (.cons (.c (.int 1)) (.cons (.c (.int 5)) .nil)))) (.call 1001 (.ref 1 (.cons (.c (.int 3)) .nil)))) v).bind fun x v => match x.own with
          | some o => .ok (some o) v
          | none => .bad
        | false => .ok none v
      | none => .bad) (rng 0 (size.toNat : Int)) [] (LE s (drO row a) (some (madeO size hours ms)) ms (some (.fz .non)) none none none none) = .ok acc v2 ∧ ∃ (acc' : List O) (a' : Nat) (bs : List D) (y : Option O), acc = acc' ∧ acc' = bs.map O.fz ∧ ((∀ b ∈ bs, BagOk b) ∧ bs.length + ([] : List D).length = size.toNat) ∧ v2 = LE s (drO row a') (some (madeO size hours ms)) ms (some (.fz .non)) y none none none := by
    obtain ⟨acc, v2, e, a', bs, y, i1, i2, i3, i4⟩ := lc_map (step := fun d v => match bindG (.n 5) d (wipe [5] v) with
      | some v => (evc T (callN T (n + 1)) none .no v).bind fun b v => match b with
        | true => (ev T (callN T (n + 1)) none (.ix (.lst (.cons (.c .non) (.cons (.c (.int 1)) (.cons (.c (.int 5)) .nil)))) (.call 1001 (.ref 1 (.cons (.c (.int 3)) .nil)))) v).bind fun x v => match x.own with
          | some o => .ok (some o) v
          | none => .bad
        | false => .ok none v
      | none => .bad) (fun rest acc v => ∃ (a' : Nat) (bs : List D) (y : Option O), acc = bs.map O.fz ∧ (∀ b ∈ bs, BagOk b) ∧ bs.length + rest.length = size.toNat ∧ v = LE s (drO row a') (some (madeO size hours ms)) ms (some (.fz .non)) y none none none)
      (ds := rng 0 (size.toNat : Int)) (acc := []) (v := LE s (drO row a) (some (madeO size hours ms)) ms (some (.fz .non)) none none none none) ⟨a, [], none, rfl, (fun b h => by cases h), by rw [rng_nat, List.length_map, List.length_range, List.length_nil, Nat.zero_add], rfl⟩ (by
        rintro d rest acc v ⟨a', bs, y, rfl, hb, hl, rfl⟩
        obtain ⟨r, p, q, t⟩ := take1 n row a' 3 (by decide)
        obtain ⟨b, hbo, i⟩ := pickB p q
        rw [List.length_cons] at hl
        refine ⟨by rw [List.length_map]; have := PySem.sizeLine_eq; have := hM.s1; omega, .fz b, LE s (drO row (a' + 1)) (some (madeO size hours ms)) ms (some (.fz .non)) (some (.fz d)) none none none, ?_, a' + 1, bs ++ [b], some (.fz d), by rw [List.map_append]; rfl, fun b' h => ?_, by rw [List.length_append, List.length_singleton]; omega, rfl⟩
        · have w : bindG (.n 5) d (wipe [5] (LE s (drO row a') (some (madeO size hours ms)) ms (some (.fz .non)) y none none none)) = some (LE s (drO row a') (some (madeO size hours ms)) ms (some (.fz .non)) (some (.fz d)) none none none) := rfl
          have ee : ev T (callN T (n + 1)) none (.ix (.lst (.cons (.c .non) (.cons (.c (.int 1)) (.cons (.c (.int 5)) .nil)))) (.call 1001 (.ref 1 (.cons (.c (.int 3)) .nil)))) (LE s (drO row a') (some (madeO size hours ms)) ms (some (.fz .non)) (some (.fz d)) none none none) = .ok (.fz b) (LE s (drO row (a' + 1)) (some (madeO size hours ms)) ms (some (.fz .non)) (some (.fz d)) none none none) := by
            simp only [exss, exs, ev, evs, evv, evI, evc, evo, E.pur, EL.pur, OE.pur, g0, g1, g2, g3, g4, g5, g6, g7, g8, g9, g10, g11, s0, s1, s2, s3, s4, s5, s6, s7, s8, s9, s10, s11, at_fz, at_lst, at_obj, bind_ok, bind_exc, fl_ok, fl_exc, of_some, held_fz, held_tmp, held_vw, held_t, new_fz, new_lst, new_obj, own_fz, own_tmp, fin_fz, fin_tmp, tr_bl, tr_int, tr_non, c_lt, c_le, c_gt, c_ge, c_eqi, c_nei, c_eqs, c_nes, c_is0, c_isi, c_isl, c_isnt0, c_isnti, c_isntl, o_add, o_sub, b_lenl, b_lent, b_lenm, b_lenv, b_int, b_bool, b_tupt, b_tupl, b_tupm, b_listt, b_listl, cf0, cf1, cf2, cf3, cf4, cf5, oc_ok, oc_exc, tb_none, tb_some, tb_nil, Option.map_some, Bool.not_true, Bool.not_false, Bool.and_self, Bool.and_true, Bool.true_and, if_true, List.map_cons, List.map_nil, List.nil_append, List.cons_append, Nat.reduceSub, Nat.sub_self, List.replicate_zero, List.replicate_succ, List.append_nil, fi0, fi1, fi2, fi3, fi4, fi5, it_l, it_t, sl_l, sl_t, wk_l, wk_t, wl_l, wl_t, wk_n, wl_n, bg_n, fin_newL, held_n, t, i]
          simp only [w, evc, bind_ok, ee, own_fz]
        · rcases List.mem_append.mp h with h | h
          · exact hb b' h
          · rw [List.mem_singleton.mp h]; exact hbo)
    exact ⟨acc, v2, e, acc, a', bs, y, rfl, i1, ⟨i2, i3⟩, i4⟩
  refine ⟨a', bs, h3.1, by have := h3.2; rw [List.length_nil] at this; omega, ?_⟩
  subst h1 h2 h4
  rw [ev, it, bind_ok]
  refine (congrArg (fun r : R (List O) => r.bind fun os v' => R.ok (Val.tmp (.lst os)) (backOwn [5] (LE s (drO row a) (some (madeO size hours ms)) ms (some (.fz .non)) none none none none) v')) e).trans ?_
  rfl
theorem frz_rows : ∀ ms : List M5, O.frzs (ms.map fun m => O.lst (m.xs.map .fz)) = ms.map fun m => D.lst m.xs
  | [] => rfl
  | m :: ms => by
    rw [List.map_cons, List.map_cons, O.frzs, frz_rows ms]
    rfl
/-- [list(meet) for meet in meets] -/
theorem lists_ok (P : Fn) (s : D) (dr : O) (made sk x5 x6 x7 x9 : Option O) (hl : ms.length ≤ 60) : ∃ o, o.frz = .lst (ms.map fun m => D.lst m.xs) ∧ ev T P none (.lc [8] (.n 8) (.seq (.v 3)) .no (.bi .list (.cons (.v 8) .nil))) (LE s dr made ms sk x5 x6 x7 x9) = .ok (.tmp o) (LE s dr made ms sk x5 x6 x7 x9) := by
  refine ⟨.lst (ms.map fun m => O.lst (m.xs.map .fz)), ?_, ?_⟩
  · show D.lst (O.frzs _) = _
    rw [frz_rows]
  have lc := ev_lcA (T := T) (P := P) (X := none) (own := [8]) (g := .n 8) (it := .seq (.v 3)) (e := .bi .list (.cons (.v 8) .nil)) (ds := ms.map M5.t) (v := LE s dr made ms sk x5 x6 x7 x9) (v1 := LE s dr made ms sk x5 x6 x7 x9)
    (fun d => [some (.fz s), some dr, made, some (rows ms), sk, x5, x6, x7, some (.fz d), x9]) (fun d => match d with
      | .tup xs => O.lst (xs.map .fz)
      | d => .fz d) (by simp only [exss, exs, ev, evs, evv, evI, evc, evo, E.pur, EL.pur, OE.pur, g0, g1, g2, g3, g4, g5, g6, g7, g8, g9, g10, g11, s0, s1, s2, s3, s4, s5, s6, s7, s8, s9, s10, s11, at_fz, at_lst, at_obj, bind_ok, bind_exc, fl_ok, fl_exc, of_some, held_fz, held_tmp, held_vw, held_t, new_fz, new_lst, new_obj, own_fz, own_tmp, fin_fz, fin_tmp, tr_bl, tr_int, tr_non, c_lt, c_le, c_gt, c_ge, c_eqi, c_nei, c_eqs, c_nes, c_is0, c_isi, c_isl, c_isnt0, c_isnti, c_isntl, o_add, o_sub, b_lenl, b_lent, b_lenm, b_lenv, b_int, b_bool, b_tupt, b_tupl, b_tupm, b_listt, b_listl, cf0, cf1, cf2, cf3, cf4, cf5, oc_ok, oc_exc, tb_none, tb_some, tb_nil, Option.map_some, Bool.not_true, Bool.not_false, Bool.and_self, Bool.and_true, Bool.true_and, if_true, List.map_cons, List.map_nil, List.nil_append, List.cons_append, Nat.reduceSub, Nat.sub_self, List.replicate_zero, List.replicate_succ, List.append_nil, fi0, fi1, fi2, fi3, fi4, fi5, it_l, it_t, sl_l, sl_t, wk_l, wk_t, wl_l, wl_t, wk_n, wl_n, bg_n, fin_newL]) (by rw [List.length_map]; have := PySem.sizeLine_eq; omega) (fun _ _ => rfl) (fun _ _ _ _ => rfl) (fun d hd => by
      obtain ⟨m, _, rfl⟩ := List.mem_map.mp hd
      exact ⟨newL m.xs, ev_bi1 (x := .fz (.tup m.xs)) (by rfl) rfl, rfl⟩) rfl (fun _ _ => rfl)
  rw [List.map_map] at lc
  exact lc
theorem made_frz : (madeO size hours ms).frz = madeD size hours (.lst (ms.map M5.t)) := rfl
end
end Pv.Pl

set_option Elab.async false
set_option linter.all false
set_option maxRecDepth 100000
/-! P16: the law, from the meetings on. -/
namespace Pv.Pl
open PySem

section
variable {size hours : Int} {ms : List M5} {n : Nat} {s sk : D} {dr : O}
theorem ev_cc {P : Fn} {v : Env} {d : D} : ev T P none (.c d) v = .ok (.fz d) v := by simp only [ev]
abbrev LM (s : D) (dr : O) (size hours : Int) (ms : List M5) (sk : D) (x5 x6 x7 x9 : Option O) : Env := LE s dr (some (.fz (madeD size hours (.lst (ms.map M5.t))))) ms (some (.fz sk)) x5 x6 x7 x9
theorem b_maxi (a b : Int) : bi .max [.fz (.int a), .fz (.int b)] = some (.fz (.int (if b > a then b else a))) := rfl
/-- meets[:k] -/
theorem take_ev (P : Fn) (e : E) (k : Nat) (x5 x6 x7 x9 : Option O) (h : ev T P none e (LM s dr size hours ms sk x5 x6 x7 x9) = .ok (.fz (.int (k : Int))) (LM s dr size hours ms sk x5 x6 x7 x9)) : ev T P none (.sl (.v 3) .no (.yes e)) (LM s dr size hours ms sk x5 x6 x7 x9) = .ok (newL ((ms.take k).map M5.t)) (LM s dr size hours ms sk x5 x6 x7 x9) := by
  have h3 : ev T P none (.v 3) (LM s dr size hours ms sk x5 x6 x7 x9) = .ok (.fz (.lst (ms.map M5.t))) (LM s dr size hours ms sk x5 x6 x7 x9) := rfl
  rw [ev, h3, bind_ok, held_fz, evo, bind_ok, evo, h, bind_ok, bind_ok, sl_l, cut_take, of_some, List.map_take]
/-- _law_place(made, meets[:k], sacks, True) -/
theorem plcE (hM : Made size hours ms) (hs : Sk size sk) (e : E) (k : Nat) (x5 x6 x7 x9 : Option O) (h : ev T (callN T (n + 6)) none e (LM s dr size hours ms sk x5 x6 x7 x9) = .ok (.fz (.int (k : Int))) (LM s dr size hours ms sk x5 x6 x7 x9)) :
    ((∀ i < k, bad ms i = false) → k ≤ ms.length → ev T (callN T (n + 6)) none (.call 1007 (.cons (.v 2) (.cons (.sl (.v 3) .no (.yes e)) (.cons (.v 4) (.cons (.c (.bl true)) .nil))))) (LM s dr size hours ms sk x5 x6 x7 x9) = .ok (.fz .non) (LM s dr size hours ms sk x5 x6 x7 x9)) ∧
    (∀ j, j < k → k ≤ ms.length → bad ms j = true → (∀ i < j, bad ms i = false) → ev T (callN T (n + 6)) none (.call 1007 (.cons (.v 2) (.cons (.sl (.v 3) .no (.yes e)) (.cons (.v 4) (.cons (.c (.bl true)) .nil))))) (LM s dr size hours ms sk x5 x6 x7 x9) = .ok (.fz (.int (j : Int))) (LM s dr size hours ms sk x5 x6 x7 x9)) := by
  have es : evs T (callN T (n + 6)) none (.cons (.v 2) (.cons (.sl (.v 3) .no (.yes e)) (.cons (.v 4) (.cons (.c (.bl true)) .nil)))) (LM s dr size hours ms sk x5 x6 x7 x9) = .ok [.val (madeD size hours (.lst (ms.map M5.t))), .val (.lst ((ms.take k).map M5.t)), .val sk, .val (.bl true)] (LM s dr size hours ms sk x5 x6 x7 x9) :=
    evs_cons (x := .fz (madeD size hours (.lst (ms.map M5.t)))) rfl rfl (evs_cons (take_ev _ e k x5 x6 x7 x9 h) (fin_newL _) (evs_cons (x := .fz sk) rfl rfl (evs_cons (x := .fz (.bl true)) ev_cc rfl evs_nil)))
  have hR : Rows (ms.take k) ((ms.take k).map M5.t) := rows_self _
  obtain ⟨bg, hD⟩ := dayT (sk := sk) hM hs hR (by rw [List.length_take]; omega) fun m h => List.mem_of_mem_take h
  refine ⟨fun hb hk => ?_, fun j hj hk hbj hb => ?_⟩
  · rw [ev_call es]
    exact pl_non hD (fun _ i hi => by
      rw [List.length_take] at hi
      rw [bad_take (by omega)]
      exact hb i (by omega)) _
  · rw [ev_call es]
    exact pl_at hD j (by rw [List.length_take]; omega) (by rw [bad_take hj]; exact hbj) (fun i hi => by rw [bad_take (by omega)]; exact hb i hi) _
def endS : SL := (.cons (.frz 2) (.cons (.ife (.cm .isnt (.call 1007 (.cons (.v 2) (.cons (.bi .list (.cons (.v 3) .nil)) (.cons (.c .non) (.cons (.c (.bl false)) .nil))))) (.c .non)) (.cons (.ret (.c (.bl false))) .nil) .nil) (.cons (.fr (.n 9) (.rng2 (.bi .max (.cons (.c (.int 0)) (.cons (.o2 .sub (.v 6) (.c (.int 4))) .nil))) (.o2 .add (.v 6) (.c (.int 1)))) (.cons (.frz 2) (.cons (.frz 4) (.cons (.ife (.cm .isnt (.call 1007 (.cons (.v 2) (.cons (.sl (.v 3) .no (.yes (.v 9))) (.cons (.v 4) (.cons (.c (.bl true)) .nil))))) (.c .non)) (.cons (.ret (.c (.bl false))) .nil) .nil) .nil)))) (.cons (.frz 2) (.cons (.frz 4) (.cons (.ife (.ta (.cm .lt (.o2 .add (.v 6) (.c (.int 1))) (.bi .len (.cons (.v 3) .nil))) (.cm .ne (.call 1007 (.cons (.v 2) (.cons (.sl (.v 3) .no (.yes (.o2 .add (.v 6) (.c (.int 1))))) (.cons (.v 4) (.cons (.c (.bl true)) .nil))))) (.v 6))) (.cons (.ret (.c (.bl false))) .nil) .nil) (.cons (.frz 2) (.cons (.frz 4) (.cons (.ret (.call 1008 (.cons (.v 2) (.cons (.sl (.v 3) .no (.yes (.v 6))) (.cons (.v 4) .nil))))) .nil)))))))))
theorem frz2 (P : Fn) (x5 x6 x7 x9 : Option O) : exs T P none (.frz 2) (LM s dr size hours ms sk x5 x6 x7 x9) = .next (LM s dr size hours ms sk x5 x6 x7 x9) := exs_frz (o := .fz (madeD size hours (.lst (ms.map M5.t)))) rfl
theorem frz4 (P : Fn) (x5 x6 x7 x9 : Option O) : exs T P none (.frz 4) (LM s dr size hours ms sk x5 x6 x7 x9) = .next (LM s dr size hours ms sk x5 x6 x7 x9) := exs_frz (o := .fz sk) rfl
theorem end_ok (hM : Made size hours ms) (hs : Sk size sk) (K : Nat) (hK : K ≤ ms.length) (hb : ∀ i < K, bad ms i = false) (hbK : K < ms.length → bad ms K = true) (x5 x7 x9 : Option O) : ∃ os, (exss T (callN T (n + 6)) none endS (LM s dr size hours ms sk x5 (some (.fz (.int (K : Int)))) x7 x9)).cr 1 f_law.body.sl = .ok (.fz (.bl true)) os := by
  have hlen := hM.len
  refine ⟨[some (.fz s)], run_next (frz2 _ _ _ _ _) ?_⟩
  refine run_next (v1 := LM s dr size hours ms sk x5 (some (.fz (.int (K : Int)))) x7 x9) ?_ ?_
  · have es : evs T (callN T (n + 6)) none (.cons (.v 2) (.cons (.bi .list (.cons (.v 3) .nil)) (.cons (.c .non) (.cons (.c (.bl false)) .nil)))) (LM s dr size hours ms sk x5 (some (.fz (.int (K : Int)))) x7 x9) = .ok [.val (madeD size hours (.lst (ms.map M5.t))), .val (.lst (ms.map M5.t)), .val .non, .val (.bl false)] (LM s dr size hours ms sk x5 (some (.fz (.int (K : Int)))) x7 x9) :=
      evs_cons (x := .fz (madeD size hours (.lst (ms.map M5.t)))) rfl rfl (evs_cons (ev_bi1 (x := .fz (.lst (ms.map M5.t))) (by rfl) b_listl) (fin_newL _) (evs_cons (x := .fz .non) ev_cc rfl (evs_cons (x := .fz (.bl false)) ev_cc rfl evs_nil)))
    have e := (ev_call (f := 1007) es).trans (pl_non (n := n) (dayF hM (rows_self ms)) (fun z => by cases z) _)
    refine exs_if0 (x := .fz (.bl false)) (v1 := LM s dr size hours ms sk x5 (some (.fz (.int (K : Int)))) x7 x9) (ev_cm e ev_cc rfl) rfl ss_nil
  have hi : ∃ lo : Nat, (if (K : Int) - 4 > 0 then (K : Int) - 4 else 0) = (lo : Int) ∧ lo ≤ K := by
    by_cases h : (K : Int) - 4 > 0
    · exact ⟨K - 4, by rw [if_pos h]; omega, by omega⟩
    · exact ⟨0, by rw [if_neg h]; rfl, by omega⟩
  obtain ⟨lo, hlo, hlo2⟩ := hi
  have it : evI T (callN T (n + 6)) none (.rng2 (.bi .max (.cons (.c (.int 0)) (.cons (.o2 .sub (.v 6) (.c (.int 4))) .nil))) (.o2 .add (.v 6) (.c (.int 1)))) (LM s dr size hours ms sk x5 (some (.fz (.int (K : Int)))) x7 x9) = .ok (rng (lo : Int) ((K : Int) + 1)) (LM s dr size hours ms sk x5 (some (.fz (.int (K : Int)))) x7 x9) := by
    refine ev_rng2 (v1 := LM s dr size hours ms sk x5 (some (.fz (.int (K : Int)))) x7 x9) ?_ (by simp only [exss, exs, ev, evs, evv, evI, evc, evo, E.pur, EL.pur, OE.pur, g0, g1, g2, g3, g4, g5, g6, g7, g8, g9, g10, g11, s0, s1, s2, s3, s4, s5, s6, s7, s8, s9, s10, s11, at_fz, at_lst, at_obj, bind_ok, bind_exc, fl_ok, fl_exc, of_some, held_fz, held_tmp, held_vw, held_t, new_fz, new_lst, new_obj, own_fz, own_tmp, fin_fz, fin_tmp, tr_bl, tr_int, tr_non, c_lt, c_le, c_gt, c_ge, c_eqi, c_nei, c_eqs, c_nes, c_is0, c_isi, c_isl, c_isnt0, c_isnti, c_isntl, o_add, o_sub, b_lenl, b_lent, b_lenm, b_lenv, b_int, b_bool, b_tupt, b_tupl, b_tupm, b_listt, b_listl, cf0, cf1, cf2, cf3, cf4, cf5, oc_ok, oc_exc, tb_none, tb_some, tb_nil, Option.map_some, Bool.not_true, Bool.not_false, Bool.and_self, Bool.and_true, Bool.true_and, if_true, List.map_cons, List.map_nil, List.nil_append, List.cons_append, Nat.reduceSub, Nat.sub_self, List.replicate_zero, List.replicate_succ, List.append_nil, fi0, fi1, fi2, fi3, fi4, fi5, it_l, it_t, sl_l, sl_t, wk_l, wk_t, wl_l, wl_t, wk_n, wl_n, bg_n, fin_newL]) (inR (by omega) (by omega)) (inR (by omega) (by omega))
    simp only [exss, exs, ev, evs, evv, evI, evc, evo, E.pur, EL.pur, OE.pur, g0, g1, g2, g3, g4, g5, g6, g7, g8, g9, g10, g11, s0, s1, s2, s3, s4, s5, s6, s7, s8, s9, s10, s11, at_fz, at_lst, at_obj, bind_ok, bind_exc, fl_ok, fl_exc, of_some, held_fz, held_tmp, held_vw, held_t, new_fz, new_lst, new_obj, own_fz, own_tmp, fin_fz, fin_tmp, tr_bl, tr_int, tr_non, c_lt, c_le, c_gt, c_ge, c_eqi, c_nei, c_eqs, c_nes, c_is0, c_isi, c_isl, c_isnt0, c_isnti, c_isntl, o_add, o_sub, b_lenl, b_lent, b_lenm, b_lenv, b_int, b_bool, b_tupt, b_tupl, b_tupm, b_listt, b_listl, cf0, cf1, cf2, cf3, cf4, cf5, oc_ok, oc_exc, tb_none, tb_some, tb_nil, Option.map_some, Bool.not_true, Bool.not_false, Bool.and_self, Bool.and_true, Bool.true_and, if_true, List.map_cons, List.map_nil, List.nil_append, List.cons_append, Nat.reduceSub, Nat.sub_self, List.replicate_zero, List.replicate_succ, List.append_nil, fi0, fi1, fi2, fi3, fi4, fi5, it_l, it_t, sl_l, sl_t, wk_l, wk_t, wl_l, wl_t, wk_n, wl_n, bg_n, fin_newL, b_maxi, hlo]
  obtain ⟨v2, f1, f2⟩ := for_inv (g := .n 9) (body := exss T (callN T (n + 6)) none (.cons (.frz 2) (.cons (.frz 4) (.cons (.ife (.cm .isnt (.call 1007 (.cons (.v 2) (.cons (.sl (.v 3) .no (.yes (.v 9))) (.cons (.v 4) (.cons (.c (.bl true)) .nil))))) (.c .non)) (.cons (.ret (.c (.bl false))) .nil) .nil) .nil)))) (fun rest v => (∃ x9, v = LM s dr size hours ms sk x5 (some (.fz (.int (K : Int)))) x7 x9) ∧ ∀ d ∈ rest, ∃ j : Nat, j ≤ K ∧ d = .int (j : Int))
    (ds := rng (lo : Int) ((K : Int) + 1)) (v := LM s dr size hours ms sk x5 (some (.fz (.int (K : Int)))) x7 x9) ⟨⟨x9, rfl⟩, fun d hd => by
      unfold rng at hd
      obtain ⟨j, hj, rfl⟩ := List.mem_map.mp hd
      have := List.mem_range.mp hj
      exact ⟨lo + j, by omega, by rw [Int.natCast_add]⟩⟩ (by
      rintro d rest v ⟨⟨x9, rfl⟩, hd⟩
      obtain ⟨j, hj, rfl⟩ := hd d List.mem_cons_self
      refine ⟨LM s dr size hours ms sk x5 (some (.fz (.int (K : Int)))) x7 (some (.fz (.int (j : Int)))), LM s dr size hours ms sk x5 (some (.fz (.int (K : Int)))) x7 (some (.fz (.int (j : Int)))), rfl, .inl ?_, ⟨_, rfl⟩, fun d h => hd d (List.mem_cons_of_mem _ h)⟩
      have e := (plcE (n := n) (s := s) (dr := dr) hM hs (.v 9) j x5 (some (.fz (.int (K : Int)))) x7 (some (.fz (.int (j : Int)))) (by rfl)).1 (fun i h => hb i (by omega)) (by omega)
      rw [ss_next (frz2 _ _ _ _ _), ss_next (frz4 _ _ _ _ _), ss_next (exs_if0 (x := .fz (.bl false)) (ev_cm e ev_cc rfl) rfl ss_nil), ss_nil])
  obtain ⟨⟨y9, rfl⟩, _⟩ := f2
  refine run_next (exs_for it f1) (run_next (frz2 _ _ _ _ _) (run_next (frz4 _ _ _ _ _) ?_))
  refine run_next (v1 := LM s dr size hours ms sk x5 (some (.fz (.int (K : Int)))) x7 y9) ?_ ?_
  · have t : ev T (callN T (n + 6)) none (.cm .lt (.o2 .add (.v 6) (.c (.int 1))) (.bi .len (.cons (.v 3) .nil))) (LM s dr size hours ms sk x5 (some (.fz (.int (K : Int)))) x7 y9) = .ok (.fz (.bl (decide ((K : Int) + 1 < (ms.length : Int))))) (LM s dr size hours ms sk x5 (some (.fz (.int (K : Int)))) x7 y9) := by
      simp only [exss, exs, ev, evs, evv, evI, evc, evo, E.pur, EL.pur, OE.pur, g0, g1, g2, g3, g4, g5, g6, g7, g8, g9, g10, g11, s0, s1, s2, s3, s4, s5, s6, s7, s8, s9, s10, s11, at_fz, at_lst, at_obj, bind_ok, bind_exc, fl_ok, fl_exc, of_some, held_fz, held_tmp, held_vw, held_t, new_fz, new_lst, new_obj, own_fz, own_tmp, fin_fz, fin_tmp, tr_bl, tr_int, tr_non, c_lt, c_le, c_gt, c_ge, c_eqi, c_nei, c_eqs, c_nes, c_is0, c_isi, c_isl, c_isnt0, c_isnti, c_isntl, o_add, o_sub, b_lenl, b_lent, b_lenm, b_lenv, b_int, b_bool, b_tupt, b_tupl, b_tupm, b_listt, b_listl, cf0, cf1, cf2, cf3, cf4, cf5, oc_ok, oc_exc, tb_none, tb_some, tb_nil, Option.map_some, Bool.not_true, Bool.not_false, Bool.and_self, Bool.and_true, Bool.true_and, if_true, List.map_cons, List.map_nil, List.nil_append, List.cons_append, Nat.reduceSub, Nat.sub_self, List.replicate_zero, List.replicate_succ, List.append_nil, fi0, fi1, fi2, fi3, fi4, fi5, it_l, it_t, sl_l, sl_t, wk_l, wk_t, wl_l, wl_t, wk_n, wl_n, bg_n, fin_newL, List.length_map]
    by_cases h : K + 1 < ms.length
    · rw [decide_eq_true (show (K : Int) + 1 < (ms.length : Int) by omega)] at t
      have e := (plcE (n := n) (s := s) (dr := dr) hM hs (.o2 .add (.v 6) (.c (.int 1))) (K + 1) x5 (some (.fz (.int (K : Int)))) x7 y9 (by simp only [exss, exs, ev, evs, evv, evI, evc, evo, E.pur, EL.pur, OE.pur, g0, g1, g2, g3, g4, g5, g6, g7, g8, g9, g10, g11, s0, s1, s2, s3, s4, s5, s6, s7, s8, s9, s10, s11, at_fz, at_lst, at_obj, bind_ok, bind_exc, fl_ok, fl_exc, of_some, held_fz, held_tmp, held_vw, held_t, new_fz, new_lst, new_obj, own_fz, own_tmp, fin_fz, fin_tmp, tr_bl, tr_int, tr_non, c_lt, c_le, c_gt, c_ge, c_eqi, c_nei, c_eqs, c_nes, c_is0, c_isi, c_isl, c_isnt0, c_isnti, c_isntl, o_add, o_sub, b_lenl, b_lent, b_lenm, b_lenv, b_int, b_bool, b_tupt, b_tupl, b_tupm, b_listt, b_listl, cf0, cf1, cf2, cf3, cf4, cf5, oc_ok, oc_exc, tb_none, tb_some, tb_nil, Option.map_some, Bool.not_true, Bool.not_false, Bool.and_self, Bool.and_true, Bool.true_and, if_true, List.map_cons, List.map_nil, List.nil_append, List.cons_append, Nat.reduceSub, Nat.sub_self, List.replicate_zero, List.replicate_succ, List.append_nil, fi0, fi1, fi2, fi3, fi4, fi5, it_l, it_t, sl_l, sl_t, wk_l, wk_t, wl_l, wl_t, wk_n, wl_n, bg_n, fin_newL]; rfl)).2 K (by omega) (by omega) (hbK (by omega)) hb
      have kk : ((K : Int) == (K : Int)) = true := by simp
      have c : cmp .ne (.fz (.int (K : Int))) (.fz (.int (K : Int))) = some false := by rw [c_nei, kk]; rfl
      exact exs_if0 (x := .fz (.bl false)) (ev_ta1 t rfl (ev_cm e (by rfl) c) rfl) rfl ss_nil
    · rw [decide_eq_false (show ¬ (K : Int) + 1 < (ms.length : Int) by omega)] at t
      exact exs_if0 (x := .fz (.bl false)) (ev_ta0 t rfl) rfl ss_nil
  refine run_next (frz2 _ _ _ _ _) (run_next (frz4 _ _ _ _ _) ?_)
  have es : evs T (callN T (n + 6)) none (.cons (.v 2) (.cons (.sl (.v 3) .no (.yes (.v 6))) (.cons (.v 4) .nil))) (LM s dr size hours ms sk x5 (some (.fz (.int (K : Int)))) x7 y9) = .ok [.val (madeD size hours (.lst (ms.map M5.t))), .val (.lst ((ms.take K).map M5.t)), .val sk] (LM s dr size hours ms sk x5 (some (.fz (.int (K : Int)))) x7 y9) :=
    evs_cons (x := .fz (madeD size hours (.lst (ms.map M5.t)))) rfl rfl (evs_cons (take_ev _ (.v 6) K _ _ _ _ (by rfl)) (fin_newL _) (evs_cons (x := .fz sk) rfl rfl evs_nil))
  obtain ⟨bg, hD⟩ := dayT (sk := sk) hM hs (rows_self (ms.take K)) (by rw [List.length_take]; omega) fun m h => List.mem_of_mem_take h
  obtain ⟨os, e⟩ := no_two_ok (n := n) (x := .lst (ms.map M5.t)) hD (fun i hi => by
    rw [List.length_take] at hi
    rw [bad_take (by omega)]
    exact hb i (by omega))
  refine (run_ret (x := .fz (.bl true)) (v1 := LM s dr size hours ms sk x5 (some (.fz (.int (K : Int)))) x7 y9) (o := .fz (.bl true)) ?_ rfl).trans rfl
  rw [ev_call es, cf3]
  have e : callN T (n + 6) 1008 [.fz (madeD size hours (.lst (ms.map M5.t))), .fz (.lst ((ms.take K).map M5.t)), .fz sk] = .ok (.fz (.bl true)) os := e
  rw [e, oc_ok, tbn3, new_fz]
end
end Pv.Pl

set_option Elab.async false
set_option linter.all false
set_option maxRecDepth 100000
/-! P17: the law, whole. -/
namespace Pv.Pl
open PySem

section
variable {size hours : Int} {ms : List M5} {n : Nat} {s sk : D}
/-- from the told place on -/
def restS : SL := .cons (.asg (.n 6) (.call 1006 (.cons (.v 3) .nil))) (.cons (.frz 2) (.cons (.frz 4) (.cons (.asg (.n 7) (.call 1007 (.cons (.v 2) (.cons (.lc [8] (.n 8) (.seq (.v 3)) .no (.bi .list (.cons (.v 8) .nil))) (.cons (.v 4) (.cons (.c (.bl true)) .nil)))))) (.cons (.ife (.cm .is (.v 6) (.c .non)) (.cons (.ife (.cm .isnt (.v 7) (.c .non)) (.cons (.ret (.c (.bl false))) .nil) .nil) (.cons (.asg (.n 6) (.bi .len (.cons (.v 3) .nil))) .nil)) (.cons (.frz 7) (.cons (.ife (.to (.nt (.call 1002 (.cons (.v 7) .nil))) (.cm .ne (.v 7) (.v 6))) (.cons (.ret (.c (.bl false))) .nil) .nil) .nil))) endS))))
theorem law_int (n : Nat) (i : Int) : callN T (n + 1) 1002 [.fz (.int i)] = .ok (.fz (.bl true)) [some (.fz (.int i))] := rfl
theorem rest_ok (hM : Made size hours ms) (hs : Sk size sk) (dr skO : O) (hsk : skO.frz = sk) (x5 : Option O) : ∃ os, (exss T (callN T (n + 6)) none restS (LE s dr (some (madeO size hours ms)) ms (some skO) x5 none none none)).cr 1 f_law.body.sl = .ok (.fz (.bl true)) os := by
  have hlen := hM.len
  obtain ⟨o, ho, lc⟩ := lists_ok (ms := ms) (callN T (n + 6)) s dr (some (.fz (madeD size hours (.lst (ms.map M5.t))))) (some (.fz sk)) x5
      (some (.fz .non)) none none hlen
  have f2 : ∀ x6 : Option O, exs T (callN T (n + 6)) none (.frz 2) (LE s dr (some (madeO size hours ms)) ms (some skO) x5 x6 none none) = .next (LE s dr (some (.fz (madeD size hours (.lst (ms.map M5.t))))) ms (some skO) x5 x6 none none) := fun x6 => exs_frz (o := madeO size hours ms) rfl
  have f4 : ∀ x6 : Option O, exs T (callN T (n + 6)) none (.frz 4) (LE s dr (some (.fz (madeD size hours (.lst (ms.map M5.t))))) ms (some skO) x5 x6 none none) = .next (LM s dr size hours ms sk x5 x6 none none) := fun x6 => by
    rw [← hsk]
    exact exs_frz (o := skO) rfl
  have c6 : ∀ (r : D), callN T (n + 6) 1006 [rows ms] = .ok (.fz r) [some (rows ms)] → exs T (callN T (n + 6)) none (.asg (.n 6) (.call 1006 (.cons (.v 3) .nil))) (LE s dr (some (madeO size hours ms)) ms (some skO) x5 none none none) = .next (LE s dr (some (madeO size hours ms)) ms (some skO) x5 (some (.fz r)) none none) := fun r h => by
    have e : evs T (callN T (n + 6)) none (.cons (.v 3) .nil) (LE s dr (some (madeO size hours ms)) ms (some skO) x5 none none none) = .ok [.val (.lst (ms.map M5.t))] (LE s dr (some (madeO size hours ms)) ms (some skO) x5 none none none) := evs_cons (x := .fz (.lst (ms.map M5.t))) rfl rfl evs_nil
    refine exs_asg (x := .fz r) (o := .fz r) (v1 := LE s dr (some (madeO size hours ms)) ms (some skO) x5 none none none) ?_ rfl
    rw [ev_call e, cf1, h, oc_ok, tbn1, new_fz]
  have es : ∀ x6 : Option O, evs T (callN T (n + 6)) none (.cons (.v 2) (.cons (.lc [8] (.n 8) (.seq (.v 3)) .no (.bi .list (.cons (.v 8) .nil))) (.cons (.v 4) (.cons (.c (.bl true)) .nil)))) (LM s dr size hours ms sk x5 x6 none none) = .ok [.val (madeD size hours (.lst (ms.map M5.t))), .val (.lst (ms.map fun m => D.lst m.xs)), .val sk, .val (.bl true)] (LM s dr size hours ms sk x5 x6 none none) := fun x6 => by
    obtain ⟨o, ho, lc⟩ := lists_ok (ms := ms) (callN T (n + 6)) s dr (some (.fz (madeD size hours (.lst (ms.map M5.t))))) (some (.fz sk)) x5 x6 none none hlen
    refine evs_cons (x := .fz (madeD size hours (.lst (ms.map M5.t)))) rfl rfl (evs_cons lc ?_ (evs_cons (x := .fz sk) rfl rfl (evs_cons (x := .fz (.bl true)) ev_cc rfl evs_nil)))
    show some o.frz = _
    rw [ho]
  obtain ⟨bg, hD⟩ := dayT (sk := sk) hM hs (rows_list ms) (Nat.le_refl _) fun m h => h
  rcases least_bad ms with hb | ⟨k, hk, hbk, hb⟩
  · obtain ⟨os, e⟩ := end_ok (n := n) (s := s) (dr := dr) hM hs ms.length (Nat.le_refl _) hb (fun h => absurd h (Nat.lt_irrefl _)) x5 (some (.fz .non)) none
    refine ⟨os, run_next (c6 _ (clash_non (n + 5) ms hlen hb)) (run_next (f2 _) (run_next (f4 _) ?_))⟩
    refine run_next (v1 := LM s dr size hours ms sk x5 (some (.fz .non)) (some (.fz .non)) none) ?_ ?_
    · refine exs_asg (x := .fz .non) (o := .fz .non) (v1 := LM s dr size hours ms sk x5 (some (.fz .non)) none none) ?_ rfl
      rw [ev_call (es _)]
      exact pl_non hD (fun _ => hb) _
    refine run_next (v1 := LM s dr size hours ms sk x5 (some (.fz (.int (ms.length : Int)))) (some (.fz .non)) none) ?_ e
    refine exs_if1 (x := .fz (.bl true)) (v1 := LM s dr size hours ms sk x5 (some (.fz .non)) (some (.fz .non)) none) (ev_cm (d := .non) (by rfl) ev_cc rfl) rfl ?_
    have l1 : exs T (callN T (n + 6)) none (.ife (.cm .isnt (.v 7) (.c .non)) (.cons (.ret (.c (.bl false))) .nil) .nil) (LM s dr size hours ms sk x5 (some (.fz .non)) (some (.fz .non)) none) = .next (LM s dr size hours ms sk x5 (some (.fz .non)) (some (.fz .non)) none) :=
      exs_if0 (x := .fz (.bl false)) (v1 := LM s dr size hours ms sk x5 (some (.fz .non)) (some (.fz .non)) none) (ev_cm (d := .non) (by rfl) ev_cc rfl) rfl ss_nil
    have l2 : exs T (callN T (n + 6)) none (.asg (.n 6) (.bi .len (.cons (.v 3) .nil))) (LM s dr size hours ms sk x5 (some (.fz .non)) (some (.fz .non)) none) = .next (LM s dr size hours ms sk x5 (some (.fz (.int (ms.length : Int)))) (some (.fz .non)) none) := by
      rw [← List.length_map (as := ms) M5.t]
      exact exs_asg (x := .fz (.int ((ms.map M5.t).length : Int))) (v1 := LM s dr size hours ms sk x5 (some (.fz .non)) (some (.fz .non)) none) (ev_bi1 (x := .fz (.lst (ms.map M5.t))) (by rfl) b_lenl) rfl
    rw [ss_next l1, ss_next l2, ss_nil]
  · obtain ⟨os, e⟩ := end_ok (n := n) (s := s) (dr := dr) hM hs k (Nat.le_of_lt hk) hb (fun _ => hbk) x5 (some (.fz (.int (k : Int)))) none
    refine ⟨os, run_next (c6 _ (clash_at (n + 5) ms hlen k hk hbk hb)) (run_next (f2 _) (run_next (f4 _) ?_))⟩
    refine run_next (v1 := LM s dr size hours ms sk x5 (some (.fz (.int (k : Int)))) (some (.fz (.int (k : Int)))) none) ?_ ?_
    · refine exs_asg (x := .fz (.int (k : Int))) (o := .fz (.int (k : Int))) (v1 := LM s dr size hours ms sk x5 (some (.fz (.int (k : Int)))) none none) ?_ rfl
      rw [ev_call (es _)]
      exact pl_at hD k hk hbk hb _
    refine run_next (v1 := LM s dr size hours ms sk x5 (some (.fz (.int (k : Int)))) (some (.fz (.int (k : Int)))) none) ?_ e
    refine exs_if0 (x := .fz (.bl false)) (v1 := LM s dr size hours ms sk x5 (some (.fz (.int (k : Int)))) (some (.fz (.int (k : Int)))) none) (ev_cm (d := .int (k : Int)) (by rfl) ev_cc c_isi) rfl ?_
    have l1 : exs T (callN T (n + 6)) none (.frz 7) (LM s dr size hours ms sk x5 (some (.fz (.int (k : Int)))) (some (.fz (.int (k : Int)))) none) = .next (LM s dr size hours ms sk x5 (some (.fz (.int (k : Int)))) (some (.fz (.int (k : Int)))) none) := exs_frz (o := .fz (.int (k : Int))) rfl
    have kk : ((k : Int) == (k : Int)) = true := by simp
    have l2 : exs T (callN T (n + 6)) none (.ife (.to (.nt (.call 1002 (.cons (.v 7) .nil))) (.cm .ne (.v 7) (.v 6))) (.cons (.ret (.c (.bl false))) .nil) .nil) (LM s dr size hours ms sk x5 (some (.fz (.int (k : Int)))) (some (.fz (.int (k : Int)))) none) = .next (LM s dr size hours ms sk x5 (some (.fz (.int (k : Int)))) (some (.fz (.int (k : Int)))) none) := by
      simp only [exss, exs, ev, evs, evv, evI, evc, evo, E.pur, EL.pur, OE.pur, g0, g1, g2, g3, g4, g5, g6, g7, g8, g9, g10, g11, s0, s1, s2, s3, s4, s5, s6, s7, s8, s9, s10, s11, at_fz, at_lst, at_obj, bind_ok, bind_exc, fl_ok, fl_exc, of_some, held_fz, held_tmp, held_vw, held_t, new_fz, new_lst, new_obj, own_fz, own_tmp, fin_fz, fin_tmp, tr_bl, tr_int, tr_non, c_lt, c_le, c_gt, c_ge, c_eqi, c_nei, c_eqs, c_nes, c_is0, c_isi, c_isl, c_isnt0, c_isnti, c_isntl, o_add, o_sub, b_lenl, b_lent, b_lenm, b_lenv, b_int, b_bool, b_tupt, b_tupl, b_tupm, b_listt, b_listl, cf0, cf1, cf2, cf3, cf4, cf5, oc_ok, oc_exc, tb_none, tb_some, tb_nil, Option.map_some, Bool.not_true, Bool.not_false, Bool.and_self, Bool.and_true, Bool.true_and, if_true, List.map_cons, List.map_nil, List.nil_append, List.cons_append, Nat.reduceSub, Nat.sub_self, List.replicate_zero, List.replicate_succ, List.append_nil, fi0, fi1, fi2, fi3, fi4, fi5, it_l, it_t, sl_l, sl_t, wk_l, wk_t, wl_l, wl_t, wk_n, wl_n, bg_n, fin_newL, law_int, kk]
    rw [ss_next l1, ss_next l2, ss_nil]
theorem law_from (n : Nat) (ns : List Int) (hl : ns.length ≤ 63) : ∃ outs, callN T (n + 7) 1009 [.fz (.lst (ns.map .int))] = .ok (.fz (.bl true)) outs := by
  obtain ⟨row, hdr⟩ := draws_ok (n + 5) ns hl
  obtain ⟨r, _, _, t1⟩ := take1 (n + 5) row 0 4 (by decide)
  let s : D := .lst (ns.map .int)
  obtain ⟨size, hours, ms, a, hM, hm⟩ : ∃ size hours ms a, Made size hours ms ∧ exs T (callN T (n + 6)) none (.ife (.cm .eq (.call 1001 (.ref 1 (.cons (.c (.int 4)) .nil))) (.c (.int 3))) (.cons (.asg (.n 2) (.call 1005 (.ref 1 .nil))) .nil) (.cons (.asg (.n 2) (.call 1004 (.ref 1 .nil))) .nil)) [some (.fz s), some (drO row 0), none, none, none, none, none, none, none, none] =
      .next [some (.fz s), some (drO row a), some (madeO size hours ms), none, none, none, none, none, none, none] := by
    by_cases h : r = 3
    · have hb : (r == 3) = true := by simpa using h
      obtain ⟨size, hours, ms, a, hM, e⟩ := lawmany_ok (n + 4) row (0 + 1)
      refine ⟨size, hours, ms, a, hM, exs_if1 (x := .fz (.bl true)) (v1 := [some (.fz s), some (drO row (0 + 1)), none, none, none, none, none, none, none, none]) (by simp only [exss, exs, ev, evs, evv, evI, evc, evo, E.pur, EL.pur, OE.pur, g0, g1, g2, g3, g4, g5, g6, g7, g8, g9, g10, g11, s0, s1, s2, s3, s4, s5, s6, s7, s8, s9, s10, s11, at_fz, at_lst, at_obj, bind_ok, bind_exc, fl_ok, fl_exc, of_some, held_fz, held_tmp, held_vw, held_t, new_fz, new_lst, new_obj, own_fz, own_tmp, fin_fz, fin_tmp, tr_bl, tr_int, tr_non, c_lt, c_le, c_gt, c_ge, c_eqi, c_nei, c_eqs, c_nes, c_is0, c_isi, c_isl, c_isnt0, c_isnti, c_isntl, o_add, o_sub, b_lenl, b_lent, b_lenm, b_lenv, b_int, b_bool, b_tupt, b_tupl, b_tupm, b_listt, b_listl, cf0, cf1, cf2, cf3, cf4, cf5, oc_ok, oc_exc, tb_none, tb_some, tb_nil, Option.map_some, Bool.not_true, Bool.not_false, Bool.and_self, Bool.and_true, Bool.true_and, if_true, List.map_cons, List.map_nil, List.nil_append, List.cons_append, Nat.reduceSub, Nat.sub_self, List.replicate_zero, List.replicate_succ, List.append_nil, fi0, fi1, fi2, fi3, fi4, fi5, it_l, it_t, sl_l, sl_t, wk_l, wk_t, wl_l, wl_t, wk_n, wl_n, bg_n, fin_newL, t1, hb]) rfl ?_⟩
      have c : exs T (callN T (n + 6)) none (.asg (.n 2) (.call 1005 (.ref 1 .nil))) [some (.fz s), some (drO row (0 + 1)), none, none, none, none, none, none, none, none] = .next [some (.fz s), some (drO row a), some (madeO size hours ms), none, none, none, none, none, none, none] := by
        refine exs_asg (x := .tmp (madeO size hours ms)) (v1 := [some (.fz s), some (drO row a), none, none, none, none, none, none, none, none]) ?_ rfl
        have es : evs T (callN T (n + 6)) none (.ref 1 .nil) [some (.fz s), some (drO row (0 + 1)), none, none, none, none, none, none, none, none] = .ok [.ref 1] [some (.fz s), some (drO row (0 + 1)), none, none, none, none, none, none, none, none] := rfl
        rw [ev_call es, cfr1 rfl, e]
        rfl
      rw [ss_next c, ss_nil]
    · have hb : (r == 3) = false := by simpa using h
      obtain ⟨size, hours, ms, a, hM, e⟩ := few_ok (n + 4) row (0 + 1)
      refine ⟨size, hours, ms, a, hM, exs_if0 (x := .fz (.bl false)) (v1 := [some (.fz s), some (drO row (0 + 1)), none, none, none, none, none, none, none, none]) (by simp only [exss, exs, ev, evs, evv, evI, evc, evo, E.pur, EL.pur, OE.pur, g0, g1, g2, g3, g4, g5, g6, g7, g8, g9, g10, g11, s0, s1, s2, s3, s4, s5, s6, s7, s8, s9, s10, s11, at_fz, at_lst, at_obj, bind_ok, bind_exc, fl_ok, fl_exc, of_some, held_fz, held_tmp, held_vw, held_t, new_fz, new_lst, new_obj, own_fz, own_tmp, fin_fz, fin_tmp, tr_bl, tr_int, tr_non, c_lt, c_le, c_gt, c_ge, c_eqi, c_nei, c_eqs, c_nes, c_is0, c_isi, c_isl, c_isnt0, c_isnti, c_isntl, o_add, o_sub, b_lenl, b_lent, b_lenm, b_lenv, b_int, b_bool, b_tupt, b_tupl, b_tupm, b_listt, b_listl, cf0, cf1, cf2, cf3, cf4, cf5, oc_ok, oc_exc, tb_none, tb_some, tb_nil, Option.map_some, Bool.not_true, Bool.not_false, Bool.and_self, Bool.and_true, Bool.true_and, if_true, List.map_cons, List.map_nil, List.nil_append, List.cons_append, Nat.reduceSub, Nat.sub_self, List.replicate_zero, List.replicate_succ, List.append_nil, fi0, fi1, fi2, fi3, fi4, fi5, it_l, it_t, sl_l, sl_t, wk_l, wk_t, wl_l, wl_t, wk_n, wl_n, bg_n, fin_newL, t1, hb]) rfl ?_⟩
      have c : exs T (callN T (n + 6)) none (.asg (.n 2) (.call 1004 (.ref 1 .nil))) [some (.fz s), some (drO row (0 + 1)), none, none, none, none, none, none, none, none] = .next [some (.fz s), some (drO row a), some (madeO size hours ms), none, none, none, none, none, none, none] := by
        refine exs_asg (x := .tmp (madeO size hours ms)) (v1 := [some (.fz s), some (drO row a), none, none, none, none, none, none, none, none]) ?_ rfl
        have es : evs T (callN T (n + 6)) none (.ref 1 .nil) [some (.fz s), some (drO row (0 + 1)), none, none, none, none, none, none, none, none] = .ok [.ref 1] [some (.fz s), some (drO row (0 + 1)), none, none, none, none, none, none, none, none] := rfl
        rw [ev_call es, cfr1 rfl, e]
        rfl
      rw [ss_next c, ss_nil]
  have s1 : exs T (callN T (n + 6)) none (.asg (.n 1) (.call 1000 (.cons (.v 0) .nil))) [some (.fz s), none, none, none, none, none, none, none, none, none] = .next [some (.fz s), some (drO row 0), none, none, none, none, none, none, none, none] := by
    refine exs_asg (x := .tmp (drO row 0)) (v1 := [some (.fz s), none, none, none, none, none, none, none, none, none]) ?_ rfl
    have es : evs T (callN T (n + 6)) none (.cons (.v 0) .nil) [some (.fz s), none, none, none, none, none, none, none, none, none] = .ok [.val s] [some (.fz s), none, none, none, none, none, none, none, none, none] := rfl
    rw [ev_call es, cf1, hdr]
    rfl
  have s3 : exs T (callN T (n + 6)) none (.asg (.n 3) (.ix (.v 2) (.c (.int 2)))) [some (.fz s), some (drO row a), some (madeO size hours ms), none, none, none, none, none, none, none] = .next [some (.fz s), some (drO row a), some (madeO size hours ms), some (rows ms), none, none, none, none, none, none] := rfl
  have s4 : exs T (callN T (n + 6)) none (.asg (.n 4) (.c .non)) [some (.fz s), some (drO row a), some (madeO size hours ms), some (rows ms), none, none, none, none, none, none] = .next (LE s (drO row a) (some (madeO size hours ms)) ms (some (.fz .non)) none none none none) := rfl
  obtain ⟨r2, _, _, t2⟩ := take1 (n + 5) row a 2 (by decide)
  obtain ⟨a2, skO, sk, hsk, hs, s5⟩ : ∃ (a2 : Nat) (skO : O) (sk : D), skO.frz = sk ∧ Sk size sk ∧ exs T (callN T (n + 6)) none (.ife (.cm .eq (.call 1001 (.ref 1 (.cons (.c (.int 2)) .nil))) (.c (.int 1))) (.cons (.asg (.n 4) (.lc [5] (.n 5) (.rng1 (.ix (.v 2) (.c (.int 0)))) .no (.ix (.lst (.cons (.c .non) (.cons (.c (.int 1)) (.cons (.c (.int 5)) .nil)))) (.call 1001 (.ref 1 (.cons (.c (.int 3)) .nil)))))) .nil) .nil) (LE s (drO row a) (some (madeO size hours ms)) ms (some (.fz .non)) none none none none) =
      .next (LE s (drO row a2) (some (madeO size hours ms)) ms (some skO) none none none none) := by
    by_cases h : r2 = 1
    · have hb : (r2 == 1) = true := by simpa using h
      obtain ⟨a2, bs, hbs, hz, e⟩ := sacks_ok (n := n + 5) s row (a + 1) hM
      refine ⟨a2, .lst (bs.map .fz), .lst bs, ?_, .inr ⟨bs, rfl, hbs, hz⟩, ?_⟩
      · show D.lst (O.frzs (bs.map .fz)) = _
        rw [frzs_map]
      · refine exs_if1 (x := .fz (.bl true)) (v1 := LE s (drO row (a + 1)) (some (madeO size hours ms)) ms (some (.fz .non)) none none none none) (by simp only [exss, exs, ev, evs, evv, evI, evc, evo, E.pur, EL.pur, OE.pur, g0, g1, g2, g3, g4, g5, g6, g7, g8, g9, g10, g11, s0, s1, s2, s3, s4, s5, s6, s7, s8, s9, s10, s11, at_fz, at_lst, at_obj, bind_ok, bind_exc, fl_ok, fl_exc, of_some, held_fz, held_tmp, held_vw, held_t, new_fz, new_lst, new_obj, own_fz, own_tmp, fin_fz, fin_tmp, tr_bl, tr_int, tr_non, c_lt, c_le, c_gt, c_ge, c_eqi, c_nei, c_eqs, c_nes, c_is0, c_isi, c_isl, c_isnt0, c_isnti, c_isntl, o_add, o_sub, b_lenl, b_lent, b_lenm, b_lenv, b_int, b_bool, b_tupt, b_tupl, b_tupm, b_listt, b_listl, cf0, cf1, cf2, cf3, cf4, cf5, oc_ok, oc_exc, tb_none, tb_some, tb_nil, Option.map_some, Bool.not_true, Bool.not_false, Bool.and_self, Bool.and_true, Bool.true_and, if_true, List.map_cons, List.map_nil, List.nil_append, List.cons_append, Nat.reduceSub, Nat.sub_self, List.replicate_zero, List.replicate_succ, List.append_nil, fi0, fi1, fi2, fi3, fi4, fi5, it_l, it_t, sl_l, sl_t, wk_l, wk_t, wl_l, wl_t, wk_n, wl_n, bg_n, fin_newL, t2, hb]) rfl ?_
        rw [ss_next (exs_asg e rfl), ss_nil]
        rfl
    · have hb : (r2 == 1) = false := by simpa using h
      exact ⟨a + 1, .fz .non, .non, rfl, .inl rfl, by simp only [exss, exs, ev, evs, evv, evI, evc, evo, E.pur, EL.pur, OE.pur, g0, g1, g2, g3, g4, g5, g6, g7, g8, g9, g10, g11, s0, s1, s2, s3, s4, s5, s6, s7, s8, s9, s10, s11, at_fz, at_lst, at_obj, bind_ok, bind_exc, fl_ok, fl_exc, of_some, held_fz, held_tmp, held_vw, held_t, new_fz, new_lst, new_obj, own_fz, own_tmp, fin_fz, fin_tmp, tr_bl, tr_int, tr_non, c_lt, c_le, c_gt, c_ge, c_eqi, c_nei, c_eqs, c_nes, c_is0, c_isi, c_isl, c_isnt0, c_isnti, c_isntl, o_add, o_sub, b_lenl, b_lent, b_lenm, b_lenv, b_int, b_bool, b_tupt, b_tupl, b_tupm, b_listt, b_listl, cf0, cf1, cf2, cf3, cf4, cf5, oc_ok, oc_exc, tb_none, tb_some, tb_nil, Option.map_some, Bool.not_true, Bool.not_false, Bool.and_self, Bool.and_true, Bool.true_and, if_true, List.map_cons, List.map_nil, List.nil_append, List.cons_append, Nat.reduceSub, Nat.sub_self, List.replicate_zero, List.replicate_succ, List.append_nil, fi0, fi1, fi2, fi3, fi4, fi5, it_l, it_t, sl_l, sl_t, wk_l, wk_t, wl_l, wl_t, wk_n, wl_n, bg_n, fin_newL, t2, hb]⟩
  obtain ⟨os, e⟩ := rest_ok (n := n) (s := s) hM hs (drO row a2) skO hsk none
  exact ⟨os, call_body T1009 rfl (v := [some (.fz s), none, none, none, none, none, none, none, none, none]) rfl (run_next s1 (run_next hm (run_next s3 (run_next s4 (run_next s5 e)))))⟩
end
theorem law_true (ns : List Int) (hl : ns.length ≤ 63) : ∃ outs, callN lt.T 12 1009 [.fz (.lst (ns.map .int))] = .ok (.fz (.bl true)) outs := law_from 5 ns hl
end Pv.Pl

set_option Elab.async false
set_option linter.all false
set_option maxRecDepth 100000
set_option maxHeartbeats 0
namespace Pv
open PySem PySem.Spec PyProof.Rows L2
def top (i : Nat) : Stmt := PySem.Challenge.pw_meetmail_k03_firm_days.main.body.getD i (.Pass ⟨0, 0, 0, 0⟩)
def inC (i j : Nat) : Stmt := (cBody (top i)).getD j (.Pass ⟨0, 0, 0, 0⟩)
def d_358 : Dd := ⟨358, ("is_int", none, false), "is_int", "is_int", top 10, ["thing"], ["thing"], [], []⟩
theorem b_358 (K : PySem.W.Frag) (a : Addr) (fd : FuncData) (F : d_358.F K a fd) : Binds K fd d_358.ps [] := F.bindsN fun _ _ _ _ _ _ us hl => match us, hl with | [_], _ => rfl
def d_263 : Dd := ⟨263, ("check_number", none, false), "check_number", "check_number", top 11, ["name", "thing", "low", "high"], ["name", "thing", "low", "high"], [], []⟩
theorem b_263 (K : PySem.W.Frag) (a : Addr) (fd : FuncData) (F : d_263.F K a fd) : Binds K fd d_263.ps [] := F.bindsN fun _ _ _ _ _ _ us hl => match us, hl with | [_, _, _, _], _ => rfl
def d_251 : Dd := ⟨251, ("check_house", none, false), "check_house", "check_house", top 12, ["name", "thing", "many"], ["name", "thing", "many"], [], []⟩
theorem b_251 (K : PySem.W.Frag) (a : Addr) (fd : FuncData) (F : d_251.F K a fd) : Binds K fd d_251.ps [] := F.bindsN fun _ _ _ _ _ _ us hl => match us, hl with | [_, _, _], _ => rfl
def d_365 : Dd := ⟨365, ("is_row", none, false), "is_row", "is_row", top 13, ["thing"], ["thing"], [], []⟩
theorem b_365 (K : PySem.W.Frag) (a : Addr) (fd : FuncData) (F : d_365.F K a fd) : Binds K fd d_365.ps [] := F.bindsN fun _ _ _ _ _ _ us hl => match us, hl with | [_], _ => rfl
def d_571 : Dd := ⟨571, ("well_named", none, false), "well_named", "well_named", top 20, ["name"], ["name", "sign"], [], []⟩
theorem b_571 (K : PySem.W.Frag) (a : Addr) (fd : FuncData) (F : d_571.F K a fd) : Binds K fd d_571.ps [] := F.bindsN fun _ _ _ _ _ _ us hl => match us, hl with | [_], _ => rfl
def d_260 : Dd := ⟨260, ("check_names", none, false), "check_names", "check_names", top 21, ["names"], ["names", "place", "name"], [], []⟩
theorem b_260 (K : PySem.W.Frag) (a : Addr) (fd : FuncData) (F : d_260.F K a fd) : Binds K fd d_260.ps [] := F.bindsN fun _ _ _ _ _ _ us hl => match us, hl with | [_], _ => rfl
def d_329 : Dd := ⟨329, ("good_seats", none, false), "good_seats", "good_seats", top 22, ["seats"], ["seats"], [], []⟩
theorem b_329 (K : PySem.W.Frag) (a : Addr) (fd : FuncData) (F : d_329.F K a fd) : Binds K fd d_329.ps [] := F.bindsN fun _ _ _ _ _ _ us hl => match us, hl with | [_], _ => rfl
def d_258 : Dd := ⟨258, ("check_meeting", none, false), "check_meeting", "check_meeting", top 23, ["place", "row", "many", "hours"], ["place", "row", "many", "hours", "part", "a", "b", "early", "late", "seats"], [], []⟩
theorem b_258 (K : PySem.W.Frag) (a : Addr) (fd : FuncData) (F : d_258.F K a fd) : Binds K fd d_258.ps [] := F.bindsN fun _ _ _ _ _ _ us hl => match us, hl with | [_, _, _, _], _ => rfl
def d_259 : Dd := ⟨259, ("check_meetings", none, false), "check_meetings", "check_meetings", top 24, ["meetings", "many", "hours"], ["meetings", "many", "hours", "place", "row"], [], []⟩
theorem b_259 (K : PySem.W.Frag) (a : Addr) (fd : FuncData) (F : d_259.F K a fd) : Binds K fd d_259.ps [] := F.bindsN fun _ _ _ _ _ _ us hl => match us, hl with | [_, _, _], _ => rfl
def d_242 : Dd := ⟨242, ("check_bags", none, false), "check_bags", "check_bags", top 25, ["bags", "many", "firm"], ["bags", "many", "firm", "place", "bag"], [], []⟩
theorem b_242 (K : PySem.W.Frag) (a : Addr) (fd : FuncData) (F : d_242.F K a fd) : Binds K fd d_242.ps [] := F.bindsN fun _ _ _ _ _ _ us hl => match us, hl with | [_, _, _], _ => rfl
def d_249 : Dd := ⟨249, ("check_firm", none, false), "check_firm", "check_firm", top 26, ["place", "meetings"], ["place", "meetings", "a", "b", "early", "late", "row"], [], []⟩
theorem b_249 (K : PySem.W.Frag) (a : Addr) (fd : FuncData) (F : d_249.F K a fd) : Binds K fd d_249.ps [] := F.bindsN fun _ _ _ _ _ _ us hl => match us, hl with | [_, _], _ => rfl
def d_60 : Dd := ⟨60, ("Day", some "__init__", false), "__init__", "Day.__init__", inC 27 2, ["self", "names", "hours", "meetings", "bags", "firm"], ["self", "names", "hours", "meetings", "bags", "firm", "place", "row"], [], [("bags", .non), ("firm", (.bl false))]⟩
def d_66 : Dd := ⟨66, ("Day", some "size", true), "size", "Day.size", inC 27 3, ["self"], ["self"], [], []⟩
theorem b_66 (K : PySem.W.Frag) (a : Addr) (fd : FuncData) (F : d_66.F K a fd) : Binds K fd d_66.ps [] := F.bindsN fun _ _ _ _ _ _ us hl => match us, hl with | [_], _ => rfl
def d_63 : Dd := ⟨63, ("Day", some "many", true), "many", "Day.many", inC 27 4, ["self"], ["self"], [], []⟩
theorem b_63 (K : PySem.W.Frag) (a : Addr) (fd : FuncData) (F : d_63.F K a fd) : Binds K fd d_63.ps [] := F.bindsN fun _ _ _ _ _ _ us hl => match us, hl with | [_], _ => rfl
def d_62 : Dd := ⟨62, ("Day", some "kind", true), "kind", "Day.kind", inC 27 5, ["self"], ["self"], [], []⟩
theorem b_62 (K : PySem.W.Frag) (a : Addr) (fd : FuncData) (F : d_62.F K a fd) : Binds K fd d_62.ps [] := F.bindsN fun _ _ _ _ _ _ us hl => match us, hl with | [_], _ => rfl
def d_64 : Dd := ⟨64, ("Day", some "meetings_of", false), "meetings_of", "Day.meetings_of", inC 27 8, ["self", "house"], ["self", "house", "place", "row"], [], []⟩
theorem b_64 (K : PySem.W.Frag) (a : Addr) (fd : FuncData) (F : d_64.F K a fd) : Binds K fd d_64.ps [] := F.bindsN fun _ _ _ _ _ _ us hl => match us, hl with | [_, _], _ => rfl
def d_142 : Dd := ⟨142, ("Plan", some "__init__", false), "__init__", "Plan.__init__", inC 32 0, ["self", "day", "days"], ["self", "day", "days"], [(.int 1)], []⟩
theorem b_142 (K : PySem.W.Frag) (a : Addr) (fd : FuncData) (F : d_142.F K a fd) : Binds K fd d_142.ps [] := bindsFull (ps := d_142.ps) F (fun z => nomatch z) fun _ _ _ _ _ _ _ us its hl hi => match us, its, hl, hi with | [_, _, _], [_], _, _ => ⟨_, rfl, rfl⟩
def d_145 : Dd := ⟨145, ("Plan", some "many", true), "many", "Plan.many", inC 32 1, ["self"], ["self"], [], []⟩
theorem b_145 (K : PySem.W.Frag) (a : Addr) (fd : FuncData) (F : d_145.F K a fd) : Binds K fd d_145.ps [] := F.bindsN fun _ _ _ _ _ _ us hl => match us, hl with | [_], _ => rfl
def d_150 : Dd := ⟨150, ("Plan", some "size", true), "size", "Plan.size", inC 32 3, ["self"], ["self"], [], []⟩
theorem b_150 (K : PySem.W.Frag) (a : Addr) (fd : FuncData) (F : d_150.F K a fd) : Binds K fd d_150.ps [] := F.bindsN fun _ _ _ _ _ _ us hl => match us, hl with | [_], _ => rfl
def d_148 : Dd := ⟨148, ("Plan", some "origin", false), "origin", "Plan.origin", inC 32 7, ["self", "number"], ["self", "number", "before", "meeting"], [], []⟩
theorem b_148 (K : PySem.W.Frag) (a : Addr) (fd : FuncData) (F : d_148.F K a fd) : Binds K fd d_148.ps [] := F.bindsN fun _ _ _ _ _ _ us hl => match us, hl with | [_, _], _ => rfl
def d_146 : Dd := ⟨146, ("Plan", some "meeting", false), "meeting", "Plan.meeting", inC 32 8, ["self", "number"], ["self", "number", "meeting", "day", "a", "b", "early", "late", "room", "shift"], [], []⟩
theorem b_146 (K : PySem.W.Frag) (a : Addr) (fd : FuncData) (F : d_146.F K a fd) : Binds K fd d_146.ps [] := F.bindsN fun _ _ _ _ _ _ us hl => match us, hl with | [_, _], _ => rfl
def d_151 : Dd := ⟨151, ("Plan", some "stretch_of", false), "stretch_of", "Plan.stretch_of", inC 32 9, ["self", "number"], ["self", "number"], [], []⟩
theorem b_151 (K : PySem.W.Frag) (a : Addr) (fd : FuncData) (F : d_151.F K a fd) : Binds K fd d_151.ps [] := F.bindsN fun _ _ _ _ _ _ us hl => match us, hl with | [_, _], _ => rfl
def d_152 : Dd := ⟨152, ("Plan", some "with_house", false), "with_house", "Plan.with_house", inC 32 10, ["self", "house"], ["self", "house", "found", "each", "turn", "place"], [], []⟩
theorem b_152 (K : PySem.W.Frag) (a : Addr) (fd : FuncData) (F : d_152.F K a fd) : Binds K fd d_152.ps [] := F.bindsN fun _ _ _ _ _ _ us hl => match us, hl with | [_, _], _ => rfl
def d_1000 : Dd := ⟨1000, ("_law_draws", none, false), "_law_draws", "_law_draws", top 34, ["script"], ["script", "row", "at", "cell", "turn", "number"], [], []⟩
theorem b_1000 (K : PySem.W.Frag) (a : Addr) (fd : FuncData) (F : d_1000.F K a fd) : Binds K fd d_1000.ps [] := F.bindsN fun _ _ _ _ _ _ us hl => match us, hl with | [_], _ => rfl
def d_1001 : Dd := ⟨1001, ("_law_take", none, false), "_law_take", "_law_take", top 35, ["draws", "many"], ["draws", "many", "at"], [], []⟩
theorem b_1001 (K : PySem.W.Frag) (a : Addr) (fd : FuncData) (F : d_1001.F K a fd) : Binds K fd d_1001.ps [] := F.bindsN fun _ _ _ _ _ _ us hl => match us, hl with | [_, _], _ => rfl
def d_1002 : Dd := ⟨1002, ("_law_int", none, false), "_law_int", "_law_int", top 36, ["thing"], ["thing"], [], []⟩
theorem b_1002 (K : PySem.W.Frag) (a : Addr) (fd : FuncData) (F : d_1002.F K a fd) : Binds K fd d_1002.ps [] := F.bindsN fun _ _ _ _ _ _ us hl => match us, hl with | [_], _ => rfl
def d_1003 : Dd := ⟨1003, ("_law_names", none, false), "_law_names", "_law_names", top 37, ["size"], ["size"], [], []⟩
theorem b_1003 (K : PySem.W.Frag) (a : Addr) (fd : FuncData) (F : d_1003.F K a fd) : Binds K fd d_1003.ps [] := F.bindsN fun _ _ _ _ _ _ us hl => match us, hl with | [_], _ => rfl
def d_1004 : Dd := ⟨1004, ("_law_few", none, false), "_law_few", "_law_few", top 38, ["draws"], ["draws", "size", "hours", "wide", "meets", "k", "one", "other", "early", "late"], [], []⟩
theorem b_1004 (K : PySem.W.Frag) (a : Addr) (fd : FuncData) (F : d_1004.F K a fd) : Binds K fd d_1004.ps [] := F.bindsN fun _ _ _ _ _ _ us hl => match us, hl with | [_], _ => rfl
def d_1005 : Dd := ⟨1005, ("_law_many", none, false), "_law_many", "_law_many", top 39, ["draws"], ["draws", "size", "meets", "k", "one", "at", "to", "hour"], [], []⟩
theorem b_1005 (K : PySem.W.Frag) (a : Addr) (fd : FuncData) (F : d_1005.F K a fd) : Binds K fd d_1005.ps [] := F.bindsN fun _ _ _ _ _ _ us hl => match us, hl with | [_], _ => rfl
def d_1006 : Dd := ⟨1006, ("_law_clash", none, false), "_law_clash", "_law_clash", top 40, ["meets"], ["meets", "at", "one", "other"], [], []⟩
theorem b_1006 (K : PySem.W.Frag) (a : Addr) (fd : FuncData) (F : d_1006.F K a fd) : Binds K fd d_1006.ps [] := F.bindsN fun _ _ _ _ _ _ us hl => match us, hl with | [_], _ => rfl
def d_1007 : Dd := ⟨1007, ("_law_place", none, false), "_law_place", "_law_place", top 41, ["made", "meets", "sacks", "firmly"], ["made", "meets", "sacks", "firmly", "told", "wrong"], [], []⟩
theorem b_1007 (K : PySem.W.Frag) (a : Addr) (fd : FuncData) (F : d_1007.F K a fd) : Binds K fd d_1007.ps [] := F.bindsN fun _ _ _ _ _ _ us hl => match us, hl with | [_, _, _, _], _ => rfl
def d_1008 : Dd := ⟨1008, ("_law_no_two", none, false), "_law_no_two", "_law_no_two", top 42, ["made", "meets", "sacks"], ["made", "meets", "sacks", "day", "plan", "house", "seen", "number", "hours", "meet"], [], []⟩
theorem b_1008 (K : PySem.W.Frag) (a : Addr) (fd : FuncData) (F : d_1008.F K a fd) : Binds K fd d_1008.ps [] := F.bindsN fun _ _ _ _ _ _ us hl => match us, hl with | [_, _, _], _ => rfl
def d_1009 : Dd := ⟨1009, ("law", none, false), "law", "law", top 43, ["script"], ["script", "draws", "made", "meets", "sacks", "house", "due", "told", "meet", "many"], [], []⟩
theorem b_1009 (K : PySem.W.Frag) (a : Addr) (fd : FuncData) (F : d_1009.F K a fd) : Binds K fd d_1009.ps [] := F.bindsN fun _ _ _ _ _ _ us hl => match us, hl with | [_], _ => rfl
def x_14 : Xd := ⟨14, "BadNumber", "BadNumber.__init__", inC 3 0, ["self", "name"], "self"⟩
theorem bx_14 (K : PySem.W.Frag) (a : Addr) (dV kV doc pm cdv ct : Value) (an : Option Addr) (cc : Addr) (h : DflV K dV []) : Binds K (PySem.W.ksFn "__init__" x_14.qual (defArgs x_14.st) (defBody x_14.st) (defScope x_14.st) dV kV doc pm an cdv ct cc) x_14.N [] := by
  rcases h with ⟨_, rfl⟩ | ⟨e, _⟩
  · exact .all fun us hl => match us, hl with | [_, _], _ => rfl
  · exact absurd rfl e
def x_1 : Xd := ⟨1, "BadBag", "BadBag.__init__", inC 7 0, ["self", "place"], "self"⟩
theorem bx_1 (K : PySem.W.Frag) (a : Addr) (dV kV doc pm cdv ct : Value) (an : Option Addr) (cc : Addr) (h : DflV K dV []) : Binds K (PySem.W.ksFn "__init__" x_1.qual (defArgs x_1.st) (defBody x_1.st) (defScope x_1.st) dV kV doc pm an cdv ct cc) x_1.N [] := by
  rcases h with ⟨_, rfl⟩ | ⟨e, _⟩
  · exact .all fun us hl => match us, hl with | [_, _], _ => rfl
  · exact absurd rfl e
def x_42 : Xd := ⟨42, "NotFirm", "NotFirm.__init__", inC 8 0, ["self", "place"], "self"⟩
theorem bx_42 (K : PySem.W.Frag) (a : Addr) (dV kV doc pm cdv ct : Value) (an : Option Addr) (cc : Addr) (h : DflV K dV []) : Binds K (PySem.W.ksFn "__init__" x_42.qual (defArgs x_42.st) (defBody x_42.st) (defScope x_42.st) dV kV doc pm an cdv ct cc) x_42.N [] := by
  rcases h with ⟨_, rfl⟩ | ⟨e, _⟩
  · exact .all fun us hl => match us, hl with | [_, _], _ => rfl
  · exact absurd rfl e
def x_8 : Xd := ⟨8, "BadHouse", "BadHouse.__init__", inC 4 0, ["self", "name"], "self"⟩
theorem bx_8 (K : PySem.W.Frag) (a : Addr) (dV kV doc pm cdv ct : Value) (an : Option Addr) (cc : Addr) (h : DflV K dV []) : Binds K (PySem.W.ksFn "__init__" x_8.qual (defArgs x_8.st) (defBody x_8.st) (defScope x_8.st) dV kV doc pm an cdv ct cc) x_8.N [] := by
  rcases h with ⟨_, rfl⟩ | ⟨e, _⟩
  · exact .all fun us hl => match us, hl with | [_, _], _ => rfl
  · exact absurd rfl e
def x_11 : Xd := ⟨11, "BadMeeting", "BadMeeting.__init__", inC 6 0, ["self", "place"], "self"⟩
theorem bx_11 (K : PySem.W.Frag) (a : Addr) (dV kV doc pm cdv ct : Value) (an : Option Addr) (cc : Addr) (h : DflV K dV []) : Binds K (PySem.W.ksFn "__init__" x_11.qual (defArgs x_11.st) (defBody x_11.st) (defScope x_11.st) dV kV doc pm an cdv ct cc) x_11.N [] := by
  rcases h with ⟨_, rfl⟩ | ⟨e, _⟩
  · exact .all fun us hl => match us, hl with | [_, _], _ => rfl
  · exact absurd rfl e
def x_12 : Xd := ⟨12, "BadName", "BadName.__init__", inC 5 0, ["self", "place"], "self"⟩
theorem bx_12 (K : PySem.W.Frag) (a : Addr) (dV kV doc pm cdv ct : Value) (an : Option Addr) (cc : Addr) (h : DflV K dV []) : Binds K (PySem.W.ksFn "__init__" x_12.qual (defArgs x_12.st) (defBody x_12.st) (defScope x_12.st) dV kV doc pm an cdv ct cc) x_12.N [] := by
  rcases h with ⟨_, rfl⟩ | ⟨e, _⟩
  · exact .all fun us hl => match us, hl with | [_, _], _ => rfl
  · exact absurd rfl e
def ld : LD where
  t := lt
  defs := [d_358, d_263, d_251, d_365, d_571, d_260, d_329, d_258, d_259, d_242, d_249, d_60, d_66, d_63, d_62, d_64, d_142, d_145, d_150, d_148, d_146, d_151, d_152, d_1000, d_1001, d_1002, d_1003, d_1004, d_1005, d_1006, d_1007, d_1008, d_1009]
  xds := [x_14, x_1, x_42, x_8, x_11, x_12]
  cl := [(38, "MailError"), (14, "BadNumber"), (8, "BadHouse"), (12, "BadName"), (11, "BadMeeting"), (1, "BadBag"), (42, "NotFirm"), (27, "Day"), (46, "Plan")]
  an := [(0, "FIRM"), (1, "LOOSE"), (6, "__eq__"), (9, "__init__"), (12, "__mul__"), (639, "bags"), (730, "day"), (733, "days"), (764, "firm"), (831, "hours"), (833, "house"), (866, "kind"), (873, "last"), (924, "many"), (931, "meeting"), (933, "meetings"), (934, "meetings_of"), (953, "name"), (954, "names"), (974, "number_of"), (992, "origin"), (1002, "partner"), (1006, "place"), (1085, "size"), (1106, "stretch"), (1107, "stretch_of"), (1165, "with_house")]
  cst := [("FIRST_SIGNS", (.str "abcdefghijklmnopqrstuvwxyz")), ("MOST_DAYS", (.int 60)), ("MOST_HOURS", (.int 60)), ("MOST_MEETINGS", (.int 60)), ("MOST_PLAN_HOURS", (.int 600)), ("MOST_PLAN_MEETINGS", (.int 400)), ("MOST_SEATS", (.int 1000000000000000000000000000000)), ("SIGNS", (.str "abcdefghijklmnopqrstuvwxyz0123456789"))]
  ks := [27, 46]
  xs := [42, 38]
  fg := [358, 263, 251, 365, 571, 260, 329, 258, 259, 242, 249, 1000, 1001, 1002, 1003, 1004, 1005, 1006, 1007, 1008, 1009]
  fp := [358, 263, 251, 365, 571, 260, 329, 258, 259, 242, 249, 66, 63, 62, 64, 142, 145, 150, 148, 146, 151, 152, 1000, 1001, 1002, 1003, 1004, 1005, 1006, 1007, 1008, 1009]
  kp := [46]
  kf := []
  kc := [(27, 3, ["bags", "firm"], [.a 0, .a 1, .a 2, .a 3, .a 4])]
theorem bd : BdD ld := by
  show ∀ d ∈ [d_358, d_263, d_251, d_365, d_571, d_260, d_329, d_258, d_259, d_242, d_249, d_60, d_66, d_63, d_62, d_64, d_142, d_145, d_150, d_148, d_146, d_151, d_152, d_1000, d_1001, d_1002, d_1003, d_1004, d_1005, d_1006, d_1007, d_1008, d_1009], d.id ∈ ld.fp → ∀ (K : PySem.W.Frag) (a : Addr) (fd : FuncData), d.F K a fd → Binds K fd d.ps []
  exact (List.forall_mem_cons.mpr ⟨fun _ => b_358, (List.forall_mem_cons.mpr ⟨fun _ => b_263, (List.forall_mem_cons.mpr ⟨fun _ => b_251, (List.forall_mem_cons.mpr ⟨fun _ => b_365, (List.forall_mem_cons.mpr ⟨fun _ => b_571, (List.forall_mem_cons.mpr ⟨fun _ => b_260, (List.forall_mem_cons.mpr ⟨fun _ => b_329, (List.forall_mem_cons.mpr ⟨fun _ => b_258, (List.forall_mem_cons.mpr ⟨fun _ => b_259, (List.forall_mem_cons.mpr ⟨fun _ => b_242, (List.forall_mem_cons.mpr ⟨fun _ => b_249, (List.forall_mem_cons.mpr ⟨fun h => absurd h (by decide +kernel), (List.forall_mem_cons.mpr ⟨fun _ => b_66, (List.forall_mem_cons.mpr ⟨fun _ => b_63, (List.forall_mem_cons.mpr ⟨fun _ => b_62, (List.forall_mem_cons.mpr ⟨fun _ => b_64, (List.forall_mem_cons.mpr ⟨fun _ => b_142, (List.forall_mem_cons.mpr ⟨fun _ => b_145, (List.forall_mem_cons.mpr ⟨fun _ => b_150, (List.forall_mem_cons.mpr ⟨fun _ => b_148, (List.forall_mem_cons.mpr ⟨fun _ => b_146, (List.forall_mem_cons.mpr ⟨fun _ => b_151, (List.forall_mem_cons.mpr ⟨fun _ => b_152, (List.forall_mem_cons.mpr ⟨fun _ => b_1000, (List.forall_mem_cons.mpr ⟨fun _ => b_1001, (List.forall_mem_cons.mpr ⟨fun _ => b_1002, (List.forall_mem_cons.mpr ⟨fun _ => b_1003, (List.forall_mem_cons.mpr ⟨fun _ => b_1004, (List.forall_mem_cons.mpr ⟨fun _ => b_1005, (List.forall_mem_cons.mpr ⟨fun _ => b_1006, (List.forall_mem_cons.mpr ⟨fun _ => b_1007, (List.forall_mem_cons.mpr ⟨fun _ => b_1008, (List.forall_mem_cons.mpr ⟨fun _ => b_1009, (fun _ h => nomatch h)⟩)⟩)⟩)⟩)⟩)⟩)⟩)⟩)⟩)⟩)⟩)⟩)⟩)⟩)⟩)⟩)⟩)⟩)⟩)⟩)⟩)⟩)⟩)⟩)⟩)⟩)⟩)⟩)⟩)⟩)⟩)⟩)⟩)
theorem bx : BdX ld := by
  show ∀ d ∈ [x_14, x_1, x_42, x_8, x_11, x_12], ∀ (K : PySem.W.Frag) (a : Addr) (dV kV doc pm cdv ct : Value) (an : Option Addr) (cc : Addr), DflV K dV [] → Binds K (PySem.W.ksFn "__init__" d.qual (defArgs d.st) (defBody d.st) (defScope d.st) dV kV doc pm an cdv ct cc) d.N []
  exact (List.forall_mem_cons.mpr ⟨bx_14, (List.forall_mem_cons.mpr ⟨bx_1, (List.forall_mem_cons.mpr ⟨bx_42, (List.forall_mem_cons.mpr ⟨bx_8, (List.forall_mem_cons.mpr ⟨bx_11, (List.forall_mem_cons.mpr ⟨bx_12, (fun _ h => nomatch h)⟩)⟩)⟩)⟩)⟩)⟩)
theorem bf : BdF ld := fun _ h => nomatch h
theorem kc_0 (f : Nat) (h : ld.t.T.ini 27 = some f) (K : PySem.W.Frag) (a : Addr) (fd : FuncData) (hd : ∃ d, ld.def? f = some d ∧ d.F K a fd) : ∃ g gV, KBn K fd ((ld.ad K).ps f) 4 ["bags", "firm"] g gV ∧ ∀ (u : V) (vs zs : List V), vs.length = 3 → zs.length = 2 → ∃ r, permV (vs ++ zs) [.a 0, .a 1, .a 2, .a 3, .a 4] = some r ∧ gV (u :: vs) zs = u :: r := by
  cases (show some 60 = some f from h)
  obtain ⟨d, hd, F⟩ := hd
  cases (show some d_60 = some d from hd)
  obtain ⟨mv, q⟩ := FunD.kbinds0 (ps := d_60.ps) F 4 ["bags", "firm"] [] (fun us _ ws => us ++ ws) (by decide) (fun _ z => nomatch z) (fun r1 _ r3 => r1.append r3) fun _ _ _ _ _ _ us mv ws h1 h2 h3 => match us, mv, ws, h1, h2, h3 with | [_, _, _, _], [], [_, _], _, _, _ => rfl
  exact ⟨_, _, q, fun u vs zs h1 h2 => match vs, zs, h1, h2 with | [_, _, _], [_, _], _, _ => ⟨_, rfl, rfl⟩⟩
theorem bc : BdC ld := by
  show ∀ q ∈ ([(27, 3, ["bags", "firm"], [.a 0, .a 1, .a 2, .a 3, .a 4])] : List (Nat × Nat × List Str × List Pm)), ∀ f, ld.t.T.ini q.1 = some f → ∀ (K : PySem.W.Frag) (a : Addr) (fd : FuncData), (∃ d, ld.def? f = some d ∧ d.F K a fd) → ∃ g gV, KBn K fd ((ld.ad K).ps f) (q.2.1 + 1) q.2.2.1 g gV ∧ ∀ (u : V) (vs zs : List V), vs.length = q.2.1 → zs.length = q.2.2.1.length → ∃ r, permV (vs ++ zs) q.2.2.2 = some r ∧ gV (u :: vs) zs = u :: r
  exact (List.forall_mem_cons.mpr ⟨kc_0, (fun _ h => nomatch h)⟩)
theorem an_ok : anB ld.an = true := by decide +kernel
theorem st_ok : stB ld = true := by decide +kernel
end Pv

set_option Elab.async false
set_option linter.all false
set_option maxRecDepth 100000
set_option maxHeartbeats 0
namespace Pv
open PySem PySem.Spec PyProof.Rows L2
def l0 : List Str := [PySem.Str.ofString "_wall", PySem.Str.ofString "__name__", PySem.Str.ofString "MailError", PySem.Str.ofString "BadNumber", PySem.Str.ofString "BadHouse", PySem.Str.ofString "BadName", PySem.Str.ofString "BadMeeting", PySem.Str.ofString "BadBag", PySem.Str.ofString "NotFirm", PySem.Str.ofString "is_int", PySem.Str.ofString "check_number", PySem.Str.ofString "check_house", PySem.Str.ofString "is_row", PySem.Str.ofString "MOST_SEATS", PySem.Str.ofString "MOST_HOURS", PySem.Str.ofString "MOST_MEETINGS", PySem.Str.ofString "FIRST_SIGNS", PySem.Str.ofString "SIGNS", PySem.Str.ofString "well_named", PySem.Str.ofString "check_names", PySem.Str.ofString "good_seats", PySem.Str.ofString "check_meeting", PySem.Str.ofString "check_meetings", PySem.Str.ofString "check_bags", PySem.Str.ofString "check_firm", PySem.Str.ofString "Day", PySem.Str.ofString "MOST_DAYS", PySem.Str.ofString "MOST_PLAN_HOURS", PySem.Str.ofString "MOST_PLAN_MEETINGS", PySem.Str.ofString "Plan", PySem.Str.ofString "_law_draws", PySem.Str.ofString "_law_take", PySem.Str.ofString "_law_int", PySem.Str.ofString "_law_names", PySem.Str.ofString "_law_few"]
def l1 : List Str := [PySem.Str.ofString "_law_many", PySem.Str.ofString "_law_clash", PySem.Str.ofString "_law_place", PySem.Str.ofString "_law_no_two"]
abbrev oR : PySem.W.OpenRow := PySem.W.OpenLaw.row PySem.Challenge.rw_meetmail_k03_firm_days
def main : Str := PySem.Challenge.pw_meetmail_k03_firm_days.main.file
abbrev hk : PySem.W.Hook := hookP 6 main ld
def ob (s : PySem.W.SharedT) : AlP := obsPG 6 main ld (HandSHeadRun.getT s)
theorem ob_eq (s : PySem.W.SharedT) : ob s = hk.obs s.abs := obsPG_eq (HandSHeadRun.getT_eq s)
theorem run (w : World) : HandSHeadRun.RunEq oR (PySem.W.view oR.prog [43]) hk ob 40000 (l0 ++ l1) w := by
  intro os
  kernel_rfl
theorem bl (K : PySem.W.Frag) (a : Addr) (fd : FuncData) (F : d_1009.F K a fd) (s : Shared) (u : Value) : BindsTo s fd ⟨[u], []⟩ [("script", u)] := FunD.bindsA (ps := ["script"]) F (fun _ _ _ _ _ _ us hl => match us, hl with | [_], _ => rfl) s [u] rfl
end Pv

set_option Elab.async false
set_option linter.all false
set_option maxRecDepth 100000
set_option maxHeartbeats 0
namespace Pv
end Pv
open PySem PySem.W PySem.Calls PyProof.Rows
theorem PySem.Challenge.cw_meetmail_k03_firm_days_holds : PySem.Challenge.rw_meetmail_k03_firm_days.Holds := by
  w_on; o_law
  refine HandSHeadRun.head_any (r := OpenLaw.row PySem.Challenge.rw_meetmail_k03_firm_days) (q := view (OpenLaw.row PySem.Challenge.rw_meetmail_k03_firm_days).prog [43]) (H := Pv.hk) (ob := Pv.ob) (M := 40000) (loose := Pv.l0 ++ Pv.l1) (d := HandSHeadRun.topDef (OpenLaw.row PySem.Challenge.rw_meetmail_k03_firm_days).prog 43) (kwd := []) Pv.ob_eq
    (by kernel_rfl) (fun s => by kernel_rfl) Pv.run (by kernel_rfl) (by kernel_rfl) (by kernel_rfl) (by rfl) (by first | assumption | decide +kernel) (by decide +kernel) ⟨rfl, rfl, rfl, rfl, rfl, by decide +kernel⟩ ?hw ?hc
  case hw => w_witness2
  case hc =>
    refine L2.walk_ofE (l := PySem.Challenge.rw_meetmail_k03_firm_days) (n := 63) (k := 2 * 12 + 1) (x := "script") (CX := L2.CX0) rfl (by decide) (by kernel_rfl) ⟨rfl, by decide, by decide⟩ ?F (fun _ _ _ _ z => z)
    intro w mg fa h Y G hmg0
    obtain ⟨K, KX, c⟩ := Y
    have hmg : mg ("law" : PySem.Str) = some (.ref fa) := by
      have e : (HandSHeadRun.topDef (OpenLaw.row PySem.Challenge.rw_meetmail_k03_firm_days).prog 43).name = ("law" : PySem.Str) := by kernel_rfl
      rw [← e]
      exact hmg0
    exact Pv.law_F (n := 12) (m := 63) (f := 1009) (d := Pv.f_law) (dd := Pv.d_1009) (l := Pv.ld) (Pr := (PySem.Challenge.rw_meetmail_k03_firm_days).prog) Pv.an_ok KX G (by kernel_rfl) Pv.bd Pv.bx Pv.bf Pv.bc Pv.st_ok c rfl rfl rfl rfl rfl hmg (by decide +kernel) Pv.bl fun ns hl => Pv.Pl.law_true ns hl
