import PyProof.Rows.All
import Wide.All
import OpenK.AllK
import Wide.FinOn
import HandS.ForMost
import HandS.ForExc
import HandS.Head2
import HandS.HeadHook2
import HandS.ClsMeth
import HandS.FStr
import HandS.Text
import HandS.Wide
import HandS.Deep
import HandS.IsInst
import HandS.Defaults
import HandS.SlotsOwn
import KE.KOpsOwn
import HandS.HeadWalk
import HandS.Dict
import HandS.TupAny
import HandS.RaiseMore
import HandS.OwnEq
import HandS.TupLe
import HandS.Iter
import HandS.Comp
import HandS.Small
import HandS.ExcField
import HandS.TryMany
import HandS.ExcInit
import HandS.HeadEnd
import PySem.Challenge.RW_finalblocks_k03_texts_of_ratios
set_option Elab.async false
set_option linter.all false
set_option  maxRecDepth  100000
section
/-! MP: a small language of plain data: values, store, terms, evaluator. -/
namespace MP
open PySem (Str)
abbrev Sg := List Nat
inductive DK where
  | i (n : Int) | s (x : Sg)
  deriving DecidableEq
inductive DKey where
  | k (a : DK) | t (l : List DK)
  deriving DecidableEq
/-- plain data; obj: class number, fields by place; cls: a class as a value -/
inductive D where
  | non | bl (b : Bool) | int (i : Int) | str (x : Sg)
  | lst (xs : List D) | tup (xs : List D) | dct (kvs : List (DKey × D))
  | obj (c : Nat) (fs : List D) | cls (c : Nat)
/-- a slot's value: data; a thing of the store; a caught error; nothing yet -/
inductive W where
  | v (d : D) | c (n : Nat) | e (c : Nat) (fs : List D) | u
/-- a field of a thing that is being made: data, or a dict of its own -/
inductive Fd where
  | v (d : D) | d (t : Bool) (kvs : List (DKey × D))
/-- a thing of the store (k: being walked, so not to be written) -/
inductive C where
  | lst (k : Bool) (xs : List D) | dct (k t : Bool) (kvs : List (DKey × D)) | obj (c : Nat) (fs : List Fd) | scr (xs : List D) | dead
abbrev M := List C
inductive R (α : Type) where
  | ok (a : α) (m : M) | exc (c : Nat) (fs : List D) (m : M) | bad
def R.bnd {α β : Type} (x : R α) (f : α → M → R β) : R β := match x with
  | .ok a m => f a m
  | .exc c fs m => .exc c fs m
  | .bad => .bad
@[simp] theorem R.bnd_ok {α β : Type} (a : α) (m : M) (f : α → M → R β) : (R.ok a m).bnd f = f a m := Eq.trans rfl rfl
@[simp] theorem R.bnd_exc {α β : Type} (c : Nat) (fs : List D) (m : M) (f : α → M → R β) : (R.exc c fs m : R α).bnd f = .exc c fs m := Eq.trans rfl rfl
@[simp] theorem R.bnd_bad {α β : Type} (f : α → M → R β) : (R.bad : R α).bnd f = .bad := Eq.trans rfl rfl
def R.opt {α : Type} (x : Option α) (m : M) : R α := match x with
  | some a => .ok a m
  | none => .bad
@[simp] theorem R.opt_some {α : Type} (a : α) (m : M) : R.opt (some a) m = .ok a m := Eq.trans rfl rfl
@[simp] theorem R.opt_none {α : Type} (m : M) : R.opt (none : Option α) m = .bad := Eq.trans rfl rfl
/-! ### terms -/
inductive BOp where
  | add | sub | mul | fdiv | mod | pow
  deriving DecidableEq
inductive COp where
  | eq | ne | lt | le | gt | ge | mem | nmem
  deriving DecidableEq
inductive Ty where
  | int | bool | str | list | tuple | dict | cls (c : Nat)
  deriving DecidableEq
inductive BF where
  | len | abs | int | str | tuple | all | any | max | min | repr | sum
  deriving DecidableEq
inductive Tg where
  | n (i : Nat) | t (l : List Nat)
mutual
inductive E where
  | var (i : Nat) | int (i : Int) | str (x : Sg) | bl (b : Bool) | non
  | glob (x : Str) (d : D)
  | bin (op : BOp) (a b : E) | neg (a : E) | not (a : E)
  | cmp (op : COp) (a b : E) | cmp2 (op op' : COp) (a b c : E) | isN (a : E) | notN (a : E)
  | and (a b : E) | or (a b : E) | ite (c a b : E)
  | tup (l : Es)
  | call (f : Nat) (fr : Bool) (l : Es) | callk (f : Nat) (l : Es) (ks : List Str) (lk : Es)
  | meth (c : Nat) (o : E) (f : Nat) (fr : Bool) (l : Es) | methk (c : Nat) (o : E) (f : Nat) (l : Es) (ks : List Str) (lk : Es)
  | make (c : Nat) (fr : Bool) (l : Es) | makek (c : Nat) (l : Es) (ks : List Str) (lk : Es)
  | cmeth (c : Nat) (f : Nat) (l : Es) | cmethk (c : Nat) (f : Nat) (l : Es) (ks : List Str) (lk : Es)
  | makev (i : Nat) (c : Nat) (l : Es)
  | fld (c : Nat) (o : E) (k : Nat) | efld (i : Nat) (k : Nat) (x : Str)
  | fldi (c : Nat) (o : E) (k : Nat) (i : E)
  | isi (a : E) (ts : List Ty)
  | bf (f : BF) (l : Es)
  | idx (a i : E)
  | slice (a : E) (lo hi : E) (hlo hhi : Bool) | rev (a : E)
  | split (a b : E) | join (a b : E) | get (a b : E) | pop (a : E) | fstr (l : Es)
  | nw (fr : Bool) (x : N)
inductive N where
  | lst (l : Es) | dict (t : Bool) (l : Ds)
  | comp (g : Tg) (it : It) (hc : Bool) (cond : E) (elt : E)
  | comp2 (g : Tg) (it : It) (g' : Tg) (it' : It) (hc : Bool) (cond : E) (elt : E)
  | dcomp (g : Tg) (it : It) (hc : Bool) (cond : E) (k v : E)
  | list (e : E) | dictc (e : E) | sorted (e : E) | values (e : E)
inductive Es where
  | nil | cons (e : E) (l : Es) | star (i : It) (l : Es)
inductive Ds where
  | nil | cons (k v : E) (l : Ds) | star (e : E) (l : Ds)
inductive It where
  | e (x : E) | range1 (a : E) | range2 (a b : E) | enum (a : E) | zip (a b : E)
end
mutual
inductive S where
  | asg (g : Tg) (e : E) | par (is : List Nat) (l : Es)
  | setf (c : Nat) (o : E) (k : Nat) (e : E) | setfd (c : Nat) (o : E) (k : Nat) (t : Bool)
  | seti (o i e : E) | setfi (c : Nat) (o : E) (k : Nat) (i e : E)
  | app (o e : E) | clear (o : E) | remove (o e : E)
  | expr (e : E) | ret (e : E) | retN | pass
  | ite (c : E) (a b : Ss) | for_ (g : Tg) (it : It) (b : Ss) | while_ (c : E) (b : Ss)
  | raise (c : Nat) (l : Es)
  | try_ (b : Ss) (hs : Hs)
inductive Ss where
  | nil | cons (s : S) (l : Ss)
inductive Hs where
  | nil | cons (c : Nat) (i : Option Nat) (b : Ss) (l : Hs)
end
structure FnDef where
  at_ : Str × Option Str
  ps : List Str
  dfl : List D
  names : List Str
  body : Ss
structure ClsDef where
  name : Str
  flds : List Str
  init : Nat
  ops : List (Nat × Nat)
  exc : Bool
  here : Bool := true
structure Prog where
  fns : List (Option FnDef)
  cls : List ClsDef
  base : Nat
  wf : Nat
  xi : Option (PySem.Addr × PySem.Value × Option PySem.Addr) := none
def Prog.fn (P : Prog) (f : Nat) : Option FnDef := match P.fns[f]? with
  | some d => d
  | none => none
def Prog.nf (P : Prog) (c : Nat) : Nat := match P.cls[c]? with
  | some d => d.flds.length
  | none => 0
def Prog.op (P : Prog) (c k : Nat) : Option Nat := match P.cls[c]? with
  | some d => d.ops.lookup k
  | none => none
/-! ### the store -/
def vw (m : M) : W → Option D
  | .v d => some d
  | .c n => match m[n]? with
    | some (.lst _ xs) => some (.lst xs)
    | some (.dct _ _ kvs) => some (.dct kvs)
    | some (.scr xs) => some (.lst xs)
    | _ => none
  | _ => none
/-- what is read of a thing that is not the script -/
def vx (m : M) : W → Option D
  | .v d => some d
  | .c n => match m[n]? with
    | some (.lst _ xs) => some (.lst xs)
    | _ => none
  | _ => none
def Fd.fz : Fd → D
  | .v x => x
  | .d _ kvs => .dct kvs
/-- a thing is handed on: from then on it is data -/
def fz (P : Prog) (m : M) : W → Option (D × M)
  | .v d => some (d, m)
  | .c n => match m[n]? with
    | some (.lst false xs) => some (.lst xs, m.set n .dead)
    | some (.dct false _ kvs) => some (.dct kvs, m.set n .dead)
    | some (.obj c fs) => if fs.length = P.nf c then some (.obj c (fs.map Fd.fz), m.set n .dead) else none
    | _ => none
  | _ => none
def fzs (P : Prog) : M → List W → Option (List D × M)
  | m, [] => some ([], m)
  | m, w :: ws => match fz P m w with
    | some (d, m1) => match fzs P m1 ws with
      | some (ds, m2) => some (d :: ds, m2)
      | none => none
    | none => none
/-! ### plain operations -/
def sizeOk (n : Nat) : Bool := decide (n ≤ 16000000)
def mulOk (a b : Int) : Bool := decide (a.natAbs.log2 + b.natAbs.log2 ≤ 900000)
def divOk (b : Int) : Bool := decide (b ≠ 0) && decide (b.natAbs.log2 ≤ 8000)
def binD : BOp → D → D → Option D
  | .add, .int a, .int b => some (.int (a + b))
  | .sub, .int a, .int b => some (.int (a - b))
  | .mul, .int a, .int b => if mulOk a b then some (.int (a * b)) else none
  | .fdiv, .int a, .int b => if divOk b then some (.int (a.fdiv b)) else none
  | .mod, .int a, .int b => if b = 0 then none else some (.int (a.fmod b))
  | .pow, .int a, .int b => if decide (0 ≤ b) && decide (b ≤ 1000) && decide (a.natAbs.log2 ≤ 10000) then some (.int (a ^ b.toNat)) else none
  | .add, .str x, .str y => if sizeOk (x.length + y.length) then some (.str (x ++ y)) else none
  | .add, .lst xs, .lst ys => if sizeOk (xs.length + ys.length) then some (.lst (xs ++ ys)) else none
  | .mul, .lst xs, .int n => if sizeOk (xs.length * n.toNat) && sizeOk n.natAbs then some (.lst (List.replicate n.toNat xs).flatten) else none
  | _, _, _ => none
def BOp.code : BOp → Nat
  | .add => 0 | .sub => 1 | .mul => 2 | .fdiv => 3 | .mod => 4 | .pow => 5
def COp.code : COp → Nat
  | .eq => 10 | .ne => 10 | .lt => 11 | .le => 12 | .gt => 13 | .ge => 14 | .mem => 15 | .nmem => 16
def b2i (b : Bool) : Int := if b then 1 else 0
mutual
/-- data without dicts and own things, of bounded depth -/
def plain : Nat → D → Bool
  | _, .non => true
  | _, .bl _ => true
  | _, .int _ => true
  | _, .str x => x.all fun c => decide (c < 1114112)
  | n + 1, .lst xs => plainL n xs
  | n + 1, .tup xs => plainL n xs
  | _, _ => false
def plainL : Nat → List D → Bool
  | _, [] => true
  | n, x :: xs => plain n x && plainL n xs
end
mutual
def eqB : D → D → Bool
  | .non, .non => true
  | .bl a, .bl b => a == b
  | .bl a, .int j => b2i a == j
  | .int i, .bl b => i == b2i b
  | .int i, .int j => i == j
  | .str x, .str y => x == y
  | .lst xs, .lst ys => eqBs xs ys
  | .tup xs, .tup ys => eqBs xs ys
  | _, _ => false
def eqBs : List D → List D → Bool
  | [], [] => true
  | x :: xs, y :: ys => eqB x y && eqBs xs ys
  | _, _ => false
end
def eqD (a b : D) : Option Bool := if plain 50 a && plain 50 b then some (eqB a b) else none
def keyL : List D → Option (List DK)
  | [] => some []
  | .int i :: r => (keyL r).map (DK.i i :: ·)
  | .str x :: r => (keyL r).map (DK.s x :: ·)
  | _ :: _ => none
def keyOf : D → Option DKey
  | .int i => some (.k (.i i))
  | .str x => some (.k (.s x))
  | .tup xs => (keyL xs).map DKey.t
  | _ => none
def DK.d : DK → D
  | .i n => .int n
  | .s x => .str x
def DKey.d : DKey → D
  | .k a => a.d
  | .t l => .tup (l.map DK.d)
def isK (p : DKey × D) : Bool := match p.1 with
  | .k _ => true
  | _ => false
def memK (x : D) (kvs : List (DKey × D)) : Option Bool := match keyOf x with
  | some (.k a) => if kvs.all isK then some (kvs.lookup (.k a)).isSome else none
  | _ => none
def memL (x : D) (ys : List D) : Option Bool := if plain 50 x && plainL 50 ys then some (ys.any fun y => eqB y x) else none
/-- texts in their order -/
def ltS (x y : Sg) : Bool := decide (x < y)
def isIn (x y : Sg) : Bool := match x with
  | [c] => y.contains c
  | _ => false
def ltTup : List D → List D → Option Bool
  | [.int a, .str x], [.int b, .str y] => some (decide (a < b) || (decide (a = b) && ltS x y))
  | _, _ => none
def cmpD : COp → D → D → Option Bool
  | .eq, a, b => eqD a b
  | .ne, a, b => (eqD a b).map (!·)
  | .lt, .int a, .int b => some (decide (a < b))
  | .le, .int a, .int b => some (decide (a ≤ b))
  | .gt, .int a, .int b => some (decide (b < a))
  | .ge, .int a, .int b => some (decide (b ≤ a))
  | .lt, .str a, .str b => some (ltS a b)
  | .le, .str a, .str b => some (!ltS b a)
  | .lt, .tup xs, .tup ys => ltTup xs ys
  | .mem, x, .lst ys => memL x ys
  | .mem, x, .dct kvs => memK x kvs
  | .mem, .str x, .str y => match x with
    | [c] => some (y.contains c)
    | _ => none
  | .nmem, x, .lst ys => (memL x ys).map (!·)
  | .nmem, x, .dct kvs => (memK x kvs).map (!·)
  | .nmem, .str x, .str y => match x with
    | [c] => some (!y.contains c)
    | _ => none
  | _, _, _ => none
def isiD (P : Prog) (d : D) : Ty → Bool
  | .int => match d with
    | .int _ => true
    | .bl _ => true
    | _ => false
  | .bool => match d with
    | .bl _ => true
    | _ => false
  | .str => match d with
    | .str _ => true
    | _ => false
  | .list => match d with
    | .lst _ => true
    | _ => false
  | .tuple => match d with
    | .tup _ => true
    | _ => false
  | .dict => match d with
    | .dct _ => true
    | _ => false
  | .cls c => match d with
    | .obj c' _ => c == c'
    | _ => false
/-- the place of an index -/
def place (n : Nat) (i : Int) : Option Nat := if 0 ≤ i then (if i.toNat < n then some i.toNat else none) else (if (-i).toNat ≤ n then some (n - (-i).toNat) else none)
def idxD : D → D → Option D
  | .lst xs, .int i => (place xs.length i).bind fun k => xs[k]?
  | .tup xs, .int i => (place xs.length i).bind fun k => xs[k]?
  | .str x, .int i => if sizeOk x.length then (place x.length i).bind fun k => (x[k]?).map fun c => .str [c] else none
  | .dct kvs, x => (keyOf x).bind fun k => kvs.lookup k
  | _, _ => none
def clip (n d : Nat) : Option Int → Nat
  | none => d
  | some i => (max 0 (min (if i < 0 then i + (n : Int) else i) (n : Int))).toNat
def cut {α : Type} (xs : List α) (lo hi : Option Int) : List α := (xs.drop (clip xs.length 0 lo)).take (clip xs.length xs.length hi - clip xs.length 0 lo)
def sliceD (d : D) (lo hi : Option Int) : Option D := match d with
  | .lst xs => some (.lst (cut xs lo hi))
  | .tup xs => some (.tup (cut xs lo hi))
  | .str x => if sizeOk x.length then some (.str (cut x lo hi)) else none
  | _ => none
def putD (kvs : List (DKey × D)) (k : DKey) (v : D) : List (DKey × D) :=
  if kvs.any (fun p => decide (p.1 = k)) then kvs.map (fun p => if p.1 = k then (p.1, v) else p) else kvs ++ [(k, v)]
/-- the signs of a number -/
def numS (n : Int) : Sg := ((toString n : String) : Str).cps.toList
/-- a text cut at each sign s -/
def splitS (s : Nat) : Sg → Sg → List Sg
  | acc, [] => [acc]
  | acc, c :: r => if c = s then acc :: splitS s [] r else splitS s (acc ++ [c]) r
def joinS (s : Sg) : List Sg → Sg
  | [] => []
  | [p] => p
  | p :: q :: r => p ++ (s ++ joinS s (q :: r))
def strL : List D → Option (List Sg)
  | [] => some []
  | .str x :: r => (strL r).map (x :: ·)
  | _ :: _ => none
def intL : List D → Option (List Int)
  | [] => some []
  | .int x :: r => (intL r).map (x :: ·)
  | _ :: _ => none
def boolL : List D → Option (List Bool)
  | [] => some []
  | .bl x :: r => (boolL r).map (x :: ·)
  | _ :: _ => none
def insS (x : Sg) : List Sg → List Sg
  | [] => [x]
  | y :: r => if ltS y x then y :: insS x r else x :: y :: r
def sortS : List Sg → List Sg
  | [] => []
  | x :: r => insS x (sortS r)
def insI (x : Int) : List Int → List Int
  | [] => [x]
  | y :: r => if y < x then y :: insI x r else x :: y :: r
def sortI : List Int → List Int
  | [] => []
  | x :: r => insI x (sortI r)
def sortedD : D → Option (List D)
  | .lst xs => match strL xs with
    | some ss => if ss.length < 64 then some ((sortS ss).map D.str) else none
    | none => match intL xs with
      | some is => if is.length < 64 then some ((sortI is).map D.int) else none
      | none => none
  | _ => none
/-- digits of a text -/
def digits : Sg → Option Nat
  | [] => none
  | l => if l.all (fun c => decide (48 ≤ c ∧ c ≤ 57)) then some (l.foldl (fun a c => a * 10 + (c - 48)) 0) else none
def intText : Sg → Option Int
  | 45 :: r => (digits r).map fun n => -(n : Int)
  | l => (digits l).map fun n => (n : Int)
def ts (x : Sg) : Str := ⟨x.toArray⟩
mutual
def toPy : D → PySem.PyData
  | .non => .none
  | .bl b => .bool b
  | .int i => .int i
  | .str x => .str (ts x)
  | .lst xs => .list (toPys xs)
  | .tup xs => .tuple (toPys xs)
  | .dct _ => .none
  | .obj _ _ => .none
  | .cls _ => .none
def toPys : List D → List PySem.PyData
  | [] => []
  | x :: xs => toPy x :: toPys xs
end
/-- the text that repr gives -/
def reprD (d : D) : Option Sg := match d with
  | .dct [] => some [123, 125]
  | _ => if plain 50 d && (toPy d).showable && sizeOk (toPy d).shown.length then some (toPy d).shown.cps.toList else none
def lenD : D → Option Nat
  | .lst xs => some xs.length
  | .tup xs => some xs.length
  | .str x => if sizeOk x.length then some x.length else none
  | .dct kvs => if kvs.all isK then some kvs.length else none
  | _ => none
def bfD : BF → List D → Option D
  | .len, [x] => (lenD x).map fun n => .int n
  | .abs, [.int i] => some (.int (if i < 0 then -i else i))
  | .int, [.int i] => some (.int i)
  | .int, [.str x] => if x.length ≤ 640 then (PySem.intText? (ts x)).map .int else none
  | .str, [.str x] => some (.str x)
  | .str, [.int i] => if i.natAbs.log2 < 1900 then some (.str (numS i)) else none
  | .tuple, [.lst xs] => some (.tup xs)
  | .all, [.lst xs] => (boolL xs).map fun l => .bl (l.all id)
  | .any, [.lst xs] => (boolL xs).map fun l => .bl (l.any id)
  | .max, [.int a, .int b] => some (.int (if b > a then b else a))
  | .min, [.int a, .int b] => some (.int (if b < a then b else a))
  | .repr, [d] => (reprD d).map D.str
  | _, _ => none
def fmtD : D → Option Sg
  | .str x => some x
  | .int i => if i.natAbs.log2 < 1900 then some (numS i) else none
  | _ => none
/-! ### the evaluator: H.call f fr args -/
structure Hd where
  P : Prog
  call : Nat → Bool → List W → M → R W
def asB (w : W) (m : M) : R Bool := match w with
  | .v (.bl b) => .ok b m
  | _ => .bad
def getV (ρ : List W) (i : Nat) : Option W := match ρ[i]? with
  | some .u => none
  | some w => some w
  | none => none
def setTgs : List Nat → List D → List W → Option (List W)
  | [], [], ρ => some ρ
  | i :: l, d :: ds, ρ => setTgs l ds (ρ.set i (.v d))
  | _, _, _ => none
def setTg : Tg → D → List W → Option (List W)
  | .n i, d, ρ => some (ρ.set i (.v d))
  | .t l, .tup xs, ρ => setTgs l xs ρ
  | _, _, _ => none
def Tg.vars : Tg → List Nat
  | .n i => [i]
  | .t l => l
def wipeW (ρ : List W) : List Nat → List W
  | [] => ρ
  | i :: l => (wipeW ρ l).set i .u
/-- the items that a walk over plain data gives -/
def itemsD : D → Option (List D)
  | .lst xs => some xs
  | .tup xs => some xs
  | .str x => if sizeOk x.length then some (x.map fun c => .str [c]) else none
  | _ => none
def lockC (m : M) : W → M
  | .c n => match m[n]? with
    | some (.lst false xs) => m.set n (.lst true xs)
    | _ => m
  | _ => m
def canIt (m : M) : W → Bool
  | .c n => match m[n]? with
    | some (.dct _ true _) => false
    | _ => true
  | _ => true
/-- behind a walk: what was free before the walk is free again -/
def unlockC (m0 m : M) : W → Option M
  | .c n => match m0[n]? with
    | some (.lst false _) => (match m[n]? with
      | some (.lst true xs) => some (m.set n (.lst false xs))
      | _ => none)
    | _ => some m
  | _ => some m
/-- f, with the walked things locked -/
def lockR {α : Type} : List W → M → (M → R α) → R α
  | [], m, f => (match f m with
    | .ok a m1 => .ok a m1
    | _ => .bad)
  | w :: ws, m, f => match lockR ws (lockC m w) f with
    | .ok a m1 => (match unlockC m m1 w with
      | some m2 => .ok a m2
      | none => .bad)
    | _ => .bad
def rangeD (a b : Int) : List D := (List.range (b - a).toNat).map fun (k : Nat) => .int (a + (k : Int))
def enumD : Nat → List D → List D
  | _, [] => []
  | k, x :: r => .tup [.int (k : Int), x] :: enumD (k + 1) r
def zipD : List D → List D → List D
  | x :: r, y :: q => .tup [x, y] :: zipD r q
  | _, _ => []
def small : Int → Bool
  | .ofNat n => Nat.ble n 4611686018427387903
  | .negSucc n => Nat.ble n 4611686018427387903
def argsG {α : Type} (n : Nat) (us dfl : List α) : Option (List α) := if us.length ≤ n ∧ n ≤ us.length + dfl.length then some (us ++ dfl.drop (us.length + dfl.length - n)) else none
def fnArgs (P : Prog) (f : Nat) (ws : List W) : Option (List W) := match P.fn f with
  | some d => argsG d.ps.length ws (d.dfl.map W.v)
  | none => none
/-- keywords: the values in the parameters' order -/
def argsK {α : Type} (ps : List Str) (us : List α) (kw : List (Str × α)) (dfl : List α) : Option (List α) :=
  if us.length ≤ ps.length ∧ (kw.map (·.1)).Nodup ∧ (∀ q ∈ kw, q.1 ∈ ps.drop us.length) then
    ((ps.drop us.length).mapM fun x => (kw.lookup x).or (((ps.drop (ps.length - dfl.length)).zip dfl).lookup x)).map (us ++ ·) else none
/-- ws: the positional values, us: those of the keywords ks -/
def fnArgsK (P : Prog) (f : Nat) (ws : List W) (ks : List Str) (us : List W) : Option (List W) := match P.fn f with
  | some d => argsK d.ps ws (ks.zip us) (d.dfl.map W.v)
  | none => none
def fzR (P : Prog) (w : W) (m : M) : R D := match fz P m w with
  | some (d, m1) => .ok d m1
  | none => .bad
def compGo (g : Tg) (ρ : List W) (cond : List W → M → R Bool) (elt : List W → M → R D) : List D → M → R (List D)
  | [], m => .ok [] m
  | d :: ds, m => match setTg g d ρ with
    | none => .bad
    | some ρ1 => (cond ρ1 m).bnd fun b m1 => if b then (elt ρ1 m1).bnd fun x m2 => (compGo g ρ cond elt ds m2).bnd fun xs m3 => .ok (x :: xs) m3 else compGo g ρ cond elt ds m1
def comp2Go (g : Tg) (ρ : List W) (inner : List W → M → R (List D)) : List D → M → R (List D)
  | [], m => .ok [] m
  | d :: ds, m => match setTg g d ρ with
    | none => .bad
    | some ρ1 => (inner ρ1 m).bnd fun xs m1 => (comp2Go g ρ inner ds m1).bnd fun ys m2 => .ok (xs ++ ys) m2
def dcompGo (g : Tg) (ρ : List W) (cond : List W → M → R Bool) (kv : List W → M → R (DKey × D)) : List D → M → List (DKey × D) → R (List (DKey × D))
  | [], m, acc => .ok acc m
  | d :: ds, m, acc => match setTg g d ρ with
    | none => .bad
    | some ρ1 => (cond ρ1 m).bnd fun b m1 => if b then (kv ρ1 m1).bnd fun p m2 => dcompGo g ρ cond kv ds m2 (putD acc p.1 p.2) else dcompGo g ρ cond kv ds m1 acc
def C.d : C → Option D
  | .lst _ xs => some (.lst xs)
  | .dct _ _ kvs => some (.dct kvs)
  | _ => none
def putAll (acc : List (DKey × D)) (l : List (DKey × D)) : List (DKey × D) := l.foldl (fun a p => putD a p.1 p.2) acc
def isObj (c : Nat) (m : M) : W → Bool
  | .v (.obj c' _) => c == c'
  | .c n => match m[n]? with
    | some (.obj c' _) => c == c'
    | _ => false
  | _ => false
/-- a new thing of class c: its __init__ runs -/
def mkGo (H : Hd) (i c : Nat) (fr : Bool) (as1 : List W) (m : M) : R W := match H.call i false as1 (m ++ [.obj c []]) with
  | .ok (.v .non) m1 => if fr then .ok (.c m.length) m1 else match fz H.P m1 (.c m.length) with
    | some (d, m2) => .ok (.v d) (m2.take m.length)
    | none => .bad
  | .ok _ _ => .bad
  | .exc e fs m1 => .exc e fs (m1.take m.length)
  | .bad => .bad
def mkObj (H : Hd) (c : Nat) (fr : Bool) (as : List W) (m : M) : R W := match H.P.cls[c]? with
  | none => .bad
  | some cd => match fnArgs H.P cd.init (W.c m.length :: as) with
    | none => .bad
    | some as1 => mkGo H cd.init c fr as1 m
def mkObjK (H : Hd) (c : Nat) (as : List W) (ks : List Str) (us : List W) (m : M) : R W := match H.P.cls[c]? with
  | none => .bad
  | some cd => match fnArgsK H.P cd.init (W.c m.length :: as) ks us with
    | none => .bad
    | some as1 => mkGo H cd.init c false as1 m
def opCall (H : Hd) (c k : Nat) (ws : List W) (m : M) : R W := match H.P.op c k with
  | some f => match fnArgs H.P f ws with
    | some as => H.call f false as m
    | none => .bad
  | none => .bad
/-- what may stand on the right of an own comparison -/
def rhsOk (c : Nat) (m : M) : W → Bool
  | .v (.obj c' _) => c == c'
  | .v (.cls _) => false
  | .v _ => true
  | .c n => (vw m (.c n)).isSome
  | _ => false
def binW (H : Hd) (op : BOp) (a b : W) (m : M) : R W := match a with
  | .v (.obj c fs) => (match b with
    | .v (.obj c' _) => if c = c' then opCall H c op.code [a, b] m else .bad
    | .v (.int _) => opCall H c op.code [a, b] m
    | _ => .bad)
  | _ => match vx m a, vx m b with
    | some x, some y => R.opt ((binD op x y).map W.v) m
    | _, _ => .bad
def notW (r : R W) : R W := r.bnd fun w m => (asB w m).bnd fun b m => .ok (.v (.bl (!b))) m
mutual
/-- two data that may stand for one thing (classes and dicts are not looked at) -/
def sameD : D → D → Bool
  | .non, y => match y with
    | .non => true
    | _ => false
  | .bl a, y => match y with
    | .bl b => a == b
    | _ => false
  | .int i, y => match y with
    | .int j => i == j
    | _ => false
  | .str x, y => match y with
    | .str z => x == z
    | _ => false
  | .lst xs, y => match y with
    | .lst ys => sameL xs ys
    | .non => false
    | .bl _ => false
    | .int _ => false
    | .str _ => false
    | _ => true
  | .obj _ fs, y => match y with
    | .obj _ gs => sameL fs gs
    | .non => false
    | .bl _ => false
    | .int _ => false
    | .str _ => false
    | _ => true
  | _, y => match y with
    | .non => false
    | .bl _ => false
    | .int _ => false
    | .str _ => false
    | _ => true
def sameL : List D → List D → Bool
  | [], ys => match ys with
    | [] => true
    | _ :: _ => false
  | x :: xs, ys => match ys with
    | [] => false
    | y :: ys => sameD x y && sameL xs ys
end
def allO (f : D → D → Option Bool) : List D → List D → Option Bool
  | [], [] => some true
  | x :: xs, y :: ys => match f x y with
    | some true => allO f xs ys
    | r => r
  | _, _ => none
/-- == of two own things, by their def -/
def eqI (H : Hd) (a b : D) : Option Bool := match a, b with
  | .obj c _, .obj c' _ => if c = c' then (match opCall H c 10 [.v a, .v b] [] with
    | .ok (.v (.bl r)) [] => some r
    | _ => none) else none
  | _, _ => none
def gdO (a b : D) (x : Option Bool) : Option Bool := match x with
  | some r => if sameD a b && !r then none else some r
  | none => none
/-- == of lists that hold own things -/
def eqO (H : Hd) : Nat → D → D → Option Bool
  | 0, a, b => if plain 50 a && plain 50 b then some (eqB a b) else gdO a b (eqI H a b)
  | n + 1, a, b => if plain 50 a && plain 50 b then some (eqB a b) else gdO a b (match a, b with
    | .lst xs, .lst ys => if xs.length = ys.length then allO (eqO H n) xs ys else some false
    | _, _ => eqI H a b)
def listsB : D → D → Bool
  | .lst _, .lst _ => true
  | _, _ => false
def cmpO (H : Hd) (op : COp) (a b : D) : Option Bool := if listsB a b then (match op with
  | .eq => eqO H 2 a b
  | .ne => (eqO H 2 a b).map (!·)
  | _ => none) else none
def cmpW (H : Hd) (op : COp) (a b : W) (m : M) : R W := match a with
  | .v (.obj c fs) => if rhsOk c m b then (match op with
    | .eq => opCall H c 10 [a, b] m
    | .ne => notW (opCall H c 10 [a, b] m)
    | .lt => opCall H c 11 [a, b] m
    | .le => opCall H c 12 [a, b] m
    | _ => .bad) else .bad
  | _ => match vw m a, vw m b with
    | some x, some y => R.opt (((cmpD op x y).or (cmpO H op x y)).map fun b => W.v (.bl b)) m
    | _, _ => .bad
def vws (m : M) : List W → Option (List D)
  | [] => some []
  | w :: ws => match vw m w, vws m ws with
    | some d, some ds => some (d :: ds)
    | _, _ => none
def bfW (H : Hd) (f : BF) (ws : List W) (m : M) : R W := match vws m ws with
  | some ds => R.opt ((bfD f ds).map W.v) m
  | none => .bad
def asI (w : W) (m : M) : R (Option Int) := match w with
  | .v (.int i) => .ok (some i) m
  | _ => .bad
def sliceW (x : W) (lo hi : Option Int) (m : M) : R W := match vw m x with
  | some d => R.opt ((sliceD d lo hi).map W.v) m
  | none => .bad
def isNW (t : Bool) (x : W) (m : M) : R W := match x with
  | .v .non => .ok (.v (.bl t)) m
  | .v _ => .ok (.v (.bl (!t))) m
  | .c n => (match m[n]? with
    | some .dead => .bad
    | some _ => .ok (.v (.bl (!t))) m
    | none => .bad)
  | _ => .bad
/-- the unary minus -/
def negW (H : Hd) (x : W) (m1 : M) : R W := match x with
  | .v (.int i) => .ok (.v (.int (-i))) m1
  | .v (.obj c fs) => opCall H c 30 [.v (.obj c fs)] m1
  | _ => .bad
def Prog.own (P : Prog) (c : Nat) : Bool := match P.cls[c]? with
  | some d => d.here && !d.exc
  | none => false
def isiW (P : Prog) (ts : List Ty) (x : W) (m : M) : R W := match vw m x with
  | some (.cls _) => .bad
  | some (.obj c fs) => if P.own c then .ok (.v (.bl (ts.any (isiD P (.obj c fs))))) m else .bad
  | some d => .ok (.v (.bl (ts.any (isiD P d)))) m
  | none => .bad
def idxW (x y : W) (m2 : M) : R W := match vw m2 x, vw m2 y with
  | some d, some q => R.opt ((idxD d q).map W.v) m2
  | _, _ => .bad
def isExc (P : Prog) (c : Nat) : Bool := match P.cls[c]? with
  | some d => d.here && d.exc
  | none => false
def fldIs (P : Prog) (c k : Nat) (x : Str) : Bool := match P.cls[c]? with
  | some d => decide (d.flds[k]? = some x)
  | none => false
def efldR (P : Prog) (i k : Nat) (x : Str) (ρ : List W) (m : M) : R W := match ρ[i]? with
  | some (.e c fs) => if isExc P c && fldIs P c k x then R.opt ((fs[k]?).map W.v) m else .bad
  | _ => .bad
/-- o.f -/
def fldW (c k : Nat) (x : W) (m1 : M) : R W := match x with
  | .v (.obj c' fs) => if c = c' then R.opt ((fs[k]?).map W.v) m1 else .bad
  | .c n => match m1[n]? with
    | some (.obj c' fs) => if c = c' then (match fs[k]? with
      | some (.v d) => .ok (.v d) m1
      | _ => .bad) else .bad
    | _ => .bad
  | _ => .bad
/-- a text's method: the text first -/
def strW {α : Type} (x : W) (f : Sg → R α) : R α := match x with
  | .v (.str s) => f s
  | _ => .bad
def splitW (x : Sg) (y : W) (m2 : M) : R W := match y with
  | .v (.str [s]) => if sizeOk (x.length + 2) && decide (s < 256) then .ok (.v (.lst ((splitS s [] x).map D.str))) m2 else .bad
  | _ => .bad
def joinL (s : Sg) (xs : List D) (m2 : M) : R W := match strL xs with
  | some ss => if sizeOk ((ss.map List.length).sum + ss.length * s.length) then .ok (.v (.str (joinS s ss))) m2 else .bad
  | none => .bad
def joinW (s : Sg) (y : W) (m2 : M) : R W := match vw m2 y with
  | some (.lst xs) => joinL s xs m2
  | some (.tup xs) => joinL s xs m2
  | _ => .bad
/-- a dict that is data -/
def dctW {α : Type} (x : W) (m : M) (f : List (DKey × D) → R α) : R α := match x with
  | .v (.dct kvs) => if kvs.all isK then f kvs else .bad
  | _ => .bad
def getW (kvs : List (DKey × D)) (y : W) (m2 : M) : R W := match y with
  | .v q => (match keyOf q with
    | some (.k a) => .ok (.v ((kvs.lookup (.k a)).getD .non)) m2
    | _ => .bad)
  | _ => .bad
/-- a part of an f-string -/
def fmtW {α : Type} (w : W) (acc : Sg) (f : Sg → R α) : R α := match w with
  | .v d => (match fmtD d with
    | some x => if sizeOk (acc.length + x.length) then f (acc ++ x) else .bad
    | none => .bad)
  | _ => .bad
mutual
def evE (H : Hd) : E → List W → M → R W
  | .var i, ρ, m => R.opt (getV ρ i) m
  | .int i, _, m => .ok (.v (.int i)) m
  | .str x, _, m => .ok (.v (.str x)) m
  | .bl b, _, m => .ok (.v (.bl b)) m
  | .non, _, m => .ok (.v .non) m
  | .glob _ d, _, m => .ok (.v d) m
  | .bin op a b, ρ, m => (evE H a ρ m).bnd fun x m1 => (evE H b ρ m1).bnd fun y m2 => binW H op x y m2
  | .neg a, ρ, m => (evE H a ρ m).bnd (negW H)
  | .not a, ρ, m => notW (evE H a ρ m)
  | .cmp op a b, ρ, m => (evE H a ρ m).bnd fun x m1 => (evE H b ρ m1).bnd fun y m2 => cmpW H op x y m2
  | .cmp2 op op' a b c, ρ, m => (evE H a ρ m).bnd fun x m1 => (evE H b ρ m1).bnd fun y m2 => (cmpW H op x y m2).bnd fun z m3 => (asB z m3).bnd fun k m3 => if k then (evE H c ρ m3).bnd fun t m4 => cmpW H op' y t m4 else .ok (.v (.bl false)) m3
  | .isN a, ρ, m => (evE H a ρ m).bnd (isNW true)
  | .notN a, ρ, m => (evE H a ρ m).bnd (isNW false)
  | .and a b, ρ, m => (evE H a ρ m).bnd fun x m1 => (asB x m1).bnd fun k m1 => if k then evE H b ρ m1 else .ok (.v (.bl false)) m1
  | .or a b, ρ, m => (evE H a ρ m).bnd fun x m1 => (asB x m1).bnd fun k m1 => if k then .ok (.v (.bl true)) m1 else evE H b ρ m1
  | .ite c a b, ρ, m => (evE H c ρ m).bnd fun x m1 => (asB x m1).bnd fun k m1 => if k then evE H a ρ m1 else evE H b ρ m1
  | .tup l, ρ, m => (evEs H l ρ m).bnd fun ws m1 => match fzs H.P m1 ws with
    | some (ds, m2) => .ok (.v (.tup ds)) m2
    | none => .bad
  | .call f fr l, ρ, m => (evEs H l ρ m).bnd fun ws m1 => match fnArgs H.P f ws with
    | some as => H.call f fr as m1
    | none => .bad
  | .callk f l ks lk, ρ, m => (evEs H l ρ m).bnd fun ws m1 => (evEs H lk ρ m1).bnd fun us m2 => match fnArgsK H.P f ws ks us with
    | some as => H.call f false as m2
    | none => .bad
  | .meth c o f fr l, ρ, m => (evE H o ρ m).bnd fun x m1 => if isObj c m1 x then (evEs H l ρ m1).bnd fun ws m2 => match fnArgs H.P f (x :: ws) with
    | some as => H.call f fr as m2
    | none => .bad else .bad
  | .methk c o f l ks lk, ρ, m => (evE H o ρ m).bnd fun x m1 => if isObj c m1 x then (evEs H l ρ m1).bnd fun ws m2 => (evEs H lk ρ m2).bnd fun us m3 => match fnArgsK H.P f (x :: ws) ks us with
    | some as => H.call f false as m3
    | none => .bad else .bad
  | .make c fr l, ρ, m => (evEs H l ρ m).bnd fun ws m1 => mkObj H c fr ws m1
  | .makek c l ks lk, ρ, m => (evEs H l ρ m).bnd fun ws m1 => (evEs H lk ρ m1).bnd fun us m2 => mkObjK H c ws ks us m2
  | .cmeth c f l, ρ, m => (evEs H l ρ m).bnd fun ws m1 => match fnArgs H.P f (.v (.cls c) :: ws) with
    | some as => H.call f false as m1
    | none => .bad
  | .cmethk c f l ks lk, ρ, m => (evEs H l ρ m).bnd fun ws m1 => (evEs H lk ρ m1).bnd fun us m2 => match fnArgsK H.P f (.v (.cls c) :: ws) ks us with
    | some as => H.call f false as m2
    | none => .bad
  | .makev i c l, ρ, m => (R.opt (getV ρ i) m).bnd fun x m => match x with
    | .v (.cls c') => if c = c' then (evEs H l ρ m).bnd fun ws m1 => mkObj H c false ws m1 else .bad
    | _ => .bad
  | .fld c o k, ρ, m => (evE H o ρ m).bnd (fldW c k)
  | .efld i k x, ρ, m => efldR H.P i k x ρ m
  | .fldi c o k i, ρ, m => (evE H o ρ m).bnd fun x m1 => (evE H i ρ m1).bnd fun y m2 => match x with
    | .v (.obj c' fs) => if c = c' then (match fs[k]?, vw m2 y with
      | some d, some q => R.opt ((idxD d q).map W.v) m2
      | _, _ => .bad) else .bad
    | .c n => match m2[n]? with
      | some (.obj c' fs) => if c = c' then (match fs[k]?, vw m2 y with
        | some f, some q => R.opt ((idxD f.fz q).map W.v) m2
        | _, _ => .bad) else .bad
      | _ => .bad
    | _ => .bad
  | .isi a ts, ρ, m => (evE H a ρ m).bnd (isiW H.P ts)
  | .bf f l, ρ, m => (evEs H l ρ m).bnd fun ws m1 => bfW H f ws m1
  | .idx a i, ρ, m => (evE H a ρ m).bnd fun x m1 => (evE H i ρ m1).bnd fun y m2 => idxW x y m2
  | .slice a lo hi hlo hhi, ρ, m => (evE H a ρ m).bnd fun x m1 => (if hlo then (evE H lo ρ m1).bnd asI else .ok none m1).bnd fun y m2 => (if hhi then (evE H hi ρ m2).bnd asI else .ok none m2).bnd fun z m3 => sliceW x y z m3
  | .rev a, ρ, m => (evE H a ρ m).bnd fun x m1 => match vw m1 x with
    | some (.lst xs) => .ok (.v (.lst xs.reverse)) m1
    | _ => .bad
  | .split a b, ρ, m => (evE H a ρ m).bnd fun x m1 => strW x fun s => (evE H b ρ m1).bnd fun y m2 => splitW s y m2
  | .join a b, ρ, m => (evE H a ρ m).bnd fun x m1 => strW x fun s => (evE H b ρ m1).bnd fun y m2 => joinW s y m2
  | .get a b, ρ, m => (evE H a ρ m).bnd fun x m1 => dctW x m1 fun kvs => (evE H b ρ m1).bnd fun y m2 => getW kvs y m2
  | .pop a, ρ, m => (evE H a ρ m).bnd fun x m1 => match x with
    | .c n => match m1[n]? with
      | some (.lst false xs) => match xs.getLast? with
        | some d => .ok (.v d) (m1.set n (.lst false xs.dropLast))
        | none => .bad
      | _ => .bad
    | _ => .bad
  | .fstr l, ρ, m => (evFs H l [] ρ m).bnd fun x m1 => .ok (.v (.str x)) m1
  | .nw fr x, ρ, m => (evN H x ρ m).bnd fun c m1 => if fr then .ok (.c m1.length) (m1 ++ [c]) else R.opt ((C.d c).map W.v) m1
def evFs (H : Hd) : Es → Sg → List W → M → R Sg
  | .nil, acc, _, m => .ok acc m
  | .cons e l, acc, ρ, m => (evE H e ρ m).bnd fun w m1 => fmtW w acc fun acc => evFs H l acc ρ m1
  | .star _ _, _, _, _ => .bad
def evN (H : Hd) : N → List W → M → R C
  | .lst l, ρ, m => (evEs H l ρ m).bnd fun ws m1 => match fzs H.P m1 ws with
    | some (ds, m2) => if sizeOk ds.length then .ok (.lst false ds) m2 else .bad
    | none => .bad
  | .dict t l, ρ, m => (evDs H l ρ m []).bnd fun kvs m1 => if sizeOk kvs.length then .ok (.dct false t kvs) m1 else .bad
  | .comp g it hc cond elt, ρ, m => (evIt H it ρ m).bnd fun q m1 => (lockR q.2 m1 (compGo g (wipeW ρ g.vars) (fun ρ m => if hc then (evE H cond ρ m).bnd asB else .ok true m)
      (fun ρ m => (evE H elt ρ m).bnd (fzR H.P)) q.1)).bnd fun xs m2 => if sizeOk xs.length then .ok (.lst false xs) m2 else .bad
  | .comp2 g it g' it' hc cond elt, ρ, m => (evIt H it ρ m).bnd fun q m1 => (lockR q.2 m1 (comp2Go g (wipeW ρ (g.vars ++ g'.vars)) (fun ρ m => (evIt H it' ρ m).bnd fun q' m' => lockR q'.2 m' (compGo g' (wipeW ρ g'.vars) (fun ρ m => if hc then (evE H cond ρ m).bnd asB else .ok true m)
      (fun ρ m => (evE H elt ρ m).bnd (fzR H.P)) q'.1)) q.1)).bnd fun xs m2 => if sizeOk xs.length then .ok (.lst false xs) m2 else .bad
  | .dcomp g it hc cond k v, ρ, m => (evIt H it ρ m).bnd fun q m1 => (lockR q.2 m1 fun m1 => dcompGo g (wipeW ρ g.vars) (fun ρ m => if hc then (evE H cond ρ m).bnd asB else .ok true m)
      (fun ρ m => (evE H k ρ m).bnd fun kw m => (evE H v ρ m).bnd fun w m => match vw m kw, fz H.P m w with
        | some kd, some (d, m) => (match keyOf kd with
          | some (.k a) => .ok (DKey.k a, d) m
          | _ => .bad)
        | _, _ => .bad) q.1 m1 []).bnd fun kvs m2 => if sizeOk kvs.length then .ok (.dct false false kvs) m2 else .bad
  | .list e, ρ, m => (evE H e ρ m).bnd fun x m1 => match vw m1 x with
    | some (.lst xs) => .ok (.lst false xs) m1
    | some (.tup xs) => .ok (.lst false xs) m1
    | some (.dct kvs) => .ok (.lst false (kvs.map fun p => p.1.d)) m1
    | _ => .bad
  | .dictc e, ρ, m => (evE H e ρ m).bnd fun x m1 => match vw m1 x with
    | some (.dct kvs) => .ok (.dct false false kvs) m1
    | _ => .bad
  | .sorted e, ρ, m => (evE H e ρ m).bnd fun x m1 => match vw m1 x with
    | some d => R.opt ((sortedD d).map fun xs => C.lst false xs) m1
    | none => .bad
  | .values e, ρ, m => (evE H e ρ m).bnd fun x m1 => match vw m1 x with
    | some (.dct kvs) => .ok (.lst false (kvs.map (·.2))) m1
    | _ => .bad
def evEs (H : Hd) : Es → List W → M → R (List W)
  | .nil, _, m => .ok [] m
  | .cons e l, ρ, m => (evE H e ρ m).bnd fun w m1 => (evEs H l ρ m1).bnd fun ws m2 => .ok (w :: ws) m2
  | .star i l, ρ, m => (evIt H i ρ m).bnd fun q m1 => (evEs H l ρ m1).bnd fun ws m2 => .ok (q.1.map W.v ++ ws) m2
def evDs (H : Hd) : Ds → List W → M → List (DKey × D) → R (List (DKey × D))
  | .nil, _, m, acc => .ok acc m
  | .cons k v l, ρ, m, acc => (evE H k ρ m).bnd fun kw m1 => (evE H v ρ m1).bnd fun w m2 => match vw m2 kw, fz H.P m2 w with
    | some kd, some (d, m3) => (match keyOf kd with
      | some q => evDs H l ρ m3 (putD acc q d)
      | none => .bad)
    | _, _ => .bad
  | .star e l, ρ, m, acc => (evE H e ρ m).bnd fun x m1 => match vw m1 x with
    | some (.dct kvs) => evDs H l ρ m1 (putAll acc kvs)
    | _ => .bad
def evIt (H : Hd) : It → List W → M → R (List D × List W)
  | .e x, ρ, m => (evE H x ρ m).bnd fun w m1 => match (vw m1 w).bind itemsD with
    | some ds => if canIt m1 w then .ok (ds, [w]) m1 else .bad
    | none => .bad
  | .range1 a, ρ, m => (evE H a ρ m).bnd fun w m1 => match w with
    | .v (.int j) => if small j then .ok (rangeD 0 j, []) m1 else .bad
    | _ => .bad
  | .range2 a b, ρ, m => (evE H a ρ m).bnd fun w m1 => (evE H b ρ m1).bnd fun w' m2 => match w, w' with
    | .v (.int i), .v (.int j) => if small i && small j then .ok (rangeD i j, []) m2 else .bad
    | _, _ => .bad
  | .enum a, ρ, m => (evE H a ρ m).bnd fun w m1 => match vw m1 w with
    | some (.lst xs) => .ok (enumD 0 xs, [w]) m1
    | _ => .bad
  | .zip a b, ρ, m => (evE H a ρ m).bnd fun w m1 => (evE H b ρ m1).bnd fun w' m2 => match vw m2 w, vw m2 w' with
    | some (.lst xs), some (.lst ys) => .ok (zipD xs ys, [w, w']) m2
    | _, _ => .bad
end
/-- for a caller that will change what it gets: a new thing of the store -/
def evF (H : Hd) : E → List W → M → R W
  | .nw _ x, ρ, m => evE H (.nw true x) ρ m
  | .var i, ρ, m => match getV ρ i with
    | some (.c n) => .ok (.c n) m
    | _ => .bad
  | .call f _ l, ρ, m => evE H (.call f true l) ρ m
  | .meth c o f _ l, ρ, m => evE H (.meth c o f true l) ρ m
  | .ite c a b, ρ, m => (evE H c ρ m).bnd fun x m1 => (asB x m1).bnd fun k m1 => if k then evF H a ρ m1 else evF H b ρ m1
  | _, _, _ => .bad
/-! ### statements -/
inductive O where
  | nx (ρ : List W) (m : M) | rt (w : W) (m : M) | exc (c : Nat) (fs : List D) (ρ : List W) (m : M) | bad
def R.thn {α : Type} (x : R α) (ρ : List W) (f : α → M → O) : O := match x with
  | .ok a m => f a m
  | .exc c fs m => .exc c fs ρ m
  | .bad => .bad
@[simp] theorem R.thn_ok {α : Type} (a : α) (m : M) (ρ : List W) (f : α → M → O) : (R.ok a m).thn ρ f = f a m := Eq.trans rfl rfl
@[simp] theorem R.thn_exc {α : Type} (c : Nat) (fs : List D) (m : M) (ρ : List W) (f : α → M → O) : (R.exc c fs m : R α).thn ρ f = .exc c fs ρ m := Eq.trans rfl rfl
@[simp] theorem R.thn_bad {α : Type} (ρ : List W) (f : α → M → O) : (R.bad : R α).thn ρ f = .bad := Eq.trans rfl rfl
def O.seq (o : O) (f : List W → M → O) : O := match o with
  | .nx ρ m => f ρ m
  | o => o
@[simp] theorem O.seq_nx (ρ : List W) (m : M) (f : List W → M → O) : (O.nx ρ m).seq f = f ρ m := Eq.trans rfl rfl
@[simp] theorem O.seq_rt (w : W) (m : M) (f : List W → M → O) : (O.rt w m).seq f = .rt w m := Eq.trans rfl rfl
@[simp] theorem O.seq_exc (c : Nat) (fs : List D) (ρ : List W) (m : M) (f : List W → M → O) : (O.exc c fs ρ m).seq f = .exc c fs ρ m := Eq.trans rfl rfl
@[simp] theorem O.seq_bad (f : List W → M → O) : O.bad.seq f = .bad := Eq.trans rfl rfl
def forGo (g : Tg) (body : List W → M → O) : List D → List W → M → O
  | [], ρ, m => .nx ρ m
  | d :: ds, ρ, m => match setTg g d ρ with
    | none => .bad
    | some ρ1 => (body ρ1 m).seq fun ρ2 m2 => forGo g body ds ρ2 m2
def whileGo (cond : List W → M → R Bool) (body : List W → M → O) : Nat → List W → M → O
  | 0, _, _ => .bad
  | n + 1, ρ, m => (cond ρ m).thn ρ fun b m1 => if b then (body ρ m1).seq fun ρ2 m2 => whileGo cond body n ρ2 m2 else .nx ρ m1
/-- f, with the walked things locked -/
def lockO : List W → M → (M → O) → O
  | [], m, f => f m
  | w :: ws, m, f => match lockO ws (lockC m w) f with
    | .nx ρ m1 => (match unlockC m m1 w with
      | some m2 => .nx ρ m2
      | none => .bad)
    | .rt x m1 => (match unlockC m m1 w with
      | some m2 => .rt x m2
      | none => .bad)
    | .exc c fs ρ m1 => (match unlockC m m1 w with
      | some m2 => .exc c fs ρ m2
      | none => .bad)
    | .bad => .bad
def setIdx (c : C) (q d : D) : Option C := match c with
  | .lst false xs => match q with
    | .int i => (place xs.length i).map fun k => .lst false (xs.set k d)
    | _ => none
  | .dct false t kvs => match keyOf q with
    | some (.k a) => if t then none else if sizeOk (kvs.length + 1) then some (.dct false t (putD kvs (.k a) d)) else none
    | _ => none
  | _ => none
def isLst (m : M) : W → Bool
  | .c n => (match m[n]? with
    | some (.lst false _) => true
    | _ => false)
  | _ => false
def appO (P : Prog) (ρ : List W) (x w : W) (m2 : M) : O := match x, fz P m2 w with
  | .c n, some (d, m3) => (match m3[n]? with
    | some (.lst false xs) => if sizeOk (xs.length + 1) then .nx ρ (m3.set n (.lst false (xs ++ [d]))) else .bad
    | _ => .bad)
  | _, _ => .bad
def setFd (fs : List Fd) (k : Nat) (f : Fd) : Option (List Fd) := match fs[k]? with
  | some (.v _) => some (fs.set k f)
  | some (.d _ _) => none
  | none => if k = fs.length then some (fs ++ [f]) else none
def setAll (is : List Nat) (ws : List W) (ρ : List W) : List W := (is.zip ws).foldl (fun r p => r.set p.1 p.2) ρ
def catches (P : Prog) (c c' : Nat) : Bool := c == c' || c' == P.base
def unE : W → W
  | .e _ _ => .u
  | w => w
/-- behind an except suite -/
def outS (i : Option Nat) : O → O
  | .nx ρ m => .nx (match i with
    | some j => (ρ.map unE).set j .u
    | none => ρ.map unE) m
  | .rt (.e _ _) _ => .bad
  | .rt w m => .rt w m
  | _ => .bad
def setE (i : Option Nat) (c : Nat) (fs : List D) (ρ : List W) : List W := match i with
  | some j => ρ.set j (.e c fs)
  | none => ρ
def evRet (H : Hd) (fr : Bool) (e : E) (ρ : List W) (m : M) : O := if fr then (evF H e ρ m).thn ρ fun w m => .rt w m else (evE H e ρ m).thn ρ fun w m1 => match fz H.P m1 w with
  | some (d, m2) => .rt (.v d) m2
  | none => .bad
mutual
def evS (H : Hd) (fr : Bool) : S → List W → M → O
  | .asg g e, ρ, m => (evE H e ρ m).thn ρ fun w m1 => match g with
    | .n i => .nx (ρ.set i w) m1
    | .t l => match vw m1 w with
      | some d => (match setTg (.t l) d ρ with
        | some ρ1 => .nx ρ1 m1
        | none => .bad)
      | none => .bad
  | .par is l, ρ, m => (evEs H l ρ m).thn ρ fun ws m1 => if ws.length = is.length then .nx (setAll is ws ρ) m1 else .bad
  | .setf c o k e, ρ, m => (evE H e ρ m).thn ρ fun w m1 => (evE H o ρ m1).thn ρ fun x m2 => match x, fz H.P m2 w with
    | .c n, some (d, m3) => (match m3[n]? with
      | some (.obj c' fs) => if c = c' ∧ k < H.P.nf c then (match setFd fs k (.v d) with
        | some fs' => .nx ρ (m3.set n (.obj c fs'))
        | none => .bad) else .bad
      | _ => .bad)
    | _, _ => .bad
  | .setfd c o k t, ρ, m => (evE H o ρ m).thn ρ fun x m2 => match x with
    | .c n => (match m2[n]? with
      | some (.obj c' fs) => if c = c' ∧ k = fs.length ∧ k < H.P.nf c then .nx ρ (m2.set n (.obj c (fs ++ [.d t []]))) else .bad
      | _ => .bad)
    | _ => .bad
  | .seti o i e, ρ, m => (evE H e ρ m).thn ρ fun w m1 => (evE H o ρ m1).thn ρ fun x m2 => (evE H i ρ m2).thn ρ fun y m3 => match x, vw m3 y, fz H.P m3 w with
    | .c n, some q, some (d, m4) => (match m4[n]? with
      | some c => (match setIdx c q d with
        | some c' => .nx ρ (m4.set n c')
        | none => .bad)
      | none => .bad)
    | _, _, _ => .bad
  | .setfi c o k i e, ρ, m => (evE H e ρ m).thn ρ fun w m1 => (evE H o ρ m1).thn ρ fun x m2 => (evE H i ρ m2).thn ρ fun y m3 => match x, vw m3 y, fz H.P m3 w with
    | .c n, some q, some (d, m4) => (match m4[n]? with
      | some (.obj c' fs) => if c = c' then (match fs[k]?, keyOf q with
        | some (.d false kvs), some (.k a) => .nx ρ (m4.set n (.obj c (fs.set k (.d false (putD kvs (.k a) d)))))
        | some (.d true kvs), some (.t l) => .nx ρ (m4.set n (.obj c (fs.set k (.d true (putD kvs (.t l) d)))))
        | _, _ => .bad) else .bad
      | _ => .bad)
    | _, _, _ => .bad
  | .app o e, ρ, m => (evE H o ρ m).thn ρ fun x m1 => if isLst m1 x then (evE H e ρ m1).thn ρ fun w m2 => appO H.P ρ x w m2 else .bad
  | .clear o, ρ, m => (evE H o ρ m).thn ρ fun x m1 => match x with
    | .c n => (match m1[n]? with
      | some (.lst false _) => .nx ρ (m1.set n (.lst false []))
      | some (.dct false t _) => .nx ρ (m1.set n (.dct false t []))
      | _ => .bad)
    | _ => .bad
  | .remove _ _, _, _ => .bad
  | .expr e, ρ, m => (evE H e ρ m).thn ρ fun _ m1 => .nx ρ m1
  | .ret e, ρ, m => evRet H fr e ρ m
  | .retN, _, m => .rt (.v .non) m
  | .pass, ρ, m => .nx ρ m
  | .ite c a b, ρ, m => ((evE H c ρ m).bnd asB).thn ρ fun k m1 => if k then evSs H fr a ρ m1 else evSs H fr b ρ m1
  | .for_ g it b, ρ, m => (evIt H it ρ m).thn ρ fun q m1 => lockO q.2 m1 (forGo g (fun ρ m => evSs H fr b ρ m) q.1 ρ)
  | .while_ c b, ρ, m => whileGo (fun ρ m => (evE H c ρ m).bnd asB) (fun ρ m => evSs H fr b ρ m) H.P.wf ρ m
  | .raise c l, ρ, m => (evEs H l ρ m).thn ρ fun ws m1 => match fzs H.P m1 ws with
    | some (ds, m2) => if ds.length = H.P.nf c then .exc c ds ρ m2 else .bad
    | none => .bad
  | .try_ b hs, ρ, m => match evSs H false b ρ m with
    | .exc c fs ρ1 m1 => evHs H fr hs c fs ρ1 m1
    | .nx ρ1 m1 => .nx ρ1 m1
    | .rt w m1 => if fr then .bad else .rt w m1
    | .bad => .bad
def evSs (H : Hd) (fr : Bool) : Ss → List W → M → O
  | .nil, ρ, m => .nx ρ m
  | .cons s l, ρ, m => (evS H fr s ρ m).seq fun ρ1 m1 => evSs H fr l ρ1 m1
def evHs (H : Hd) (fr : Bool) : Hs → Nat → List D → List W → M → O
  | .nil, c, fs, ρ, m => .exc c fs ρ m
  | .cons c' i b l, c, fs, ρ, m => if isExc H.P c then (if catches H.P c c' then outS i (evSs ⟨H.P, fun _ _ _ _ => .bad⟩ fr b (setE i c fs ρ) m) else evHs H fr l c fs ρ m) else .bad
end
/-! ### calls -/
def backW (n : Nat) (w : W) (m : M) : R W := match w with
  | .v d => .ok (.v d) (m.take n)
  | .c k => if k < n then .ok (.c k) (m.take n) else match m[k]? with
    | some c => .ok (.c n) (m.take n ++ [c])
    | none => .bad
  | _ => .bad
def entry (d : FnDef) (as : List W) : List W := as ++ List.replicate (d.names.length - as.length) W.u
def runF (P : Prog) : Nat → Nat → Bool → List W → M → R W
  | 0, _, _, _, _ => .bad
  | n + 1, f, fr, as, m => match P.fn f with
    | none => .bad
    | some d => if as.length = d.ps.length then (match evSs ⟨P, runF P n⟩ fr d.body (entry d as) m with
      | .nx _ m1 => .ok (.v .non) (m1.take m.length)
      | .rt w m1 => backW m.length w m1
      | .exc c fs _ m1 => .exc c fs (m1.take m.length)
      | .bad => .bad) else .bad
end MP
end
section
set_option  maxHeartbeats  4000000
/-! Texts cut at a sign, and put together again. -/
namespace MP
theorem splitS_ne (s : Nat) : ∀ (x acc : Sg), splitS s acc x ≠ []
  | [], acc => by simp [splitS]
  | c :: r, acc => by
    unfold splitS
    split
    · simp
    · exact splitS_ne s r _
theorem splitS_free (s : Nat) : ∀ (x acc : Sg), s ∉ acc → ∀ p ∈ splitS s acc x, s ∉ p
  | [], acc, h, p, hp => by
    simp [splitS] at hp
    subst hp
    exact h
  | c :: r, acc, h, p, hp => by
    unfold splitS at hp
    split at hp
    · rcases List.mem_cons.mp hp with e | e
      · subst e; exact h
      · exact splitS_free s r [] (by simp) p e
    · rename_i hc
      exact splitS_free s r _ (by simp; exact ⟨h, fun e => hc e.symm⟩) p hp
theorem joinS_cons (s p : Sg) {l : List Sg} (h : l ≠ []) : joinS s (p :: l) = p ++ (s ++ joinS s l) := by
  cases l with
  | nil => exact absurd rfl h
  | cons q r => rfl
theorem splitS_join (s : Nat) : ∀ (x acc : Sg), joinS [s] (splitS s acc x) = acc ++ x
  | [], acc => by simp [splitS, joinS]
  | c :: r, acc => by
    unfold splitS
    split
    · rename_i hc
      subst hc
      rw [joinS_cons _ _ (splitS_ne _ _ _), splitS_join c r []]
      simp
    · rw [splitS_join s r (acc ++ [c])]
      simp
/-- ahead of the first sign s -/
theorem app_uniq {s : Nat} : ∀ {p q a b : Sg}, s ∉ p → s ∉ q → p ++ s :: a = q ++ s :: b → p = q ∧ a = b
  | [], [], a, b, _, _, h => by simp at h; exact ⟨rfl, h⟩
  | [], y :: q, a, b, _, hq, h => by
    simp at h
    exact absurd (by rw [h.1]; exact List.mem_cons_self) hq
  | x :: p, [], a, b, hp, _, h => by
    simp at h
    exact absurd (by rw [h.1]; exact List.mem_cons_self) hp
  | x :: p, y :: q, a, b, hp, hq, h => by
    simp at h
    obtain ⟨e1, e2⟩ := h
    obtain ⟨e3, e4⟩ := app_uniq (fun z => hp (List.mem_cons_of_mem _ z)) (fun z => hq (List.mem_cons_of_mem _ z)) e2
    exact ⟨by rw [e1, e3], e4⟩
theorem join_uniq {s : Nat} : ∀ {ps qs : List Sg}, ps ≠ [] → qs ≠ [] → (∀ p ∈ ps, s ∉ p) → (∀ p ∈ qs, s ∉ p) → joinS [s] ps = joinS [s] qs → ps = qs
  | [], _, h, _, _, _, _ => absurd rfl h
  | _, [], _, h, _, _, _ => absurd rfl h
  | [p], [q], _, _, _, _, h => by
    have : p = q := h
    rw [this]
  | [p], q :: q2 :: qs, _, _, hp, hq, h => by
    have h' : p = q ++ ([s] ++ joinS [s] (q2 :: qs)) := h
    exact absurd (show s ∈ p by rw [h']; simp) (hp p List.mem_cons_self)
  | p :: p2 :: ps, [q], _, _, hp, hq, h => by
    have h' : p ++ ([s] ++ joinS [s] (p2 :: ps)) = q := h
    exact absurd (show s ∈ q by rw [← h']; simp) (hq q List.mem_cons_self)
  | p :: p2 :: ps, q :: q2 :: qs, _, _, hp, hq, h => by
    have h' : p ++ ([s] ++ joinS [s] (p2 :: ps)) = q ++ ([s] ++ joinS [s] (q2 :: qs)) := h
    obtain ⟨e1, e2⟩ := app_uniq (hp p List.mem_cons_self) (hq q List.mem_cons_self) (by simpa using h')
    rw [e1, join_uniq (ps := p2 :: ps) (qs := q2 :: qs) (by simp) (by simp) (fun z hz => hp z (List.mem_cons_of_mem _ hz)) (fun z hz => hq z (List.mem_cons_of_mem _ hz)) e2]
theorem split_of_join {s : Nat} {ps : List Sg} (h : ps ≠ []) (hp : ∀ p ∈ ps, s ∉ p) : splitS s [] (joinS [s] ps) = ps :=
  join_uniq (splitS_ne _ _ _) h (splitS_free s _ [] (by simp)) hp (by rw [splitS_join]; rfl)
end MP
end
section
set_option  maxHeartbeats  4000000
/-! How plain data stands in the abstract heap. -/
namespace MP
open PySem PySem.Spec PyProof.Rows L2
abbrev Fg := PySem.W.Frag
/-- a def's place; a classmethod's def stands in its record -/
def fA (K : Fg) (p : Str × Option Str) : Addr := match PySem.W.recIn K (He.fAd K p) "classmethod" with
  | some (.ref g :: _) => g
  | _ => He.fAd K p
def isCm (K : Fg) (p : Str × Option Str) : Bool := (PySem.W.recIn K (He.fAd K p) "classmethod").isSome
def ca (P : Prog) (K : Fg) (c : Nat) : Addr := match P.cls[c]? with
  | some d => He.ga K d.name
  | none => 0
def fnm (P : Prog) (c : Nat) : List Str := match P.cls[c]? with
  | some d => d.flds
  | none => []
def DK.key : DK → Key
  | .i n => .inl n
  | .s x => .inr (ts x)
/-- a tuple of the written part -/
def KTup (K : Fg) (a : Addr) (vs : List V) : Prop := ∃ (o : Obj) (its : Array Value) (n : Nat), K.lookup a = some o ∧ o.cls = .type "tuple" ∧ o.data = .seq its n ∧ its.size ≤ sizeLine ∧ Vals vs its.toList
section
variable (P : Prog) (K : Fg) (fro : Addr → Prop) (H : Hp)
mutual
def Dat : D → V → Prop
  | .non, v => v = .non
  | .bl b, v => v = .bl b
  | .int i, v => v = .int i
  | .str x, v => v = .str (ts x)
  | .lst xs, v => ∃ a vs, v = .ref a ∧ fro a ∧ H a = some (.lst vs) ∧ DatL xs vs
  | .tup xs, v => ∃ a vs, v = .ref a ∧ ((fro a ∧ H a = some (.tup vs)) ∨ KTup K a vs) ∧ DatL xs vs
  | .dct kvs, v => ∃ a, v = .ref a ∧ fro a ∧ ((∃ kv, Rd H a (.dK kv) ∧ DatK kvs kv) ∨ ∃ kv, H a = some (.dT kv) ∧ DatT kvs kv)
  | .obj c fs, v => ∃ a dx vs, v = .ref a ∧ fro a ∧ H a = some (.ins (ca P K c) dx vs) ∧ vs.map (·.1) = fnm P c ∧ DatL fs (vs.map (·.2))
  | .cls c, v => v = .ref (ca P K c)
def DatL : List D → List V → Prop
  | [], vs => vs = []
  | d :: ds, vs => ∃ v r, vs = v :: r ∧ Dat d v ∧ DatL ds r
def DatK : List (DKey × D) → List (Key × V) → Prop
  | [], kv => kv = []
  | (k, d) :: ds, kv => ∃ a v r, k = .k a ∧ kv = (a.key, v) :: r ∧ Dat d v ∧ DatK ds r
def DatT : List (DKey × D) → List (List Key × V) → Prop
  | [], kv => kv = []
  | (k, d) :: ds, kv => ∃ l v r, k = .t l ∧ kv = (l.map DK.key, v) :: r ∧ Dat d v ∧ DatT ds r
end
end
/-- what is kept of a thing that is data -/
structure Keep (H H' : Hp) (a : Addr) : Prop where
  tup : ∀ vs, H a = some (.tup vs) → H' a = some (.tup vs)
  ins : ∀ C dx fs, H a = some (.ins C dx fs) → H' a = some (.ins C dx fs)
  xd : ∀ fs, H a = some (.xd fs) → H' a = some (.xd fs)
  lst : ∀ vs, H a = some (.lst vs) → H' a = some (.lst vs)
  dK : ∀ kv, Rd H a (.dK kv) → Rd H' a (.dK kv)
  dT : ∀ kv, H a = some (.dT kv) → H' a = some (.dT kv)
theorem Keep.of {H H' : Hp} {a : Addr} (h : H' a = H a) : Keep H H' a := by
  have r : ∀ u, Rd H a u → Rd H' a u := fun u q => by
    rcases q with q | ⟨o, q⟩
    · exact .inl (h.trans q)
    · exact .inr ⟨o, h.trans q⟩
  exact ⟨fun _ q => h.trans q, fun _ _ _ q => h.trans q, fun _ q => h.trans q, fun _ q => h.trans q, fun _ => r _, fun _ q => h.trans q⟩
theorem Keep.rfl {H : Hp} {a : Addr} : Keep H H a := .of (Eq.refl _)
theorem Keep.trans {H H1 H2 : Hp} {a : Addr} (x : Keep H H1 a) (y : Keep H1 H2 a) : Keep H H2 a :=
  ⟨fun _ q => y.tup _ (x.tup _ q), fun _ _ _ q => y.ins _ _ _ (x.ins _ _ _ q), fun _ q => y.xd _ (x.xd _ q), fun _ q => y.lst _ (x.lst _ q), fun _ q => y.dK _ (x.dK _ q), fun _ q => y.dT _ (x.dT _ q)⟩
section
variable {P : Prog} {K : Fg} {fro fro' : Addr → Prop} {H H' : Hp}
mutual
theorem Dat.mono (hf : ∀ a, fro a → fro' a) (hk : ∀ a, fro a → Keep H H' a) : ∀ {d : D} {v : V}, Dat P K fro H d v → Dat P K fro' H' d v
  | .non, v, h => by unfold Dat at h ⊢; exact h
  | .bl b, v, h => by unfold Dat at h ⊢; exact h
  | .int i, v, h => by unfold Dat at h ⊢; exact h
  | .str x, v, h => by unfold Dat at h ⊢; exact h
  | .lst xs, v, h => by
    unfold Dat at h ⊢
    obtain ⟨a, vs, e, f, r, l⟩ := h
    exact ⟨a, vs, e, hf a f, (hk a f).lst _ r, DatL.mono hf hk l⟩
  | .tup xs, v, h => by
    unfold Dat at h ⊢
    obtain ⟨a, vs, e, r, l⟩ := h
    refine ⟨a, vs, e, ?_, DatL.mono hf hk l⟩
    rcases r with ⟨f, r⟩ | r
    · exact .inl ⟨hf a f, (hk a f).tup _ r⟩
    · exact .inr r
  | .dct kvs, v, h => by
    unfold Dat at h ⊢
    obtain ⟨a, e, f, r⟩ := h
    refine ⟨a, e, hf a f, ?_⟩
    rcases r with ⟨kv, r, l⟩ | ⟨kv, r, l⟩
    · exact .inl ⟨kv, (hk a f).dK _ r, DatK.mono hf hk l⟩
    · exact .inr ⟨kv, (hk a f).dT _ r, DatT.mono hf hk l⟩
  | .obj c fs, v, h => by
    unfold Dat at h ⊢
    obtain ⟨a, dx, vs, e, f, r, n, l⟩ := h
    exact ⟨a, dx, vs, e, hf a f, (hk a f).ins _ _ _ r, n, DatL.mono hf hk l⟩
  | .cls c, v, h => by unfold Dat at h ⊢; exact h
theorem DatL.mono (hf : ∀ a, fro a → fro' a) (hk : ∀ a, fro a → Keep H H' a) : ∀ {ds : List D} {vs : List V}, DatL P K fro H ds vs → DatL P K fro' H' ds vs
  | [], vs, h => by unfold DatL at h ⊢; exact h
  | d :: ds, vs, h => by
    unfold DatL at h ⊢
    obtain ⟨v, r, e, h1, h2⟩ := h
    exact ⟨v, r, e, Dat.mono hf hk h1, DatL.mono hf hk h2⟩
theorem DatK.mono (hf : ∀ a, fro a → fro' a) (hk : ∀ a, fro a → Keep H H' a) : ∀ {ds : List (DKey × D)} {vs : List (Key × V)}, DatK P K fro H ds vs → DatK P K fro' H' ds vs
  | [], vs, h => by unfold DatK at h ⊢; exact h
  | (k, d) :: ds, vs, h => by
    unfold DatK at h ⊢
    obtain ⟨a, v, r, ek, e, h1, h2⟩ := h
    exact ⟨a, v, r, ek, e, Dat.mono hf hk h1, DatK.mono hf hk h2⟩
theorem DatT.mono (hf : ∀ a, fro a → fro' a) (hk : ∀ a, fro a → Keep H H' a) : ∀ {ds : List (DKey × D)} {vs : List (List Key × V)}, DatT P K fro H ds vs → DatT P K fro' H' ds vs
  | [], vs, h => by unfold DatT at h ⊢; exact h
  | (k, d) :: ds, vs, h => by
    unfold DatT at h ⊢
    obtain ⟨a, v, r, ek, e, h1, h2⟩ := h
    exact ⟨a, v, r, ek, e, Dat.mono hf hk h1, DatT.mono hf hk h2⟩
end
theorem DatL.cons {d : D} {ds : List D} {v : V} {vs : List V} (h : Dat P K fro H d v) (t : DatL P K fro H ds vs) : DatL P K fro H (d :: ds) (v :: vs) := by unfold DatL; exact ⟨v, vs, rfl, h, t⟩
theorem DatL.nil : DatL P K fro H [] [] := by unfold DatL; rfl
theorem DatL.length : ∀ {ds : List D} {vs : List V}, DatL P K fro H ds vs → vs.length = ds.length
  | [], vs, h => by unfold DatL at h; rw [h]; rfl
  | d :: ds, vs, h => by
    unfold DatL at h
    obtain ⟨v, r, e, _, h2⟩ := h
    rw [e, List.length_cons, List.length_cons, DatL.length h2]
theorem DatL.get : ∀ {ds : List D} {vs : List V} {i : Nat} {d : D}, DatL P K fro H ds vs → ds[i]? = some d → ∃ v, vs[i]? = some v ∧ Dat P K fro H d v
  | [], _, i, _, _, e => by simp at e
  | x :: ds, vs, i, d, h, e => by
    unfold DatL at h
    obtain ⟨v, r, e1, h1, h2⟩ := h
    subst e1
    cases i with
    | zero => simp at e; subst e; exact ⟨v, rfl, h1⟩
    | succ i => simpa using DatL.get h2 (by simpa using e)
theorem DatL.get' : ∀ {ds : List D} {vs : List V} {i : Nat} {v : V}, DatL P K fro H ds vs → vs[i]? = some v → ∃ d, ds[i]? = some d ∧ Dat P K fro H d v
  | [], vs, i, v, h, e => by unfold DatL at h; rw [h] at e; simp at e
  | x :: ds, vs, i, d, h, e => by
    unfold DatL at h
    obtain ⟨v, r, e1, h1, h2⟩ := h
    subst e1
    cases i with
    | zero => simp at e; subst e; exact ⟨x, rfl, h1⟩
    | succ i => simpa using DatL.get' h2 (by simpa using e)
theorem DatL.append : ∀ {ds ds' : List D} {vs vs' : List V}, DatL P K fro H ds vs → DatL P K fro H ds' vs' → DatL P K fro H (ds ++ ds') (vs ++ vs')
  | [], _, vs, _, h, h' => by unfold DatL at h; rw [h]; exact h'
  | x :: ds, _, vs, _, h, h' => by
    unfold DatL at h
    obtain ⟨v, r, e1, h1, h2⟩ := h
    subst e1
    exact DatL.cons h1 (DatL.append h2 h')
end
/-! ### the world: what is data, what is owned by the things of the store -/
structure Wd where
  fro : Addr → Prop
  ow : List (List Addr)
  xi : Option (Addr × Value × Option Addr)
  hid : Addr → Prop
  prot : Addr → Prop
section
variable (P : Prog) (K : Fg) (w : Wd) (H : Hp)
def FdL : List Fd → List V → List Addr → Prop
  | [], vs, as => vs = [] ∧ as = []
  | .v d :: fs, vs, as => ∃ v r, vs = v :: r ∧ Dat P K w.fro H d v ∧ FdL fs r as
  | .d t kvs :: fs, vs, as => ∃ a r q, vs = .ref a :: r ∧ as = a :: q ∧ (if t then ∃ kv, H a = some (.dT kv) ∧ DatT P K w.fro H kvs kv else ∃ kv, H a = some (.dK kv) ∧ DatK P K w.fro H kvs kv) ∧ FdL fs r q
def CRel (as : List Addr) : C → Prop
  | .lst _ xs => ∃ a vs, as = [a] ∧ H a = some (.lst vs) ∧ DatL P K w.fro H xs vs
  | .dct k t kvs => ∃ a, as = [a] ∧ (if t then ∃ kv, H a = some (.dT kv) ∧ DatT P K w.fro H kvs kv
      else ∃ kv, (if k then ∃ o, H a = some (.frz o (.dK kv)) else H a = some (.dK kv)) ∧ DatK P K w.fro H kvs kv)
  | .obj c fs => ∃ a r dx vs, as = a :: r ∧ H a = some (.ins (ca P K c) dx vs) ∧ fs.length ≤ (fnm P c).length ∧ vs.map (·.1) = (fnm P c).take fs.length ∧ FdL P K w H fs (vs.map (·.2)) r
  | .scr xs => ∃ a vs, as = [a] ∧ Rd H a (.lst vs) ∧ DatL P K w.fro H xs vs
  | .dead => as = []
def C.locked : C → Bool
  | .lst k _ => k
  | .dct k _ _ => k
  | .scr _ => true
  | _ => false
structure MRel (m : M) : Prop where
  len : w.ow.length = m.length
  at_ : ∀ (n : Nat) c as, m[n]? = some c → w.ow[n]? = some as → CRel P K w H as c
  nd : w.ow.flatten.Nodup
  dis : ∀ a ∈ w.ow.flatten, ¬ w.fro a
  some_ : ∀ a, w.fro a → H a ≠ none
  hid : ∀ a, w.hid a → ¬ w.fro a ∧ a ∉ w.ow.flatten ∧ H a ≠ none
  pro : ∀ a, w.prot a → ¬ w.fro a ∧ H a ≠ none
  lk : ∀ (n : Nat) c as, m[n]? = some c → w.ow[n]? = some as → c.locked = false → ∀ a ∈ as, ¬ w.prot a
  lk2 : ∀ (n : Nat) c as, m[n]? = some c → w.ow[n]? = some as → c.locked = true → ∀ a ∈ as, w.prot a
  xk : w.xi = P.xi
def WRel : W → V → Prop
  | .v d, v => Dat P K w.fro H d v
  | .c n, v => ∃ as, w.ow[n]? = some as ∧ ∀ a, as.head? = some a → v = .ref a
  | .e c fs, v => ∃ a cls d, w.xi = some (a, cls, d) ∧ v = .ref a ∧ cls = .ref (ca P K c) ∧ (fs = [] ∨ ∃ dd vs, d = some dd ∧ w.fro dd ∧ H dd = some (.xd vs) ∧ vs.map (·.1) = fnm P c ∧ DatL P K w.fro H fs (vs.map (·.2)))
  | .u, _ => True
def SRel (ρ : List W) (σ : L2.St) : Prop := ρ.length = σ.length ∧ ∀ (i : Nat) x, ρ[i]? = some x → x ≠ .u → ∃ v, σ[i]? = some (some v) ∧ WRel P K w H x v
def WsRel : List W → List V → Prop
  | [], vs => vs = []
  | x :: xs, vs => ∃ v r, vs = v :: r ∧ WRel P K w H x v ∧ WsRel xs r
/-- what an error carries -/
def XRel (c : Nat) (fs : List D) (cls : Value) (d : Option Addr) : Prop := cls = .ref (ca P K c) ∧ (fs = [] ∨ ∃ dd vs, d = some dd ∧ w.fro dd ∧ H dd = some (.xd vs) ∧ vs.map (·.1) = fnm P c ∧ DatL P K w.fro H fs (vs.map (·.2)))
end
structure Ext (w : Wd) (H : Hp) (w' : Wd) (H' : Hp) : Prop where
  fro : ∀ a, w.fro a → w'.fro a
  keep : ∀ a, w.fro a → Keep H H' a
  ow : ∀ (n : Nat) as, w.ow[n]? = some as → ∃ as', w'.ow[n]? = some as' ∧ ∀ a, as'.head? = some a → as.head? = some a
  xi : w'.xi = w.xi
  hid : w'.hid = w.hid
  prot : w'.prot = w.prot
  pk : ∀ a, w.hid a ∨ w.prot a → H' a = H a
theorem Ext.rfl {w : Wd} {H : Hp} : Ext w H w H := ⟨fun _ h => h, fun _ _ => .rfl, fun _ as h => ⟨as, h, fun _ q => q⟩, Eq.refl _, Eq.refl _, Eq.refl _, fun _ _ => Eq.refl _⟩
theorem Ext.trans {w w1 w2 : Wd} {H H1 H2 : Hp} (x : Ext w H w1 H1) (y : Ext w1 H1 w2 H2) : Ext w H w2 H2 :=
  ⟨fun a h => y.fro a (x.fro a h), fun a h => (x.keep a h).trans (y.keep a (x.fro a h)), fun n as h => by
    obtain ⟨as1, h1, q1⟩ := x.ow n as h
    obtain ⟨as2, h2, q2⟩ := y.ow n as1 h1
    exact ⟨as2, h2, fun a q => q1 a (q2 a q)⟩, y.xi.trans x.xi, y.hid.trans x.hid, y.prot.trans x.prot, fun a h => (y.pk a (by rw [x.hid, x.prot]; exact h)).trans (x.pk a h)⟩
section
variable {P : Prog} {K : Fg} {w w' : Wd} {H H' : Hp}
theorem WRel.mono (x : Ext w H w' H') : ∀ {a : W} {v : V}, WRel P K w H a v → WRel P K w' H' a v
  | .v d, v, h => Dat.mono x.fro x.keep h
  | .c n, v, h => by
    obtain ⟨as, h1, h2⟩ := h
    obtain ⟨as', h3, h4⟩ := x.ow n as h1
    exact ⟨as', h3, fun a q => h2 a (h4 a q)⟩
  | .e c fs, v, h => by
    obtain ⟨a, cls, d, h1, h2, h3, h4⟩ := h
    refine ⟨a, cls, d, x.xi.trans h1, h2, h3, ?_⟩
    rcases h4 with h4 | ⟨dd, vs, e, f, q, n, l⟩
    · exact .inl h4
    · exact .inr ⟨dd, vs, e, x.fro _ f, (x.keep _ f).xd _ q, n, DatL.mono x.fro x.keep l⟩
  | .u, _, _ => trivial
theorem SRel.mono (x : Ext w H w' H') {ρ : List W} {σ : L2.St} (h : SRel P K w H ρ σ) : SRel P K w' H' ρ σ := ⟨h.1, fun i a e n => by
  obtain ⟨v, h1, h2⟩ := h.2 i a e n
  exact ⟨v, h1, h2.mono x⟩⟩
theorem WsRel.mono (x : Ext w H w' H') : ∀ {as : List W} {vs : List V}, WsRel P K w H as vs → WsRel P K w' H' as vs
  | [], vs, h => h
  | a :: as, vs, h => by
    obtain ⟨v, r, e, h1, h2⟩ := h
    exact ⟨v, r, e, h1.mono x, WsRel.mono x h2⟩
theorem WsRel.nil : WsRel P K w H [] [] := Eq.refl _
theorem WsRel.cons {a : W} {as : List W} {v : V} {vs : List V} (h : WRel P K w H a v) (t : WsRel P K w H as vs) : WsRel P K w H (a :: as) (v :: vs) := ⟨v, vs, Eq.refl _, h, t⟩
theorem WsRel.length : ∀ {as : List W} {vs : List V}, WsRel P K w H as vs → vs.length = as.length
  | [], vs, h => by have e : vs = [] := h; rw [e]; rfl
  | a :: as, vs, h => by
    obtain ⟨v, r, e, h1, h2⟩ := h
    rw [e, List.length_cons, List.length_cons, WsRel.length h2]
theorem WsRel.append : ∀ {as as' : List W} {vs vs' : List V}, WsRel P K w H as vs → WsRel P K w H as' vs' → WsRel P K w H (as ++ as') (vs ++ vs')
  | [], _, vs, _, h, h' => by have e : vs = [] := h; rw [e]; exact h'
  | a :: as, _, vs, _, h, h' => by
    obtain ⟨v, r, e, h1, h2⟩ := h
    subst e
    exact WsRel.cons h1 (WsRel.append h2 h')
theorem XRel.mono (x : Ext w H w' H') {c : Nat} {fs : List D} {cls : Value} {d : Option Addr} (h : XRel P K w H c fs cls d) : XRel P K w' H' c fs cls d := by
  obtain ⟨h1, h4⟩ := h
  refine ⟨h1, ?_⟩
  rcases h4 with h4 | ⟨dd, vs, e, f, q, n, l⟩
  · exact .inl h4
  · exact .inr ⟨dd, vs, e, x.fro _ f, (x.keep _ f).xd _ q, n, DatL.mono x.fro x.keep l⟩
end
/-! ### what is wanted behind a piece -/
section
variable (P : Prog) (K : Fg)
def Post {α β : Type} (rel : Wd → Hp → α → β → Prop) (w : Wd) (H : Hp) (r : R α) (Q : β → Hp → Prop) (Wx : Value → Option Addr → Hp → Prop) : Prop := match r with
  | .ok a m => ∀ b w' H', Ext w H w' H' → MRel P K w' H' m → rel w' H' a b → Q b H'
  | .exc c fs m => ∀ cls d w' H', Ext w H w' H' → MRel P K w' H' m → XRel P K w' H' c fs cls d → Wx cls d H'
  | .bad => False
end
section
variable {P : Prog} {K : Fg} {w w1 : Wd} {H H1 : Hp} {α β γ δ : Type} {rel : Wd → Hp → α → β → Prop} {rel' : Wd → Hp → γ → δ → Prop} {r : R α} {Q Q' : β → Hp → Prop} {Wx : Value → Option Addr → Hp → Prop}
theorem Post.ext (h : Post P K rel w H r Q Wx) (x : Ext w H w1 H1) : Post P K rel w1 H1 r Q Wx := by
  cases r with
  | ok a m => exact fun b w' H' y => h b w' H' (x.trans y)
  | exc c fs m => exact fun cls d w' H' y => h cls d w' H' (x.trans y)
  | bad => exact h
theorem Post.mono (h : Post P K rel w H r Q Wx) (hq : ∀ b H', Q b H' → Q' b H') : Post P K rel w H r Q' Wx := by
  cases r with
  | ok a m => exact fun b w' H' y z t => hq _ _ (h b w' H' y z t)
  | exc c fs m => exact h
  | bad => exact h
theorem Post.bnd {f : α → M → R γ} {Q2 : δ → Hp → Prop} (h : Post P K rel' w H (r.bnd f) Q2 Wx) (rel : Wd → Hp → α → β → Prop) :
    Post P K rel w H r (fun b H1 => ∃ a w1 m1, Ext w H w1 H1 ∧ MRel P K w1 H1 m1 ∧ rel w1 H1 a b ∧ Post P K rel' w1 H1 (f a m1) Q2 Wx) Wx := by
  cases r with
  | ok a m => exact fun b w' H' y z t => ⟨a, w', m, y, z, t, Post.ext h y⟩
  | exc c fs m => exact h
  | bad => exact h
theorem Post.ok {a : α} {m : M} {b : β} (h : Post P K rel w H (.ok a m) Q Wx) (hm : MRel P K w H m) (hr : rel w H a b) : Q b H := h b w H .rfl hm hr
end
end MP
end
section
set_option  maxHeartbeats  4000000
namespace MP
open PySem PySem.Spec PyProof.Rows L2
section
variable {P : Prog} {K : Fg} {w w' : Wd} {H H' : Hp} {m : M}
theorem FdL.mono (hf : ∀ a, w.fro a → w'.fro a) (hk : ∀ a, w.fro a → Keep H H' a) : ∀ {fs : List Fd} {vs : List V} {as : List Addr}, (∀ a ∈ as, H' a = H a) → FdL P K w H fs vs as → FdL P K w' H' fs vs as
  | [], _, _, _, h => h
  | .v d :: fs, vs, as, ho, h => by
    obtain ⟨v, r, e, h1, h2⟩ := h
    exact ⟨v, r, e, Dat.mono hf hk h1, FdL.mono hf hk ho h2⟩
  | .d t kvs :: fs, vs, as, ho, h => by
    obtain ⟨a, r, q, e, e2, h1, h2⟩ := h
    subst e2
    have ha : H' a = H a := ho a List.mem_cons_self
    refine ⟨a, r, q, e, rfl, ?_, FdL.mono hf hk (fun b hb => ho b (List.mem_cons_of_mem _ hb)) h2⟩
    cases t with
    | true =>
      obtain ⟨kv, k1, k2⟩ := h1
      exact ⟨kv, ha.trans k1, DatT.mono hf hk k2⟩
    | false =>
      obtain ⟨kv, k1, k2⟩ := h1
      exact ⟨kv, ha.trans k1, DatK.mono hf hk k2⟩
theorem CRel.mono (hf : ∀ a, w.fro a → w'.fro a) (hk : ∀ a, w.fro a → Keep H H' a) {as : List Addr} (ho : ∀ a ∈ as, H' a = H a) : ∀ {c : C}, CRel P K w H as c → CRel P K w' H' as c
  | .lst _ xs, h => by
    obtain ⟨a, vs, e, q, l⟩ := h
    subst e
    exact ⟨a, vs, rfl, (ho a List.mem_cons_self).trans q, DatL.mono hf hk l⟩
  | .dct k t kvs, h => by
    obtain ⟨a, e, q⟩ := h
    subst e
    have ha : H' a = H a := ho a List.mem_cons_self
    refine ⟨a, rfl, ?_⟩
    cases t with
    | true =>
      obtain ⟨kv, k1, k2⟩ := q
      exact ⟨kv, ha.trans k1, DatT.mono hf hk k2⟩
    | false =>
      obtain ⟨kv, k1, k2⟩ := q
      refine ⟨kv, ?_, DatK.mono hf hk k2⟩
      cases k with
      | true =>
        obtain ⟨o, k1⟩ := k1
        exact ⟨o, ha.trans k1⟩
      | false => exact ha.trans k1
  | .obj c fs, h => by
    obtain ⟨a, r, dx, vs, e, q, n1, n2, l⟩ := h
    subst e
    exact ⟨a, r, dx, vs, rfl, (ho a List.mem_cons_self).trans q, n1, n2, FdL.mono hf hk (fun b hb => ho b (List.mem_cons_of_mem _ hb)) l⟩
  | .scr xs, h => by
    obtain ⟨a, vs, e, q, l⟩ := h
    subst e
    have ha : H' a = H a := ho a List.mem_cons_self
    refine ⟨a, vs, rfl, ?_, DatL.mono hf hk l⟩
    rcases q with q | ⟨o, q⟩
    · exact .inl (ha.trans q)
    · exact .inr ⟨o, ha.trans q⟩
  | .dead, h => h
theorem mem_ow {ow : List (List Addr)} {n : Nat} {as : List Addr} (h : ow[n]? = some as) : ∀ a ∈ as, a ∈ ow.flatten := fun a ha => List.mem_flatten.mpr ⟨as, List.mem_of_getElem? h, ha⟩
theorem FdL.some : ∀ {fs : List Fd} {vs : List V} {as : List Addr}, FdL P K w H fs vs as → ∀ a ∈ as, H a ≠ none
  | [], _, as, h, a, ha => by
    obtain ⟨_, e⟩ := h
    subst e
    cases ha
  | .v d :: fs, vs, as, h, a, ha => by
    obtain ⟨v, r, e, h1, h2⟩ := h
    exact FdL.some h2 a ha
  | .d t kvs :: fs, vs, as, h, a, ha => by
    obtain ⟨b, r, q, e, e2, h1, h2⟩ := h
    subst e2
    rcases List.mem_cons.mp ha with rfl | ha
    · cases t with
      | true => obtain ⟨kv, k1, _⟩ := h1; rw [k1]; exact fun z => nomatch z
      | false => obtain ⟨kv, k1, _⟩ := h1; rw [k1]; exact fun z => nomatch z
    · exact FdL.some h2 a ha
theorem CRel.some {as : List Addr} {c : C} (h : CRel P K w H as c) : ∀ a ∈ as, H a ≠ none := by
  cases c with
  | lst k xs =>
    obtain ⟨b, vs, e, q, _⟩ := h
    subst e
    intro a ha
    rw [List.mem_singleton.mp ha, q]
    exact fun z => nomatch z
  | dct k t kvs =>
    obtain ⟨b, e, q⟩ := h
    subst e
    intro a ha
    rw [List.mem_singleton.mp ha]
    cases t with
    | true =>
      obtain ⟨kv, k1, _⟩ := q
      rw [k1]; exact fun z => nomatch z
    | false =>
      obtain ⟨kv, k1, _⟩ := q
      cases k with
      | true => obtain ⟨o, k1⟩ := k1; rw [k1]; exact fun z => nomatch z
      | false => rw [show H b = _ from k1]; exact fun z => nomatch z
  | obj c fs =>
    obtain ⟨b, r, dx, vs, e, q, n1, n2, l⟩ := h
    subst e
    intro a ha
    rcases List.mem_cons.mp ha with rfl | ha
    · rw [q]; exact fun z => nomatch z
    · exact l.some a ha
  | scr xs =>
    obtain ⟨b, vs, e, q, _⟩ := h
    subst e
    intro a ha
    rw [List.mem_singleton.mp ha]
    rcases q with q | ⟨o, q⟩
    · rw [q]; exact fun z => nomatch z
    · rw [q]; exact fun z => nomatch z
  | dead =>
    have e : as = [] := h
    subst e
    intro a ha
    cases ha
theorem MRel.own_some (h : MRel P K w H m) : ∀ a ∈ w.ow.flatten, H a ≠ none := fun a ha => by
  obtain ⟨as, h1, h2⟩ := List.mem_flatten.mp ha
  obtain ⟨n, hn, e⟩ := List.mem_iff_getElem.mp h1
  have hn2 : n < m.length := by rw [← h.len]; exact hn
  exact (h.at_ n m[n] as (List.getElem?_eq_getElem hn2) (by rw [List.getElem?_eq_getElem hn, e])).some a h2
theorem MRel.fresh (h : MRel P K w H m) {p : Addr} (hp : H p = none) : ¬ w.fro p ∧ p ∉ w.ow.flatten := ⟨fun f => h.some_ p f hp, fun q => h.own_some p q hp⟩
/-- the heap has grown, and so has what is data; the owned things stand as they stood -/
theorem MRel.grow (h : MRel P K w H m) {fro' : Addr → Prop} (hf : ∀ a, w.fro a → fro' a) (hk : ∀ a, w.fro a → Keep H H' a) (ho : ∀ a ∈ w.ow.flatten, H' a = H a) (hd : ∀ a ∈ w.ow.flatten, ¬ fro' a) (hs : ∀ a, fro' a → H' a ≠ none) (hp : ∀ a, w.hid a ∨ w.prot a → ¬ fro' a ∧ H' a ≠ none) :
    MRel P K { w with fro := fro' } H' m where
  len := h.len
  at_ := fun n c as e1 e2 => (h.at_ n c as e1 e2).mono (w' := { w with fro := fro' }) hf hk fun a ha => ho a (mem_ow e2 a ha)
  nd := h.nd
  dis := hd
  some_ := hs
  hid := fun a q => ⟨(hp a (.inl q)).1, (h.hid a q).2.1, (hp a (.inl q)).2⟩
  pro := fun a q => hp a (.inr q)
  lk := h.lk
  lk2 := h.lk2
  xk := h.xk
theorem MRel.hp_some (h : MRel P K w H m) {a : Addr} (q : w.hid a ∨ w.prot a) : ¬ w.fro a ∧ H a ≠ none := by
  rcases q with q | q
  · exact ⟨(h.hid a q).1, (h.hid a q).2.2⟩
  · exact h.pro a q
theorem MRel.pk_fresh (h : MRel P K w H m) {p : Addr} {o : HO} (hp : H p = none) : ∀ a, w.hid a ∨ w.prot a → upd H p o a = H a := fun a q => upd_ne fun e => (h.hp_some q).2 (by rw [e]; exact hp)
abbrev Wd.add (w : Wd) (p : Addr) : Wd := { w with fro := fun a => w.fro a ∨ a = p }
theorem Ext.add {p : Addr} {o : HO} (h : MRel P K w H m) (hp : H p = none) : Ext w H (w.add p) (upd H p o) :=
  ⟨fun _ f => .inl f, fun a f => .of (upd_ne fun e => h.some_ a f (by rw [e]; exact hp)), fun _ as e => ⟨as, e, fun _ q => q⟩, Eq.refl _, Eq.refl _, Eq.refl _, h.pk_fresh hp⟩
/-- a new thing that is data at once -/
theorem MRel.add {p : Addr} {o : HO} (h : MRel P K w H m) (hp : H p = none) : MRel P K (w.add p) (upd H p o) m := by
  obtain ⟨f1, f2⟩ := h.fresh hp
  refine h.grow (fun _ f => .inl f) (Ext.add h hp).keep (fun a ha => upd_ne fun e => f2 (e ▸ ha)) (fun a ha f => ?_) (fun a f => ?_) fun a q => ?_
  · rcases f with f | f
    · exact h.dis a ha f
    · exact f2 (f ▸ ha)
  · by_cases e : a = p
    · rw [e, upd_same]; exact fun z => nomatch z
    · rw [upd_ne e]
      rcases f with f | f
      · exact h.some_ a f
      · exact absurd f e
  · have z := h.hp_some q
    rw [h.pk_fresh hp a q]
    refine ⟨fun f => ?_, z.2⟩
    rcases f with f | f
    · exact z.1 f
    · exact z.2 (by rw [f]; exact hp)
abbrev Wd.own (w : Wd) (as : List Addr) : Wd := { w with ow := w.ow ++ [as] }
/-- a new thing of the store -/
theorem Ext.cell {p : Addr} {o : HO} {as : List Addr} (h : MRel P K w H m) (hp : H p = none) : Ext w H (w.own as) (upd H p o) :=
  ⟨fun _ f => f, fun a f => .of (upd_ne fun e => h.some_ a f (by rw [e]; exact hp)), fun n as e => ⟨as, by
    have hn : n < w.ow.length := (List.getElem?_eq_some_iff.mp e).1
    show (w.ow ++ _)[n]? = _
    rw [List.getElem?_append_left hn]
    exact e, fun _ q => q⟩, Eq.refl _, Eq.refl _, Eq.refl _, h.pk_fresh hp⟩
theorem MRel.cell {p : Addr} {o : HO} {c : C} (h : MRel P K w H m) (hp : H p = none) (hc : CRel P K w (upd H p o) [p] c) (hlc : c.locked = false) : MRel P K (w.own [p]) (upd H p o) (m ++ [c]) := by
  obtain ⟨f1, f2⟩ := h.fresh hp
  have x : Ext w H w (upd H p o) := ⟨fun _ f => f, fun a f => .of (upd_ne fun e => h.some_ a f (by rw [e]; exact hp)), fun n as e => ⟨as, e, fun _ q => q⟩, rfl, rfl, rfl, h.pk_fresh hp⟩
  refine ⟨by rw [List.length_append, List.length_append, h.len]; rfl, fun n c' as e1 e2 => ?_, ?_, fun a ha => ?_, fun a f => ?_, fun a q => ?_, fun a q => ?_, fun n c' as e1 e2 hl a ha => ?_, fun n c' as e1 e2 hl a ha => ?_, h.xk⟩
  · by_cases hn : n < m.length
    · rw [List.getElem?_append_left hn] at e1
      have e2' : w.ow[n]? = some as := by
        have : (w.ow ++ [[p]])[n]? = some as := e2
        rw [List.getElem?_append_left (by rw [h.len]; exact hn)] at this
        exact this
      exact (h.at_ n c' as e1 e2').mono (w' := w.own [p]) x.fro x.keep fun a ha => upd_ne fun e => f2 (e ▸ mem_ow e2' a ha)
    · have hn2 : n = m.length := by
        have := (List.getElem?_eq_some_iff.mp e1).1
        rw [List.length_append, List.length_singleton] at this
        omega
      subst hn2
      have e1' : c = c' := by simpa using e1
      have e2' : (w.ow ++ [[p]])[m.length]? = some as := e2
      rw [← h.len] at e2'
      have e3 : [p] = as := by simpa using e2'
      subst e1' e3
      exact CRel.mono (w := w) (w' := w.own [p]) (H := upd H p o) (H' := upd H p o) (fun _ f => f) (fun _ _ => .rfl) (fun _ _ => rfl) hc
  · show (w.ow ++ [[p]]).flatten.Nodup
    rw [List.flatten_append]
    simp only [List.flatten_cons, List.flatten_nil, List.append_nil]
    refine List.nodup_append.mpr ⟨h.nd, by simp, fun a ha b hb e => ?_⟩
    rw [List.mem_singleton.mp hb] at e
    exact f2 (e ▸ ha)
  · have : a ∈ (w.ow ++ [[p]]).flatten := ha
    rw [List.flatten_append] at this
    rcases List.mem_append.mp this with q | q
    · exact h.dis a q
    · have e : a = p := by simpa using q
      rw [e]; exact f1
  · by_cases e : a = p
    · rw [e, upd_same]; exact fun z => nomatch z
    · rw [upd_ne e]; exact h.some_ a f
  · obtain ⟨z1, z2, z3⟩ := h.hid a q
    refine ⟨z1, fun z => ?_, by rw [h.pk_fresh hp a (.inl q)]; exact z3⟩
    have z' : a ∈ (w.ow ++ [[p]]).flatten := z
    rw [List.flatten_append] at z'
    rcases List.mem_append.mp z' with q2 | q2
    · exact z2 q2
    · have e : a = p := by simpa using q2
      exact z3 (by rw [e]; exact hp)
  · obtain ⟨z1, z3⟩ := h.pro a q
    exact ⟨z1, by rw [h.pk_fresh hp a (.inr q)]; exact z3⟩
  · by_cases hn : n < m.length
    · rw [List.getElem?_append_left hn] at e1
      have e2' : w.ow[n]? = some as := by
        have : (w.ow ++ [[p]])[n]? = some as := e2
        rw [List.getElem?_append_left (by rw [h.len]; exact hn)] at this
        exact this
      exact h.lk n c' as e1 e2' hl a ha
    · have hn2 : n = m.length := by
        have := (List.getElem?_eq_some_iff.mp e1).1
        rw [List.length_append, List.length_singleton] at this
        omega
      subst hn2
      have e2' : (w.ow ++ [[p]])[m.length]? = some as := e2
      rw [← h.len] at e2'
      have e3 : [p] = as := by simpa using e2'
      subst e3
      intro q
      exact (h.pro a q).2 (by rw [List.mem_singleton.mp ha]; exact hp)
  · by_cases hn : n < m.length
    · rw [List.getElem?_append_left hn] at e1
      have e2' : w.ow[n]? = some as := by
        have : (w.ow ++ [[p]])[n]? = some as := e2
        rw [List.getElem?_append_left (by rw [h.len]; exact hn)] at this
        exact this
      exact h.lk2 n c' as e1 e2' hl a ha
    · have hn2 : n = m.length := by
        have := (List.getElem?_eq_some_iff.mp e1).1
        rw [List.length_append, List.length_singleton] at this
        omega
      subst hn2
      have e1' : c = c' := by simpa using e1
      rw [← e1', hlc] at hl
      cases hl
/-- what stands in the heap, and is nobody's -/
structure Free (w : Wd) (p : Addr) : Prop where
  fro : ¬ w.fro p
  ow : p ∉ w.ow.flatten
  hid : ¬ w.hid p
  prot : ¬ w.prot p
theorem MRel.free (h : MRel P K w H m) {p : Addr} (hp : H p = none) : Free w p := ⟨(h.fresh hp).1, (h.fresh hp).2, fun q => (h.hp_some (.inl q)).2 hp, fun q => (h.hp_some (.inr q)).2 hp⟩
/-- a new thing is laid that is nobody's -/
theorem MRel.lay {p : Addr} {o : HO} (h : MRel P K w H m) (hp : H p = none) : MRel P K w (upd H p o) m := by
  have f := h.free hp
  exact h.grow (fro' := w.fro) (fun _ f => f) (fun a q => .of (upd_ne fun e => f.fro (e ▸ q))) (fun a ha => upd_ne fun e => f.ow (e ▸ ha)) h.dis (fun a q => by rw [show upd H p o a = H a from upd_ne fun e => f.fro (e ▸ q)]; exact h.some_ a q) (fun a q => by rw [h.pk_fresh hp a q]; exact h.hp_some q)
theorem Ext.lay {p : Addr} {o : HO} (h : MRel P K w H m) (hp : H p = none) : Ext w H w (upd H p o) :=
  ⟨fun _ f => f, fun a f => .of (upd_ne fun e => h.some_ a f (by rw [e]; exact hp)), fun _ as e => ⟨as, e, fun _ q => q⟩, Eq.refl _, Eq.refl _, Eq.refl _, h.pk_fresh hp⟩
/-- it becomes data -/
theorem MRel.take_ {p : Addr} (h : MRel P K w H m) (f : Free w p) (hp : H p ≠ none) : Ext w H (w.add p) H ∧ MRel P K (w.add p) H m := by
  refine ⟨⟨fun _ q => .inl q, fun _ _ => .rfl, fun _ as e => ⟨as, e, fun _ q => q⟩, Eq.refl _, Eq.refl _, Eq.refl _, fun _ _ => Eq.refl _⟩, h.grow (fun _ q => .inl q) (fun _ _ => .rfl) (fun _ _ => rfl) (fun a ha q => ?_) (fun a q => ?_) fun a q => ⟨fun z => ?_, (h.hp_some q).2⟩⟩
  · rcases q with q | q
    · exact h.dis a ha q
    · exact f.ow (q ▸ ha)
  · rcases q with q | q
    · exact h.some_ a q
    · rw [q]; exact hp
  · rcases z with z | z
    · exact (h.hp_some q).1 z
    · subst z
      rcases q with q | q
      · exact f.hid q
      · exact f.prot q
/-- it becomes a thing of the store -/
theorem MRel.own_ {p : Addr} {c : C} (h : MRel P K w H m) (f : Free w p) (hc : CRel P K w H [p] c) (hlc : c.locked = false) : Ext w H (w.own [p]) H ∧ MRel P K (w.own [p]) H (m ++ [c]) := by
  have at1 : ∀ (n : Nat) c' as, (m ++ [c])[n]? = some c' → (w.ow ++ [[p]])[n]? = some as → (m[n]? = some c' ∧ w.ow[n]? = some as) ∨ (c' = c ∧ as = [p]) := fun n c' as e1 e2 => by
    by_cases hn : n < m.length
    · rw [List.getElem?_append_left hn] at e1
      rw [List.getElem?_append_left (by rw [h.len]; exact hn)] at e2
      exact .inl ⟨e1, e2⟩
    · have hn2 : n = m.length := by
        have := (List.getElem?_eq_some_iff.mp e1).1
        rw [List.length_append, List.length_singleton] at this
        omega
      subst hn2
      rw [← h.len] at e2
      exact .inr ⟨by simpa using e1.symm, by simpa using e2.symm⟩
  have mo : ∀ {as : List Addr} {c' : C}, CRel P K w H as c' → CRel P K (w.own [p]) H as c' := fun q => CRel.mono (w := w) (w' := w.own [p]) (fun _ f => f) (fun _ _ => .rfl) (fun _ _ => rfl) q
  have memo : ∀ a, a ∈ (w.ow ++ [[p]]).flatten → a ∈ w.ow.flatten ∨ a = p := fun a ha => by
    rw [List.flatten_append] at ha
    rcases List.mem_append.mp ha with q | q
    · exact .inl q
    · exact .inr (by simpa using q)
  refine ⟨⟨fun _ f => f, fun _ _ => .rfl, fun n as e => ⟨as, by
    have hn : n < w.ow.length := (List.getElem?_eq_some_iff.mp e).1
    show (w.ow ++ _)[n]? = _
    rw [List.getElem?_append_left hn]
    exact e, fun _ q => q⟩, Eq.refl _, Eq.refl _, Eq.refl _, fun _ _ => Eq.refl _⟩, ⟨by rw [List.length_append, List.length_append, h.len]; rfl, fun n c' as e1 e2 => ?_, ?_, fun a ha => ?_, h.some_, fun a q => ⟨(h.hid a q).1, fun z => ?_, (h.hid a q).2.2⟩, h.pro, fun n c' as e1 e2 hl a ha => ?_, fun n c' as e1 e2 hl a ha => ?_, h.xk⟩⟩
  · rcases at1 n c' as e1 e2 with ⟨q1, q2⟩ | ⟨rfl, rfl⟩
    · exact mo (h.at_ n c' as q1 q2)
    · exact mo hc
  · show (w.ow ++ [[p]]).flatten.Nodup
    rw [List.flatten_append]
    simp only [List.flatten_cons, List.flatten_nil, List.append_nil]
    refine List.nodup_append.mpr ⟨h.nd, by simp, fun a ha b hb e => ?_⟩
    rw [List.mem_singleton.mp hb] at e
    exact f.ow (e ▸ ha)
  · rcases memo a ha with q | q
    · exact h.dis a q
    · rw [q]; exact f.fro
  · rcases memo a z with y | y
    · exact (h.hid a q).2.1 y
    · exact f.hid (y ▸ q)
  · rcases at1 n c' as e1 e2 with ⟨q1, q2⟩ | ⟨rfl, rfl⟩
    · exact h.lk n c' as q1 q2 hl a ha
    · rw [List.mem_singleton.mp ha]; exact f.prot
  · rcases at1 n c' as e1 e2 with ⟨q1, q2⟩ | ⟨rfl, rfl⟩
    · exact h.lk2 n c' as q1 q2 hl a ha
    · rw [hlc] at hl; cases hl
end
/-! ### what stands behind a slot's value, to be read -/
section
variable (P : Prog) (K : Fg) (w : Wd) (H : Hp)
def Vw : D → V → Prop
  | .lst xs, v => ∃ a vs, v = .ref a ∧ Rd H a (.lst vs) ∧ DatL P K w.fro H xs vs
  | .tup xs, v => ∃ a vs, v = .ref a ∧ SqT K H a vs ∧ DatL P K w.fro H xs vs
  | .dct kvs, v => ∃ a, v = .ref a ∧ ((∃ kv, Rd H a (.dK kv) ∧ DatK P K w.fro H kvs kv) ∨ ∃ kv, H a = some (.dT kv) ∧ DatT P K w.fro H kvs kv)
  | d, v => Dat P K w.fro H d v
end
section
variable {P : Prog} {K : Fg} {w w' : Wd} {H H' : Hp} {m : M}
theorem Dat.vw {d : D} {v : V} (h : Dat P K w.fro H d v) : Vw P K w H d v := by
  cases d with
  | lst xs =>
    unfold Dat at h
    obtain ⟨a, vs, e, _, r, l⟩ := h
    exact ⟨a, vs, e, .inl r, l⟩
  | tup xs =>
    unfold Dat at h
    obtain ⟨a, vs, e, r, l⟩ := h
    refine ⟨a, vs, e, ?_, l⟩
    rcases r with ⟨_, r⟩ | r
    · exact .inl (.inl r)
    · exact .inr r
  | dct kvs =>
    unfold Dat at h
    obtain ⟨a, e, _, r⟩ := h
    exact ⟨a, e, r⟩
  | _ => exact h
theorem vw_rel (h : MRel P K w H m) {a : W} {v : V} {d : D} (r : WRel P K w H a v) (e : vw m a = some d) : Vw P K w H d v := by
  cases a with
  | v x =>
    have e1 : x = d := Option.some.inj e
    subst e1
    exact Dat.vw r
  | c n =>
    obtain ⟨as, h1, h2⟩ := r
    dsimp only [vw] at e
    cases hc : m[n]? with
    | none => rw [hc] at e; cases e
    | some c =>
      rw [hc] at e
      have q := h.at_ n c as hc h1
      cases c with
      | lst k xs =>
        obtain ⟨b, vs, e3, q1, q2⟩ := q
        have e1 : D.lst xs = d := Option.some.inj e
        subst e1 e3
        exact ⟨b, vs, h2 b rfl, .inl q1, q2⟩
      | dct k t kvs =>
        obtain ⟨b, e3, q⟩ := q
        have e1 : D.dct kvs = d := Option.some.inj e
        subst e1 e3
        refine ⟨b, h2 b rfl, ?_⟩
        cases t with
        | true =>
          obtain ⟨kv, k1, k2⟩ := q
          exact .inr ⟨kv, k1, k2⟩
        | false =>
          obtain ⟨kv, k1, k2⟩ := q
          refine .inl ⟨kv, ?_, k2⟩
          cases k with
          | true => exact .inr k1
          | false => exact .inl k1
      | scr xs =>
        obtain ⟨b, vs, e3, q1, q2⟩ := q
        have e1 : D.lst xs = d := Option.some.inj e
        subst e1 e3
        exact ⟨b, vs, h2 b rfl, q1, q2⟩
      | obj c fs => cases e
      | dead => cases e
  | e c fs => cases e
  | u => cases e
end
section
variable (P : Prog) (K : Fg) (w : Wd) (H : Hp)
/-- the same of a thing that is not the script -/
def Vx : D → V → Prop
  | .lst xs, v => ∃ a vs, v = .ref a ∧ H a = some (.lst vs) ∧ DatL P K w.fro H xs vs
  | d, v => Vw P K w H d v
end
section
variable {P : Prog} {K : Fg} {w w' : Wd} {H H' : Hp} {m : M}
theorem vx_rel (h : MRel P K w H m) {a : W} {v : V} {d : D} (r : WRel P K w H a v) (e : vx m a = some d) : Vx P K w H d v := by
  cases a with
  | v x =>
    have e1 : x = d := Option.some.inj e
    subst e1
    cases x with
    | lst xs =>
      have r' : Dat P K w.fro H (.lst xs) v := r
      unfold Dat at r'
      obtain ⟨a, vs, e, _, q, l⟩ := r'
      exact ⟨a, vs, e, q, l⟩
    | _ => exact Dat.vw r
  | c n =>
    obtain ⟨as, h1, h2⟩ := r
    dsimp only [vx] at e
    cases hc : m[n]? with
    | none => rw [hc] at e; cases e
    | some c =>
      rw [hc] at e
      have q := h.at_ n c as hc h1
      cases c with
      | lst k xs =>
        obtain ⟨b, vs, e3, q1, q2⟩ := q
        have e1 : D.lst xs = d := Option.some.inj e
        subst e1 e3
        exact ⟨b, vs, h2 b rfl, q1, q2⟩
      | _ => cases e
  | e c fs => cases e
  | u => cases e
end
end MP
end
section
set_option  maxHeartbeats  4000000
namespace MP
open PySem PySem.Spec PyProof.Rows L2
theorem set_split {α : Type} : ∀ {l : List α} {n : Nat} {y : α} (x : α), l[n]? = some y → l = l.take n ++ y :: l.drop (n + 1) ∧ l.set n x = l.take n ++ x :: l.drop (n + 1)
  | [], n, y, x, h => by simp at h
  | a :: l, 0, y, x, h => by
    have e : a = y := by simpa using h
    subst e
    exact ⟨rfl, rfl⟩
  | a :: l, n + 1, y, x, h => by
    obtain ⟨h1, h2⟩ := set_split (l := l) (n := n) x (by simpa using h)
    refine ⟨?_, ?_⟩
    · show a :: l = a :: (l.take n ++ y :: l.drop (n + 1))
      rw [← h1]
    · show a :: l.set n x = a :: (l.take n ++ x :: l.drop (n + 1))
      rw [h2]
section
variable {P : Prog} {K : Fg} {w w' : Wd} {H H' : Hp} {m : M}
/-- what a thing owns stands with no other one -/
theorem ow_apart {ow : List (List Addr)} {n : Nat} {as bs : List Addr} (nd : ow.flatten.Nodup) (h : ow[n]? = some as) : (∀ x ∈ as, x ∉ (ow.take n ++ ow.drop (n + 1)).flatten) ∧ (ow.take n ++ ow.drop (n + 1)).flatten.Nodup ∧ as.Nodup := by
  obtain ⟨h1, _⟩ := set_split [] h
  rw [h1, List.flatten_append, List.flatten_cons] at nd
  obtain ⟨n1, n2, n3⟩ := List.nodup_append.mp nd
  obtain ⟨n4, n5, n6⟩ := List.nodup_append.mp n2
  refine ⟨fun x hx q => ?_, ?_, n4⟩
  · rw [List.flatten_append] at q
    rcases List.mem_append.mp q with q | q
    · exact n3 x q x (List.mem_append_left _ hx) rfl
    · exact n6 x hx x q rfl
  · rw [List.flatten_append]
    exact List.nodup_append.mpr ⟨n1, n5, fun a ha b hb => n3 a ha b (List.mem_append_right _ hb)⟩
theorem mem_set_flatten {ow : List (List Addr)} {n : Nat} {as bs : List Addr} (h : ow[n]? = some as) {x : Addr} : x ∈ (ow.set n bs).flatten ↔ x ∈ bs ∨ x ∈ (ow.take n ++ ow.drop (n + 1)).flatten := by
  rw [(set_split bs h).2, List.flatten_append, List.flatten_cons, List.flatten_append]
  simp only [List.mem_append]
  constructor
  · rintro (q | q | q)
    · exact .inr (.inl q)
    · exact .inl q
    · exact .inr (.inr q)
  · rintro (q | q | q)
    · exact .inr (.inl q)
    · exact .inl q
    · exact .inr (.inr q)
theorem mem_rest {ow : List (List Addr)} {n : Nat} {as : List Addr} (h : ow[n]? = some as) {x : Addr} (q : x ∈ (ow.take n ++ ow.drop (n + 1)).flatten) : x ∈ ow.flatten := by
  rw [(set_split [] h).1, List.flatten_append, List.flatten_cons]
  rw [List.flatten_append] at q
  rcases List.mem_append.mp q with q | q
  · exact List.mem_append_left _ q
  · exact List.mem_append_right _ (List.mem_append_right _ q)
theorem nodup_set {ow : List (List Addr)} {n : Nat} {as bs : List Addr} (nd : ow.flatten.Nodup) (h : ow[n]? = some as) (hb : bs.Nodup) (hd : ∀ x ∈ bs, x ∉ (ow.take n ++ ow.drop (n + 1)).flatten) : (ow.set n bs).flatten.Nodup := by
  obtain ⟨_, n2, _⟩ := ow_apart (bs := []) nd h
  rw [List.flatten_append] at n2
  obtain ⟨n3, n4, n5⟩ := List.nodup_append.mp n2
  rw [(set_split bs h).2, List.flatten_append, List.flatten_cons]
  refine List.nodup_append.mpr ⟨n3, List.nodup_append.mpr ⟨hb, n4, fun a ha b hb e => hd a ha ?_⟩, fun a ha b hb e => ?_⟩
  · rw [List.flatten_append, e]
    exact List.mem_append_right _ hb
  · rcases List.mem_append.mp hb with q | q
    · refine hd b q ?_
      rw [List.flatten_append, ← e]
      exact List.mem_append_left _ ha
    · exact n5 a ha b q e
abbrev Wd.with (w : Wd) (n : Nat) (as : List Addr) : Wd := { w with ow := w.ow.set n as }
/-- a thing of the store is changed -/
theorem MRel.change (h : MRel P K w H m) {n : Nat} {c c' : C} {as as' : List Addr} (e1 : m[n]? = some c) (e2 : w.ow[n]? = some as) (hs : ∀ x ∈ as, x ∈ as') (hn : ∀ x ∈ as', x ∈ as ∨ H x = none) (nd' : as'.Nodup) (ho : ∀ x, x ∉ as' → H' x = H x)
    (hh : as'.head? = as.head?) (hc : CRel P K w H' as' c') (hlk : c.locked = false) (hlk' : c'.locked = false) : Ext w H (w.with n as') H' ∧ MRel P K (w.with n as') H' (m.set n c') := by
  obtain ⟨a1, a2, a3⟩ := ow_apart (bs := []) h.nd e2
  have hlt : n < w.ow.length := (List.getElem?_eq_some_iff.mp e2).1
  have hltm : n < m.length := (List.getElem?_eq_some_iff.mp e1).1
  have apart : ∀ x ∈ as', x ∉ (w.ow.take n ++ w.ow.drop (n + 1)).flatten := fun x hx q => by
    rcases hn x hx with z | z
    · exact a1 x z q
    · exact h.own_some x (mem_rest e2 q) z
  have nfro : ∀ x, w.fro x → x ∉ as' := fun x f q => by
    rcases hn x q with z | z
    · exact h.dis x (mem_ow e2 x z) f
    · exact h.some_ x f z
  have kp : ∀ x, w.fro x → Keep H H' x := fun x f => .of (ho x (nfro x f))
  have npr : ∀ x, w.hid x ∨ w.prot x → x ∉ as' := fun x q z => by
    rcases hn x z with y | y
    · rcases q with q | q
      · exact (h.hid x q).2.1 (mem_ow e2 x y)
      · exact h.lk n c as e1 e2 hlk x y q
    · exact (h.hp_some q).2 y
  refine ⟨⟨fun _ f => f, kp, fun k bs q => ?_, Eq.refl _, Eq.refl _, Eq.refl _, fun a q => ho a (npr a q)⟩, ⟨by rw [List.length_set, List.length_set, h.len], fun k c2 bs q1 q2 => ?_, nodup_set h.nd e2 nd' apart, fun x hx => ?_, fun x f => ?_, fun a q => ?_, fun a q => ?_, fun k c2 bs q1 q2 hl a ha => ?_, fun k c2 bs q1 q2 hl a ha => ?_, h.xk⟩⟩
  · by_cases hk : k = n
    · subst hk
      rw [e2] at q
      cases q
      refine ⟨as', ?_, fun a z => by rw [← hh]; exact z⟩
      show (w.ow.set k as')[k]? = _
      rw [List.getElem?_set_self hlt]
    · refine ⟨bs, ?_, fun a z => z⟩
      show (w.ow.set n as')[k]? = _
      rw [List.getElem?_set_ne (Ne.symm hk)]
      exact q
  · have q2' : (w.ow.set n as')[k]? = some bs := q2
    by_cases hk : k = n
    · subst hk
      rw [List.getElem?_set_self hltm] at q1
      rw [List.getElem?_set_self hlt] at q2'
      cases q1
      cases q2'
      exact CRel.mono (w := w) (w' := w.with k as') (H := H') (H' := H') (fun _ f => f) (fun _ _ => .rfl) (fun _ _ => rfl) hc
    · rw [List.getElem?_set_ne (Ne.symm hk)] at q1 q2'
      refine CRel.mono (w := w) (w' := w.with n as') (fun _ f => f) kp (fun x hx => ho x fun z => apart x z ?_) (h.at_ k c2 bs q1 q2')
      rw [List.flatten_append]
      have hkl : k < w.ow.length := (List.getElem?_eq_some_iff.mp q2').1
      by_cases hlt2 : k < n
      · exact List.mem_append_left _ (List.mem_flatten.mpr ⟨bs, List.mem_of_getElem? (i := k) (by rw [List.getElem?_take_of_lt hlt2]; exact q2'), hx⟩)
      · refine List.mem_append_right _ (List.mem_flatten.mpr ⟨bs, List.mem_of_getElem? (i := k - (n + 1)) ?_, hx⟩)
        rw [List.getElem?_drop, show n + 1 + (k - (n + 1)) = k by omega]
        exact q2'
  · have hx' : x ∈ (w.ow.set n as').flatten := hx
    rcases (mem_set_flatten e2).mp hx' with q | q
    · exact fun f => nfro x f q
    · exact h.dis x (mem_rest e2 q)
  · have f' : w.fro x := f
    rw [ho x (nfro x f')]
    exact h.some_ x f'
  · obtain ⟨z1, z2, z3⟩ := h.hid a q
    refine ⟨z1, fun z => ?_, by rw [ho a (npr a (.inl q))]; exact z3⟩
    have z' : a ∈ (w.ow.set n as').flatten := z
    rcases (mem_set_flatten e2).mp z' with y | y
    · exact npr a (.inl q) y
    · exact z2 (mem_rest e2 y)
  · obtain ⟨z1, z3⟩ := h.pro a q
    exact ⟨z1, by rw [ho a (npr a (.inr q))]; exact z3⟩
  · have q2' : (w.ow.set n as')[k]? = some bs := q2
    by_cases hk : k = n
    · subst hk
      rw [List.getElem?_set_self hlt] at q2'
      cases q2'
      exact fun q => npr a (.inr q) ha
    · rw [List.getElem?_set_ne (Ne.symm hk)] at q1 q2'
      exact h.lk k c2 bs q1 q2' hl a ha
  · have q2' : (w.ow.set n as')[k]? = some bs := q2
    by_cases hk : k = n
    · subst hk
      rw [List.getElem?_set_self hltm] at q1
      cases q1
      rw [hlk'] at hl
      cases hl
    · rw [List.getElem?_set_ne (Ne.symm hk)] at q1 q2'
      exact h.lk2 k c2 bs q1 q2' hl a ha
abbrev Wd.kill (w : Wd) (n : Nat) (as : List Addr) : Wd := { w with fro := fun x => w.fro x ∨ x ∈ as, ow := w.ow.set n [] }
/-- a thing of the store is data from now on -/
theorem MRel.kill (h : MRel P K w H m) {n : Nat} {c : C} {as : List Addr} (e1 : m[n]? = some c) (e2 : w.ow[n]? = some as) (hlk : c.locked = false) : Ext w H (w.kill n as) H ∧ MRel P K (w.kill n as) H (m.set n .dead) := by
  obtain ⟨a1, a2, a3⟩ := ow_apart (bs := []) h.nd e2
  have hlt : n < w.ow.length := (List.getElem?_eq_some_iff.mp e2).1
  have hltm : n < m.length := (List.getElem?_eq_some_iff.mp e1).1
  refine ⟨⟨fun _ f => .inl f, fun _ _ => .rfl, fun k bs q => ?_, Eq.refl _, Eq.refl _, Eq.refl _, fun _ _ => Eq.refl _⟩, ⟨by rw [List.length_set, List.length_set, h.len], fun k c2 bs q1 q2 => ?_, nodup_set h.nd e2 List.nodup_nil (fun x hx => nomatch hx), fun x hx => ?_, fun x f => ?_, fun a q => ?_, fun a q => ?_, fun k c2 bs q1 q2 hl a ha => ?_, fun k c2 bs q1 q2 hl a ha => ?_, h.xk⟩⟩
  · by_cases hk : k = n
    · subst hk
      refine ⟨[], ?_, fun a z => nomatch z⟩
      show (w.ow.set k [])[k]? = _
      rw [List.getElem?_set_self hlt]
    · refine ⟨bs, ?_, fun a z => z⟩
      show (w.ow.set n [])[k]? = _
      rw [List.getElem?_set_ne (Ne.symm hk)]
      exact q
  · have q2' : (w.ow.set n [])[k]? = some bs := q2
    by_cases hk : k = n
    · subst hk
      rw [List.getElem?_set_self hltm] at q1
      rw [List.getElem?_set_self hlt] at q2'
      cases q1
      cases q2'
      exact Eq.refl _
    · rw [List.getElem?_set_ne (Ne.symm hk)] at q1 q2'
      exact CRel.mono (w := w) (w' := w.kill n as) (fun _ f => .inl f) (fun _ _ => .rfl) (fun _ _ => rfl) (h.at_ k c2 bs q1 q2')
  · have hx' : x ∈ (w.ow.set n []).flatten := hx
    rcases (mem_set_flatten e2).mp hx' with q | q
    · cases q
    · intro f
      rcases f with f | f
      · exact h.dis x (mem_rest e2 q) f
      · exact a1 x f q
  · rcases f with f | f
    · exact h.some_ x f
    · exact h.own_some x (mem_ow e2 x f)
  · obtain ⟨z1, z2, z3⟩ := h.hid a q
    refine ⟨fun f => ?_, fun z => ?_, z3⟩
    · rcases f with f | f
      · exact z1 f
      · exact z2 (mem_ow e2 a f)
    · have z' : a ∈ (w.ow.set n []).flatten := z
      rcases (mem_set_flatten e2).mp z' with y | y
      · cases y
      · exact z2 (mem_rest e2 y)
  · obtain ⟨z1, z3⟩ := h.pro a q
    refine ⟨fun f => ?_, z3⟩
    rcases f with f | f
    · exact z1 f
    · exact h.lk n c as e1 e2 hlk a f q
  · have q2' : (w.ow.set n [])[k]? = some bs := q2
    by_cases hk : k = n
    · subst hk
      rw [List.getElem?_set_self hlt] at q2'
      cases q2'
      cases ha
    · rw [List.getElem?_set_ne (Ne.symm hk)] at q1 q2'
      exact h.lk k c2 bs q1 q2' hl a ha
  · have q2' : (w.ow.set n [])[k]? = some bs := q2
    by_cases hk : k = n
    · subst hk
      rw [List.getElem?_set_self hlt] at q2'
      cases q2'
      cases ha
    · rw [List.getElem?_set_ne (Ne.symm hk)] at q1 q2'
      exact h.lk2 k c2 bs q1 q2' hl a ha
theorem FdL.fz {as : List Addr} (hf : ∀ a, w.fro a → w'.fro a) (hs : ∀ a ∈ as, w'.fro a) : ∀ {fs : List Fd} {vs : List V} {bs : List Addr}, (∀ a ∈ bs, a ∈ as) → FdL P K w H fs vs bs → DatL P K w'.fro H (fs.map Fd.fz) vs
  | [], vs, bs, _, h => by
    obtain ⟨e, _⟩ := h
    subst e
    exact DatL.nil
  | .v d :: fs, vs, bs, hb, h => by
    obtain ⟨v, r, e, h1, h2⟩ := h
    subst e
    exact DatL.cons (Dat.mono hf (fun _ _ => .rfl) h1) (FdL.fz hf hs hb h2)
  | .d t kvs :: fs, vs, bs, hb, h => by
    obtain ⟨a, r, q, e, e2, h1, h2⟩ := h
    subst e e2
    refine DatL.cons ?_ (FdL.fz hf hs (fun b z => hb b (List.mem_cons_of_mem _ z)) h2)
    show Dat P K w'.fro H (.dct kvs) (.ref a)
    unfold Dat
    refine ⟨a, rfl, hs a (hb a List.mem_cons_self), ?_⟩
    cases t with
    | true =>
      obtain ⟨kv, k1, k2⟩ := h1
      exact .inr ⟨kv, k1, DatT.mono hf (fun _ _ => .rfl) k2⟩
    | false =>
      obtain ⟨kv, k1, k2⟩ := h1
      exact .inl ⟨kv, .inl k1, DatK.mono hf (fun _ _ => .rfl) k2⟩
theorem fnm_len (c : Nat) : P.nf c = (fnm P c).length := by
  unfold Prog.nf fnm
  cases P.cls[c]? <;> rfl
theorem fz_rel (h : MRel P K w H m) {a : W} {v : V} {d : D} {m' : M} (r : WRel P K w H a v) (e : fz P m a = some (d, m')) : ∃ w', Ext w H w' H ∧ MRel P K w' H m' ∧ Dat P K w'.fro H d v := by
  cases a with
  | v x =>
    have e1 : (x, m) = (d, m') := Option.some.inj e
    cases e1
    exact ⟨w, .rfl, h, r⟩
  | c n =>
    obtain ⟨as, h1, h2⟩ := r
    dsimp only [fz] at e
    cases hc : m[n]? with
    | none => rw [hc] at e; cases e
    | some c =>
      rw [hc] at e
      have q := h.at_ n c as hc h1
      cases c with
      | lst k xs =>
        cases k with
        | true => cases e
        | false =>
          obtain ⟨x, M1⟩ := h.kill hc h1 rfl
          obtain ⟨b, vs, e3, q1, q2⟩ := q
          have e1 : (D.lst xs, m.set n .dead) = (d, m') := Option.some.inj e
          cases e1
          subst e3
          refine ⟨_, x, M1, ?_⟩
          unfold Dat
          exact ⟨b, vs, h2 b rfl, .inr List.mem_cons_self, q1, DatL.mono x.fro x.keep q2⟩
      | dct k t kvs =>
        cases k with
        | true => cases e
        | false =>
          obtain ⟨x, M1⟩ := h.kill hc h1 rfl
          obtain ⟨b, e3, q⟩ := q
          have e1 : (D.dct kvs, m.set n .dead) = (d, m') := Option.some.inj e
          cases e1
          subst e3
          refine ⟨_, x, M1, ?_⟩
          unfold Dat
          refine ⟨b, h2 b rfl, .inr List.mem_cons_self, ?_⟩
          cases t with
          | true =>
            obtain ⟨kv, k1, k2⟩ := q
            exact .inr ⟨kv, k1, DatT.mono x.fro x.keep k2⟩
          | false =>
            obtain ⟨kv, k1, k2⟩ := q
            exact .inl ⟨kv, .inl k1, DatK.mono x.fro x.keep k2⟩
      | obj c fs =>
        obtain ⟨x, M1⟩ := h.kill hc h1 rfl
        obtain ⟨b, r, dx, vs, e3, q1, n1, n2, l⟩ := q
        dsimp only at e
        by_cases hl : fs.length = P.nf c
        · rw [if_pos hl] at e
          have e1 : (D.obj c (fs.map Fd.fz), m.set n .dead) = (d, m') := Option.some.inj e
          cases e1
          subst e3
          refine ⟨_, x, M1, ?_⟩
          unfold Dat
          refine ⟨b, dx, vs, h2 b rfl, .inr List.mem_cons_self, q1, ?_, FdL.fz (w' := w.kill n (b :: r)) (as := b :: r) x.fro (fun a ha => .inr ha) (fun a ha => List.mem_cons_of_mem _ ha) l⟩
          rw [n2, hl, fnm_len, List.take_length]
        · rw [if_neg hl] at e
          cases e
      | scr xs => cases e
      | dead => cases e
  | e c fs => cases e
  | u => cases e
theorem fzs_rel : ∀ {as : List W} {vs : List V} {ds : List D} {m m' : M} {w : Wd}, MRel P K w H m → WsRel P K w H as vs → fzs P m as = some (ds, m') → ∃ w', Ext w H w' H ∧ MRel P K w' H m' ∧ DatL P K w'.fro H ds vs
  | [], vs, ds, m, m', w, h, r, e => by
    have e1 : ([], m) = (ds, m') := Option.some.inj e
    cases e1
    have e2 : vs = [] := r
    subst e2
    exact ⟨w, .rfl, h, DatL.nil⟩
  | a :: as, vs, ds, m, m', w, h, r, e => by
    obtain ⟨v, q, ev, r1, r2⟩ := r
    subst ev
    dsimp only [fzs] at e
    cases h1 : fz P m a with
    | none => rw [h1] at e; cases e
    | some p =>
      obtain ⟨d, m1⟩ := p
      rw [h1] at e
      dsimp only at e
      cases h2 : fzs P m1 as with
      | none => rw [h2] at e; cases e
      | some p2 =>
        obtain ⟨ds2, m2⟩ := p2
        rw [h2] at e
        have e1 : (d :: ds2, m2) = (ds, m') := Option.some.inj e
        cases e1
        obtain ⟨w1, x1, M1, D1⟩ := fz_rel h r1 h1
        obtain ⟨w2, x2, M2, D2⟩ := fzs_rel M1 (r2.mono x1) h2
        exact ⟨w2, x1.trans x2, M2, DatL.cons (Dat.mono x2.fro x2.keep D1) D2⟩
end
end MP
end
section
set_option  maxHeartbeats  4000000
/-! Readings by the evaluator; operators. -/
namespace MP
open PySem PySem.Spec PyProof.Rows L2
section
variable (P : Prog) (K : Fg)
def rE (f : List W → M → R W) (Wx : WX) : TE := fun σ H Q => ∃ w ρ m, MRel P K w H m ∧ SRel P K w H ρ σ ∧ Post P K (WRel P K) w H (f ρ m) Q (fun cls d H' => Wx cls d σ H')
def rB (f : List W → M → R Bool) (Wx : WX) : TT := fun σ H Q => ∃ w ρ m, MRel P K w H m ∧ SRel P K w H ρ σ ∧ Post P K (fun _ _ a b => a = b) w H (f ρ m) Q (fun cls d H' => Wx cls d σ H')
def rA (f : List W → M → R (List W)) (Wx : WX) : TA := fun σ H Q => ∃ w ρ m, MRel P K w H m ∧ SRel P K w H ρ σ ∧ Post P K (WsRel P K) w H (f ρ m) Q (fun cls d H' => Wx cls d σ H')
end
section
variable {X : Cx}
theorem PE.imp {e : Expr} {t t' : TE} (h : PE X e t) (hi : ∀ σ H Q, t' σ H Q → t σ H Q) : PE X e t' := ⟨fun pins s σ H Q I q => h.run pins s σ H Q I (hi σ H Q q)⟩
theorem PT.imp {e : Expr} {t t' : TT} (h : PT X e t) (hi : ∀ σ H Q, t' σ H Q → t σ H Q) : PT X e t' := ⟨fun pins s σ H Q I q => h.run pins s σ H Q I (hi σ H Q q)⟩
theorem PA.imp {e : List Expr} {t t' : TA} (h : PA X e t) (hi : ∀ σ H Q, t' σ H Q → t σ H Q) : PA X e t' := ⟨fun pos pins s σ H Q I q => h.run pos pins s σ H Q I (hi σ H Q q)⟩
theorem PS.imp {e : Stmt} {t t' : TS} (h : PS X e t) (hi : ∀ D σ H, t' D σ H → t D σ H) : PS X e t' := ⟨fun pins s σ H D I q => h.run pins s σ H D I (hi D σ H q)⟩
theorem PSs.imp {e : List Stmt} {t t' : TS} (h : PSs X e t) (hi : ∀ D σ H, t' D σ H → t D σ H) : PSs X e t' := ⟨fun pins s σ H D I q => h.run pins s σ H D I (hi D σ H q)⟩
end
section
variable {P : Prog} {K : Fg} {Wx : WX} {w : Wd} {H : Hp} {ρ : List W} {σ : L2.St} {m : M} {γ δ : Type} {rel' : Wd → Hp → γ → δ → Prop} {Q : δ → Hp → Prop} {Wy : Value → Option Addr → Hp → Prop}
theorem rE_step {f : List W → M → R W} {g : W → M → R γ} (h : Post P K rel' w H ((f ρ m).bnd g) Q (fun cls d H' => Wx cls d σ H')) (hm : MRel P K w H m) (hs : SRel P K w H ρ σ) :
    rE P K f Wx σ H (fun x H1 => ∃ a w1 m1, MRel P K w1 H1 m1 ∧ SRel P K w1 H1 ρ σ ∧ WRel P K w1 H1 a x ∧ Ext w H w1 H1 ∧ Post P K rel' w1 H1 (g a m1) Q (fun cls d H' => Wx cls d σ H')) :=
  ⟨w, ρ, m, hm, hs, (h.bnd (WRel P K)).mono fun b H1 ⟨a, w1, m1, x, M1, r1, p⟩ => ⟨a, w1, m1, M1, hs.mono x, r1, x, p⟩⟩
theorem rB_step {f : List W → M → R Bool} {g : Bool → M → R γ} (h : Post P K rel' w H ((f ρ m).bnd g) Q (fun cls d H' => Wx cls d σ H')) (hm : MRel P K w H m) (hs : SRel P K w H ρ σ) :
    rB P K f Wx σ H (fun x H1 => ∃ w1 m1, MRel P K w1 H1 m1 ∧ SRel P K w1 H1 ρ σ ∧ Ext w H w1 H1 ∧ Post P K rel' w1 H1 (g x m1) Q (fun cls d H' => Wx cls d σ H')) :=
  ⟨w, ρ, m, hm, hs, (h.bnd (fun _ _ a b => a = b)).mono fun b H1 ⟨a, w1, m1, x, M1, r1, p⟩ => by subst r1; exact ⟨w1, m1, M1, hs.mono x, x, p⟩⟩
theorem rA_step {f : List W → M → R (List W)} {g : List W → M → R γ} (h : Post P K rel' w H ((f ρ m).bnd g) Q (fun cls d H' => Wx cls d σ H')) (hm : MRel P K w H m) (hs : SRel P K w H ρ σ) :
    rA P K f Wx σ H (fun x H1 => ∃ a w1 m1, MRel P K w1 H1 m1 ∧ SRel P K w1 H1 ρ σ ∧ WsRel P K w1 H1 a x ∧ Ext w H w1 H1 ∧ Post P K rel' w1 H1 (g a m1) Q (fun cls d H' => Wx cls d σ H')) :=
  ⟨w, ρ, m, hm, hs, (h.bnd (WsRel P K)).mono fun b H1 ⟨a, w1, m1, x, M1, r1, p⟩ => ⟨a, w1, m1, M1, hs.mono x, r1, x, p⟩⟩
end
/-! ### operations by values -/
def OpW (P : Prog) (X : Cx) (f : Value → Value → Sem Value) (g : W → W → M → R W) (Wx : WX) : Prop :=
  ∀ (pins : List (Addr × Obj)) (s : Shared) (σ : L2.St) (H : Hp) (x y : V) (v u : Value) (Q : VK) (w : Wd) (m : M) (a b : W), Inv X pins σ H s → RelV x v → RelV y u → MRel P X.K w H m → WRel P X.K w H a x → WRel P X.K w H b y →
    Post P X.K (WRel P X.K) w H (g a b m) Q (fun cls d H' => Wx cls d σ H') → wpAny (model X.prog X.w) X.A (f v u) (EP X pins σ Q) X.xe s
def UnW (P : Prog) (X : Cx) (f : Value → Sem Value) (g : W → M → R W) (Wx : WX) : Prop :=
  ∀ (pins : List (Addr × Obj)) (s : Shared) (σ : L2.St) (H : Hp) (x : V) (v : Value) (Q : VK) (w : Wd) (m : M) (a : W), Inv X pins σ H s → RelV x v → MRel P X.K w H m → WRel P X.K w H a x →
    Post P X.K (WRel P X.K) w H (g a m) Q (fun cls d H' => Wx cls d σ H') → wpAny (model X.prog X.w) X.A (f v) (EP X pins σ Q) X.xe s
section
variable {P : Prog} {K : Fg} {w : Wd} {H : Hp} {m : M} {v : V}
theorem Dat.int_iff {i : Int} : Dat P K w.fro H (.int i) v ↔ v = .int i := by unfold Dat; exact Iff.rfl
theorem Dat.str_iff {x : Sg} : Dat P K w.fro H (.str x) v ↔ v = .str (ts x) := by unfold Dat; exact Iff.rfl
theorem Dat.bl_iff {x : Bool} : Dat P K w.fro H (.bl x) v ↔ v = .bl x := by unfold Dat; exact Iff.rfl
theorem Dat.non_iff : Dat P K w.fro H .non v ↔ v = .non := by unfold Dat; exact Iff.rfl
theorem Dat.lst_iff {xs : List D} : Dat P K w.fro H (.lst xs) v ↔ ∃ a vs, v = .ref a ∧ w.fro a ∧ H a = some (.lst vs) ∧ DatL P K w.fro H xs vs := by unfold Dat; exact Iff.rfl
theorem Dat.tup_iff {xs : List D} : Dat P K w.fro H (.tup xs) v ↔ ∃ a vs, v = .ref a ∧ ((w.fro a ∧ H a = some (.tup vs)) ∨ KTup K a vs) ∧ DatL P K w.fro H xs vs := by unfold Dat; exact Iff.rfl
theorem Dat.dct_iff {xs : List (DKey × D)} : Dat P K w.fro H (.dct xs) v ↔ ∃ a, v = .ref a ∧ w.fro a ∧ ((∃ kv, Rd H a (.dK kv) ∧ DatK P K w.fro H xs kv) ∨ ∃ kv, H a = some (.dT kv) ∧ DatT P K w.fro H xs kv) := by unfold Dat; exact Iff.rfl
theorem Dat.obj_iff {c : Nat} {fs : List D} : Dat P K w.fro H (.obj c fs) v ↔ ∃ a dx vs, v = .ref a ∧ w.fro a ∧ H a = some (.ins (ca P K c) dx vs) ∧ vs.map (·.1) = fnm P c ∧ DatL P K w.fro H fs (vs.map (·.2)) := by unfold Dat; exact Iff.rfl
theorem Dat.cls_iff {c : Nat} : Dat P K w.fro H (.cls c) v ↔ v = .ref (ca P K c) := by unfold Dat; exact Iff.rfl
theorem Vw.int {i : Int} (h : Vw P K w H (.int i) v) : v = .int i := (Dat.int_iff (P := P) (K := K) (w := w) (H := H)).mp h
theorem Vw.str {x : Sg} (h : Vw P K w H (.str x) v) : v = .str (ts x) := (Dat.str_iff (P := P) (K := K) (w := w) (H := H)).mp h
theorem Vw.bl {x : Bool} (h : Vw P K w H (.bl x) v) : v = .bl x := (Dat.bl_iff (P := P) (K := K) (w := w) (H := H)).mp h
theorem Vw.non (h : Vw P K w H .non v) : v = .non := (Dat.non_iff (P := P) (K := K) (w := w) (H := H)).mp h
theorem Vx.int {i : Int} (h : Vx P K w H (.int i) v) : v = .int i := (Dat.int_iff (P := P) (K := K) (w := w) (H := H)).mp h
theorem Vx.str {x : Sg} (h : Vx P K w H (.str x) v) : v = .str (ts x) := (Dat.str_iff (P := P) (K := K) (w := w) (H := H)).mp h
theorem WRel.int {i : Int} (h : WRel P K w H (.v (.int i)) v) : v = .int i := (Dat.int_iff (P := P) (K := K) (w := w) (H := H)).mp h
theorem WRel.str {x : Sg} (h : WRel P K w H (.v (.str x)) v) : v = .str (ts x) := (Dat.str_iff (P := P) (K := K) (w := w) (H := H)).mp h
theorem WRel.bl {x : Bool} (h : WRel P K w H (.v (.bl x)) v) : v = .bl x := (Dat.bl_iff (P := P) (K := K) (w := w) (H := H)).mp h
theorem WRel.non (h : WRel P K w H (.v .non) v) : v = .non := (Dat.non_iff (P := P) (K := K) (w := w) (H := H)).mp h
theorem SqL.rd {a : Addr} {vs : List V} (h : Rd H a (.lst vs)) : SqL K H a vs := .inl h
/-- the end of a piece whose value is flat -/
theorem Post.flat {d : D} {u : V} {Q : VK} {Wy : Value → Option Addr → Hp → Prop} (h : Post P K (WRel P K) w H (.ok (.v d) m) Q Wy) (hm : MRel P K w H m) (hd : Dat P K w.fro H d u) : Q u H := h u w H .rfl hm hd
/-- .. whose value is a new thing -/
theorem Post.new {d : D} {p : Addr} {o : HO} {Q : VK} {Wy : Value → Option Addr → Hp → Prop} (h : Post P K (WRel P K) w H (.ok (.v d) m) Q Wy) (hm : MRel P K w H m) (hp : H p = none) (hd : Dat P K (w.add p).fro (upd H p o) d (.ref p)) : Q (.ref p) (upd H p o) :=
  h _ (w.add p) _ (Ext.add hm hp) (hm.add hp) hd
theorem DatL.add {p : Addr} {o : HO} {ds : List D} {vs : List V} (h : MRel P K w H m) (hp : H p = none) (hd : DatL P K w.fro H ds vs) : DatL P K (w.add p).fro (upd H p o) ds vs := DatL.mono (Ext.add (o := o) h hp).fro (Ext.add h hp).keep hd
theorem new_lst {p : Addr} {ds : List D} {vs : List V} (h : MRel P K w H m) (hp : H p = none) (hd : DatL P K w.fro H ds vs) : Dat P K (w.add p).fro (upd H p (.lst vs)) (.lst ds) (.ref p) :=
  Dat.lst_iff.mpr ⟨p, vs, rfl, .inr rfl, upd_same, hd.add h hp⟩
theorem new_tup {p : Addr} {ds : List D} {vs : List V} (h : MRel P K w H m) (hp : H p = none) (hd : DatL P K w.fro H ds vs) : Dat P K (w.add p).fro (upd H p (.tup vs)) (.tup ds) (.ref p) :=
  Dat.tup_iff.mpr ⟨p, vs, rfl, .inl ⟨.inr rfl, upd_same⟩, hd.add h hp⟩
theorem sizeOk_line {n : Nat} (h : sizeOk n = true) : n ≤ sizeLine := by
  have h1 : n ≤ 16000000 := of_decide_eq_true h
  rw [sizeLine_eq]
  omega
theorem ts_len (x : Sg) : (ts x).length = x.length := by simp [ts, Str.length]
theorem ts_app (x y : Sg) : ts x ++ ts y = ts (x ++ y) := by
  refine TL.ext_tl ?_
  rw [TL.tl_append]
  simp [TL.tl, ts]
theorem DatL.replicate {ds : List D} {vs : List V} (h : DatL P K w.fro H ds vs) : ∀ k : Nat, DatL P K w.fro H (List.replicate k ds).flatten (List.replicate k vs).flatten
  | 0 => DatL.nil
  | k + 1 => by
    rw [List.replicate_succ, List.replicate_succ, List.flatten_cons, List.flatten_cons]
    exact h.append (DatL.replicate h k)
end

section
variable {X : Cx} {P : Prog} {Wx : WX}
theorem op_fdivZ : OpR X (binaryOp .FloorDiv) (rI (fun _ j => j ≠ 0 ∧ j.natAbs.log2 < 9000) fun i j => .int (i.fdiv j)) := opI fun i j _ _ _ _ _ hc q => floordiv_int hc.1 q (.inl (PyProof.noPylong_of_log2 hc.2))
theorem op_powZ : OpR X (binaryOp .Pow) (rI (fun i j => 0 ≤ j ∧ (Builtin.Int.intBits i : Int) * j ≤ 2 ^ 27) fun i j => .int (i ^ j.toNat)) := opI fun i j _ _ _ _ _ hc q => pow_int hc.1 hc.2 q
theorem bits_le {i j : Int} (h1 : 0 ≤ j) (h2 : j ≤ 1000) (h3 : i.natAbs.log2 ≤ 10000) : (Builtin.Int.intBits i : Int) * j ≤ 2 ^ 27 := by
  have b : (Builtin.Int.intBits i : Int) ≤ 10001 := by
    unfold Builtin.Int.intBits
    split <;> omega
  have z : (Builtin.Int.intBits i : Int) * j ≤ 10001 * 1000 := Int.mul_le_mul b h2 h1 (by decide)
  omega
/-- the built-in operators -/
theorem binD_op {op : BOp} {o : Operator} (ho : o = (match op with | .add => .Add | .sub => .Sub | .mul => .Mult | .fdiv => .FloorDiv | .mod => .Mod | .pow => .Pow)) {pins : List (Addr × Obj)} {s : Shared} {σ : L2.St} {H : Hp} {x y : V} {v u : Value} {Q : VK} {w : Wd} {m : M} {d1 d2 d : D} {Wy : Value → Option Addr → Hp → Prop}
    (I : Inv X pins σ H s) (rx : RelV x v) (ry : RelV y u) (hm : MRel P X.K w H m) (h1 : Vx P X.K w H d1 x) (h2 : Vx P X.K w H d2 y) (e : binD op d1 d2 = some d) (h : Post P X.K (WRel P X.K) w H (.ok (.v d) m) Q Wy) :
    wpAny (model X.prog X.w) X.A (binaryOp o v u) (EP X pins σ Q) X.xe s := by
  subst ho
  cases op with
  | add =>
    cases d1 with
    | int i =>
      cases d2 with
      | int j =>
        cases e
        cases Vx.int h1
        cases Vx.int h2
        exact op_add pins s σ H _ _ v u Q I rx ry ⟨i, j, rfl, rfl, h.flat hm (Dat.int_iff.mpr rfl)⟩
      | _ => cases e
    | str i =>
      cases d2 with
      | str j =>
        dsimp only [binD] at e
        by_cases hz : sizeOk (i.length + j.length) = true
        · rw [if_pos hz] at e
          cases e
          cases Vx.str h1
          cases Vx.str h2
          refine op_add_str pins s σ H _ _ v u Q I rx ry ⟨ts i, ts j, rfl, rfl, by rw [ts_len, ts_len]; exact sizeOk_line hz, ?_⟩
          rw [ts_app]
          exact h.flat hm (Dat.str_iff.mpr rfl)
        · rw [if_neg hz] at e; cases e
      | _ => cases e
    | lst xs =>
      cases d2 with
      | lst ys =>
        dsimp only [binD] at e
        by_cases hz : sizeOk (xs.length + ys.length) = true
        · rw [if_pos hz] at e
          cases e
          obtain ⟨a, vs, rfl, ra, la⟩ := h1
          obtain ⟨b, us, rfl, rb, lb⟩ := h2
          refine op_cat pins s σ H _ _ v u Q I rx ry ⟨a, b, vs, us, rfl, rfl, ra, rb, by rw [la.length, lb.length]; exact sizeOk_line hz, fun p hp => ?_⟩
          exact h.new hm hp (new_lst hm hp (la.append lb))
        · rw [if_neg hz] at e; cases e
      | _ => cases e
    | _ => cases d2 <;> cases e
  | sub =>
    cases d1 with
    | int i =>
      cases d2 with
      | int j =>
        cases e
        cases Vx.int h1
        cases Vx.int h2
        exact op_sub pins s σ H _ _ v u Q I rx ry ⟨i, j, rfl, rfl, h.flat hm (Dat.int_iff.mpr rfl)⟩
      | _ => cases e
    | _ => cases d2 <;> cases e
  | mul =>
    cases d1 with
    | int i =>
      cases d2 with
      | int j =>
        dsimp only [binD] at e
        by_cases hz : mulOk i j = true
        · rw [if_pos hz] at e
          cases e
          cases Vx.int h1
          cases Vx.int h2
          have hz2 : i.natAbs.log2 + j.natAbs.log2 ≤ 900000 := of_decide_eq_true hz
          refine op_mulW pins s σ H _ _ v u Q I rx ry ⟨i, j, rfl, rfl, ?_, h.flat hm (Dat.int_iff.mpr rfl)⟩
          unfold CMulW
          omega
        · rw [if_neg hz] at e; cases e
      | _ => cases e
    | lst xs =>
      cases d2 with
      | int j =>
        dsimp only [binD] at e
        by_cases hz : (sizeOk (xs.length * j.toNat) && sizeOk j.natAbs) = true
        · rw [if_pos hz] at e
          cases e
          obtain ⟨hz1, hz2⟩ := Bool.and_eq_true_iff.mp hz
          obtain ⟨a, vs, rfl, ra, la⟩ := h1
          cases Vx.int h2
          have hz3 : j.natAbs ≤ 16000000 := of_decide_eq_true hz2
          refine op_rep pins s σ H _ _ v u Q I rx ry ⟨a, j, vs, rfl, rfl, ra, by omega, by omega, by rw [la.length]; exact sizeOk_line hz1, fun p hp => ?_⟩
          exact h.new hm hp (new_lst hm hp (la.replicate _))
        · rw [if_neg hz] at e; cases e
      | _ => cases e
    | _ => cases d2 <;> cases e
  | fdiv =>
    cases d1 with
    | int i =>
      cases d2 with
      | int j =>
        dsimp only [binD] at e
        by_cases hz : divOk j = true
        · rw [if_pos hz] at e
          cases e
          cases Vx.int h1
          cases Vx.int h2
          obtain ⟨hz1, hz2⟩ := Bool.and_eq_true_iff.mp hz
          exact op_fdivZ pins s σ H _ _ v u Q I rx ry ⟨i, j, rfl, rfl, ⟨of_decide_eq_true hz1, Nat.lt_of_le_of_lt (of_decide_eq_true hz2) (by decide)⟩, h.flat hm (Dat.int_iff.mpr rfl)⟩
        · rw [if_neg hz] at e; cases e
      | _ => cases e
    | _ => cases d2 <;> cases e
  | mod =>
    cases d1 with
    | int i =>
      cases d2 with
      | int j =>
        dsimp only [binD] at e
        by_cases hz : j = 0
        · rw [if_pos hz] at e; cases e
        · rw [if_neg hz] at e
          cases e
          cases Vx.int h1
          cases Vx.int h2
          exact op_modN pins s σ H _ _ v u Q I rx ry ⟨i, j, rfl, rfl, hz, h.flat hm (Dat.int_iff.mpr rfl)⟩
      | _ => cases e
    | _ => cases d2 <;> cases e
  | pow =>
    cases d1 with
    | int i =>
      cases d2 with
      | int j =>
        dsimp only [binD] at e
        by_cases hz : (decide (0 ≤ j) && decide (j ≤ 1000) && decide (i.natAbs.log2 ≤ 10000)) = true
        · rw [if_pos hz] at e
          cases e
          cases Vx.int h1
          cases Vx.int h2
          obtain ⟨hz1, hz2⟩ := Bool.and_eq_true_iff.mp hz
          obtain ⟨hz3, hz4⟩ := Bool.and_eq_true_iff.mp hz1
          have q1 := of_decide_eq_true hz3
          have q2 := of_decide_eq_true hz4
          have q3 := of_decide_eq_true hz2
          exact op_powZ pins s σ H _ _ v u Q I rx ry ⟨i, j, rfl, rfl, ⟨q1, bits_le q1 q2 q3⟩, h.flat hm (Dat.int_iff.mpr rfl)⟩
        · rw [if_neg hz] at e; cases e
      | _ => cases e
    | _ => cases d2 <;> cases e
end
end MP
end
section
set_option  maxHeartbeats  4000000
/-! How arguments come to plain parameters. -/
namespace MP
open PySem PySem.Spec PyProof.Rows L2
theorem lookup_some_of {α : Type} : ∀ {ps : List Str} {zs : List α} {i : Nat} {x : Str} {z : α} {r : List (Str × α)}, ps.Nodup → ps[i]? = some x → zs[i]? = some z → (ps.zip zs ++ r).lookup x = some z
  | [], _, _, _, _, _, _, h, _ => by simp at h
  | p :: ps, [], i, _, _, _, _, _, h => by simp at h
  | p :: ps, z :: zs, 0, x, y, r, nd, h1, h2 => by
    have e1 : p = x := by simpa using h1
    have e2 : z = y := by simpa using h2
    subst e1 e2
    show List.lookup p ((p, z) :: (ps.zip zs ++ r)) = some z
    simp [List.lookup]
  | p :: ps, z :: zs, i + 1, x, y, r, nd, h1, h2 => by
    have h1' : ps[i]? = some x := by simpa using h1
    have h2' : zs[i]? = some y := by simpa using h2
    obtain ⟨n1, n2⟩ := List.nodup_cons.mp nd
    have ne : ¬ x = p := fun e => n1 (e ▸ List.mem_of_getElem? h1')
    have ih := lookup_some_of (r := r) n2 h1' h2'
    show List.lookup x ((p, z) :: (ps.zip zs ++ r)) = some y
    have e : (x == p) = false := by simpa using ne
    simp only [List.lookup, e]
    exact ih
theorem lookup_none_of {α : Type} : ∀ {ps : List Str} {zs : List α} {x : Str}, x ∉ ps.take zs.length → (ps.zip zs).lookup x = none
  | [], _, _, _ => rfl
  | p :: ps, [], _, _ => rfl
  | p :: ps, z :: zs, x, h => by
    have h' : x ∉ p :: ps.take zs.length := h
    have e : (x == p) = false := by
      have : ¬ x = p := fun q => h' (q ▸ List.mem_cons_self)
      simpa using this
    show List.lookup x ((p, z) :: ps.zip zs) = none
    simp only [List.lookup, e]
    exact lookup_none_of fun q => h' (List.mem_cons_of_mem _ q)
theorem filterMap_zip {α : Type} (S : List (Str × α)) : ∀ {ps : List Str} {zs : List α}, ps.length = zs.length → (∀ (i : Nat) x z, ps[i]? = some x → zs[i]? = some z → S.lookup x = some z) → ps.filterMap (fun n => (S.lookup n).map (n, ·)) = ps.zip zs
  | [], [], _, _ => rfl
  | [], _ :: _, h, _ => by cases h
  | _ :: _, [], h, _ => by cases h
  | p :: ps, z :: zs, h, k => by
    have e : S.lookup p = some z := k 0 p z rfl rfl
    rw [List.filterMap_cons, e]
    show (p, z) :: _ = (p, z) :: ps.zip zs
    rw [filterMap_zip S (by simpa using h) fun i x y h1 h2 => k (i + 1) x y (by simpa using h1) (by simpa using h2)]
def addM {α : Type} (S : List (Str × α)) : List (Str × α) → List (Str × α)
  | [] => S
  | q :: r => addM (if (S.lookup q.1).isNone then S ++ [q] else S) r
theorem forIn_add (l : List (Str × Value)) : ∀ S : List (Str × Value), (forIn (m := Sem) l S fun x s => if (s.lookup x.fst).isNone = true then pure (ForInStep.yield (s ++ [(x.fst, x.snd)])) else pure (ForInStep.yield s)) = pure (addM S l) := by
  induction l with
  | nil => intro S; rfl
  | cons q r ih =>
    intro S
    rw [List.forIn_cons]
    by_cases h : (S.lookup q.1).isNone = true
    · rw [if_pos h, pure_bind]
      show forIn r (S ++ [q]) _ = _
      rw [ih]
      show _ = pure (addM (if (S.lookup q.1).isNone = true then S ++ [q] else S) r)
      rw [if_pos h]
    · rw [if_neg h, pure_bind]
      show forIn r S _ = _
      rw [ih]
      show _ = pure (addM (if (S.lookup q.1).isNone = true then S ++ [q] else S) r)
      rw [if_neg h]
theorem lookup_append_some {α : Type} {x : Str} {z : α} : ∀ {S T : List (Str × α)}, S.lookup x = some z → (S ++ T).lookup x = some z
  | [], _, h => by cases h
  | (k, y) :: S, T, h => by
    show List.lookup x ((k, y) :: (S ++ T)) = some z
    by_cases e : x = k
    · subst e
      simp [List.lookup] at h ⊢
      exact h
    · have e' : (x == k) = false := by simpa using e
      simp only [List.lookup, e'] at h ⊢
      exact lookup_append_some h
theorem lookup_append_none {α : Type} {x : Str} : ∀ {S T : List (Str × α)}, S.lookup x = none → (S ++ T).lookup x = T.lookup x
  | [], _, _ => rfl
  | (k, y) :: S, T, h => by
    show List.lookup x ((k, y) :: (S ++ T)) = _
    by_cases e : x = k
    · subst e
      simp [List.lookup] at h
    · have e' : (x == k) = false := by simpa using e
      simp only [List.lookup, e'] at h ⊢
      exact lookup_append_none h
theorem addM_lookup {α : Type} {x : Str} : ∀ (l S : List (Str × α)), (addM S l).lookup x = (S.lookup x).or (l.lookup x)
  | [], S => by
    show S.lookup x = _
    cases S.lookup x <;> rfl
  | (k, y) :: l, S => by
    show (addM (if (S.lookup k).isNone = true then S ++ [(k, y)] else S) l).lookup x = _
    rw [addM_lookup l]
    cases hk : S.lookup k with
    | none =>
      rw [if_pos (show (none : Option α).isNone = true from rfl)]
      cases hx : S.lookup x with
      | some z => rw [lookup_append_some hx]; rfl
      | none =>
        rw [lookup_append_none hx]
        by_cases e : x = k
        · subst e
          simp [List.lookup]
        · have e' : (x == k) = false := by simpa using e
          simp [List.lookup, e']
    | some z0 =>
      rw [if_neg (by simp)]
      cases hx : S.lookup x with
      | some z => rfl
      | none =>
        have e : ¬ x = k := fun q => by subst q; rw [hk] at hx; cases hx
        have e' : (x == k) = false := by simpa using e
        simp [List.lookup, e']
/-- plain parameters: no star, no keyword-only one -/
structure PlainPs (p : Arguments) (ps : List Str) : Prop where
  po : p.posonlyargs = []
  va : p.vararg = none
  ko : p.kwonlyargs = []
  kw : p.kwarg = none
  ar : p.args.map (·.arg) = ps
section
variable {fd : FuncData} {ps : List Str}
/-- what is left of bindArgs, the defaults known -/
theorem bind_rest (h : PlainPs fd.params ps) (us its zs : List Value) (hz : its.length ≤ ps.length) (nd : ps.Nodup) (e : argsG ps.length us its = some zs) :
    ∃ k, bindArgs fd ⟨us, []⟩ = seqItems? fd.defaults >>= k ∧ k (some its.toArray) = pure (ps.zip zs) ∧ (its = [] → k none = pure (ps.zip zs)) := by
  have hl : us.length ≤ ps.length ∧ ps.length ≤ us.length + its.length := by
    unfold argsG at e
    by_cases c : us.length ≤ ps.length ∧ ps.length ≤ us.length + its.length
    · exact c
    · rw [if_neg c] at e; cases e
  have ez : zs = us ++ its.drop (us.length + its.length - ps.length) := by
    unfold argsG at e
    rw [if_pos hl] at e
    exact (Option.some.inj e).symm
  have hzl : ps.length = zs.length := by rw [ez, List.length_append, List.length_drop]; omega
  obtain ⟨h1, h2, h3, h4, h5⟩ := h
  unfold bindArgs
  simp only [h1, h2, h3, h4, h5, List.map_nil, List.nil_append, List.append_nil, Option.isNone_none, Bool.and_true, List.forIn_nil, pure_bind, List.isEmpty_nil, Bool.not_true, Bool.false_eq_true, if_false]
  have fin : ∀ l : List Value, l = its → (ps.filterMap fun n => Option.map (fun x => (n, x)) (List.lookup n (addM (ps.zip us) ((ps.drop (ps.length - l.length)).zip l)))) = ps.zip zs := by
    intro l el
    subst el
    refine filterMap_zip _ hzl fun i x z hx hzz => ?_
    rw [addM_lookup]
    by_cases hi : i < us.length
    · have e1 : us[i]? = some z := by rw [ez, List.getElem?_append_left hi] at hzz; exact hzz
      have := lookup_some_of (r := []) nd hx e1
      rw [List.append_nil] at this
      rw [this]
      rfl
    · have hnone : (ps.zip us).lookup x = none := lookup_none_of fun q => by
        obtain ⟨j, hj, ej⟩ := List.mem_iff_getElem.mp q
        rw [List.length_take] at hj
        have hjx : ps[j]? = some x := by
          rw [List.getElem?_eq_getElem (by omega), ← ej, List.getElem_take]
        have hij : j = i := nodup_ix nd hjx hx
        omega
      rw [hnone]
      show List.lookup x _ = some z
      have hil : i < ps.length := (List.getElem?_eq_some_iff.mp hx).1
      have e1 : (ps.drop (ps.length - l.length))[i - (ps.length - l.length)]? = some x := by
        rw [List.getElem?_drop, show ps.length - l.length + (i - (ps.length - l.length)) = i by omega]
        exact hx
      have e2 : l[i - (ps.length - l.length)]? = some z := by
        rw [ez, List.getElem?_append_right (by omega), List.getElem?_drop] at hzz
        rw [← hzz]
        congr 1
        omega
      have := lookup_some_of (r := []) (nd.sublist (List.drop_sublist _ _)) e1 e2
      rw [List.append_nil] at this
      exact this
  have mis : ∀ l : List Value, l = its → List.filter (fun n => (List.lookup n (ps.zip us)).isNone) (ps.take (ps.length - l.length)) = [] := by
    intro l el
    subst el
    refine List.filter_eq_nil_iff.mpr fun x hx => ?_
    obtain ⟨j, hj, ej⟩ := List.mem_iff_getElem.mp hx
    rw [List.length_take] at hj
    have hjx : ps[j]? = some x := by
      rw [List.getElem?_eq_getElem (by omega), ← ej, List.getElem_take]
    have := lookup_some_of (r := []) nd hjx (List.getElem?_eq_getElem (show j < us.length by omega))
    rw [List.append_nil] at this
    rw [this]
    simp
  have dz : its.drop (its.length - ps.length) = its := by rw [Nat.sub_eq_zero_of_le hz, List.drop_zero]
  refine ⟨_, rfl, ?_, fun he => ?_⟩
  · simp only [Option.getD_some, List.toList_toArray, dz, mis _ rfl, List.isEmpty_nil, Bool.not_true, Bool.false_eq_true, if_false]
    rw [if_neg (by simpa using hl.1)]
    simp only [forIn_add, pure_bind, fin _ rfl]
  · subst he
    have m0 := mis [] rfl
    have f0 := fin [] rfl
    simp only [List.length_nil, Nat.sub_zero, List.take_length, List.drop_length, List.zip_nil_right] at m0 f0
    simp only [Option.getD_none, List.drop_nil, List.length_nil, Nat.sub_zero, List.take_length, List.drop_length, List.zip_nil_right, m0, List.isEmpty_nil, Bool.not_true, Bool.false_eq_true, if_false]
    rw [if_neg (by simpa using hl.1)]
    simp only [forIn_add, pure_bind, f0]
theorem bind_pos {K : Fg} {x qual : Str} {params : Arguments} {body : List Stmt} {scope : Scope} {dvs : List V} {f : Addr} (F : FunD K x qual params body scope dvs [] f fd) (h : PlainPs params ps) (nd : ps.Nodup) (hz : dvs.length ≤ ps.length) :
    ∃ its : List Value, Vals dvs its ∧ ∀ (s : Shared) (us zs : List Value), K.In s.heap → argsG ps.length us its = some zs → BindsTo s fd ⟨us, []⟩ (ps.zip zs) := by
  obtain ⟨oc, od, dV, kV, doc, pm, an, cdv, ct, osl, rfl, lk, hcd, hdf, _⟩ := F.ex
  have hp : PlainPs (PySem.W.fnOf x qual params body scope dV kV doc pm an cdv ct).params ps := h
  rcases hdf with ⟨e1, e2⟩ | ⟨ne, T, o, its, n, e2, lT, oT, r⟩
  · subst e1 e2
    refine ⟨[], .nil, fun s us zs _ e => ?_⟩
    obtain ⟨k, h1, _, h3⟩ := bind_rest hp us [] zs (Nat.zero_le _) nd e
    refine BindsTo.of_eq ?_
    rw [h1]
    show pure none >>= k = _
    rw [pure_bind, h3 rfl]
  · subst e2
    refine ⟨its, r, fun s us zs KX e => ?_⟩
    obtain ⟨k, h1, h2, _⟩ := bind_rest hp us its zs (by rw [← r.length]; exact hz) nd e
    refine BindsTo.of_looks fun M => ?_
    rw [h1]
    exact looks_items KX lT oT (by rw [h2]; exact .now)
end
theorem kw_loop (f : (Str × Value) → (List (Str × Value) × List (Str × Value)) → Sem (ForInStep (List (Str × Value) × List (Str × Value)))) : ∀ (kw : List (Str × Value)) (S E : List (Str × Value)), (∀ q ∈ kw, ∀ T, T.lookup q.1 = none → f q (T, E) = pure (.yield (T ++ [q], E))) → (kw.map (·.1)).Nodup → (∀ q ∈ kw, S.lookup q.1 = none) → forIn (m := Sem) kw (S, E) f = pure (S ++ kw, E)
  | [], S, E, _, _, _ => by rw [List.forIn_nil, List.append_nil]
  | q :: kw, S, E, hf, nd, hn => by
    rw [List.map_cons, List.nodup_cons] at nd
    rw [List.forIn_cons, hf q List.mem_cons_self S (hn q List.mem_cons_self), pure_bind]
    show forIn kw (S ++ [q], E) f = _
    rw [kw_loop f kw (S ++ [q]) E (fun r hr => hf r (List.mem_cons_of_mem _ hr)) nd.2 fun r hr => ?_, List.append_assoc]
    · rfl
    · rw [lookup_append_none (hn r (List.mem_cons_of_mem _ hr))]
      have : r.1 ≠ q.1 := fun e => nd.1 (e ▸ List.mem_map.mpr ⟨r, hr, rfl⟩)
      rw [List.lookup_cons, show (r.1 == q.1) = false from beq_eq_false_iff_ne.mpr this]
      rfl
section
variable {fd : FuncData} {ps : List Str}
theorem bind_restK (h : PlainPs fd.params ps) (us its zs : List Value) (kw : List (Str × Value)) (hz : its.length ≤ ps.length) (nd : ps.Nodup) (hu : us.length ≤ ps.length) (hkn : (kw.map (·.1)).Nodup) (hk : ∀ q ∈ kw, q.1 ∈ ps ∧ (ps.zip us).lookup q.1 = none)
    (hzl : ps.length = zs.length) (hv : ∀ (i : Nat) x z, ps[i]? = some x → zs[i]? = some z → ((ps.zip us ++ kw).lookup x).or (((ps.drop (ps.length - its.length)).zip its).lookup x) = some z) :
    ∃ k, bindArgs fd ⟨us, kw⟩ = seqItems? fd.defaults >>= k ∧ k (some its.toArray) = pure (ps.zip zs) ∧ (its = [] → k none = pure (ps.zip zs)) := by
  obtain ⟨h1, h2, h3, h4, h5⟩ := h
  unfold bindArgs
  simp only [h1, h2, h3, h4, h5, List.map_nil, List.nil_append, List.append_nil, Option.isNone_none, Bool.and_true, List.forIn_nil, pure_bind, List.isEmpty_nil, Bool.not_true, Bool.false_eq_true, if_false, List.contains_nil, Bool.or_false, Option.isSome_none]
  rw [kw_loop _ kw (ps.zip us) [] (fun q hq T hT => by
    have c : ps.contains q.1 = true := by rw [List.contains_iff_mem]; exact (hk q hq).1
    simp only [c, if_true, hT, Option.isSome_none, Bool.false_eq_true, if_false, pure_bind]) hkn (fun q hq => (hk q hq).2)]
  simp only [pure_bind]
  have dz : its.drop (its.length - ps.length) = its := by rw [Nat.sub_eq_zero_of_le hz, List.drop_zero]
  have fin : ∀ l : List Value, l = its → (ps.filterMap fun n => Option.map (fun x => (n, x)) (List.lookup n (addM (ps.zip us ++ kw) ((ps.drop (ps.length - l.length)).zip l)))) = ps.zip zs := by
    intro l el
    subst el
    refine filterMap_zip _ hzl fun i x z hx hzz => ?_
    rw [addM_lookup]
    exact hv i x z hx hzz
  have mis : ∀ l : List Value, l = its → List.filter (fun n => (List.lookup n (ps.zip us ++ kw)).isNone) (ps.take (ps.length - l.length)) = [] := by
    intro l el
    subst el
    refine List.filter_eq_nil_iff.mpr fun x hx => ?_
    obtain ⟨j, hj, ej⟩ := List.mem_iff_getElem.mp hx
    rw [List.length_take] at hj
    have hjx : ps[j]? = some x := by
      rw [List.getElem?_eq_getElem (by omega), ← ej, List.getElem_take]
    have hzj : zs[j]? = some zs[j] := List.getElem?_eq_getElem (by omega)
    have := hv j x _ hjx hzj
    cases q : (ps.zip us ++ kw).lookup x with
    | some z => simp
    | none =>
      rw [q] at this
      have hno : ((ps.drop (ps.length - l.length)).zip l).lookup x = none := lookup_none_of fun hm => by
        have hm' := List.mem_of_mem_take hm
        obtain ⟨i, hi, ei⟩ := List.mem_iff_getElem.mp hm'
        rw [List.length_drop] at hi
        have hix : ps[ps.length - l.length + i]? = some x := by
          rw [List.getElem?_eq_getElem (by omega), ← ei, List.getElem_drop]
        have := nodup_ix nd hix hjx
        omega
      rw [hno] at this
      cases this
  refine ⟨_, rfl, ?_, fun he => ?_⟩
  · simp only [Option.getD_some, List.toList_toArray, dz, mis _ rfl, List.isEmpty_nil, Bool.not_true, Bool.false_eq_true, if_false]
    rw [if_neg (by simpa using hu)]
    simp only [forIn_add, pure_bind, fin _ rfl]
  · subst he
    have m0 := mis [] rfl
    have f0 := fin [] rfl
    simp only [List.length_nil, Nat.sub_zero, List.take_length, List.drop_length, List.zip_nil_right] at m0 f0
    simp only [Option.getD_none, List.drop_nil, List.length_nil, Nat.sub_zero, List.take_length, List.drop_length, List.zip_nil_right, m0, List.isEmpty_nil, Bool.not_true, Bool.false_eq_true, if_false]
    rw [if_neg (by simpa using hu)]
    simp only [forIn_add, pure_bind, f0]
end
section
variable {fd : FuncData} {ps : List Str}
/-- a value list by keywords: what the binder asks -/
theorem argsK_ok {α : Type} {us zs dfl : List α} {kw : List (Str × α)} (nd : ps.Nodup) (e : argsK ps us kw dfl = some zs) : us.length ≤ ps.length ∧ (kw.map (·.1)).Nodup ∧ (∀ q ∈ kw, q.1 ∈ ps ∧ (ps.zip us).lookup q.1 = none) ∧ ps.length = zs.length ∧
    (∀ (i : Nat) x z, ps[i]? = some x → zs[i]? = some z → ((ps.zip us ++ kw).lookup x).or (((ps.drop (ps.length - dfl.length)).zip dfl).lookup x) = some z) := by
  unfold argsK at e
  by_cases c : us.length ≤ ps.length ∧ (kw.map (·.1)).Nodup ∧ (∀ q ∈ kw, q.1 ∈ ps.drop us.length)
  · rw [if_pos c] at e
    obtain ⟨c1, c2, c3⟩ := c
    have apart : ∀ x, x ∈ ps.drop us.length → x ∉ ps.take us.length := fun x h1 h2 => by
      have := nd
      rw [← List.take_append_drop us.length ps] at this
      exact (List.nodup_append.mp this).2.2 x h2 x h1 rfl
    cases em : (ps.drop us.length).mapM (fun x => (kw.lookup x).or (((ps.drop (ps.length - dfl.length)).zip dfl).lookup x)) with
    | none => rw [em] at e; cases e
    | some rs =>
      rw [em] at e
      have ez : us ++ rs = zs := Option.some.inj e
      have key : ∀ (l : List Str) (rs : List α), l.mapM (fun x => (kw.lookup x).or (((ps.drop (ps.length - dfl.length)).zip dfl).lookup x)) = some rs → l.length = rs.length ∧ ∀ (i : Nat) x z, l[i]? = some x → rs[i]? = some z → (kw.lookup x).or (((ps.drop (ps.length - dfl.length)).zip dfl).lookup x) = some z := by
        intro l
        induction l with
        | nil =>
          intro rs h
          have : rs = [] := by simpa using h.symm
          subst this
          exact ⟨rfl, fun i x z h1 _ => by simp at h1⟩
        | cons y l ih =>
          intro rs h
          rw [List.mapM_cons] at h
          cases hy : (kw.lookup y).or (((ps.drop (ps.length - dfl.length)).zip dfl).lookup y) with
          | none => rw [hy] at h; cases h
          | some v =>
            rw [hy] at h
            cases hl : l.mapM (fun x => (kw.lookup x).or (((ps.drop (ps.length - dfl.length)).zip dfl).lookup x)) with
            | none => rw [hl] at h; cases h
            | some r =>
              rw [hl] at h
              have : v :: r = rs := Option.some.inj h
              subst this
              obtain ⟨i1, i2⟩ := ih r hl
              refine ⟨by rw [List.length_cons, List.length_cons, i1], fun i x z h1 h2 => ?_⟩
              cases i with
              | zero =>
                simp at h1 h2
                subst h1 h2
                exact hy
              | succ i => exact i2 i x z (by simpa using h1) (by simpa using h2)
      obtain ⟨k1, k2⟩ := key _ rs em
      refine ⟨c1, c2, fun q hq => ⟨List.mem_of_mem_drop (c3 q hq), lookup_none_of (apart _ (c3 q hq))⟩, ?_, fun i x z hx hz => ?_⟩
      · rw [← ez, List.length_append, ← k1, List.length_drop]; omega
      · by_cases hi : i < us.length
        · rw [← ez, List.getElem?_append_left hi] at hz
          rw [lookup_some_of nd hx hz]
          rfl
        · rw [← ez, List.getElem?_append_right (by omega)] at hz
          have hx' : (ps.drop us.length)[i - us.length]? = some x := by
            rw [List.getElem?_drop, show us.length + (i - us.length) = i by omega]
            exact hx
          rw [lookup_append_none (lookup_none_of (apart x (List.mem_of_getElem? hx')))]
          exact k2 _ x z hx' hz
  · rw [if_neg c] at e; cases e
/-- binding: by places; keywords too -/
theorem bind_all {K : Fg} {x qual : Str} {params : Arguments} {body : List Stmt} {scope : Scope} {dvs : List V} {f : Addr} (F : FunD K x qual params body scope dvs [] f fd) (h : PlainPs params ps) (nd : ps.Nodup) (hz : dvs.length ≤ ps.length) :
    ∃ its : List Value, Vals dvs its ∧ (∀ (s : Shared) (us zs : List Value), K.In s.heap → argsG ps.length us its = some zs → BindsTo s fd ⟨us, []⟩ (ps.zip zs)) ∧
      ∀ (s : Shared) (us zs : List Value) (kw : List (Str × Value)), K.In s.heap → argsK ps us kw its = some zs → BindsTo s fd ⟨us, kw⟩ (ps.zip zs) := by
  obtain ⟨oc, od, dV, kV, doc, pm, an, cdv, ct, osl, rfl, lk, hcd, hdf, _⟩ := F.ex
  have hp : PlainPs (PySem.W.fnOf x qual params body scope dV kV doc pm an cdv ct).params ps := h
  rcases hdf with ⟨e1, e2⟩ | ⟨ne, T, o, its, n, e2, lT, oT, r⟩
  · subst e1 e2
    refine ⟨[], .nil, fun s us zs _ e => ?_, fun s us zs kw _ e => ?_⟩
    · obtain ⟨k, h1, _, h3⟩ := bind_rest hp us [] zs (Nat.zero_le _) nd e
      refine BindsTo.of_eq ?_
      rw [h1]
      show pure none >>= k = _
      rw [pure_bind, h3 rfl]
    · obtain ⟨a1, a2, a3, a4, a5⟩ := argsK_ok nd e
      obtain ⟨k, h1, _, h3⟩ := bind_restK hp us [] zs kw (Nat.zero_le _) nd a1 a2 a3 a4 a5
      refine BindsTo.of_eq ?_
      rw [h1]
      show pure none >>= k = _
      rw [pure_bind, h3 rfl]
  · subst e2
    refine ⟨its, r, fun s us zs KX e => ?_, fun s us zs kw KX e => ?_⟩
    · obtain ⟨k, h1, h2, _⟩ := bind_rest hp us its zs (by rw [← r.length]; exact hz) nd e
      refine BindsTo.of_looks fun M => ?_
      rw [h1]
      exact looks_items KX lT oT (by rw [h2]; exact .now)
    · obtain ⟨a1, a2, a3, a4, a5⟩ := argsK_ok nd e
      obtain ⟨k, h1, h2, _⟩ := bind_restK hp us its zs kw (by rw [← r.length]; exact hz) nd a1 a2 a3 a4 a5
      refine BindsTo.of_looks fun M => ?_
      rw [h1]
      exact looks_items KX lT oT (by rw [h2]; exact .now)
end
end MP
end
section
set_option  maxHeartbeats  4000000
/-! Calls of defs, methods, classes. -/
namespace MP
open PySem PySem.Spec PyProof.Rows L2
/-- room, and no repr under way -/
structure Rm (k : Nat) (A : Around) : Prop where
  rm : Room k A
  gd : A.guards = some []
theorem Rm.mono {j k : Nat} {A : Around} (r : Rm k A) (h : j ≤ k) : Rm j A := ⟨r.rm.mono h, r.gd⟩
theorem Rm.deeper {k : Nat} {A : Around} (r : Rm (k + 1) A) (env : Env) : Rm k (A.deeper env) := ⟨r.rm.deeper env, r.gd⟩
theorem Rm.in1 {k : Nat} {A : Around} (r : Rm (k + 1) A) : Rm k A.in1 := ⟨r.rm.in1, r.gd⟩
theorem Rm.make {k : Nat} {A : Around} (r : Rm (k + 1) A) (C : Addr) (us : List Value) (kw : List (Str × Value)) : Rm k (A.under (.builtin "type.__call__" ⟨.ref C :: us, kw⟩)) :=
  ⟨r.rm.make C us kw, by show pushGuards [] A.guards = some []; rw [r.gd]; rfl⟩
/-- a def keeps its promise wherever there is room and no repr under way -/
structure FnG (P : Program) (w : World) (K : Fg) (mg : Str → Option Value) (base : Heap) (CX : CXT) (k : Nat) (f : Addr) (fd : FuncData) (ps : List Str) (sp : Sp) : Prop where
  len : ∀ vs H Q E, sp vs H Q E → vs.length = ps.length
  run : ∀ (A : Around) (outer : List Env) (s : Shared) (H : Hp) (args : Args) (us : List Value) (vs : List V) (Q : VK) (E : XK), Rm k A → Env0 P w K mg base A outer s H → BindsTo s fd args (ps.zip us) → Vals vs us → sp vs H Q E →
    codeAny (model P w) A (.call (.ref f) args) (CR CX outer P w H s Q E) s
theorem FnG.mono {P : Program} {w : World} {K : Fg} {mg : Str → Option Value} {base : Heap} {CX : CXT} {j k : Nat} {f : Addr} {fd : FuncData} {ps : List Str} {sp : Sp} (F : FnG P w K mg base CX j f fd ps sp) (h : j ≤ k) :
    FnG P w K mg base CX k f fd ps sp := ⟨F.len, fun A outer s H args us vs Q E hr => F.run A outer s H args us vs Q E (hr.mono h)⟩
/-- by its body -/
theorem fnG_of {CX : CXT} {P : Program} {w : World} {K : Fg} {mg : Str → Option Value} {base : Heap} {k : Nat} {f : Addr} {name qual : Str} {params : Arguments} {body : List Stmt} {scope : Scope} {dvs : List V} {kws : List (Str × V)} {fd : FuncData} {N ps : List Str} {sp : Sp}
    (F : FunD K name qual params body scope dvs kws f fd) (S : FnScope N ps scope) (len : ∀ vs H Q E, sp vs H Q E → vs.length = ps.length)
    (hbody : ∀ (cdv : Value) (A : Around) (outer : List Env) (s : Shared) (H : Hp) (vs : List V) (Q : VK) (E : XK), Rm k (A.deeper (envOfC qual scope s.heap.objs.size f cdv)) → sp vs H Q E →
      ∃ t, PSs (cxOf CX P w K mg base N qual scope f cdv A outer s H E) body t ∧ t { nx := fun _ H' => Q .non H', rt := Q } (start N vs) H) : FnG P w K mg base CX (k + 1) f fd ps sp := by
  obtain ⟨oc, od, dV, kV, doc, pm, an, cdv, ct, osl, rfl, lk, hcd, _, _⟩ := F.ex
  constructor
  · exact len
  intro A outer s H args us vs Q E hr e0 hb r hsp
  have kp : ∀ b o, base.get? b = some o → s.heap.get? b = some o := fun b o e => (e0.bs b o e).1
  have KX := e0.mod.kin.keeps kp
  refine codeAny_call_function hr.rm.depth (KX _ _ lk) rfl S.co S.gen rfl (PySem.W.codeRec_of KX hcd) (hb _ _ _ _ (wpAny_newFunctionEnv_cells S.kind ?_ ?_))
  · intro y hy
    have hp : y.1 ∈ ps := (List.of_mem_zip (show (y.1, y.2) ∈ ps.zip us from hy)).1
    cases S.par y.1 hp with
    | inl q => exact .inl q
    | inr q => exact .inr ⟨q, PySem.W.cellsFrom_some _ _ _ (.inl q)⟩
  · intro env he s1 x
    subst he
    refine ⟨(e0.mod.nolimit.keeps kp).keeps x.toInCall.keep, codeAny_func ?_⟩
    obtain ⟨t, ht, hq⟩ := hbody cdv A outer s H vs Q E (hr.deeper _) hsp
    refine wpAny_mono (ht.run [] s1 (start N vs) H _ (inv_start S hr.rm.hd e0 (len _ _ _ _ hsp) r x) hq) ?_ (fun _ _ z => z)
    intro fl s' hs
    cases fl with
    | ret u => obtain ⟨v, _, H', J, rv, q⟩ := hs; exact ⟨v, H', J.os, J.bare, J.base, J.hok, rv, q⟩
    | next => obtain ⟨_, H', J, q⟩ := hs; exact ⟨.non, H', J.os, J.bare, J.base, J.hok, rfl, q⟩
    | brk => obtain ⟨_, _, _, q⟩ := hs; exact q.elim
    | cont => obtain ⟨_, _, _, q⟩ := hs; exact q.elim
/-- what a def promises, by the evaluator -/
def spF (P : Prog) (K : Fg) (call : Nat → Bool → List W → M → R W) (f : Nat) (fr : Bool) (n : Nat) : Sp := fun vs H Q E => ∃ w as m, MRel P K w H m ∧ WsRel P K w H as vs ∧ as.length = n ∧ Post P K (WRel P K) w H (call f fr as m) Q E
structure CallOk (P : Prog) (hd : Hd) (X : Cx) (k f : Nat) (d : FnDef) (fr : Bool) : Prop where
  ex : ∃ (fd : FuncData) (dvs : List V) (its : List Value), FnG X.prog X.w X.K X.mg X.base (L2.CX X.prog X.w) k (fA X.K d.at_) fd d.ps (spF P X.K hd.call f fr d.ps.length) ∧ Vals dvs its ∧
    (∀ (w : Wd) (H : Hp), DatL P X.K w.fro H d.dfl dvs) ∧ (∀ (s : Shared) (us zs : List Value), X.K.In s.heap → argsG d.ps.length us its = some zs → BindsTo s fd ⟨us, []⟩ (d.ps.zip zs)) ∧
    ∀ (s : Shared) (us zs : List Value) (kw : List (Str × Value)), X.K.In s.heap → argsK d.ps us kw its = some zs → BindsTo s fd ⟨us, kw⟩ (d.ps.zip zs)
section
variable {P : Prog} {K : Fg} {w : Wd} {H : Hp}
theorem argsG_len {α : Type} {n : Nat} {us dfl zs : List α} (h : argsG n us dfl = some zs) : zs.length = n ∧ us.length ≤ n ∧ n ≤ us.length + dfl.length ∧ zs = us ++ dfl.drop (us.length + dfl.length - n) := by
  unfold argsG at h
  by_cases c : us.length ≤ n ∧ n ≤ us.length + dfl.length
  · rw [if_pos c] at h
    have e := (Option.some.inj h).symm
    refine ⟨?_, c.1, c.2, e⟩
    rw [e, List.length_append, List.length_drop]
    omega
  · rw [if_neg c] at h; cases h
theorem argsG_some {α : Type} {n : Nat} {us dfl : List α} (h1 : us.length ≤ n) (h2 : n ≤ us.length + dfl.length) : argsG n us dfl = some (us ++ dfl.drop (us.length + dfl.length - n)) := by
  unfold argsG
  rw [if_pos ⟨h1, h2⟩]
theorem DatL.ws : ∀ {ds : List D} {vs : List V}, DatL P K w.fro H ds vs → WsRel P K w H (ds.map W.v) vs
  | [], vs, h => by unfold DatL at h; exact h
  | d :: ds, vs, h => by
    unfold DatL at h
    obtain ⟨v, r, e, h1, h2⟩ := h
    exact ⟨v, r, e, h1, DatL.ws h2⟩
theorem WsRel.drop : ∀ {as : List W} {vs : List V} (k : Nat), WsRel P K w H as vs → WsRel P K w H (as.drop k) (vs.drop k)
  | as, vs, 0, h => h
  | [], vs, k + 1, h => by
    have e : vs = [] := h
    subst e
    exact WsRel.nil
  | a :: as, vs, k + 1, h => by
    obtain ⟨v, r, e, h1, h2⟩ := h
    subst e
    exact WsRel.drop k h2
/-- a slot's value and a value of the model -/
def WV (P : Prog) (K : Fg) (w : Wd) (H : Hp) (a : W) (u : Value) : Prop := ∃ v, WRel P K w H a v ∧ RelV v u
theorem wv_of : ∀ {as : List W} {vs : List V} {us : List Value}, WsRel P K w H as vs → Vals vs us → Paired (WV P K w H) as us
  | [], vs, us, h, r => by
    have e : vs = [] := h
    subst e
    cases r
    exact .nil
  | a :: as, vs, us, h, r => by
    obtain ⟨v, q, rfl, h1, h2⟩ := h
    cases r with
    | cons r1 r2 => exact .cons ⟨v, h1, r1⟩ (wv_of h2 r2)
theorem of_wv : ∀ {as : List W} {us : List Value}, Paired (WV P K w H) as us → ∃ vs, WsRel P K w H as vs ∧ Vals vs us
  | _, _, .nil => ⟨[], WsRel.nil, .nil⟩
  | _, _, .cons ⟨v, h1, r1⟩ t => by
    obtain ⟨vs, h2, r2⟩ := of_wv t
    exact ⟨v :: vs, WsRel.cons h1 h2, .cons r1 r2⟩
section
variable {α β : Type} {F : α → β → Prop}
theorem paired_take : ∀ {l : List α} {m : List β} (n : Nat), Paired F l m → Paired F (l.take n) (m.take n)
  | _, _, 0, _ => by rw [List.take_zero, List.take_zero]; exact .nil
  | _, _, n + 1, .nil => .nil
  | _, _, n + 1, .cons h t => .cons h (paired_take n t)
theorem paired_drop : ∀ {l : List α} {m : List β} (n : Nat), Paired F l m → Paired F (l.drop n) (m.drop n)
  | _, _, 0, h => h
  | _, _, n + 1, .nil => .nil
  | _, _, n + 1, .cons h t => paired_drop n t
theorem paired_append : ∀ {l l' : List α} {m m' : List β}, Paired F l m → Paired F l' m' → Paired F (l ++ l') (m ++ m')
  | _, _, _, _, .nil, h => h
  | _, _, _, _, .cons h t, h' => .cons h (paired_append t h')
/-- two answers of a look-up -/
def OF (F : α → β → Prop) : Option α → Option β → Prop
  | none, none => True
  | some a, some b => F a b
  | _, _ => False
theorem zip_lookup {x : Str} : ∀ {ks : List Str} {l : List α} {m : List β}, Paired F l m → OF F ((ks.zip l).lookup x) ((ks.zip m).lookup x)
  | [], _, _, _ => True.intro
  | k :: ks, _, _, .nil => True.intro
  | k :: ks, _, _, .cons h t => by
    rw [List.zip_cons_cons, List.zip_cons_cons, List.lookup_cons, List.lookup_cons]
    cases (x == k) with
    | true => exact h
    | false => exact zip_lookup t
theorem OF.or {a a' : Option α} {b b' : Option β} (h : OF F a b) (h' : OF F a' b') : OF F (a.or a') (b.or b') := by
  cases a with
  | none =>
    cases b with
    | none => exact h'
    | some _ => exact h.elim
  | some _ =>
    cases b with
    | none => exact h.elim
    | some _ => exact h
theorem zip_keys : ∀ {ks : List Str} {l : List α} {m : List β}, Paired F l m → (ks.zip l).map (·.1) = (ks.zip m).map (·.1)
  | [], _, _, _ => rfl
  | k :: ks, _, _, .nil => rfl
  | k :: ks, _, _, .cons h t => by
    rw [List.zip_cons_cons, List.zip_cons_cons, List.map_cons, List.map_cons, zip_keys t]
theorem mapM_rel {f : Str → Option α} {g : Str → Option β} (h : ∀ x, OF F (f x) (g x)) : ∀ {l : List Str} {rs : List α}, l.mapM f = some rs → ∃ zs, l.mapM g = some zs ∧ Paired F rs zs
  | [], rs, e => by
    have : rs = [] := by simpa using e.symm
    subst this
    exact ⟨[], rfl, .nil⟩
  | y :: l, rs, e => by
    rw [List.mapM_cons] at e
    have hy := h y
    cases ey : f y with
    | none => rw [ey] at e; cases e
    | some v =>
      rw [ey] at e hy
      cases eg : g y with
      | none => rw [eg] at hy; exact hy.elim
      | some u =>
        rw [eg] at hy
        cases hl : l.mapM f with
        | none => rw [hl] at e; cases e
        | some r =>
          rw [hl] at e
          have : v :: r = rs := Option.some.inj e
          subst this
          obtain ⟨zs, h1, h2⟩ := mapM_rel h hl
          refine ⟨u :: zs, ?_, .cons hy h2⟩
          rw [List.mapM_cons, eg, h1]
          rfl
theorem argsK_rel {ps ks : List Str} {us as : List α} {us' : List β} {kws : List α} {kws' : List β} {dfl : List α} {dfl' : List β} (h1 : Paired F us us') (h2 : Paired F kws kws') (h3 : Paired F dfl dfl') (e : argsK ps us (ks.zip kws) dfl = some as) :
    ∃ zs, argsK ps us' (ks.zip kws') dfl' = some zs ∧ Paired F as zs := by
  have l1 : us.length = us'.length := Paired.length h1
  have l3 : dfl.length = dfl'.length := Paired.length h3
  have kk := zip_keys (ks := ks) h2
  unfold argsK at e ⊢
  by_cases c : us.length ≤ ps.length ∧ ((ks.zip kws).map (·.1)).Nodup ∧ (∀ q ∈ ks.zip kws, q.1 ∈ ps.drop us.length)
  · rw [if_pos c] at e
    have c' : us'.length ≤ ps.length ∧ ((ks.zip kws').map (·.1)).Nodup ∧ (∀ q ∈ ks.zip kws', q.1 ∈ ps.drop us'.length) := by
      refine ⟨l1 ▸ c.1, kk ▸ c.2.1, fun q hq => ?_⟩
      have : q.1 ∈ (ks.zip kws).map (·.1) := by rw [kk]; exact List.mem_map.mpr ⟨q, hq, rfl⟩
      obtain ⟨r, hr, er⟩ := List.mem_map.mp this
      rw [← er, ← l1]
      exact c.2.2 r hr
    rw [if_pos c']
    cases em : (ps.drop us.length).mapM (fun x => ((ks.zip kws).lookup x).or (((ps.drop (ps.length - dfl.length)).zip dfl).lookup x)) with
    | none => rw [em] at e; cases e
    | some rs =>
      rw [em] at e
      have ez : us ++ rs = as := Option.some.inj e
      subst ez
      obtain ⟨zs, k1, k2⟩ := mapM_rel (F := F) (g := fun x => ((ks.zip kws').lookup x).or (((ps.drop (ps.length - dfl'.length)).zip dfl').lookup x)) (fun x => OF.or (zip_lookup h2) (by rw [← l3]; exact zip_lookup h3)) em
      rw [← l1, k1]
      exact ⟨us' ++ zs, rfl, paired_append h1 k2⟩
  · rw [if_neg c] at e; cases e
end
/-- the values that a call binds -/
theorem args_rel {n : Nat} {ws as : List W} {vs dvs : List V} {dfl : List D} {us its : List Value} (hw : WsRel P K w H ws vs) (hd : DatL P K w.fro H dfl dvs) (r : Vals vs us) (rd : Vals dvs its) (e : argsG n ws (dfl.map W.v) = some as) :
    ∃ xs zs, argsG n us its = some zs ∧ Vals xs zs ∧ WsRel P K w H as xs ∧ as.length = n := by
  obtain ⟨h1, h2, h3, h4⟩ := argsG_len e
  rw [List.length_map] at h3 h4
  have l1 := hw.length
  have l2 := hd.length
  have l3 := r.length
  have l4 := rd.length
  refine ⟨vs ++ dvs.drop (vs.length + dvs.length - n), us ++ its.drop (us.length + its.length - n), argsG_some (by omega) (by omega), r.append (by rw [← l3, ← l4]; exact rd.drop _), ?_, h1⟩
  rw [h4, l1, l2]
  exact hw.append (hd.ws.drop _)
end
section
variable {P : Prog} {hd : Hd} {X : Cx} {k f : Nat} {d : FnDef} {fr : Bool} {Wx : WX}
/-- a def is called, around A -/
theorem call_codeA (g : CallOk P hd X k f d fr) (hf : hd.P.fn f = some d) (tk : Takes X Wx) {A : Around} (hr : Rm k A) {pins : List (Addr × Obj)} {s : Shared} {σ : L2.St} {H : Hp} {us : List Value} {vs : List V} {Q : VK} {w : Wd} {m : M} {ws as : List W}
    (e0 : Env0 X.prog X.w X.K X.mg X.base A X.stack s H) (I : Inv X pins σ H s) (hm : MRel P X.K w H m) (hw : WsRel P X.K w H ws vs) (r : Vals vs us) (e : fnArgs hd.P f ws = some as) (p : Post P X.K (WRel P X.K) w H (hd.call f fr as m) Q (fun cls dd H' => Wx cls dd σ H')) :
    codeAny (model X.prog X.w) A (.call (.ref (fA X.K d.at_)) ⟨us, []⟩) (fun r s' => match r with | .ok (.ret v) => EP X pins σ Q v s' | .ok _ => False | .error e => X.xe e s') s := by
  obtain ⟨fd, dvs, its, F, rd, hdl, hb, hbk⟩ := g.ex
  unfold fnArgs at e
  rw [hf] at e
  obtain ⟨xs, zs, e2, r2, w2, l2⟩ := args_rel hw (hdl w H) r rd e
  refine (codeAny_mono (F.run A X.stack s H ⟨us, []⟩ zs xs Q (fun cls dd H' => Wx cls dd σ H') hr e0 (hb s us zs I.kIn e2) r2 ⟨w, as, m, hm, w2, l2, p⟩) fun res s' hq => ?_)
  cases res with
  | error er => exact passAt tk σ pins H s er s' I hq
  | ok fl =>
    cases fl with
    | ret u => exact I.after hq
    | next => exact hq.elim
    | brk => exact hq.elim
    | cont => exact hq.elim
theorem call_runA (g : CallOk P hd X k f d fr) (hf : hd.P.fn f = some d) (tk : Takes X Wx) {A : Around} (hr : Rm k A) {pins : List (Addr × Obj)} {s : Shared} {σ : L2.St} {H : Hp} {us : List Value} {vs : List V} {Q : VK} {w : Wd} {m : M} {ws as : List W}
    (e0 : Env0 X.prog X.w X.K X.mg X.base A X.stack s H) (I : Inv X pins σ H s) (hm : MRel P X.K w H m) (hw : WsRel P X.K w H ws vs) (r : Vals vs us) (e : fnArgs hd.P f ws = some as) (p : Post P X.K (WRel P X.K) w H (hd.call f fr as m) Q (fun cls dd H' => Wx cls dd σ H')) :
    wpAny (model X.prog X.w) A (call (.ref (fA X.K d.at_)) us) (EP X pins σ Q) X.xe s := wpAny_call (call_codeA g hf tk hr e0 I hm hw r e p)
theorem call_run (g : CallOk P hd X k f d fr) (hf : hd.P.fn f = some d) (hr : Rm k X.A) (tk : Takes X Wx) {pins : List (Addr × Obj)} {s : Shared} {σ : L2.St} {H : Hp} {us : List Value} {vs : List V} {Q : VK} {w : Wd} {m : M} {ws as : List W}
    (I : Inv X pins σ H s) (hm : MRel P X.K w H m) (hw : WsRel P X.K w H ws vs) (r : Vals vs us) (e : fnArgs hd.P f ws = some as) (p : Post P X.K (WRel P X.K) w H (hd.call f fr as m) Q (fun cls dd H' => Wx cls dd σ H')) :
    wpAny (model X.prog X.w) X.A (call (.ref (fA X.K d.at_)) us) (EP X pins σ Q) X.xe s := call_runA g hf tk hr I.env0 I hm hw r e p
/-- a def is called with keywords -/
theorem call_codeK (g : CallOk P hd X k f d fr) (hf : hd.P.fn f = some d) (hr : Rm k X.A) (tk : Takes X Wx) {pins : List (Addr × Obj)} {s : Shared} {σ : L2.St} {H : Hp} {us kus : List Value} {vs kvs : List V} {Q : VK} {w : Wd} {m : M} {ws kws as : List W} {ks : List Str}
    (I : Inv X pins σ H s) (hm : MRel P X.K w H m) (hw : WsRel P X.K w H ws vs) (r : Vals vs us) (hkw : WsRel P X.K w H kws kvs) (rk : Vals kvs kus) (e : argsK d.ps ws (ks.zip kws) (d.dfl.map W.v) = some as) (p : Post P X.K (WRel P X.K) w H (hd.call f fr as m) Q (fun cls dd H' => Wx cls dd σ H')) :
    codeAny (model X.prog X.w) X.A (.call (.ref (fA X.K d.at_)) ⟨us, ks.zip kus⟩) (fun r s' => match r with | .ok (.ret v) => EP X pins σ Q v s' | .ok _ => False | .error e => X.xe e s') s := by
  obtain ⟨fd, dvs, its, F, rd, hdl, hb, hbk⟩ := g.ex
  obtain ⟨zs, e2, pz⟩ := argsK_rel (F := WV P X.K w H) (ks := ks) (wv_of hw r) (wv_of hkw rk) (wv_of (hdl w H).ws rd) e
  obtain ⟨xs, w2, r2⟩ := of_wv pz
  have l2 : as.length = d.ps.length := by
    obtain ⟨_, _, _, h4, _⟩ : _ ∧ _ ∧ _ ∧ d.ps.length = as.length ∧ True := by
      unfold argsK at e
      by_cases c : ws.length ≤ d.ps.length ∧ ((ks.zip kws).map (·.1)).Nodup ∧ (∀ q ∈ ks.zip kws, q.1 ∈ d.ps.drop ws.length)
      · rw [if_pos c] at e
        cases em : (d.ps.drop ws.length).mapM (fun x => ((ks.zip kws).lookup x).or (((d.ps.drop (d.ps.length - (d.dfl.map W.v).length)).zip (d.dfl.map W.v)).lookup x)) with
        | none => rw [em] at e; cases e
        | some rs =>
          rw [em] at e
          have ez : ws ++ rs = as := Option.some.inj e
          have len : ∀ (l : List Str) (rs : List W) (g : Str → Option W), l.mapM g = some rs → rs.length = l.length := by
            intro l
            induction l with
            | nil => intro rs g h; have : rs = [] := by simpa using h.symm
                     subst this; rfl
            | cons y l ih =>
              intro rs g h
              rw [List.mapM_cons] at h
              cases hy : g y with
              | none => rw [hy] at h; cases h
              | some v =>
                rw [hy] at h
                cases hl : l.mapM g with
                | none => rw [hl] at h; cases h
                | some r =>
                  rw [hl] at h
                  have : v :: r = rs := Option.some.inj h
                  subst this
                  rw [List.length_cons, List.length_cons, ih r g hl]
          have l1 := len _ rs _ em
          refine ⟨c.1, c.2.1, c.2.2, ?_, True.intro⟩
          rw [← ez, List.length_append, l1, List.length_drop]
          have := c.1
          omega
      · rw [if_neg c] at e; cases e
    exact h4.symm
  refine (codeAny_mono (F.run X.A X.stack s H ⟨us, ks.zip kus⟩ zs xs Q (fun cls dd H' => Wx cls dd σ H') hr I.env0 (hbk s us zs _ I.kIn e2) r2 ⟨w, as, m, hm, w2, l2, p⟩) fun res s' hq => ?_)
  cases res with
  | error er => exact passAt tk σ pins H s er s' I hq
  | ok fl =>
    cases fl with
    | ret u => exact I.after hq
    | next => exact hq.elim
    | brk => exact hq.elim
    | cont => exact hq.elim
theorem call_runK (g : CallOk P hd X k f d fr) (hf : hd.P.fn f = some d) (hr : Rm k X.A) (tk : Takes X Wx) {pins : List (Addr × Obj)} {s : Shared} {σ : L2.St} {H : Hp} {us kus : List Value} {vs kvs : List V} {Q : VK} {w : Wd} {m : M} {ws kws as : List W} {ks : List Str}
    (I : Inv X pins σ H s) (hm : MRel P X.K w H m) (hw : WsRel P X.K w H ws vs) (r : Vals vs us) (hkw : WsRel P X.K w H kws kvs) (rk : Vals kvs kus) (e : argsK d.ps ws (ks.zip kws) (d.dfl.map W.v) = some as) (p : Post P X.K (WRel P X.K) w H (hd.call f fr as m) Q (fun cls dd H' => Wx cls dd σ H')) :
    wpAny (model X.prog X.w) X.A (call (.ref (fA X.K d.at_)) us (ks.zip kus)) (EP X pins σ Q) X.xe s := wpAny_call (call_codeK g hf hr tk I hm hw r hkw rk e p)
/-- a new thing: how it stands before its __init__ -/
theorem made_rel {K : Fg} {c : Nat} {w : Wd} {H : Hp} {m : M} {x dx : Addr} (hm : MRel P K w H m) (hx : H x = none) (hdx : H dx = none) (ne : dx ≠ x) :
    Ext w H (w.own [x]) (upd (upd H dx (.own x)) x (.ins (ca P K c) dx [])) ∧ MRel P K (w.own [x]) (upd (upd H dx (.own x)) x (.ins (ca P K c) dx [])) (m ++ [.obj c []]) := by
  have hm1 : MRel P K w (upd H dx (.own x)) m := by
    obtain ⟨f1, f2⟩ := hm.fresh hdx
    have := hm.grow (H' := upd H dx (.own x)) (fro' := w.fro) (fun _ f => f) (fun a f => .of (upd_ne fun e => hm.some_ a f (by rw [e]; exact hdx))) (fun a ha => upd_ne fun e => f2 (e ▸ ha)) hm.dis (fun a f => by
      by_cases e : a = dx
      · rw [e] at f; exact absurd f f1
      · rw [upd_ne e]; exact hm.some_ a f) (fun a q => by rw [hm.pk_fresh hdx a q]; exact hm.hp_some q)
    exact this
  have x1 : Ext w H w (upd H dx (.own x)) := ⟨fun _ f => f, fun a f => .of (upd_ne fun e => hm.some_ a f (by rw [e]; exact hdx)), fun _ as e => ⟨as, e, fun _ q => q⟩, Eq.refl _, Eq.refl _, Eq.refl _, hm.pk_fresh hdx⟩
  have hx1 : upd H dx (.own x) x = none := by rw [upd_ne (Ne.symm ne)]; exact hx
  refine ⟨x1.trans (Ext.cell (o := .ins (ca P K c) dx []) hm1 hx1), hm1.cell hx1 ⟨x, [], dx, [], rfl, upd_same, Nat.zero_le _, by simp, ⟨rfl, rfl⟩⟩ rfl⟩
end
abbrev Wd.cut (w : Wd) (n : Nat) : Wd := { w with ow := w.ow.take n }
section
variable {P : Prog} {K : Fg} {w w' : Wd} {H H' : Hp} {m : M}
theorem flatten_cut (ow : List (List Addr)) (n : Nat) : ow.flatten = (ow.take n).flatten ++ (ow.drop n).flatten := by rw [← List.flatten_append, List.take_append_drop]
theorem MRel.take (h : MRel P K w H m) (n : Nat) : MRel P K (w.cut n) H (m.take n) where
  len := by
    show (w.ow.take n).length = _
    rw [List.length_take, List.length_take, h.len]
  at_ := fun k c as e1 e2 => by
    have hk : k < n := by
      have := (List.getElem?_eq_some_iff.mp e1).1
      rw [List.length_take] at this
      omega
    have e2' : (w.ow.take n)[k]? = some as := e2
    rw [List.getElem?_take_of_lt hk] at e1 e2'
    exact CRel.mono (w := w) (w' := w.cut n) (fun _ f => f) (fun _ _ => .rfl) (fun _ _ => rfl) (h.at_ k c as e1 e2')
  nd := by
    have := h.nd
    rw [flatten_cut w.ow n] at this
    exact (List.nodup_append.mp this).1
  dis := fun a ha => h.dis a (by rw [flatten_cut w.ow n]; exact List.mem_append_left _ ha)
  some_ := h.some_
  hid := fun a q => ⟨(h.hid a q).1, fun z => (h.hid a q).2.1 (by rw [flatten_cut w.ow n]; exact List.mem_append_left _ z), (h.hid a q).2.2⟩
  pro := h.pro
  lk := fun k c as e1 e2 hl => by
    have hk : k < n := by
      have := (List.getElem?_eq_some_iff.mp e1).1
      rw [List.length_take] at this
      omega
    have e2' : (w.ow.take n)[k]? = some as := e2
    rw [List.getElem?_take_of_lt hk] at e1 e2'
    exact h.lk k c as e1 e2' hl
  lk2 := fun k c as e1 e2 hl => by
    have hk : k < n := by
      have := (List.getElem?_eq_some_iff.mp e1).1
      rw [List.length_take] at this
      omega
    have e2' : (w.ow.take n)[k]? = some as := e2
    rw [List.getElem?_take_of_lt hk] at e1 e2'
    exact h.lk2 k c as e1 e2' hl
  xk := h.xk
theorem Ext.cut (x : Ext w H w' H') {n : Nat} (hn : w.ow.length ≤ n) : Ext w H (w'.cut n) H' :=
  ⟨x.fro, x.keep, fun k as e => by
    obtain ⟨as', h1, h2⟩ := x.ow k as e
    refine ⟨as', ?_, h2⟩
    show (w'.ow.take n)[k]? = _
    rw [List.getElem?_take_of_lt (Nat.lt_of_lt_of_le (List.getElem?_eq_some_iff.mp e).1 hn)]
    exact h1, x.xi, x.hid, x.prot, x.pk⟩
end
section
variable {P : Prog} {hd : Hd} {X : Cx} {k : Nat} {d : FnDef} {fr : Bool} {Wx : WX}
/-- a class is called: its __init__ is bound -/
theorem make_go {c i : Nat} {fd : FuncData} (hP : hd.P = P) (F : FnG X.prog X.w X.K X.mg X.base (L2.CX X.prog X.w) k (fA X.K d.at_) fd d.ps (spF P X.K hd.call i false d.ps.length)) (mk : Mk X.K (ca P X.K c) (fA X.K d.at_)) (hr : Rm (k + 1) X.A) (tk : Takes X Wx)
    {pins : List (Addr × Obj)} {s : Shared} {σ : L2.St} {H : Hp} {us zs : List Value} {xs : List V} {kw : List (Str × Value)} {Q : VK} {w : Wd} {m : M} {as : List W}
    (I : Inv X pins σ H s) (hm : MRel P X.K w H m)
    (hb : ∀ s' : Shared, X.K.In s'.heap → BindsTo s' fd ⟨.ref (s.heap.objs.size + 1) :: us, kw⟩ (d.ps.zip zs)) (r2 : Vals xs zs) (l2 : as.length = d.ps.length)
    (w2 : WsRel P X.K (w.own [s.heap.objs.size + 1]) (upd (upd H s.heap.objs.size (.own (s.heap.objs.size + 1))) (s.heap.objs.size + 1) (.ins (ca P X.K c) s.heap.objs.size [])) as xs)
    (p : Post P X.K (WRel P X.K) w H (mkGo hd i c fr as m) Q (fun cls dd H' => Wx cls dd σ H')) :
    wpAny (model X.prog X.w) X.A (call (.ref (ca P X.K c)) us kw) (EP X pins σ Q) X.xe s := by
  have nx : H (s.heap.objs.size + 1) = none := I.hok.fresh (Nat.le_succ _)
  have nd : H s.heap.objs.size = none := I.hok.fresh (Nat.le_refl _)
  have I2 := Inv.made (C := ca P X.K c) I
  obtain ⟨x1, M1⟩ := made_rel (c := c) hm nx nd (Nat.ne_of_lt (Nat.lt_succ_self _))
  have hn : w.ow.length = m.length := hm.len
  unfold mkGo at p
  refine wpAny_call (make_map (f := fA X.K d.at_) I.kIn mk.makes mk.init (beq_iff_eq.mp mk.fn) (codeAny_mono (F.run _ X.stack _ _ ⟨.ref (s.heap.objs.size + 1) :: us, kw⟩ zs xs
    (fun v H2 => v = .non ∧ Q (.ref (s.heap.objs.size + 1)) H2) (fun cls dd H' => Wx cls dd σ H') (hr.make (ca P X.K c) us kw) (I2.env0.make (ca P X.K c) us kw) (hb _ I2.kIn) r2 ⟨_, as, _, M1, w2, l2, ?_⟩) fun res s' hq => ?_))
  · cases ec : hd.call i false as (m ++ [C.obj c []]) with
    | bad => rw [ec] at p; exact p.elim
    | exc e fs m1 =>
      rw [ec] at p
      intro cls dd w' H' x' M' X'
      have xx : Ext w H (w'.cut m.length) H' := (x1.trans x').cut (Nat.le_of_eq hn)
      exact p cls dd (w'.cut m.length) H' xx (M'.take _) X'
    | ok z m1 =>
      rw [ec] at p
      intro v w' H' x' M' V'
      cases z with
      | v dz =>
        cases dz with
        | non =>
          refine ⟨WRel.non V', ?_⟩
          dsimp only at p
          obtain ⟨as', h1, h2⟩ := x'.ow m.length [s.heap.objs.size + 1] (by
            show (w.ow ++ [_])[m.length]? = _
            rw [← hn]
            simp)
          have wc : WRel P X.K w' H' (W.c m.length) (.ref (s.heap.objs.size + 1)) := ⟨as', h1, fun a q => by
            have := h2 a q
            cases this
            rfl⟩
          cases fr with
          | true =>
            rw [if_pos rfl] at p
            exact p _ w' H' (x1.trans x') M' wc
          | false =>
            rw [if_neg Bool.false_ne_true, hP] at p
            cases ef : fz P m1 (W.c m.length) with
            | none => rw [ef] at p; exact p.elim
            | some q =>
              obtain ⟨dz, m2⟩ := q
              rw [ef] at p
              obtain ⟨w3, x3, M3, D3⟩ := fz_rel M' wc ef
              exact p _ (w3.cut m.length) H' (((x1.trans x').trans x3).cut (Nat.le_of_eq hn)) (M3.take _) D3
        | _ => exact p.elim
      | _ => exact p.elim
  · cases res with
    | error er => exact passAt tk σ pins _ _ er s' I2 hq
    | ok fl =>
      cases fl with
      | ret u =>
        obtain ⟨v, H', I3, rv, ev, q3⟩ := I2.after hq
        subst ev
        exact ⟨rv, .ref (s.heap.objs.size + 1), H', I3, rfl, q3⟩
      | next => exact hq.elim
      | brk => exact hq.elim
      | cont => exact hq.elim
theorem made_self {c : Nat} {w : Wd} {H : Hp} {m : M} {x dx : Addr} {K : Fg} (hm : MRel P K w H m) : WRel P K (w.own [x]) (upd (upd H dx (.own x)) x (.ins (ca P K c) dx [])) (W.c m.length) (.ref x) := by
  refine ⟨[x], ?_, fun a q => by cases q; rfl⟩
  show (w.ow ++ [_])[m.length]? = _
  rw [← hm.len]
  simp
/-- a class is called -/
theorem make_run {c : Nat} {cd : ClsDef} (hP : hd.P = P) (hc : P.cls[c]? = some cd) (hf : P.fn cd.init = some d) (g : CallOk P hd X k cd.init d false) (mk : Mk X.K (ca P X.K c) (fA X.K d.at_)) (hr : Rm (k + 1) X.A) (tk : Takes X Wx)
    {pins : List (Addr × Obj)} {s : Shared} {σ : L2.St} {H : Hp} {us : List Value} {vs : List V} {Q : VK} {w : Wd} {m : M} {ws : List W}
    (I : Inv X pins σ H s) (hm : MRel P X.K w H m) (hw : WsRel P X.K w H ws vs) (r : Vals vs us) (p : Post P X.K (WRel P X.K) w H (mkObj hd c fr ws m) Q (fun cls dd H' => Wx cls dd σ H')) :
    wpAny (model X.prog X.w) X.A (call (.ref (ca P X.K c)) us) (EP X pins σ Q) X.xe s := by
  obtain ⟨fd, dvs, its, F, rd, hdl, hb, hbk⟩ := g.ex
  unfold mkObj at p
  rw [hP, hc] at p
  dsimp only at p
  cases ea : fnArgs P cd.init (W.c m.length :: ws) with
  | none => rw [ea] at p; exact p.elim
  | some as =>
    rw [ea] at p
    dsimp only at p
    have nx : H (s.heap.objs.size + 1) = none := I.hok.fresh (Nat.le_succ _)
    have nd : H s.heap.objs.size = none := I.hok.fresh (Nat.le_refl _)
    obtain ⟨x1, M1⟩ := made_rel (c := c) hm nx nd (Nat.ne_of_lt (Nat.lt_succ_self _))
    have ws1 := WsRel.cons (made_self (c := c) (x := s.heap.objs.size + 1) (dx := s.heap.objs.size) hm) (hw.mono x1)
    unfold fnArgs at ea
    rw [hf] at ea
    obtain ⟨xs, zs, e2, r2, w2, l2⟩ := args_rel (us := .ref (s.heap.objs.size + 1) :: us) ws1 (hdl _ _) (.cons rfl r) rd ea
    exact make_go hP F mk hr tk I hm (fun s' kx => hb s' _ zs kx e2) r2 l2 w2 p
/-- .. with keywords -/
theorem make_runK {c : Nat} {cd : ClsDef} (hP : hd.P = P) (hc : P.cls[c]? = some cd) (hf : P.fn cd.init = some d) (nd' : d.ps.Nodup) (g : CallOk P hd X k cd.init d false) (mk : Mk X.K (ca P X.K c) (fA X.K d.at_)) (hr : Rm (k + 1) X.A) (tk : Takes X Wx)
    {pins : List (Addr × Obj)} {s : Shared} {σ : L2.St} {H : Hp} {us kus : List Value} {vs kvs : List V} {Q : VK} {w : Wd} {m : M} {ws kws : List W} {ks : List Str}
    (I : Inv X pins σ H s) (hm : MRel P X.K w H m) (hw : WsRel P X.K w H ws vs) (r : Vals vs us) (hkw : WsRel P X.K w H kws kvs) (rk : Vals kvs kus) (p : Post P X.K (WRel P X.K) w H (mkObjK hd c ws ks kws m) Q (fun cls dd H' => Wx cls dd σ H')) :
    wpAny (model X.prog X.w) X.A (call (.ref (ca P X.K c)) us (ks.zip kus)) (EP X pins σ Q) X.xe s := by
  obtain ⟨fd, dvs, its, F, rd, hdl, hb, hbk⟩ := g.ex
  unfold mkObjK at p
  rw [hP, hc] at p
  dsimp only at p
  cases ea : fnArgsK P cd.init (W.c m.length :: ws) ks kws with
  | none => rw [ea] at p; exact p.elim
  | some as =>
    rw [ea] at p
    dsimp only at p
    have nx : H (s.heap.objs.size + 1) = none := I.hok.fresh (Nat.le_succ _)
    have nd : H s.heap.objs.size = none := I.hok.fresh (Nat.le_refl _)
    obtain ⟨x1, M1⟩ := made_rel (c := c) hm nx nd (Nat.ne_of_lt (Nat.lt_succ_self _))
    have ws1 := WsRel.cons (made_self (c := c) (x := s.heap.objs.size + 1) (dx := s.heap.objs.size) hm) (hw.mono x1)
    unfold fnArgsK at ea
    rw [hf] at ea
    dsimp only at ea
    have r' : Vals (V.ref (s.heap.objs.size + 1) :: vs) (Value.ref (s.heap.objs.size + 1) :: us) := .cons rfl r
    obtain ⟨zs, e2, pz⟩ := argsK_rel (F := WV P X.K _ _) (ks := ks) (wv_of ws1 r') (wv_of (hkw.mono x1) rk) (wv_of (hdl _ _).ws rd) ea
    obtain ⟨xs, w2, r2⟩ := of_wv pz
    exact make_go hP F mk hr tk I hm (fun s' kx => hbk s' _ zs _ kx e2) r2 (argsK_ok nd' ea).2.2.2.1.symm w2 p
end
end MP
end
section
set_option  maxHeartbeats  4000000
/-! Operators of own classes. -/
namespace MP
open PySem PySem.Spec PyProof.Rows L2
/-- a builtin type's name, of data -/
def tyName : D → Option String
  | .non => some "NoneType"
  | .bl _ => some "bool"
  | .int _ => some "int"
  | .str _ => some "str"
  | .lst _ => some "list"
  | .tup _ => some "tuple"
  | .dct _ => some "dict"
  | _ => none
section
variable {P : Prog} {K : Fg} {H : Hp} {w : Wd} {v : V}
/-- the type of data, as it stands -/
theorem tyx {d : D} (h : Vw P K w H d v) {T : String} (e : tyName d = some T) : TyX K H v (.type T) := by
  cases d with
  | non => cases e; cases Vw.non h; exact .base .non
  | bl b => cases e; cases Vw.bl h; exact .base (.bl b)
  | int i => cases e; cases Vw.int h; exact .base (.int i)
  | str x => cases e; cases Vw.str h; exact .base (.str _)
  | lst xs =>
    cases e
    obtain ⟨a, vs, rfl, q, l⟩ := h
    rcases q with q | ⟨o, q⟩
    · exact .base (.lst q)
    · exact .base (.frz q)
  | tup xs =>
    cases e
    obtain ⟨a, vs, rfl, q, l⟩ := h
    rcases q with (q | ⟨o, q⟩) | ⟨o, its, n, q, hc, _⟩
    · exact .base (.tup q)
    · exact .fTuple q
    · exact .kTuple q hc
  | dct xs =>
    cases e
    obtain ⟨a, rfl, q⟩ := h
    rcases q with ⟨kv, q | ⟨o, q⟩, l⟩ | ⟨kv, q, l⟩
    · exact .base (.dK q)
    · exact .fDict q
    · exact .base (.dT q)
  | _ => cases e
end
/-- what is known of an own class -/
structure ClsF (P : Prog) (K : Fg) (c : Nat) : Prop where
  cl : Cls K (ca P K c)
  sf : PySem.W.selfFirst K (ca P K c) = true
  ca_ : PySem.W.findIn K (.ref (ca P K c)) "__class__" = some (some (.builtin "object.__class__"))
  cn : PySem.W.specialIn K (.builtin "object.__class__") "__get__" = some (some (.builtin "getset_descriptor.__get__"))
  ct : PySem.W.takesIn K (.builtin "object.__class__") = some true
  cm : PySem.W.mroIn K (ca P K c) (.type "object") = some true
  nf : ∀ T ∈ ["NoneType", "bool", "int", "str", "list", "tuple", "dict"], PySem.W.subIn K (.type T) (.ref (ca P K c)) = some false
section
variable {P : Prog} {X : Cx} {pins : List (Addr × Obj)} {s : Shared} {σ : L2.St} {H : Hp} {w : Wd} {m : M} {v : V} {u : Value}
theorem ClsF.ty {K : Fg} {c : Nat} {fs : List D} (F : ClsF P K c) (h : Dat P K w.fro H (.obj c fs) v) : TyX K H v (.ref (ca P K c)) := by
  obtain ⟨a, dx, vs, rfl, f, q, n, l⟩ := Dat.obj_iff.mp h
  exact .base (.ins q F.cl F.ca_ F.cn F.ct F.cm)
theorem looks_of {t : Value} (I : Inv X pins σ H s) (r : RelV v u) (h : TyX X.K H v t) : PySem.W.Looks (model X.prog X.w) s.heap (typeOf u) t := by
  obtain ⟨Z, k, z, _⟩ := kit_of I r h
  exact k.ty _ _ I.kIn z
theorem ty_mem {d : D} {T : String} (e : tyName d = some T) : T ∈ ["NoneType", "bool", "int", "str", "list", "tuple", "dict"] := by
  cases d <;> cases e <;> decide
/-- the instance behind an own thing -/
theorem obj_inst {c : Nat} {fs : List D} (I : Inv X pins σ H s) (r : RelV v u) (h : Dat P X.K w.fro H (.obj c fs) v) : ∃ a dx od, v = .ref a ∧ u = .ref a ∧ PySem.W.InstAt s.heap a (PySem.W.instObj (ca P X.K c) dx) (ca P X.K c) (some od) := by
  obtain ⟨a, dx, vs, rfl, f, q, n, l⟩ := Dat.obj_iff.mp h
  cases r
  obtain ⟨mA, O, _⟩ := ins_get I.hok q
  obtain ⟨od, J, _⟩ := O.look
  exact ⟨a, dx, od, rfl, rfl, J⟩
/-- what stands on the right of an own operator -/
inductive Rhs (P : Prog) (K : Fg) (w : Wd) (H : Hp) (c : Nat) (v : V) : Value → Prop where
  | same {fs : List D} : Dat P K w.fro H (.obj c fs) v → Rhs P K w H c v (.ref (ca P K c))
  | flat {d : D} {T : String} : Vw P K w H d v → tyName d = some T → Rhs P K w H c v (.type T)
theorem Rhs.ty {c : Nat} {t : Value} (F : ClsF P X.K c) (I : Inv X pins σ H s) (r : RelV v u) (h : Rhs P X.K w H c v t) : PySem.W.Looks (model X.prog X.w) s.heap (typeOf u) t ∧ PySem.W.notFirst X.K (ca P X.K c) t = true := by
  cases h with
  | same h =>
    refine ⟨looks_of I r (F.ty h), ?_⟩
    unfold PySem.W.notFirst
    simp
  | flat h e =>
    refine ⟨looks_of I r (tyx h e), ?_⟩
    unfold PySem.W.notFirst
    rw [F.nf _ (ty_mem e)]
    simp
end
section
variable {P : Prog} {hd : Hd} {X : Cx} {k f : Nat} {d : FnDef} {Wx : WX} {pins : List (Addr × Obj)} {s : Shared} {σ : L2.St} {H : Hp} {w : Wd} {m : M} {c : Nat} {fs : List D} {x y : V} {v u : Value} {Q : VK} {b : W}
/-- x op y by an own def (==, <, <=) -/
theorem cmp_own {op : CmpOp} {t : Value} (F : ClsF P X.K c) (hP : hd.P = P) (hf : P.fn f = some d) (g : CallOk P hd X k f d false) (hr : Rm k X.A) (tk : Takes X Wx)
    (hs : PySem.W.findIn X.K (.ref (ca P X.K c)) (cmpInfo op).2.1 = some (some (.ref (fA X.K d.at_)))) (hfn : PySem.W.isFn X.K (.ref (fA X.K d.at_)) = true)
    (I : Inv X pins σ H s) (rx : RelV x v) (ry : RelV y u) (hm : MRel P X.K w H m) (hx : WRel P X.K w H (.v (.obj c fs)) x) (hb : WRel P X.K w H b y) (hrhs : Rhs P X.K w H c y t) {as : List W}
    (ea : fnArgs P f [.v (.obj c fs), b] = some as) (p : Post P X.K (WRel P X.K) w H (hd.call f false as m) Q (fun cls dd H' => Wx cls dd σ H')) :
    wpAny (model X.prog X.w) X.A (richCompare op v u) (EP X pins σ Q) X.xe s := by
  obtain ⟨a, dx, od, rfl, rfl, J⟩ := obj_inst I rx hx
  obtain ⟨mF, hF⟩ := I.fr
  obtain ⟨L, N⟩ := hrhs.ty F I ry
  refine PySem.W.cmp_K hr.rm.units0 hF I.ok.mod.kin J L N hs hfn ?_
  refine thn (call_run g (by rw [hP]; exact hf) hr tk I hm (WsRel.cons hx (WsRel.cons hb WsRel.nil)) (.cons rx (.cons ry .nil)) (by rw [hP]; exact ea) p) fun z s' hz => ?_
  obtain ⟨z', H', I', rz, qz⟩ := hz
  exact SlX.cmpback rz ⟨z', H', I', rz, qz⟩
/-- -x by an own def -/
theorem neg_own (hP : hd.P = P) (hf : P.fn f = some d) (g : CallOk P hd X k f d false) (hr : Rm k X.A) (tk : Takes X Wx)
    (hs : PySem.W.findIn X.K (.ref (ca P X.K c)) "__neg__" = some (some (.ref (fA X.K d.at_)))) (hfn : PySem.W.isFn X.K (.ref (fA X.K d.at_)) = true)
    (I : Inv X pins σ H s) (rx : RelV x v) (hm : MRel P X.K w H m) (hx : WRel P X.K w H (.v (.obj c fs)) x) {as : List W}
    (ea : fnArgs P f [.v (.obj c fs)] = some as) (p : Post P X.K (WRel P X.K) w H (hd.call f false as m) Q (fun cls dd H' => Wx cls dd σ H')) :
    wpAny (model X.prog X.w) X.A (unaryOp .USub v) (EP X pins σ Q) X.xe s := by
  obtain ⟨a, dx, od, rfl, rfl, J⟩ := obj_inst I rx hx
  obtain ⟨mF, hF⟩ := I.fr
  exact PySem.W.ksp_neg hF I.ok.mod.kin J hs hfn (call_run g (by rw [hP]; exact hf) hr tk I hm (WsRel.cons hx WsRel.nil) (.cons rx .nil) (by rw [hP]; exact ea) p)
/-- x op y by an own def (+, -, *): y of the same class -/
theorem bin_same {op : Operator} {gs : List D} (F : ClsF P X.K c) (hP : hd.P = P) (hf : P.fn f = some d) (g : CallOk P hd X k f d false) (hr : Rm k X.A) (tk : Takes X Wx)
    (hs : PySem.W.findIn X.K (.ref (ca P X.K c)) (PySem.dunder op.info.2) = some (some (.ref (fA X.K d.at_)))) (hfn : PySem.W.isFn X.K (.ref (fA X.K d.at_)) = true)
    (I : Inv X pins σ H s) (rx : RelV x v) (ry : RelV y u) (hm : MRel P X.K w H m) (hx : WRel P X.K w H (.v (.obj c fs)) x) (hy : WRel P X.K w H (.v (.obj c gs)) y) {as : List W}
    (ea : fnArgs P f [.v (.obj c fs), .v (.obj c gs)] = some as) (p : Post P X.K (WRel P X.K) w H (hd.call f false as m) Q (fun cls dd H' => Wx cls dd σ H')) :
    wpAny (model X.prog X.w) X.A (binaryOp op v u) (EP X pins σ Q) X.xe s := by
  obtain ⟨a, dx, od, rfl, rfl, J⟩ := obj_inst I rx hx
  obtain ⟨mF, hF⟩ := I.fr
  refine PySem.W.binop_K hF I.ok.mod.kin J (looks_of I ry (F.ty hy)) F.sf hs hfn ?_
  refine thn (call_run g (by rw [hP]; exact hf) hr tk I hm (WsRel.cons hx (WsRel.cons hy WsRel.nil)) (.cons rx (.cons ry .nil)) (by rw [hP]; exact ea) p) fun z s' hz => ?_
  obtain ⟨z', H', I', rz, qz⟩ := hz
  exact SlX.cmpback rz ⟨z', H', I', rz, qz⟩
/-- .. y an int -/
theorem bin_int {op : Operator} {i : Int} {fo ro : Option Value} (F : ClsF P X.K c) (hP : hd.P = P) (hf : P.fn f = some d) (g : CallOk P hd X k f d false) (hr : Rm k X.A) (tk : Takes X Wx)
    (hs : PySem.W.findIn X.K (.ref (ca P X.K c)) (PySem.dunder op.info.2) = some (some (.ref (fA X.K d.at_)))) (hfn : PySem.W.isFn X.K (.ref (fA X.K d.at_)) = true)
    (hrr : PySem.W.findIn X.K (.ref (ca P X.K c)) (dunderR op.info.2) = some none) (h1 : PySem.W.findIn X.K (.type "int") (PySem.dunder op.info.2) = some fo) (h2 : PySem.W.findIn X.K (.type "int") (dunderR op.info.2) = some ro)
    (I : Inv X pins σ H s) (rx : RelV x v) (ry : RelV y u) (hm : MRel P X.K w H m) (hx : WRel P X.K w H (.v (.obj c fs)) x) (hy : WRel P X.K w H (.v (.int i)) y) {as : List W}
    (ea : fnArgs P f [.v (.obj c fs), .v (.int i)] = some as) (p : Post P X.K (WRel P X.K) w H (hd.call f false as m) Q (fun cls dd H' => Wx cls dd σ H')) :
    wpAny (model X.prog X.w) X.A (binaryOp op v u) (EP X pins σ Q) X.xe s := by
  obtain ⟨a, dx, od, rfl, rfl, J⟩ := obj_inst I rx hx
  obtain ⟨mF, hF⟩ := I.fr
  have ey := WRel.int hy
  subst ey
  obtain ⟨t, rfl⟩ := id ry
  refine PySem.W.ksp_binT (T := "int") hF I.ok.mod.kin J rfl F.sf hs hfn hrr (.inl rfl) h1 h2 (F.nf "int" (by decide)) ?_
  refine thn (call_run g (by rw [hP]; exact hf) hr tk I hm (WsRel.cons hx (WsRel.cons hy WsRel.nil)) (.cons rx (.cons ry .nil)) (by rw [hP]; exact ea) p) fun z s' hz => ?_
  obtain ⟨z', H', I', rz, qz⟩ := hz
  exact SlX.cmpback rz ⟨z', H', I', rz, qz⟩
end
end MP
end
section
set_option  maxHeartbeats  4000000
/-! != by an own ==; comparisons of data. -/
namespace MP
open PySem PySem.Spec PyProof.Rows L2
section
variable {prog : Program} {w : World} {A : Around} {E : Value → Shared → Prop} {s : Shared} {K : Fg} {x C f : Addr} {ox : Obj} {od : Option Obj} {b tb : Value} {Q : Value → Shared → Prop}
theorem bind_ne (self : Value) : bindSpecial (.builtin "object.__ne__") self = pure (.builtin "object.__ne__", [self]) := by kernel_rfl
/-- a special method that is a builtin of object -/
theorem bound_B {id : String} {name : Str} {args : List Value} {R : Option Value → Shared → Prop} (KX : K.In s.heap) (J : PySem.W.InstAt s.heap x ox C od) (hs : PySem.W.findIn K (.ref C) name = some (some (.builtin id)))
    (hb : bindSpecial (.builtin id) (.ref x) = pure (.builtin id, [.ref x])) (h : wpAny (model prog w) A (call (.builtin id) (.ref x :: args)) (fun v => R (some v)) E s) :
    wpAny (model prog w) A (callSpecialIfBound? (.ref x) name args) R E s := by
  have fin : wpAny (model prog w) A (call (.builtin id) ([.ref x] ++ args) >>= fun v => pure (some v)) R E s := wpAny_bind (wpAny_mono h (fun _ _ q => wpAny_pure q) fun _ _ q => q)
  simp only [callSpecialIfBound?, bindSpecialIfBound?]
  refine wpAny_holding (wpAny_bind (wpAny_bind (wpAny_bind (J.type.here ((PySem.W.looks_findIn KX hs).here ?_)))))
  refine wpAny_bind (wpAny_askSetting (wpAny_ite ?_))
  simp only [hb]
  split
  · exact wpAny_bind (wpAny_pure (wpAny_pure fin))
  · exact wpAny_tryCatch (wpAny_bind (wpAny_pure (wpAny_pure fin)))
/-- the body of object.__ne__ -/
theorem ne_body (hu : A.units < cLine) (KX : K.In s.heap) (J : PySem.W.InstAt s.heap x ox C od) (hs : PySem.W.findIn K (.ref C) "__eq__" = some (some (.ref f))) (hf : PySem.W.isFn K (.ref f) = true) {R : Fin → Shared → Prop}
    (h : wpAny (model prog w) A (call (.ref f) [.ref x, b]) (fun v s' => ∃ r, v = .bool r ∧ R (.done (.ret (.bool (!r)))) s') E s) :
    wpAny (model prog w) A (Builtin.«object.__ne__» ⟨[.ref x, b], []⟩) R E s := by
  unfold Builtin.«object.__ne__»
  refine wpAny_bind (wpAny_pure ?_)
  refine wpAny_bind (wpAny_cRoomFor hu ?_)
  refine wpAny_bind (PySem.W.ifBound_K KX J hs hf (wpAny_mono h (fun v s' hv => ?_) fun _ _ q => q))
  obtain ⟨r, rfl, q⟩ := hv
  exact wpAny_bind (wpAny_truthy_bool (wpAny_pure q))
theorem ne_K2 (hu : A.units + 1 < cLine) (KX : K.In s.heap) (J : PySem.W.InstAt s.heap x ox C od) (hb : PySem.W.Looks (model prog w) s.heap (typeOf b) tb) (hn : PySem.W.notFirst K C tb = true) (hm : PySem.W.mroIn K C (.type "object") = some true)
    (hne : PySem.W.findIn K (.ref C) "__ne__" = some (some (.builtin "object.__ne__"))) (hs : PySem.W.findIn K (.ref C) "__eq__" = some (some (.ref f))) (hf : PySem.W.isFn K (.ref f) = true)
    (h : wpAny (model prog w) A.in1 (call (.ref f) [.ref x, b]) (fun v s' => ∃ r, v = .bool r ∧ Q (.bool (!r)) s') E s) : wpAny (model prog w) A (richCompare .NotEq (.ref x) b) Q E s := by
  have sub : PySem.W.Looks (model prog w) s.heap (isInstance (.ref x) (.type "object")) true := J.type.andThen (PySem.W.looks_mroIn KX hm)
  have one : wpAny (model prog w) A (tryCompare (.ref x) "__ne__" b) (fun r s' => ∃ v, r = some v ∧ Q v s') E s := by
    unfold tryCompare
    refine wpAny_bind (bound_B KX J hne (bind_ne _) (wpAny_call (codeAny_call_builtin (by decide +kernel) F.cmpEntry_ne (PySem.W.check_slot F.cmpKind_ne F.cmpSplit_ne sub (F.cmpArgs_ne _ _) ?_))))
    refine ne_body (A := A.in1) hu KX J hs hf (wpAny_mono h (fun v s' hv => ?_) fun _ _ q => q)
    obtain ⟨r, e, q⟩ := hv
    exact ⟨r, e, wpAny_pure ⟨_, rfl, q⟩⟩
  unfold richCompare
  simp only [oneThing_ref]
  refine wpAny_holding (wpAny_bind (wpAny_cRoomFor (Nat.lt_of_succ_lt hu) ?_))
  refine wpAny_bind (J.type.here (wpAny_bind (hb.here ?_)))
  have tail : wpAny (model prog w) A (tryCompare (.ref x) "__ne__" b) (fun r s' => match r with | some v => Q v s' | none => False) E s := wpAny_mono one (fun r s' z => by obtain ⟨v, rfl, q⟩ := z; exact q) fun _ _ q => q
  split
  · rename_i q
    have e : PySem.W.subIn K tb (.ref C) = some false := by
      rcases Bool.or_eq_true_iff.mp hn with z | z
      · rw [beq_iff_eq.mp z] at q; simp at q
      · exact beq_iff_eq.mp z
    refine wpAny_bind ((PySem.W.looks_subIn KX e).here ?_)
    simp only [Bool.false_eq_true, if_false]
    refine wpAny_bind (wpAny_mono tail (fun r s' z => ?_) fun _ _ q => q)
    cases r with
    | none => exact z.elim
    | some v => exact wpAny_pure z
  · refine wpAny_bind (wpAny_pure ?_)
    simp only [Bool.false_eq_true, if_false]
    refine wpAny_bind (wpAny_mono tail (fun r s' z => ?_) fun _ _ q => q)
    cases r with
    | none => exact z.elim
    | some v => exact wpAny_pure z
end
end MP
end
section
set_option  maxHeartbeats  4000000
/-! Comparisons of data. -/
namespace MP
open PySem PySem.Spec PyProof.Rows L2
theorem ts_inj {x y : Sg} (h : ts x = ts y) : x = y := by
  have : (ts x).cps.toList = (ts y).cps.toList := by rw [h]
  simpa [ts] using this
theorem ts_beq (x y : Sg) : (x == y) = (ts x == ts y) := by
  by_cases e : x = y
  · subst e; simp
  · have e2 : ¬ ts x = ts y := fun q => e (ts_inj q)
    rw [beq_eq_false_iff_ne.mpr e, beq_eq_false_iff_ne.mpr e2]
mutual
theorem eqB_py : ∀ (n k : Nat) (a b : D), plain n a = true → plain k b = true → eqB a b = PyData.eqv (toPy a) (toPy b)
  | n, k, .non, b, _, hb => by cases b <;> simp [eqB, toPy, PyData.eqv] <;> simp [plain] at hb
  | n, k, .bl x, b, _, hb => by cases b <;> simp [eqB, toPy, PyData.eqv, b2i] <;> simp [plain] at hb
  | n, k, .int x, b, _, hb => by cases b <;> simp [eqB, toPy, PyData.eqv, b2i] <;> simp [plain] at hb
  | n, k, .str x, b, _, hb => by
    cases b with
    | str y => simp only [eqB, toPy, PyData.eqv]; exact ts_beq x y
    | _ => first | (simp [eqB, toPy, PyData.eqv]; done) | (simp [plain] at hb)
  | n, k, .lst xs, b, ha, hb => by
    cases b with
    | lst ys =>
      cases n with
      | zero => simp [plain] at ha
      | succ n =>
        cases k with
        | zero => simp [plain] at hb
        | succ k =>
          simp only [eqB, toPy, PyData.eqv]
          exact eqBs_py n k xs ys (by simpa [plain] using ha) (by simpa [plain] using hb)
    | _ => first | (simp [eqB, toPy, PyData.eqv]; done) | (simp [plain] at hb)
  | n, k, .tup xs, b, ha, hb => by
    cases b with
    | tup ys =>
      cases n with
      | zero => simp [plain] at ha
      | succ n =>
        cases k with
        | zero => simp [plain] at hb
        | succ k =>
          simp only [eqB, toPy, PyData.eqv]
          exact eqBs_py n k xs ys (by simpa [plain] using ha) (by simpa [plain] using hb)
    | _ => first | (simp [eqB, toPy, PyData.eqv]; done) | (simp [plain] at hb)
  | n, k, .dct _, b, ha, _ => by cases n <;> simp [plain] at ha
  | n, k, .obj _ _, b, ha, _ => by cases n <;> simp [plain] at ha
  | n, k, .cls _, b, ha, _ => by cases n <;> simp [plain] at ha
theorem eqBs_py : ∀ (n k : Nat) (xs ys : List D), plainL n xs = true → plainL k ys = true → eqBs xs ys = PyData.eqvAll (toPys xs) (toPys ys)
  | n, k, [], [], _, _ => by simp [eqBs, toPys, PyData.eqvAll]
  | n, k, [], _ :: _, _, _ => by simp [eqBs, toPys, PyData.eqvAll]
  | n, k, _ :: _, [], _, _ => by simp [eqBs, toPys, PyData.eqvAll]
  | n, k, x :: xs, y :: ys, ha, hb => by
    simp only [plainL, Bool.and_eq_true] at ha hb
    simp only [eqBs, toPys, PyData.eqvAll]
    rw [eqB_py n k x y ha.1 hb.1, eqBs_py n k xs ys ha.2 hb.2]
end
mutual
theorem plain_py : ∀ (n : Nat) (d : D), plain n d = true → (toPy d).canLay0 = true ∧ (toPy d).depth ≤ n
  | n, .non, _ => by simp [toPy, PyData.canLay0, PyData.depth]
  | n, .bl _, _ => by simp [toPy, PyData.canLay0, PyData.depth]
  | n, .int _, _ => by simp [toPy, PyData.canLay0, PyData.depth]
  | n, .str x, h => by
    have h' : (x.all fun c => decide (c < 1114112)) = true := by simpa [plain] using h
    refine ⟨?_, by simp [toPy, PyData.depth]⟩
    simp only [toPy, PyData.canLay0, PyData.strOk, ts]
    simpa using h'
  | 0, .lst xs, h => by simp [plain] at h
  | 0, .tup xs, h => by simp [plain] at h
  | n + 1, .lst xs, h => by
    have q := plainL_py n xs (by simpa [plain] using h)
    simp only [toPy, PyData.canLay0, PyData.depth]
    exact ⟨q.1, by omega⟩
  | n + 1, .tup xs, h => by
    have q := plainL_py n xs (by simpa [plain] using h)
    simp only [toPy, PyData.canLay0, PyData.depth]
    exact ⟨q.1, by omega⟩
  | n, .dct _, h => by cases n <;> simp [plain] at h
  | n, .obj _ _, h => by cases n <;> simp [plain] at h
  | n, .cls _, h => by cases n <;> simp [plain] at h
theorem plainL_py : ∀ (n : Nat) (ds : List D), plainL n ds = true → PyData.canLayAll0 (toPys ds) = true ∧ PyData.depthAll (toPys ds) ≤ n
  | n, [], _ => by simp [toPys, PyData.canLayAll0, PyData.depthAll]
  | n, d :: ds, h => by
    simp only [plainL, Bool.and_eq_true] at h
    have q1 := plain_py n d h.1
    have q2 := plainL_py n ds h.2
    simp only [toPys, PyData.canLayAll0, PyData.depthAll, q1.1, q2.1, Bool.and_self]
    exact ⟨trivial, by omega⟩
end
section
variable {P : Prog} {K : Fg} {w : Wd} {H : Hp}
mutual
theorem dat_dp : ∀ (n : Nat) (d : D) (v : V), plain n d = true → Dat P K w.fro H d v → Dp K H v (toPy d)
  | n, .non, v, _, h => by cases Dat.non_iff.mp h; simp only [toPy]; exact .non
  | n, .bl b, v, _, h => by cases Dat.bl_iff.mp h; simp only [toPy]; exact .bl b
  | n, .int i, v, _, h => by cases Dat.int_iff.mp h; simp only [toPy]; exact .int i
  | n, .str x, v, _, h => by cases Dat.str_iff.mp h; simp only [toPy]; exact .str _
  | 0, .lst xs, v, p, h => by simp [plain] at p
  | 0, .tup xs, v, p, h => by simp [plain] at p
  | n + 1, .lst xs, v, p, h => by
    obtain ⟨a, vs, rfl, f, q, l⟩ := Dat.lst_iff.mp h
    simp only [toPy]
    exact .lst (SqL.of q) (datL_dp n xs vs (by simpa [plain] using p) l)
  | n + 1, .tup xs, v, p, h => by
    obtain ⟨a, vs, rfl, q, l⟩ := Dat.tup_iff.mp h
    simp only [toPy]
    refine .tup ?_ (datL_dp n xs vs (by simpa [plain] using p) l)
    rcases q with ⟨f, q⟩ | q
    · exact SqT.of q
    · exact .inr q
  | n, .dct _, v, p, h => by cases n <;> simp [plain] at p
  | n, .obj _ _, v, p, h => by cases n <;> simp [plain] at p
  | n, .cls _, v, p, h => by cases n <;> simp [plain] at p
theorem datL_dp : ∀ (n : Nat) (ds : List D) (vs : List V), plainL n ds = true → DatL P K w.fro H ds vs → DpAll K H vs (toPys ds)
  | n, [], vs, _, h => by
    unfold DatL at h
    subst h
    simp only [toPys]
    exact .nil
  | n, d :: ds, vs, p, h => by
    simp only [plainL, Bool.and_eq_true] at p
    unfold DatL at h
    obtain ⟨v, r, rfl, h1, h2⟩ := h
    simp only [toPys]
    exact .cons (dat_dp n d v p.1 h1) (datL_dp n ds r p.2 h2)
end
theorem vw_dp {n : Nat} {d : D} {v : V} (p : plain n d = true) (h : Vw P K w H d v) : Dp K H v (toPy d) := by
  cases d with
  | lst xs =>
    obtain ⟨a, vs, rfl, q, l⟩ := h
    cases n with
    | zero => simp [plain] at p
    | succ n =>
      simp only [toPy]
      exact .lst (.inl q) (datL_dp n xs vs (by simpa [plain] using p) l)
  | tup xs =>
    obtain ⟨a, vs, rfl, q, l⟩ := h
    cases n with
    | zero => simp [plain] at p
    | succ n =>
      simp only [toPy]
      exact .tup q (datL_dp n xs vs (by simpa [plain] using p) l)
  | dct kvs => cases n <;> simp [plain] at p
  | _ => exact dat_dp (P := P) (w := w) n _ v p h
theorem shaped_of {n : Nat} {d : D} (p : plain n d = true) (hn : n ≤ 60) : SeqAt.shaped (toPy d) = true := by
  obtain ⟨h1, h2⟩ := plain_py n d p
  unfold SeqAt.shaped
  rw [h1, decide_eq_true (show (toPy d).depth ≤ 64 by omega)]
  rfl
theorem any_py {n : Nat} {x : D} (px : plain 50 x = true) : ∀ {ys : List D}, plainL n ys = true → (ys.any fun y => eqB y x) = ((toPys ys).any fun z => PyData.eqv z (toPy x))
  | [], _ => by simp [toPys]
  | y :: ys, p => by
    simp only [plainL, Bool.and_eq_true] at p
    simp only [toPys, List.any_cons]
    rw [eqB_py n 50 y x p.1 px, any_py px p.2]
end
def COp.py : COp → CmpOp
  | .eq => .Eq | .ne => .NotEq | .lt => .Lt | .le => .LtE | .gt => .Gt | .ge => .GtE | .mem => .In | .nmem => .NotIn
section
variable {P : Prog} {X : Cx} {pins : List (Addr × Obj)} {s : Shared} {σ : L2.St} {H : Hp} {x y : V} {v u : Value} {Q : VK} {w : Wd} {m : M} {d1 d2 : D} {b : Bool} {Wy : Value → Option Addr → Hp → Prop}
theorem ts_lt (a b : Sg) : decide ((ts a).cps.toList < (ts b).cps.toList) = ltS a b := by
  unfold ltS
  exact decide_eq_decide.mpr (by simp [ts])
theorem key_rel {d : D} {k : DKey} (h : Vw P X.K w H d x) (e : keyOf d = some k) : (∃ a, k = .k a ∧ x = kV a.key) ∨ ∃ l p, k = .t l ∧ x = .ref p ∧ (∃ vs, SqT X.K H p vs ∧ vs = (l.map DK.key).map kV) := by
  cases d with
  | int i => cases e; cases Vw.int h; exact .inl ⟨_, rfl, rfl⟩
  | str z => cases e; cases Vw.str h; exact .inl ⟨_, rfl, rfl⟩
  | tup xs =>
    obtain ⟨a, vs, rfl, q, l⟩ := h
    dsimp only [keyOf] at e
    cases hk : keyL xs with
    | none => rw [hk] at e; cases e
    | some ks =>
      rw [hk] at e
      cases e
      refine .inr ⟨ks, a, rfl, rfl, vs, q, ?_⟩
      clear q
      induction xs generalizing ks vs with
      | nil =>
        cases hk
        unfold DatL at l
        exact l
      | cons z xs ih =>
        unfold DatL at l
        obtain ⟨v0, r, rfl, l1, l2⟩ := l
        cases z with
        | int i =>
          dsimp only [keyL] at hk
          cases h2 : keyL xs with
          | none => rw [h2] at hk; cases hk
          | some ks2 =>
            rw [h2] at hk
            cases hk
            rw [ih r l2 ks2 h2, Dat.int_iff.mp l1]
            rfl
        | str i =>
          dsimp only [keyL] at hk
          cases h2 : keyL xs with
          | none => rw [h2] at hk; cases hk
          | some ks2 =>
            rw [h2] at hk
            cases hk
            rw [ih r l2 ks2 h2, Dat.str_iff.mp l1]
            rfl
        | _ => cases hk
  | _ => cases e
/-- the built-in comparisons -/
theorem cmpD_op {op : COp} (hu : X.A.units + 65 < cLine) (I : Inv X pins σ H s) (rx : RelV x v) (ry : RelV y u) (hm : MRel P X.K w H m) (h1 : Vw P X.K w H d1 x) (h2 : Vw P X.K w H d2 y) (e : cmpD op d1 d2 = some b)
    (nd : op = .mem ∨ op = .nmem → ∀ kvs, d2 ≠ .dct kvs) (nt : ∀ xs, op = .lt → d1 ≠ .tup xs)
    (h : Post P X.K (WRel P X.K) w H (.ok (.v (.bl b)) m) Q Wy) : wpAny (model X.prog X.w) X.A (compareOp op.py v u) (EP X pins σ Q) X.xe s := by
  have q : Q (.bl b) H := h.flat hm (Dat.bl_iff.mpr rfl)
  cases op with
  | eq =>
    dsimp only [cmpD, eqD] at e
    by_cases hp : (plain 50 d1 && plain 50 d2) = true
    · rw [if_pos hp] at e
      obtain ⟨p1, p2⟩ := Bool.and_eq_true_iff.mp hp
      have eb : eqB d1 d2 = b := Option.some.inj e
      refine op_eqD (by omega) pins s σ H x y v u Q I rx ry ⟨toPy d1, toPy d2, vw_dp p1 h1, vw_dp p2 h2, shaped_of p1 (by decide), shaped_of p2 (by decide), ?_⟩
      rw [← eqB_py 50 50 d1 d2 p1 p2, eb]
      exact q
    · rw [if_neg hp] at e; cases e
  | ne =>
    dsimp only [cmpD, eqD] at e
    by_cases hp : (plain 50 d1 && plain 50 d2) = true
    · rw [if_pos hp] at e
      obtain ⟨p1, p2⟩ := Bool.and_eq_true_iff.mp hp
      have eb : (!eqB d1 d2) = b := Option.some.inj e
      refine op_neD (by omega) pins s σ H x y v u Q I rx ry ⟨toPy d1, toPy d2, vw_dp p1 h1, vw_dp p2 h2, shaped_of p1 (by decide), shaped_of p2 (by decide), ?_⟩
      rw [← eqB_py 50 50 d1 d2 p1 p2, eb]
      exact q
    · rw [if_neg hp] at e; cases e
  | lt =>
    cases d1 with
    | int i =>
      cases d2 with
      | int j =>
        cases e
        cases Vw.int h1
        cases Vw.int h2
        exact op_lt pins s σ H _ _ v u Q I rx ry ⟨i, j, rfl, rfl, q⟩
      | _ => cases e
    | str i =>
      cases d2 with
      | str j =>
        cases e
        cases Vw.str h1
        cases Vw.str h2
        refine op_lt_str pins s σ H _ _ v u Q I rx ry ⟨ts i, ts j, rfl, rfl, ?_⟩
        rw [ts_lt]
        exact q
      | _ => cases e
    | tup xs => exact absurd rfl (nt xs rfl)
    | _ => cases e
  | le =>
    cases d1 with
    | int i =>
      cases d2 with
      | int j =>
        cases e
        cases Vw.int h1
        cases Vw.int h2
        exact op_le pins s σ H _ _ v u Q I rx ry ⟨i, j, rfl, rfl, q⟩
      | _ => cases e
    | str i =>
      cases d2 with
      | str j =>
        cases e
        cases Vw.str h1
        cases Vw.str h2
        refine op_le_str pins s σ H _ _ v u Q I rx ry ⟨ts i, ts j, rfl, rfl, ?_⟩
        rw [ts_lt]
        exact q
      | _ => cases e
    | _ => cases e
  | gt =>
    cases d1 with
    | int i =>
      cases d2 with
      | int j =>
        cases e
        cases Vw.int h1
        cases Vw.int h2
        exact op_gt pins s σ H _ _ v u Q I rx ry ⟨i, j, rfl, rfl, q⟩
      | _ => cases e
    | _ => cases e
  | ge =>
    cases d1 with
    | int i =>
      cases d2 with
      | int j =>
        cases e
        cases Vw.int h1
        cases Vw.int h2
        exact op_ge pins s σ H _ _ v u Q I rx ry ⟨i, j, rfl, rfl, q⟩
      | _ => cases e
    | _ => cases e
  | mem =>
    cases d2 with
    | lst ys =>
      dsimp only [cmpD, memL] at e
      by_cases hp : (plain 50 d1 && plainL 50 ys) = true
      · rw [if_pos hp] at e
        obtain ⟨p1, p2⟩ := Bool.and_eq_true_iff.mp hp
        have eb := Option.some.inj e
        have p3 : plain 51 (.lst ys) = true := by simpa [plain] using p2
        refine op_inD hu pins s σ H x y v u Q I rx ry ⟨toPy d1, toPys ys, vw_dp p1 h1, vw_dp (n := 51) p3 h2, shaped_of p1 (by decide), shaped_of (n := 51) p3 (by decide), ?_⟩
        rw [← any_py p1 p2, eb]
        exact q
      · rw [if_neg hp] at e; cases e
    | dct kvs => exact absurd rfl (nd (.inl rfl) kvs)
    | str z =>
      cases d1 with
      | str i =>
        cases i with
        | nil => cases e
        | cons c r =>
          cases r with
          | nil =>
            have eb : z.contains c = b := Option.some.inj e
            cases Vw.str h1
            cases Vw.str h2
            refine op_in_sign pins s σ H _ _ v u Q I rx ry ⟨c, ts z, rfl, rfl, ?_⟩
            have e2 : decide (c ∈ (ts z).cps.toList) = b := by
              rw [← eb, List.contains_eq_mem]
              simp only [ts]
              first | rfl | exact decide_eq_decide.mpr Iff.rfl | exact congrArg (!·) (decide_eq_decide.mpr Iff.rfl)
            rw [e2]
            exact q
          | cons _ _ => cases e
      | _ => cases e
    | _ => cases d1 <;> cases e
  | nmem =>
    cases d2 with
    | lst ys =>
      dsimp only [cmpD, memL] at e
      by_cases hp : (plain 50 d1 && plainL 50 ys) = true
      · rw [if_pos hp] at e
        obtain ⟨p1, p2⟩ := Bool.and_eq_true_iff.mp hp
        have eb : (!(ys.any fun y => eqB y d1)) = b := Option.some.inj e
        have p3 : plain 51 (.lst ys) = true := by simpa [plain] using p2
        refine op_notInD hu pins s σ H x y v u Q I rx ry ⟨toPy d1, toPys ys, vw_dp p1 h1, vw_dp (n := 51) p3 h2, shaped_of p1 (by decide), shaped_of (n := 51) p3 (by decide), ?_⟩
        rw [← any_py p1 p2, eb]
        exact q
      · rw [if_neg hp] at e; cases e
    | dct kvs => exact absurd rfl (nd (.inr rfl) kvs)
    | str z =>
      cases d1 with
      | str i =>
        cases i with
        | nil => cases e
        | cons c r =>
          cases r with
          | nil =>
            have eb : (!z.contains c) = b := Option.some.inj e
            cases Vw.str h1
            cases Vw.str h2
            refine op_notIn_sign pins s σ H _ _ v u Q I rx ry ⟨c, ts z, rfl, rfl, ?_⟩
            have e2 : (!decide (c ∈ (ts z).cps.toList)) = b := by
              rw [← eb, List.contains_eq_mem]
              simp only [ts]
              first | rfl | exact decide_eq_decide.mpr Iff.rfl | exact congrArg (!·) (decide_eq_decide.mpr Iff.rfl)
            rw [e2]
            exact q
          | cons _ _ => cases e
      | _ => cases e
    | _ => cases d1 <;> cases e
end
end MP
end
section
set_option  maxHeartbeats  4000000
/-! Expressions by the evaluator: the rules. -/
namespace MP
open PySem PySem.Spec PyProof.Rows L2
theorem R.bnd_assoc {α β γ : Type} (x : R α) (f : α → M → R β) (g : β → M → R γ) : (x.bnd f).bnd g = x.bnd fun a m => (f a m).bnd g := by
  cases x <;> rfl
section
variable {P : Prog} {K : Fg} {w : Wd} {H : Hp} {m : M} {x : V}
theorem asB_end {a : W} {Q : Bool → Hp → Prop} {Wy : Value → Option Addr → Hp → Prop} (hm : MRel P K w H m) (r : WRel P K w H a x) (p : Post P K (fun _ _ a b => a = b) w H (asB a m) Q Wy) : ∃ k, x = .bl k ∧ Q k H := by
  cases a with
  | v d =>
    cases d with
    | bl b => exact ⟨b, WRel.bl r, p b w H .rfl hm rfl⟩
    | _ => exact p.elim
  | _ => exact p.elim
theorem asB_stepB {γ δ : Type} {rel' : Wd → Hp → γ → δ → Prop} {a : W} {g : Bool → M → R γ} {Q : δ → Hp → Prop} {Wy : Value → Option Addr → Hp → Prop} (r : WRel P K w H a x) (p : Post P K rel' w H ((asB a m).bnd g) Q Wy) : ∃ k, x = .bl k ∧ a = .v (.bl k) ∧ Post P K rel' w H (g k m) Q Wy := by
  cases a with
  | v d =>
    cases d with
    | bl b => exact ⟨b, WRel.bl r, rfl, p⟩
    | _ => exact p.elim
  | _ => exact p.elim
end
section
variable {P : Prog} {X : Cx} {Wx : WX} {a b c : Expr} {fa fb fc : List W → M → R W} {pos : Pos}
abbrev RE (P : Prog) (X : Cx) (Wx : WX) (f : List W → M → R W) : TE := rE P X.K f Wx
abbrev RB (P : Prog) (X : Cx) (Wx : WX) (f : List W → M → R W) : TT := rB P X.K (fun ρ m => (f ρ m).bnd asB) Wx
/-- both readings -/
structure PEB (P : Prog) (X : Cx) (Wx : WX) (e : Expr) (f : List W → M → R W) : Prop where
  pe : PE X e (RE P X Wx f)
  pt : PT X e (RB P X Wx f)
theorem pt_of {e : Expr} {f : List W → M → R W} (h : PE X e (RE P X Wx f)) (he : ∀ whole, isTrue e X.env whole = (do let v ← whole; standAt e.pos; holding [v] (truthy v))) : PT X e (RB P X Wx f) := by
  refine PT.imp (pt_val h he) fun σ H Q q => ?_
  obtain ⟨w, ρ, m, hm, hs, p⟩ := q
  have := rE_step (f := f) (g := asB) (σ := σ) (Wx := Wx) p hm hs
  obtain ⟨w', ρ', m', a, b', c'⟩ := this
  refine ⟨w', ρ', m', a, b', c'.mono fun z H1 ⟨x, w1, m1, M1, S1, R1, X1, p1⟩ => ?_⟩
  obtain ⟨k, e1, q1⟩ := asB_end M1 R1 p1
  exact ⟨k, e1, q1⟩
theorem PEB.of {e : Expr} {f : List W → M → R W} (h : PE X e (RE P X Wx f)) (he : ∀ whole, isTrue e X.env whole = (do let v ← whole; standAt e.pos; holding [v] (truthy v))) : PEB P X Wx e f := ⟨h, pt_of h he⟩
theorem PEB.congr {e : Expr} {f g : List W → M → R W} (h : PEB P X Wx e f) (e1 : g = f) : PEB P X Wx e g := e1 ▸ h
/-- a value at once -/
theorem pe_const {e : Expr} {v : V} {d : D} (h : PE X e (tC v)) (hd : ∀ (w : Wd) (H : Hp), Dat P X.K w.fro H d v) : PE X e (RE P X Wx fun _ m => .ok (.v d) m) :=
  PE.imp h fun σ H Q ⟨w, ρ, m, hm, hs, p⟩ => Post.flat p hm (hd w H)
theorem e_int {i : Int} {j} : PEB P X Wx (.Constant (.int i) j pos) fun _ m => .ok (.v (.int i)) m := .of (pe_const pe_int fun _ _ => Dat.int_iff.mpr rfl) fun _ => rfl
theorem e_bl {i : Bool} {j} : PEB P X Wx (.Constant (.bool i) j pos) fun _ m => .ok (.v (.bl i)) m := .of (pe_const pe_bl fun _ _ => Dat.bl_iff.mpr rfl) fun _ => rfl
theorem e_non {j} : PEB P X Wx (.Constant .none j pos) fun _ m => .ok (.v .non) m := .of (pe_const pe_non fun _ _ => Dat.non_iff.mpr rfl) fun _ => rfl
theorem e_str {x : Sg} {j} : PEB P X Wx (.Constant (.str (ts x)) j pos) fun _ m => .ok (.v (.str x)) m := .of (pe_const pe_str fun _ _ => Dat.str_iff.mpr rfl) fun _ => rfl
theorem e_var {i : Nat} {x : Str} (hN : X.N[i]? = some x) (hv : Vis X.env.scope x) (hd : (x == ("__debug__" : Str)) = false) (hcd : (x == ("__classdict__" : Str)) = false) : PEB P X Wx (.Name x pos) fun ρ m => R.opt (getV ρ i) m := by
  refine .of (PE.imp (pe_var hN hv hd hcd) fun σ H Q ⟨w, ρ, m, hm, hs, p⟩ => ?_) fun _ => rfl
  dsimp only at p
  unfold getV at p
  cases e : ρ[i]? with
  | none => rw [e] at p; exact p.elim
  | some z =>
    rw [e] at p
    cases z with
    | u => exact p.elim
    | _ =>
      obtain ⟨v, h1, h2⟩ := hs.2 i _ e (by intro z; cases z)
      exact ⟨v, h1, p v w H .rfl hm h2⟩
theorem e_bin {op : Operator} {g : W → W → M → R W} (ho : OpW P X (binaryOp op) g Wx) (ha : PEB P X Wx a fa) (hb : PEB P X Wx b fb) : PEB P X Wx (.BinOp a op b pos) fun ρ m => (fa ρ m).bnd fun x m1 => (fb ρ m1).bnd fun y m2 => g x y m2 := by
  refine .of ⟨fun pins s σ H Q I h => ?_⟩ fun _ => rfl
  obtain ⟨w, ρ, m, hm, hs, p⟩ := h
  refine wpAny_BinOp (thn (ha.pe.run pins s σ H _ I (rE_step p hm hs)) fun v s1 ⟨x, H1, I1, r1, a1, w1, m1, M1, S1, R1, X1, p1⟩ => ?_)
  refine thn (hb.pe.run pins s1 σ H1 _ I1 (rE_step p1 M1 S1)) fun u s2 ⟨y, H2, I2, r2, a2, w2, m2, M2, S2, R2, X2, p2⟩ => ?_
  exact ho pins s2 σ H2 x y v u Q w2 m2 a1 a2 I2 r1 r2 M2 (R1.mono X2) R2 p2
theorem e_un {op : UnaryOp} {g : W → M → R W} (ho : UnW P X (unaryOp op) g Wx) (ha : PEB P X Wx a fa) (he : ∀ whole, isTrue (.UnaryOp op a pos) X.env whole = (do let v ← whole; standAt pos; holding [v] (truthy v))) : PEB P X Wx (.UnaryOp op a pos) fun ρ m => (fa ρ m).bnd fun x m1 => g x m1 := by
  refine .of ⟨fun pins s σ H Q I h => ?_⟩ he
  obtain ⟨w, ρ, m, hm, hs, p⟩ := h
  exact UnaryOp_ (thn (ha.pe.run pins s σ H _ I (rE_step p hm hs)) fun v s1 ⟨x, H1, I1, r1, a1, w1, m1, M1, S1, R1, X1, p1⟩ => ho pins s1 σ H1 x v Q w1 m1 a1 I1 r1 M1 R1 p1)
theorem e_not (ha : PEB P X Wx a fa) : PEB P X Wx (.UnaryOp .Not a pos) fun ρ m => notW (fa ρ m) := by
  constructor
  · refine PE.imp (pe_not ha.pe) fun σ H Q ⟨w, ρ, m, hm, hs, p⟩ => ?_
    dsimp only at p
    unfold notW at p
    obtain ⟨w', ρ', m', A, B, C⟩ := rE_step (f := fa) (σ := σ) (Wx := Wx) p hm hs
    refine ⟨w', ρ', m', A, B, C.mono fun z H1 ⟨x, w1, m1, M1, S1, R1, X1, p1⟩ => ?_⟩
    obtain ⟨k, e1, _, q1⟩ := asB_stepB R1 p1
    exact ⟨k, e1, q1.flat M1 (Dat.bl_iff.mpr rfl)⟩
  · refine PT.imp (pt_not ha.pt) fun σ H Q ⟨w, ρ, m, hm, hs, p⟩ => ?_
    refine ⟨w, ρ, m, hm, hs, ?_⟩
    dsimp only at p ⊢
    unfold notW at p
    cases e : fa ρ m with
    | bad => rw [e] at p; exact p
    | exc c fs m1 => rw [e] at p; exact p
    | ok z m1 =>
      rw [e] at p
      cases z with
      | v d =>
        cases d with
        | bl k => intro b' w' H' X' M' e'; exact p (!b') w' H' X' M' (by rw [e'])
        | _ => exact p.elim
      | _ => exact p.elim
theorem cmp_end {op : CmpOp} {g : W → W → M → R W} (ho : OpW P X (compareOp op) g Wx) {pins : List (Addr × Obj)} {s : Shared} {σ : L2.St} {H : Hp} {x y : V} {v u : Value} {Q : Bool → Hp → Prop} {w : Wd} {m : M} {a1 a2 : W} (I : Inv X pins σ H s) (rx : RelV x v) (ry : RelV y u) (hm : MRel P X.K w H m) (h1 : WRel P X.K w H a1 x) (h2 : WRel P X.K w H a2 y)
    (p : Post P X.K (fun _ _ a b => a = b) w H ((g a1 a2 m).bnd asB) Q (fun cls d H' => Wx cls d σ H')) : wpAny (model X.prog X.w) X.A (compareOp op v u) (fun c s3 => wpAny (model X.prog X.w) X.A (truthy c) (TP X pins σ Q) X.xe s3) X.xe s := by
  refine thn (ho pins s σ H x y v u _ w m a1 a2 I rx ry hm h1 h2 (p.bnd (WRel P X.K))) fun c s3 ⟨z, H3, I3, r3, a3, w3, m3, X3, M3, R3, p3⟩ => ?_
  obtain ⟨k, e, q⟩ := asB_end M3 R3 p3
  subst e
  cases r3
  exact wpAny_truthy_bool ⟨H3, I3, q⟩
theorem e_cmp {op : CmpOp} {g : W → W → M → R W} (ho : OpW P X (compareOp op) g Wx) (ha : PEB P X Wx a fa) (hb : PEB P X Wx b fb) (hk : behindInMarks op b = false) : PEB P X Wx (.Compare a [op] [b] pos) fun ρ m => (fa ρ m).bnd fun x m1 => (fb ρ m1).bnd fun y m2 => g x y m2 := by
  constructor
  · refine ⟨fun pins s σ H Q I h => ?_⟩
    obtain ⟨w, ρ, m, hm, hs, p⟩ := h
    refine wpAny_Compare1 (thn (ha.pe.run pins s σ H _ I (rE_step p hm hs)) fun v s1 ⟨x, H1, I1, r1, a1, w1, m1, M1, S1, R1, X1, p1⟩ => ?_) hk
    refine thn (hb.pe.run pins s1 σ H1 _ I1 (rE_step p1 M1 S1)) fun u s2 ⟨y, H2, I2, r2, a2, w2, m2, M2, S2, R2, X2, p2⟩ => ?_
    exact ho pins s2 σ H2 x y v u Q w2 m2 a1 a2 I2 r1 r2 M2 (R1.mono X2) R2 p2
  · refine ⟨fun pins s σ H Q I h => ?_⟩
    obtain ⟨w, ρ, m, hm, hs, p⟩ := h
    dsimp only at p
    rw [R.bnd_assoc] at p
    refine wpAny_isTrue_Compare1 (thn (ha.pe.run pins s σ H _ I (rE_step p hm hs)) fun v s1 ⟨x, H1, I1, r1, a1, w1, m1, M1, S1, R1, X1, p1⟩ => ?_) hk
    rw [R.bnd_assoc] at p1
    refine thn (hb.pe.run pins s1 σ H1 _ I1 (rE_step p1 M1 S1)) fun u s2 ⟨y, H2, I2, r2, a2, w2, m2, M2, S2, R2, X2, p2⟩ => ?_
    exact cmp_end ho I2 r1 r2 M2 (R1.mono X2) R2 p2
theorem e_cmp2 {op op' : CmpOp} {g g' : W → W → M → R W} (ho : OpW P X (compareOp op) g Wx) (ho' : OpW P X (compareOp op') g' Wx) (ha : PEB P X Wx a fa) (hb : PEB P X Wx b fb) (hc : PEB P X Wx c fc) (hk : lastMarks [op, op'] [b, c] = false) :
    PEB P X Wx (.Compare a [op, op'] [b, c] pos) fun ρ m => (fa ρ m).bnd fun x m1 => (fb ρ m1).bnd fun y m2 => (g x y m2).bnd fun z m3 => (asB z m3).bnd fun k m3 => if k then (fc ρ m3).bnd fun t m4 => g' y t m4 else .ok (.v (.bl false)) m3 := by
  constructor
  · refine ⟨fun pins s σ H Q I h => ?_⟩
    obtain ⟨w, ρ, m, hm, hs, p⟩ := h
    refine Compare_chain (thn (ha.pe.run pins s σ H _ I (rE_step p hm hs)) fun v s1 ⟨x, H1, I1, r1, a1, w1, m1, M1, S1, R1, X1, p1⟩ => chain_link (thn (hb.pe.run pins s1 σ H1 _ I1 (rE_step p1 M1 S1)) fun u s2 ⟨y, H2, I2, r2, a2, w2, m2, M2, S2, R2, X2, p2⟩ =>
      thn (ho pins s2 σ H2 x y v u _ w2 m2 a1 a2 I2 r1 r2 M2 (R1.mono X2) R2 (p2.bnd (WRel P X.K))) fun d s3 ⟨z, H3, I3, r3, a3, w3, m3, X3, M3, R3, p3⟩ => ?_)) hk
    obtain ⟨k, e, _, q3⟩ := asB_stepB R3 p3
    subst e
    cases r3
    refine wpAny_truthy_bool ?_
    cases k with
    | false => exact ite_ff ⟨.bl false, H3, I3, rfl, q3.flat M3 (Dat.bl_iff.mpr rfl)⟩
    | true => exact ite_tt (chain_last (thn (hc.pe.run pins s3 σ H3 _ I3 (rE_step q3 M3 (S2.mono X3))) fun w' s4 ⟨z', H4, I4, r4, a4, w4, m4, M4, S4, R4, X4, p4⟩ => ho' pins s4 σ H4 y z' u w' Q w4 m4 a2 a4 I4 r2 r4 M4 (R2.mono (X3.trans X4)) R4 p4))
  · refine ⟨fun pins s σ H Q I h => ?_⟩
    obtain ⟨w, ρ, m, hm, hs, p⟩ := h
    dsimp only at p
    rw [R.bnd_assoc] at p
    refine isTrue_chain (thn (ha.pe.run pins s σ H _ I (rE_step p hm hs)) fun v s1 ⟨x, H1, I1, r1, a1, w1, m1, M1, S1, R1, X1, p1⟩ => test_link ?_) hk
    rw [R.bnd_assoc] at p1
    refine thn (hb.pe.run pins s1 σ H1 _ I1 (rE_step p1 M1 S1)) fun u s2 ⟨y, H2, I2, r2, a2, w2, m2, M2, S2, R2, X2, p2⟩ => ?_
    rw [R.bnd_assoc] at p2
    refine thn (ho pins s2 σ H2 x y v u _ w2 m2 a1 a2 I2 r1 r2 M2 (R1.mono X2) R2 (p2.bnd (WRel P X.K))) fun d s3 ⟨z, H3, I3, r3, a3, w3, m3, X3, M3, R3, p3⟩ => ?_
    rw [R.bnd_assoc] at p3
    obtain ⟨k, e, _, q3⟩ := asB_stepB R3 p3
    subst e
    cases r3
    refine wpAny_truthy_bool ?_
    cases k with
    | false => exact ite_ff ⟨H3, I3, q3 false w3 H3 .rfl M3 rfl⟩
    | true =>
      rw [if_pos rfl, R.bnd_assoc] at q3
      exact ite_tt (test_last (thn (hc.pe.run pins s3 σ H3 _ I3 (rE_step q3 M3 (S2.mono X3))) fun w' s4 ⟨z', H4, I4, r4, a4, w4, m4, M4, S4, R4, X4, p4⟩ => cmp_end ho' I4 r2 r4 M4 (R2.mono (X3.trans X4)) R4 p4))
theorem Dat.ne_non {w : Wd} {H : Hp} {d : D} {v : V} (h : Dat P X.K w.fro H d v) (n : d ≠ .non) : v ≠ .non := by
  cases d with
  | non => exact absurd rfl n
  | bl b => rw [Dat.bl_iff.mp h]; intro q; cases q
  | int b => rw [Dat.int_iff.mp h]; intro q; cases q
  | str b => rw [Dat.str_iff.mp h]; intro q; cases q
  | lst b => obtain ⟨a, vs, rfl, _⟩ := Dat.lst_iff.mp h; intro q; cases q
  | tup b => obtain ⟨a, vs, rfl, _⟩ := Dat.tup_iff.mp h; intro q; cases q
  | dct b => obtain ⟨a, rfl, _⟩ := Dat.dct_iff.mp h; intro q; cases q
  | obj c b => obtain ⟨a, dx, vs, rfl, _⟩ := Dat.obj_iff.mp h; intro q; cases q
  | cls c => rw [Dat.cls_iff.mp h]; intro q; cases q
end
end MP
end
section
set_option  maxHeartbeats  4000000
namespace MP
open PySem PySem.Spec PyProof.Rows L2
section
variable {P : Prog} {K : Fg} {w : Wd} {H : Hp} {m : M}
theorem cell_ref {n : Nat} {v : V} {c : C} (h : MRel P K w H m) (r : WRel P K w H (.c n) v) (e : m[n]? = some c) (nd : c ≠ .dead) : ∃ a as, w.ow[n]? = some (a :: as) ∧ v = .ref a ∧ CRel P K w H (a :: as) c := by
  obtain ⟨as, h1, h2⟩ := r
  have q := h.at_ n c as e h1
  cases as with
  | nil =>
    cases c with
    | lst k xs => obtain ⟨a, vs, e1, _⟩ := q; cases e1
    | dct k t kvs => obtain ⟨a, e1, _⟩ := q; cases e1
    | obj c fs => obtain ⟨a, r, dx, vs, e1, _⟩ := q; cases e1
    | scr xs => obtain ⟨a, vs, e1, _⟩ := q; cases e1
    | dead => exact absurd rfl nd
  | cons a r => exact ⟨a, r, h1, h2 a rfl, q⟩
end
section
variable {P : Prog} {X : Cx} {Wx : WX} {a b c : Expr} {fa fb fc : List W → M → R W} {pos : Pos}
theorem isNW_end {t : Bool} {z : V} {x : W} {w1 : Wd} {H1 : Hp} {m1 : M} {Q : VK} {Wy : Value → Option Addr → Hp → Prop} (M1 : MRel P X.K w1 H1 m1) (R1 : WRel P X.K w1 H1 x z) (p1 : Post P X.K (WRel P X.K) w1 H1 (isNW t x m1) Q Wy) : Q (.bl (if t then decide (z = .non) else !decide (z = .non))) H1 := by
  have no : z ≠ .non → Post P X.K (WRel P X.K) w1 H1 (.ok (.v (.bl (!t))) m1) Q Wy → Q (.bl (if t then decide (z = .non) else !decide (z = .non))) H1 := fun nz q => by
    rw [decide_eq_false nz]
    cases t <;> exact Post.flat q M1 (Dat.bl_iff.mpr rfl)
  unfold isNW at p1
  cases x with
  | v d =>
    cases d with
    | non =>
      rw [decide_eq_true (WRel.non R1)]
      cases t <;> exact Post.flat p1 M1 (Dat.bl_iff.mpr rfl)
    | _ => exact no (Dat.ne_non (X := X) R1 (by intro q; cases q)) p1
  | c n =>
    dsimp only at p1
    cases e : m1[n]? with
    | none => rw [e] at p1; exact p1.elim
    | some cc =>
      rw [e] at p1
      cases cc with
      | dead => exact p1.elim
      | _ =>
        obtain ⟨a, as, _, ez, _⟩ := cell_ref M1 R1 e (by intro q; cases q)
        exact no (by rw [ez]; intro q; cases q) p1
  | _ => exact p1.elim
theorem e_isN {j pos'} (ha : PEB P X Wx a fa) : PEB P X Wx (.Compare a [.Is] [.Constant .none j pos'] pos) fun ρ m => (fa ρ m).bnd (isNW true) := by
  have key : ∀ σ H (Q : VK), RE P X Wx (fun ρ m => (fa ρ m).bnd (isNW true)) σ H Q → tIsN (RE P X Wx fa) σ H Q := fun σ H Q ⟨w, ρ, m, hm, hs, p⟩ => by
    dsimp only at p
    obtain ⟨w', ρ', m', A, B, C⟩ := rE_step (f := fa) (σ := σ) (Wx := Wx) p hm hs
    exact ⟨w', ρ', m', A, B, C.mono fun z H1 ⟨x, w1, m1, M1, S1, R1, X1, p1⟩ => isNW_end M1 R1 p1⟩
  refine ⟨PE.imp (pe_cmp (pc_isN ha.pe)) key, PT.imp (pt_cmp (pc_isN ha.pe)) fun σ H Q ⟨w, ρ, m, hm, hs, p⟩ => key σ H _ ⟨w, ρ, m, hm, hs, ?_⟩⟩
  dsimp only at p
  exact (p.bnd (WRel P X.K)).mono fun z H1 ⟨a, w1, m1, X1, M1, R1, p1⟩ => asB_end M1 R1 p1
theorem e_notN {j pos'} (ha : PEB P X Wx a fa) : PEB P X Wx (.Compare a [.IsNot] [.Constant .none j pos'] pos) fun ρ m => (fa ρ m).bnd (isNW false) := by
  have key : ∀ σ H (Q : VK), RE P X Wx (fun ρ m => (fa ρ m).bnd (isNW false)) σ H Q → tNotN (RE P X Wx fa) σ H Q := fun σ H Q ⟨w, ρ, m, hm, hs, p⟩ => by
    dsimp only at p
    obtain ⟨w', ρ', m', A, B, C⟩ := rE_step (f := fa) (σ := σ) (Wx := Wx) p hm hs
    exact ⟨w', ρ', m', A, B, C.mono fun z H1 ⟨x, w1, m1, M1, S1, R1, X1, p1⟩ => isNW_end M1 R1 p1⟩
  refine ⟨PE.imp (pe_cmp (pc_notN ha.pe)) key, PT.imp (pt_cmp (pc_notN ha.pe)) fun σ H Q ⟨w, ρ, m, hm, hs, p⟩ => key σ H _ ⟨w, ρ, m, hm, hs, ?_⟩⟩
  dsimp only at p
  exact (p.bnd (WRel P X.K)).mono fun z H1 ⟨a, w1, m1, X1, M1, R1, p1⟩ => asB_end M1 R1 p1
/-! ### and, or, if -/
/-- a rest of and/or: as a value, as a test -/
structure PEW (P : Prog) (X : Cx) (Wx : WX) (e : Expr) (f : List W → M → R W) : Prop where
  pe : PE X e (RE P X Wx f)
  pw : PW X e (RB P X Wx f)
theorem PEW.peb {e : Expr} {f : List W → M → R W} (h : PEW P X Wx e f) : PEB P X Wx e f := ⟨h.pe, h.pw.pt⟩
theorem w_and1 (ha : PEB P X Wx a fa) : PEW P X Wx (.BoolOp .And [a] pos) fa := ⟨pe_one ha.pe, pw_and1 ha.pt⟩
theorem w_or1 (ha : PEB P X Wx a fa) : PEW P X Wx (.BoolOp .Or [a] pos) fa := ⟨pe_one ha.pe, pw_or1 ha.pt⟩
theorem PW.imp {e : Expr} {t t' : TT} (h : PW X e t) (hi : ∀ σ H Q, t' σ H Q → t σ H Q) : PW X e t' := ⟨fun wh pins s σ H Q I q => h.run wh pins s σ H Q I (hi σ H Q q)⟩
theorem w_and {rest : List Expr} (ha : PEB P X Wx a fa) (hb : PEW P X Wx (.BoolOp .And (b :: rest) pos) fb) : PEW P X Wx (.BoolOp .And (a :: b :: rest) pos) fun ρ m => (fa ρ m).bnd fun x m1 => (asB x m1).bnd fun k m1 => if k then fb ρ m1 else .ok (.v (.bl false)) m1 := by
  constructor
  · refine PE.imp (pe_and ha.pe hb.pe) fun σ H Q ⟨w, ρ, m, hm, hs, p⟩ => ?_
    dsimp only at p
    refine ⟨w, ρ, m, hm, hs, (p.bnd (WRel P X.K)).mono fun z H1 ⟨x, w1, m1, X1, M1, R1, p1⟩ => ?_⟩
    obtain ⟨k, e1, _, q1⟩ := asB_stepB R1 p1
    refine ⟨k, e1, ?_⟩
    cases k with
    | true => exact ⟨w1, ρ, m1, M1, hs.mono X1, q1⟩
    | false => exact Post.flat q1 M1 (Dat.bl_iff.mpr rfl)
  · refine PW.imp (pw_and ha.pt hb.pw) fun σ H Q ⟨w, ρ, m, hm, hs, p⟩ => ?_
    dsimp only at p
    rw [R.bnd_assoc] at p
    refine ⟨w, ρ, m, hm, hs, ?_⟩
    rw [show (fun x m1 => R.bnd ((asB x m1).bnd fun k m1 => if k then fb ρ m1 else .ok (.v (.bl false)) m1) asB) = fun x m1 => (asB x m1).bnd fun k m1 => (if k then fb ρ m1 else .ok (.v (.bl false)) m1).bnd asB from funext fun x => funext fun m1 => R.bnd_assoc _ _ _, ← R.bnd_assoc] at p
    refine (p.bnd (fun _ _ a b => a = b)).mono fun k H1 ⟨x, w1, m1, X1, M1, R1, p1⟩ => ?_
    subst R1
    cases x with
    | true => exact ⟨w1, ρ, m1, M1, hs.mono X1, p1⟩
    | false => exact p1 false w1 H1 .rfl M1 rfl
theorem w_or {rest : List Expr} (ha : PEB P X Wx a fa) (hb : PEW P X Wx (.BoolOp .Or (b :: rest) pos) fb) : PEW P X Wx (.BoolOp .Or (a :: b :: rest) pos) fun ρ m => (fa ρ m).bnd fun x m1 => (asB x m1).bnd fun k m1 => if k then .ok (.v (.bl true)) m1 else fb ρ m1 := by
  constructor
  · refine PE.imp (pe_or ha.pe hb.pe) fun σ H Q ⟨w, ρ, m, hm, hs, p⟩ => ?_
    dsimp only at p
    refine ⟨w, ρ, m, hm, hs, (p.bnd (WRel P X.K)).mono fun z H1 ⟨x, w1, m1, X1, M1, R1, p1⟩ => ?_⟩
    obtain ⟨k, e1, _, q1⟩ := asB_stepB R1 p1
    refine ⟨k, e1, ?_⟩
    cases k with
    | false => exact ⟨w1, ρ, m1, M1, hs.mono X1, q1⟩
    | true => exact Post.flat q1 M1 (Dat.bl_iff.mpr rfl)
  · refine PW.imp (pw_or ha.pt hb.pw) fun σ H Q ⟨w, ρ, m, hm, hs, p⟩ => ?_
    dsimp only at p
    rw [R.bnd_assoc] at p
    refine ⟨w, ρ, m, hm, hs, ?_⟩
    rw [show (fun x m1 => R.bnd ((asB x m1).bnd fun k m1 => if k then .ok (.v (.bl true)) m1 else fb ρ m1) asB) = fun x m1 => (asB x m1).bnd fun k m1 => (if k then .ok (.v (.bl true)) m1 else fb ρ m1).bnd asB from funext fun x => funext fun m1 => R.bnd_assoc _ _ _, ← R.bnd_assoc] at p
    refine (p.bnd (fun _ _ a b => a = b)).mono fun k H1 ⟨x, w1, m1, X1, M1, R1, p1⟩ => ?_
    subst R1
    cases x with
    | false => exact ⟨w1, ρ, m1, M1, hs.mono X1, p1⟩
    | true => exact p1 true w1 H1 .rfl M1 rfl
theorem isTrue_ifExp_ {M : Model} {A : Around} {E : Value → Shared → Prop} {s : Shared} {env : Env} {wh : Sem Value} {Q : Bool → Shared → Prop} (h : wpAny M A (PySem.isTrue c env (eval c env)) (fun k s1 => wpAny M A (if k then PySem.isTrue a env (eval a env) else PySem.isTrue b env (eval b env)) Q E s1) E s) :
    wpAny M A (PySem.isTrue (.IfExp c a b pos) env wh) Q E s := by
  rw [show PySem.isTrue (.IfExp c a b pos) env wh = (do if ← PySem.isTrue c env (eval c env) then PySem.isTrue a env (eval a env) else PySem.isTrue b env (eval b env)) from rfl]
  exact wpAny_bind h
theorem e_ite (hc : PEB P X Wx c fc) (ha : PEB P X Wx a fa) (hb : PEB P X Wx b fb) : PEB P X Wx (.IfExp c a b pos) fun ρ m => (fc ρ m).bnd fun x m1 => (asB x m1).bnd fun k m1 => if k then fa ρ m1 else fb ρ m1 := by
  constructor
  · refine PE.imp (pe_ifExp hc.pt ha.pe hb.pe) fun σ H Q ⟨w, ρ, m, hm, hs, p⟩ => ?_
    dsimp only at p
    rw [← R.bnd_assoc] at p
    refine ⟨w, ρ, m, hm, hs, (p.bnd (fun _ _ a b => a = b)).mono fun k H1 ⟨x, w1, m1, X1, M1, R1, p1⟩ => ?_⟩
    subst R1
    cases x with
    | true => exact ⟨w1, ρ, m1, M1, hs.mono X1, p1⟩
    | false => exact ⟨w1, ρ, m1, M1, hs.mono X1, p1⟩
  · refine ⟨fun pins s σ H Q I h => ?_⟩
    obtain ⟨w, ρ, m, hm, hs, p⟩ := h
    dsimp only at p
    rw [R.bnd_assoc] at p
    rw [show (fun x m1 => R.bnd ((asB x m1).bnd fun k m1 => if k then fa ρ m1 else fb ρ m1) asB) = fun x m1 => (asB x m1).bnd fun k m1 => (if k then fa ρ m1 else fb ρ m1).bnd asB from funext fun x => funext fun m1 => R.bnd_assoc _ _ _, ← R.bnd_assoc] at p
    refine isTrue_ifExp_ (thn (hc.pt.run pins s σ H _ I (rB_step (f := fun ρ m => (fc ρ m).bnd asB) (σ := σ) (Wx := Wx) p hm hs)) fun k s1 ⟨H1, I1, w1, m1, M1, S1, X1, p1⟩ => ?_)
    cases k with
    | true => exact ha.pt.run pins s1 σ H1 Q I1 ⟨w1, ρ, m1, M1, S1, p1⟩
    | false => exact hb.pt.run pins s1 σ H1 Q I1 ⟨w1, ρ, m1, M1, S1, p1⟩
/-! ### argument lists, displays -/
def noStar : Expr → Bool
  | .Starred _ _ => false
  | _ => true
theorem starEach_cons {e : Expr} {es : List Expr} {env : Env} (h : noStar e = true) : starEach (e :: es) env = (false, eval e env) :: starEach es env := by
  cases e <;> first | rfl | cases h
theorem noStars_any {env : Env} {pos : Pos} : ∀ {es : List Expr}, es.all noStar = true → (backTo pos (starEach es env)).any (·.1) = false
  | [], _ => rfl
  | e :: es, h => by
    obtain ⟨h1, h2⟩ := Bool.and_eq_true_iff.mp h
    rw [starEach_cons h1]
    show (false || (backTo pos (starEach es env)).any (·.1)) = false
    rw [noStars_any h2]
    rfl
/-- an argument list -/
structure PAr (P : Prog) (X : Cx) (Wx : WX) (es : List Expr) (f : List W → M → R (List W)) : Prop where
  pa : PA X es (rA P X.K f Wx)
  st : es.all noStar = true
  nil : es = [] → f = fun _ m => .ok [] m
  len : ∀ ρ m ws m1, f ρ m = .ok ws m1 → ws.length = es.length
theorem a_nil : PAr P X Wx [] fun _ m => .ok [] m := ⟨PA.imp pa_nil fun σ H Q ⟨w, ρ, m, hm, hs, p⟩ => p [] w H .rfl hm WsRel.nil, rfl, fun _ => rfl, fun _ _ ws _ e => by cases e; rfl⟩
theorem a_cons {es : List Expr} {f : List W → M → R (List W)} (ha : PEB P X Wx a fa) (hr : PAr P X Wx es f) (h : noStar a = true) : PAr P X Wx (a :: es) fun ρ m => (fa ρ m).bnd fun w m1 => (f ρ m1).bnd fun ws m2 => .ok (w :: ws) m2 := by
  refine ⟨PA.imp (pa_cons ha.pe hr.pa (starEach_cons h)) fun σ H Q ⟨w, ρ, m, hm, hs, p⟩ => ?_, ?_, (fun e => nomatch e), fun ρ m ws m1 e => ?_⟩
  · dsimp only at p
    refine ⟨w, ρ, m, hm, hs, (p.bnd (WRel P X.K)).mono fun z H1 ⟨x, w1, m1, X1, M1, R1, p1⟩ => ?_⟩
    refine ⟨w1, ρ, m1, M1, hs.mono X1, (p1.bnd (WsRel P X.K)).mono fun zs H2 ⟨xs, w2, m2, X2, M2, R2, p2⟩ => ?_⟩
    exact p2 _ w2 H2 .rfl M2 (WsRel.cons (R1.mono X2) R2)
  · rw [List.all_cons, h, hr.st]; rfl
  · cases e1 : fa ρ m with
    | ok w m2 =>
      rw [e1] at e
      dsimp only [R.bnd] at e
      cases e2 : f ρ m2 with
      | ok ws2 m3 =>
        rw [e2] at e
        cases e
        rw [List.length_cons, List.length_cons, hr.len ρ m2 ws2 _ e2]
      | _ => rw [e2] at e; cases e
    | _ => rw [e1] at e; cases e
theorem e_tup {es : List Expr} {k : Nat} {f : List W → M → R (List W)} (h : PAr P X Wx es f) (hz : es.length ≤ 10000) :
    PEB P X Wx (.Tuple es k pos) fun ρ m => (f ρ m).bnd fun ws m1 => match fzs P m1 ws with
    | some (ds, m2) => .ok (.v (.tup ds)) m2
    | none => .bad := by
  refine .of (PE.imp (pe_tup h.pa) fun σ H Q ⟨w, ρ, m, hm, hs, p⟩ => ?_) fun _ => rfl
  dsimp only at p
  refine ⟨w, ρ, m, hm, hs, ?_⟩
  cases e : f ρ m with
  | bad => rw [e] at p; exact p
  | exc c fs m1 => rw [e] at p; exact p
  | ok ws m1 =>
    rw [e] at p
    have hl := h.len ρ m ws m1 e
    intro xs w1 H1 X1 M1 R1
    dsimp only [R.bnd] at p
    cases ef : fzs P m1 ws with
    | none => rw [ef] at p; exact p.elim
    | some q =>
      obtain ⟨ds, m2⟩ := q
      rw [ef] at p
      obtain ⟨w2, X2, M2, D2⟩ := fzs_rel M1 R1 ef
      refine ⟨by rw [R1.length, hl]; exact Nat.le_trans hz (by rw [sizeLine_eq]; decide), fun q hq => ?_⟩
      exact Post.new (Post.ext p (X1.trans X2)) M2 hq (new_tup M2 hq D2)
/-- a call's arguments, then the call -/
theorem cw_run {es : List Expr} {fl : List W → M → R (List W)} {fv : Value} {first : List Value} (h : PAr P X Wx es fl) (hk : PySem.W.keepIn X.K fv = true) {g : List W → M → R W} {pins : List (Addr × Obj)} {s : Shared} {σ : L2.St} {H : Hp} {Q : VK} {w : Wd} {ρ : List W} {m : M}
    (I : Inv X pins σ H s) (hm : MRel P X.K w H m) (hs : SRel P X.K w H ρ σ) (p : Post P X.K (WRel P X.K) w H ((fl ρ m).bnd g) Q (fun cls d H' => Wx cls d σ H'))
    (hc : ∀ us s1 vs H1 as w1 m1, Inv X pins σ H1 s1 → Vals vs us → MRel P X.K w1 H1 m1 → WsRel P X.K w1 H1 as vs → Ext w H w1 H1 → Post P X.K (WRel P X.K) w1 H1 (g as m1) Q (fun cls d H' => Wx cls d σ H') → wpAny (model X.prog X.w) X.A (call fv (first ++ us)) (EP X pins σ Q) X.xe s1) :
    wpAny (model X.prog X.w) X.A (callWith pos fv first (backTo pos (starEach es X.env)) []) (EP X pins σ Q) X.xe s := by
  cases es with
  | nil =>
    rw [h.nil rfl] at p
    exact PySem.W.callWith_K0 I.kIn hk (hc [] s [] H [] w m I .nil hm WsRel.nil .rfl p)
  | cons e es =>
    have st := h.st
    rw [List.all_cons] at st
    obtain ⟨st1, st2⟩ := Bool.and_eq_true_iff.mp st
    refine PySem.W.callWith_K (h₀ := X.base) I.ok.mod.kin hk (thn (h.pa.run pos pins s σ H _ I (rA_step p hm hs)) fun us s1 ⟨vs, H1, I1, r, as, w1, m1, M1, S1, R1, X1, p1⟩ => ⟨I1.kIn, ?_⟩) (starEach_cons st1) (noStars_any st2)
    exact hc us s1 vs H1 as w1 m1 I1 r M1 R1 X1 p1
end
end MP
end
section
set_option  maxHeartbeats  4000000
/-! Calls as expressions; fields. -/
namespace MP
open PySem PySem.Spec PyProof.Rows L2
section
variable {P : Prog} {hd : Hd} {X : Cx} {Wx : WX} {k : Nat} {pos apos p0 : Pos} {es : List Expr} {fl : List W → M → R (List W)} {o : Expr} {fo : List W → M → R W}
/-- f(..) -/
theorem e_call {x : Str} {f : Nat} {d : FnDef} {fr : Bool} (g : CallOk P hd X k f d fr) (hP : hd.P = P) (hf : P.fn f = some d) (hr : Rm k X.A) (tk : Takes X Wx) (hg : Gl X x) (hm : X.mg x = some (.ref (fA X.K d.at_))) (hk : PySem.W.keepIn X.K (.ref (fA X.K d.at_)) = true) (hdb : (x == ("__debug__" : Str)) = false)
    (h : PAr P X Wx es fl) : PEB P X Wx (.Call (.Name x p0) es [] pos) fun ρ m => (fl ρ m).bnd fun ws m1 => match fnArgs P f ws with
    | some as => hd.call f fr as m1
    | none => .bad := by
  refine .of ⟨fun pins s σ H Q I q => ?_⟩ fun _ => rfl
  obtain ⟨w, ρ, m, hm', hs, p⟩ := q
  refine wpAny_Call_Name_kw (ld_glob I hg hm ?_ hdb)
  refine cw_run h hk I hm' hs p fun us s1 vs H1 as w1 m1 I1 r M1 R1 X1 p1 => ?_
  cases e : fnArgs P f as with
  | none => rw [e] at p1; exact p1.elim
  | some as1 =>
    rw [e] at p1
    exact call_run g (by rw [hP]; exact hf) hr tk I1 M1 R1 r (by rw [hP]; exact e) p1
/-- C(..) -/
theorem e_make {x : Str} {c : Nat} {cd : ClsDef} {d : FnDef} {fr : Bool} (hP : hd.P = P) (hc : P.cls[c]? = some cd) (hf : P.fn cd.init = some d) (g : CallOk P hd X k cd.init d false) (mk : Mk X.K (ca P X.K c) (fA X.K d.at_)) (hr : Rm (k + 1) X.A) (tk : Takes X Wx)
    (hg : Gl X x) (hm : X.mg x = some (.ref (ca P X.K c))) (hdb : (x == ("__debug__" : Str)) = false) (h : PAr P X Wx es fl) : PEB P X Wx (.Call (.Name x p0) es [] pos) fun ρ m => (fl ρ m).bnd fun ws m1 => mkObj hd c fr ws m1 := by
  refine .of ⟨fun pins s σ H Q I q => ?_⟩ fun _ => rfl
  obtain ⟨w, ρ, m, hm', hs, p⟩ := q
  refine wpAny_Call_Name_kw (ld_glob I hg hm ?_ hdb)
  exact cw_run h mk.kp I hm' hs p fun us s1 vs H1 as w1 m1 I1 r M1 R1 X1 p1 => make_run hP hc hf g mk hr tk I1 M1 R1 r p1
def plainBase : Expr → Bool
  | .Call (.Name id _) [] [] _ => !(id == ("super" : Str))
  | _ => true
theorem base_eq {m : Str} {env : Env} {wh : Sem Value} (h : plainBase o = true) : attributeBase o m env wh = wh := by
  unfold attributeBase
  split
  · rename_i id p1 p2
    have h2 : (!(id == ("super" : Str))) = true := h
    have h3 : (id != ("super" : Str)) = true := h2
    rw [h3]
    rfl
  · rfl
theorem mform {es : List Expr} (st : es.all noStar = true) (hl : es.length < 30) : methodCallForm (es.length + ([] : List Keyword).length) (backTo pos (starEach es X.env)) (backToKw pos (keywordEach [] X.env)) = true := by
  unfold methodCallForm
  have h1 : (backTo pos (starEach es X.env)).all (fun x => !x.1) = true := by
    have := noStars_any (env := X.env) (pos := pos) st
    rw [List.all_eq_true]
    intro z hz
    have q : z.1 = false := by
      cases e : z.1 with
      | false => rfl
      | true =>
        have : (backTo pos (starEach es X.env)).any (·.1) = true := List.any_eq_true.mpr ⟨z, hz, e⟩
        rw [noStars_any st] at this
        cases this
    rw [q]
    rfl
  rw [h1]
  show (true && true && decide (es.length + 0 + 0 < 30)) = true
  simpa using hl
theorem meth_eq {m : Str} (hb : plainBase o = true) (st : es.all noStar = true) (hl : es.length < 30) (hline : (apos.endLine == pos.line) = true) :
    eval (.Call (.Attribute o m apos) es [] pos) X.env = (do
      let ov ← eval o X.env
      standAt apos.atName
      let (f, first) ← holding [ov] (getMethod ov m (plainOf o X.env))
      callWith pos f first (backTo pos (starEach es X.env)) (backToKw pos (keywordEach [] X.env))) := by
  rw [show eval (.Call (.Attribute o m apos) es [] pos) X.env = (do
    let ov ← attributeBase o m X.env (eval o X.env)
    standAt apos.atName
    methodCall o m apos pos X.env ov (es.length + ([] : List Keyword).length) (backTo pos (starEach es X.env)) (backToKw pos (keywordEach [] X.env))) from rfl, base_eq hb]
  refine congrArg _ (funext fun ov => congrArg _ (funext fun _ => ?_))
  exact mcall_line (mform st hl) hline
theorem obj_at {K : Fg} {w : Wd} {H : Hp} {m : M} {x : W} {v : V} {c : Nat} (hm : MRel P K w H m) (r : WRel P K w H x v) (e : isObj c m x = true) : ∃ a dx vs, v = .ref a ∧ H a = some (.ins (ca P K c) dx vs) ∧ ∀ y ∈ vs.map (·.1), y ∈ fnm P c := by
  cases x with
  | v d =>
    cases d with
    | obj c' fs =>
      have ec : c = c' := beq_iff_eq.mp e
      subst ec
      obtain ⟨a, dx, vs, h1, _, h2, h3, _⟩ := Dat.obj_iff.mp r
      exact ⟨a, dx, vs, h1, h2, fun y hy => h3 ▸ hy⟩
    | _ => cases e
  | c n =>
    dsimp only [isObj] at e
    cases q : m[n]? with
    | none => rw [q] at e; cases e
    | some cc =>
      rw [q] at e
      cases cc with
      | obj c' fs =>
        have ec : c = c' := beq_iff_eq.mp e
        subst ec
        obtain ⟨a, as, h1, h2, h3⟩ := cell_ref hm r q (by intro z; cases z)
        obtain ⟨a', r', dx, vs, e1, h4, h5, h6, h7⟩ := h3
        cases e1
        exact ⟨a, dx, vs, h2, h4, fun y hy => List.mem_of_mem_take (h6 ▸ hy)⟩
      | _ => cases e
  | _ => cases e
theorem lookup_none_mem {α : Type} {x : Str} : ∀ {l : List (Str × α)}, x ∉ l.map (·.1) → l.lookup x = none
  | [], _ => rfl
  | (y, b) :: l, h => by
    rw [List.map_cons, List.mem_cons, not_or] at h
    rw [List.lookup_cons, show (x == y) = false from beq_eq_false_iff_ne.mpr h.1]
    exact lookup_none_mem h.2
/-- o.m(..) -/
theorem e_meth {mn : Str} {c f : Nat} {d : FnDef} {fr : Bool} (g : CallOk P hd X k f d fr) (hP : hd.P = P) (hf : P.fn f = some d) (hr : Rm k X.A) (tk : Takes X Wx) (cl : Cls X.K (ca P X.K c)) (mt : Meth X.K (ca P X.K c) mn (fA X.K d.at_)) (hn : mn ∉ fnm P c)
    (hb : plainBase o = true) (hl : es.length < 30) (hline : (apos.endLine == pos.line) = true) (ho : PEB P X Wx o fo) (h : PAr P X Wx es fl) :
    PEB P X Wx (.Call (.Attribute o mn apos) es [] pos) fun ρ m => (fo ρ m).bnd fun x m1 => if isObj c m1 x then (fl ρ m1).bnd fun ws m2 => match fnArgs P f (x :: ws) with
    | some as => hd.call f fr as m2
    | none => .bad else .bad := by
  refine .of ⟨fun pins s σ H Q I q => ?_⟩ fun _ => rfl
  obtain ⟨w, ρ, m, hm', hs, p⟩ := q
  refine PySem.W.methodCall_KW (pl := plainOf o X.env) (thn (ho.pe.run pins s σ H _ I (rE_step p hm' hs)) fun u s1 ⟨z, H1, I1, r1, x, w1, m1, M1, S1, R1, X1, p1⟩ => ?_) (meth_eq hb h.st hl hline)
  by_cases hx : isObj c m1 x = true
  · rw [if_pos hx] at p1
    obtain ⟨a, dx, vs, rfl, ha, hy⟩ := obj_at M1 R1 hx
    obtain rfl : u = Value.ref a := r1
    refine getmeth_ok I1 ha cl mt (lookup_none_mem fun z => hn (hy _ z)) ?_
    refine cw_run (first := [.ref a]) h mt.kp I1 M1 S1 p1 fun us s2 vs2 H2 as w2 m2 I2 r2 M2 R2 X2 p2 => ?_
    cases e : fnArgs P f (x :: as) with
    | none => rw [e] at p2; exact p2.elim
    | some as1 =>
      rw [e] at p2
      exact call_run g (by rw [hP]; exact hf) hr tk I2 M2 (WsRel.cons (R1.mono X2) R2) (show Vals (V.ref a :: vs2) (Value.ref a :: us) from .cons rfl r2) (by rw [hP]; exact e) p2
  · rw [if_neg hx] at p1; exact p1.elim
theorem lookup_get {α : Type} {x : Str} : ∀ {l : List (Str × α)} {i : Nat} {b : α}, (l.map (·.1)).Nodup → (l.map (·.1))[i]? = some x → (l.map (·.2))[i]? = some b → l.lookup x = some b
  | [], i, b, _, h, _ => by simp at h
  | (y, b') :: l, 0, b, nd, h, h2 => by
    simp at h h2
    subst h h2
    rw [List.lookup_cons, beq_self_eq_true]
  | (y, b') :: l, i + 1, b, nd, h, h2 => by
    rw [List.map_cons, List.nodup_cons] at nd
    rw [List.map_cons, List.getElem?_cons_succ] at h h2
    have hne : x ≠ y := fun e => nd.1 (e ▸ List.mem_of_getElem? h)
    rw [List.lookup_cons, show (x == y) = false from beq_eq_false_iff_ne.mpr hne]
    exact lookup_get nd.2 h h2
theorem fdl_get {K : Fg} {w : Wd} {H : Hp} : ∀ {fs : List Fd} {vs : List V} {as : List Addr} {i : Nat} {d : D}, FdL P K w H fs vs as → fs[i]? = some (.v d) → ∃ v, vs[i]? = some v ∧ Dat P K w.fro H d v
  | [], vs, as, i, d, h, e => by simp at e
  | .v d0 :: fs, vs, as, i, d, h, e => by
    obtain ⟨v, r, rfl, h1, h2⟩ := h
    cases i with
    | zero => simp at e; subst e; exact ⟨v, rfl, h1⟩
    | succ i => simpa using fdl_get h2 (by simpa using e)
  | .d t kvs :: fs, vs, as, i, d, h, e => by
    obtain ⟨a, r, q, rfl, _, _, h2⟩ := h
    cases i with
    | zero => simp at e
    | succ i => simpa using fdl_get h2 (by simpa using e)
theorem fdl_len {K : Fg} {w : Wd} {H : Hp} : ∀ {fs : List Fd} {vs : List V} {as : List Addr}, FdL P K w H fs vs as → vs.length = fs.length
  | [], vs, as, h => by obtain ⟨rfl, _⟩ := h; rfl
  | .v d0 :: fs, vs, as, h => by
    obtain ⟨v, r, rfl, h1, h2⟩ := h
    rw [List.length_cons, List.length_cons, fdl_len h2]
  | .d t kvs :: fs, vs, as, h => by
    obtain ⟨a, r, q, rfl, _, _, h2⟩ := h
    rw [List.length_cons, List.length_cons, fdl_len h2]
theorem fld_at {K : Fg} {w : Wd} {H : Hp} {m m' : M} {x : W} {v : V} {c k : Nat} {y : W} {fname : Str} (hn : (fnm P c)[k]? = some fname) (nd : (fnm P c).Nodup) (hm : MRel P K w H m) (r : WRel P K w H x v) (e : fldW c k x m = .ok y m') :
    ∃ a dx vs u, v = .ref a ∧ H a = some (.ins (ca P K c) dx vs) ∧ vs.lookup fname = some u ∧ WRel P K w H y u ∧ m' = m := by
  unfold fldW at e
  cases x with
  | v d =>
    cases d with
    | obj c' fs =>
      dsimp only at e
      by_cases ec : c = c'
      · rw [if_pos ec] at e
        subst ec
        obtain ⟨a, dx, vs, h1, _, h2, h3, h4⟩ := Dat.obj_iff.mp r
        cases q : fs[k]? with
        | none => rw [q] at e; cases e
        | some d =>
          rw [q] at e
          cases e
          obtain ⟨u, hu, du⟩ := h4.get q
          exact ⟨a, dx, vs, u, h1, h2, lookup_get (by rw [h3]; exact nd) (by rw [h3]; exact hn) hu, du, rfl⟩
      · rw [if_neg ec] at e; cases e
    | _ => cases e
  | c n =>
    dsimp only at e
    cases q : m[n]? with
    | none => rw [q] at e; cases e
    | some cc =>
      rw [q] at e
      cases cc with
      | obj c' fs =>
        dsimp only at e
        by_cases ec : c = c'
        · rw [if_pos ec] at e
          subst ec
          obtain ⟨a, as, h1, h2, h3⟩ := cell_ref hm r q (by intro z; cases z)
          obtain ⟨a', r', dx, vs, e1, h4, h5, h6, h7⟩ := h3
          cases e1
          cases qq : fs[k]? with
          | none => rw [qq] at e; cases e
          | some fd =>
            rw [qq] at e
            cases fd with
            | d t kvs => cases e
            | v d =>
              cases e
              obtain ⟨u, hu, du⟩ := fdl_get h7 qq
              have hk : k < fs.length := (List.getElem?_eq_some_iff.mp qq).1
              refine ⟨a, dx, vs, u, h2, h4, lookup_get (by rw [h6]; exact List.Nodup.sublist (List.take_sublist _ _) nd) (by rw [h6, List.getElem?_take_of_lt hk]; exact hn) hu, du, rfl⟩
        · rw [if_neg ec] at e; cases e
      | _ => cases e
  | _ => cases e
theorem R.opt_exc {α : Type} {x : Option α} {m m' : M} {e : Nat} {fs : List D} (h : R.opt x m = .exc e fs m') : False := by
  cases x <;> cases h
theorem fldW_exc {c k : Nat} {x : W} {m m' : M} {e : Nat} {fs : List D} (h : fldW c k x m = .exc e fs m') : False := by
  unfold fldW at h
  split at h
  · split at h
    · exact R.opt_exc h
    · cases h
  · split at h
    · split at h
      · split at h <;> cases h
      · cases h
    · cases h
  · cases h
theorem e_fld {fname : Str} {c k : Nat} (hn : (fnm P c)[k]? = some fname) (nd : (fnm P c).Nodup) (cl : Cls X.K (ca P X.K c)) (na : NoAttr X.K (ca P X.K c) fname) (hb : plainBase o = true) (ho : PEB P X Wx o fo) :
    PEB P X Wx (.Attribute o fname pos) fun ρ m => (fo ρ m).bnd (fldW c k) := by
  refine .of (PE.imp (pe_fld ho.pe (base_eq hb)) fun σ H Q ⟨w, ρ, m, hm, hs, p⟩ => ?_) fun _ => rfl
  dsimp only at p
  refine ⟨w, ρ, m, hm, hs, (p.bnd (WRel P X.K)).mono fun z H1 ⟨x, w1, m1, X1, M1, R1, p1⟩ => ?_⟩
  cases e : fldW c k x m1 with
  | bad => rw [e] at p1; exact p1.elim
  | exc cc fs m2 => exact (fldW_exc e).elim
  | ok y m2 =>
    rw [e] at p1
    obtain ⟨a, dx, vs, u, h1, h2, h3, h4, h5⟩ := fld_at hn nd M1 R1 e
    subst h5
    exact ⟨a, _, dx, vs, u, h1, h2, cl, na, h3, p1 u w1 H1 .rfl M1 h4⟩
end
end MP
end
section
set_option  maxHeartbeats  4000000
/-! Dicts. -/
namespace MP
open PySem PySem.Spec PyProof.Rows L2
theorem DK.key_inj {a b : DK} (h : a.key = b.key) : a = b := by
  cases a with
  | i n =>
    cases b with
    | i k => exact congrArg DK.i (Sum.inl.inj h)
    | s k => cases h
  | s n =>
    cases b with
    | i k => cases h
    | s k => exact congrArg DK.s (ts_inj (Sum.inr.inj h))
theorem DKs.key_inj : ∀ {a b : List DK}, a.map DK.key = b.map DK.key → a = b
  | [], [], _ => rfl
  | [], _ :: _, h => by cases h
  | _ :: _, [], h => by cases h
  | x :: a, y :: b, h => by
    rw [List.map_cons, List.map_cons] at h
    rw [DK.key_inj (List.cons.inj h).1, DKs.key_inj (List.cons.inj h).2]
section
variable {P : Prog} {K : Fg} {fro : Addr → Prop} {H : Hp}
def ORel (P : Prog) (K : Fg) (fro : Addr → Prop) (H : Hp) : Option D → Option V → Prop
  | none, none => True
  | some d, some v => Dat P K fro H d v
  | _, _ => False
theorem DatK.val : ∀ {kvs : List (DKey × D)} {kv : List (Key × V)} (k : DK), DatK P K fro H kvs kv → ORel P K fro H (kvs.lookup (.k k)) (valV kv k.key)
  | [], kv, k, h => by
    unfold DatK at h
    subst h
    exact True.intro
  | (q, d) :: kvs, kv, k, h => by
    unfold DatK at h
    obtain ⟨a, v, r, rfl, rfl, h1, h2⟩ := h
    by_cases e : a = k
    · subst e
      rw [List.lookup_cons, beq_self_eq_true, valV_pos rfl]
      exact h1
    · rw [List.lookup_cons, show (DKey.k k == DKey.k a) = false from beq_eq_false_iff_ne.mpr (fun z => e (DKey.k.inj z).symm), valV_neg (show ¬ a.key = k.key from fun z => e (DK.key_inj z))]
      exact DatK.val k h2
theorem DatT.val : ∀ {kvs : List (DKey × D)} {kv : List (List Key × V)} (k : List DK), DatT P K fro H kvs kv → ORel P K fro H (kvs.lookup (.t k)) (valV kv (k.map DK.key))
  | [], kv, k, h => by
    unfold DatT at h
    subst h
    exact True.intro
  | (q, d) :: kvs, kv, k, h => by
    unfold DatT at h
    obtain ⟨a, v, r, rfl, rfl, h1, h2⟩ := h
    by_cases e : a = k
    · subst e
      rw [List.lookup_cons, beq_self_eq_true, valV_pos rfl]
      exact h1
    · rw [List.lookup_cons, show (DKey.t k == DKey.t a) = false from beq_eq_false_iff_ne.mpr (fun z => e (DKey.t.inj z).symm), valV_neg (show ¬ a.map DK.key = k.map DK.key from fun z => e (DKs.key_inj z))]
      exact DatT.val k h2
theorem DatK.allK : ∀ {kvs : List (DKey × D)} {kv : List (Key × V)}, DatK P K fro H kvs kv → kvs.all isK = true
  | [], kv, h => rfl
  | (q, d) :: kvs, kv, h => by
    unfold DatK at h
    obtain ⟨a, v, r, rfl, rfl, h1, h2⟩ := h
    rw [List.all_cons, DatK.allK h2]
    rfl
theorem DatK.length : ∀ {kvs : List (DKey × D)} {kv : List (Key × V)}, DatK P K fro H kvs kv → kv.length = kvs.length
  | [], kv, h => by unfold DatK at h; subst h; rfl
  | (q, d) :: kvs, kv, h => by
    unfold DatK at h
    obtain ⟨a, v, r, rfl, rfl, h1, h2⟩ := h
    rw [List.length_cons, List.length_cons, DatK.length h2]
/-- keys of the other kind are not there -/
theorem DatK.no_t : ∀ {kvs : List (DKey × D)} {kv : List (Key × V)} (k : List DK), DatK P K fro H kvs kv → kvs.lookup (.t k) = none
  | [], kv, k, h => rfl
  | (q, d) :: kvs, kv, k, h => by
    unfold DatK at h
    obtain ⟨a, v, r, rfl, rfl, h1, h2⟩ := h
    rw [List.lookup_cons, show (DKey.t k == DKey.k a) = false from beq_eq_false_iff_ne.mpr (fun z => nomatch z)]
    exact DatK.no_t k h2
theorem DatT.no_k : ∀ {kvs : List (DKey × D)} {kv : List (List Key × V)} (k : DK), DatT P K fro H kvs kv → kvs.lookup (.k k) = none
  | [], kv, k, h => rfl
  | (q, d) :: kvs, kv, k, h => by
    unfold DatT at h
    obtain ⟨a, v, r, rfl, rfl, h1, h2⟩ := h
    rw [List.lookup_cons, show (DKey.k k == DKey.t a) = false from beq_eq_false_iff_ne.mpr (fun z => nomatch z)]
    exact DatT.no_k k h2
end
section
variable {P : Prog} {X : Cx} {pins : List (Addr × Obj)} {s : Shared} {σ : L2.St} {H : Hp} {w : Wd} {m : M}
theorem key_is {b : Addr} {vs : List V} {ks : List Key} (I : Inv X pins σ H s) (q : SqT X.K H b vs) (e : vs = ks.map kV) : (tupleKind (mixKind X.prog X.w)).is s.heap ks b := by
  obtain ⟨its, r, t, hz⟩ := I.tuple q
  subst e
  obtain ⟨o, h1, h2, n, h3⟩ := t
  exact ⟨o, its.toArray, n, h1, h2, h3, by simpa using items_are r⟩
def OVal (P : Prog) (K : Fg) (fro : Addr → Prop) (H : Hp) : Option D → Option Value → Prop
  | none, none => True
  | some d, some u => ∃ v, RelV v u ∧ Dat P K fro H d v
  | _, _ => False
theorem OVal.of {r : Option D} {o : Option V} {u : Option Value} (h1 : ORel P X.K w.fro H r o) (h2 : RelO o u) : OVal P X.K w.fro H r u := by
  cases r with
  | none =>
    cases o with
    | none => cases u with
      | none => exact True.intro
      | some _ => exact h2.elim
    | some _ => exact h1.elim
  | some d =>
    cases o with
    | none => exact h1.elim
    | some v => cases u with
      | none => exact h2.elim
      | some u => exact ⟨v, h2, h1⟩
theorem OVal.some {d : D} {u : Option Value} (h : OVal P X.K w.fro H (some d) u) : ∃ u' v, u = Option.some u' ∧ RelV v u' ∧ Dat P X.K w.fro H d v := by
  cases u with
  | none => exact h.elim
  | some u => obtain ⟨v, h1, h2⟩ := h; exact ⟨u, v, rfl, h1, h2⟩
theorem OVal.isSome {r : Option D} {u : Option Value} (h : OVal P X.K w.fro H r u) : u.isSome = r.isSome := by
  cases r <;> cases u <;> first | rfl | exact h.elim
/-- a dict of plain keys, in the heap -/
theorem dk_at {kvs : List (DKey × D)} {x : V} (I : Inv X pins σ H s) (v1 : Vw P X.K w H (.dct kvs) x) (hk : kvs.all isK = true) : ∃ a vs, x = .ref a ∧ (a == sysModules) = false ∧ s.heap.DictOf (mixKind X.prog X.w) a vs ∧ vs.length ≤ sizeLine ∧ (∀ z : DK, OVal P X.K w.fro H (kvs.lookup (.k z)) (valueAt vs z.key)) ∧ vs.length = kvs.length := by
  obtain ⟨a, rfl, v1⟩ := v1
  rcases v1 with ⟨kv, r1, d1⟩ | ⟨kv, r1, d1⟩
  · obtain ⟨hz, hs, vs, rel, dd⟩ := dk_rd I.hok r1
    refine ⟨a, vs, rfl, hs, dd, by rw [← rel.length]; exact hz, fun z => OVal.of (d1.val z) (rel.val z.key), ?_⟩
    rw [← rel.length]
    exact d1.length
  · cases kvs with
    | nil =>
      unfold DatT at d1
      subst d1
      obtain ⟨hz, hs, xs, rel, o, es, ep, h1, h2, h3, h4, h5, h6⟩ := dt_of I.hok r1
      cases rel
      have he : es = #[] := by
        have : es.toList = [] := h4
        exact Array.toList_inj.mp this
      subst he
      refine ⟨a, [], rfl, hs, ⟨o, #[], ep, h1, h2, h3, ?_, ?_, List.nodup_nil⟩, Nat.zero_le _, fun z => True.intro, rfl⟩
      · intro e he
        exact absurd he (by simp)
      · exact .nil
    | cons q kvs =>
      obtain ⟨q1, q2⟩ := q
      unfold DatT at d1
      obtain ⟨l, v, r, rfl, _⟩ := d1
      cases hk
theorem k_val {q : D} {z : DK} {y : V} {u : Value} (v2 : Vw P X.K w H q y) (ry : RelV y u) (e : keyOf q = some (.k z)) : (mixKind X.prog X.w).is z.key u = true := by
  rcases key_rel v2 e with ⟨z', ez, ey⟩ | ⟨l, p, ez, _⟩
  · cases ez
    subst ey
    exact kV_is ry
  · cases ez
/-- d[q] -/
theorem dget_run {kvs : List (DKey × D)} {q d : D} {k : DKey} {x y : V} {v u : Value} {Q : VK} (hu : X.A.units + 65 < cLine) (I : Inv X pins σ H s) (rx : RelV x v) (ry : RelV y u) (v1 : Vw P X.K w H (.dct kvs) x) (v2 : Vw P X.K w H q y) (ek : keyOf q = some k) (el : kvs.lookup k = some d)
    (fin : ∀ zv, Dat P X.K w.fro H d zv → Q zv H) (value slice : Expr) (hs : subscripted slice false v u = operate [v, u] (getItem v u)) : wpAny (model X.prog X.w) X.A (subscriptTail value slice v u) (EP X pins σ Q) X.xe s := by
  cases k with
  | k z =>
    obtain ⟨a, rfl, v1'⟩ := id v1
    have ha : kvs.all isK = true := by
      rcases v1' with ⟨kv, r1, d1⟩ | ⟨kv, r1, d1⟩
      · exact d1.allK
      · rw [d1.no_k z] at el; cases el
    obtain ⟨a', vs, ea, hs', dd, _, hv, _⟩ := dk_at I v1 ha
    cases ea
    obtain rfl : v = Value.ref a := rx
    have o := hv z
    rw [el] at o
    obtain ⟨u', zv, e1, r1, d1⟩ := OVal.some o
    exact subscriptTail_builtinR (x := u') dd.typeIs PySem.F.slot_dict_getitem.lookup (wpAny_getItem_of (k_val v2 ry ek) dd.mapOf e1 ⟨rfl, zv, H, I.tok _, r1, fin zv d1⟩) hs
  | t z =>
    obtain ⟨a, rfl, v1'⟩ := id v1
    obtain rfl : v = Value.ref a := rx
    rcases v1' with ⟨kv, r1, d1⟩ | ⟨kv, r1, d1⟩
    · rw [d1.no_t z] at el; cases el
    · rcases key_rel v2 ek with ⟨z', ez, ey⟩ | ⟨l, p, ez, ey, ws, sq, ev⟩
      · cases ez
      · cases ez
        subst ey
        obtain rfl : u = Value.ref p := ry
        obtain ⟨hz, hs', xs, rel, dd⟩ := dt_of I.hok r1
        have o := OVal.of (d1.val z) (rel.val (z.map DK.key))
        rw [el] at o
        obtain ⟨u', zv, e1, r2, d2⟩ := OVal.some o
        obtain ⟨pp, hp, hp2⟩ := Option.map_eq_some_iff.mp e1
        refine subscriptTail_builtinR (x := u') dd.typeIs PySem.F.slot_dict_getitem.lookup (wpAny_getItem_heap (tupleKind_room_in1 (by omega)) (key_is I sq ev) dd hp ?_) hs
        rw [hp2]
        exact ⟨rfl, zv, H, I.tok _, r2, fin zv d2⟩
/-- q in d, q not in d -/
theorem din_run {kvs : List (DKey × D)} {q : D} {z : DK} {x y : V} {v u : Value} {Q : VK} {neg : Bool} (I : Inv X pins σ H s) (rx : RelV x v) (ry : RelV y u) (v1 : Vw P X.K w H (.dct kvs) x) (v2 : Vw P X.K w H q y) (ek : keyOf q = some (.k z)) (ha : kvs.all isK = true)
    (fin : Q (.bl (if neg then !(kvs.lookup (.k z)).isSome else (kvs.lookup (.k z)).isSome)) H) : wpAny (model X.prog X.w) X.A (compareOp (if neg then .NotIn else .In) u v) (EP X pins σ Q) X.xe s := by
  obtain ⟨a, vs, rfl, hs', dd, _, hv, _⟩ := dk_at I v1 ha
  obtain rfl : v = Value.ref a := rx
  have o := (hv z).isSome
  rw [← o] at fin
  cases neg with
  | false => exact wpAny_in_of (k_val v2 ry ek) hs' dd.mapOf ⟨.bl _, H, I.tok _, rfl, fin⟩
  | true => exact wpAny_notIn_of (k_val v2 ry ek) hs' dd.mapOf ⟨.bl _, H, I.tok _, rfl, fin⟩
end
end MP
end
section
set_option  maxHeartbeats  4000000
/-! Subscripts, slices, isinstance, builtins. -/
namespace MP
open PySem PySem.Spec PyProof.Rows L2
section
variable {P : Prog} {hd : Hd} {X : Cx} {Wx : WX} {pos apos p0 : Pos} {es : List Expr} {fl : List W → M → R (List W)} {a b : Expr} {fa fb : List W → M → R W}
/-- a builtin, by values -/
def CallW (P : Prog) (X : Cx) (Wx : WX) (fv : Value) (g : List W → M → R W) : Prop :=
  ∀ (pins : List (Addr × Obj)) (s : Shared) (σ : L2.St) (H : Hp) (vs : List V) (us : List Value) (Q : VK) (w : Wd) (m : M) (ws : List W), Inv X pins σ H s → Vals vs us → MRel P X.K w H m → WsRel P X.K w H ws vs →
    Post P X.K (WRel P X.K) w H (g ws m) Q (fun cls d H' => Wx cls d σ H') → wpAny (model X.prog X.w) X.A (call fv us) (EP X pins σ Q) X.xe s
theorem e_callB {id : String} {x : Str} {g : List W → M → R W} (hc : CallW P X Wx (.builtin id) g) (hg : Gl X x) (hm : X.mg x = none) (hv : bootBuiltins x = some (.builtin id)) (hn : x ≠ "__name__") (hdb : (x == ("__debug__" : Str)) = false) (ne : es ≠ []) (h : PAr P X Wx es fl) :
    PEB P X Wx (.Call (.Name x p0) es [] pos) fun ρ m => (fl ρ m).bnd g := by
  cases es with
  | nil => exact absurd rfl ne
  | cons e es =>
    have st := h.st
    rw [List.all_cons] at st
    obtain ⟨st1, st2⟩ := Bool.and_eq_true_iff.mp st
    refine .of ⟨fun pins s σ H Q I q => ?_⟩ fun _ => rfl
    obtain ⟨w, ρ, m, hm', hs, p⟩ := q
    refine wpAny_Call_Name_kw (ld_blt I hg hm hv ?_ hn hdb)
    exact PyProof.Rows.callWith_builtin1 (thn (h.pa.run pos pins s σ H _ I (rA_step p hm' hs)) fun us s1 ⟨vs, H1, I1, r, as, w1, m1, M1, S1, R1, X1, p1⟩ => hc pins s1 σ H1 vs us Q w1 m1 as I1 r M1 R1 p1) (starEach_cons st1) (noStars_any st2)
theorem e_callT {id : String} {x : Str} {g : List W → M → R W} (hc : CallW P X Wx (.type id) g) (hg : Gl X x) (hm : X.mg x = none) (hv : bootBuiltins x = some (.type id)) (hn : x ≠ "__name__") (hdb : (x == ("__debug__" : Str)) = false) (ne : es ≠ []) (h : PAr P X Wx es fl) :
    PEB P X Wx (.Call (.Name x p0) es [] pos) fun ρ m => (fl ρ m).bnd g := by
  cases es with
  | nil => exact absurd rfl ne
  | cons e es =>
    have st := h.st
    rw [List.all_cons] at st
    obtain ⟨st1, st2⟩ := Bool.and_eq_true_iff.mp st
    refine .of ⟨fun pins s σ H Q I q => ?_⟩ fun _ => rfl
    obtain ⟨w, ρ, m, hm', hs, p⟩ := q
    refine wpAny_Call_Name_kw (ld_blt I hg hm hv ?_ hn hdb)
    exact PyProof.Rows.callWith_type1 (thn (h.pa.run pos pins s σ H _ I (rA_step p hm' hs)) fun us s1 ⟨vs, H1, I1, r, as, w1, m1, M1, S1, R1, X1, p1⟩ => hc pins s1 σ H1 vs us Q w1 m1 as I1 r M1 R1 p1) (starEach_cons st1) (noStars_any st2)
/-! ### places -/
theorem place_ix (n : Nat) (i : Int) : place n i = ixN n i := by
  unfold place ixN
  by_cases h : 0 ≤ i
  · rw [if_pos h, if_pos h]
    by_cases h2 : i < n
    · rw [if_pos h2, if_pos (by omega)]
    · rw [if_neg h2, if_neg (by omega)]
  · rw [if_neg h, if_neg h]
    by_cases h2 : -(n : Int) ≤ i
    · rw [if_pos h2, if_pos (by omega)]
      congr 1
      omega
    · rw [if_neg h2, if_neg (by omega)]
theorem DatL.atI {K : Fg} {w : Wd} {H : Hp} {ds : List D} {vs : List V} {i : Int} {d : D} (h : DatL P K w.fro H ds vs) (e : ((place ds.length i).bind fun k => ds[k]?) = some d) : ∃ v, L2.atI vs i = some v ∧ Dat P K w.fro H d v := by
  rw [place_ix, ← h.length] at e
  cases q : ixN vs.length i with
  | none => rw [q] at e; cases e
  | some j =>
    rw [q] at e
    obtain ⟨v, h1, h2⟩ := h.get (show ds[j]? = some d from e)
    exact ⟨v, by unfold L2.atI; rw [q]; exact h1, h2⟩
def plainIx : Expr → Bool
  | .Slice _ _ none _ => false
  | _ => true
theorem plainIx_ok (h : plainIx b = true) : PlainIx b := by
  intro o i
  unfold subscripted
  cases b with
  | Slice lo hi st p =>
    cases st with
    | none => cases h
    | some _ => rfl
  | _ => rfl
/-- a[b], a list, a tuple, a text -/
theorem e_idx {g : W → W → M → R W} (hr : ∀ (value slice : Expr) (pins : List (Addr × Obj)) (s : Shared) (σ : L2.St) (H : Hp) (x y : V) (v u : Value) (Q : VK) (w : Wd) (m : M) (a1 a2 : W), Inv X pins σ H s → RelV x v → RelV y u → MRel P X.K w H m → WRel P X.K w H a1 x → WRel P X.K w H a2 y → Post P X.K (WRel P X.K) w H (g a1 a2 m) Q (fun cls d H' => Wx cls d σ H') →
    subscripted slice false v u = operate [v, u] (getItem v u) → wpAny (model X.prog X.w) X.A (subscriptTail value slice v u) (EP X pins σ Q) X.xe s) (ha : PEB P X Wx a fa) (hb : PEB P X Wx b fb) (hs : plainIx b = true) :
    PEB P X Wx (.Subscript a b pos) fun ρ m => (fa ρ m).bnd fun x m1 => (fb ρ m1).bnd fun y m2 => g x y m2 := by
  refine .of ⟨fun pins s σ H Q I h => ?_⟩ fun _ => rfl
  obtain ⟨w, ρ, m, hm, hs', p⟩ := h
  refine Subscript_ (thn (ha.pe.run pins s σ H _ I (rE_step p hm hs')) fun v s1 ⟨x, H1, I1, r1, a1, w1, m1, M1, S1, R1, X1, p1⟩ => ?_)
  refine thn (hb.pe.run pins s1 σ H1 _ I1 (rE_step p1 M1 S1)) fun u s2 ⟨y, H2, I2, r2, a2, w2, m2, M2, S2, R2, X2, p2⟩ => ?_
  exact hr a b pins s2 σ H2 x y v u Q w2 m2 a1 a2 I2 r1 r2 M2 (R1.mono X2) R2 p2 (plainIx_ok hs _ _)
theorem idx_run (hu : X.A.units + 65 < cLine) (value slice : Expr) (pins : List (Addr × Obj)) (s : Shared) (σ : L2.St) (H : Hp) (x y : V) (v u : Value) (Q : VK) (w : Wd) (m : M) (a1 a2 : W) (I : Inv X pins σ H s) (rx : RelV x v) (ry : RelV y u) (hm : MRel P X.K w H m) (h1 : WRel P X.K w H a1 x) (h2 : WRel P X.K w H a2 y)
    (p : Post P X.K (WRel P X.K) w H (idxW a1 a2 m) Q (fun cls d H' => Wx cls d σ H')) (hs : subscripted slice false v u = operate [v, u] (getItem v u)) : wpAny (model X.prog X.w) X.A (subscriptTail value slice v u) (EP X pins σ Q) X.xe s := by
  unfold idxW at p
  cases e1 : vw m a1 with
  | none => rw [e1] at p; exact p.elim
  | some d =>
    cases e2 : vw m a2 with
    | none => rw [e1, e2] at p; exact p.elim
    | some q =>
      rw [e1, e2] at p
      dsimp only at p
      have v1 := vw_rel hm h1 e1
      have v2 := vw_rel hm h2 e2
      cases e3 : idxD d q with
      | none => rw [e3] at p; exact p.elim
      | some z =>
        rw [e3] at p
        have fin : ∀ zv, Dat P X.K w.fro H z zv → Q zv H := fun zv hz => Post.flat p hm hz
        cases d with
        | lst xs =>
          cases q with
          | int i =>
            obtain ⟨pa, vs, rfl, ra, la⟩ := v1
            cases Vw.int v2
            obtain ⟨zv, hz, dz⟩ := la.atI e3
            exact ix_list value slice pins s σ H _ _ v u Q I rx ry ⟨pa, vs, i, zv, rfl, rfl, .inl ra, hz, fin zv dz⟩ hs
          | _ => cases e3
        | tup xs =>
          cases q with
          | int i =>
            obtain ⟨pa, vs, rfl, ra, la⟩ := v1
            cases Vw.int v2
            obtain ⟨zv, hz, dz⟩ := la.atI e3
            exact ix_tup value slice pins s σ H _ _ v u Q I rx ry ⟨pa, vs, i, zv, rfl, rfl, ra, hz, fin zv dz⟩ hs
          | _ => cases e3
        | str xs =>
          cases q with
          | int i =>
            cases Vw.str v1
            cases Vw.int v2
            dsimp only [idxD] at e3
            by_cases hz : sizeOk xs.length = true
            · rw [if_pos hz, place_ix] at e3
              cases q1 : ixN xs.length i with
              | none => rw [q1] at e3; cases e3
              | some j =>
                rw [q1] at e3
                dsimp only [Option.bind] at e3
                cases q2 : xs[j]? with
                | none => rw [q2] at e3; cases e3
                | some c =>
                  rw [q2] at e3
                  cases e3
                  refine ix_str value slice pins s σ H _ _ v u Q I rx ry ⟨ts xs, i, c, rfl, rfl, by rw [ts_len]; exact sizeOk_line hz, ?_, fin _ (Dat.str_iff.mpr rfl)⟩ hs
                  show L2.atI (ts xs).cps.toList i = some c
                  have e4 : (ts xs).cps.toList = xs := by simp [ts]
                  rw [e4]
                  unfold L2.atI
                  rw [q1]
                  exact q2
            · rw [if_neg hz] at e3; cases e3
          | _ => cases e3
        | dct kvs =>
          dsimp only [idxD] at e3
          cases ek : keyOf q with
          | none => rw [ek] at e3; cases e3
          | some k =>
            rw [ek] at e3
            exact dget_run hu I rx ry v1 v2 ek e3 fin value slice hs
        | _ => cases q <;> cases e3
end
end MP
end
section
set_option  maxHeartbeats  4000000
/-! == and != of two lists, item by item, where each item's == may do work. -/
namespace MPQ
open PySem PySem.SeqAt GQ
open AutoSeq1 (wpAny_loadPart')
open MeetsSeq MeetsSeq2 MeetsSeq3 SeqRoads2
section
variable {prog : Program} {w : World} {A : Around} {R : Result → Shared → Prop}
/-- both lists are there, of N items; the i-th two compare as r says -/
def LR (prog : Program) (w : World) (A : Around) (E : Value → Shared → Prop) (l b : Addr) (N : Nat) (r : Nat → Bool) (I : Shared → Prop) : Prop :=
  ∀ i s, I s → i ≤ N → (∀ j, j < i → r j = true) → ∃ (xs ys : Array Value) (n n2 : Nat), s.heap.get? l = some { cls := .type "list", data := .seq xs n } ∧ s.heap.get? b = some { cls := .type "list", data := .seq ys n2 } ∧ xs.size = N ∧ ys.size = N ∧
    ∀ (h1 : i < xs.size) (h2 : i < ys.size), wpAny (model prog w) A.in1 (eqBool xs[i] ys[i]) (fun q s' => q = r i ∧ I s') E s
theorem all_of_upto {r : Nat → Bool} {N : Nat} (h : ∀ j, j < N → r j = true) : (List.range N).all r = true := by
  rw [List.all_eq_true]
  intro j hj
  exact h j (List.mem_range.mp hj)
theorem all_not {r : Nat → Bool} {N i : Nat} (hi : i < N) (h : r i = false) : (List.range N).all r = false := by
  rw [List.all_eq_false]
  exact ⟨i, List.mem_range.mpr hi, by rw [h]; exact Bool.false_ne_true⟩
theorem loop_eq (l b : Addr) (N : Nat) (r : Nat → Bool) (I : Shared → Prop) (hl : LR prog w A (fun e s' => R (.error e) s') l b N r I)
    (fin : ∀ s, I s → R (.ok (.ret (.bool ((List.range N).all r)))) s) (k : Nat) :
    ∀ i : Nat, N - i = k → i ≤ N → (∀ j, j < i → r j = true) → ∀ s, I s →
      wpAny (model prog w) A.in1 (Builtin.«list.__eq__.loop» ⟨[.ref l, .ref b, rawInt i, rawInt 2], []⟩) (FinOf prog w A R) (fun e s' => R (.error e) s') s := by
  induction k with
  | zero =>
    intro i hk hi hj s h
    obtain ⟨xs, ys, n, n2, g1, g2, z1, z2, _⟩ := hl _ _ h hi hj
    have hN : i = N := by omega
    have hR := fin s h
    rw [all_of_upto (hN ▸ hj)] at hR
    obtain ⟨hp, g, d, tk, os⟩ := s
    wp_walk using wpAny_loadPart' g1, wpAny_loadPart' g2
    have e1 : xs[((i : Nat) : Int).toNat]? = none := by simp; omega
    have e2 : ys[((i : Nat) : Int).toNat]? = none := by simp; omega
    rw [e1, e2]
    wp_walk using wpAny_loadPart' g1, wpAny_loadPart' g2
    show R (.ok (.ret (.bool (xs.size == ys.size)))) _
    rw [z1, z2]
    simpa using hR
  | succ k ih =>
    intro i hk hi hj s h
    obtain ⟨xs, ys, n, n2, g1, g2, z1, z2, turn⟩ := hl _ _ h hi hj
    have l1 : i < xs.size := by omega
    have l2 : i < ys.size := by omega
    have ht := turn l1 l2
    obtain ⟨hp, g, d, tk, os⟩ := s
    wp_walk using wpAny_loadPart' g1, wpAny_loadPart' g2
    have e1 : xs[((i : Nat) : Int).toNat]? = some xs[i] := by simp [l1]
    have e2 : ys[((i : Nat) : Int).toNat]? = some ys[i] := by simp [l2]
    have hc : ((i : Int) + 1) = ((i + 1 : Nat) : Int) := by omega
    rw [e1, e2]
    refine wpAny_bind (wpAny_mono ht (fun q s2 h2 => ?_) fun _ _ x => x)
    obtain ⟨hq, h2⟩ := h2
    subst hq
    cases hr : r i with
    | true =>
      have hrec := ih (i + 1) (by omega) (by omega) (fun j hj' => by
        rcases Nat.lt_or_ge j i with c | c
        · exact hj j c
        · have : j = i := by omega
          rw [this]; exact hr) s2 h2
      obtain ⟨hp2, g2', d2, tk2, os2⟩ := s2
      wp_walk
      rw [hc]
      exact ⟨plainId_quiet plain_eq_loop _, codeAny_builtin entry_eq_loop (by
        rw [Around.under_plainId plain_eq_loop _]
        exact hrec)⟩
    | false =>
      obtain ⟨xs', ys', n', n2', g1', g2', z1', z2', _⟩ := hl _ _ h2 hi hj
      have hR := fin s2 h2
      rw [all_not (by omega) hr] at hR
      obtain ⟨hp2, gg2, d2, tk2, os2⟩ := s2
      have e1' : xs'[((i : Nat) : Int).toNat]? = some xs'[i] := by simp
      have e2' : ys'[((i : Nat) : Int).toNat]? = some ys'[i] := by simp
      wp_walk using wpAny_loadPart' g1', wpAny_loadPart' g2'
      rw [e1', e2']
      wp_walk
      simpa using hR
theorem loop_ne (l b : Addr) (N : Nat) (r : Nat → Bool) (I : Shared → Prop) (hl : LR prog w A (fun e s' => R (.error e) s') l b N r I)
    (fin : ∀ s, I s → R (.ok (.ret (.bool (!(List.range N).all r)))) s) (k : Nat) :
    ∀ i : Nat, N - i = k → i ≤ N → (∀ j, j < i → r j = true) → ∀ s, I s →
      wpAny (model prog w) A.in1 (Builtin.«list.__eq__.loop» ⟨[.ref l, .ref b, rawInt i, rawInt 3], []⟩) (FinOf prog w A R) (fun e s' => R (.error e) s') s := by
  induction k with
  | zero =>
    intro i hk hi hj s h
    obtain ⟨xs, ys, n, n2, g1, g2, z1, z2, _⟩ := hl _ _ h hi hj
    have hN : i = N := by omega
    have hR := fin s h
    rw [all_of_upto (hN ▸ hj)] at hR
    obtain ⟨hp, g, d, tk, os⟩ := s
    wp_walk using wpAny_loadPart' g1, wpAny_loadPart' g2
    have e1 : xs[((i : Nat) : Int).toNat]? = none := by simp; omega
    have e2 : ys[((i : Nat) : Int).toNat]? = none := by simp; omega
    rw [e1, e2]
    wp_walk using wpAny_loadPart' g1, wpAny_loadPart' g2
    show R (.ok (.ret (.bool (xs.size != ys.size)))) _
    rw [z1, z2]
    simpa using hR
  | succ k ih =>
    intro i hk hi hj s h
    obtain ⟨xs, ys, n, n2, g1, g2, z1, z2, turn⟩ := hl _ _ h hi hj
    have l1 : i < xs.size := by omega
    have l2 : i < ys.size := by omega
    have ht := turn l1 l2
    obtain ⟨hp, g, d, tk, os⟩ := s
    wp_walk using wpAny_loadPart' g1, wpAny_loadPart' g2
    have e1 : xs[((i : Nat) : Int).toNat]? = some xs[i] := by simp [l1]
    have e2 : ys[((i : Nat) : Int).toNat]? = some ys[i] := by simp [l2]
    have hc : ((i : Int) + 1) = ((i + 1 : Nat) : Int) := by omega
    rw [e1, e2]
    refine wpAny_bind (wpAny_mono ht (fun q s2 h2 => ?_) fun _ _ x => x)
    obtain ⟨hq, h2⟩ := h2
    subst hq
    cases hr : r i with
    | true =>
      have hrec := ih (i + 1) (by omega) (by omega) (fun j hj' => by
        rcases Nat.lt_or_ge j i with c | c
        · exact hj j c
        · have : j = i := by omega
          rw [this]; exact hr) s2 h2
      obtain ⟨hp2, g2', d2, tk2, os2⟩ := s2
      wp_walk
      rw [hc]
      exact ⟨plainId_quiet plain_eq_loop _, codeAny_builtin entry_eq_loop (by
        rw [Around.under_plainId plain_eq_loop _]
        exact hrec)⟩
    | false =>
      obtain ⟨xs', ys', n', n2', g1', g2', z1', z2', _⟩ := hl _ _ h2 hi hj
      have hR := fin s2 h2
      rw [all_not (by omega) hr] at hR
      obtain ⟨hp2, gg2, d2, tk2, os2⟩ := s2
      have e1' : xs'[((i : Nat) : Int).toNat]? = some xs'[i] := by simp
      have e2' : ys'[((i : Nat) : Int).toNat]? = some ys'[i] := by simp
      wp_walk using wpAny_loadPart' g1', wpAny_loadPart' g2'
      rw [e1', e2']
      wp_walk
      simpa using hR
theorem body_eq (l b : Addr) (N : Nat) (r : Nat → Bool) (I : Shared → Prop) (hl : LR prog w A (fun e s' => R (.error e) s') l b N r I)
    (fin : ∀ s, I s → R (.ok (.ret (.bool ((List.range N).all r)))) s) {s : Shared} (h : I s) :
    wpAny (model prog w) A.in1 (Builtin.«list.__eq__» ⟨[.ref l, .ref b], []⟩) (FinOf prog w A R) (fun e s' => R (.error e) s') s := by
  obtain ⟨xs, ys, n, n2, g1, g2, z1, z2, _⟩ := hl 0 _ h (Nat.zero_le _) (fun j hj => absurd hj (Nat.not_lt_zero j))
  have hrec := loop_eq (A := A) (R := R) l b N r I hl fin _ 0 rfl (Nat.zero_le _) (fun j hj => absurd hj (Nat.not_lt_zero j)) s h
  obtain ⟨hp, g, d, tk, os⟩ := s
  have f3 := AutoSeq1.sub_list_list
  have hne : ¬ (xs.size != ys.size) = true := by simp [z1, z2]
  wp_walk using wpAny_loadPart' g1, wpAny_loadPart' g2
  exact ⟨plainId_quiet plain_eq_loop _, codeAny_builtin entry_eq_loop (by
    rw [Around.under_plainId plain_eq_loop _]
    exact hrec)⟩
theorem body_ne (l b : Addr) (N : Nat) (r : Nat → Bool) (I : Shared → Prop) (hl : LR prog w A (fun e s' => R (.error e) s') l b N r I)
    (fin : ∀ s, I s → R (.ok (.ret (.bool (!(List.range N).all r)))) s) {s : Shared} (h : I s) :
    wpAny (model prog w) A.in1 (Builtin.«list.__ne__» ⟨[.ref l, .ref b], []⟩) (FinOf prog w A R) (fun e s' => R (.error e) s') s := by
  obtain ⟨xs, ys, n, n2, g1, g2, z1, z2, _⟩ := hl 0 _ h (Nat.zero_le _) (fun j hj => absurd hj (Nat.not_lt_zero j))
  have hrec := loop_ne (A := A) (R := R) l b N r I hl fin _ 0 rfl (Nat.zero_le _) (fun j hj => absurd hj (Nat.not_lt_zero j)) s h
  obtain ⟨hp, g, d, tk, os⟩ := s
  have f3 := AutoSeq1.sub_list_list
  have hne : ¬ (xs.size != ys.size) = true := by simp [z1, z2]
  wp_walk using wpAny_loadPart' g1, wpAny_loadPart' g2
  exact ⟨plainId_quiet plain_eq_loop _, codeAny_builtin entry_eq_loop (by
    rw [Around.under_plainId plain_eq_loop _]
    exact hrec)⟩
end
section
variable {prog : Program} {w : World} {A : Around} {E : Value → Shared → Prop} {s : Shared}
theorem rc_eqL {l b : Addr} {N : Nat} {r : Nat → Bool} {Q : Value → Shared → Prop} (hu : A.units < cLine) (I : Shared → Prop) (hl : LR prog w A E l b N r I)
    (fin : ∀ s, I s → Q (.bool ((List.range N).all r)) s) (h : I s) : wpAny (model prog w) A (richCompare .Eq (.ref l) (.ref b)) Q E s := by
  obtain ⟨xs, ys, n, n2, g1, g2, z1, z2, _⟩ := hl 0 _ h (Nat.zero_le _) (fun j hj => absurd hj (Nat.not_lt_zero j))
  refine wpAny_richCompare_same_room (op := .Eq) ⟨_, g1, rfl⟩ ⟨_, g2, rfl⟩ F.slot_list_eq (call_here F.slot_list_eq ⟨_, g1, rfl⟩ F.entry_list_eq (F.args_list_eq_2 _ _) ?_) hu
  exact body_eq (R := wants (fun v s' => v ≠ .notImplemented ∧ Q v s') E) l b N r I hl (fun s' q => ⟨(fun x => nomatch x), fin s' q⟩) h
theorem rc_neL {l b : Addr} {N : Nat} {r : Nat → Bool} {Q : Value → Shared → Prop} (hu : A.units < cLine) (I : Shared → Prop) (hl : LR prog w A E l b N r I)
    (fin : ∀ s, I s → Q (.bool (!(List.range N).all r)) s) (h : I s) : wpAny (model prog w) A (richCompare .NotEq (.ref l) (.ref b)) Q E s := by
  obtain ⟨xs, ys, n, n2, g1, g2, z1, z2, _⟩ := hl 0 _ h (Nat.zero_le _) (fun j hj => absurd hj (Nat.not_lt_zero j))
  refine wpAny_richCompare_same_room (op := .NotEq) ⟨_, g1, rfl⟩ ⟨_, g2, rfl⟩ F.slot_list_ne (call_here F.slot_list_ne ⟨_, g1, rfl⟩ F.entry_list_ne (F.args_list_ne_2 _ _) ?_) hu
  exact body_ne (R := wants (fun v s' => v ≠ .notImplemented ∧ Q v s') E) l b N r I hl (fun s' q => ⟨(fun x => nomatch x), fin s' q⟩) h
end
end MPQ
end
section
set_option  maxHeartbeats  4000000
/-! The store put aside while an item's own == runs; one thing is the same data. -/
namespace MP
open PySem PySem.Spec PyProof.Rows L2
def Wd.bare (w : Wd) : Wd := { w with ow := [], hid := fun a => w.hid a ∨ a ∈ w.ow.flatten }
section
variable {P : Prog} {K : Fg} {w w1 : Wd} {H H1 : Hp} {m m1 : M}
theorem MRel.bare (h : MRel P K w H m) : MRel P K w.bare H [] where
  len := rfl
  at_ := fun n c as e => by simp at e
  nd := List.nodup_nil
  dis := fun a ha => by simp [Wd.bare] at ha
  some_ := h.some_
  hid := fun a q => q.elim (fun q => ⟨(h.hid a q).1, by simp [Wd.bare], (h.hid a q).2.2⟩) fun q => ⟨h.dis a q, by simp [Wd.bare], h.own_some a q⟩
  pro := h.pro
  lk := fun n c as e => by simp at e
  lk2 := fun n c as e => by simp at e
  xk := h.xk
theorem MRel.back (h : MRel P K w H m) (x : Ext w.bare H w1 H1) (h1 : MRel P K w1 H1 m1) : MRel P K { w with fro := w1.fro } H1 m ∧ Ext w H { w with fro := w1.fro } H1 := by
  have ph : ∀ a, w.hid a ∨ w.prot a → H1 a = H a := fun a q => x.pk a (q.imp (fun q => .inl q) fun q => q)
  have po : ∀ a ∈ w.ow.flatten, H1 a = H a := fun a q => x.pk a (.inl (.inr q))
  have nh : ∀ a, w.hid a ∨ a ∈ w.ow.flatten → ¬ w1.fro a := fun a q => (h1.hid a (by rw [x.hid]; exact q)).1
  have np : ∀ a, w.prot a → ¬ w1.fro a := fun a q => (h1.pro a (by rw [x.prot]; exact q)).1
  refine ⟨h.grow x.fro x.keep po (fun a q => nh a (.inr q)) h1.some_ (fun a q => ?_), x.fro, x.keep, fun n as e => ⟨as, e, fun _ q => q⟩, rfl, rfl, rfl, ph⟩
  rw [ph a q]
  exact ⟨q.elim (fun q => nh a (.inl q)) fun q => np a q, (h.hp_some q).2⟩
end
section
variable {P : Prog} {K : Fg} {w : Wd} {H : Hp}
theorem Dat.isRef {d : D} {v : V} (h : Dat P K w.fro H d v) (hd : (match d with
  | .lst _ => true
  | .tup _ => true
  | .dct _ => true
  | .obj _ _ => true
  | .cls _ => true
  | _ => false) = true) : ∃ a, v = .ref a := by
  cases d with
  | lst xs => obtain ⟨a, vs, rfl, _⟩ := Dat.lst_iff.mp h; exact ⟨a, rfl⟩
  | tup xs => obtain ⟨a, vs, rfl, _⟩ := Dat.tup_iff.mp h; exact ⟨a, rfl⟩
  | dct xs =>
    unfold Dat at h
    obtain ⟨a, rfl, _⟩ := h
    exact ⟨a, rfl⟩
  | obj c fs =>
    unfold Dat at h
    obtain ⟨a, dx, vs, rfl, _⟩ := h
    exact ⟨a, rfl⟩
  | cls c =>
    unfold Dat at h
    exact ⟨_, h⟩
  | _ => cases hd
mutual
theorem Dat.same : ∀ (d d' : D) (v : V), Dat P K w.fro H d v → Dat P K w.fro H d' v → sameD d d' = true
  | .non, d', v, h, h' => by
    cases Dat.non_iff.mp h
    cases d' with
    | non => rfl
    | bl _ => cases Dat.bl_iff.mp h'
    | int _ => cases Dat.int_iff.mp h'
    | str _ => cases Dat.str_iff.mp h'
    | _ => obtain ⟨a, e⟩ := h'.isRef rfl; cases e
  | .bl b, d', v, h, h' => by
    cases Dat.bl_iff.mp h
    cases d' with
    | non => cases Dat.non_iff.mp h'
    | bl _ => cases Dat.bl_iff.mp h'; simp [sameD]
    | int _ => cases Dat.int_iff.mp h'
    | str _ => cases Dat.str_iff.mp h'
    | _ => obtain ⟨a, e⟩ := h'.isRef rfl; cases e
  | .int i, d', v, h, h' => by
    cases Dat.int_iff.mp h
    cases d' with
    | non => cases Dat.non_iff.mp h'
    | bl _ => cases Dat.bl_iff.mp h'
    | int _ => cases Dat.int_iff.mp h'; simp [sameD]
    | str _ => cases Dat.str_iff.mp h'
    | _ => obtain ⟨a, e⟩ := h'.isRef rfl; cases e
  | .str x, d', v, h, h' => by
    cases Dat.str_iff.mp h
    cases d' with
    | non => cases Dat.non_iff.mp h'
    | bl _ => cases Dat.bl_iff.mp h'
    | int _ => cases Dat.int_iff.mp h'
    | str y =>
      have e := Dat.str_iff.mp h'
      injection e with e
      have e2 := ts_inj e
      subst e2
      simp [sameD]
    | _ => obtain ⟨a, e⟩ := h'.isRef rfl; cases e
  | .lst xs, d', v, h, h' => by
    obtain ⟨a, vs, rfl, f, q, l⟩ := Dat.lst_iff.mp h
    cases d' with
    | non => cases Dat.non_iff.mp h'
    | bl _ => cases Dat.bl_iff.mp h'
    | int _ => cases Dat.int_iff.mp h'
    | str _ => cases Dat.str_iff.mp h'
    | lst ys =>
      obtain ⟨a', vs', ea, f', q', l'⟩ := Dat.lst_iff.mp h'
      cases ea
      rw [q] at q'
      cases q'
      simp only [sameD]
      exact DatL.same xs ys vs l l'
    | _ => rfl
  | .obj c fs, d', v, h, h' => by
    unfold Dat at h
    obtain ⟨a, dx, vs, rfl, f, q, _, l⟩ := h
    cases d' with
    | non => cases Dat.non_iff.mp h'
    | bl _ => cases Dat.bl_iff.mp h'
    | int _ => cases Dat.int_iff.mp h'
    | str _ => cases Dat.str_iff.mp h'
    | obj c' gs =>
      unfold Dat at h'
      obtain ⟨a', dx', vs', ea, f', q', _, l'⟩ := h'
      cases ea
      rw [q] at q'
      injection q' with q'
      injection q' with _ _ q'
      subst q'
      simp only [sameD]
      exact DatL.same fs gs _ l l'
    | _ => rfl
  | .tup xs, d', v, h, h' => by
    obtain ⟨a, rfl⟩ := h.isRef rfl
    cases d' with
    | non => cases Dat.non_iff.mp h'
    | bl _ => cases Dat.bl_iff.mp h'
    | int _ => cases Dat.int_iff.mp h'
    | str _ => cases Dat.str_iff.mp h'
    | _ => rfl
  | .dct xs, d', v, h, h' => by
    obtain ⟨a, rfl⟩ := h.isRef rfl
    cases d' with
    | non => cases Dat.non_iff.mp h'
    | bl _ => cases Dat.bl_iff.mp h'
    | int _ => cases Dat.int_iff.mp h'
    | str _ => cases Dat.str_iff.mp h'
    | _ => rfl
  | .cls c, d', v, h, h' => by
    obtain ⟨a, rfl⟩ := h.isRef rfl
    cases d' with
    | non => cases Dat.non_iff.mp h'
    | bl _ => cases Dat.bl_iff.mp h'
    | int _ => cases Dat.int_iff.mp h'
    | str _ => cases Dat.str_iff.mp h'
    | _ => rfl
theorem DatL.same : ∀ (xs ys : List D) (vs : List V), DatL P K w.fro H xs vs → DatL P K w.fro H ys vs → sameL xs ys = true
  | [], ys, vs, h, h' => by
    unfold DatL at h
    subst h
    cases ys with
    | nil => rfl
    | cons y ys => unfold DatL at h'; obtain ⟨v, r, e, _⟩ := h'; cases e
  | x :: xs, ys, vs, h, h' => by
    unfold DatL at h
    obtain ⟨v, r, rfl, a1, a2⟩ := h
    cases ys with
    | nil => unfold DatL at h'; cases h'
    | cons y ys =>
      unfold DatL at h'
      obtain ⟨v', r', e, b1, b2⟩ := h'
      cases e
      simp only [sameL, Dat.same x y v a1 b1, DatL.same xs ys r a2 b2]
      rfl
end
end
end MP
end
section
set_option  maxHeartbeats  4000000
/-! Operators by the evaluator. -/
namespace MP
open PySem PySem.Spec PyProof.Rows L2
section
variable {P : Prog} {X : Cx} {Wx : WX}
theorem lt_str_op {prog : Program} {w : World} {A : Around} {s : Shared} {E : Value → Shared → Prop} {Q : Value → Shared → Prop} {x y : Str} {t u : Tok} (h : Q (.bool (decide (x.cps.toList < y.cps.toList))) s) : wpAny (model prog w) A (richCompare .Lt (.str x t) (.str y u)) Q E s :=
  (PyProof.Rows.lt_str h : wpAny (model prog w) A (compareOp .Lt (.str x t) (.str y u)) Q E s)
/-- two pairs of a number and a text -/
theorem lt_pair {pins : List (Addr × Obj)} {s : Shared} {σ : L2.St} {H : Hp} {pa pb : Addr} {i j : Int} {x y : Sg} {Q : VK} (hu : X.A.units < cLine) (I : Inv X pins σ H s) (ha : SqT X.K H pa [.int i, .str (ts x)]) (hb : SqT X.K H pb [.int j, .str (ts y)]) (q : Q (.bl (decide (i < j) || (decide (i = j) && ltS x y))) H) :
    wpAny (model X.prog X.w) X.A (compareOp .Lt (.ref pa) (.ref pb)) (EP X pins σ Q) X.xe s := by
  obtain ⟨its, r1, p1, _⟩ := I.tuple ha
  obtain ⟨its2, r2, p2, _⟩ := I.tuple hb
  obtain ⟨u1, u2, rfl, ⟨t1, rfl⟩, ⟨t2, rfl⟩⟩ := vals2 r1
  obtain ⟨u3, u4, rfl, ⟨t3, rfl⟩, ⟨t4, rfl⟩⟩ := vals2 r2
  have R := Ob.RcOp.tuples_lt (A := X.A) (s := s) (e := fun k => if k = 0 then i == j else ts x == ts y) (r := fun k => if k = 0 then decide (i < j) else ltS x y) p1 p2 hu (fun k h1 h2 => by
    match k, h1, h2 with
    | 0, _, _ => exact SeqAt.EqAt.int_int _ _ _ _
    | 1, _, _ => exact SeqAt.EqAt.str_str _ _ _ _
    | k + 2, h1, _ => exact absurd h1 (by simp)) (fun k h1 h2 _ => by
    match k, h1, h2 with
    | 0, _, _ => exact Ob.RcOp.lt_int _ _ _ _
    | 1, _, _ =>
      show Ob.RcOp .Lt X.A.in1 s (.str (ts x) t2) (.str (ts y) t4) (ltS x y)
      rw [← ts_lt]
      exact fun prog w E Q h => lt_str_op h
    | k + 2, h1, _ => exact absurd h1 (by simp))
  have e : Ob.lexAt (fun k => if k = 0 then i == j else ts x == ts y) (fun k => if k = 0 then decide (i < j) else ltS x y) (decide ((#[Value.int i t1, .str (ts x) t2] : Array Value).size < (#[Value.int j t3, .str (ts y) t4] : Array Value).size)) 0 (min (#[Value.int i t1, .str (ts x) t2] : Array Value).size (#[Value.int j t3, .str (ts y) t4] : Array Value).size) = (decide (i < j) || (decide (i = j) && ltS x y)) := by
    show (if (i == j) = true then (if (ts x == ts y) = true then false else ltS x y) else decide (i < j)) = _
    by_cases h : i = j
    · rw [if_pos (beq_iff_eq.mpr h)]
      have h3 : ¬ i < j := by omega
      rw [decide_eq_false h3, decide_eq_true h]
      by_cases h2 : x = y
      · subst h2
        rw [if_pos (beq_self_eq_true _)]
        unfold ltS
        rw [decide_eq_false (List.lt_irrefl x)]
        rfl
      · rw [if_neg (fun z => h2 (ts_inj (beq_iff_eq.mp z)))]
        rfl
    · rw [if_neg (fun z => h (beq_iff_eq.mp z)), decide_eq_false h]
      simp
  rw [show ([Value.int i t1, .str (ts x) t2].toArray) = #[Value.int i t1, .str (ts x) t2] from rfl, show ([Value.int j t3, .str (ts y) t4].toArray) = #[Value.int j t3, .str (ts y) t4] from rfl, e] at R
  exact R X.prog X.w X.xe (EP X pins σ Q) ⟨.bl _, H, I, rfl, q⟩
theorem ltTup_some {xs ys : List D} {b : Bool} (h : ltTup xs ys = some b) : ∃ i x j y, xs = [.int i, .str x] ∧ ys = [.int j, .str y] ∧ b = (decide (i < j) || (decide (i = j) && ltS x y)) := by
  unfold ltTup at h
  split at h
  · exact ⟨_, _, _, _, rfl, rfl, (Option.some.inj h).symm⟩
  · cases h
theorem datL_pair {w : Wd} {H : Hp} {i : Int} {x : Sg} {vs : List V} (la : DatL P X.K w.fro H [.int i, .str x] vs) : vs = [.int i, .str (ts x)] := by
  unfold DatL at la
  obtain ⟨v0, r0, rfl, a1, a2⟩ := la
  unfold DatL at a2
  obtain ⟨v1, r1, rfl, a3, a4⟩ := a2
  unfold DatL at a4
  subst a4
  rw [Dat.int_iff.mp a1, Dat.str_iff.mp a3]
/-- the built-in comparisons, all -/
theorem cmpD_all {op : COp} {pins : List (Addr × Obj)} {s : Shared} {σ : L2.St} {H : Hp} {x y : V} {v u : Value} {Q : VK} {w : Wd} {m : M} {d1 d2 : D} {b : Bool} {Wy : Value → Option Addr → Hp → Prop} (hu : X.A.units + 65 < cLine) (I : Inv X pins σ H s) (rx : RelV x v) (ry : RelV y u) (hm : MRel P X.K w H m) (h1 : Vw P X.K w H d1 x) (h2 : Vw P X.K w H d2 y) (e : cmpD op d1 d2 = some b)
    (h : Post P X.K (WRel P X.K) w H (.ok (.v (.bl b)) m) Q Wy) : wpAny (model X.prog X.w) X.A (compareOp op.py v u) (EP X pins σ Q) X.xe s := by
  have fin : Q (.bl b) H := h.flat hm (Dat.bl_iff.mpr rfl)
  have mk : ∀ kvs c, memK d1 kvs = some c → ∃ z, keyOf d1 = some (.k z) ∧ kvs.all isK = true ∧ c = (kvs.lookup (.k z)).isSome := fun kvs c e => by
    unfold memK at e
    cases ek : keyOf d1 with
    | none => rw [ek] at e; cases e
    | some k =>
      rw [ek] at e
      cases k with
      | t _ => cases e
      | k z =>
        dsimp only at e
        by_cases ha : kvs.all isK = true
        · rw [if_pos ha] at e; exact ⟨z, rfl, ha, (Option.some.inj e).symm⟩
        · rw [if_neg ha] at e; cases e
  by_cases hd : (op = .mem ∨ op = .nmem) ∧ ∃ kvs, d2 = .dct kvs
  · obtain ⟨ho, kvs, rfl⟩ := hd
    rcases ho with rfl | rfl
    · obtain ⟨z, k1, k2, rfl⟩ := mk kvs b (by cases d1 <;> exact e)
      exact din_run (neg := false) I ry rx h2 h1 k1 k2 fin
    · have e' : (memK d1 kvs).map (!·) = some b := by cases d1 <;> exact e
      obtain ⟨c, ec, eb⟩ := Option.map_eq_some_iff.mp e'
      obtain ⟨z, k1, k2, rfl⟩ := mk kvs c ec
      subst eb
      exact din_run (neg := true) I ry rx h2 h1 k1 k2 fin
  · by_cases ht : op = .lt ∧ ∃ xs, d1 = .tup xs
    · obtain ⟨rfl, xs, rfl⟩ := ht
      cases d2 with
      | tup ys =>
        have e' : ltTup xs ys = some b := e
        obtain ⟨i, x1, j, y1, rfl, rfl, rfl⟩ := ltTup_some e'
        obtain ⟨pa, vs, rfl, ra, la⟩ := h1
        obtain ⟨pb, us, rfl, rb, lb⟩ := h2
        cases rx
        cases ry
        rw [datL_pair la] at ra
        rw [datL_pair lb] at rb
        exact lt_pair (by omega) I ra rb fin
      | _ => cases e
    · exact cmpD_op hu I rx ry hm h1 h2 e (fun ho kvs ek => hd ⟨ho, kvs, ek⟩) (fun xs ho ek => ht ⟨ho, xs, ek⟩) h
end
/-- what is known of an own class's operators -/
structure OpF (P : Prog) (K : Fg) (c : Nat) : Prop where
  cf : ClsF P K c
  cmp : ∀ (op : CmpOp) (k : Nat), (op = .Eq ∧ k = 10) ∨ (op = .Lt ∧ k = 11) ∨ (op = .LtE ∧ k = 12) → ∀ f d, P.op c k = some f → P.fn f = some d → PySem.W.findIn K (.ref (ca P K c)) (cmpInfo op).2.1 = some (some (.ref (fA K d.at_))) ∧ PySem.W.isFn K (.ref (fA K d.at_)) = true
  ne : PySem.W.findIn K (.ref (ca P K c)) "__ne__" = some (some (.builtin "object.__ne__"))
  neg : ∀ f d, P.op c 30 = some f → P.fn f = some d → PySem.W.findIn K (.ref (ca P K c)) "__neg__" = some (some (.ref (fA K d.at_))) ∧ PySem.W.isFn K (.ref (fA K d.at_)) = true
  bin : ∀ (op : Operator) (k : Nat), (op = .Add ∧ k = 0) ∨ (op = .Sub ∧ k = 1) ∨ (op = .Mult ∧ k = 2) → ∀ f d, P.op c k = some f → P.fn f = some d → PySem.W.findIn K (.ref (ca P K c)) (PySem.dunder op.info.2) = some (some (.ref (fA K d.at_))) ∧ PySem.W.isFn K (.ref (fA K d.at_)) = true ∧
    PySem.W.findIn K (.ref (ca P K c)) (dunderR op.info.2) = some none ∧ (∃ fo, PySem.W.findIn K (.type "int") (PySem.dunder op.info.2) = some fo) ∧ ∃ ro, PySem.W.findIn K (.type "int") (dunderR op.info.2) = some ro
  no : ∀ k f, P.op c k = some f → k = 0 ∨ k = 1 ∨ k = 2 ∨ k = 10 ∨ k = 11 ∨ k = 12 ∨ k = 20 ∨ k = 30
/-- what is known around a body -/
structure Gx (P : Prog) (hd : Hd) (X : Cx) (Wx : WX) (k : Nat) : Prop where
  hP : hd.P = P
  nd : X.N.Nodup
  tk : Takes X Wx
  un : X.A.units + 70 < cLine
  room : X.calm = true → Rm (k + 3) X.A
  gd : X.A.guards = some []
  dumb : X.calm = false → ∀ f fr as m, hd.call f fr as m = .bad
  fns : ∀ f d fr, P.fn f = some d → CallOk P hd X k f d fr
  ops : ∀ c j f, P.op c j = some f → OpF P X.K c
section
variable {P : Prog} {hd : Hd} {X : Cx} {Wx : WX} {k : Nat}
def BOp.py : BOp → Operator
  | .add => .Add | .sub => .Sub | .mul => .Mult | .fdiv => .FloorDiv | .mod => .Mod | .pow => .Pow
theorem opCall_ok {c j : Nat} {ws : List W} {m : M} {β : Type} {rel : Wd → Hp → W → β → Prop} {w : Wd} {H : Hp} {Q : β → Hp → Prop} {Wy : Value → Option Addr → Hp → Prop} (p : Post P X.K rel w H (opCall hd c j ws m) Q Wy) (hP : hd.P = P) :
    ∃ f as, P.op c j = some f ∧ fnArgs P f ws = some as ∧ Post P X.K rel w H (hd.call f false as m) Q Wy := by
  unfold opCall at p
  rw [hP] at p
  cases e : P.op c j with
  | none => rw [e] at p; exact p.elim
  | some f =>
    rw [e] at p
    dsimp only at p
    cases e2 : fnArgs P f ws with
    | none => rw [e2] at p; exact p.elim
    | some as => rw [e2] at p; exact ⟨f, as, rfl, e2, p⟩
theorem fnArgs_def {f : Nat} {ws as : List W} (h : fnArgs P f ws = some as) : ∃ d, P.fn f = some d := by
  unfold fnArgs at h
  cases e : P.fn f with
  | none => rw [e] at h; cases h
  | some d => exact ⟨d, rfl⟩
theorem op_cls {c j f : Nat} (h : P.op c j = some f) : ∃ cd, P.cls[c]? = some cd := by
  unfold Prog.op at h
  cases e : P.cls[c]? with
  | none => rw [e] at h; cases h
  | some cd => exact ⟨cd, rfl⟩
theorem rhs_of {c : Nat} {b : W} {m : M} {w : Wd} {H : Hp} {y : V} (hm : MRel P X.K w H m) (r : WRel P X.K w H b y) (e : rhsOk c m b = true) : ∃ t, Rhs P X.K w H c y t := by
  have fl : ∀ d, Vw P X.K w H d y → (∀ c fs, d ≠ .obj c fs) → (∀ c, d ≠ .cls c) → ∃ t, Rhs P X.K w H c y t := fun d h n1 n2 => by
    cases d with
    | obj c fs => exact absurd rfl (n1 c fs)
    | cls c => exact absurd rfl (n2 c)
    | non => exact ⟨_, .flat (d := .non) h rfl⟩
    | bl b => exact ⟨_, .flat (d := .bl b) h rfl⟩
    | int b => exact ⟨_, .flat (d := .int b) h rfl⟩
    | str b => exact ⟨_, .flat (d := .str b) h rfl⟩
    | lst b => exact ⟨_, .flat (d := .lst b) h rfl⟩
    | tup b => exact ⟨_, .flat (d := .tup b) h rfl⟩
    | dct b => exact ⟨_, .flat (d := .dct b) h rfl⟩
  cases b with
  | v d =>
    cases d with
    | obj c' fs =>
      have ec : c = c' := beq_iff_eq.mp e
      subst ec
      exact ⟨_, .same r⟩
    | cls c => cases e
    | _ => exact fl _ (Dat.vw r) (fun _ _ q => nomatch q) (fun _ q => nomatch q)
  | c n =>
    have e' : (vw m (.c n)).isSome = true := e
    cases q : vw m (.c n) with
    | none => rw [q] at e'; cases e'
    | some d =>
      have v := vw_rel hm r q
      have n1 : (∀ c fs, d ≠ .obj c fs) ∧ (∀ c, d ≠ .cls c) := by
        unfold vw at q
        dsimp only at q
        cases qq : m[n]? with
        | none => rw [qq] at q; cases q
        | some cc =>
          rw [qq] at q
          cases cc <;> first | (cases q; exact ⟨fun _ _ z => D.noConfusion z, fun _ z => D.noConfusion z⟩) | cases q
      exact fl d v n1.1 n1.2
  | _ => cases e
theorem Gx.calm_of (G : Gx P hd X Wx k) {f : Nat} {fr : Bool} {as : List W} {m : M} {β : Type} {rel : Wd → Hp → W → β → Prop} {w : Wd} {H : Hp} {Q : β → Hp → Prop} {Wy : Value → Option Addr → Hp → Prop} (p : Post P X.K rel w H (hd.call f fr as m) Q Wy) : X.calm = true := by
  cases e : X.calm with
  | true => rfl
  | false => rw [G.dumb e] at p; exact p.elim
variable (G : Gx P hd X Wx k)
include G
omit G in
theorem allO_spec {f : D → D → Option Bool} : ∀ {xs ys : List D} {r : Bool}, xs.length = ys.length → allO f xs ys = some r → ∃ rr : Nat → Bool, (List.range xs.length).all rr = r ∧ ∀ i x y, xs[i]? = some x → ys[i]? = some y → (∀ j, j < i → rr j = true) → f x y = some (rr i)
  | [], [], r, _, e => by
    have e' : true = r := Option.some.inj e
    refine ⟨fun _ => true, by simpa using e', fun i x y h => by simp at h⟩
  | [], _ :: _, r, hl, _ => by cases hl
  | _ :: _, [], r, hl, _ => by cases hl
  | x :: xs, y :: ys, r, hl, e => by
    have hl' : xs.length = ys.length := Nat.succ.inj hl
    rw [allO] at e
    cases hf : f x y with
    | none => rw [hf] at e; cases e
    | some b =>
      rw [hf] at e
      cases b with
      | true =>
        dsimp only at e
        obtain ⟨rr, h1, h2⟩ := allO_spec hl' e
        refine ⟨fun i => match i with
          | 0 => true
          | i + 1 => rr i, ?_, fun i a b ha hb hj => ?_⟩
        · rw [List.length_cons, List.range_succ_eq_map, List.all_cons, List.all_map, ← h1]
          simp [Function.comp_def]
        · cases i with
          | zero =>
            simp at ha hb
            subst ha; subst hb
            exact hf
          | succ i =>
            simp at ha hb
            exact h2 i a b ha hb fun j hj' => hj (j + 1) (by omega)
      | false =>
        dsimp only at e
        have er : false = r := Option.some.inj e
        refine ⟨fun i => match i with
          | 0 => false
          | _ + 1 => true, ?_, fun i a b ha hb hj => ?_⟩
        · rw [List.length_cons, List.range_succ_eq_map, List.all_cons, ← er]
          rfl
        · cases i with
          | zero =>
            simp at ha hb
            subst ha; subst hb
            exact hf
          | succ i => cases hj 0 (by omega)
/-- what is kept while items are compared -/
def LI (P : Prog) (X : Cx) (pins : List (Addr × Obj)) (σ : L2.St) (w : Wd) (H : Hp) (m : M) (s : Shared) : Prop := ∃ w' H', Inv X pins σ H' s ∧ MRel P X.K w' H' m ∧ Ext w H w' H' ∧ w'.ow = w.ow ∧ ∀ a ∈ w.ow.flatten, H' a = H a
section
variable {pins : List (Addr × Obj)} {σ : L2.St} {m : M}
omit G in
theorem LI.trans {w w1 : Wd} {H H1 : Hp} {s : Shared} (h : LI P X pins σ w1 H1 m s) (x : Ext w H w1 H1) (eo : w1.ow = w.ow) (ho : ∀ a ∈ w.ow.flatten, H1 a = H a) : LI P X pins σ w H m s := by
  obtain ⟨w2, H2, I, M2, x2, e2, o2⟩ := h
  exact ⟨w2, H2, I, M2, x.trans x2, e2.trans eo, fun a ha => (o2 a (by rw [eo]; exact ha)).trans (ho a ha)⟩
theorem eqI_run {A : Around} (hr : X.calm = true → Rm k A) (hu : A.units < cLine) (he : ∀ H s, Inv X pins σ H s → Env0 X.prog X.w X.K X.mg X.base A X.stack s H) {a b : D} {r : Bool} (e : eqI hd a b = some r) {w : Wd} {H : Hp} {s : Shared} (I : Inv X pins σ H s) (hm : MRel P X.K w H m) {x y : V} {v u : Value}
    (h1 : Dat P X.K w.fro H a x) (h2 : Dat P X.K w.fro H b y) (rx : RelV x v) (ry : RelV y u) (hne : v ≠ u) :
    wpAny (model X.prog X.w) A (eqBool v u) (fun q s' => q = r ∧ LI P X pins σ w H m s') X.xe s := by
  cases a with
  | obj c fs =>
    cases b with
    | obj c' gs =>
      dsimp only [eqI] at e
      by_cases ec : c = c'
      · subst ec
        rw [if_pos rfl] at e
        have hcall : opCall hd c 10 [.v (.obj c fs), .v (.obj c gs)] [] = .ok (.v (.bl r)) [] := by
          split at e
          · rename_i h
            cases e
            exact h
          · cases e
        have p : Post P X.K (WRel P X.K) w.bare H (opCall hd c 10 [.v (.obj c fs), .v (.obj c gs)] []) (fun z H' => z = .bl r ∧ ∃ w', Ext w.bare H w' H' ∧ MRel P X.K w' H' []) (fun cls d H' => Wx cls d σ H') := by
          rw [hcall]
          intro z w' H' x' M' R'
          exact ⟨(Dat.bl_iff (w := w')).mp (show Dat P X.K w'.fro H' (.bl r) z from R'), w', x', M'⟩
        obtain ⟨f, as, e1, e2, p2⟩ := opCall_ok p G.hP
        obtain ⟨d, hf⟩ := fnArgs_def e2
        have O := G.ops c _ f e1
        obtain ⟨f1, f2⟩ := O.cmp .Eq 10 (.inl ⟨rfl, rfl⟩) f d e1 hf
        obtain ⟨pa, dx, od, rfl, rfl, J⟩ := obj_inst I rx h1
        obtain ⟨pb, dx', od', rfl, rfl, J'⟩ := obj_inst I ry h2
        have hab : pa ≠ pb := fun q => hne (by rw [q])
        refine GQ.eqBool_refG hab ?_
        obtain ⟨mF, hF⟩ := I.fr
        obtain ⟨L, N⟩ := (Rhs.same h2).ty O.cf I ry
        refine PySem.W.cmp_K hu hF I.ok.mod.kin J L N f1 f2 ?_
        refine thn (call_runA (G.fns f d false hf) (by rw [G.hP]; exact hf) G.tk (hr (G.calm_of p2)) (he H s I) I hm.bare (WsRel.cons (show WRel P X.K w.bare H (.v (.obj c fs)) (.ref pa) from h1) (WsRel.cons (show WRel P X.K w.bare H (.v (.obj c gs)) (.ref pb) from h2) WsRel.nil)) (.cons rx (.cons ry .nil)) (by rw [G.hP]; exact e2) p2) fun z s1 hz => ?_
        obtain ⟨zv, H1, I1, rz, ez, w1, x1, M1⟩ := hz
        refine SlX.cmpback rz ?_
        subst ez
        cases rz
        obtain ⟨M2, x2⟩ := hm.back x1 M1
        exact ⟨r, rfl, rfl, _, H1, I1, M2, x2, rfl, fun a ha => x1.pk a (.inl (.inr ha))⟩
      · rw [if_neg ec] at e; cases e
    | _ => cases e
  | _ => cases e
omit G in
theorem gd_some {a b : D} {x : Option Bool} {r : Bool} (h : gdO a b x = some r) : x = some r ∧ (sameD a b = true → r = true) := by
  cases x with
  | none => cases h
  | some q =>
    dsimp only [gdO] at h
    by_cases c : (sameD a b && !q) = true
    · rw [if_pos c] at h; cases h
    · rw [if_neg c] at h
      cases h
      refine ⟨rfl, fun hs => ?_⟩
      rw [hs] at c
      cases r with
      | true => rfl
      | false => exact absurd rfl c
omit G in
theorem relV_one {x y : V} {v : Value} {a : Addr} (hx : x = .ref a) (rx : RelV x v) (ry : RelV y v) (hy : ∃ b, y = .ref b) : x = y := by
  obtain ⟨b, rfl⟩ := hy
  subst hx
  cases rx
  cases ry
  rfl
/-- how == of items runs -/
def EqRun (P : Prog) (hd : Hd) (X : Cx) (pins : List (Addr × Obj)) (σ : L2.St) (m : M) (n : Nat) (A : Around) : Prop := ∀ (a b : D) (r : Bool), eqO hd n a b = some r → ∀ (w : Wd) (H : Hp) (s : Shared), Inv X pins σ H s → MRel P X.K w H m → ∀ (x y : V) (v u : Value), Dat P X.K w.fro H a x → Dat P X.K w.fro H b y → RelV x v → RelV y u →
      wpAny (model X.prog X.w) A (eqBool v u) (fun q s' => q = r ∧ LI P X pins σ w H m s') X.xe s
omit G in
/-- two lists of data, item by item -/
theorem lists_LR {n : Nat} {A : Around} (ih : EqRun P hd X pins σ m n A.in1)
    {xs ys : List D} {rr : Nat → Bool} (hl : xs.length = ys.length) (hrr : ∀ i x y, xs[i]? = some x → ys[i]? = some y → (∀ j, j < i → rr j = true) → eqO hd n x y = some (rr i))
    {w : Wd} {H : Hp} {pa pb : Addr} {vs us : List V} (ka : ∀ w' H', Ext w H w' H' → (∀ a ∈ w.ow.flatten, H' a = H a) → Rd H' pa (.lst vs)) (kb : ∀ w' H', Ext w H w' H' → (∀ a ∈ w.ow.flatten, H' a = H a) → Rd H' pb (.lst us))
    (da : DatL P X.K w.fro H xs vs) (db : DatL P X.K w.fro H ys us) : MPQ.LR X.prog X.w A X.xe pa pb xs.length rr (LI P X pins σ w H m) := by
  intro i s hs hi hj
  obtain ⟨w', H', I, M', x', eo, ho⟩ := id hs
  obtain ⟨z1, its, n1, r1, g1⟩ := (ka w' H' x' ho).ok I.hok
  obtain ⟨z2, its2, n2, r2, g2⟩ := (kb w' H' x' ho).ok I.hok
  have l1 := (DatL.length da).symm
  have l2 := (DatL.length db).symm
  refine ⟨its.toArray, its2.toArray, n1, n2, g1, g2, by rw [List.size_toArray, ← r1.length, ← l1], by rw [List.size_toArray, ← r2.length, ← l2, hl], fun h1 h2 => ?_⟩
  have k1 : i < xs.length := by rw [l1, r1.length]; simpa using h1
  have k2 : i < ys.length := by omega
  obtain ⟨x, hx, dx⟩ := DatL.get da (List.getElem?_eq_getElem k1)
  obtain ⟨y, hy, dy⟩ := DatL.get db (List.getElem?_eq_getElem k2)
  obtain ⟨v, hv, rv⟩ := r1.get hx
  obtain ⟨u, hu, ru⟩ := r2.get hy
  have e1 : its.toArray[i] = v := by
    have : its[i]? = some its.toArray[i] := by
      have h1' : i < its.length := by simpa using h1
      rw [List.getElem?_eq_getElem h1'] <;> simp
    rw [this] at hv
    exact Option.some.inj hv
  have e2 : its2.toArray[i] = u := by
    have : its2[i]? = some its2.toArray[i] := by
      have h2' : i < its2.length := by simpa using h2
      rw [List.getElem?_eq_getElem h2'] <;> simp
    rw [this] at hu
    exact Option.some.inj hu
  rw [e1, e2]
  refine wpAny_mono (ih _ _ _ (hrr i _ _ (List.getElem?_eq_getElem k1) (List.getElem?_eq_getElem k2) hj) _ _ _ I M' _ _ _ _ (dx.mono x'.fro x'.keep) (dy.mono x'.fro x'.keep) rv ru) (fun q s2 hq => ⟨hq.1, hq.2.trans x' eo ho⟩) fun _ _ z => z
omit G in
theorem eqP_run {A : Around} (hu : A.units + 65 < cLine) {a b : D} (hp : (plain 50 a && plain 50 b) = true) {w : Wd} {H : Hp} {s : Shared} (I : Inv X pins σ H s) (hm : MRel P X.K w H m) {x y : V} {v u : Value} (h1 : Dat P X.K w.fro H a x) (h2 : Dat P X.K w.fro H b y) (rx : RelV x v) (ry : RelV y u) :
    wpAny (model X.prog X.w) A (eqBool v u) (fun q s' => q = eqB a b ∧ LI P X pins σ w H m s') X.xe s := by
  obtain ⟨p1, p2⟩ := Bool.and_eq_true_iff.mp hp
  obtain ⟨as, r1⟩ := Dp.reads I _ x v (dat_dp 50 a x p1 h1) rx
  obtain ⟨bs, r2⟩ := Dp.reads I _ y u (dat_dp 50 b y p2 h2) ry
  have s1 := shaped_of p1 (by decide)
  have s2 := shaped_of p2 (by decide)
  refine SeqAt.eqAt_reads _ _ A s v u as bs r1 r2 (SeqAt.canLay_of_shaped s1) (SeqAt.canLay_of_shaped s2) (SeqAt.room_of_shaped s1 (by omega)) X.prog X.w X.xe _ ⟨(eqB_py 50 50 a b p1 p2).symm, w, H, I, hm, Ext.rfl, rfl, fun _ _ => rfl⟩
omit G in
theorem one_run {A : Around} {a b : D} {r : Bool} (hs : sameD a b = true → r = true) {w : Wd} {H : Hp} {s : Shared} (I : Inv X pins σ H s) (hm : MRel P X.K w H m) {x y : V} {v u : Value} (h1 : Dat P X.K w.fro H a x) (h2 : Dat P X.K w.fro H b y) (rx : RelV x v) (ry : RelV y u) (e : v = u) (hx : ∃ p, x = .ref p) (hy : ∃ p, y = .ref p) :
    wpAny (model X.prog X.w) A (eqBool v u) (fun q s' => q = r ∧ LI P X pins σ w H m s') X.xe s := by
  subst e
  obtain ⟨p, hx⟩ := hx
  have exy := relV_one hx rx ry hy
  rw [← exy] at h2
  have er := hs (Dat.same a b x h1 h2)
  exact SeqAt.EqAt.same (A := A) (s := s) v X.prog X.w X.xe _ ⟨er.symm, w, H, I, hm, Ext.rfl, rfl, fun _ _ => rfl⟩
omit G in
theorem eqI_refs {a b : D} {r : Bool} (e : eqI hd a b = some r) {w : Wd} {H : Hp} {x y : V} (h1 : Dat P X.K w.fro H a x) (h2 : Dat P X.K w.fro H b y) : (∃ p, x = .ref p) ∧ ∃ p, y = .ref p := by
  cases a with
  | obj c fs =>
    cases b with
    | obj c' gs => exact ⟨h1.isRef rfl, h2.isRef rfl⟩
    | _ => cases e
  | _ => cases e
omit G in
theorem eqO_succ (n : Nat) (a b : D) : eqO hd (n + 1) a b = if plain 50 a && plain 50 b then some (eqB a b) else gdO a b (match a, b with
    | .lst xs, .lst ys => if xs.length = ys.length then allO (eqO hd n) xs ys else some false
    | _, _ => eqI hd a b) := by
  cases a <;> cases b <;> rfl
theorem eqO_run : ∀ (n : Nat) (A : Around), (X.calm = true → Rm (k + n) A) → A.units + n + 65 < cLine → (∀ H s, Inv X pins σ H s → Env0 X.prog X.w X.K X.mg X.base A X.stack s H) → EqRun P hd X pins σ m n A
  | 0, A, hr, hu, he, a, b, r, e, w, H, s, I, hm, x, y, v, u, h1, h2, rx, ry => by
    rw [eqO] at e
    by_cases hp : (plain 50 a && plain 50 b) = true
    · rw [if_pos hp] at e
      cases e
      exact eqP_run (by omega) hp I hm h1 h2 rx ry
    · rw [if_neg hp] at e
      obtain ⟨e1, hs⟩ := gd_some e
      obtain ⟨q1, q2⟩ := eqI_refs e1 h1 h2
      by_cases hv : v = u
      · exact one_run hs I hm h1 h2 rx ry hv q1 q2
      · exact eqI_run G (fun c => (hr c).mono (by omega)) (by omega) he e1 I hm h1 h2 rx ry hv
  | n + 1, A, hr, hu, he, a, b, r, e, w, H, s, I, hm, x, y, v, u, h1, h2, rx, ry => by
    rw [eqO_succ] at e
    by_cases hp : (plain 50 a && plain 50 b) = true
    · rw [if_pos hp] at e
      cases e
      exact eqP_run (by omega) hp I hm h1 h2 rx ry
    · rw [if_neg hp] at e
      obtain ⟨e1, hs⟩ := gd_some e
      have own : eqI hd a b = some r → wpAny (model X.prog X.w) A (eqBool v u) (fun q s' => q = r ∧ LI P X pins σ w H m s') X.xe s := fun e1 => by
        obtain ⟨q1, q2⟩ := eqI_refs e1 h1 h2
        by_cases hv : v = u
        · exact one_run hs I hm h1 h2 rx ry hv q1 q2
        · exact eqI_run G (fun c => (hr c).mono (by omega)) (by omega) he e1 I hm h1 h2 rx ry hv
      cases a with
      | lst xs =>
        cases b with
        | lst ys =>
          dsimp only at e1
          by_cases hv : v = u
          · exact one_run hs I hm h1 h2 rx ry hv (h1.isRef rfl) (h2.isRef rfl)
          · obtain ⟨pa, vs, rfl, fa, ga, da⟩ := Dat.lst_iff.mp h1
            obtain ⟨pb, us, rfl, fb, gb, db⟩ := Dat.lst_iff.mp h2
            cases rx
            cases ry
            have hab : pa ≠ pb := fun q => hv (by rw [q])
            refine GQ.eqBool_refG hab ?_
            by_cases hl : xs.length = ys.length
            · rw [if_pos hl] at e1
              obtain ⟨rr, er, hrr⟩ := allO_spec hl e1
              refine MPQ.rc_eqL (r := rr) (N := xs.length) (by omega) (LI P X pins σ w H m) (lists_LR (eqO_run n A.in1 (fun c => (hr c).in1) (by show A.units + 1 + n + 65 < cLine; omega) (fun H s I => (he H s I).in1)) hl hrr (fun w' H' x' _ => .inl ((x'.keep pa fa).lst _ ga)) (fun w' H' x' _ => .inl ((x'.keep pb fb).lst _ gb)) da db) (fun s' q => ⟨r, by rw [er], rfl, q⟩) ⟨w, H, I, hm, Ext.rfl, rfl, fun _ _ => rfl⟩
            · rw [if_neg hl] at e1
              cases e1
              obtain ⟨z1, its, n1, r1, g1⟩ := I.hok pa _ ga
              obtain ⟨z2, its2, n2, r2, g2⟩ := I.hok pb _ gb
              have hne : (its.toArray.size != its2.toArray.size) = true := by
                have l1 := DatL.length da
                have l2 := DatL.length db
                have l3 := r1.length
                have l4 := r2.length
                simp only [List.size_toArray, bne_iff_ne, ne_eq]
                omega
              exact SeqAt.RcAt.lists_lengths ⟨_, g1, rfl, n1, rfl⟩ ⟨_, g2, rfl, n2, rfl⟩ hne (by omega) X.prog X.w X.xe _ ⟨false, rfl, rfl, w, H, I, hm, Ext.rfl, rfl, fun _ _ => rfl⟩
        | _ => exact own e1
      | _ => exact own e1
end
/-- binary operators -/
theorem op_binW (op : BOp) : OpW P X (binaryOp op.py) (binW hd op) Wx := by
  intro pins s σ H x y v u Q w m a b I rx ry hm h1 h2 p
  have own : ∀ c fs, a = .v (.obj c fs) → (∃ fs', b = .v (.obj c fs')) ∨ (∃ i, b = .v (.int i)) → Post P X.K (WRel P X.K) w H (opCall hd c op.code [a, b] m) Q (fun cls d H' => Wx cls d σ H') → wpAny (model X.prog X.w) X.A (binaryOp op.py v u) (EP X pins σ Q) X.xe s := fun c fs ea eb p => by
    subst ea
    obtain ⟨f, as, e1, e2, p2⟩ := opCall_ok p G.hP
    obtain ⟨d, hf⟩ := fnArgs_def e2
    have hc := G.calm_of p2
    have RR := (G.room hc).mono (Nat.le_add_right k 3)
    have O := G.ops c _ f e1
    have code : (op.py = .Add ∧ op.code = 0) ∨ (op.py = .Sub ∧ op.code = 1) ∨ (op.py = .Mult ∧ op.code = 2) := by
      have := O.no _ _ e1
      cases op <;> simp [BOp.code, BOp.py] at this ⊢
    obtain ⟨f1, f2, f3, ⟨fo, f4⟩, ro, f5⟩ := O.bin op.py op.code code f d e1 hf
    rcases eb with ⟨fs', rfl⟩ | ⟨i, rfl⟩
    · exact bin_same O.cf G.hP hf (G.fns f d false hf) RR G.tk f1 f2 I rx ry hm h1 h2 e2 p2
    · exact bin_int O.cf G.hP hf (G.fns f d false hf) RR G.tk f1 f2 f3 f4 f5 I rx ry hm h1 h2 e2 p2
  have flat : (match vx m a, vx m b with
    | some x, some y => R.opt ((binD op x y).map W.v) m
    | _, _ => .bad) = binW hd op a b m → wpAny (model X.prog X.w) X.A (binaryOp op.py v u) (EP X pins σ Q) X.xe s := fun e => by
    rw [← e] at p
    cases e1 : vx m a with
    | none => rw [e1] at p; exact p.elim
    | some d1 =>
      cases e2 : vx m b with
      | none => rw [e1, e2] at p; exact p.elim
      | some d2 =>
        rw [e1, e2] at p
        dsimp only at p
        cases e3 : binD op d1 d2 with
        | none => rw [e3] at p; exact p.elim
        | some d =>
          rw [e3] at p
          exact binD_op (op := op) (by cases op <;> rfl) I rx ry hm (vx_rel hm h1 e1) (vx_rel hm h2 e2) e3 p
  cases a with
  | v d =>
    cases d with
    | obj c fs =>
      cases b with
      | v d2 =>
        cases d2 with
        | obj c' fs' =>
          unfold binW at p
          dsimp only at p
          by_cases ec : c = c'
          · rw [if_pos ec] at p
            subst ec
            exact own c fs rfl (.inl ⟨fs', rfl⟩) p
          · rw [if_neg ec] at p; exact p.elim
        | int i => exact own c fs rfl (.inr ⟨i, rfl⟩) p
        | _ => exact p.elim
      | _ => exact p.elim
    | _ => exact flat rfl
  | _ => exact flat rfl
omit G in
/-- a list that is looked at, while items are compared -/
theorem look_keep {m : M} {w : Wd} {H : Hp} (hm : MRel P X.K w H m) {a : W} {x : V} {xs : List D} (r : WRel P X.K w H a x) (e : vw m a = some (.lst xs)) : ∃ p vs, x = .ref p ∧ DatL P X.K w.fro H xs vs ∧ ∀ w' H', Ext w H w' H' → (∀ a ∈ w.ow.flatten, H' a = H a) → Rd H' p (.lst vs) := by
  cases a with
  | v d =>
    have e1 : d = .lst xs := Option.some.inj e
    subst e1
    obtain ⟨p, vs, rfl, f, g, l⟩ := Dat.lst_iff.mp r
    exact ⟨p, vs, rfl, l, fun w' H' x' _ => .inl ((x'.keep p f).lst _ g)⟩
  | c n =>
    obtain ⟨as, g1, g2⟩ := r
    dsimp only [vw] at e
    cases hc : m[n]? with
    | none => rw [hc] at e; cases e
    | some c =>
      rw [hc] at e
      have q := hm.at_ n c as hc g1
      cases c with
      | lst k ys =>
        cases e
        obtain ⟨p, vs, rfl, g, l⟩ := q
        exact ⟨p, vs, g2 p rfl, l, fun w' H' _ o => .inl ((o p (mem_ow g1 p List.mem_cons_self)).trans g)⟩
      | scr ys =>
        cases e
        obtain ⟨p, vs, rfl, g, l⟩ := q
        refine ⟨p, vs, g2 p rfl, l, fun w' H' _ o => ?_⟩
        have ho := o p (mem_ow g1 p List.mem_cons_self)
        rcases g with g | ⟨z, g⟩
        · exact .inl (ho.trans g)
        · exact .inr ⟨z, ho.trans g⟩
      | dct _ _ _ => cases e
      | obj _ _ => cases e
      | dead => cases e
  | _ => cases e
theorem cmpO_op {op : COp} {pins : List (Addr × Obj)} {s : Shared} {σ : L2.St} {H : Hp} {x y : V} {v u : Value} {Q : VK} {w : Wd} {m : M} {a b : W} {d1 d2 : D} {r : Bool} {Wy : Value → Option Addr → Hp → Prop} (I : Inv X pins σ H s) (rx : RelV x v) (ry : RelV y u) (hm : MRel P X.K w H m) (h1 : WRel P X.K w H a x) (h2 : WRel P X.K w H b y)
    (e1 : vw m a = some d1) (e2 : vw m b = some d2) (e3 : cmpD op d1 d2 = none) (e : cmpO hd op d1 d2 = some r) (p : Post P X.K (WRel P X.K) w H (.ok (.v (.bl r)) m) Q Wy) : wpAny (model X.prog X.w) X.A (compareOp op.py v u) (EP X pins σ Q) X.xe s := by
  have hu := G.un
  unfold cmpO at e
  by_cases hb : listsB d1 d2 = true
  · rw [if_pos hb] at e
    cases d1 with
    | lst xs =>
      cases d2 with
      | lst ys =>
        obtain ⟨pa, vs, rfl, da, ka⟩ := look_keep hm h1 e1
        obtain ⟨pb, us, rfl, db, kb⟩ := look_keep hm h2 e2
        cases rx
        cases ry
        have fin : ∀ (q : Bool) s', q = r → LI P X pins σ w H m s' → EP X pins σ Q (.bool q) s' := fun q s' hq hs => by
          obtain ⟨w', H', I', M', x', _, _⟩ := hs
          exact ⟨.bl q, H', I', rfl, p (.bl q) w' H' x' M' (by rw [hq]; exact (Dat.bl_iff (P := P) (K := X.K) (w := w') (H := H')).mpr rfl)⟩
        have st : LI P X pins σ w H m s := ⟨w, H, I, hm, Ext.rfl, rfl, fun _ _ => rfl⟩
        have main : ∀ r0, eqO hd 2 (.lst xs) (.lst ys) = some r0 → (op = .eq ∧ r = r0) ∨ (op = .ne ∧ r = !r0) → wpAny (model X.prog X.w) X.A (compareOp op.py (.ref pa) (.ref pb)) (EP X pins σ Q) X.xe s := fun r0 e0 ho => by
          rw [eqO_succ] at e0
          by_cases hp : (plain 50 (.lst xs) && plain 50 (.lst ys)) = true
          · exfalso
            rcases ho with ⟨rfl, _⟩ | ⟨rfl, _⟩
            · dsimp only [cmpD, eqD] at e3
              rw [if_pos hp] at e3
              cases e3
            · dsimp only [cmpD, eqD] at e3
              rw [if_pos hp] at e3
              cases e3
          · rw [if_neg hp] at e0
            obtain ⟨e5, _⟩ := gd_some e0
            dsimp only at e5
            by_cases hl : xs.length = ys.length
            · rw [if_pos hl] at e5
              obtain ⟨rr, er, hrr⟩ := allO_spec hl e5
              have lr : MPQ.LR X.prog X.w X.A X.xe pa pb xs.length rr (LI P X pins σ w H m) := lists_LR (eqO_run G 1 X.A.in1 (fun c => ((G.room c).mono (by omega : k + 1 + 1 ≤ k + 3)).in1) (by show X.A.units + 1 + 1 + 65 < cLine; omega) (fun H s I => I.env0.in1)) hl hrr ka kb da db
              rcases ho with ⟨rfl, rfl⟩ | ⟨rfl, rfl⟩
              · exact MPQ.rc_eqL (r := rr) (N := xs.length) (by omega) (LI P X pins σ w H m) lr (fun s' q => fin _ s' er q) st
              · exact MPQ.rc_neL (r := rr) (N := xs.length) (by omega) (LI P X pins σ w H m) lr (fun s' q => fin _ s' (by rw [er]) q) st
            · rw [if_neg hl] at e5
              cases e5
              obtain ⟨z1, its, n1, r1, g1⟩ := (ka w H Ext.rfl fun _ _ => rfl).ok I.hok
              obtain ⟨z2, its2, n2, r2, g2⟩ := (kb w H Ext.rfl fun _ _ => rfl).ok I.hok
              have hne : (its.toArray.size != its2.toArray.size) = true := by
                have l1 := DatL.length da
                have l2 := DatL.length db
                have l3 := r1.length
                have l4 := r2.length
                simp only [List.size_toArray, bne_iff_ne, ne_eq]
                omega
              rcases ho with ⟨rfl, rfl⟩ | ⟨rfl, rfl⟩
              · exact SeqAt.RcAt.lists_lengths ⟨_, g1, rfl, n1, rfl⟩ ⟨_, g2, rfl, n2, rfl⟩ hne (by omega) X.prog X.w X.xe _ (fin _ s rfl st)
              · exact SeqAt.RcNeAt.lists_lengths ⟨_, g1, rfl, n1, rfl⟩ ⟨_, g2, rfl, n2, rfl⟩ hne (by omega) X.prog X.w X.xe _ (fin _ s rfl st)
        cases op with
        | eq => exact main r e (.inl ⟨rfl, rfl⟩)
        | ne =>
          cases e6 : eqO hd 2 (.lst xs) (.lst ys) with
          | none => rw [e6] at e; cases e
          | some q =>
            rw [e6] at e
            exact main q e6 (.inr ⟨rfl, (Option.some.inj e).symm⟩)
        | _ => cases e
      | _ => cases hb
    | _ => cases hb
  · rw [if_neg hb] at e; cases e
/-- comparisons -/
theorem op_cmpW (op : COp) : OpW P X (compareOp op.py) (cmpW hd op) Wx := by
  intro pins s σ H x y v u Q w m a b I rx ry hm h1 h2 p
  have hu := G.un
  have flat : (match vw m a, vw m b with
    | some x, some y => R.opt (((cmpD op x y).or (cmpO hd op x y)).map fun b => W.v (.bl b)) m
    | _, _ => .bad) = cmpW hd op a b m → wpAny (model X.prog X.w) X.A (compareOp op.py v u) (EP X pins σ Q) X.xe s := fun e => by
    rw [← e] at p
    cases e1 : vw m a with
    | none => rw [e1] at p; exact p.elim
    | some d1 =>
      cases e2 : vw m b with
      | none => rw [e1, e2] at p; exact p.elim
      | some d2 =>
        rw [e1, e2] at p
        dsimp only at p
        cases e3 : cmpD op d1 d2 with
        | none =>
          rw [e3, Option.none_or] at p
          cases e4 : cmpO hd op d1 d2 with
          | none => rw [e4] at p; exact p.elim
          | some d =>
            rw [e4] at p
            exact cmpO_op G I rx ry hm h1 h2 e1 e2 e3 e4 p
        | some d =>
          rw [e3, Option.some_or] at p
          exact cmpD_all (by omega) I rx ry hm (vw_rel hm h1 e1) (vw_rel hm h2 e2) e3 p
  have own : ∀ c fs, a = .v (.obj c fs) → wpAny (model X.prog X.w) X.A (compareOp op.py v u) (EP X pins σ Q) X.xe s := fun c fs ea => by
    subst ea
    unfold cmpW at p
    dsimp only at p
    by_cases hr : rhsOk c m b = true
    · rw [if_pos hr] at p
      obtain ⟨t, ht⟩ := rhs_of hm h2 hr
      have one : ∀ (cop : CmpOp) (j : Nat), (cop = .Eq ∧ j = 10) ∨ (cop = .Lt ∧ j = 11) ∨ (cop = .LtE ∧ j = 12) → Post P X.K (WRel P X.K) w H (opCall hd c j [.v (.obj c fs), b] m) Q (fun cls d H' => Wx cls d σ H') → wpAny (model X.prog X.w) X.A (richCompare cop v u) (EP X pins σ Q) X.xe s := fun cop j hj p => by
        obtain ⟨f, as, e1, e2, p2⟩ := opCall_ok p G.hP
        obtain ⟨d, hf⟩ := fnArgs_def e2
        have R3 := G.room (G.calm_of p2)
        have RR := R3.mono (Nat.le_add_right k 3)
        have O := G.ops c _ f e1
        obtain ⟨f1, f2⟩ := O.cmp cop j hj f d e1 hf
        exact cmp_own O.cf G.hP hf (G.fns f d false hf) RR G.tk f1 f2 I rx ry hm h1 h2 ht e2 p2
      cases op with
      | eq => exact one .Eq 10 (.inl ⟨rfl, rfl⟩) p
      | lt => exact one .Lt 11 (.inr (.inl ⟨rfl, rfl⟩)) p
      | le => exact one .LtE 12 (.inr (.inr ⟨rfl, rfl⟩)) p
      | ne =>
        dsimp only [notW] at p
        have p' := p.bnd (WRel P X.K)
        obtain ⟨f, as, e1, e2, p2⟩ := opCall_ok p' G.hP
        obtain ⟨d, hf⟩ := fnArgs_def e2
        have R3 := G.room (G.calm_of p2)
        have RR := R3.mono (Nat.le_add_right k 3)
        have O := G.ops c _ f e1
        obtain ⟨f1, f2⟩ := O.cmp .Eq 10 (.inl ⟨rfl, rfl⟩) f d e1 hf
        obtain ⟨a, dx, od, rfl, rfl, J⟩ := obj_inst I rx h1
        obtain ⟨L, N⟩ := ht.ty O.cf I ry
        show wpAny (model X.prog X.w) X.A (richCompare .NotEq (.ref a) u) (EP X pins σ Q) X.xe s
        refine ne_K2 (by omega) I.kIn J L N O.cf.cm O.ne f1 f2 (thn (call_runA (G.fns f d false hf) (by rw [G.hP]; exact hf) G.tk ((R3.mono (by omega : k + 1 ≤ k + 3)).in1) I.env0.in1 I hm (WsRel.cons h1 (WsRel.cons h2 WsRel.nil)) (.cons rx (.cons ry .nil)) (by rw [G.hP]; exact e2) p2) fun z s1 hz => ?_)
        obtain ⟨zv, H1, I1, rz, a1, w1, m1, X1, M1, R1, p1⟩ := hz
        obtain ⟨kb, ez, _, q1⟩ := asB_stepB R1 p1
        subst ez
        cases rz
        exact ⟨kb, rfl, .bl (!kb), H1, I1, rfl, q1.flat M1 (Dat.bl_iff.mpr rfl)⟩
      | _ => exact p.elim
    · rw [if_neg hr] at p; exact p.elim
  cases a with
  | v d =>
    cases d with
    | obj c fs => exact own c fs rfl
    | _ => exact flat rfl
  | _ => exact flat rfl
theorem op_negW : UnW P X (unaryOp .USub) (negW hd) Wx := by
  intro pins s σ H x v Q w m a I rx hm h1 p
  cases a with
  | v d =>
    cases d with
    | int i =>
      cases WRel.int h1
      exact un_neg pins s σ H _ v Q I rx ⟨i, rfl, Post.flat p hm (Dat.int_iff.mpr rfl)⟩
    | obj c fs =>
      have p' : Post P X.K (WRel P X.K) w H (opCall hd c 30 [.v (.obj c fs)] m) Q (fun cls d H' => Wx cls d σ H') := p
      obtain ⟨f, as, e1, e2, p2⟩ := opCall_ok p' G.hP
      obtain ⟨d, hf⟩ := fnArgs_def e2
      have RR := (G.room (G.calm_of p2)).mono (Nat.le_add_right k 3)
      have O := G.ops c _ f e1
      obtain ⟨f1, f2⟩ := O.neg f d e1 hf
      exact neg_own G.hP hf (G.fns f d false hf) RR G.tk f1 f2 I rx hm h1 e2 p2
    | _ => exact p.elim
  | _ => exact p.elim
end
end MP
end
section
set_option  maxHeartbeats  4000000
/-! Builtins by the evaluator. -/
namespace MP
open PySem PySem.Spec PyProof.Rows L2
def BF.val : BF → Option Value
  | .len => some (.builtin "len")
  | .abs => some (.builtin "abs")
  | .int => some (.type "int")
  | .str => some (.type "str")
  | .tuple => some (.type "tuple")
  | .all => some (.builtin "all")
  | .any => some (.builtin "any")
  | .max => some (.builtin "max")
  | .min => some (.builtin "min")
  | .repr => some (.builtin "repr")
  | .sum => none
def BF.name : BF → Str
  | .len => "len"
  | .abs => "abs"
  | .int => "int"
  | .str => "str"
  | .tuple => "tuple"
  | .all => "all"
  | .any => "any"
  | .max => "max"
  | .min => "min"
  | .repr => "repr"
  | .sum => "sum"
def BF.calm : BF → Bool
  | .all => true
  | .any => true
  | .max => true
  | .min => true
  | _ => false
section
variable {P : Prog} {K : Fg} {w : Wd} {H : Hp} {m : M}
def VwL (P : Prog) (K : Fg) (w : Wd) (H : Hp) : List D → List V → Prop
  | [], vs => vs = []
  | d :: ds, vs => ∃ v r, vs = v :: r ∧ Vw P K w H d v ∧ VwL P K w H ds r
theorem vws_rel (hm : MRel P K w H m) : ∀ {ws : List W} {vs : List V} {ds : List D}, WsRel P K w H ws vs → vws m ws = some ds → VwL P K w H ds vs
  | [], vs, ds, h, e => by
    cases e
    exact h
  | a :: ws, vs, ds, h, e => by
    obtain ⟨v, r, rfl, h1, h2⟩ := h
    unfold vws at e
    cases e1 : vw m a with
    | none => rw [e1] at e; cases e
    | some d =>
      cases e2 : vws m ws with
      | none => rw [e1, e2] at e; cases e
      | some ds' =>
        rw [e1, e2] at e
        cases e
        exact ⟨v, r, rfl, vw_rel hm h1 e1, vws_rel hm h2 e2⟩
theorem VwL.one {d : D} {vs : List V} (h : VwL P K w H [d] vs) : ∃ v, vs = [v] ∧ Vw P K w H d v := by
  obtain ⟨v, r, rfl, h1, h2⟩ := h
  have e : r = [] := h2
  subst e
  exact ⟨v, rfl, h1⟩
theorem VwL.two {d e : D} {vs : List V} (h : VwL P K w H [d, e] vs) : ∃ v u, vs = [v, u] ∧ Vw P K w H d v ∧ Vw P K w H e u := by
  obtain ⟨v, r, rfl, h1, h2⟩ := h
  obtain ⟨u, rfl, h3⟩ := VwL.one h2
  exact ⟨v, u, rfl, h1, h3⟩
theorem boolL_rel : ∀ {xs : List D} {bs : List Bool} {vs : List V}, boolL xs = some bs → DatL P K w.fro H xs vs → vs = bs.map V.bl
  | [], bs, vs, e, h => by
    cases e
    unfold DatL at h
    exact h
  | x :: xs, bs, vs, e, h => by
    unfold DatL at h
    obtain ⟨v, r, rfl, h1, h2⟩ := h
    cases x with
    | bl b =>
      dsimp only [boolL] at e
      cases e2 : boolL xs with
      | none => rw [e2] at e; cases e
      | some l =>
        rw [e2] at e
        cases e
        rw [Dat.bl_iff.mp h1, boolL_rel e2 h2]
        rfl
    | _ => cases e
end
section
variable {P : Prog} {X : Cx} {Wx : WX}
theorem ts_of (x : Str) : ts x.cps.toList = x := by
  cases x
  simp [ts]
theorem numS_str (i : Int) : ts (numS i) = (toString i : Str) := ts_of _
/-- a builtin called, by values -/
theorem bf_call {hd : Hd} (hu : X.A.units + 70 < cLine) (hg : X.A.guards = some []) (f : BF) (hc : f.calm = true → X.calm = true) {fv : Value} (hf : f.val = some fv) (hint : f ≠ .int) : CallW P X Wx fv (bfW hd f) := by
  intro pins s σ H vs us Q w m ws I r hm hw p
  unfold bfW at p
  cases e1 : vws m ws with
  | none => rw [e1] at p; exact p.elim
  | some ds =>
    rw [e1] at p
    dsimp only at p
    have V := vws_rel hm hw e1
    cases e2 : bfD f ds with
    | none => rw [e2] at p; exact p.elim
    | some d =>
      rw [e2] at p
      have fin : ∀ zv, Dat P X.K w.fro H d zv → Q zv H := fun zv hz => Post.flat p hm hz
      cases f with
      | sum => cases hf
      | int => exact absurd rfl hint
      | len =>
        cases hf
        match ds, e2 with
        | [x], e2 =>
          obtain ⟨v, rfl, vx⟩ := V.one
          have e3 : (lenD x).map (fun n => D.int n) = some d := e2
          cases e4 : lenD x with
          | none => rw [e4] at e3; cases e3
          | some n =>
            rw [e4] at e3
            cases e3
            have q : Q (.int n) H := fin _ (Dat.int_iff.mpr rfl)
            cases x with
            | lst xs =>
              cases e4
              obtain ⟨a, vs, rfl, ra, la⟩ := vx
              exact call_len pins s σ H _ us Q I r ⟨_, xs.length, rfl, .inl ⟨vs, .inl ra, la.length.symm⟩, q⟩
            | tup xs =>
              cases e4
              obtain ⟨a, vs, rfl, ra, la⟩ := vx
              exact call_len pins s σ H _ us Q I r ⟨_, xs.length, rfl, .inr ⟨vs, ra, la.length.symm⟩, q⟩
            | str xs =>
              dsimp only [lenD] at e4
              by_cases hz : sizeOk xs.length = true
              · rw [if_pos hz] at e4
                cases e4
                cases Vw.str vx
                exact call_len pins s σ H _ us Q I r ⟨_, xs.length, rfl, ⟨by rw [ts_len]; exact sizeOk_line hz, (ts_len xs).symm⟩, q⟩
              · rw [if_neg hz] at e4; cases e4
            | dct kvs =>
              dsimp only [lenD] at e4
              by_cases hz : kvs.all isK = true
              · rw [if_pos hz] at e4
                cases e4
                obtain ⟨a, vs, rfl, hs', dd, hl, _, hn⟩ := dk_at I vx hz
                obtain ⟨u, rfl, ru⟩ := vals1 r
                obtain rfl : u = Value.ref a := ru
                have h63 := line63
                refine call_len_dict hs' dd (by omega) ?_
                rw [hn]
                exact ⟨.int _, H, I.tok _, ⟨_, rfl⟩, q⟩
              · rw [if_neg hz] at e4; cases e4
            | _ => cases e4
        | [], e2 => cases e2
        | _ :: _ :: _, e2 => cases e2
      | abs =>
        cases hf
        match ds, e2 with
        | [.int i], e2 =>
          cases e2
          obtain ⟨v, rfl, vx⟩ := V.one
          cases Vw.int vx
          exact call_abs pins s σ H _ us Q I r ⟨i, rfl, fin _ (Dat.int_iff.mpr rfl)⟩
      | str =>
        cases hf
        match ds, e2 with
        | [.str x], e2 =>
          cases e2
          obtain ⟨v, rfl, vx⟩ := V.one
          cases Vw.str vx
          exact SkE.call_str_str pins s σ H _ us Q I r ⟨ts x, rfl, fin _ (Dat.str_iff.mpr rfl)⟩
        | [.int i], e2 =>
          dsimp only [bfD] at e2
          by_cases hz : i.natAbs.log2 < 1900
          · rw [if_pos hz] at e2
            cases e2
            obtain ⟨v, rfl, vx⟩ := V.one
            cases Vw.int vx
            refine call_str_int pins s σ H _ us Q I r ⟨i, rfl, by omega, ?_⟩
            rw [← numS_str]
            exact fin _ (Dat.str_iff.mpr rfl)
          · rw [if_neg hz] at e2; cases e2
      | tuple =>
        cases hf
        match ds, e2 with
        | [.lst xs], e2 =>
          cases e2
          obtain ⟨v, rfl, a, vs, rfl, ra, la⟩ := V.one
          refine call_tuple_of pins s σ H _ us Q I r ⟨a, vs, rfl, .inl ⟨.inl ra, fun l hl => ?_⟩⟩
          exact Post.new p hm hl (new_tup hm hl la)
      | all =>
        cases hf
        match ds, e2 with
        | [.lst xs], e2 =>
          obtain ⟨v, rfl, a, vs, rfl, ra, la⟩ := V.one
          dsimp only [bfD] at e2
          cases e3 : boolL xs with
          | none => rw [e3] at e2; cases e2
          | some bs =>
            rw [e3] at e2
            cases e2
            have e4 := boolL_rel e3 la
            subst e4
            exact cr_all (hc rfl) pins s σ H _ us Q I r ⟨a, bs, rfl, .inl ra, fin _ (Dat.bl_iff.mpr rfl)⟩
      | any =>
        cases hf
        match ds, e2 with
        | [.lst xs], e2 =>
          obtain ⟨v, rfl, a, vs, rfl, ra, la⟩ := V.one
          dsimp only [bfD] at e2
          cases e3 : boolL xs with
          | none => rw [e3] at e2; cases e2
          | some bs =>
            rw [e3] at e2
            cases e2
            have e4 := boolL_rel e3 la
            subst e4
            exact cr_any (hc rfl) pins s σ H _ us Q I r ⟨a, bs, rfl, .inl ra, fin _ (Dat.bl_iff.mpr rfl)⟩
      | max =>
        cases hf
        match ds, e2 with
        | [.int i, .int j], e2 =>
          cases e2
          obtain ⟨v, u, rfl, v1, v2⟩ := V.two
          cases Vw.int v1
          cases Vw.int v2
          exact call_max2 (hc rfl) pins s σ H _ us Q I r ⟨i, j, rfl, fin _ (Dat.int_iff.mpr rfl)⟩
      | min =>
        cases hf
        match ds, e2 with
        | [.int i, .int j], e2 =>
          cases e2
          obtain ⟨v, u, rfl, v1, v2⟩ := V.two
          cases Vw.int v1
          cases Vw.int v2
          exact call_min2 (hc rfl) pins s σ H _ us Q I r ⟨i, j, rfl, fin _ (Dat.int_iff.mpr rfl)⟩
      | repr =>
        cases hf
        match ds, e2 with
        | [x], e2 =>
          obtain ⟨v, rfl, vx⟩ := V.one
          obtain ⟨u, rfl, ru⟩ := vals1 r
          have e3 : (reprD x).map D.str = some d := e2
          cases e4 : reprD x with
          | none => rw [e4] at e3; cases e3
          | some tx =>
            rw [e4] at e3
            cases e3
            have q : Q (.str (ts tx)) H := fin _ (Dat.str_iff.mpr rfl)
            have gen : (if plain 50 x && (toPy x).showable && sizeOk (toPy x).shown.length then some (toPy x).shown.cps.toList else none) = some tx → wpAny (model X.prog X.w) X.A (call (.builtin "repr") [u]) (EP X pins σ Q) X.xe s := fun e5 => by
              by_cases hz : (plain 50 x && (toPy x).showable && sizeOk (toPy x).shown.length) = true
              · rw [if_pos hz] at e5
                cases e5
                obtain ⟨hz1, hz2⟩ := Bool.and_eq_true_iff.mp hz
                obtain ⟨hz3, hz4⟩ := Bool.and_eq_true_iff.mp hz1
                rw [ts_of] at q
                obtain ⟨c1, c2⟩ := plain_py 50 x hz3
                obtain ⟨as, rd⟩ := Dp.reads I (toPy x) v u (vw_dp hz3 vx) ru
                have nd := PyData.hasDict_of_canLay (toPy x) c1
                have hsz := sizeOk_line hz2
                have big : ∀ a, u = .ref a → wpAny (model X.prog X.w) X.A (call (.builtin "repr") [u]) (EP X pins σ Q) X.xe s := fun a ea => by
                  subst ea
                  exact repr_of_reads' rd hz4 (PyData.noDict_hsm nd) hg (by omega) (fun b o h => h) (fun h' t tk hk => ⟨.str _, H, I.kept hk, ⟨_, rfl⟩, q⟩) hsz
                cases x with
                | non =>
                  cases Vw.non vx
                  cases ru
                  exact PySem.P.repr_of_none ⟨.str _, H, I.tok _, ⟨_, rfl⟩, q⟩
                | bl b =>
                  cases Vw.bl vx
                  cases ru
                  exact PySem.P.repr_of_bool ⟨.str _, H, I.tok _, ⟨_, rfl⟩, q⟩
                | int i =>
                  cases Vw.int vx
                  obtain ⟨t, rfl⟩ := ru
                  exact PySem.P.repr_of_int (of_decide_eq_true hz4) ⟨.str _, H, I.tok _, ⟨_, rfl⟩, q⟩
                | str y =>
                  cases Vw.str vx
                  obtain ⟨t, rfl⟩ := ru
                  exact PySem.P.repr_of_str ⟨.str _, H, I.tok _, ⟨_, rfl⟩, q⟩ hsz
                | lst xs =>
                  obtain ⟨a, vs, rfl, _⟩ := vx
                  exact big a ru
                | tup xs =>
                  obtain ⟨a, vs, rfl, _⟩ := vx
                  exact big a ru
                | _ => cases hz3
              · rw [if_neg hz] at e5; cases e5
            cases x with
            | dct kvs =>
              cases kvs with
              | nil =>
                cases e4
                obtain ⟨a, vs, rfl, hs', ⟨o, es, ep, h1, h2, h3, h4, h5, h6⟩, hl, _, hn⟩ := dk_at I vx rfl
                obtain rfl : u = Value.ref a := ru
                have hv : vs = [] := List.eq_nil_of_length_eq_zero hn
                subst hv
                have he : es.toList = [] := List.eq_nil_of_length_eq_zero h5.length
                have rd : Reads s.heap (.ref a) (.dict []) (a :: [] ++ []) := Reads.dict h1 h2.1 h3 (by rw [he]; exact .nil) (by rw [he]; exact .nil)
                refine repr_of_reads' rd rfl (fun _ hm => ?_) hg (by show X.A.units + (1 + 1) < cLine; omega) (fun b o h => h) (fun h' t tk hk => ⟨.str _, H, I.kept hk, ⟨_, rfl⟩, q⟩) (by show 2 ≤ sizeLine; rw [sizeLine_eq]; decide)
                simp at hm
                rw [← hm] at hs'
                simp at hs'
              | cons _ _ => exact gen e4
            | _ => exact gen e4
        | [], e2 => cases e2
        | _ :: _ :: _, e2 => cases e2
end
end MP
end
section
set_option  maxHeartbeats  4000000
/-! New things; walks. -/
namespace MP
open PySem PySem.Spec PyProof.Rows L2
section
variable (P : Prog) (K : Fg)
/-- behind the making of a new thing -/
def PostN (w : Wd) (H : Hp) (r : R C) (Q : VK) (Wy : Value → Option Addr → Hp → Prop) : Prop := match r with
  | .ok c m => c.locked = false ∧ ∀ w1 H1 p, Ext w H w1 H1 → MRel P K w1 H1 m → Free w1 p → CRel P K w1 H1 [p] c → Q (.ref p) H1
  | .exc c fs m => ∀ cls d w' H', Ext w H w' H' → MRel P K w' H' m → XRel P K w' H' c fs cls d → Wy cls d H'
  | .bad => False
def rN (f : List W → M → R C) (Wx : WX) : TE := fun σ H Q => ∃ w ρ m, MRel P K w H m ∧ SRel P K w H ρ σ ∧ PostN P K w H (f ρ m) Q (fun cls d H' => Wx cls d σ H')
end
section
variable {P : Prog} {K : Fg} {w w1 : Wd} {H H1 : Hp} {m : M} {p : Addr} {c : C}
theorem crel_dat (hc : CRel P K w H [p] c) (hl : c.locked = false) {d : D} (e : C.d c = some d) (hf : ∀ a, w.fro a → w1.fro a) (hp : w1.fro p) : Dat P K w1.fro H d (.ref p) := by
  cases c with
  | lst k xs =>
    cases e
    obtain ⟨a, vs, ea, q, l⟩ := hc
    cases ea
    exact Dat.lst_iff.mpr ⟨p, vs, rfl, hp, q, DatL.mono hf (fun _ _ => .rfl) l⟩
  | dct k t kvs =>
    cases e
    have hk : k = false := hl
    subst hk
    obtain ⟨a, ea, q⟩ := hc
    cases ea
    refine Dat.dct_iff.mpr ⟨p, rfl, hp, ?_⟩
    cases t with
    | true =>
      obtain ⟨kv, q1, q2⟩ := q
      exact .inr ⟨kv, q1, DatT.mono hf (fun _ _ => .rfl) q2⟩
    | false =>
      obtain ⟨kv, q1, q2⟩ := q
      exact .inl ⟨kv, .inl q1, DatK.mono hf (fun _ _ => .rfl) q2⟩
  | _ => cases e
end
section
variable {P : Prog} {X : Cx} {Wx : WX} {pos : Pos}
def nwR (fr : Bool) (c : C) (m1 : M) : R W := if fr then .ok (.c m1.length) (m1 ++ [c]) else R.opt ((C.d c).map W.v) m1
theorem nw_post {fr : Bool} {w : Wd} {H : Hp} {r : R C} {Q : VK} {Wy : Value → Option Addr → Hp → Prop} (h : Post P X.K (WRel P X.K) w H (r.bnd (nwR fr)) Q Wy) (hlk : ∀ c m, r = .ok c m → c.locked = false) : PostN P X.K w H r Q Wy := by
  cases r with
  | bad => exact h
  | exc c fs m => exact h
  | ok c m =>
    refine ⟨hlk c m rfl, fun w1 H1 p x1 M1 f1 c1 => ?_⟩
    have hl := hlk c m rfl
    dsimp only [R.bnd, nwR] at h
    cases fr with
    | true =>
      rw [if_pos rfl] at h
      obtain ⟨x2, M2⟩ := M1.own_ f1 c1 hl
      refine h _ _ _ (x1.trans x2) M2 ⟨[p], ?_, fun a q => by cases q; rfl⟩
      show (w1.ow ++ [[p]])[m.length]? = _
      rw [← M1.len]
      simp
    | false =>
      rw [if_neg Bool.false_ne_true] at h
      cases e : C.d c with
      | none => rw [e] at h; exact h.elim
      | some d =>
        rw [e] at h
        have hp : H1 p ≠ none := c1.some p List.mem_cons_self
        obtain ⟨x2, M2⟩ := M1.take_ f1 hp
        exact h _ _ _ (x1.trans x2) M2 (crel_dat c1 hl e x2.fro (.inr rfl))
/-- a new thing as an expression -/
theorem e_nw {e : Expr} {f : List W → M → R C} {fr : Bool} (h : PE X e (rN P X.K f Wx)) (hlk : ∀ ρ m c m1, f ρ m = .ok c m1 → c.locked = false) (he : ∀ whole, isTrue e X.env whole = (do let v ← whole; standAt e.pos; holding [v] (truthy v))) : PEB P X Wx e fun ρ m => (f ρ m).bnd (nwR fr) :=
  .of (PE.imp h fun σ H Q ⟨w, ρ, m, hm, hs, p⟩ => ⟨w, ρ, m, hm, hs, nw_post p fun c m1 => hlk ρ m c m1⟩) he
/-- [a, b, ..] -/
def lstN (P : Prog) (ws : List W) (m1 : M) : R C := match fzs P m1 ws with
    | some (ds, m2) => if sizeOk ds.length then .ok (.lst false ds) m2 else .bad
    | none => .bad
theorem n_lst {es : List Expr} {f : List W → M → R (List W)} (h : PAr P X Wx es f) : PE X (.List es pos) (rN P X.K (fun ρ m => (f ρ m).bnd (lstN P)) Wx) := by
  refine PE.imp (pe_lst h.pa) fun σ H Q ⟨w, ρ, m, hm, hs, p⟩ => ?_
  dsimp only at p
  refine ⟨w, ρ, m, hm, hs, ?_⟩
  cases e : f ρ m with
  | bad => rw [e] at p; exact p
  | exc c fs m1 => rw [e] at p; exact p
  | ok ws m1 =>
    rw [e] at p
    intro xs w1 H1 X1 M1 R1
    dsimp only [R.bnd, lstN] at p
    cases ef : fzs P m1 ws with
    | none => rw [ef] at p; exact p.elim
    | some q =>
      obtain ⟨ds, m2⟩ := q
      rw [ef] at p
      dsimp only at p
      by_cases hz : sizeOk ds.length = true
      · rw [if_pos hz] at p
        obtain ⟨w2, X2, M2, D2⟩ := fzs_rel M1 R1 ef
        refine ⟨by rw [D2.length]; exact sizeOk_line hz, fun q hq => ?_⟩
        refine p.2 w2 _ q ((X1.trans X2).trans (Ext.lay M2 hq)) (M2.lay hq) (M2.free hq) ⟨q, xs, rfl, upd_same, ?_⟩
        exact DatL.mono (Ext.lay (o := .lst xs) M2 hq).fro (Ext.lay M2 hq).keep D2
      · rw [if_neg hz] at p; exact p.elim
end
/-! ### locks -/
section
variable {P : Prog} {K : Fg} {w w1 w2 : Wd} {H H1 H2 : Hp} {m m1 m2 m3 : M}
abbrev Wd.pr (w : Wd) (p : Addr → Prop) : Wd := { w with prot := p }
theorem pr_self (w : Wd) : w.pr w.prot = w := rfl
theorem lockC_eq (m : M) (x : W) : lockC m x = m ∨ ∃ n xs, x = .c n ∧ m[n]? = some (.lst false xs) ∧ lockC m x = m.set n (.lst true xs) := by
  cases x with
  | c k =>
    unfold lockC
    dsimp only
    cases e : m[k]? with
    | none => exact .inl rfl
    | some cc =>
      cases cc with
      | lst b xs =>
        cases b with
        | true => exact .inl rfl
        | false => exact .inr ⟨k, xs, rfl, e, rfl⟩
      | _ => exact .inl rfl
  | _ => exact .inl rfl
theorem unlockC_same (m0 m : M) (x : W) (h : ∀ n xs, x = .c n → m0[n]? ≠ some (.lst false xs)) : unlockC m0 m x = some m := by
  cases x with
  | c k =>
    unfold unlockC
    dsimp only
    cases e : m0[k]? with
    | none => rfl
    | some cc =>
      cases cc with
      | lst b xs =>
        cases b with
        | true => rfl
        | false => exact absurd e (h k xs rfl)
      | _ => rfl
  | _ => rfl
/-- one thing locked, and set free again -/
theorem lock_one {x : W} (h : MRel P K w H m) : ∃ p', (∀ a, w.prot a → p' a) ∧ MRel P K (w.pr p') H (lockC m x) ∧
    ∀ m2 m3 w2 H2, unlockC m m2 x = some m3 → Ext (w.pr p') H w2 H2 → MRel P K w2 H2 m2 → MRel P K (w2.pr w.prot) H2 m3 := by
  have crp : ∀ {w : Wd} {H : Hp} {as : List Addr} {c : C} (p : Addr → Prop), CRel P K w H as c → CRel P K (w.pr p) H as c := fun {w H as c} p q => CRel.mono (w := w) (w' := w.pr p) (fun _ f => f) (fun _ _ => .rfl) (fun _ _ => rfl) q
  by_cases hx : ∃ n xs, x = .c n ∧ m[n]? = some (.lst false xs)
  · obtain ⟨n, xs, rfl, e⟩ := hx
    have hltm : n < m.length := (List.getElem?_eq_some_iff.mp e).1
    have hlto : n < w.ow.length := by rw [h.len]; exact hltm
    obtain ⟨as, eo⟩ : ∃ as, w.ow[n]? = some as := ⟨w.ow[n], List.getElem?_eq_getElem hlto⟩
    obtain ⟨a, vs, ea, ha, la⟩ := h.at_ n _ as e eo
    subst ea
    have el : lockC m (.c n) = m.set n (.lst true xs) := by
      unfold lockC
      dsimp only
      rw [e]
    have npa : ¬ w.prot a := h.lk n _ [a] e eo rfl a List.mem_cons_self
    have only : ∀ k bs, w.ow[k]? = some bs → a ∈ bs → k = n := fun k bs q hb => by
      by_cases hk : k = n
      · exact hk
      · obtain ⟨a1, _, _⟩ := ow_apart (bs := []) h.nd eo
        refine absurd ?_ (a1 a List.mem_cons_self)
        rw [List.flatten_append]
        by_cases hlt2 : k < n
        · exact List.mem_append_left _ (List.mem_flatten.mpr ⟨bs, List.mem_of_getElem? (i := k) (by rw [List.getElem?_take_of_lt hlt2]; exact q), hb⟩)
        · refine List.mem_append_right _ (List.mem_flatten.mpr ⟨bs, List.mem_of_getElem? (i := k - (n + 1)) ?_, hb⟩)
          rw [List.getElem?_drop, show n + 1 + (k - (n + 1)) = k by omega]
          exact q
    refine ⟨fun b => w.prot b ∨ b = a, fun _ q => .inl q, ?_, ?_⟩
    · rw [el]
      refine ⟨by rw [List.length_set]; exact h.len, fun k c bs q1 q2 => ?_, h.nd, h.dis, h.some_, h.hid, fun b q => ?_, fun k c bs q1 q2 hl b hb => ?_, fun k c bs q1 q2 hl b hb => ?_, h.xk⟩
      · by_cases hk : k = n
        · subst hk
          rw [List.getElem?_set_self hltm] at q1
          cases q1
          have q2' : w.ow[k]? = some bs := q2
          rw [eo] at q2'
          cases q2'
          exact crp _ ⟨a, vs, rfl, ha, la⟩
        · rw [List.getElem?_set_ne (Ne.symm hk)] at q1
          exact crp _ (h.at_ k c bs q1 q2)
      · rcases q with q | q
        · exact h.pro b q
        · subst q
          exact ⟨h.dis b (mem_ow eo b List.mem_cons_self), by rw [ha]; exact fun z => nomatch z⟩
      · by_cases hk : k = n
        · subst hk
          rw [List.getElem?_set_self hltm] at q1
          cases q1
          cases hl
        · rw [List.getElem?_set_ne (Ne.symm hk)] at q1
          intro q
          rcases q with q | q
          · exact h.lk k c bs q1 q2 hl b hb q
          · subst q
            exact hk (only k bs q2 hb)
      · by_cases hk : k = n
        · subst hk
          have q2' : w.ow[k]? = some bs := q2
          rw [eo] at q2'
          cases q2'
          exact .inr (List.mem_singleton.mp hb)
        · rw [List.getElem?_set_ne (Ne.symm hk)] at q1
          exact .inl (h.lk2 k c bs q1 q2 hl b hb)
    · intro m2 m3 w2 H2 eu x2 M2
      unfold unlockC at eu
      dsimp only at eu
      rw [e] at eu
      dsimp only at eu
      cases e2 : m2[n]? with
      | none => rw [e2] at eu; cases eu
      | some c2 =>
        rw [e2] at eu
        cases c2 with
        | lst b ys =>
          cases b with
          | false => cases eu
          | true =>
            cases eu
            have hltm2 : n < m2.length := (List.getElem?_eq_some_iff.mp e2).1
            obtain ⟨as2, eo2, hh⟩ := x2.ow n [a] eo
            obtain ⟨a2, vs2, ea2, ha2, la2⟩ := M2.at_ n _ as2 e2 eo2
            subst ea2
            have e3 : a = a2 := Option.some.inj (hh a2 rfl)
            subst e3
            have pe : ∀ b, w2.prot b ↔ (w.prot b ∨ b = a) := fun b => by rw [x2.prot]
            have only2 : ∀ k bs, w2.ow[k]? = some bs → a ∈ bs → k = n := fun k bs q hb => by
              by_cases hk : k = n
              · exact hk
              · obtain ⟨a1, _, _⟩ := ow_apart (bs := []) M2.nd eo2
                refine absurd ?_ (a1 a List.mem_cons_self)
                rw [List.flatten_append]
                by_cases hlt2 : k < n
                · exact List.mem_append_left _ (List.mem_flatten.mpr ⟨bs, List.mem_of_getElem? (i := k) (by rw [List.getElem?_take_of_lt hlt2]; exact q), hb⟩)
                · refine List.mem_append_right _ (List.mem_flatten.mpr ⟨bs, List.mem_of_getElem? (i := k - (n + 1)) ?_, hb⟩)
                  rw [List.getElem?_drop, show n + 1 + (k - (n + 1)) = k by omega]
                  exact q
            refine ⟨by rw [List.length_set]; exact M2.len, fun k c bs q1 q2 => ?_, M2.nd, M2.dis, M2.some_, M2.hid, fun b q => M2.pro b ((pe b).mpr (.inl q)), fun k c bs q1 q2 hl b hb => ?_, fun k c bs q1 q2 hl b hb => ?_, M2.xk⟩
            · by_cases hk : k = n
              · subst hk
                rw [List.getElem?_set_self hltm2] at q1
                cases q1
                have q2' : w2.ow[k]? = some bs := q2
                rw [eo2] at q2'
                cases q2'
                exact crp _ ⟨a, vs2, rfl, ha2, la2⟩
              · rw [List.getElem?_set_ne (Ne.symm hk)] at q1
                exact crp _ (M2.at_ k c bs q1 q2)
            · by_cases hk : k = n
              · subst hk
                have q2' : w2.ow[k]? = some bs := q2
                rw [eo2] at q2'
                cases q2'
                rw [List.mem_singleton.mp hb]
                exact npa
              · rw [List.getElem?_set_ne (Ne.symm hk)] at q1
                exact fun q => M2.lk k c bs q1 q2 hl b hb ((pe b).mpr (.inl q))
            · by_cases hk : k = n
              · subst hk
                rw [List.getElem?_set_self hltm2] at q1
                cases q1
                cases hl
              · rw [List.getElem?_set_ne (Ne.symm hk)] at q1
                have := (pe b).mp (M2.lk2 k c bs q1 q2 hl b hb)
                rcases this with q | q
                · exact q
                · subst q
                  exact absurd (only2 k bs q2 hb) hk
        | _ => cases eu
  · have hx' : ∀ n xs, x = .c n → m[n]? ≠ some (.lst false xs) := fun n xs e1 e2 => hx ⟨n, xs, e1, e2⟩
    refine ⟨w.prot, fun _ q => q, ?_, fun m2 m3 w2 H2 eu x2 M2 => ?_⟩
    · rcases lockC_eq m x with e | ⟨n, xs, e1, e2, _⟩
      · rw [e]; exact h
      · exact absurd e2 (hx' n xs e1)
    · rw [unlockC_same m m2 x hx'] at eu
      cases eu
      have e : w2.pr w.prot = w2 := by
        have := x2.prot
        show ({ w2 with prot := w.prot } : Wd) = w2
        rw [show w.prot = w2.prot from this.symm]
      rw [e]
      exact M2
/-- all of them -/
theorem lockR_ok {α : Type} {f : M → R α} : ∀ {ws : List W} {m : M}, lockR ws m f = .bad ∨ ∃ a m1, lockR ws m f = .ok a m1
  | [], m => by
    unfold lockR
    cases f m with
    | ok a m1 => exact .inr ⟨a, m1, rfl⟩
    | _ => exact .inl rfl
  | w :: ws, m => by
    unfold lockR
    cases lockR ws (lockC m w) f with
    | ok a m1 =>
      dsimp only
      cases unlockC m m1 w with
      | none => exact .inl rfl
      | some m2 => exact .inr ⟨a, m2, rfl⟩
    | _ => exact .inl rfl
theorem lock_all {α : Type} (f : M → R α) {a : α} : ∀ {ws : List W} {w : Wd} {m m3 : M}, MRel P K w H m → lockR ws m f = .ok a m3 → ∃ p' m2, (∀ a, w.prot a → p' a) ∧ MRel P K (w.pr p') H (ws.foldl lockC m) ∧ f (ws.foldl lockC m) = .ok a m2 ∧
    ∀ w2 H2, Ext (w.pr p') H w2 H2 → MRel P K w2 H2 m2 → MRel P K (w2.pr w.prot) H2 m3
  | [], w, m, m3, h, e => by
    have e' : f m = .ok a m3 := by
      unfold lockR at e
      cases q : f m with
      | ok b m1 => rw [q] at e; exact e
      | _ => rw [q] at e; cases e
    refine ⟨w.prot, m3, fun _ q => q, h, e', fun w2 H2 x2 M2 => ?_⟩
    have e : w2.pr w.prot = w2 := by
      have := x2.prot
      show ({ w2 with prot := w.prot } : Wd) = w2
      rw [show w.prot = w2.prot from this.symm]
    rw [e]
    exact M2
  | x :: ws, w, m, m3, h, e => by
    obtain ⟨p1, h1, h2, h3⟩ := lock_one (x := x) h
    unfold lockR at e
    cases e1 : lockR ws (lockC m x) f with
    | bad => rw [e1] at e; cases e
    | exc c fs m1 => rw [e1] at e; cases e
    | ok b m1 =>
      rw [e1] at e
      dsimp only at e
      cases e2 : unlockC m m1 x with
      | none => rw [e2] at e; cases e
      | some m4 =>
        rw [e2] at e
        cases e
        obtain ⟨p2, m2, k1, k2, k3, k4⟩ := lock_all f h2 e1
        refine ⟨p2, m2, fun a q => k1 a (h1 a q), k2, k3, fun w2 H2 x2 M2 => ?_⟩
        have x3 : Ext (w.pr p1) H (w2.pr p1) H2 := ⟨x2.fro, x2.keep, x2.ow, x2.xi, x2.hid, rfl, fun a q => x2.pk a (by
          rcases q with q | q
          · exact .inl q
          · exact .inr (k1 a q))⟩
        exact h3 m1 m3 (w2.pr p1) H2 e2 x3 (k4 w2 H2 x2 M2)
/-- the way back, for the world -/
theorem Ext.unpr {p' : Addr → Prop} (x : Ext (w.pr p') H w2 H2) (hp : ∀ a, w.prot a → p' a) : Ext w H (w2.pr w.prot) H2 := ⟨x.fro, x.keep, x.ow, x.xi, x.hid, Eq.refl _, fun a q => x.pk a (by
  rcases q with q | q
  · exact .inl q
  · exact .inr (hp a q))⟩
end
end MP
end
section
set_option  maxHeartbeats  4000000
/-! Walks. -/
namespace MP
open PySem PySem.Spec PyProof.Rows L2
/-- what an iterator gives: the data ds, as long as Ok stands -/
structure Wk (P : Prog) (K : Fg) (J : L2.It) (ds : List D) (Ok : Wd → Hp → Prop) : Prop where
  stay : ∀ w H w' H', Ok w H → Ext w H w' H' → Ok w' H'
  go : ∀ i w H, Ok w H → i < ds.length → J.go i H
  yld : ∀ i w H m x H' d, MRel P K w H m → Ok w H → ds[i]? = some d → J.yld i H x H' → ∃ w', Ext w H w' H' ∧ MRel P K w' H' m ∧ Dat P K w'.fro H' d x
  stop : ∀ w H, Ok w H → J.stop ds.length H
  irr : ∀ (w : Wd) H h, Ok w H → Ok { w with hid := h } H
section
variable (P : Prog) (K : Fg)
def PostI (w : Wd) (H : Hp) (r : R (List D × List W)) (Q : L2.It → Hp → Prop) (Wy : Value → Option Addr → Hp → Prop) : Prop := match r with
  | .ok q m => ∀ J w1 H1 Ok, Ext w H w1 H1 → MRel P K w1 H1 m → Wk P K J q.1 Ok → (∀ w', w'.fro = w1.fro → w'.ow = w1.ow → MRel P K w' H1 (q.2.foldl lockC m) → Ok w' H1) → Q J H1
  | .exc c fs m => ∀ cls d w' H', Ext w H w' H' → MRel P K w' H' m → XRel P K w' H' c fs cls d → Wy cls d H'
  | .bad => False
def rI (f : List W → M → R (List D × List W)) (Wx : WX) : TI := fun σ H Q => ∃ w ρ m, MRel P K w H m ∧ SRel P K w H ρ σ ∧ PostI P K w H (f ρ m) Q (fun cls d H' => Wx cls d σ H')
/-- a list as it stands through a walk -/
def LOk (a : Addr) (ds : List D) (w : Wd) (H : Hp) : Prop := ∃ vs, ((w.fro a ∧ H a = some (.lst vs)) ∨ (w.prot a ∧ Rd H a (.lst vs))) ∧ DatL P K w.fro H ds vs
end
section
variable {P : Prog} {K : Fg} {w w' : Wd} {H H' : Hp} {m : M} {a : Addr} {ds : List D}
theorem LOk.stay (h : LOk P K a ds w H) (x : Ext w H w' H') : LOk P K a ds w' H' := by
  obtain ⟨vs, h1, h2⟩ := h
  refine ⟨vs, ?_, DatL.mono x.fro x.keep h2⟩
  rcases h1 with ⟨f, q⟩ | ⟨f, q⟩
  · exact .inl ⟨x.fro _ f, (x.keep _ f).lst _ q⟩
  · refine .inr ⟨by rw [x.prot]; exact f, ?_⟩
    have e := x.pk a (.inr f)
    rcases q with q | ⟨o, q⟩
    · exact .inl (e.trans q)
    · exact .inr ⟨o, e.trans q⟩
theorem LOk.sq (h : LOk P K a ds w H) : ∃ vs, SqL K H a vs ∧ DatL P K w.fro H ds vs := by
  obtain ⟨vs, h1, h2⟩ := h
  rcases h1 with ⟨f, q⟩ | ⟨f, q⟩
  · exact ⟨vs, .inl (.inl q), h2⟩
  · exact ⟨vs, .inl q, h2⟩
theorem wk_list : Wk P K (Itl K a) ds (LOk P K a ds) where
  stay := fun _ _ _ _ h x => h.stay x
  go := fun i w H h hi => by
    obtain ⟨vs, q, l⟩ := h.sq
    have hv : i < vs.length := by rw [l.length]; exact hi
    exact ⟨vs, vs[i], q, List.getElem?_eq_getElem hv⟩
  yld := fun i w H m x H' d hm h hd hy => by
    obtain ⟨vs, q, l⟩ := h.sq
    obtain ⟨e, hy⟩ := hy
    subst e
    obtain ⟨v, h1, h2⟩ := l.get hd
    have := hy vs q
    rw [h1] at this
    cases this
    exact ⟨w, .rfl, hm, h2⟩
  stop := fun w H h => by
    obtain ⟨vs, q, l⟩ := h.sq
    exact ⟨vs, q, Nat.le_of_eq l.length⟩
  irr := fun _ _ _ h => h
def TOk (P : Prog) (K : Fg) (a : Addr) (ds : List D) (w : Wd) (H : Hp) : Prop := Dat P K w.fro H (.tup ds) (.ref a)
theorem TOk.sq (h : TOk P K a ds w H) : ∃ vs, SqT K H a vs ∧ DatL P K w.fro H ds vs := by
  obtain ⟨b, vs, e, q, l⟩ := Dat.tup_iff.mp h
  cases e
  rcases q with ⟨_, q⟩ | q
  · exact ⟨vs, .inl (.inl q), l⟩
  · exact ⟨vs, .inr q, l⟩
theorem wk_tup : Wk P K (Itt K a) ds (TOk P K a ds) where
  stay := fun _ _ _ _ h x => Dat.mono x.fro x.keep h
  go := fun i w H h hi => by
    obtain ⟨vs, q, l⟩ := h.sq
    have hv : i < vs.length := by rw [l.length]; exact hi
    exact ⟨vs, vs[i], q, List.getElem?_eq_getElem hv⟩
  yld := fun i w H m x H' d hm h hd hy => by
    obtain ⟨vs, q, l⟩ := h.sq
    obtain ⟨e, hy⟩ := hy
    subst e
    obtain ⟨v, h1, h2⟩ := l.get hd
    have := hy vs q
    rw [h1] at this
    cases this
    exact ⟨w, .rfl, hm, h2⟩
  stop := fun w H h => by
    obtain ⟨vs, q, l⟩ := h.sq
    exact ⟨vs, q, Nat.le_of_eq l.length⟩
  irr := fun _ _ _ h => h
theorem wk_str {x : Sg} : Wk P K (Its (ts x)) (x.map fun c => D.str [c]) (fun _ _ => True) where
  stay := fun _ _ _ _ _ _ => True.intro
  go := fun i w H _ hi => by
    show i < (ts x).cps.size
    rw [List.length_map] at hi
    simpa [ts] using hi
  yld := fun i w H m v H' d hm _ hd hy => by
    obtain ⟨e, c, hc, ev⟩ := hy
    subst e ev
    have h1 : x[i]? = some c := by simpa [ts] using hc
    rw [List.getElem?_map, h1] at hd
    cases hd
    exact ⟨w, .rfl, hm, Dat.str_iff.mpr rfl⟩
  stop := fun w H _ => by
    show (ts x).cps.size ≤ _
    rw [List.length_map]
    simp [ts]
  irr := fun _ _ _ h => h
theorem wk_range {lo hi : Int} : Wk P K (Itr lo (hi - lo).toNat) (rangeD lo hi) (fun _ _ => True) where
  stay := fun _ _ _ _ _ _ => True.intro
  go := fun i w H _ hi' => by
    show i < _
    simpa [rangeD] using hi'
  yld := fun i w H m v H' d hm _ hd hy => by
    obtain ⟨e, ev⟩ := hy
    subst e ev
    unfold rangeD at hd
    rw [List.getElem?_map] at hd
    by_cases hi' : i < (hi - lo).toNat
    · rw [List.getElem?_range hi'] at hd
      cases hd
      exact ⟨w, .rfl, hm, Dat.int_iff.mpr rfl⟩
    · rw [List.getElem?_eq_none (by simpa using hi')] at hd
      cases hd
  stop := fun w H _ => by
    show _ ≤ _
    simp [rangeD]
  irr := fun _ _ _ h => h
theorem enumD_len : ∀ (k : Nat) (xs : List D), (enumD k xs).length = xs.length
  | _, [] => rfl
  | k, x :: r => by
    show (enumD (k + 1) r).length + 1 = r.length + 1
    rw [enumD_len (k + 1) r]
theorem enumD_get : ∀ (k : Nat) (xs : List D) (i : Nat) (d : D), (enumD k xs)[i]? = some d → ∃ x, xs[i]? = some x ∧ d = .tup [.int ((k + i : Nat) : Int), x]
  | k, [], i, d, h => by cases i <;> cases h
  | k, x :: r, 0, d, h => by
    cases h
    exact ⟨x, rfl, rfl⟩
  | k, x :: r, i + 1, d, h => by
    obtain ⟨y, h1, h2⟩ := enumD_get (k + 1) r i d h
    exact ⟨y, h1, by rw [h2, show k + 1 + i = k + (i + 1) by omega]⟩
theorem zipD_len : ∀ (xs ys : List D), (zipD xs ys).length = min xs.length ys.length
  | [], ys => by show 0 = _; simp
  | x :: r, [] => by show 0 = _; simp
  | x :: r, y :: q => by
    show (zipD r q).length + 1 = _
    rw [zipD_len r q, List.length_cons, List.length_cons]
    omega
theorem zipD_get : ∀ (xs ys : List D) (i : Nat) (d : D), (zipD xs ys)[i]? = some d → ∃ x y, xs[i]? = some x ∧ ys[i]? = some y ∧ d = .tup [x, y]
  | [], ys, i, d, h => by cases i <;> cases h
  | x :: r, [], i, d, h => by cases i <;> cases h
  | x :: r, y :: q, 0, d, h => by
    cases h
    exact ⟨x, y, rfl, rfl, rfl⟩
  | x :: r, y :: q, i + 1, d, h => by
    obtain ⟨z, u, h1, h2, h3⟩ := zipD_get r q i d h
    exact ⟨z, u, h1, h2, h3⟩
theorem wk_enum : Wk P K (Ite K a) (enumD 0 ds) (LOk P K a ds) where
  stay := fun _ _ _ _ h x => h.stay x
  go := fun i w H h hi => by
    obtain ⟨vs, q, l⟩ := h.sq
    rw [enumD_len] at hi
    have hv : i < vs.length := by rw [l.length]; exact hi
    exact ⟨vs, vs[i], q, List.getElem?_eq_getElem hv⟩
  yld := fun i w H m x H' d hm h hd hy => by
    obtain ⟨vs, q, l⟩ := h.sq
    obtain ⟨T, y, e1, e2, e3, hy⟩ := hy
    subst e1 e3
    obtain ⟨z, hz, ed⟩ := enumD_get 0 ds i d hd
    subst ed
    obtain ⟨v, h1, h2⟩ := l.get hz
    have := hy vs q
    rw [h1] at this
    cases this
    refine ⟨w.add T, Ext.add hm e2, hm.add e2, ?_⟩
    rw [Nat.zero_add]
    exact new_tup hm e2 (DatL.cons (Dat.int_iff.mpr rfl) (DatL.cons h2 DatL.nil))
  stop := fun w H h => by
    obtain ⟨vs, q, l⟩ := h.sq
    exact ⟨vs, q, by rw [enumD_len]; exact Nat.le_of_eq l.length⟩
  irr := fun _ _ _ h => h
theorem wk_zip {b : Addr} {es : List D} : Wk P K (Itz K a b) (zipD ds es) (fun w H => LOk P K a ds w H ∧ LOk P K b es w H) where
  stay := fun _ _ _ _ h x => ⟨h.1.stay x, h.2.stay x⟩
  go := fun i w H h hi => by
    obtain ⟨vs, q, l⟩ := h.1.sq
    obtain ⟨us, q2, l2⟩ := h.2.sq
    rw [zipD_len] at hi
    have hv : i < vs.length := by rw [l.length]; omega
    have hu : i < us.length := by rw [l2.length]; omega
    exact ⟨vs, us, vs[i], us[i], q, q2, List.getElem?_eq_getElem hv, List.getElem?_eq_getElem hu⟩
  yld := fun i w H m x H' d hm h hd hy => by
    obtain ⟨vs, q, l⟩ := h.1.sq
    obtain ⟨us, q2, l2⟩ := h.2.sq
    obtain ⟨T, y, z, e1, e2, e3, hy, hz⟩ := hy
    subst e1 e3
    obtain ⟨c, e, hc, he, ed⟩ := zipD_get ds es i d hd
    subst ed
    obtain ⟨v, h1, h2⟩ := l.get hc
    obtain ⟨u, h3, h4⟩ := l2.get he
    have := hy vs q
    rw [h1] at this
    cases this
    have := hz us q2
    rw [h3] at this
    cases this
    exact ⟨w.add T, Ext.add hm e2, hm.add e2, new_tup hm e2 (DatL.cons h2 (DatL.cons h4 DatL.nil))⟩
  stop := fun w H h => by
    obtain ⟨vs, q, l⟩ := h.1.sq
    obtain ⟨us, q2, l2⟩ := h.2.sq
    refine ⟨vs, us, q, q2, ?_⟩
    rw [zipD_len, l.length, l2.length]
    omega
  irr := fun _ _ _ h => h
/-- a walked list stands still -/
theorem lok_of {x : W} {v : V} {w1 : Wd} {H1 : Hp} {m1 mL : M} (M1 : MRel P K w1 H1 m1) (R1 : WRel P K w1 H1 x v) (e : vw m1 x = some (.lst ds)) {w' : Wd} (hf : w'.fro = w1.fro) (ho : w'.ow = w1.ow) (ML : MRel P K w' H1 mL) (hl : ∀ n, x = .c n → ∀ k xs, m1[n]? = some (.lst k xs) → mL[n]? = some (.lst true xs)) (hs : ∀ n, x = .c n → ∀ xs, m1[n]? = some (.scr xs) → mL[n]? = some (.scr xs)) : ∃ a, v = .ref a ∧ LOk P K a ds w' H1 := by
  cases x with
  | v d =>
    cases e
    obtain ⟨a, vs, rfl, f, q, l⟩ := Dat.lst_iff.mp R1
    exact ⟨a, rfl, vs, .inl ⟨by rw [hf]; exact f, q⟩, by rw [hf]; exact l⟩
  | c n =>
    dsimp only [vw] at e
    cases q : m1[n]? with
    | none => rw [q] at e; cases e
    | some cc =>
      rw [q] at e
      obtain ⟨as, h1, h2⟩ := R1
      have h1' : w'.ow[n]? = some as := by rw [ho]; exact h1
      cases cc with
      | lst k xs =>
        cases e
        have qL := hl n rfl k ds q
        obtain ⟨a, vs, ea, ha, la⟩ := ML.at_ n _ as qL h1'
        subst ea
        exact ⟨a, h2 a rfl, vs, .inr ⟨ML.lk2 n _ [a] qL h1' rfl a List.mem_cons_self, .inl ha⟩, la⟩
      | scr xs =>
        cases e
        have qL := hs n rfl ds q
        obtain ⟨a, vs, ea, ha, la⟩ := ML.at_ n _ as qL h1'
        subst ea
        exact ⟨a, h2 a rfl, vs, .inr ⟨ML.lk2 n _ [a] qL h1' rfl a List.mem_cons_self, ha⟩, la⟩
      | _ => cases e
  | _ => cases e
theorem lockC_lst (m : M) (x : W) (n : Nat) (k : Bool) (xs : List D) (h : m[n]? = some (.lst k xs)) : ∃ k', (lockC m x)[n]? = some (.lst k' xs) ∧ (k = true → k' = true) ∧ (x = .c n → k' = true) := by
  rcases lockC_eq m x with e | ⟨j, ys, e1, e2, e3⟩
  · rw [e]
    refine ⟨k, h, fun q => q, fun q => ?_⟩
    subst q
    cases k with
    | true => rfl
    | false =>
      have : lockC m (.c n) = m.set n (.lst true xs) := by
        unfold lockC
        dsimp only
        rw [h]
      rw [this] at e
      have h2 := h
      rw [← e, List.getElem?_set_self (List.getElem?_eq_some_iff.mp h).1] at h2
      cases h2
  · rw [e3]
    by_cases hj : j = n
    · subst hj
      rw [h] at e2
      cases e2
      exact ⟨true, by rw [List.getElem?_set_self (List.getElem?_eq_some_iff.mp h).1], fun _ => rfl, fun _ => rfl⟩
    · refine ⟨k, by rw [List.getElem?_set_ne hj]; exact h, fun q => q, fun q => ?_⟩
      rw [e1] at q
      cases q
      exact absurd rfl hj
theorem lockC_scr (m : M) (x : W) (n : Nat) (xs : List D) (h : m[n]? = some (.scr xs)) : (lockC m x)[n]? = some (.scr xs) := by
  rcases lockC_eq m x with e | ⟨j, ys, e1, e2, e3⟩
  · rw [e]; exact h
  · rw [e3]
    by_cases hj : j = n
    · subst hj
      rw [h] at e2
      cases e2
    · rw [List.getElem?_set_ne hj]; exact h
end
section
variable {P : Prog} {X : Cx} {Wx : WX} {tg : Expr} {pos p0 : Pos} {a b : Expr} {fa fb : List W → M → R W}
theorem PI.imp {it : Expr} {t t' : TI} (h : PI X tg it t) (hi : ∀ σ H Q, t' σ H Q → t σ H Q) : PI X tg it t' := ⟨fun pins s σ H R I q => h.run pins s σ H R I (hi σ H R q)⟩
theorem PI.or3 {it : Expr} {t u v : TI} (h : PI X tg it t) (h' : PI X tg it u) (h'' : PI X tg it v) : PI X tg it (fun σ H R => t σ H R ∨ u σ H R ∨ v σ H R) := ⟨fun pins s σ H R I q => by
  rcases q with q | q | q
  · exact h.run pins s σ H R I q
  · exact h'.run pins s σ H R I q
  · exact h''.run pins s σ H R I q⟩
def itE (w : W) (m1 : M) : R (List D × List W) := match (vw m1 w).bind itemsD with
    | some ds => if canIt m1 w then .ok (ds, [w]) m1 else .bad
    | none => .bad
/-- for .. in e -/
theorem i_e (ha : PEB P X Wx a fa) : PI X tg a (rI P X.K (fun ρ m => (fa ρ m).bnd itE) Wx) := by
  refine PI.imp (PI.or3 (pi_list ha.pe) (pi_tup ha.pe) (pi_str ha.pe)) fun σ H Q ⟨w, ρ, m, hm, hs, p⟩ => ?_
  dsimp only at p
  cases e : fa ρ m with
  | bad => rw [e] at p; exact p.elim
  | exc c fs m1 =>
    rw [e] at p
    exact .inl ⟨w, ρ, m, hm, hs, by rw [e]; exact p⟩
  | ok x m1 =>
    rw [e] at p
    dsimp only [R.bnd, itE] at p
    cases e1 : vw m1 x with
    | none => rw [e1] at p; exact p.elim
    | some d =>
      rw [e1] at p
      cases e2 : itemsD d with
      | none => dsimp only [Option.bind] at p; rw [e2] at p; exact p.elim
      | some ds =>
        dsimp only [Option.bind] at p
        rw [e2] at p
        dsimp only at p
        by_cases hc : canIt m1 x = true
        · rw [if_pos hc] at p
          cases d with
          | lst xs =>
            cases e2
            refine .inl ⟨w, ρ, m, hm, hs, ?_⟩
            rw [e]
            intro v w1 H1 x1 M1 R1
            obtain ⟨pa, vs, rfl, ra, la⟩ := vw_rel M1 R1 e1
            refine ⟨pa, rfl, ⟨vs, .inl ra⟩, p (Itl X.K pa) w1 H1 (LOk P X.K pa ds) x1 M1 wk_list fun w' hf ho ML => ?_⟩
            obtain ⟨a2, ea, q⟩ := lok_of M1 R1 e1 hf ho ML (fun n en k xs q => by
              obtain ⟨k', h1, _, h2⟩ := lockC_lst m1 x n k xs q
              rw [h2 en] at h1
              exact h1) (fun n en xs q => lockC_scr m1 x n xs q)
            cases ea
            exact q
          | tup xs =>
            cases e2
            refine .inr (.inl ⟨w, ρ, m, hm, hs, ?_⟩)
            rw [e]
            intro v w1 H1 x1 M1 R1
            have hx : x = .v (.tup ds) := by
              cases x with
              | v d => cases e1; rfl
              | c n =>
                dsimp only [vw] at e1
                cases q : m1[n]? with
                | none => rw [q] at e1; cases e1
                | some cc => rw [q] at e1; cases cc <;> cases e1
              | _ => cases e1
            subst hx
            obtain ⟨pa, vs, rfl, q, l⟩ := Dat.tup_iff.mp R1
            have hT : TOk P X.K pa ds w1 H1 := R1
            obtain ⟨vs', sq, _⟩ := hT.sq
            refine ⟨pa, rfl, ⟨vs', sq⟩, p (Itt X.K pa) w1 H1 (TOk P X.K pa ds) x1 M1 wk_tup fun w' hf ho ML => ?_⟩
            show Dat P X.K w'.fro H1 (.tup ds) (.ref pa)
            rw [hf]
            exact R1
          | str y =>
            dsimp only [itemsD] at e2
            by_cases hz : sizeOk y.length = true
            · rw [if_pos hz] at e2
              cases e2
              refine .inr (.inr ⟨w, ρ, m, hm, hs, ?_⟩)
              rw [e]
              intro v w1 H1 x1 M1 R1
              have hv := Vw.str (vw_rel M1 R1 e1)
              exact ⟨ts y, hv, p (Its (ts y)) w1 H1 (fun _ _ => True) x1 M1 wk_str fun _ _ _ _ => True.intro⟩
            · rw [if_neg hz] at e2; cases e2
          | _ => cases e2
        · rw [if_neg hc] at p; exact p.elim
def itR1 (w : W) (m1 : M) : R (List D × List W) := match w with
    | .v (.int j) => if small j then .ok (rangeD 0 j, []) m1 else .bad
    | _ => .bad
theorem small_ok {i : Int} (h : small i = true) : -(2 ^ 62) ≤ i ∧ i < 2 ^ 62 := by
  cases i with
  | ofNat n =>
    have h1 : n ≤ 4611686018427387903 := Nat.le_of_ble_eq_true h
    rw [Int.ofNat_eq_natCast]
    omega
  | negSucc n =>
    have h1 : n ≤ 4611686018427387903 := Nat.le_of_ble_eq_true h
    rw [Int.negSucc_eq]
    omega
theorem i_range1 (hg : Gl X "range") (hm : X.mg "range" = none) (ha : PEB P X Wx a fa) (hst : noStar a = true) : PI X tg (.Call (.Name "range" p0) [a] [] pos) (rI P X.K (fun ρ m => (fa ρ m).bnd itR1) Wx) := by
  refine PI.imp (pi_range1 hg hm (pa_cons ha.pe pa_nil (starEach_cons hst)) (starEach_cons hst)) fun σ H Q ⟨w, ρ, m, hm, hs, p⟩ => ?_
  dsimp only at p
  refine ⟨w, ρ, m, hm, hs, ?_⟩
  cases e : fa ρ m with
  | bad => rw [e] at p; exact p.elim
  | exc c fs m1 => rw [e] at p; exact p
  | ok x m1 =>
    rw [e] at p
    intro v w1 H1 x1 M1 R1
    dsimp only [R.bnd] at p
    cases x with
    | v d =>
      cases d with
      | int j =>
        dsimp only [itR1] at p
        by_cases hz : small j = true
        · rw [if_pos hz] at p
          obtain ⟨z1, z2⟩ := small_ok hz
          cases WRel.int R1
          have := p (Itr 0 (j - 0).toNat) w1 H1 (fun _ _ => True) x1 M1 wk_range fun _ _ _ _ => True.intro
          rw [Int.sub_zero] at this
          exact ⟨j, rfl, z1, z2, this⟩
        · rw [if_neg hz] at p; exact p.elim
      | _ => exact p.elim
    | _ => exact p.elim
def itR2 (w w' : W) (m2 : M) : R (List D × List W) := match w, w' with
    | .v (.int i), .v (.int j) => if small i && small j then .ok (rangeD i j, []) m2 else .bad
    | _, _ => .bad
theorem i_range2 (hg : Gl X "range") (hm : X.mg "range" = none) (ha : PEB P X Wx a fa) (hb : PEB P X Wx b fb) (hst : noStar a = true) (hst2 : noStar b = true) : PI X tg (.Call (.Name "range" p0) [a, b] [] pos) (rI P X.K (fun ρ m => (fa ρ m).bnd fun w m1 => (fb ρ m1).bnd fun w' m2 => itR2 w w' m2) Wx) := by
  refine PI.imp (pi_range2 hg hm (pa_cons ha.pe (pa_cons hb.pe pa_nil (starEach_cons hst2)) (starEach_cons hst)) (by rw [starEach_cons hst, starEach_cons hst2]; rfl) (starEach_cons hst2)) fun σ H Q ⟨w, ρ, m, hm, hs, p⟩ => ?_
  dsimp only at p
  refine ⟨w, ρ, m, hm, hs, ?_⟩
  cases e : fa ρ m with
  | bad => rw [e] at p; exact p.elim
  | exc c fs m1 => rw [e] at p; exact p
  | ok x m1 =>
    rw [e] at p
    intro v w1 H1 x1 M1 R1
    dsimp only [R.bnd] at p
    refine ⟨w1, ρ, m1, M1, hs.mono x1, ?_⟩
    cases e2 : fb ρ m1 with
    | bad => rw [e2] at p; exact p.elim
    | exc c fs m2 => rw [e2] at p; exact fun cls d w' H' x' => p cls d w' H' (x1.trans x')
    | ok y m2 =>
      rw [e2] at p
      intro u w2 H2 x2 M2 R2
      dsimp only at p
      cases x with
      | v d =>
        cases d with
        | int i =>
          cases y with
          | v d2 =>
            cases d2 with
            | int j =>
              dsimp only [itR2] at p
              by_cases hz : (small i && small j) = true
              · rw [if_pos hz] at p
                obtain ⟨z, z'⟩ := Bool.and_eq_true_iff.mp hz
                obtain ⟨z1, z2⟩ := small_ok z
                obtain ⟨z3, z4⟩ := small_ok z'
                cases WRel.int R1
                cases WRel.int R2
                exact ⟨i, j, rfl, ⟨z1, z2, z3, z4⟩, p (Itr i (j - i).toNat) w2 H2 (fun _ _ => True) (x1.trans x2) M2 wk_range fun _ _ _ _ => True.intro⟩
              · rw [if_neg hz] at p; exact p.elim
            | _ => exact p.elim
          | _ => exact p.elim
        | _ => exact p.elim
      | _ => exact p.elim
end
end MP
end
section
set_option  maxHeartbeats  4000000
/-! Targets; comprehensions. -/
namespace MP
open PySem PySem.Spec PyProof.Rows L2
def tgRs : List Nat → TGs
  | [] => gNil
  | i :: l => gCons (gName i) (tgRs l)
def tgR (K : Fg) : Tg → TG
  | .n i => gName i
  | .t l => gTup K l.length (tgRs l)
section
variable {P : Prog} {K : Fg} {w w' : Wd} {H H' : Hp} {m : M} {ρ : List W} {σ : L2.St}
theorem SRel.set (h : SRel P K w H ρ σ) {i : Nat} {x : W} {v : V} (hx : WRel P K w H x v) : SRel P K w H (ρ.set i x) (σ.set i (some v)) := by
  refine ⟨by rw [List.length_set, List.length_set]; exact h.1, fun j y e n => ?_⟩
  by_cases hj : i = j
  · subst hj
    have hl : i < ρ.length := by
      have := (List.getElem?_eq_some_iff.mp e).1
      rwa [List.length_set] at this
    rw [List.getElem?_set_self hl] at e
    cases e
    exact ⟨v, by rw [List.getElem?_set_self (h.1 ▸ hl)], hx⟩
  · rw [List.getElem?_set_ne hj] at e ⊢
    exact h.2 j y e n
theorem SRel.setU (h : SRel P K w H ρ σ) {i : Nat} (o : Option V) : SRel P K w H (ρ.set i .u) (σ.set i o) := by
  refine ⟨by rw [List.length_set, List.length_set]; exact h.1, fun j y e n => ?_⟩
  by_cases hj : i = j
  · subst hj
    have hl : i < ρ.length := by
      have := (List.getElem?_eq_some_iff.mp e).1
      rwa [List.length_set] at this
    rw [List.getElem?_set_self hl] at e
    cases e
    exact absurd rfl n
  · rw [List.getElem?_set_ne hj] at e ⊢
    exact h.2 j y e n
theorem SRel.wipe (h : SRel P K w H ρ σ) : ∀ l : List Nat, SRel P K w H (wipeW ρ l) (L2.wipe σ l)
  | [] => h
  | i :: l => (SRel.wipe h l).setU none
theorem wipe_set {σ : L2.St} {i : Nat} {o : Option V} : ∀ {vs : List Nat}, i ∈ vs → L2.wipe (σ.set i o) vs = L2.wipe σ vs
  | [], h => by cases h
  | v :: vs, h => by
    unfold L2.wipe
    by_cases hi : i ∈ vs
    · rw [wipe_set hi]
    · have e : i = v := by
        rcases List.mem_cons.mp h with q | q
        · exact q
        · exact absurd q hi
      subst e
      apply List.ext_getElem?
      intro j
      by_cases hj : i = j
      · subst hj
        by_cases hl : i < σ.length
        · rw [List.getElem?_set_self (by rw [wipe_length, List.length_set]; exact hl), List.getElem?_set_self (by rw [wipe_length]; exact hl)]
        · rw [List.getElem?_eq_none (by rw [List.length_set, wipe_length, List.length_set]; omega), List.getElem?_eq_none (by rw [List.length_set, wipe_length]; omega)]
      · rw [List.getElem?_set_ne hj, List.getElem?_set_ne hj]
        by_cases hv : j ∈ vs
        · by_cases hl : j < σ.length
          · have a1 : (L2.wipe (σ.set i o) vs)[j]? = some none := by
              cases q : (L2.wipe (σ.set i o) vs)[j]? with
              | none => rw [List.getElem?_eq_none_iff, wipe_length, List.length_set] at q; omega
              | some z => cases z with
                | none => rfl
                | some z => exact absurd hv (wipe_some q).2
            have a2 : (L2.wipe σ vs)[j]? = some none := by
              cases q : (L2.wipe σ vs)[j]? with
              | none => rw [List.getElem?_eq_none_iff, wipe_length] at q; omega
              | some z => cases z with
                | none => rfl
                | some z => exact absurd hv (wipe_some q).2
            rw [a1, a2]
          · rw [List.getElem?_eq_none (by rw [wipe_length, List.length_set]; omega), List.getElem?_eq_none (by rw [wipe_length]; omega)]
        · rw [wipe_out hv, wipe_out hv, List.getElem?_set_ne hj]
theorem tgs_run {Q : L2.St → Hp → Prop} : ∀ {l : List Nat} {ds : List D} {vs : List V} {ρ ρ' : List W} {σ : L2.St}, SRel P K w H ρ σ → DatL P K w.fro H ds vs → setTgs l ds ρ = some ρ' →
    (∀ σ', SRel P K w H ρ' σ' → (∀ us, (∀ i ∈ l, i ∈ us) → L2.wipe σ' us = L2.wipe σ us) → Q σ' H) → tgRs l vs σ H Q
  | [], ds, vs, ρ, ρ', σ, h, hd, e, k => by
    cases ds with
    | nil =>
      cases e
      unfold DatL at hd
      exact ⟨hd, k σ h fun _ _ => rfl⟩
    | cons _ _ => cases e
  | i :: l, ds, vs, ρ, ρ', σ, h, hd, e, k => by
    cases ds with
    | nil => cases e
    | cons d ds =>
      unfold DatL at hd
      obtain ⟨v, r, rfl, h1, h2⟩ := hd
      refine ⟨v, r, rfl, ?_⟩
      show tgRs l r (σ.set i (some v)) H Q
      have hx : WRel P K w H (.v d) v := h1
      refine tgs_run (h.set hx) h2 e fun σ' s' w' => k σ' s' fun us hu => ?_
      rw [w' us fun j hj => hu j (List.mem_cons_of_mem _ hj), wipe_set (hu i List.mem_cons_self)]
theorem tg_run {Q : L2.St → Hp → Prop} {g : Tg} {d : D} {v : V} {ρ' : List W} (h : SRel P K w H ρ σ) (hd : Dat P K w.fro H d v) (e : setTg g d ρ = some ρ')
    (k : ∀ σ', SRel P K w H ρ' σ' → (∀ us, (∀ i ∈ g.vars, i ∈ us) → L2.wipe σ' us = L2.wipe σ us) → Q σ' H) : tgR K g v σ H Q := by
  cases g with
  | n i =>
    cases e
    have hx : WRel P K w H (.v d) v := hd
    exact k _ (h.set hx) fun us hu => wipe_set (hu i List.mem_cons_self)
  | t l =>
    cases d with
    | tup xs =>
      have e' : setTgs l xs ρ = some ρ' := e
      obtain ⟨a, vs, rfl, q, hl⟩ := Dat.tup_iff.mp hd
      have hT : TOk P K a xs w H := hd
      have hlen : ∀ (l : List Nat) (xs : List D) (ρ ρ' : List W), setTgs l xs ρ = some ρ' → xs.length = l.length := by
        intro l
        induction l with
        | nil => intro xs ρ ρ' e; cases xs <;> first | rfl | cases e
        | cons i l ih =>
          intro xs ρ ρ' e
          cases xs with
          | nil => cases e
          | cons x xs =>
            have := ih xs _ _ e
            rw [List.length_cons, List.length_cons, this]
      have sq : SqT K H a vs := by
        rcases q with ⟨_, q⟩ | q
        · exact .inl (.inl q)
        · exact .inr q
      exact ⟨a, vs, rfl, sq, by rw [hl.length]; exact hlen l xs ρ ρ' e', tgs_run h hl e' k⟩
    | _ => cases e
end
section
variable {P : Prog} {X : Cx} {Wx : WX}
/-- a target's names -/
def TgOk (X : Cx) (tg : Expr) (g : Tg) : Prop := PG X tg (tgR X.K g)
def nameIx : Expr → Option Str
  | .Name x _ => some x
  | _ => none
theorem pgs_names (hN : X.N.Nodup) : ∀ {es : List Expr} {l : List Nat}, es.length = l.length → (∀ (k : Nat) e i, es[k]? = some e → l[k]? = some i → ∃ x p, e = .Name x p ∧ X.N[i]? = some x ∧ Loc X.env.scope x ∧ (X.fn x = true ∨ X.env.scope.names.lookup x = some .local)) → PGs X es (tgRs l)
  | [], [], _, _ => pgs_nil
  | [], _ :: _, e, _ => by cases e
  | _ :: _, [], e, _ => by cases e
  | e :: es, i :: l, el, h => by
    obtain ⟨x, p, rfl, h1, h2, h3⟩ := h 0 e i rfl rfl
    exact pgs_cons (pg_name hN h1 h2 h3) (pgs_names hN (by simpa using el) fun k e' i' q1 q2 => h (k + 1) e' i' q1 q2)
theorem assignEach_names {env : Env} : ∀ {es : List Expr}, (∀ e ∈ es, ∃ x p, e = .Name x p) → (assignEach es env).length = es.length ∧ (assignEach es env).findIdx? (·.1) = none
  | [], _ => ⟨rfl, rfl⟩
  | e :: es, h => by
    obtain ⟨x, p, rfl⟩ := h e List.mem_cons_self
    obtain ⟨h1, h2⟩ := assignEach_names (env := env) (es := es) fun e' he => h e' (List.mem_cons_of_mem _ he)
    have e1 : assignEach (.Name x p :: es) env = (false, assign (.Name x p) env) :: assignEach es env := rfl
    rw [e1]
    refine ⟨by rw [List.length_cons, h1, List.length_cons], ?_⟩
    rw [List.findIdx?_cons, h2]
    rfl
end
end MP
end
section
set_option  maxHeartbeats  4000000
/-! List comprehensions. -/
namespace MP
open PySem PySem.Spec PyProof.Rows L2
section
variable {P : Prog} {K : Fg} {w w2 : Wd} {H H2 : Hp} {m : M} {D0 : Addr} {o : HO}
abbrev Wd.hd (w : Wd) (h : Addr → Prop) : Wd := { w with hid := h }
theorem crel_hd {as : List Addr} {c : C} (h : Addr → Prop) (q : CRel P K w H as c) : CRel P K (w.hd h) H as c := CRel.mono (w := w) (w' := w.hd h) (fun _ f => f) (fun _ _ => .rfl) (fun _ _ => rfl) q
/-- a new thing, hidden -/
theorem MRel.hide (h : MRel P K w H m) (hD : H D0 = none) : MRel P K (w.hd fun a => w.hid a ∨ a = D0) (upd H D0 o) m := by
  have M1 := h.lay (o := o) hD
  have f := h.free hD
  refine ⟨M1.len, fun n c as e1 e2 => crel_hd _ (M1.at_ n c as e1 e2), M1.nd, M1.dis, M1.some_, fun a q => ?_, M1.pro, M1.lk, M1.lk2, M1.xk⟩
  rcases q with q | q
  · exact M1.hid a q
  · subst q
    exact ⟨f.fro, f.ow, by rw [upd_same]; exact fun z => nomatch z⟩
theorem MRel.unhide (h : MRel P K w H m) {k : Addr → Prop} (hk : ∀ a, k a → w.hid a) : MRel P K (w.hd k) H m :=
  ⟨h.len, fun n c as e1 e2 => crel_hd _ (h.at_ n c as e1 e2), h.nd, h.dis, h.some_, fun a q => h.hid a (hk a q), h.pro, h.lk, h.lk2, h.xk⟩
theorem Ext.unhide (x : Ext w H w2 H2) {k : Addr → Prop} (hk : ∀ a, k a → w.hid a) : Ext (w.hd k) H (w2.hd k) H2 :=
  ⟨x.fro, x.keep, x.ow, x.xi, Eq.refl _, x.prot, fun a q => x.pk a (by
    rcases q with q | q
    · exact .inl (hk a q)
    · exact .inr q)⟩
/-- a hidden thing is written -/
theorem MRel.hwrite (h : MRel P K w H m) (hD : w.hid D0) : MRel P K w (upd H D0 o) m := by
  obtain ⟨f1, f2, f3⟩ := h.hid D0 hD
  exact h.grow (fro' := w.fro) (fun _ f => f) (fun a q => .of (upd_ne fun e => f1 (e ▸ q))) (fun a ha => upd_ne fun e => f2 (e ▸ ha)) h.dis (fun a q => by rw [show upd H D0 o a = H a from upd_ne fun e => f1 (e ▸ q)]; exact h.some_ a q) (fun a q => by
    refine ⟨(h.hp_some q).1, ?_⟩
    by_cases e : a = D0
    · rw [e, upd_same]; exact fun z => nomatch z
    · rw [upd_ne e]; exact (h.hp_some q).2)
theorem Ext.hwrite (h : MRel P K w H m) (hD : w.hid D0) (hp : ¬ w.prot D0) {k : Addr → Prop} (hk : ¬ k D0) : Ext (w.hd k) H (w.hd k) (upd H D0 o) := by
  obtain ⟨f1, f2, f3⟩ := h.hid D0 hD
  refine ⟨fun _ f => f, fun a q => .of (upd_ne fun e => f1 (e ▸ q)), fun _ as e => ⟨as, e, fun _ q => q⟩, Eq.refl _, Eq.refl _, Eq.refl _, fun a q => upd_ne fun e => ?_⟩
  subst e
  rcases q with q | q
  · exact hk q
  · exact hp q
theorem wipe_idem (σ : L2.St) : ∀ vs us : List Nat, (∀ i ∈ us, i ∈ vs) → L2.wipe (L2.wipe σ us) vs = L2.wipe σ vs
  | vs, [], _ => rfl
  | vs, u :: us, h => by
    show L2.wipe ((L2.wipe σ us).set u none) vs = _
    rw [wipe_set (h u List.mem_cons_self), wipe_idem σ vs us fun i hi => h i (List.mem_cons_of_mem _ hi)]
end
def noW : WX := fun _ _ _ _ => False
def compN (P : Prog) (g : Tg) (fc : List W → M → R Bool) (fe : List W → M → R W) (ρ : List W) (q : List D × List W) (m1 : M) : R C :=
  (lockR q.2 m1 (compGo g (wipeW ρ g.vars) fc (fun ρ m => (fe ρ m).bnd (fzR P)) q.1)).bnd fun xs m2 => if sizeOk xs.length then .ok (.lst false xs) m2 else .bad
/-- the reading of a comprehension -/
theorem comp_read {P : Prog} {K : Fg} {Wx : WX} {g : Tg} {fit : List W → M → R (List D × List W)} {fc : List W → M → R Bool} {fe : List W → M → R W} {σ : L2.St} {H : Hp} {Q : VK}
    (h : rN P K (fun ρ m => (fit ρ m).bnd (compN P g fc fe ρ)) Wx σ H Q) : tLc (rI P K fit Wx) (tgR K g) (rB P K fc noW) (rE P K fe noW) g.vars σ H Q := by
  obtain ⟨w, ρ, m, hm, hs, p⟩ := h
  refine ⟨w, ρ, m, hm, hs, ?_⟩
  dsimp only at p
  cases e0 : fit ρ m with
  | bad => rw [e0] at p; exact p
  | exc c fs m1 => rw [e0] at p; exact p
  | ok q m1 =>
    rw [e0] at p
    intro J w1 H1 Ok x1 M1 WK hOk Dn hD
    rw [R.bnd_ok] at p
    unfold compN at p
    rcases lockR_ok (f := compGo g (wipeW ρ g.vars) fc (fun ρ m => (fe ρ m).bnd (fzR P)) q.1) (ws := q.2) (m := m1) with eb | ⟨xs, m2, eb⟩
    · rw [eb] at p; exact p.elim
    rw [eb, R.bnd_ok] at p
    by_cases hz : sizeOk xs.length = true
    · rw [if_pos hz] at p
      obtain ⟨_, p⟩ := p
      obtain ⟨p', mE, k1, ML, k3, k4⟩ := lock_all _ M1 eb
      have okL := hOk (w1.pr p') rfl rfl ML
      have fD := M1.free hD
      have fDp : ¬ p' Dn := fun z => (ML.pro Dn z).2 hD
      have xl : Ext (w1.pr p') H1 (w1.pr p') (upd H1 Dn (.lst [])) := Ext.lay ML hD
      have okD : Ok ((w1.pr p').hd fun a => w1.hid a ∨ a = Dn) (upd H1 Dn (.lst [])) := WK.irr _ _ _ (WK.stay _ _ _ _ okL xl)
      let ds := q.1
      let Inv0 : Nat → Hp → Prop := fun i H' => i ≤ ds.length ∧ ∃ w' m' out acc rest, w'.hid = (fun a => w1.hid a ∨ a = Dn) ∧ w'.prot = p' ∧ Ext (w1.pr p') H1 (w'.hd w1.hid) H' ∧ MRel P K w' H' m' ∧ Ok w' H' ∧ H' Dn = some (.lst acc) ∧ DatL P K w'.fro H' out acc ∧
        compGo g (wipeW ρ g.vars) fc (fun ρ m => (fe ρ m).bnd (fzR P)) (ds.drop i) m' = .ok rest mE ∧ xs = out ++ rest
      refine ⟨fun i μ H' => μ = ds.length - i ∧ Inv0 i H', ⟨_, rfl, Nat.zero_le _, (w1.pr p').hd (fun a => w1.hid a ∨ a = Dn), _, [], [], xs, rfl, rfl, xl, ML.hide hD, okD, upd_same, DatL.nil, k3, rfl⟩, ?_⟩
      rintro i μ H' ⟨rfl, hi, w', m', out, acc, rest, hh, hp, xw, Mw, okw, hacc, dl, ec, exs⟩
      have hDh : w'.hid Dn := by rw [hh]; exact .inr rfl
      have hsub : ∀ a, w1.hid a → w'.hid a := fun a z => by rw [hh]; exact .inl z
      by_cases hlt : i < ds.length
      · refine .inr ⟨WK.go i w' H' okw hlt, fun H2 => ∃ μ', μ' < ds.length - i ∧ (μ' = ds.length - (i + 1) ∧ Inv0 (i + 1) H2), fun H2 z => z, fun x Hy hy => ?_⟩
        have hdi : ds[i]? = some ds[i] := List.getElem?_eq_getElem hlt
        rw [List.drop_eq_getElem_cons hlt] at ec
        unfold compGo at ec
        obtain ⟨w2, x2, M2, D2⟩ := WK.yld i w' H' m' x Hy ds[i] Mw okw hdi hy
        have sw : SRel P K w2 Hy (wipeW ρ g.vars) (L2.wipe σ g.vars) := by
          have s1 : SRel P K w1 H1 ρ σ := hs.mono x1
          have s1' : SRel P K (w1.pr p') H1 ρ σ := s1
          have s2 : SRel P K (w'.hd w1.hid) H' ρ σ := s1'.mono xw
          have s2' : SRel P K w' H' ρ σ := s2
          exact (s2'.mono x2).wipe g.vars
        cases et : setTg g ds[i] (wipeW ρ g.vars) with
        | none => rw [et] at ec; cases ec
        | some ρ1 =>
          rw [et] at ec
          dsimp only at ec
          refine tg_run sw D2 et fun σ2 S2 hw => ⟨?_, w2, ρ1, m', M2, S2, ?_⟩
          · rw [hw g.vars fun _ z => z, wipe_idem σ g.vars g.vars fun _ z => z]
          have next : ∀ {w3 : Wd} {H3 : Hp} {m3 : M} {rest3 : List D} {out3 : List D} {acc3 : List V}, w3.hid = w'.hid → w3.prot = p' → Ext (w1.pr p') H1 (w3.hd w1.hid) H3 → MRel P K w3 H3 m3 → Ok w3 H3 → H3 Dn = some (.lst acc3) → DatL P K w3.fro H3 out3 acc3 →
              compGo g (wipeW ρ g.vars) fc (fun ρ m => (fe ρ m).bnd (fzR P)) (ds.drop (i + 1)) m3 = .ok rest3 mE → xs = out3 ++ rest3 → ∃ μ', μ' < ds.length - i ∧ (μ' = ds.length - (i + 1) ∧ Inv0 (i + 1) H3) :=
            fun {w3 H3 m3 rest3 out3 acc3} a1 a2 a3 a4 a5 a6 a7 a8 a9 => ⟨_, by omega, rfl, hlt, w3, m3, out3, acc3, rest3, a1.trans hh, a2, a3, a4, a5, a6, a7, a8, a9⟩
          cases e3 : fc ρ1 m' with
          | bad => rw [e3] at ec; cases ec
          | exc c fs m3 => rw [e3] at ec; cases ec
          | ok b m3 =>
            rw [e3, R.bnd_ok] at ec
            intro b' w3 H3 x3 M3 eb'
            subst eb'
            have xx : Ext w' H' w3 H3 := x2.trans x3
            have hD3 : H3 Dn = some (.lst acc) := (xx.pk Dn (.inl hDh)).trans hacc
            have X3 : Ext (w1.pr p') H1 (w3.hd w1.hid) H3 := xw.trans (xx.unhide hsub)
            cases b with
            | false =>
              rw [if_neg Bool.false_ne_true] at ec ⊢
              exact next (xx.hid) (xx.prot.trans hp) X3 M3 (WK.stay _ _ _ _ okw xx) hD3 (DatL.mono xx.fro xx.keep dl) ec exs
            | true =>
              rw [if_pos rfl] at ec ⊢
              refine ⟨w3, ρ1, m3, M3, S2.mono x3, ?_⟩
              cases e4 : fe ρ1 m3 with
              | bad => rw [e4] at ec; cases ec
              | exc c fs m4 => rw [e4] at ec; cases ec
              | ok y m4 =>
                rw [e4, R.bnd_ok] at ec
                cases e5 : fz P m4 y with
                | none =>
                  rw [show fzR P y m4 = .bad by unfold fzR; rw [e5]] at ec
                  cases ec
                | some qd =>
                  obtain ⟨d5, m5⟩ := qd
                  rw [show fzR P y m4 = .ok d5 m5 by unfold fzR; rw [e5], R.bnd_ok] at ec
                  cases e6 : compGo g (wipeW ρ g.vars) fc (fun ρ m => (fe ρ m).bnd (fzR P)) (ds.drop (i + 1)) m5 with
                  | bad => rw [e6] at ec; cases ec
                  | exc c fs m6 => rw [e6] at ec; cases ec
                  | ok rest6 m6 =>
                    rw [e6] at ec
                    cases ec
                    intro v w4 H4 x4 M4 R4
                    obtain ⟨w5, x5, M5, D5⟩ := fz_rel M4 R4 e5
                    have x35 : Ext w3 H3 w5 H4 := x4.trans x5
                    have hD5 : H4 Dn = some (.lst acc) := (x35.pk Dn (.inl (by rw [xx.hid]; exact hDh))).trans hD3
                    have xx5 : Ext w' H' w5 H4 := xx.trans x35
                    have hD5h : w5.hid Dn := by rw [xx5.hid]; exact hDh
                    have np5 : ¬ w5.prot Dn := by rw [xx5.prot, hp]; exact fDp
                    have dl5 : DatL P K w5.fro H4 out acc := DatL.mono xx5.fro xx5.keep dl
                    have X5 : Ext (w1.pr p') H1 (w5.hd w1.hid) H4 := xw.trans (xx5.unhide hsub)
                    have xw5 : Ext (w5.hd w1.hid) H4 (w5.hd w1.hid) (upd H4 Dn (.lst (acc ++ [v]))) := Ext.hwrite M5 hD5h np5 fD.hid
                    refine ⟨acc, hD5, ?_, ?_⟩
                    · have hz' : xs.length ≤ 16000000 := of_decide_eq_true hz
                      have l1 := dl.length
                      rw [exs, List.length_append, List.length_cons] at hz'
                      rw [sizeLine_eq]
                      omega
                    · refine next (out3 := out ++ [d5]) (acc3 := acc ++ [v]) (rest3 := rest6) xx5.hid (xx5.prot.trans hp) (X5.trans xw5) (M5.hwrite hD5h) ?_ upd_same ?_ e6 ?_
                      · have o5 : Ok w5 H4 := WK.stay _ _ _ _ okw xx5
                        have o6 := WK.stay _ _ _ _ (WK.irr _ _ w1.hid o5) xw5
                        exact WK.irr (w5.hd w1.hid) _ w5.hid o6
                      · exact DatL.mono xw5.fro xw5.keep (dl5.append (DatL.cons D5 DatL.nil))
                      · rw [exs]; simp
      · have ei : i = ds.length := by omega
        subst ei
        rw [List.drop_length] at ec
        unfold compGo at ec
        cases ec
        refine .inl ⟨WK.stop w' H' okw, ?_⟩
        have MU : MRel P K (w'.hd w1.hid) H' mE := Mw.unhide hsub
        have M9 := k4 _ _ xw MU
        have X9 : Ext w1 H1 ((w'.hd w1.hid).pr w1.prot) H' := xw.unpr k1
        have fw := Mw.hid Dn hDh
        refine p _ H' Dn (x1.trans X9) M9 ⟨fw.1, fw.2.1, fD.hid, fD.prot⟩ ⟨Dn, acc, rfl, hacc, ?_⟩
        rw [exs, List.append_nil]
        exact dl
    · rw [if_neg hz] at p; exact p.elim
end MP
end
section
set_option  maxHeartbeats  4000000
/-! Statements by the evaluator. -/
namespace MP
open PySem PySem.Spec PyProof.Rows L2
section
variable (P : Prog) (K : Fg)
def PostO (w : Wd) (H : Hp) (o : O) (D : Ends) (Wx : WX) : Prop := match o with
  | .nx ρ m => ∀ σ' w' H', Ext w H w' H' → MRel P K w' H' m → SRel P K w' H' ρ σ' → D.nx σ' H'
  | .rt x m => ∀ v w' H', Ext w H w' H' → MRel P K w' H' m → WRel P K w' H' x v → D.rt v H'
  | .exc c fs ρ m => ∀ cls d σ' w' H', Ext w H w' H' → MRel P K w' H' m → SRel P K w' H' ρ σ' → XRel P K w' H' c fs cls d → Wx cls d σ' H'
  | .bad => False
def rS (f : List W → M → O) (Wx : WX) : TS := fun D σ H => ∃ w ρ m, MRel P K w H m ∧ SRel P K w H ρ σ ∧ PostO P K w H (f ρ m) D Wx
end
section
variable {P : Prog} {K : Fg} {w w1 : Wd} {H H1 : Hp} {ρ : List W} {σ : L2.St} {m : M} {D : Ends} {Wx : WX}
theorem PostO.ext {o : O} (h : PostO P K w H o D Wx) (x : Ext w H w1 H1) : PostO P K w1 H1 o D Wx := by
  cases o with
  | nx ρ m => exact fun σ' w' H' y => h σ' w' H' (x.trans y)
  | rt a m => exact fun v w' H' y => h v w' H' (x.trans y)
  | exc c fs ρ m => exact fun cls d σ' w' H' y => h cls d σ' w' H' (x.trans y)
  | bad => exact h
theorem PostO.thn {α β : Type} {r : R α} {f : α → M → O} (h : PostO P K w H (r.thn ρ f) D Wx) (hs : SRel P K w H ρ σ) (rel : Wd → Hp → α → β → Prop) :
    Post P K rel w H r (fun b H1 => ∃ a w1 m1, Ext w H w1 H1 ∧ MRel P K w1 H1 m1 ∧ SRel P K w1 H1 ρ σ ∧ rel w1 H1 a b ∧ PostO P K w1 H1 (f a m1) D Wx) (fun cls d H' => Wx cls d σ H') := by
  cases r with
  | ok a m => exact fun b w' H' y z t => ⟨a, w', m, y, z, hs.mono y, t, PostO.ext h y⟩
  | exc c fs m => exact fun cls d w' H' y z t => h cls d σ w' H' y z (hs.mono y) t
  | bad => exact h
end
section
variable {P : Prog} {X : Cx} {Wx : WX} {pos pos' : Pos} {e o : Expr} {fe fo : List W → M → R W}
abbrev PSm (P : Prog) (X : Cx) (Wx : WX) (s : Stmt) (f : List W → M → O) : Prop := PS X s (rS P X.K f Wx)
abbrev PSl (P : Prog) (X : Cx) (Wx : WX) (s : List Stmt) (f : List W → M → O) : Prop := PSs X s (rS P X.K f Wx)
theorem s_nil : PSl P X Wx [] fun ρ m => .nx ρ m := PSs.imp pss_nil fun D σ H ⟨w, ρ, m, hm, hs, p⟩ => p σ w H .rfl hm hs
theorem s_cons {s : Stmt} {l : List Stmt} {f g : List W → M → O} (h1 : PSm P X Wx s f) (h2 : PSl P X Wx l g) : PSl P X Wx (s :: l) fun ρ m => (f ρ m).seq g := by
  refine PSs.imp (pss_cons h1 h2) fun D σ H ⟨w, ρ, m, hm, hs, p⟩ => ⟨w, ρ, m, hm, hs, ?_⟩
  dsimp only at p
  cases e : f ρ m with
  | nx ρ1 m1 =>
    rw [e] at p
    exact fun σ' w' H' x M S => ⟨w', ρ1, m1, M, S, PostO.ext p x⟩
  | rt a m1 => rw [e] at p; exact p
  | exc c fs ρ1 m1 => rw [e] at p; exact p
  | bad => rw [e] at p; exact p
theorem s_pass : PSm P X Wx (.Pass pos) fun ρ m => .nx ρ m := PS.imp ps_pass fun D σ H ⟨w, ρ, m, hm, hs, p⟩ => p σ w H .rfl hm hs
theorem s_retN : PSm P X Wx (.Return none pos) fun _ m => .rt (.v .non) m := PS.imp ps_retN fun D σ H ⟨w, ρ, m, hm, hs, p⟩ => p .non w H .rfl hm (show Dat P X.K w.fro H .non .non from Dat.non_iff.mpr rfl)
def isCompE : Expr → Bool
  | .ListComp .. => true
  | .SetComp .. => true
  | .DictComp .. => true
  | _ => false
theorem swaps_no {t : Option Expr} {l : Nat} {env : Env} (h : isCompE e = false) : swapsWith e t l env = pure false := by
  cases e <;> first | rfl | cases h
theorem s_expr (he : PEB P X Wx e fe) (h : isCompE e = false) : PSm P X Wx (.Expr e pos) fun ρ m => (fe ρ m).thn ρ fun _ m1 => .nx ρ m1 := by
  refine PS.imp (ps_expr he.pe (swaps_no h)) fun D σ H ⟨w, ρ, m, hm, hs, p⟩ => ?_
  refine ⟨w, ρ, m, hm, hs, (PostO.thn p hs (WRel P X.K)).mono fun b H1 ⟨a, w1, m1, x1, M1, S1, R1, p1⟩ => p1 σ w1 H1 .rfl M1 S1⟩
/-- return of data -/
theorem s_ret (he : PEB P X Wx e fe) : PSm P X Wx (.Return (some e) pos) fun ρ m => (fe ρ m).thn ρ fun w m1 => match fz P m1 w with
  | some (d, m2) => .rt (.v d) m2
  | none => .bad := by
  refine PS.imp (ps_ret he.pe) fun D σ H ⟨w, ρ, m, hm, hs, p⟩ => ?_
  refine ⟨w, ρ, m, hm, hs, (PostO.thn p hs (WRel P X.K)).mono fun b H1 ⟨a, w1, m1, x1, M1, S1, R1, p1⟩ => ?_⟩
  cases ef : fz P m1 a with
  | none => rw [ef] at p1; exact p1.elim
  | some q =>
    obtain ⟨d, m2⟩ := q
    rw [ef] at p1
    obtain ⟨w2, x2, M2, D2⟩ := fz_rel M1 R1 ef
    exact p1 b w2 H1 x2 M2 D2
/-- return of a thing of the store -/
theorem s_retF {ff : List W → M → R W} (he : PE X e (rE P X.K ff Wx)) : PSm P X Wx (.Return (some e) pos) fun ρ m => (ff ρ m).thn ρ fun w m => .rt w m := by
  refine PS.imp (ps_ret he) fun D σ H ⟨w, ρ, m, hm, hs, p⟩ => ?_
  exact ⟨w, ρ, m, hm, hs, (PostO.thn p hs (WRel P X.K)).mono fun b H1 ⟨a, w1, m1, x1, M1, S1, R1, p1⟩ => p1 b w1 H1 .rfl M1 R1⟩
theorem s_if {c : Expr} {a b : List Stmt} {fc : List W → M → R W} {f g : List W → M → O} (hc : PEB P X Wx c fc) (ha : PSl P X Wx a f) (hb : PSl P X Wx b g) : PSm P X Wx (.If c a b pos) fun ρ m => ((fc ρ m).bnd asB).thn ρ fun k m1 => if k then f ρ m1 else g ρ m1 := by
  refine PS.imp (ps_if hc.pt ha hb) fun D σ H ⟨w, ρ, m, hm, hs, p⟩ => ?_
  refine ⟨w, ρ, m, hm, hs, (PostO.thn p hs (fun _ _ a b => a = b)).mono fun b H1 ⟨a, w1, m1, x1, M1, S1, R1, p1⟩ => ?_⟩
  subst R1
  cases a with
  | true => exact ⟨w1, ρ, m1, M1, S1, p1⟩
  | false => exact ⟨w1, ρ, m1, M1, S1, p1⟩
/-- x = e -/
theorem s_asg {i : Nat} {x : Str} (hN : X.N.Nodup) (hi : X.N[i]? = some x) (hx : Loc X.env.scope x) (hf : X.fn x = true ∨ X.env.scope.names.lookup x = some .local) (he : PEB P X Wx e fe) (h : isCompE e = false) : PSm P X Wx (.Assign [.Name x pos'] e pos) fun ρ m => (fe ρ m).thn ρ fun w m1 => .nx (ρ.set i w) m1 := by
  refine PS.imp (ps_set hN hi hx he.pe (swaps_no h) hf) fun D σ H ⟨w, ρ, m, hm, hs, p⟩ => ?_
  exact ⟨w, ρ, m, hm, hs, (PostO.thn p hs (WRel P X.K)).mono fun b H1 ⟨a, w1, m1, x1, M1, S1, R1, p1⟩ => p1 _ w1 H1 .rfl M1 (S1.set R1)⟩
/-- a, b = e -/
theorem s_asgT {l : List Nat} {es : List Expr} {k : Nat} {tp : Pos} (hg : PG X (.Tuple es k tp) (tgR X.K (.t l))) (he : PEB P X Wx e fe) (h : isCompE e = false) (hw : swappedStores [.Tuple es k tp] e X.env = pure none) : PSm P X Wx (.Assign [.Tuple es k tp] e pos) fun ρ m => (fe ρ m).thn ρ fun w m1 => match vw m1 w with
      | some d => (match setTg (.t l) d ρ with
        | some ρ1 => .nx ρ1 m1
        | none => .bad)
      | none => .bad := by
  refine PS.imp (ps_asg he.pe hg (swaps_no (t := some (.Tuple es k tp)) (l := pos.line) (env := X.env) h) hw) fun D σ H ⟨w, ρ, m, hm, hs, p⟩ => ?_
  refine ⟨w, ρ, m, hm, hs, (PostO.thn p hs (WRel P X.K)).mono fun b H1 ⟨a, w1, m1, x1, M1, S1, R1, p1⟩ => ?_⟩
  cases ev : vw m1 a with
  | none => rw [ev] at p1; exact p1.elim
  | some d =>
    rw [ev] at p1
    dsimp only at p1
    cases et : setTg (.t l) d ρ with
    | none => rw [et] at p1; exact p1.elim
    | some ρ1 =>
      rw [et] at p1
      have hd : a = .v d := by
        cases d with
        | tup xs =>
          cases a with
          | v d => cases ev; rfl
          | c n =>
            dsimp only [vw] at ev
            cases q : m1[n]? with
            | none => rw [q] at ev; cases ev
            | some cc => rw [q] at ev; cases cc <;> cases ev
          | _ => cases ev
        | _ => cases et
      subst hd
      exact tg_run S1 R1 et fun σ' S' _ => p1 σ' w1 H1 .rfl M1 S'
/-- x, y = a, b -/
theorem s_par {i j : Nat} {x y : Str} {a b : Expr} {fl : List W → M → R (List W)} {px py pt pt2 : Pos} {kt k2 : Nat} (hc : X.calm = true) (hN : X.N.Nodup) (hi : X.N[i]? = some x) (hj : X.N[j]? = some y) (hij : i ≠ j)
    (hx : X.env.scope.names.lookup x = some .local) (hy : X.env.scope.names.lookup y = some .local) (ha : PAr P X Wx [a, b] fl)
    (hw : swappedStores [.Tuple [.Name x px, .Name y py] kt pt] (.Tuple [a, b] k2 pt2) X.env = pure (some [x, y])) :
    PSm P X Wx (.Assign [.Tuple [.Name x px, .Name y py] kt pt] (.Tuple [a, b] k2 pt2) pos) fun ρ m => (fl ρ m).thn ρ fun ws m1 => if ws.length = [i, j].length then .nx (setAll [i, j] ws ρ) m1 else .bad := by
  refine PS.imp (ps_par hc hN hi hj hij hx hy ha.pa hw) fun D σ H ⟨w, ρ, m, hm, hs, p⟩ => ?_
  refine ⟨w, ρ, m, hm, hs, (PostO.thn p hs (WsRel P X.K)).mono fun vs H1 ⟨ws, w1, m1, x1, M1, S1, R1, p1⟩ => ?_⟩
  by_cases hl : ws.length = [i, j].length
  · rw [if_pos hl] at p1
    match ws, hl, R1 with
    | [u1, u2], _, R1 =>
      obtain ⟨v1, r1, rfl, q1, q2⟩ := R1
      obtain ⟨v2, r2, rfl, q3, q4⟩ := q2
      have e : r2 = [] := q4
      subst e
      exact ⟨v1, v2, rfl, p1 _ w1 H1 .rfl M1 ((S1.set q1).set q3)⟩
  · rw [if_neg hl] at p1; exact p1.elim
end
end MP
end
section
set_option  maxHeartbeats  4000000
/-! Writes; loops. -/
namespace MP
open PySem PySem.Spec PyProof.Rows L2
section
variable {P : Prog} {K : Fg} {w : Wd} {H : Hp} {m : M}
theorem putF_new (f : Str) (v : V) : ∀ fs : List (Str × V), f ∉ fs.map (·.1) → putF f v fs = fs ++ [(f, v)]
  | [], _ => rfl
  | (g, u) :: r, h => by
    rw [List.map_cons, List.mem_cons, not_or] at h
    unfold putF
    rw [if_neg (fun e => h.1 e.symm), putF_new f v r h.2]
    rfl
theorem putF_at (f : Str) (v : V) : ∀ (fs : List (Str × V)) (k : Nat), (fs.map (·.1)).Nodup → (fs.map (·.1))[k]? = some f → (putF f v fs).map (·.1) = fs.map (·.1) ∧ (putF f v fs).map (·.2) = (fs.map (·.2)).set k v
  | [], k, _, h => by cases k <;> cases h
  | (g, u) :: r, 0, nd, h => by
    have e : g = f := by simpa using h
    subst e
    unfold putF
    rw [if_pos rfl]
    exact ⟨rfl, rfl⟩
  | (g, u) :: r, k + 1, nd, h => by
    rw [List.map_cons, List.nodup_cons] at nd
    have h' : (r.map (·.1))[k]? = some f := h
    have hne : g ≠ f := fun e => nd.1 (e ▸ List.mem_of_getElem? h')
    unfold putF
    rw [if_neg hne]
    obtain ⟨h1, h2⟩ := putF_at f v r k nd.2 h'
    exact ⟨by rw [List.map_cons, h1]; rfl, by rw [List.map_cons, h2]; rfl⟩
theorem fdl_set {fs : List Fd} : ∀ {vs : List V} {as : List Addr} {k : Nat} {d0 d : D} {v : V}, FdL P K w H fs vs as → fs[k]? = some (.v d0) → Dat P K w.fro H d v → FdL P K w H (fs.set k (.v d)) (vs.set k v) as := by
  induction fs with
  | nil => intro vs as k d0 d v h e; cases k <;> cases e
  | cons f fs ih =>
    intro vs as k d0 d v h e hd
    cases f with
    | v d1 =>
      obtain ⟨u, r, rfl, h1, h2⟩ := h
      cases k with
      | zero => exact ⟨v, r, rfl, hd, h2⟩
      | succ k => exact ⟨u, r.set k v, rfl, h1, ih h2 e hd⟩
    | d t kvs =>
      obtain ⟨a, r, q, rfl, e2, h1, h2⟩ := h
      cases k with
      | zero => cases e
      | succ k => exact ⟨a, r.set k v, q, rfl, e2, h1, ih h2 e hd⟩
theorem fdl_snoc {fs : List Fd} : ∀ {vs : List V} {as : List Addr} {d : D} {v : V}, FdL P K w H fs vs as → Dat P K w.fro H d v → FdL P K w H (fs ++ [.v d]) (vs ++ [v]) as := by
  induction fs with
  | nil =>
    intro vs as d v h hd
    obtain ⟨rfl, rfl⟩ := h
    exact ⟨v, [], rfl, hd, rfl, rfl⟩
  | cons f fs ih =>
    intro vs as d v h hd
    cases f with
    | v d1 =>
      obtain ⟨u, r, rfl, h1, h2⟩ := h
      exact ⟨u, r ++ [v], rfl, h1, ih h2 hd⟩
    | d t kvs =>
      obtain ⟨a, r, q, rfl, e2, h1, h2⟩ := h
      exact ⟨a, r ++ [v], q, rfl, e2, h1, ih h2 hd⟩
end
section
variable {P : Prog} {X : Cx} {Wx : WX} {pos pos' : Pos} {e o : Expr} {fe fo : List W → M → R W}
def setfO (P : Prog) (c k : Nat) (ρ : List W) (w x : W) (m2 : M) : O := match x, fz P m2 w with
    | .c n, some (d, m3) => (match m3[n]? with
      | some (.obj c' fs) => if c = c' ∧ k < P.nf c then (match setFd fs k (.v d) with
        | some fs' => .nx ρ (m3.set n (.obj c fs'))
        | none => .bad) else .bad
      | _ => .bad)
    | _, _ => .bad
/-- o.f = e -/
theorem s_setf {c k : Nat} {fname : Str} (hn : (fnm P c)[k]? = some fname) (nd : (fnm P c).Nodup) (hz : (fnm P c).length < 1000) (cl : Cls X.K (ca P X.K c)) (na : NoAttr X.K (ca P X.K c) fname) (he : PEB P X Wx e fe) (ho : PEB P X Wx o fo) (h : isCompE e = false) :
    PSm P X Wx (.Assign [.Attribute o fname pos'] e pos) fun ρ m => (fe ρ m).thn ρ fun w m1 => (fo ρ m1).thn ρ fun x m2 => setfO P c k ρ w x m2 := by
  refine PS.imp (ps_fld ho.pe he.pe (swaps_no h)) fun D σ H ⟨w, ρ, m, hm, hs, p⟩ => ?_
  refine ⟨w, ρ, m, hm, hs, (PostO.thn p hs (WRel P X.K)).mono fun y H1 ⟨a, w1, m1, x1, M1, S1, R1, p1⟩ => ?_⟩
  refine ⟨w1, ρ, m1, M1, S1, (PostO.thn p1 S1 (WRel P X.K)).mono fun z H2 ⟨b, w2, m2, x2, M2, S2, R2, p2⟩ => ?_⟩
  unfold setfO at p2
  cases b with
  | c n =>
    cases ef : fz P m2 a with
    | none => rw [ef] at p2; exact p2.elim
    | some q =>
      obtain ⟨d, m3⟩ := q
      rw [ef] at p2
      dsimp only at p2
      obtain ⟨w3, x3, M3, D3⟩ := fz_rel M2 (R1.mono x2) ef
      cases e3 : m3[n]? with
      | none => rw [e3] at p2; exact p2.elim
      | some cc =>
        rw [e3] at p2
        cases cc with
        | obj c' fs =>
          dsimp only at p2
          by_cases hc : c = c' ∧ k < P.nf c
          · rw [if_pos hc] at p2
            obtain ⟨rfl, hk⟩ := hc
            cases es : setFd fs k (.v d) with
            | none => rw [es] at p2; exact p2.elim
            | some fs' =>
              rw [es] at p2
              obtain ⟨a0, as, ho', rfl, hcr⟩ := cell_ref M3 (R2.mono x3) e3 (by intro z; cases z)
              obtain ⟨a1, r1, dx, vs, e1, h4, h5, h6, h7⟩ := id hcr
              cases e1
              have hlen : vs.length = fs.length := by
                have := fdl_len h7
                rwa [List.length_map] at this
              refine ⟨a0, _, dx, vs, rfl, h4, cl, na, by omega, ?_⟩
              have ndv : (vs.map (·.1)).Nodup := by rw [h6]; exact List.Nodup.sublist (List.take_sublist _ _) nd
              have new : CRel P X.K w3 (upd H2 a0 (.ins (ca P X.K c) dx (putF fname y vs))) (a0 :: as) (.obj c fs') := by
                have kp : ∀ a, w3.fro a → Keep H2 (upd H2 a0 (.ins (ca P X.K c) dx (putF fname y vs))) a := fun a f => .of (upd_ne fun ez => M3.dis a (mem_ow ho' a (by rw [ez]; exact List.mem_cons_self)) f)
                have ndo : ∀ b ∈ as, b ≠ a0 := fun b hb ez => by
                  have := (ow_apart (bs := []) M3.nd ho').2.2
                  rw [List.nodup_cons] at this
                  exact this.1 (ez ▸ hb)
                have mo : ∀ {fs2 : List Fd} {vs2 : List V}, FdL P X.K w3 H2 fs2 vs2 as → FdL P X.K w3 (upd H2 a0 (.ins (ca P X.K c) dx (putF fname y vs))) fs2 vs2 as := fun q => FdL.mono (w := w3) (w' := w3) (fun _ f => f) kp (fun b hb => upd_ne (ndo b hb)) q
                unfold setFd at es
                cases q : fs[k]? with
                | some f0 =>
                  rw [q] at es
                  cases f0 with
                  | d _ _ => cases es
                  | v d0 =>
                    cases es
                    have hkl : k < fs.length := (List.getElem?_eq_some_iff.mp q).1
                    obtain ⟨q1, q2⟩ := putF_at fname y vs k ndv (by rw [h6, List.getElem?_take_of_lt hkl]; exact hn)
                    refine ⟨a0, as, dx, _, rfl, upd_same, by rw [List.length_set]; exact h5, by rw [q1, List.length_set]; exact h6, ?_⟩
                    rw [q2]
                    exact mo (fdl_set h7 q D3)
                | none =>
                  rw [q] at es
                  dsimp only at es
                  by_cases hkl : k = fs.length
                  · rw [if_pos hkl] at es
                    cases es
                    have hnew : fname ∉ vs.map (·.1) := by
                      rw [h6]
                      intro hmem
                      obtain ⟨j, hj, ej⟩ := List.mem_iff_getElem.mp hmem
                      rw [List.length_take] at hj
                      have ej2 : (fnm P c)[j]? = some fname := by
                        have : ((fnm P c).take fs.length)[j]? = some fname := by rw [List.getElem?_eq_getElem (by rw [List.length_take]; exact hj), ej]
                        rwa [List.getElem?_take_of_lt (by omega)] at this
                      have := nodup_ix nd ej2 hn
                      omega
                    have hk2 : k < (fnm P c).length := (List.getElem?_eq_some_iff.mp hn).1
                    refine ⟨a0, as, dx, _, rfl, upd_same, by rw [List.length_append, List.length_singleton]; omega, ?_, ?_⟩
                    · have e1 : (putF fname y vs).map (·.1) = vs.map (·.1) ++ [fname] := by rw [putF_new fname y vs hnew, List.map_append]; rfl
                      rw [e1, h6, List.length_append, List.length_singleton, List.take_succ, ← hkl, hn]
                      rfl
                    · have e1 : (putF fname y vs).map (·.2) = vs.map (·.2) ++ [y] := by rw [putF_new fname y vs hnew, List.map_append]; rfl
                      rw [e1]
                      exact mo (fdl_snoc h7 D3)
                  · rw [if_neg hkl] at es; cases es
              obtain ⟨x4, M4⟩ := M3.change (H' := upd H2 a0 (.ins (ca P X.K c) dx (putF fname y vs))) e3 ho' (fun _ q => q) (fun _ q => .inl q) (ow_apart (bs := []) M3.nd ho').2.2 (fun x hx => upd_ne fun ez => hx (by rw [ez]; exact List.mem_cons_self)) rfl new rfl rfl
              exact p2 σ _ _ (x3.trans x4) M4 ((S2.mono x3).mono x4)
          · rw [if_neg hc] at p2; exact p2.elim
        | _ => exact p2.elim
  | _ => exact p2.elim
end
end MP
end
section
set_option  maxHeartbeats  4000000
/-! Writes of lists and dicts; loops. -/
namespace MP
open PySem PySem.Spec PyProof.Rows L2
section
variable {P : Prog} {K : Fg} {w : Wd} {H : Hp} {m : M}
theorem cell_change (h : MRel P K w H m) {n : Nat} {c c' : C} {a : Addr} {o : HO} {v : V} (r : WRel P K w H (.c n) v) (e : m[n]? = some c) (hv : v = .ref a) (h1 : ∀ as, CRel P K w H as c → ∃ b, as = [b]) (nd : c ≠ .dead) (hl : c.locked = false) (hl' : c'.locked = false)
    (hc : (∀ b, w.fro b → Keep H (upd H a o) b) → CRel P K w (upd H a o) [a] c') : Ext w H (w.with n [a]) (upd H a o) ∧ MRel P K (w.with n [a]) (upd H a o) (m.set n c') := by
  obtain ⟨a0, as, ho', e0, hcr⟩ := cell_ref h r e nd
  subst hv
  cases e0
  obtain ⟨b, eb⟩ := h1 _ hcr
  cases eb
  have kp : ∀ b, w.fro b → Keep H (upd H a o) b := fun b f => .of (upd_ne fun ez => h.dis b (mem_ow ho' b (by rw [ez]; exact List.mem_cons_self)) f)
  exact h.change (H' := upd H a o) e ho' (fun _ q => q) (fun _ q => .inl q) (by simp) (fun x hx => upd_ne fun ez => hx (by rw [ez]; exact List.mem_cons_self)) rfl (hc kp) hl hl'
theorem lst_at (h : MRel P K w H m) {n : Nat} {k : Bool} {xs : List D} {v : V} (r : WRel P K w H (.c n) v) (e : m[n]? = some (.lst k xs)) : ∃ a vs, v = .ref a ∧ H a = some (.lst vs) ∧ DatL P K w.fro H xs vs := by
  obtain ⟨a0, as, ho', e0, hcr⟩ := cell_ref h r e (by intro z; cases z)
  obtain ⟨a1, vs, e1, h4, h5⟩ := hcr
  cases e1
  exact ⟨a0, vs, e0, h4, h5⟩
theorem lst_change (h : MRel P K w H m) {n : Nat} {xs ys : List D} {a : Addr} {us : List V} {v : V} (r : WRel P K w H (.c n) v) (e : m[n]? = some (.lst false xs)) (hd : DatL P K w.fro H ys us) (hv : v = .ref a) : Ext w H (w.with n [a]) (upd H a (.lst us)) ∧ MRel P K (w.with n [a]) (upd H a (.lst us)) (m.set n (.lst false ys)) :=
  cell_change h r e hv (fun as q => by obtain ⟨b, vs, e1, _⟩ := q; exact ⟨b, e1⟩) (by intro z; cases z) rfl rfl fun kp => ⟨a, us, rfl, upd_same, DatL.mono (fun _ f => f) kp hd⟩
theorem datL_set : ∀ {ds : List D} {vs : List V} {i : Nat} {d : D} {v : V}, DatL P K w.fro H ds vs → Dat P K w.fro H d v → DatL P K w.fro H (ds.set i d) (vs.set i v)
  | [], vs, i, d, v, h, _ => by
    unfold DatL at h
    subst h
    exact DatL.nil
  | x :: ds, vs, i, d, v, h, hd => by
    unfold DatL at h
    obtain ⟨u, r, rfl, h1, h2⟩ := h
    cases i with
    | zero => exact DatL.cons hd h2
    | succ i => exact DatL.cons h1 (datL_set h2 hd)
theorem datK_nil : DatK P K w.fro H [] [] := by unfold DatK; rfl
theorem datK_cons {a : DK} {d : D} {v : V} {kvs : List (DKey × D)} {kv : List (Key × V)} (h : Dat P K w.fro H d v) (t : DatK P K w.fro H kvs kv) : DatK P K w.fro H ((.k a, d) :: kvs) ((a.key, v) :: kv) := by unfold DatK; exact ⟨a, v, kv, rfl, rfl, h, t⟩
theorem datK_any {a : DK} : ∀ {kvs : List (DKey × D)} {kv : List (Key × V)}, DatK P K w.fro H kvs kv → (kvs.any fun p => decide (p.1 = .k a)) = kv.any fun p => decide (p.1 = a.key)
  | [], kv, h => by
    unfold DatK at h
    subst h
    rfl
  | (q, x) :: kvs, kv, h => by
    unfold DatK at h
    obtain ⟨b, u, r, rfl, rfl, h1, h2⟩ := h
    rw [List.any_cons, List.any_cons, datK_any h2]
    congr 1
    by_cases e : b = a
    · subst e; simp
    · rw [decide_eq_false (fun z => e (DKey.k.inj z)), decide_eq_false (fun z => e (DK.key_inj z))]
theorem datK_map {a : DK} {d : D} {v : V} (hd : Dat P K w.fro H d v) : ∀ {kvs : List (DKey × D)} {kv : List (Key × V)}, DatK P K w.fro H kvs kv → DatK P K w.fro H (kvs.map fun p => if p.1 = .k a then (p.1, d) else p) (kv.map fun p => if p.1 = a.key then (p.1, v) else p)
  | [], kv, h => by
    unfold DatK at h
    subst h
    exact datK_nil
  | (q, x) :: kvs, kv, h => by
    unfold DatK at h
    obtain ⟨b, u, r, rfl, rfl, h1, h2⟩ := h
    rw [List.map_cons, List.map_cons]
    by_cases e : b = a
    · subst e
      rw [if_pos rfl, if_pos rfl]
      exact datK_cons hd (datK_map hd h2)
    · rw [if_neg (fun z => e (DKey.k.inj z)), if_neg (fun z => e (DK.key_inj z))]
      exact datK_cons h1 (datK_map hd h2)
theorem datK_append : ∀ {kvs kvs' : List (DKey × D)} {kv kv' : List (Key × V)}, DatK P K w.fro H kvs kv → DatK P K w.fro H kvs' kv' → DatK P K w.fro H (kvs ++ kvs') (kv ++ kv')
  | [], kvs', kv, kv', h, h' => by
    unfold DatK at h
    subst h
    exact h'
  | (q, x) :: kvs, kvs', kv, kv', h, h' => by
    unfold DatK at h
    obtain ⟨b, u, r, rfl, rfl, h1, h2⟩ := h
    exact datK_cons h1 (datK_append h2 h')
theorem datK_put {kvs : List (DKey × D)} {kv : List (Key × V)} {a : DK} {d : D} {v : V} (h : DatK P K w.fro H kvs kv) (hd : Dat P K w.fro H d v) : DatK P K w.fro H (putD kvs (.k a) d) (putK kv a.key v) := by
  unfold putD putK
  rw [datK_any h]
  by_cases c : (kv.any fun p => decide (p.1 = a.key)) = true
  · rw [if_pos c, if_pos c]
    exact datK_map hd h
  · rw [if_neg c, if_neg c]
    exact datK_append h (datK_cons hd datK_nil)
end
section
variable {P : Prog} {X : Cx} {Wx : WX} {pos pos' : Pos} {e o ix : Expr} {fe fo fi : List W → M → R W}
def setiO (P : Prog) (ρ : List W) (w x y : W) (m3 : M) : O := match x, vw m3 y, fz P m3 w with
    | .c n, some q, some (d, m4) => (match m4[n]? with
      | some c => (match setIdx c q d with
        | some c' => .nx ρ (m4.set n c')
        | none => .bad)
      | none => .bad)
    | _, _, _ => .bad
def plainSet : Expr → Bool
  | .Slice .. => false
  | _ => true
theorem psetOr {t u : TSet} (h : PSet X t) (h' : PSet X u) : PSet X (fun a b c H Q => t a b c H Q ∨ u a b c H Q) := by
  intro pins s σ H o i v ov iv u Q I ro ri rv q
  rcases q with q | q
  · exact h pins s σ H o i v ov iv u Q I ro ri rv q
  · exact h' pins s σ H o i v ov iv u Q I ro ri rv q
theorem assign_sub {env : Env} {sp : Pos} (h : plainSet ix = true) (v : Value) : assign (.Subscript o ix sp) env v = (do
      let ov ← holding [v] (eval o env)
      let iv ← holding [v, ov] (eval ix env)
      standAt sp
      holding [v, ov, iv] (setItem ov iv v)
      release [v, ov, iv] []) := by
  cases ix <;> first | rfl | cases h
/-- o[i] = e -/
theorem s_seti (hu : X.A.units + 1 < cLine) (he : PEB P X Wx e fe) (ho : PEB P X Wx o fo) (hi : PEB P X Wx ix fi) (h : isCompE e = false) (hp : plainSet ix = true) :
    PSm P X Wx (.Assign [.Subscript o ix pos'] e pos) fun ρ m => (fe ρ m).thn ρ fun w m1 => (fo ρ m1).thn ρ fun x m2 => (fi ρ m2).thn ρ fun y m3 => setiO P ρ w x y m3 := by
  refine PS.imp (ps_asg he.pe (pg_sub ho.pe hi.pe (psetOr set_list (set_dict hu)) (assign_sub hp)) (swaps_no (t := some (.Subscript o ix pos')) (l := pos.line) (env := X.env) h)) fun D σ H ⟨w, ρ, m, hm, hs, p⟩ => ?_
  refine ⟨w, ρ, m, hm, hs, (PostO.thn p hs (WRel P X.K)).mono fun v H1 ⟨a, w1, m1, x1, M1, S1, R1, p1⟩ => ?_⟩
  refine ⟨w1, ρ, m1, M1, S1, (PostO.thn p1 S1 (WRel P X.K)).mono fun u H2 ⟨b, w2, m2, x2, M2, S2, R2, p2⟩ => ?_⟩
  refine ⟨w2, ρ, m2, M2, S2, (PostO.thn p2 S2 (WRel P X.K)).mono fun z H3 ⟨c, w3, m3, x3, M3, S3, R3, p3⟩ => ?_⟩
  unfold setiO at p3
  cases b with
  | c n =>
    cases ev : vw m3 c with
    | none => rw [ev] at p3; exact p3.elim
    | some q =>
      rw [ev] at p3
      cases ef : fz P m3 a with
      | none => rw [ef] at p3; exact p3.elim
      | some qd =>
        obtain ⟨d, m4⟩ := qd
        rw [ef] at p3
        dsimp only at p3
        obtain ⟨w4, x4, M4, D4⟩ := fz_rel M3 (R1.mono (x2.trans x3)) ef
        have V4 := vw_rel M3 R3 ev
        cases e4 : m4[n]? with
        | none => rw [e4] at p3; exact p3.elim
        | some cc =>
          rw [e4] at p3
          dsimp only at p3
          have R4 : WRel P X.K w4 H3 (.c n) u := R2.mono (x3.trans x4)
          cases cc with
          | lst k xs =>
            cases k with
            | true => exact p3.elim
            | false =>
              cases q with
              | int i =>
                dsimp only [setIdx] at p3
                cases ep : place xs.length i with
                | none => rw [ep] at p3; exact p3.elim
                | some j =>
                  rw [ep] at p3
                  cases Vw.int V4
                  obtain ⟨pa, vs, rfl, ha, la⟩ := lst_at M4 R4 e4
                  refine .inl ⟨pa, vs, i, j, rfl, rfl, ha, by rw [← place_ix, la.length]; exact ep, ?_⟩
                  obtain ⟨x5, M5⟩ := lst_change (ys := xs.set j d) (us := vs.set j v) M4 R4 e4 (datL_set la D4) rfl
                  exact p3 σ _ _ (x4.trans x5) M5 ((S3.mono x4).mono x5)
              | _ => exact p3.elim
          | dct k t kvs =>
            cases k with
            | true => exact p3.elim
            | false =>
              dsimp only [setIdx] at p3
              cases ek : keyOf q with
              | none => rw [ek] at p3; exact p3.elim
              | some kk =>
                rw [ek] at p3
                cases kk with
                | t l => exact p3.elim
                | k za =>
                  dsimp only at p3
                  cases t with
                  | true => rw [if_pos rfl] at p3; exact p3.elim
                  | false =>
                    rw [if_neg Bool.false_ne_true] at p3
                    by_cases hz : sizeOk (kvs.length + 1) = true
                    · rw [if_pos hz] at p3
                      obtain ⟨a0, as, ho', rfl, hcr⟩ := cell_ref M4 R4 e4 (by intro z; cases z)
                      obtain ⟨a1, e1, kv, hk1, hk2⟩ := id hcr
                      cases e1
                      have hk1' : H3 a0 = some (.dK kv) := hk1
                      rcases key_rel V4 ek with ⟨z', ez, ey⟩ | ⟨l, p5, ez, _⟩
                      · cases ez
                        subst ey
                        have hlen : kv.length < sizeLine := by
                          rw [hk2.length]
                          have : kvs.length + 1 ≤ 16000000 := of_decide_eq_true hz
                          rw [sizeLine_eq]
                          omega
                        refine .inr ⟨a0, _, rfl, DPut.k hk1' hlen, ?_⟩
                        obtain ⟨x5, M5⟩ := cell_change (c' := .dct false false (putD kvs (.k za) d)) (o := .dK (putK kv za.key v)) M4 R4 e4 rfl (fun as q => by obtain ⟨b, e1, _⟩ := q; exact ⟨b, e1⟩) (by intro z; cases z) rfl rfl
                          fun kp => ⟨a0, rfl, putK kv za.key v, upd_same, DatK.mono (fun _ f => f) kp (datK_put hk2 D4)⟩
                        exact p3 σ _ _ (x4.trans x5) M5 ((S3.mono x4).mono x5)
                      · cases ez
                    · rw [if_neg hz] at p3; exact p3.elim
          | _ => exact p3.elim
  | _ => exact p3.elim
end
end MP
end
section
set_option  maxHeartbeats  4000000
/-! append; loops. -/
namespace MP
open PySem PySem.Spec PyProof.Rows L2
section
variable {P : Prog} {X : Cx} {Wx : WX} {pos pos' apos : Pos} {e o : Expr} {fe fo : List W → M → R W}
theorem few_one {cpos : Pos} (hst : noStar e = true) : ((backTo cpos (starEach [e] X.env)).all (fun x => !x.1) && (backToKw cpos (keywordEach [] X.env)).all (fun x => x.1.isSome)
      && decide ([e].length + ([] : List Keyword).length + (if ([] : List Keyword).isEmpty then 0 else 1) < 30)) = true := by
  rw [starEach_cons hst]
  rfl
/-- o.append(e) -/
theorem s_app (ho : PEB P X Wx o fo) (he : PEB P X Wx e fe) (hb : plainBase o = true) (hst : noStar e = true) (hline : (apos.endLine == pos'.line) = true) :
    PSm P X Wx (.Expr (.Call (.Attribute o "append" apos) [e] [] pos') pos) fun ρ m => (fo ρ m).thn ρ fun x m1 => if isLst m1 x then (fe ρ m1).thn ρ fun w m2 => appO P ρ x w m2 else .bad := by
  refine PS.imp (ps_expr (pe_bm PySem.F.plainAttrs_list PySem.F.slot_list_append PySem.F.type_list_append mt_append ho.pe (pa_cons he.pe pa_nil (starEach_cons hst)) (base_eq hb) (few_one hst) hline (starEach_cons hst) rfl) rfl) fun D σ H ⟨w, ρ, m, hm, hs, p⟩ => ?_
  refine ⟨w, ρ, m, hm, hs, (PostO.thn p hs (WRel P X.K)).mono fun u H1 ⟨a, w1, m1, x1, M1, S1, R1, p1⟩ => ?_⟩
  by_cases hl : isLst m1 a = true
  · rw [if_pos hl] at p1
    cases a with
    | c n =>
      dsimp only [isLst] at hl
      cases e1 : m1[n]? with
      | none => rw [e1] at hl; cases hl
      | some cc =>
        rw [e1] at hl
        cases cc with
        | lst k xs =>
          obtain ⟨pa, vs, rfl, ha, la⟩ := lst_at M1 R1 e1
          refine ⟨.inl ⟨rfl, vs, .inl (.inl ha)⟩, w1, ρ, m1, M1, S1, (PostO.thn p1 S1 (WRel P X.K)).mono fun y H2 ⟨b, w2, m2, x2, M2, S2, R2, p2⟩ => ?_⟩
          show rAppend (.ref pa) [y] H2 (fun _ H1 => D.nx σ H1)
          unfold appO at p2
          cases ef : fz P m2 b with
          | none => rw [ef] at p2; exact p2.elim
          | some qd =>
            obtain ⟨d, m3⟩ := qd
            rw [ef] at p2
            dsimp only at p2
            obtain ⟨w3, x3, M3, D3⟩ := fz_rel M2 R2 ef
            have R3 : WRel P X.K w3 H2 (.c n) (.ref pa) := R1.mono (x2.trans x3)
            cases e3 : m3[n]? with
            | none => rw [e3] at p2; exact p2.elim
            | some cc =>
              rw [e3] at p2
              cases cc with
              | lst k ys =>
                cases k with
                | true => exact p2.elim
                | false =>
                  dsimp only at p2
                  by_cases hz : sizeOk (ys.length + 1) = true
                  · rw [if_pos hz] at p2
                    obtain ⟨pb, us, eb, hb', lb⟩ := lst_at M3 R3 e3
                    cases eb
                    refine ⟨pa, us, y, rfl, rfl, hb', ?_, ?_⟩
                    · rw [lb.length]
                      have : ys.length + 1 ≤ 16000000 := of_decide_eq_true hz
                      rw [sizeLine_eq]
                      omega
                    · obtain ⟨x5, M5⟩ := lst_change (ys := ys ++ [d]) (us := us ++ [y]) M3 R3 e3 (lb.append (DatL.cons D3 DatL.nil)) rfl
                      exact p2 σ _ _ (x3.trans x5) M5 ((S2.mono x3).mono x5)
                  · rw [if_neg hz] at p2; exact p2.elim
              | _ => exact p2.elim
        | _ => cases hl
    | _ => cases hl
  · rw [if_neg hl] at p1; exact p1.elim
/-- while -/
theorem s_while {c : Expr} {b : List Stmt} {fc : List W → M → R W} {f : List W → M → O} {n : Nat} (hp : PassesOwn (model X.prog X.w) X.A X.env X.xe) (hc : PEB P X Wx c fc) (hb : PSl P X Wx b f) :
    PSm P X Wx (.While c b [] pos) fun ρ m => whileGo (fun ρ m => (fc ρ m).bnd asB) f n ρ m := by
  refine PS.imp (ps_while hp hc.pt hb) fun D σ H ⟨w, ρ, m, hm, hs, p⟩ => ?_
  refine ⟨fun μ σ H => rS P X.K (whileGo (fun ρ m => (fc ρ m).bnd asB) f μ) Wx D σ H, ⟨n, w, ρ, m, hm, hs, p⟩, ?_⟩
  intro μ σ H ⟨w, ρ, m, hm, hs, p⟩
  cases μ with
  | zero => exact p.elim
  | succ μ =>
    unfold whileGo at p
    refine ⟨w, ρ, m, hm, hs, (PostO.thn p hs (fun _ _ a b => a = b)).mono fun k H1 ⟨a, w1, m1, x1, M1, S1, R1, p1⟩ => ?_⟩
    subst R1
    cases a with
    | false =>
      rw [if_neg Bool.false_ne_true] at p1 ⊢
      exact p1 σ w1 H1 .rfl M1 S1
    | true =>
      rw [if_pos rfl] at p1 ⊢
      refine ⟨fun σ' H' => rS P X.K (whileGo (fun ρ m => (fc ρ m).bnd asB) f μ) Wx D σ' H', fun σ' H' q => ⟨μ, Nat.lt_succ_self _, q⟩, w1, ρ, m1, M1, S1, ?_⟩
      cases e : f ρ m1 with
      | nx ρ2 m2 => rw [e] at p1; exact fun σ' w' H' x M S => ⟨w', ρ2, m2, M, S, PostO.ext p1 x⟩
      | rt a m2 => rw [e] at p1; exact p1
      | exc c fs ρ2 m2 => rw [e] at p1; exact p1
      | bad => rw [e] at p1; exact p1
end
section
variable {P : Prog} {K : Fg} {H : Hp} {D : Ends} {Wx : WX}
theorem lockO_post (f : M → O) : ∀ {ws : List W} {w : Wd} {m : M}, MRel P K w H m → PostO P K w H (lockO ws m f) D Wx → ∃ p', (∀ a, w.prot a → p' a) ∧ MRel P K (w.pr p') H (ws.foldl lockC m) ∧ PostO P K (w.pr p') H (f (ws.foldl lockC m)) D Wx
  | [], w, m, h, p => ⟨w.prot, fun _ q => q, h, p⟩
  | x :: ws, w, m, h, p => by
    obtain ⟨p1, h1, h2, h3⟩ := lock_one (x := x) h
    have key : PostO P K (w.pr p1) H (lockO ws (lockC m x) f) D Wx := by
      unfold lockO at p
      cases e : lockO ws (lockC m x) f with
      | bad => rw [e] at p; exact p
      | nx ρ m1 =>
        rw [e] at p
        dsimp only at p
        cases e2 : unlockC m m1 x with
        | none => rw [e2] at p; exact p.elim
        | some m2 =>
          rw [e2] at p
          intro σ' w' H' x' M' S'
          exact p σ' (w'.pr w.prot) H' (x'.unpr h1) (h3 m1 m2 w' H' e2 x' M') S'
      | rt a m1 =>
        rw [e] at p
        dsimp only at p
        cases e2 : unlockC m m1 x with
        | none => rw [e2] at p; exact p.elim
        | some m2 =>
          rw [e2] at p
          intro v w' H' x' M' R'
          refine p v (w'.pr w.prot) H' (x'.unpr h1) (h3 m1 m2 w' H' e2 x' M') ?_
          cases a <;> exact R'
      | exc c fs ρ m1 =>
        rw [e] at p
        dsimp only at p
        cases e2 : unlockC m m1 x with
        | none => rw [e2] at p; exact p.elim
        | some m2 =>
          rw [e2] at p
          intro cls d σ' w' H' x' M' S' X'
          exact p cls d σ' (w'.pr w.prot) H' (x'.unpr h1) (h3 m1 m2 w' H' e2 x' M') S' X'
    obtain ⟨p2, k1, k2, k3⟩ := lockO_post f h2 key
    exact ⟨p2, fun a q => k1 a (h1 a q), k2, k3⟩
end
section
variable {P : Prog} {X : Cx} {Wx : WX} {pos : Pos}
/-- for g in it -/
theorem s_for {tg it : Expr} {b : List Stmt} {g : Tg} {fit : List W → M → R (List D × List W)} {f : List W → M → O} (hp : PassesOwn (model X.prog X.w) X.A X.env X.xe) (hc : X.calm = true) (hi : PI X tg it (rI P X.K fit Wx)) (hg : PG X tg (tgR X.K g)) (hb : PSl P X Wx b f)
    (hs : ∀ x, foldedSetIterable it X.env x = pure x) : PSm P X Wx (.For tg it b [] pos) fun ρ m => (fit ρ m).thn ρ fun q m1 => lockO q.2 m1 (forGo g f q.1 ρ) := by
  refine PS.imp (ps_for hp hc hi hg hb hs) fun Dn σ H ⟨w, ρ, m, hm, hs, p⟩ => ?_
  refine ⟨w, ρ, m, hm, hs, ?_⟩
  dsimp only at p
  cases e0 : fit ρ m with
  | bad => rw [e0] at p; exact p
  | exc c fs m1 => rw [e0] at p; exact fun cls d w' H' x' M' X' => p cls d σ w' H' x' M' (hs.mono x') X'
  | ok q m1 =>
    rw [e0] at p
    intro J w1 H1 Ok x1 M1 WK hOk
    rw [R.thn_ok] at p
    obtain ⟨p', k1, ML, pL⟩ := lockO_post (forGo g f q.1 ρ) M1 (PostO.ext p x1)
    have okL := hOk (w1.pr p') rfl rfl ML
    let ds := q.1
    let Iv : Nat → L2.St → Hp → Prop := fun i σ' H' => i ≤ ds.length ∧ ∃ w' ρ' m', MRel P X.K w' H' m' ∧ SRel P X.K w' H' ρ' σ' ∧ Ok w' H' ∧ PostO P X.K w' H' (forGo g f (ds.drop i) ρ' m') Dn Wx
    refine ⟨fun i μ σ' H' => μ = ds.length - i ∧ Iv i σ' H', ⟨_, rfl, Nat.zero_le _, w1.pr p', ρ, _, ML, (hs.mono x1 : SRel P X.K w1 H1 ρ σ), okL, pL⟩, ?_⟩
    rintro i μ σ' H' ⟨rfl, hi', w', ρ', m', M', S', ok', p2⟩
    by_cases hlt : i < ds.length
    · refine .inr ⟨WK.go i w' H' ok' hlt, fun σ2 H2 => ∃ μ', μ' < ds.length - i ∧ (μ' = ds.length - (i + 1) ∧ Iv (i + 1) σ2 H2), fun _ _ z => z, fun x Hy hy => ?_⟩
      have hdi : ds[i]? = some ds[i] := List.getElem?_eq_getElem hlt
      rw [List.drop_eq_getElem_cons hlt] at p2
      unfold forGo at p2
      obtain ⟨w2, x2, M2, D2⟩ := WK.yld i w' H' m' x Hy ds[i] M' ok' hdi hy
      cases et : setTg g ds[i] ρ' with
      | none => rw [et] at p2; exact p2.elim
      | some ρ1 =>
        rw [et] at p2
        dsimp only at p2
        refine tg_run (S'.mono x2) D2 et fun σ2 S2 _ => ⟨w2, ρ1, m', M2, S2, ?_⟩
        have p3 := PostO.ext p2 x2
        cases e3 : f ρ1 m' with
        | bad => rw [e3] at p3; exact p3
        | rt a m3 => rw [e3] at p3; exact p3
        | exc c fs ρ3 m3 => rw [e3] at p3; exact p3
        | nx ρ3 m3 =>
          rw [e3] at p3
          exact fun σ3 w3 H3 x3 M3 S3 => ⟨_, by omega, rfl, hlt, w3, ρ3, m3, M3, S3, WK.stay _ _ _ _ (WK.stay _ _ _ _ ok' x2) x3, PostO.ext p3 x3⟩
    · have ei : i = ds.length := by omega
      subst ei
      rw [List.drop_length] at p2
      exact .inl ⟨WK.stop w' H' ok', p2 σ' w' H' .rfl M' S'⟩
end
end MP
end
section
set_option  maxHeartbeats  4000000
/-! isinstance; slices; int. -/
namespace MP
open PySem PySem.Spec PyProof.Rows L2
def Ty.name : Ty → Option String
  | .int => some "int"
  | .bool => some "bool"
  | .str => some "str"
  | .list => some "list"
  | .tuple => some "tuple"
  | .dict => some "dict"
  | .cls _ => none
def tyB (a b : String) : Bool := a == b || (a == "bool" && b == "int")
theorem kit_tab : ∀ a ∈ ["NoneType", "bool", "int", "str", "list", "tuple", "dict"], ∀ b ∈ ["int", "bool", "str", "list", "tuple", "dict"], kitB a b = some (tyB a b) := by decide +kernel
theorem isi_tab {d : D} {T1 : String} {t : Ty} {T2 : String} {P : Prog} (h1 : tyName d = some T1) (h2 : t.name = some T2) : isiD P d t = tyB T1 T2 := by
  cases d <;> cases h1 <;> cases t <;> cases h2 <;> rfl
theorem ty_mem2 {t : Ty} {T : String} (h : t.name = some T) : T ∈ ["int", "bool", "str", "list", "tuple", "dict"] := by
  cases t <;> cases h <;> decide
/-- what is known for isinstance of an own class -/
structure IsF (P : Prog) (K : Fg) (c : Nat) : Prop where
  cf : ClsF P K c
  ty : ∀ T ∈ ["int", "bool", "str", "list", "tuple", "dict"], PySem.W.kitOne K (.ref (ca P K c)) (.type T) = some false
  fl : ∀ T ∈ ["NoneType", "bool", "int", "str", "list", "tuple", "dict"], PySem.W.kitOne K (.type T) (.ref (ca P K c)) = some false
  own : ∀ c', P.own c' = true → PySem.W.kitOne K (.ref (ca P K c')) (.ref (ca P K c)) = some (c == c')
section
variable {P : Prog} {X : Cx} {Wx : WX} {pos p0 p1 : Pos} {a : Expr} {fa : List W → M → R W}
/-- one class of an isinstance: its name in the text, the value it has -/
inductive TyV (P : Prog) (X : Cx) : Str → Ty → V → Value → Prop where
  | blt {x : Str} {t : Ty} {T : String} (hg : Gl X x) (hm : X.mg x = none) (hv : bootBuiltins x = some (.type T)) (hn : x ≠ "__name__") (hd : (x == ("__debug__" : Str)) = false) (ht : t.name = some T) : TyV P X x t (.ty T) (.type T)
  | own {x : Str} {c : Nat} (hg : Gl X x) (hm : X.mg x = some (.ref (ca P X.K c))) (hd : (x == ("__debug__" : Str)) = false) (hc : P.own c = true) : TyV P X x (.cls c) (.ref (ca P X.K c)) (.ref (ca P X.K c))
theorem TyV.pe {x : Str} {t : Ty} {v : V} {u : Value} (h : TyV P X x t v u) : PE X (.Name x p1) (tC v) ∧ ClsV v u := by
  cases h with
  | blt hg hm hv hn hd ht => exact ⟨pe_bltn hg hm hv rfl hn hd, .ty _⟩
  | own hg hm hd hc => exact ⟨pe_glob hg hm rfl hd, .own _⟩
/-- the answer -/
theorem TyV.kit {x : Str} {t : Ty} {v : V} {u : Value} (h : TyV P X x t v u) (hF : ∀ c, P.own c = true → IsF P X.K c) {w : Wd} {H : Hp} {m : M} {y : W} {z : V} {d : D} (hm : MRel P X.K w H m) (r : WRel P X.K w H y z) (e : vw m y = some d) (nc : ∀ c, d ≠ .cls c) (no : ∀ c fs, d = .obj c fs → P.own c = true) :
    ∃ ty, TyX X.K H z ty ∧ ((∃ T1, tyName d = some T1 ∧ ty = .type T1) ∨ ∃ c fs, d = .obj c fs ∧ ty = .ref (ca P X.K c)) ∧ PySem.W.kitOne X.K ty u = some (isiD P d t) := by
  have V1 := vw_rel hm r e
  cases en : tyName d with
  | some T1 =>
    refine ⟨.type T1, tyx V1 en, .inl ⟨T1, rfl, rfl⟩, ?_⟩
    cases h with
    | blt hg hm hv hn hd ht =>
      rw [isi_tab en ht]
      exact kit_ty (kit_tab T1 (ty_mem en) _ (ty_mem2 ht))
    | @own c hg hm hd hc =>
      rw [(hF c hc).fl T1 (ty_mem en)]
      cases d <;> first | rfl | cases en
  | none =>
    cases d with
    | obj c fs =>
      have hc := no c fs rfl
      have F := hF c hc
      refine ⟨.ref (ca P X.K c), F.cf.ty V1, .inr ⟨c, fs, rfl, rfl⟩, ?_⟩
      cases h with
      | blt hg hm hv hn hd ht =>
        rw [F.ty _ (ty_mem2 ht)]
        cases t <;> first | rfl | cases ht
      | @own c2 hg hm hd hc2 => exact (hF c2 hc2).own c hc
    | cls c => exact absurd rfl (nc c)
    | _ => cases en
theorem isiW_some {ts : List Ty} {x : W} {m : M} {Q : VK} {w : Wd} {H : Hp} {Wy : Value → Option Addr → Hp → Prop} (p : Post P X.K (WRel P X.K) w H (isiW P ts x m) Q Wy) (hm : MRel P X.K w H m) : ∃ d, vw m x = some d ∧ (∀ c, d ≠ .cls c) ∧ (∀ c fs, d = .obj c fs → P.own c = true) ∧ Q (.bl (ts.any (isiD P d))) H := by
  unfold isiW at p
  cases e : vw m x with
  | none => rw [e] at p; exact p.elim
  | some d =>
    rw [e] at p
    cases d with
    | cls c => exact p.elim
    | obj c fs =>
      dsimp only at p
      by_cases h : P.own c = true
      · rw [if_pos h] at p
        exact ⟨_, rfl, (fun _ z => D.noConfusion z), (fun c' fs' z => by cases z; exact h), Post.flat p hm (Dat.bl_iff.mpr rfl)⟩
      · rw [if_neg h] at p; exact p.elim
    | _ => exact ⟨_, rfl, (fun _ z => D.noConfusion z), (fun _ _ z => D.noConfusion z), Post.flat p hm (Dat.bl_iff.mpr rfl)⟩
/-- isinstance(a, T) -/
theorem e_isi {t : Ty} {x : Str} {v : V} {u : Value} (hT : TyV P X x t v u) (hF : ∀ c, P.own c = true → IsF P X.K c) (hg : Gl X "isinstance") (hm : X.mg "isinstance" = none) (ha : PEB P X Wx a fa) (hst : noStar a = true) :
    PEB P X Wx (.Call (.Name "isinstance" p0) [a, .Name x p1] [] pos) fun ρ m => (fa ρ m).bnd (isiW P [t]) := by
  obtain ⟨hpe, hcv⟩ := hT.pe (p1 := p1)
  refine .of (PE.imp (pe_callB call_isi hg hm (by decide +kernel : bootBuiltins "isinstance" = some (.builtin "isinstance")) (pa_cons ha.pe (pa_cons hpe pa_nil rfl) (starEach_cons hst)) (by decide) (by decide) (starEach_cons hst) rfl) fun σ H Q ⟨w, ρ, m, hm, hs, p⟩ => ?_) fun _ => rfl
  dsimp only at p
  refine ⟨w, ρ, m, hm, hs, (p.bnd (WRel P X.K)).mono fun z H1 ⟨y, w1, m1, X1, M1, R1, p1⟩ => ?_⟩
  obtain ⟨d, e, nc, no, q⟩ := isiW_some p1 M1
  obtain ⟨ty, h1, _, h2⟩ := hT.kit hF M1 R1 e nc no
  refine ⟨z, v, ty, u, isiD P d t, rfl, hcv, h1, h2, ?_⟩
  rw [List.any_cons, List.any_nil, Bool.or_false] at q
  exact q
/-- isinstance(a, (T, U)) -/
theorem e_isi2 {t t' : Ty} {x x' : Str} {v v' : V} {u u' : Value} {p2 p3 : Pos} {k : Nat} (hT : TyV P X x t v u) (hT' : TyV P X x' t' v' u') (hF : ∀ c, P.own c = true → IsF P X.K c) (hg : Gl X "isinstance") (hm : X.mg "isinstance" = none) (ha : PEB P X Wx a fa) (hst : noStar a = true) :
    PEB P X Wx (.Call (.Name "isinstance" p0) [a, .Tuple [.Name x p1, .Name x' p2] k p3] [] pos) fun ρ m => (fa ρ m).bnd (isiW P [t, t']) := by
  obtain ⟨hpe, hcv⟩ := hT.pe (p1 := p1)
  obtain ⟨hpe', hcv'⟩ := hT'.pe (p1 := p2)
  refine .of (PE.imp (pe_callB call_isiT hg hm (by decide +kernel : bootBuiltins "isinstance" = some (.builtin "isinstance")) (pa_cons ha.pe (pa_cons (pe_tup (pa_cons hpe (pa_cons hpe' pa_nil rfl) rfl)) pa_nil rfl) (starEach_cons hst)) (by decide) (by decide) (starEach_cons hst) rfl) fun σ H Q ⟨w, ρ, m, hm, hs, p⟩ => ?_) fun _ => rfl
  dsimp only at p
  refine ⟨w, ρ, m, hm, hs, (p.bnd (WRel P X.K)).mono fun z H1 ⟨y, w1, m1, X1, M1, R1, p1⟩ => ?_⟩
  refine ⟨by show 2 ≤ sizeLine; rw [sizeLine_eq]; decide, fun tp htp => ?_⟩
  have x2 := Ext.lay (o := .tup [v, v']) M1 htp
  have M2 := M1.lay (o := .tup [v, v']) htp
  have p2 := Post.ext p1 x2
  obtain ⟨d, e, nc, no, q⟩ := isiW_some p2 M2
  obtain ⟨ty, h1, hk, h2⟩ := hT.kit hF M2 (R1.mono x2) e nc no
  obtain ⟨ty', h1', hk', h2'⟩ := hT'.kit hF M2 (R1.mono x2) e nc no
  have et : ty' = ty := by
    rcases hk with ⟨T1, e1, rfl⟩ | ⟨c, fs, e1, rfl⟩
    · rcases hk' with ⟨T2, e2, rfl⟩ | ⟨c', fs', e2, rfl⟩
      · rw [e1] at e2; cases e2; rfl
      · rw [e2] at e1; cases e1
    · rcases hk' with ⟨T2, e2, rfl⟩ | ⟨c', fs', e2, rfl⟩
      · rw [e1] at e2; cases e2
      · rw [e1] at e2; cases e2; rfl
  subst et
  refine ⟨z, tp, [v, v'], ty', [u, u'], isiD P d t || isiD P d t', rfl, upd_same, .cons hcv (.cons hcv' .nil), h1', ?_, ?_⟩
  · refine kitAny_cons h2 (fun hb => ?_) (fun hb => by rw [hb]; rfl)
    rw [hb, Bool.false_or]
    exact kitAny_cons h2' (fun hb' => by rw [hb']; exact kitAny_nil) (fun hb' => hb')
  · rw [List.any_cons, List.any_cons, List.any_nil, Bool.or_false] at q
    exact q
/-! ### slices -/
theorem clip_sIx (n d : Nat) (o : Option Int) : clip n d o = HT.sIx n d o := by
  cases o with
  | none => rfl
  | some i =>
    show (max 0 (min (if i < 0 then i + (n : Int) else i) (n : Int))).toNat = (if i < 0 then (i + (n : Int)).toNat else min i.toNat n)
    by_cases h : i < 0
    · rw [if_pos h, if_pos h]; omega
    · rw [if_neg h, if_neg h]; omega
theorem datL_drop {K : Fg} {w : Wd} {H : Hp} : ∀ {ds : List D} {vs : List V} (k : Nat), DatL P K w.fro H ds vs → DatL P K w.fro H (ds.drop k) (vs.drop k)
  | ds, vs, 0, h => h
  | [], vs, k + 1, h => by
    unfold DatL at h
    subst h
    exact DatL.nil
  | d :: ds, vs, k + 1, h => by
    unfold DatL at h
    obtain ⟨v, r, rfl, h1, h2⟩ := h
    exact datL_drop k h2
theorem datL_take {K : Fg} {w : Wd} {H : Hp} : ∀ {ds : List D} {vs : List V} (k : Nat), DatL P K w.fro H ds vs → DatL P K w.fro H (ds.take k) (vs.take k)
  | ds, vs, 0, h => by
    rw [List.take_zero, List.take_zero]
    exact DatL.nil
  | [], vs, k + 1, h => by
    unfold DatL at h
    subst h
    exact DatL.nil
  | d :: ds, vs, k + 1, h => by
    unfold DatL at h
    obtain ⟨v, r, rfl, h1, h2⟩ := h
    exact DatL.cons h1 (datL_take k h2)
theorem datL_cut {K : Fg} {w : Wd} {H : Hp} {ds : List D} {vs : List V} (lo hi : Option Int) (h : DatL P K w.fro H ds vs) : DatL P K w.fro H (cut ds lo hi) (cutV vs lo hi) := by
  unfold cut cutV
  rw [clip_sIx, clip_sIx, h.length]
  exact datL_take _ (datL_drop _ h)
end
end MP
end
section
set_option  maxHeartbeats  4000000
/-! Slices; int; keyword calls. -/
namespace MP
open PySem PySem.Spec PyProof.Rows L2
section
variable {P : Prog} {X : Cx} {Wx : WX} {pos p2 : Pos} {a e : Expr} {fa fe : List W → M → R W}
def rO (P : Prog) (K : Fg) (f : List W → M → R (Option Int)) (Wx : WX) : TO := fun σ H Q => ∃ w ρ m, MRel P K w H m ∧ SRel P K w H ρ σ ∧ Post P K (fun _ _ a b => a = b) w H (f ρ m) Q (fun cls d H' => Wx cls d σ H')
theorem PO.imp {oe : Option Expr} {t t' : TO} (h : PO X oe t) (hi : ∀ σ H Q, t' σ H Q → t σ H Q) : PO X oe t' := ⟨fun pins s σ H Q I q => h.run pins s σ H Q I (hi σ H Q q)⟩
theorem o_none : PO X none (rO P X.K (fun _ m => .ok none m) Wx) := PO.imp po_none fun σ H Q ⟨w, ρ, m, hm, hs, p⟩ => p none w H .rfl hm rfl
theorem o_some (he : PEB P X Wx e fe) : PO X (some e) (rO P X.K (fun ρ m => (fe ρ m).bnd asI) Wx) := by
  refine PO.imp (po_some he.pe) fun σ H Q ⟨w, ρ, m, hm, hs, p⟩ => ?_
  dsimp only at p
  refine ⟨w, ρ, m, hm, hs, (p.bnd (WRel P X.K)).mono fun z H1 ⟨y, w1, m1, X1, M1, R1, p1⟩ => ?_⟩
  cases y with
  | v d =>
    cases d with
    | int i => exact ⟨i, WRel.int R1, p1 (some i) w1 H1 .rfl M1 rfl⟩
    | _ => exact p1.elim
  | _ => exact p1.elim
theorem cutS_ts (x : Sg) (lo hi : Option Int) : cutS (ts x) lo hi = ts (cut x lo hi) := by
  unfold cutS cut
  rw [ts_len, clip_sIx, clip_sIx]
  simp [ts]
theorem cut_whole (xs : List D) (lo hi : Option Int) (h : HT.sIx xs.length 0 lo = 0 ∧ HT.sIx xs.length xs.length hi = xs.length) : cut xs lo hi = xs := by
  unfold cut
  rw [clip_sIx, clip_sIx, h.1, h.2, List.drop_zero, Nat.sub_zero, List.take_length]
/-- a[lo:hi] -/
theorem e_slice {lo hi : Option Expr} {fl fh : List W → M → R (Option Int)} (ha : PEB P X Wx a fa) (hl : PO X lo (rO P X.K fl Wx)) (hh : PO X hi (rO P X.K fh Wx)) :
    PEB P X Wx (.Subscript a (.Slice lo hi none p2) pos) fun ρ m => (fa ρ m).bnd fun x m1 => (fl ρ m1).bnd fun y m2 => (fh ρ m2).bnd fun z m3 => sliceW x y z m3 := by
  refine .of (PE.imp (pe_slice (SlR.or sl_list (SlR.or sl_tupA sl_str)) ha.pe hl hh) fun σ H Q ⟨w, ρ, m, hm, hs, p⟩ => ?_) fun _ => rfl
  dsimp only at p
  refine ⟨w, ρ, m, hm, hs, (p.bnd (WRel P X.K)).mono fun v H1 ⟨x, w1, m1, X1, M1, R1, p1⟩ => ?_⟩
  refine ⟨w1, ρ, m1, M1, hs.mono X1, (p1.bnd (fun _ _ a b => a = b)).mono fun l H2 ⟨y, w2, m2, X2, M2, R2, p2⟩ => ?_⟩
  refine ⟨w2, ρ, m2, M2, (hs.mono X1).mono X2, (p2.bnd (fun _ _ a b => a = b)).mono fun u H3 ⟨z, w3, m3, X3, M3, R3, p3⟩ => ?_⟩
  subst R2 R3
  have R4 : WRel P X.K w3 H3 x v := R1.mono (X2.trans X3)
  unfold sliceW at p3
  cases e1 : vw m3 x with
  | none => rw [e1] at p3; exact p3.elim
  | some d =>
    rw [e1] at p3
    dsimp only at p3
    have V4 := vw_rel M3 R4 e1
    cases d with
    | lst xs =>
      obtain ⟨pa, vs, rfl, ra, la⟩ := V4
      exact .inl ⟨pa, vs, rfl, .inl ra, fun q hq => Post.new p3 M3 hq (new_lst M3 hq (datL_cut y z la))⟩
    | tup xs =>
      have hx : x = .v (.tup xs) := by
        cases x with
        | v d => cases e1; rfl
        | c n =>
          dsimp only [vw] at e1
          cases q : m3[n]? with
          | none => rw [q] at e1; cases e1
          | some cc => rw [q] at e1; cases cc <;> cases e1
        | _ => cases e1
      subst hx
      obtain ⟨pa, vs, rfl, ra, la⟩ := V4
      refine .inr (.inl ⟨pa, vs, rfl, ra, fun hw => ?_, fun _ q hq => Post.new p3 M3 hq (new_tup M3 hq (datL_cut y z la))⟩)
      rw [la.length] at hw
      have e2 : sliceD (.tup xs) y z = some (.tup xs) := by
        show some (D.tup (cut xs y z)) = _
        rw [cut_whole xs y z hw]
      rw [e2] at p3
      exact p3 _ w3 H3 .rfl M3 R4
    | str xs =>
      dsimp only [sliceD] at p3
      by_cases hz : sizeOk xs.length = true
      · rw [if_pos hz] at p3
        refine .inr (.inr ⟨ts xs, Vw.str V4, by rw [ts_len]; exact sizeOk_line hz, ?_⟩)
        rw [cutS_ts]
        exact Post.flat p3 M3 (Dat.str_iff.mpr rfl)
      · rw [if_neg hz] at p3; exact p3.elim
    | _ => exact p3.elim
/-- int(..) -/
theorem int_call {hd : Hd} : CallW P X Wx (.type "int") (bfW hd .int) := by
  intro pins s σ H vs us Q w m ws I r hm hw p
  unfold bfW at p
  cases e1 : vws m ws with
  | none => rw [e1] at p; exact p.elim
  | some ds =>
    rw [e1] at p
    dsimp only at p
    have V := vws_rel hm hw e1
    cases e2 : bfD .int ds with
    | none => rw [e2] at p; exact p.elim
    | some d =>
      rw [e2] at p
      match ds, e2 with
      | [.int i], e2 =>
        cases e2
        obtain ⟨v, rfl, vx⟩ := V.one
        cases Vw.int vx
        exact call_int1 pins s σ H _ us Q I r (.inl ⟨i, rfl, Post.flat p hm (Dat.int_iff.mpr rfl)⟩)
      | [.str x], e2 =>
        obtain ⟨v, rfl, vx⟩ := V.one
        cases Vw.str vx
        dsimp only [bfD] at e2
        by_cases hz : x.length ≤ 640
        · rw [if_pos hz] at e2
          cases e3 : PySem.intText? (ts x) with
          | none => rw [e3] at e2; cases e2
          | some n =>
            rw [e3] at e2
            cases e2
            exact call_int_str pins s σ H _ us Q I r ⟨ts x, n, rfl, e3, by rw [ts_len]; exact hz, Post.flat p hm (Dat.int_iff.mpr rfl)⟩
        · rw [if_neg hz] at e2; cases e2
end
end MP
end
section
set_option  maxHeartbeats  4000000
/-! try with except clauses. -/
namespace MP
open PySem PySem.Spec PyProof.Rows L2
abbrev Prog.wx (P : Prog) (x : Option (Addr × Value × Option Addr)) : Prog := { P with xi := x }
abbrev Wd.wx (w : Wd) (x : Option (Addr × Value × Option Addr)) : Wd := { w with xi := x }
section
variable {P : Prog} {K : Fg} {w w' : Wd} {H H' : Hp} {m : M} {x y : Option (Addr × Value × Option Addr)} {ρ : List W} {σ : L2.St}
mutual
theorem Dat.wx {fro : Addr → Prop} : ∀ {d : D} {v : V}, Dat P K fro H d v → Dat (P.wx x) K fro H d v
  | .non, v, h => by unfold Dat at h ⊢; exact h
  | .bl b, v, h => by unfold Dat at h ⊢; exact h
  | .int i, v, h => by unfold Dat at h ⊢; exact h
  | .str y, v, h => by unfold Dat at h ⊢; exact h
  | .lst xs, v, h => by
    unfold Dat at h ⊢
    obtain ⟨a, vs, e, f, r, l⟩ := h
    exact ⟨a, vs, e, f, r, DatL.wx l⟩
  | .tup xs, v, h => by
    unfold Dat at h ⊢
    obtain ⟨a, vs, e, r, l⟩ := h
    exact ⟨a, vs, e, r, DatL.wx l⟩
  | .dct kvs, v, h => by
    unfold Dat at h ⊢
    obtain ⟨a, e, f, r⟩ := h
    refine ⟨a, e, f, ?_⟩
    rcases r with ⟨kv, r, l⟩ | ⟨kv, r, l⟩
    · exact .inl ⟨kv, r, DatK.wx l⟩
    · exact .inr ⟨kv, r, DatT.wx l⟩
  | .obj c fs, v, h => by
    unfold Dat at h ⊢
    obtain ⟨a, dx, vs, e, f, r, n, l⟩ := h
    exact ⟨a, dx, vs, e, f, r, n, DatL.wx l⟩
  | .cls c, v, h => by unfold Dat at h ⊢; exact h
theorem DatL.wx {fro : Addr → Prop} : ∀ {ds : List D} {vs : List V}, DatL P K fro H ds vs → DatL (P.wx x) K fro H ds vs
  | [], vs, h => by unfold DatL at h ⊢; exact h
  | d :: ds, vs, h => by
    unfold DatL at h ⊢
    obtain ⟨v, r, e, h1, h2⟩ := h
    exact ⟨v, r, e, Dat.wx h1, DatL.wx h2⟩
theorem DatK.wx {fro : Addr → Prop} : ∀ {ds : List (DKey × D)} {vs : List (Key × V)}, DatK P K fro H ds vs → DatK (P.wx x) K fro H ds vs
  | [], vs, h => by unfold DatK at h ⊢; exact h
  | (k, d) :: ds, vs, h => by
    unfold DatK at h ⊢
    obtain ⟨a, v, r, ek, e, h1, h2⟩ := h
    exact ⟨a, v, r, ek, e, Dat.wx h1, DatK.wx h2⟩
theorem DatT.wx {fro : Addr → Prop} : ∀ {ds : List (DKey × D)} {vs : List (List Key × V)}, DatT P K fro H ds vs → DatT (P.wx x) K fro H ds vs
  | [], vs, h => by unfold DatT at h ⊢; exact h
  | (k, d) :: ds, vs, h => by
    unfold DatT at h ⊢
    obtain ⟨a, v, r, ek, e, h1, h2⟩ := h
    exact ⟨a, v, r, ek, e, Dat.wx h1, DatT.wx h2⟩
end
theorem FdL.wx : ∀ {fs : List Fd} {vs : List V} {as : List Addr}, FdL P K w H fs vs as → FdL (P.wx x) K (w.wx y) H fs vs as
  | [], vs, as, h => h
  | .v d :: fs, vs, as, h => by
    obtain ⟨v, r, e, h1, h2⟩ := h
    exact ⟨v, r, e, Dat.wx h1, FdL.wx h2⟩
  | .d t kvs :: fs, vs, as, h => by
    obtain ⟨a, r, q, e, e2, h1, h2⟩ := h
    refine ⟨a, r, q, e, e2, ?_, FdL.wx h2⟩
    cases t with
    | true => obtain ⟨kv, k1, k2⟩ := h1; exact ⟨kv, k1, DatT.wx k2⟩
    | false => obtain ⟨kv, k1, k2⟩ := h1; exact ⟨kv, k1, DatK.wx k2⟩
theorem CRel.wx {as : List Addr} {c : C} (h : CRel P K w H as c) : CRel (P.wx x) K (w.wx y) H as c := by
  cases c with
  | lst k xs => obtain ⟨a, vs, e, q, l⟩ := h; exact ⟨a, vs, e, q, DatL.wx l⟩
  | dct k t kvs =>
    obtain ⟨a, e, q⟩ := h
    refine ⟨a, e, ?_⟩
    cases t with
    | true => obtain ⟨kv, k1, k2⟩ := q; exact ⟨kv, k1, DatT.wx k2⟩
    | false => obtain ⟨kv, k1, k2⟩ := q; exact ⟨kv, k1, DatK.wx k2⟩
  | obj c fs => obtain ⟨a, r, dx, vs, e, q, n1, n2, l⟩ := h; exact ⟨a, r, dx, vs, e, q, n1, n2, FdL.wx l⟩
  | scr xs => obtain ⟨a, vs, e, q, l⟩ := h; exact ⟨a, vs, e, q, DatL.wx l⟩
  | dead => exact h
theorem MRel.wx (h : MRel P K w H m) : MRel (P.wx x) K (w.wx x) H m :=
  ⟨h.len, fun n c as e1 e2 => (h.at_ n c as e1 e2).wx, h.nd, h.dis, h.some_, h.hid, h.pro, h.lk, h.lk2, rfl⟩
theorem MRel.unwx (h : MRel (P.wx x) K w H m) : MRel P K (w.wx P.xi) H m := MRel.wx (P := P.wx x) (x := P.xi) h
theorem Dat.unwx {fro : Addr → Prop} {d : D} {v : V} (h : Dat (P.wx x) K fro H d v) : Dat P K fro H d v := Dat.wx (P := P.wx x) (x := P.xi) h
theorem Ext.unwx (y : Ext (w.wx x) H w' H') (e : w.xi = P.xi) : Ext w H (w'.wx P.xi) H' := ⟨y.fro, y.keep, y.ow, e.symm, y.hid, y.prot, y.pk⟩
theorem SRel.unE (h : SRel (P.wx x) K w H ρ σ) : SRel P K (w.wx P.xi) H (ρ.map unE) σ := by
  refine ⟨by rw [List.length_map]; exact h.1, fun i a e n => ?_⟩
  rw [List.getElem?_map] at e
  cases e1 : ρ[i]? with
  | none => rw [e1] at e; cases e
  | some b =>
    rw [e1] at e
    have e2 : MP.unE b = a := Option.some.inj e
    subst e2
    cases b with
    | v d =>
      obtain ⟨v, h1, h2⟩ := h.2 i _ e1 (by intro z; cases z)
      exact ⟨v, h1, Dat.unwx h2⟩
    | c k => exact h.2 i _ e1 (by intro z; cases z)
    | e _ _ => exact absurd rfl n
    | u => exact absurd rfl n
end
/-- the slot of an except clause's name -/
def SlotN (X : Cx) (n : Option Str) (i : Option Nat) : Prop := match n, i with
  | none, none => True
  | some y, some j => X.N[j]? = some y ∧ X.env.kindOf y = some .local
  | _, _ => False
def setN (i : Option Nat) (y : Option V) (σ : L2.St) : L2.St := match i with
  | some j => σ.set j y
  | none => σ
/-- the except clauses, by the evaluator -/
inductive HdM (P : Prog) (X : Cx) : List ExceptHandler → (Nat → List D → List W → M → O) → Prop
  | nil : HdM P X [] (fun c fs ρ m => .exc c fs ρ m)
  | cons {x : Str} {n : Option Str} {i : Option Nat} {c' : Nat} {b₀ : Stmt} {suite : List Stmt} {np pos' : Pos} {hds : List ExceptHandler} {fb : List W → M → O} {fl : Nat → List D → List W → M → O}
      (hc : Names X x (.ref (ca P X.K c'))) (hm : ∀ c, isExc P c = true → PySem.W.exmOne X.K (.ref (ca P X.K c)) (.ref (ca P X.K c')) = some (catches P c c')) (hn : SlotN X n i)
      (hsu : ∀ (a : Addr) (oe : Obj) (cls : Value) (d : Option Addr) (pn : List (Addr × Obj)), Zc cls d oe → (∃ vs, oe.data = .fields vs) → PSl (P.wx (some (a, cls, d))) (X.suite a ((a, oe) :: pn)) noW (b₀ :: suite) fb) (r : HdM P X hds fl) :
      HdM P X (.ExceptHandler (some (.Name x np)) n (b₀ :: suite) pos' :: hds) (fun c fs ρ m => if isExc P c then (if catches P c c' then outS i (fb (setE i c fs ρ) m) else fl c fs ρ m) else .bad)
section
variable {P : Prog} {X : Cx} {Wx : WX} {pos : Pos}
/-- what stands behind a suite -/
theorem outS_post {i : Option Nat} {o : O} {w : Wd} {H : Hp} {D : Ends} {q : Addr × Value × Option Addr} (e : w.xi = P.xi) (p : PostO P X.K w H (outS i o) D Wx) :
    PostO (P.wx (some q)) X.K (w.wx (some q)) H o { nx := fun σ' H' => D.nx (setN i none σ') H', rt := D.rt, bk := fun σ' H' => D.bk (setN i none σ') H', ct := fun σ' H' => D.ct (setN i none σ') H' } noW := by
  cases o with
  | nx ρ m =>
    intro σ' w' H' x' M' S'
    have S1 : SRel P X.K (w'.wx P.xi) H' (ρ.map unE) σ' := S'.unE
    cases i with
    | none => exact p σ' _ H' (x'.unwx e) M'.unwx S1
    | some j => exact p _ _ H' (x'.unwx e) M'.unwx (S1.setU none)
  | rt a m =>
    intro v w' H' x' M' R'
    cases a with
    | v d => exact p v _ H' (x'.unwx e) M'.unwx (Dat.unwx R')
    | c n => exact p v _ H' (x'.unwx e) M'.unwx R'
    | e _ _ => exact p.elim
    | u => exact p v _ H' (x'.unwx e) M'.unwx trivial
  | exc c fs ρ m => exact p.elim
  | bad => exact p.elim
/-- the clauses are gone through -/
theorem handle_run {pins : List (Addr × Obj)} {Dn : Ends} {σ' : L2.St} {H' : Hp} {sI s' : Shared} {B : Heap} {a : Addr} {cls : Value} {d : Option Addr} {h3 : Heap} (hs : X.stack = X.env :: X.outer) (hf : X.env.frame = some X.env.locals) (hN : X.N.Nodup) (hx0 : P.xi = none) (tk : Takes X Wx) (ok : X.Ok)
    (J : Inv X pins σ' H' sI) (nb : ∀ b o, sI.heap.get? b = some o → b ∉ frs X.stack → B.get? b = some o) (na : H' a = none) (os : s'.os = sI.os) (ag : AllBare s'.gens) (fl3 : HandSPX.FlyingZ B (X.env :: X.outer) a (Zc cls d) h3) (up3 : sI.heap.UpToSlots h3) :
    ∀ {hds : List ExceptHandler} {fh : Nat → List D → List W → M → O}, HdM P X hds fh → ∀ {w' : Wd} {ρ' : List W} {m' : M} {c : Nat} {fs : List D}, MRel P X.K w' H' m' → SRel P X.K w' H' ρ' σ' → XRel P X.K w' H' c fs cls d → PostO P X.K w' H' (fh c fs ρ' m') Dn Wx →
      wpAny (model X.prog X.w) X.A (handleBy (.ref a) X.env hds) (SP X pins Dn) X.xe { s' with heap := h3 } := by
  obtain ⟨oe3, vs3, he3, hz3, hd3⟩ := fl3.there
  have nfr : a ∉ frs (X.env :: X.outer) := fun hm => by
    obtain ⟨_, o', e', hnf⟩ := fl3.2.2.1.mem hm
    rw [he3] at e'
    cases e'
    exact hnf _ hd3
  have nL : a ≠ X.env.locals := fun z => nfr (List.mem_filterMap.mpr ⟨X.env, List.mem_cons_self, hf.trans (congrArg some z.symm)⟩)
  have nF : a ∉ X.fs := fun hm => by
    obtain ⟨e, he, q⟩ := List.mem_filterMap.mp hm
    exact nfr (List.mem_filterMap.mpr ⟨e, .tail _ he, q⟩)
  have land : ∀ {h : Heap}, B.StaysIn h → sI.heap.UpToSlots h → Inv X pins σ' H' { s' with heap := h } := fun st up => J.landed nb st up os ag
  have J3 := land fl3.1 up3
  intro hds fh hh
  induction hh with
  | nil =>
    intro w' ρ' m' c fs M' S' X' p
    have pw : Wx cls d σ' H' := p cls d σ' w' H' .rfl M' S' X'
    refine wpAny_handleBy_nil ?_
    have fin : wpAny (model X.prog X.w) X.A (setFlight (.ref a) X.env.frame) (fun _ s4 => wpAny (model X.prog X.w) X.A (throw (.ref a) : Sem Flow) (SP X pins Dn) X.xe s4) X.xe { s' with heap := h3 } := by
      rw [hf]
      refine HandSPX.setFlight_upZ fl3 fun h4 hh4 up4 => wpAny_throw (tk _ _ ⟨a, B, sI, pins, σ', H', cls, d, rfl, J, nb, up3.trans up4, .inr (.inr ?_), na, os, ag, pw⟩)
      rw [hs]
      exact hh4
    obtain ⟨_, _, _, oe, vs, T, _, _, he, _, hd, h1, _⟩ := id fl3
    unfold PySem.passOn
    refine wpAny_bind (wpAny_field he hd h1 ?_)
    rw [if_neg (show ¬ ((Value.ref T == Value.none) = true) by simp)]
    first
      | exact wpAny_bind (wpAny_pure (wpAny_bind fin))
      | exact wpAny_bind fin
  | @cons x n i c' b₀ suite np pos' hds2 fb fl hc hm hn hsu r ih =>
    intro w' ρ' m' c fs M' S' X' p
    dsimp only at p
    by_cases hx : isExc P c = true
    · rw [if_pos hx] at p
      have hb1 := hm c hx
      rw [← X'.1] at hb1
      have S3 := J3.suite he3 hd3 na nL nF
      refine wpAny_handleBy_cons (codeAny_handlers_test ?_) (by intro q; cases q)
      have LT : PySem.W.Looks (model X.prog X.w) h3 (typeOf (.ref a)) cls := fun A Q E s k q => wpAny_typeOf_ref (k _ _ he3) (by rw [hz3.1]; exact q)
      have LM := PySem.W.exm_one (M := model X.prog X.w) J3.kIn LT hb1
      have test : ∀ {Q : Value → Shared → Prop} {E : Value → Shared → Prop}, Q (.ref (ca P X.K c')) { s' with heap := h3 } → wpAny (model X.prog X.w) (X.A.mark (some (.ref a))) (eval (.Name x np) X.env) Q E { s' with heap := h3 } := fun {Q E} q => by
        obtain ⟨hg, hdbg, z⟩ := hc
        rcases z with z | ⟨z1, z2, z3⟩
        · exact ld_glob (X := X.suite a ((a, oe3) :: (X.pn ++ pins))) S3 hg z q hdbg
        · exact ld_blt (X := X.suite a ((a, oe3) :: (X.pn ++ pins))) S3 hg z1 z2 q z3 hdbg
      refine test (LM.here ?_)
      cases hcc : catches P c c' with
      | false =>
        rw [hcc, if_neg Bool.false_ne_true] at p
        show wpAny _ X.A (handleBy (.ref a) X.env hds2) _ _ _
        exact ih M' S' X' p
      | true =>
        rw [hcc, if_pos rfl] at p
        have ps := outS_post (q := (a, cls, d)) M'.xk p
        have we : WRel (P.wx (some (a, cls, d))) X.K (w'.wx (some (a, cls, d))) H' (.e c fs) (.ref a) := ⟨a, cls, d, rfl, rfl, X'.1, X'.2.imp id fun ⟨dd, vs, z1, z2, z3, z4, z5⟩ => ⟨dd, vs, z1, z2, z3, z4, DatL.wx z5⟩⟩
        have Sx : SRel (P.wx (some (a, cls, d))) X.K (w'.wx (some (a, cls, d))) H' ρ' σ' := by
          refine ⟨S'.1, fun j b e nu => ?_⟩
          obtain ⟨v, e1, e2⟩ := S'.2 j b e nu
          refine ⟨v, e1, ?_⟩
          cases b with
          | v _ => exact Dat.wx e2
          | c _ => exact e2
          | u => exact trivial
          | e _ _ =>
            obtain ⟨a1, c1, d1, y1, _⟩ := e2
            rw [M'.xk, hx0] at y1
            cases y1
        have S4 : ∀ {h4 : Heap} {oe4 : Obj} {vs4 : Array Value}, Inv X pins σ' H' { s' with heap := h4 } → h4.get? a = some oe4 → oe4.data = .fields vs4 → Inv (X.suite a ((a, oe4) :: (X.pn ++ pins))) [] σ' H' { s' with heap := h4 } := fun J4 he4 hd4 => J4.suite he4 hd4 na nL nF
        cases n with
        | none =>
          cases i with
          | some _ => exact hn.elim
          | none =>
            refine codeAny_handlers_suite (HandSPX.lands_againZ fl3 fun h4 fl4 up4 => ?_)
            obtain ⟨oe4, vs4, he4, hz4, hd4⟩ := fl4.there
            refine wpAny_mono ((hsu a oe4 cls d (X.pn ++ pins) hz4 ⟨_, hd4⟩).run [] _ σ' H' _ (S4 (land fl4.1 (up3.trans up4)) he4 hd4) ⟨_, ρ', m', M'.wx, Sx, ps⟩) (fun f s6 hsp => ?_) (fun _ _ z => False.elim z)
            cases f with
            | next => obtain ⟨σ6, H6, I6, q6⟩ := hsp; exact ⟨σ6, H6, I6.unsuite ok, q6⟩
            | brk => obtain ⟨σ6, H6, I6, q6⟩ := hsp; exact ⟨σ6, H6, I6.unsuite ok, q6⟩
            | cont => obtain ⟨σ6, H6, I6, q6⟩ := hsp; exact ⟨σ6, H6, I6.unsuite ok, q6⟩
            | ret u => obtain ⟨v6, σ6, H6, I6, r6, q6⟩ := hsp; exact ⟨v6, σ6, H6, I6.unsuite ok, r6, q6⟩
        | some y =>
          cases i with
          | none => exact hn.elim
          | some j =>
            obtain ⟨hj, hln⟩ := hn
            refine codeAny_handlers_suite_as (HandSPX.lands_againZ fl3 fun h4 fl4 up4 => ?_)
            obtain ⟨oe4, vs4, he4, hz4, hd4⟩ := fl4.there
            refine store_ok (X := X.suite a ((a, oe4) :: (X.pn ++ pins))) (i := j) (v := .ref a) (S4 (land fl4.1 (up3.trans up4)) he4 hd4) hN hj (.inl hln) rfl (fun s5 I5 => ?_) (.inr hln)
            refine wpAny_mono ((hsu a oe4 cls d (X.pn ++ pins) hz4 ⟨_, hd4⟩).run [] s5 (σ'.set j (some (.ref a))) H' _ I5 ⟨_, ρ'.set j (.e c fs), m', M'.wx, Sx.set we, ps⟩) (fun f s6 hsp => ?_) (fun _ _ z => False.elim z)
            have go : ∀ {σ6 : L2.St} {H6 : Hp} {Q : Shared → Prop}, Inv (X.suite a ((a, oe4) :: (X.pn ++ pins))) [] σ6 H6 s6 → (∀ s7, Inv X pins (σ6.set j none) H6 s7 → Q s7) →
                wpAny (model X.prog X.w) X.A (do bindName X.env y .none; unbindBehindTheSuite X.env y pos') (fun _ s7 => Q s7) X.xe s6 := fun I6 hq => gone_ok (I6.unsuite ok) hN hj hln hq
            cases f with
            | next => obtain ⟨σ6, H6, I6, q6⟩ := hsp; exact go I6 fun s7 I7 => ⟨_, _, I7, q6⟩
            | brk => obtain ⟨σ6, H6, I6, q6⟩ := hsp; exact go I6 fun s7 I7 => ⟨_, _, I7, q6⟩
            | cont => obtain ⟨σ6, H6, I6, q6⟩ := hsp; exact go I6 fun s7 I7 => ⟨_, _, I7, q6⟩
            | ret u => obtain ⟨v6, σ6, H6, I6, r6, q6⟩ := hsp; exact go I6 fun s7 I7 => ⟨_, _, _, I7, r6, q6⟩
    · rw [if_neg hx] at p
      exact p.elim
def tryO (fb : List W → M → O) (fh : Nat → List D → List W → M → O) (fr : Bool) (ρ : List W) (m : M) : O := match fb ρ m with
  | .exc c fs ρ1 m1 => fh c fs ρ1 m1
  | .nx ρ1 m1 => .nx ρ1 m1
  | .rt w m1 => if fr then .bad else .rt w m1
  | .bad => .bad
/-- try: body, except .. -/
theorem s_try {body : List Stmt} {h₀ : ExceptHandler} {hds : List ExceptHandler} {fb : List W → M → O} {fh : Nat → List D → List W → M → O} {fr : Bool} (hs : X.stack = X.env :: X.outer) (hf : X.env.frame = some X.env.locals) (hN : X.N.Nodup) (hx0 : P.xi = none) (tk : Takes X Wx)
    (hb : ∀ (W : WX) (pn : List (Addr × Obj)) (xe : Value → Shared → Prop), Takes (X.tr pn xe) W → PassesOwn (model X.prog X.w) X.A X.env xe → PSl P (X.tr pn xe) W body fb) (hh : HdM P X (h₀ :: hds) fh) :
    PSm P X Wx (.Try body (h₀ :: hds) [] [] pos) (tryO fb fh fr) := by
  refine ⟨fun pins s σ H Dn I h => ?_⟩
  obtain ⟨w, ρ, m, hm, hs', p⟩ := h
  have ok := I.ok
  let W : WX := fun cls d σ' H' => ∃ w' ρ' m' c fs, MRel P X.K w' H' m' ∧ SRel P X.K w' H' ρ' σ' ∧ XRel P X.K w' H' c fs cls d ∧ PostO P X.K w' H' (fh c fs ρ' m') Dn Wx
  have pb : PostO P X.K w H (fb ρ m) Dn W := by
    unfold tryO at p
    cases e : fb ρ m with
    | nx ρ1 m1 => rw [e] at p; exact p
    | rt a m1 =>
      rw [e] at p
      cases fr with
      | true => exact p.elim
      | false => exact p
    | bad => rw [e] at p; exact p
    | exc c fs ρ1 m1 => rw [e] at p; exact fun cls d σ' w' H' x' M' S' X' => ⟨w', ρ1, m1, c, fs, M', S', X', PostO.ext p x'⟩
  refine wpAny_Try_except ?_
  refine wpAny_mono ((hb W (X.pn ++ pins) _ (fun u s' xx => ?_) PassesOwn.looking).run [] s σ H Dn (I.toTry _) ⟨w, ρ, m, hm, hs', pb⟩) (fun f s1 hsp => ?_) (fun e s1 he => he)
  · obtain ⟨a, B, sI, pins', σ', H', cls, d, rfl, J', nb, up, sky, na, os, ag, w', ρ', m', c, fs, M', S', X', p'⟩ := xx
    have J : Inv X pins σ' H' sI := J'.ofTry ok
    have sky' : Sky B (X.env :: X.outer) a (Zc cls d) X.env.locals s'.heap := hs ▸ sky
    show wpAny (model X.prog X.w) X.A (noteFrame (.ref a) X.env) _ _ _
    exact Sky.land Zc.steady (by rw [ok.frames, hs]) hf sky' fun h3 fl3 up3 => handle_run hs hf hN hx0 tk ok J nb na os ag fl3 (up.trans up3) hh M' S' X' p'
  · cases f with
    | next => obtain ⟨σ', H', J', q⟩ := hsp; exact wpAny_execs_nil ⟨σ', H', J'.ofTry ok, q⟩
    | brk => obtain ⟨σ', H', J', q⟩ := hsp; exact ⟨σ', H', J'.ofTry ok, q⟩
    | cont => obtain ⟨σ', H', J', q⟩ := hsp; exact ⟨σ', H', J'.ofTry ok, q⟩
    | ret u => obtain ⟨v, σ', H', J', r, q⟩ := hsp; exact ⟨v, σ', H', J'.ofTry ok, r, q⟩
end
end MP
end
section
set_option  maxHeartbeats  4000000
/-! own errors: made and raised; read in a suite. -/
namespace MP
open PySem PySem.Spec PyProof.Rows L2
/-! ### an error's class -/
def oexB (K : Fg) (C : Addr) : Bool := (match K.lookup C with
    | some ⟨.type t, _, .cls cd, sl⟩ => decide (t = "type") && (match cd.mro, sl.toList with
      | .ref C' :: bm, [_, _, _, _, some (.builtin n), _] => decide (C' = C) && (decide (n = "ValueError.__new__") && (!cd.hasDel && (cd.hasDict && PySem.HandSPX.refsVE bm)))
      | _, _ => false)
    | _ => false) && (He.eqO (PySem.W.findIn K (.ref C) "__setattr__") (some (some (.builtin "object.__setattr__"))) &&
  (decide (PySem.W.subIn K (.ref C) (.type "BaseException") = some true) && (decide (PySem.W.typeIn K (.ref C) = some (.type "type")) && PySem.W.keepIn K (.ref C))))
theorem oexB_ok {K : Fg} {C : Addr} (h : oexB K C = true) : OexC K C := by
  obtain ⟨h1, h⟩ := He.ba h
  obtain ⟨h2, h⟩ := He.ba h
  obtain ⟨h3, h⟩ := He.ba h
  obtain ⟨h4, h5⟩ := He.ba h
  refine ⟨?_, He.eqO_ok h2, of_decide_eq_true h3, of_decide_eq_true h4, h5⟩
  split at h1
  · rename_i t dd cd sl ho
    obtain ⟨ht, h1b⟩ := He.ba h1
    have et := of_decide_eq_true ht
    clear h1 ht
    subst et
    split at h1b
    · rename_i C' bm k0 k1 k2 k3 n k5 hm hs
      obtain ⟨z1, y1⟩ := He.ba h1b
      obtain ⟨z2, y2⟩ := He.ba y1
      obtain ⟨z3, y3⟩ := He.ba y2
      obtain ⟨z4, z5⟩ := He.ba y3
      have e1 : C' = C := of_decide_eq_true z1
      have e2 : n = "ValueError.__new__" := of_decide_eq_true z2
      have e3 : cd.hasDel = false := by simpa using z3
      clear z1 z2 z3 h1b y1 y2 y3
      obtain ⟨nm, bs, mro, ns, qn, hd, sn, sub, ab, col, del⟩ := cd
      dsimp only at hm e3 z4
      subst hm e1 e2 e3 z4
      have hsl : sl = #[k0, k1, k2, k3, some (.builtin "ValueError.__new__"), k5] := by
        obtain ⟨l⟩ := sl
        exact congrArg Array.mk hs
      subst hsl
      exact ⟨nm, qn, ns, bs, bm, sn, sub, ab, col, dd, k0, k1, k2, k3, k5, ho, z5⟩
    · cases h1b
  · cases h1
/-- the base class of the errors -/
def baseB (K : Fg) (B : Addr) : Bool := PySem.W.readsIn K B (.type "type") && (decide (PySem.W.specialIn K (.ref B) "__getattribute__" = some (some (.builtin "type.__getattribute__"))) &&
  (match PySem.W.findCls K (.ref B) (.type "type") "__init__" with
    | some (.val (.builtin n)) => decide (n = "ValueError.__init__")
    | _ => false))
structure BaseF (K : Fg) (B : Addr) : Prop where
  rd : ClX.CRead K B (.type "type")
  at_ : PySem.W.findCls K (.ref B) (.type "type") "__init__" = some (.val (.builtin "ValueError.__init__"))
theorem baseB_ok {K : Fg} {B : Addr} (h : baseB K B = true) : BaseF K B := by
  obtain ⟨h1, h⟩ := He.ba h
  obtain ⟨h2, h3⟩ := He.ba h
  refine ⟨⟨h1, of_decide_eq_true h2⟩, ?_⟩
  split at h3
  · rename_i n e
    rw [e, of_decide_eq_true h3]
  · cases h3
section
variable {X : Cx} {bn : Str} {B : Addr} {e : Expr} {es : List Expr} {ta : TA} {p1 p2 pos : Pos}
/-- B.__init__(self, ..), B the errors' base -/
theorem pe_bei (hg : Gl X bn) (hm : X.mg bn = some (.ref B)) (hdb : (bn == ("__debug__" : Str)) = false) (F : BaseF X.K B) (ha : PA X (e :: es) ta) (st : (e :: es).all noStar = true) (hl : (e :: es).length < 30) (hline : (p2.endLine == pos.line) = true) :
    PE X (.Call (.Attribute (.Name bn p1) "__init__" p2) (e :: es) [] pos) (tVeI X.K ta) := by
  refine ⟨fun pins s σ H Q I h => ?_⟩
  have st' := st
  rw [List.all_cons] at st'
  obtain ⟨st1, st2⟩ := Bool.and_eq_true_iff.mp st'
  refine PySem.W.methodCall_KW (ld_glob I hg hm ?_ hdb) (meth_eq (X := X) (o := .Name bn p1) (m := "__init__") rfl st hl hline)
  refine PySem.W.method_cls I.kIn F.rd.ga (PySem.W.cls_value I.kIn F.rd.rd F.at_ rfl ?_)
  refine PyProof.Rows.callWith_method1 (thn (ha.run pos pins _ σ H _ (I.tok _) h) fun us s1 ⟨vs, H1, I1, r1, a, C, ws, ev, hz, T, ea, q⟩ => ?_) (starEach_cons st1) (noStars_any st2)
  subst ev
  cases r1 with
  | @cons _ u0 _ ur ra rw' =>
    obtain rfl : u0 = Value.ref a := ra
    exact oinit_ok T I1 ea (by rw [← Paired.length rw', sizeLine_eq]; omega) fun s' J => ⟨.non, H1, J, rfl, q⟩
end
/-! ### an error's __init__ -/
def spI0 (C : Addr) : Sp := fun vs H Q _ => ∃ a, vs = [.ref a] ∧ H a = some (exo a C none) ∧ Q .non H
def spI1 (C : Addr) (f : Str) : Sp := fun vs H Q _ => ∃ a y, vs = [.ref a, y] ∧ H a = some (exo a C none) ∧ ∀ dx, H dx = none → dx ≠ a → Q .non (upd (upd H dx (exd dx [(f, y)])) a (exo a C (some dx)))
section
variable {Pr : Program} {w : World} {K : Fg} {mg : Str → Option Value} {base : Heap} {nm qual : Str} {params : Arguments} {scope : Scope} {f C B : Addr} {fd : FuncData} {bn sn gn fn : Str} {z : Str} {j1 : Nat} {p1 p2 p3 p4 p5 p6 p7 p8 p9 p10 : Pos}
def okN (x : Str) : Bool := !(x == ("__debug__" : Str)) && !(x == ("__classdict__" : Str))
theorem okN_ok {x : Str} (h : okN x = true) : (x == ("__debug__" : Str)) = false ∧ (x == ("__classdict__" : Str)) = false := by
  obtain ⟨h1, h2⟩ := He.ba h
  exact ⟨by simpa using h1, by simpa using h2⟩
theorem init0 (F : FunD K nm qual params [.Expr (.Call (.Attribute (.Name bn p1) "__init__" p2) [.Name sn p3, .Constant (.str z) j1 p4] [] p5) p6] scope [] [] f fd) (S : FnScope [sn] [sn] scope) (hb : scope.names.lookup bn = some .globalImplicit) (hm : mg bn = some (.ref B)) (hd : okN bn = true) (hd' : okN sn = true)
    (hl : (p2.endLine == p5.line) = true) (FB : BaseF K B) (T : OexC K C) : FnG Pr w K mg base (L2.CX Pr w) 1 f fd [sn] (spI0 C) := by
  refine fnG_of F S (fun vs H Q E h => by obtain ⟨a, rfl, _⟩ := h; rfl) (fun cdv A outer s H vs Q E hr h => ?_)
  obtain ⟨a, rfl, ea, q⟩ := h
  have hv : Vis scope sn := (S.par sn List.mem_cons_self).imp id .inl
  refine ⟨_, pss_cons (ps_expr (pe_bei (X := cxOf (L2.CX Pr w) Pr w K mg base [sn] qual scope f cdv A outer s H E) hb hm (okN_ok hd).1 FB (pa_cons (pe_var (i := 0) rfl hv (okN_ok hd').1 (okN_ok hd').2) (pa_cons pe_str pa_nil)) rfl (by simp) hl) rfl) pss_nil, ?_⟩
  exact ⟨.ref a, rfl, a, C, [.str z], rfl, by simp, T, ea, q⟩
theorem init1 (F : FunD K nm qual params [.Expr (.Call (.Attribute (.Name bn p1) "__init__" p2) [.Name sn p3, .Constant (.str z) j1 p4] [] p5) p6, .Assign [.Attribute (.Name sn p7) fn p8] (.Name gn p9) p10] scope [] [] f fd) (S : FnScope [sn, gn] [sn, gn] scope) (hb : scope.names.lookup bn = some .globalImplicit)
    (hm : mg bn = some (.ref B)) (hd : okN bn = true) (hd' : okN sn = true) (hd2 : okN gn = true) (hl : (p2.endLine == p5.line) = true) (FB : BaseF K B) (T : OexC K C) (hno : PySem.W.findIn K (.ref C) fn = some none) : FnG Pr w K mg base (L2.CX Pr w) 1 f fd [sn, gn] (spI1 C fn) := by
  refine fnG_of F S (fun vs H Q E h => by obtain ⟨a, y, rfl, _⟩ := h; rfl) (fun cdv A outer s H vs Q E hr h => ?_)
  obtain ⟨a, y, rfl, ea, q⟩ := h
  have hv : Vis scope sn := (S.par sn List.mem_cons_self).imp id .inl
  have hv2 : Vis scope gn := (S.par gn (by simp)).imp id .inl
  refine ⟨_, pss_cons (ps_expr (pe_bei (X := cxOf (L2.CX Pr w) Pr w K mg base [sn, gn] qual scope f cdv A outer s H E) hb hm (okN_ok hd).1 FB (pa_cons (pe_var (i := 0) rfl hv (okN_ok hd').1 (okN_ok hd').2) (pa_cons pe_str pa_nil)) rfl (by simp) hl) rfl)
    (pss_cons (ps_ost (f := fn) (pe_var (i := 0) rfl hv (okN_ok hd').1 (okN_ok hd').2) (pe_var (i := 1) rfl hv2 (okN_ok hd2).1 (okN_ok hd2).2)) pss_nil), ?_⟩
  exact ⟨.ref a, rfl, a, C, [.str z], rfl, by simp, T, ea, y, rfl, .ref a, rfl, a, C, rfl, T, hno, .inl ⟨ea, fun dx n1 n2 => q dx n1 n2⟩⟩
end
/-! ### made -/
section
variable {X : Cx} {C fI : Addr} {fd : FuncData}
theorem made_none {pins : List (Addr × Obj)} {σ : L2.St} {H1 : Hp} {Q : XK} {hp hp2 h2 : Heap} {g1 g2 : Array GenState} {d1 d2 : Drawn} {t1 t2 : Nat} {os1 os2 : OsState} {a : Addr} (T : Raises X (.ref C)) (I1 : Inv X pins σ H1 ⟨hp, g1, d1, t1, os1⟩)
    (ha : hp.objs.size ≤ a) (k : ∀ b o, hp.get? b = some o → hp2.get? b = some o) (un : Un (frs X.stack) [] (upd H1 a (exo a C none)) (upd H1 a (exo a C none)) hp2 h2) (hok : HOk X.prog X.w (upd H1 a (exo a C none)) h2) (ho : os2 = os1) (hb : AllBare g2)
    (q : Q (.ref C) none H1) : MkP X pins σ Q (.ref a) ⟨h2, g2, d2, t2, os2⟩ := by
  obtain ⟨t0, hoe⟩ := exo_at (H := upd H1 a (exo a C none)) hok upd_same
  have hn : H1 a = none := I1.hok.fresh ha
  obtain ⟨G, g1', g2'⟩ := restrict h2 fun b => decide (b ≠ a)
  have gk : ∀ b, b ≠ a → G.get? b = h2.get? b := fun b hb => g1' b (decide_eq_true hb)
  have ge : G.get? a = none := g2' a (by simp)
  have nha : ∀ {b : Addr} {o : Obj}, hp.get? b = some o → b ≠ a := fun z => Nat.ne_of_lt (Nat.lt_of_lt_of_le (Heap.lt_size z) ha)
  have up : ∀ {b : Addr}, b ≠ a → upd H1 a (exo a C none) b = H1 b := fun hb => upd_ne hb
  have U : Un (frs X.stack) [] H1 H1 hp G := {
    keep := fun b o z n hf hx => (gk b (nha z)).trans (un.keep b o (k b o z) ((up (nha z)).trans n) hf hx)
    slot := fun b o z n hf hx => by
      rw [gk b (nha z)]
      exact un.slot b o (k b o z) ((up (nha z)).trans n) hf hx
    free := fun b o z n hx => n
    there := fun b o z hx => by
      rw [gk b (nha z)]
      exact un.there b o (k b o z) hx
    tups := fun b xs z => z
    frzs := fun b o v z => z
    tbls := fun b ps z => ⟨#[], by rw [z]; simp⟩ }
  have hok3 : HOk X.prog X.w H1 G := fun b o z => by
    have hba : b ≠ a := fun e => by rw [e, hn] at z; cases z
    have z' : upd H1 a (exo a C none) b = some o := (up hba).trans z
    have un' : ∀ {c : Addr} {u : HO}, upd H1 a (exo a C none) c = some u → (∀ x, u = x → exo a C none ≠ u) → H1 c = some u := fun {c u} hc d => by
      by_cases e : c = a
      · rw [e, upd_same] at hc
        exact absurd (Option.some.inj hc) (d u rfl)
      · rw [upd_ne e] at hc
        exact hc
    refine (hok b o z').stay (fun c v hc y => ?_) (fun c hc => un' hc fun _ _ => exo_own) (fun c xs hc => un' hc fun _ _ => exo_tup)
    have hca : c ≠ a := by
      rcases hc with hc | hc
      · rw [hc]; exact hba
      · exact fun e => by rw [e, upd_same] at hc; exact exo_own (Option.some.inj hc)
    exact (gk c hca).trans y
  have J : Inv X pins σ H1 ⟨G, g2, d2, t2, os2⟩ := I1.call' (ch := []) ho U hok3 hb (fun b z => nomatch z)
  refine ⟨a, _, _, ⟨G, g2, d2, t2, os2⟩, _, .ref C, none, rfl, J, fun b o z => ?_, ge, hoe, ⟨rfl, rfl⟩, rfl, rfl, hn, rfl, hb, T, q⟩
  by_cases hba : b = a
  · rw [hba, ge] at z; cases z
  · exact (gk b hba).symm.trans z
theorem exc_go {ps : List Str} {sp : Sp} (T : OexC X.K C) (iC : PySem.W.findIn X.K (.ref C) "__init__" = some (some (.ref fI))) (tI : PySem.W.typeIn X.K (.ref fI) = some (.type "function")) (F1 : FnG X.prog X.w X.K X.mg X.base (L2.CX X.prog X.w) 1 fI fd ps sp) (hr : Rm 2 X.A) {Wx : WX} (tk : Takes X Wx)
    {pins : List (Addr × Obj)} {s : Shared} {σ : L2.St} {H : Hp} {us : List Value} {vs : List V} {Q : XK} (hus : us.length ≤ 100) (I : Inv X pins σ H s) (r : Vals vs us) (hb : ∀ (s' : Shared) (a : Addr), X.K.In s'.heap → BindsTo s' fd ⟨.ref a :: us, []⟩ (ps.zip (.ref a :: us)))
    (h : ∀ a, H a = none → sp (.ref a :: vs) (upd H a (exo a C none)) (fun v H2 => v = .non ∧ ((∃ (d : Addr) (fs : List (Str × V)), H2 a = some (exo a C (some d)) ∧ H2 d = some (exd d fs) ∧ H d = none ∧ Q (.ref C) (some d) (upd (del H2 a) d (.xd fs))) ∨ (H2 = upd H a (exo a C none) ∧ Q (.ref C) none H))) (fun _ _ _ => False)) :
    wpAny (model X.prog X.w) X.A (call (.ref C) us) (MkP X pins σ Q) X.xe s := by
  obtain ⟨nm, q, N, bs, bm, sn, sub, ab, col, dd, k0, k1, k2, k3, k5, hC, hbm⟩ := T.cls
  obtain ⟨hp, g, dr, tk', os⟩ := s
  have hsz : hp.objs.size ≤ hp.objs.size + 1 := Nat.le_succ _
  have hn : H (hp.objs.size + 1) = none := I.hok.fresh hsz
  have hq := h (hp.objs.size + 1) hn
  have kk : ∀ b o, hp.get? b = some o → ((hp.push (PySem.W.kdv_tup us)).push (PySem.HandSPX.excO C hp.objs.size)).get? b = some o := fun b o e => Heap.get?_push_of_some _ (Heap.get?_push_of_some _ e)
  have hget : ((hp.push (PySem.W.kdv_tup us)).push (PySem.HandSPX.excO C hp.objs.size)).get? (hp.objs.size + 1) = some (PySem.HandSPX.excO C hp.objs.size) := by heap_get
  have I2 : Inv X pins σ (upd H (hp.objs.size + 1) (exo (hp.objs.size + 1) C none)) ⟨(hp.push (PySem.W.kdv_tup us)).push (PySem.HandSPX.excO C hp.objs.size), g, dr, tk', os⟩ :=
    I.laid (t' := tk') (a := hp.objs.size + 1) (o := exo (hp.objs.size + 1) C none) (h' := (hp.push (PySem.W.kdv_tup us)).push (PySem.HandSPX.excO C hp.objs.size)) kk hsz (exo_ok hget)
  have hus' : us.length ≤ sizeLine := by rw [sizeLine_eq]; omega
  have r2 : Vals (V.ref (hp.objs.size + 1) :: vs) (Value.ref (hp.objs.size + 1) :: us) := .cons rfl r
  refine wpAny_call (PySem.HandSPX.call_own F.excBase_ValueError (fun Y => PySem.HandSPX.refsVE_contains Y bm hbm) (I.kIn _ _ hC) (PySem.W.looks_findIn I.kIn iC) (fun self => PySem.W.bind_fn I.kIn self tI) hus'
    (codeAny_mono (F1.run _ X.stack _ _ ⟨Value.ref (hp.objs.size + 1) :: us, []⟩ _ _ _ (fun _ _ _ => False) (hr.make C us []) (I2.env0.make C us []) (hb _ _ I2.kIn) r2 hq) fun res s' hq' => ?_))
  cases res with
  | error er => exact tk _ _ (XE.of_call I2 (fun cls d H' z => z.elim) hq')
  | ok fl =>
    cases fl with
    | ret u =>
      obtain ⟨v, H2, os2, bare2, un2, hok2, rv, ev, z⟩ := hq'
      subst ev
      obtain ⟨h2, g2, d2, t2, os'⟩ := s'
      refine ⟨rv, ?_⟩
      rcases z with ⟨d, fs, ea, ed, hd1, q2⟩ | ⟨rfl, q2⟩
      · exact mk_end (raises_own T.exC T.tyC) I hsz kk un2 hok2 os2 bare2 ea ed hd1 q2
      · exact made_none (raises_own T.exC T.tyC) I hsz kk un2 hok2 os2 bare2 q2
    | next => exact False.elim hq'
    | brk => exact False.elim hq'
    | cont => exact False.elim hq'
end
end MP
end
section
set_option  maxHeartbeats  4000000
/-! Calls with keywords; raise; an error's field. -/
namespace MP
open PySem PySem.Spec PyProof.Rows L2
section
variable {P : Prog} {X : Cx} {Wx : WX} {pos : Pos}
def kwNames : List Keyword → List Str → Bool
  | [], [] => true
  | ⟨some x, _, _⟩ :: r, y :: l => decide (x = y) && kwNames r l
  | _, _ => false
/-- keywords -/
structure PKr (P : Prog) (X : Cx) (Wx : WX) (kws : List Keyword) (ks : List Str) (f : List W → M → R (List W)) : Prop where
  pk : PK X kws (rA P X.K f Wx)
  nm : kwNames kws ks = true
theorem k_nil : PKr P X Wx [] [] fun _ m => .ok [] m := ⟨⟨fun pos pins s σ H Q I ⟨w, ρ, m, hm, hs, p⟩ => pk_nil.run pos pins s σ H Q I (p [] w H .rfl hm WsRel.nil)⟩, rfl⟩
theorem k_cons {kws : List Keyword} {ks : List Str} {f : List W → M → R (List W)} {a : Expr} {fa : List W → M → R W} {x : Str} {kp : Pos} (ha : PEB P X Wx a fa) (hr : PKr P X Wx kws ks f) : PKr P X Wx (⟨some x, a, kp⟩ :: kws) (x :: ks) fun ρ m => (fa ρ m).bnd fun w m1 => (f ρ m1).bnd fun ws m2 => .ok (w :: ws) m2 := by
  refine ⟨⟨fun pos pins s σ H Q I ⟨w, ρ, m, hm, hs, p⟩ => (pk_cons ha.pe hr.pk).run pos pins s σ H Q I ?_⟩, by unfold kwNames; rw [decide_eq_true rfl, hr.nm]; rfl⟩
  dsimp only at p
  refine ⟨w, ρ, m, hm, hs, (p.bnd (WRel P X.K)).mono fun z H1 ⟨x, w1, m1, X1, M1, R1, p1⟩ => ?_⟩
  refine ⟨w1, ρ, m1, M1, hs.mono X1, (p1.bnd (WsRel P X.K)).mono fun zs H2 ⟨xs, w2, m2, X2, M2, R2, p2⟩ => ?_⟩
  exact p2 _ w2 H2 .rfl M2 (WsRel.cons (R1.mono X2) R2)
theorem kw_facts {env : Env} : ∀ {kws : List Keyword} {ks : List Str}, kwNames kws ks = true → (backToKw pos (keywordEach kws env)).all (·.1.isSome) = true ∧ (backToKw pos (keywordEach kws env)).filterMap (·.1) = ks ∧ (backToKw pos (keywordEach kws env)).any (·.1.isNone) = false
  | [], [], _ => ⟨rfl, rfl, rfl⟩
  | [], _ :: _, h => nomatch h
  | ⟨none, _, _⟩ :: _, [], h => nomatch h
  | ⟨some _, _, _⟩ :: _, [], h => nomatch h
  | ⟨none, _, _⟩ :: _, _ :: _, h => nomatch h
  | ⟨some x, e, p⟩ :: r, y :: l, h => by
    obtain ⟨h1, h2⟩ := He.ba h
    obtain ⟨z1, z2, z3⟩ := kw_facts (env := env) h2
    have e1 : x = y := of_decide_eq_true h1
    subst e1
    have e0 : backToKw pos (keywordEach (⟨some x, e, p⟩ :: r) env) = (some x, do let v ← eval e env; standAt pos; pure v) :: backToKw pos (keywordEach r env) := rfl
    rw [e0]
    refine ⟨?_, ?_, ?_⟩
    · rw [List.all_cons, z1]; rfl
    · show x :: (backToKw pos (keywordEach r env)).filterMap (·.1) = x :: l
      rw [z2]
    · rw [List.any_cons, z3]; rfl
/-- a call's arguments, positional and by keyword, then the call -/
theorem cwk_run {es : List Expr} {kws : List Keyword} {ks : List Str} {fl fk : List W → M → R (List W)} {fv : Value} {first : List Value} {Rp : Value → Shared → Prop} {γ δ : Type} {rel' : Wd → Hp → γ → δ → Prop} {Q : δ → Hp → Prop} (h : PAr P X Wx es fl) (hkk : PKr P X Wx kws ks fk) (hk : PySem.W.keepIn X.K fv = true)
    {g : List W → List W → M → R γ} {pins : List (Addr × Obj)} {s : Shared} {σ : L2.St} {H : Hp} {w : Wd} {ρ : List W} {m : M}
    (I : Inv X pins σ H s) (hm : MRel P X.K w H m) (hs : SRel P X.K w H ρ σ) (p : Post P X.K rel' w H ((fl ρ m).bnd fun ws m1 => (fk ρ m1).bnd fun us m2 => g ws us m2) Q (fun cls d H' => Wx cls d σ H'))
    (hc : ∀ us kus s1 vs kvs H1 as kas w1 m1, Inv X pins σ H1 s1 → Vals vs us → Vals kvs kus → MRel P X.K w1 H1 m1 → SRel P X.K w1 H1 ρ σ → WsRel P X.K w1 H1 as vs → WsRel P X.K w1 H1 kas kvs → Ext w H w1 H1 → Post P X.K rel' w1 H1 (g as kas m1) Q (fun cls d H' => Wx cls d σ H') →
      wpAny (model X.prog X.w) X.A (call fv (first ++ us) (ks.zip kus)) Rp X.xe s1) :
    wpAny (model X.prog X.w) X.A (callWith pos fv first (backTo pos (starEach es X.env)) (backToKw pos (keywordEach kws X.env))) Rp X.xe s := by
  obtain ⟨z1, z2, z3⟩ := kw_facts (pos := pos) (env := X.env) hkk.nm
  cases es with
  | nil =>
    rw [h.nil rfl] at p
    refine PySem.W.callWith_KW0 (h₀ := X.base) I.ok.mod.kin hk z1 (thn (hkk.pk.run pos pins s σ H _ I (rA_step p hm hs)) fun kus s1 ⟨kvs, H1, I1, r, kas, w1, m1, M1, S1, R1, X1, p1⟩ => ⟨I1.kIn, ?_⟩) (by rw [z3]; rfl)
    rw [z2]
    exact hc [] kus s1 [] kvs H1 [] kas w1 m1 I1 .nil r M1 S1 WsRel.nil R1 X1 p1
  | cons e es =>
    have st := h.st
    have sa := noStars_any (env := X.env) (pos := pos) st
    rw [List.all_cons] at st
    obtain ⟨st1, st2⟩ := Bool.and_eq_true_iff.mp st
    refine PySem.W.callWith_KW (h₀ := X.base) I.ok.mod.kin hk z1 (thn (h.pa.run pos pins s σ H _ I (rA_step p hm hs)) fun us s1 ⟨vs, H1, I1, r, as, w1, m1, M1, S1, R1, X1, p1⟩ => ?_) (by rw [sa, z3]; rfl) (starEach_cons st1)
    refine thn (hkk.pk.run pos pins s1 σ H1 _ I1 (rA_step p1 M1 S1)) fun kus s2 ⟨kvs, H2, I2, r2, kas, w2, m2, M2, S2, R2, X2, p2⟩ => ⟨I2.kIn, ?_⟩
    rw [z2]
    exact hc us kus s2 vs kvs H2 as kas w2 m2 I2 r r2 M2 S2 (R1.mono X2) R2 (X1.trans X2) p2
end
section
variable {P : Prog} {hd : Hd} {X : Cx} {Wx : WX} {k : Nat} {pos apos p0 : Pos} {es : List Expr} {kws : List Keyword} {ks : List Str} {fl fk : List W → M → R (List W)} {o : Expr} {fo : List W → M → R W}
/-- f(.., k = ..) -/
theorem e_callk {x : Str} {f : Nat} {d : FnDef} (g : CallOk P hd X k f d false) (hP : hd.P = P) (hf : P.fn f = some d) (hr : Rm k X.A) (tk : Takes X Wx) (hg : Gl X x) (hm : X.mg x = some (.ref (fA X.K d.at_))) (hk : PySem.W.keepIn X.K (.ref (fA X.K d.at_)) = true) (hdb : (x == ("__debug__" : Str)) = false)
    (h : PAr P X Wx es fl) (hkk : PKr P X Wx kws ks fk) : PEB P X Wx (.Call (.Name x p0) es kws pos) fun ρ m => (fl ρ m).bnd fun ws m1 => (fk ρ m1).bnd fun us m2 => match fnArgsK P f ws ks us with
    | some as => hd.call f false as m2
    | none => .bad := by
  refine .of ⟨fun pins s σ H Q I q => ?_⟩ fun _ => rfl
  obtain ⟨w, ρ, m, hm', hs, p⟩ := q
  refine wpAny_Call_Name_kw (ld_glob I hg hm ?_ hdb)
  refine cwk_run h hkk hk I hm' hs p fun us kus s1 vs kvs H1 as kas w1 m1 I1 r rk M1 S1 R1 Rk X1 p1 => ?_
  cases e : fnArgsK P f as ks kas with
  | none => rw [e] at p1; exact p1.elim
  | some as1 =>
    rw [e] at p1
    unfold fnArgsK at e
    rw [hf] at e
    exact call_runK g (by rw [hP]; exact hf) hr tk I1 M1 R1 r Rk rk e p1
/-- C(.., k = ..) -/
theorem e_makek {x : Str} {c : Nat} {cd : ClsDef} {d : FnDef} (hP : hd.P = P) (hc : P.cls[c]? = some cd) (hf : P.fn cd.init = some d) (nd' : d.ps.Nodup) (g : CallOk P hd X k cd.init d false) (mk : Mk X.K (ca P X.K c) (fA X.K d.at_)) (hr : Rm (k + 1) X.A) (tk : Takes X Wx)
    (hg : Gl X x) (hm : X.mg x = some (.ref (ca P X.K c))) (hdb : (x == ("__debug__" : Str)) = false) (h : PAr P X Wx es fl) (hkk : PKr P X Wx kws ks fk) : PEB P X Wx (.Call (.Name x p0) es kws pos) fun ρ m => (fl ρ m).bnd fun ws m1 => (fk ρ m1).bnd fun us m2 => mkObjK hd c ws ks us m2 := by
  refine .of ⟨fun pins s σ H Q I q => ?_⟩ fun _ => rfl
  obtain ⟨w, ρ, m, hm', hs, p⟩ := q
  refine wpAny_Call_Name_kw (ld_glob I hg hm ?_ hdb)
  exact cwk_run h hkk mk.kp I hm' hs p fun us kus s1 vs kvs H1 as kas w1 m1 I1 r rk M1 S1 R1 Rk X1 p1 => make_runK hP hc hf nd' g mk hr tk I1 M1 R1 r Rk rk p1
theorem mformk {es : List Expr} (st : es.all noStar = true) (hkk : kwNames kws ks = true) (hl : es.length + kws.length < 28) : methodCallForm (es.length + kws.length) (backTo pos (starEach es X.env)) (backToKw pos (keywordEach kws X.env)) = true := by
  obtain ⟨z1, z2, z3⟩ := kw_facts (pos := pos) (env := X.env) hkk
  unfold methodCallForm
  have h1 : (backTo pos (starEach es X.env)).all (fun x => !x.1) = true := by
    rw [List.all_eq_true]
    intro z hz
    have q : z.1 = false := by
      cases e : z.1 with
      | false => rfl
      | true =>
        have : (backTo pos (starEach es X.env)).any (·.1) = true := List.any_eq_true.mpr ⟨z, hz, e⟩
        rw [noStars_any st] at this
        cases this
    rw [q]
    rfl
  have h3 : es.length + kws.length + (if (backToKw pos (keywordEach kws X.env)).isEmpty = true then 0 else 1) < 30 := by split <;> omega
  rw [h1, z1, Bool.true_and, Bool.true_and]
  exact decide_eq_true h3
theorem methk_eq {m : Str} (hb : plainBase o = true) (st : es.all noStar = true) (hkk : kwNames kws ks = true) (hl : es.length + kws.length < 28) (hline : (apos.endLine == pos.line) = true) :
    eval (.Call (.Attribute o m apos) es kws pos) X.env = (do
      let ov ← eval o X.env
      standAt apos.atName
      let (f, first) ← holding [ov] (getMethod ov m (plainOf o X.env))
      callWith pos f first (backTo pos (starEach es X.env)) (backToKw pos (keywordEach kws X.env))) := by
  rw [show eval (.Call (.Attribute o m apos) es kws pos) X.env = (do
    let ov ← attributeBase o m X.env (eval o X.env)
    standAt apos.atName
    methodCall o m apos pos X.env ov (es.length + kws.length) (backTo pos (starEach es X.env)) (backToKw pos (keywordEach kws X.env))) from rfl, base_eq hb]
  refine congrArg _ (funext fun ov => congrArg _ (funext fun _ => ?_))
  exact mcall_line (mformk st hkk hl) hline
/-- o.m(.., k = ..) -/
theorem e_methk {mn : Str} {c f : Nat} {d : FnDef} (g : CallOk P hd X k f d false) (hP : hd.P = P) (hf : P.fn f = some d) (hr : Rm k X.A) (tk : Takes X Wx) (cl : Cls X.K (ca P X.K c)) (mt : Meth X.K (ca P X.K c) mn (fA X.K d.at_)) (hn : mn ∉ fnm P c)
    (hb : plainBase o = true) (hl : es.length + kws.length < 28) (hline : (apos.endLine == pos.line) = true) (ho : PEB P X Wx o fo) (h : PAr P X Wx es fl) (hkk : PKr P X Wx kws ks fk) :
    PEB P X Wx (.Call (.Attribute o mn apos) es kws pos) fun ρ m => (fo ρ m).bnd fun x m1 => if isObj c m1 x then (fl ρ m1).bnd fun ws m2 => (fk ρ m2).bnd fun us m3 => match fnArgsK P f (x :: ws) ks us with
    | some as => hd.call f false as m3
    | none => .bad else .bad := by
  refine .of ⟨fun pins s σ H Q I q => ?_⟩ fun _ => rfl
  obtain ⟨w, ρ, m, hm', hs, p⟩ := q
  refine PySem.W.methodCall_KW (pl := plainOf o X.env) (thn (ho.pe.run pins s σ H _ I (rE_step p hm' hs)) fun u s1 ⟨z, H1, I1, r1, x, w1, m1, M1, S1, R1, X1, p1⟩ => ?_) (methk_eq hb h.st hkk.nm hl hline)
  by_cases hx : isObj c m1 x = true
  · rw [if_pos hx] at p1
    obtain ⟨a, dx, vs, rfl, ha, hy⟩ := obj_at M1 R1 hx
    obtain rfl : u = Value.ref a := r1
    refine getmeth_ok I1 ha cl mt (lookup_none_mem fun z => hn (hy _ z)) ?_
    refine cwk_run (first := [.ref a]) h hkk mt.kp I1 M1 S1 p1 fun us kus s2 vs2 kvs H2 as kas w2 m2 I2 r2 rk M2 S2 R2 Rk X2 p2 => ?_
    cases e : fnArgsK P f (x :: as) ks kas with
    | none => rw [e] at p2; exact p2.elim
    | some as1 =>
      rw [e] at p2
      unfold fnArgsK at e
      rw [hf] at e
      exact call_runK g (by rw [hP]; exact hf) hr tk I2 M2 (WsRel.cons (R1.mono X2) R2) (show Vals (V.ref a :: vs2) (Value.ref a :: us) from .cons rfl r2) Rk rk e p2
  · rw [if_neg hx] at p1; exact p1.elim
end
/-! ### raise -/
/-- what is known of an error's class, around any body -/
structure ExF (P : Prog) (K : Fg) (mg : Str → Option Value) (c : Nat) : Prop where
  ox : OexC K (ca P K c)
  xf : XfC K (ca P K c)
  no : ∀ x ∈ fnm P c, PySem.W.findIn K (.ref (ca P K c)) x = some none
  make : ∃ (fI : Addr) (fd : FuncData) (ps : List Str), PySem.W.findIn K (.ref (ca P K c)) "__init__" = some (some (.ref fI)) ∧ PySem.W.typeIn K (.ref fI) = some (.type "function") ∧ ps.length = (fnm P c).length + 1 ∧
    (∀ (s : Shared) (us : List Value), K.In s.heap → us.length = ps.length → BindsTo s fd ⟨us, []⟩ (ps.zip us)) ∧
    ((fnm P c = [] ∧ ∀ Pr w base, FnG Pr w K mg base (L2.CX Pr w) 1 fI fd ps (spI0 (ca P K c))) ∨ ∃ f, fnm P c = [f] ∧ ∀ Pr w base, FnG Pr w K mg base (L2.CX Pr w) 1 fI fd ps (spI1 (ca P K c) f))
section
variable {P : Prog} {X : Cx} {Wx : WX} {pos p0 p1 : Pos} {es : List Expr} {fl : List W → M → R (List W)}
def raiseO (P : Prog) (c : Nat) (ρ : List W) (ws : List W) (m1 : M) : O := match fzs P m1 ws with
    | some (ds, m2) => if ds.length = P.nf c then .exc c ds ρ m2 else .bad
    | none => .bad
theorem s_raise {x : Str} {c : Nat} (F : ExF P X.K X.mg c) (hc : X.calm = true) (hr : Rm 2 X.A) (tk : Takes X Wx) (hg : Gl X x) (hm : X.mg x = some (.ref (ca P X.K c))) (hdb : (x == ("__debug__" : Str)) = false) (h : PAr P X Wx es fl) (hl : es.length ≤ 100) :
    PSm P X Wx (.Raise (some (.Call (.Name x p0) es [] p1)) none pos) fun ρ m => (fl ρ m).thn ρ fun ws m1 => raiseO P c ρ ws m1 := by
  have key : PMk X (.Call (.Name x p0) es [] p1) (fun σ H Q => ∃ w ρ m, MRel P X.K w H m ∧ SRel P X.K w H ρ σ ∧ ∃ Dn, PostO P X.K w H ((fl ρ m).thn ρ fun ws m1 => raiseO P c ρ ws m1) Dn Wx ∧ ∀ cls d H', Wx cls d σ H' → Q cls d H') := by
    intro pins s σ H Q I q
    obtain ⟨w, ρ, m, hm', hs, Dn, p, hQ⟩ := q
    refine wpAny_Call_Name_kw (ld_glob I hg hm ?_ hdb)
    have pp : Post P X.K (fun w1 H1 (a : List W) (b : List V) => WsRel P X.K w1 H1 a b ∧ ∃ m1, MRel P X.K w1 H1 m1 ∧ SRel P X.K w1 H1 ρ σ ∧ PostO P X.K w1 H1 (raiseO P c ρ a m1) Dn Wx) w H (fl ρ m) (fun _ _ => True) (fun cls d H' => Wx cls d σ H') := by
      cases e : fl ρ m with
      | bad => rw [e] at p; exact p
      | exc c' fs m1 => rw [e] at p; exact fun cls d w' H' y z t => p cls d σ w' H' y z (hs.mono y) t
      | ok ws m1 => exact fun _ _ _ _ _ _ => trivial
    have run : ∀ us s1 vs H1 as w1 m1, Inv X pins σ H1 s1 → Vals vs us → MRel P X.K w1 H1 m1 → SRel P X.K w1 H1 ρ σ → WsRel P X.K w1 H1 as vs → PostO P X.K w1 H1 (raiseO P c ρ as m1) Dn Wx → wpAny (model X.prog X.w) X.A (call (.ref (ca P X.K c)) us) (MkP X pins σ Q) X.xe s1 := by
      intro us s1 vs H1 as w1 m1 I1 r M1 S1 R1 p1
      unfold raiseO at p1
      cases ef : fzs P m1 as with
      | none => rw [ef] at p1; exact p1.elim
      | some q =>
        obtain ⟨ds, m2⟩ := q
        rw [ef] at p1
        dsimp only at p1
        by_cases hn : ds.length = P.nf c
        · rw [if_pos hn] at p1
          obtain ⟨w2, X2, M2, D2⟩ := fzs_rel M1 R1 ef
          rw [fnm_len] at hn
          obtain ⟨fI, fd, ps, iC, tI, hps, hb, alt⟩ := F.make
          have hvl : vs.length = (fnm P c).length := D2.length.trans hn
          have hul : us.length = (fnm P c).length := by rw [← Paired.length r]; exact hvl
          rcases alt with ⟨e0, F1⟩ | ⟨f, e1, F1⟩
          · rw [e0] at hvl hul hn
            have eu : us = [] := List.eq_nil_of_length_eq_zero hul
            have ev : vs = [] := List.eq_nil_of_length_eq_zero hvl
            have ed : ds = [] := List.eq_nil_of_length_eq_zero hn
            subst eu ev ed
            refine exc_go F.ox iC tI (F1 _ _ _) hr tk (by simp) I1 .nil (fun s' a kx => hb s' [.ref a] kx (by rw [hps, e0]; rfl)) fun a na => ⟨a, rfl, upd_same, rfl, .inr ⟨rfl, ?_⟩⟩
            exact hQ _ _ _ (p1 _ none σ w2 H1 X2 M2 (S1.mono X2) ⟨rfl, .inl rfl⟩)
          · rw [e1] at hvl hul hn
            match us, vs, ds, hul, hvl, hn, r, D2, p1 with
            | [u], [v], [d], _, _, _, r, D2, p1 =>
              refine exc_go F.ox iC tI (F1 _ _ _) hr tk (by simp) I1 r (fun s' a kx => hb s' [.ref a, u] kx (by rw [hps, e1]; rfl)) fun a na => ⟨a, v, rfl, upd_same, fun dx n1 n2 => ⟨rfl, .inl ⟨dx, [(f, v)], upd_same, ?_, ?_, ?_⟩⟩⟩
              · rw [upd_ne n2, upd_same]
              · rw [upd_ne n2] at n1; exact n1
              · rw [upd_ne n2] at n1
                have eH : upd (del (upd (upd (upd H1 a (exo a (ca P X.K c) none)) dx (exd dx [(f, v)])) a (exo a (ca P X.K c) (some dx))) a) dx (.xd [(f, v)]) = upd H1 dx (.xd [(f, v)]) := by
                  funext b
                  by_cases hb1 : b = dx
                  · rw [hb1, upd_same, upd_same]
                  · rw [upd_ne hb1, upd_ne hb1]
                    by_cases hb2 : b = a
                    · rw [hb2, del_same, na]
                    · rw [del_ne hb2, upd_ne hb2, upd_ne hb1, upd_ne hb2]
                rw [eH]
                have x3 := Ext.add (o := .xd [(f, v)]) M2 n1
                refine hQ _ _ _ (p1 _ (some dx) σ (w2.add dx) _ (X2.trans x3) (M2.add n1) ((S1.mono X2).mono x3) ⟨rfl, .inr ⟨dx, [(f, v)], rfl, .inr rfl, upd_same, e1.symm, ?_⟩⟩)
                exact DatL.mono x3.fro x3.keep D2
        · rw [if_neg hn] at p1; exact p1.elim
    have pa : Post P X.K (WsRel P X.K) w H (fl ρ m) (fun vs H1 => ∃ as w1 m1, MRel P X.K w1 H1 m1 ∧ SRel P X.K w1 H1 ρ σ ∧ WsRel P X.K w1 H1 as vs ∧ PostO P X.K w1 H1 (raiseO P c ρ as m1) Dn Wx) (fun cls d H' => Wx cls d σ H') :=
      (PostO.thn p hs (WsRel P X.K)).mono fun b H1 ⟨a, w1, m1, x1, M1, S1, R1, p1⟩ => ⟨a, w1, m1, M1, S1, R1, p1⟩
    cases es with
    | nil =>
      have hf := h.nil rfl
      rw [hf] at p
      exact PySem.W.callWith_K0 I.kIn F.ox.kC (run [] s [] H [] w m I .nil hm' hs WsRel.nil p)
    | cons e es =>
      have st := h.st
      rw [List.all_cons] at st
      obtain ⟨st1, st2⟩ := Bool.and_eq_true_iff.mp st
      refine PySem.W.callWith_K (h₀ := X.base) I.ok.mod.kin F.ox.kC (thn (h.pa.run p1 pins s σ H _ I ⟨w, ρ, m, hm', hs, pa⟩) fun us s1 ⟨vs, H1, I1, r, as, w1, m1, M1, S1, R1, p1'⟩ => ⟨I1.kIn, run us s1 vs H1 as w1 m1 I1 r M1 S1 R1 p1'⟩) (starEach_cons st1) (noStars_any st2)
  refine PS.imp (ps_raise hc tk key) fun D σ H ⟨w, ρ, m, hm', hs, p⟩ => ⟨w, ρ, m, hm', hs, D, p, fun _ _ _ z => z⟩
/-- e.f in a suite -/
theorem e_efld {i k : Nat} {n x : Str} {pn : Pos} (hF : ∀ c, isExc P c = true → fnm P c ≠ [] → ExF P X.K X.mg c) (nd : ∀ c, (fnm P c).Nodup) (sx : ∀ a cls d, P.xi = some (a, cls, d) → ∃ oe, Zc cls d oe ∧ (∃ vs, oe.data = .fields vs) ∧ (a, oe) ∈ X.pn)
    (hN : X.N[i]? = some n) (hv : Vis X.env.scope n) (ok : okN n = true) : PEB P X Wx (.Attribute (.Name n pn) x pos) (efldR P i k x) := by
  refine .of ⟨fun pins s σ H Q I h => ?_⟩ fun _ => rfl
  obtain ⟨w, ρ, m, hm, hs, p⟩ := h
  unfold efldR at p
  cases e : ρ[i]? with
  | none => rw [e] at p; exact p.elim
  | some z =>
    rw [e] at p
    cases z with
    | e c fs =>
      dsimp only at p
      by_cases hx : (isExc P c && fldIs P c k x) = true
      · rw [if_pos hx] at p
        obtain ⟨hx1, hx2⟩ := He.ba hx
        have hk : (fnm P c)[k]? = some x := by
          unfold fldIs at hx2
          unfold fnm
          cases q : P.cls[c]? with
          | none => rw [q] at hx2; cases hx2
          | some d => rw [q] at hx2; exact of_decide_eq_true hx2
        cases ef : fs[k]? with
        | none => rw [ef] at p; exact p.elim
        | some d =>
          rw [ef] at p
          obtain ⟨v, h1, a, cls, dd, hxi, rfl, hcls, alt⟩ := hs.2 i _ e (by intro z; cases z)
          rcases alt with alt | ⟨da, vs, ed, hf, hd, hn, dl⟩
          · rw [alt] at ef; cases ef
          subst ed hcls
          obtain ⟨oe, hz, ⟨fv, hfv⟩, hpn⟩ := sx a _ _ (hm.xk.symm.trans hxi)
          have hxm : x ∈ fnm P c := List.mem_of_getElem? hk
          have T := hF c hx1 (fun z => by rw [z] at hxm; cases hxm)
          refine attr_of (e := .Name n pn) rfl ?_
          refine thn ((pe_var (X := X) (pos := pn) hN hv (okN_ok ok).1 (okN_ok ok).2).run pins s σ H (fun y H1 => y = .ref a ∧ H1 = H) I ⟨_, h1, rfl, rfl⟩) fun u s1 ⟨y, H1, I1, ry, ey, eH⟩ => ?_
          subst ey eH
          obtain rfl : u = Value.ref a := ry
          obtain ⟨ha, _⟩ := I1.pin (a, oe) (List.mem_append_left _ hpn)
          have ob : ObjOk X.prog X.w H1 s1.heap da (.xd vs) := I1.hok da _ hd
          obtain ⟨mA, hns, hr⟩ := ob
          obtain ⟨od, ho, hl⟩ := lookIn_ns hns
          obtain ⟨v2, hv2, dv2⟩ := dl.get ef
          have lk : vs.lookup x = some v2 := lookup_get (by rw [hn]; exact nd c) (by rw [hn]; exact hk) hv2
          obtain ⟨u2, hu2, ru2⟩ := RelO.some_of (v := v2) (o := mA x) (lk ▸ hr x)
          have J : PySem.W.InstAt s1.heap a oe (ca P X.K c) (some od) := ⟨ha, hz.1, by unfold PySem.W.notCls; rw [hfv] <;> rfl, by rw [hz.2]; exact ho⟩
          exact HandSPX.exc_get I1.kIn J T.xf.ga T.xf.gg T.xf.exC (PySem.W.findObj_own T.xf.hdC (T.no x hxm) rfl (by rw [hl, hu2])) (handed_of ru2) ⟨v2, H1, I1.tok _, ru2, p v2 w H1 .rfl hm dv2⟩
      · rw [if_neg hx] at p; exact p.elim
    | _ => exact p.elim
end
end MP
end
section
set_option  maxHeartbeats  4000000
/-! Targets by a test; comprehensions as expressions and assigned; pairs stored; global constants. -/
namespace MP
open PySem PySem.Spec PyProof.Rows L2
def visB (sc : Scope) (x : Str) : Bool := match sc.names.lookup x with
  | some .local => true
  | some .cell => true
  | some .free => true
  | _ => false
theorem visB_ok {sc : Scope} {x : Str} (h : visB sc x = true) : Vis sc x := by
  unfold visB at h
  split at h
  · exact .inl (by assumption)
  · exact .inr (.inl (by assumption))
  · exact .inr (.inr (by assumption))
  · cases h
def locB (fnx : Bool) (sc : Scope) (x : Str) : Bool := match sc.names.lookup x with
  | some .local => true
  | some .cell => fnx
  | _ => false
theorem locB_ok {fnx : Bool} {sc : Scope} {x : Str} (h : locB fnx sc x = true) : Loc sc x ∧ (fnx = true ∨ sc.names.lookup x = some .local) := by
  unfold locB at h
  split at h
  · exact ⟨.inl (by assumption), .inr (by assumption)⟩
  · exact ⟨.inr (by assumption), .inl h⟩
  · cases h
def isLoc (sc : Scope) (x : Str) : Bool := match sc.names.lookup x with
  | some .local => true
  | _ => false
theorem isLoc_ok {sc : Scope} {x : Str} (h : isLoc sc x = true) : sc.names.lookup x = some .local := by
  unfold isLoc at h
  split at h
  · assumption
  · cases h
def glB (sc : Scope) (x : Str) : Bool := match sc.names.lookup x with
  | some .globalImplicit => true
  | _ => false
theorem glB_ok {sc : Scope} {x : Str} (h : glB sc x = true) : sc.names.lookup x = some .globalImplicit := by
  unfold glB at h
  split at h
  · assumption
  · cases h
def nmB (N : List Str) (i : Nat) (x : Str) : Bool := decide (N[i]? = some x)
theorem nmB_ok {N : List Str} {i : Nat} {x : Str} (h : nmB N i x = true) : N[i]? = some x := of_decide_eq_true h
def isFun : ScopeKind → Bool
  | .function => true
  | _ => false
theorem isFun_ok {k : ScopeKind} (h : isFun k = true) : k = .function := by
  cases k <;> first | rfl | cases h
/-! ### targets -/
def chkTgs (N : List Str) (fnx : Bool) (sc : Scope) : List Nat → List Expr → Bool
  | [], [] => true
  | i :: l, .Name x _ :: es => nmB N i x && (locB fnx sc x && chkTgs N fnx sc l es)
  | _, _ => false
def chkTg (N : List Str) (fnx : Bool) (sc : Scope) : Tg → Expr → Bool
  | .n i, .Name x _ => nmB N i x && locB fnx sc x
  | .t l, .Tuple es _ _ => chkTgs N fnx sc l es
  | _, _ => false
section
variable {P : Prog} {X : Cx} {Wx : WX} {pos : Pos}
theorem tgs_ok {fnx : Bool} (hN : X.N.Nodup) (hf : fnx = true → ∀ x, X.fn x = true) : ∀ {l : List Nat} {es : List Expr}, chkTgs X.N fnx X.env.scope l es = true → PGs X es (tgRs l) ∧ es.length = l.length ∧ ∀ e ∈ es, ∃ x p, e = .Name x p
  | [], [], _ => ⟨pgs_nil, rfl, fun _ h => nomatch h⟩
  | [], _ :: _, h => nomatch h
  | _ :: _, [], h => nomatch h
  | i :: l, e :: es, h => by
    cases e with
    | Name x p =>
      obtain ⟨h1, h⟩ := He.ba h
      obtain ⟨h2, h3⟩ := He.ba h
      obtain ⟨q1, q2, q3⟩ := tgs_ok hN hf h3
      obtain ⟨z1, z2⟩ := locB_ok h2
      refine ⟨pgs_cons (pg_name hN (nmB_ok h1) z1 (z2.imp (fun z => hf z x) id)) q1, congrArg Nat.succ q2, fun e he => ?_⟩
      rcases List.mem_cons.mp he with rfl | he
      · exact ⟨x, p, rfl⟩
      · exact q3 e he
    | _ => cases h
theorem tg_ok {fnx : Bool} {g : Tg} {tg : Expr} (hc : X.calm = true) (hN : X.N.Nodup) (hf : fnx = true → ∀ x, X.fn x = true) (h : chkTg X.N fnx X.env.scope g tg = true) : PG X tg (tgR X.K g) := by
  cases g with
  | n i =>
    cases tg with
    | Name x p =>
      obtain ⟨h1, h2⟩ := He.ba h
      obtain ⟨z1, z2⟩ := locB_ok h2
      exact pg_name hN (nmB_ok h1) z1 (z2.imp (fun z => hf z x) id)
    | _ => cases h
  | t l =>
    cases tg with
    | Tuple es k p =>
      obtain ⟨q1, q2, q3⟩ := tgs_ok hN hf h
      obtain ⟨a1, a2⟩ := assignEach_names (env := X.env) q3
      exact pg_tup hc q1 (a1.trans q2) a2
    | _ => cases h
/-! ### comprehensions -/
def ownOf (N : List Str) (g : Tg) : List (Str × Nat) := g.vars.map fun i => (N.getD i "", i)
theorem ownOf_ix (N : List Str) (g : Tg) : (ownOf N g).map (·.2) = g.vars := by
  unfold ownOf
  rw [List.map_map]
  exact List.map_id _
def isSetE : Expr → Bool
  | .Set .. => true
  | _ => false
theorem notSet_ok {e : Expr} {env : Env} (h : isSetE e = false) (x : Value) : foldedSetIterable e env x = pure x := by
  cases e <;> first | rfl | cases h
/-- the parts of a comprehension -/
structure CompOk (P : Prog) (X : Cx) (Wx : WX) (elt tg iter : Expr) (ifs : List Expr) (scope : Scope) (g : Tg) (fit : List W → M → R (List D × List W)) (fc : List W → M → R Bool) (fe : List W → M → R W) : Prop where
  calm : X.calm = true
  nd : X.N.Nodup
  pi : PI X tg iter (rI P X.K fit Wx)
  blk : BlkOk X.N X.env.scope scope (ownOf X.N g)
  pg : ∀ (s : Shared) (H : Hp) (C : Addr) (cl : List (Str × Addr)) (fp : List Addr), PG (X.blk s H scope (compEnvC scope cl C X.env) fp) tg (tgR X.K g)
  pt : ∀ (s : Shared) (H : Hp) (C : Addr) (cl : List (Str × Addr)) (fp : List Addr), PTs (X.blk s H scope (compEnvC scope cl C X.env) fp) ifs (rB P X.K fc noW)
  pe : ∀ (s : Shared) (H : Hp) (C : Addr) (cl : List (Str × Addr)) (fp : List Addr), PE (X.blk s H scope (compEnvC scope cl C X.env) fp) elt (rE P X.K fe noW)
  st : isSetE iter = false
variable {elt tg iter : Expr} {ifs : List Expr} {scope : Scope} {g : Tg} {fit : List W → M → R (List D × List W)} {fc : List W → M → R Bool} {fe : List W → M → R W}
theorem comp_lk {fr : Bool} {ρ : List W} {m : M} {c : C} {m1 : M} (h : (fit ρ m).bnd (compN P g fc fe ρ) = .ok c m1) : c.locked = false := by
  cases e : fit ρ m with
  | ok q m2 =>
    rw [e, R.bnd_ok] at h
    unfold compN at h
    cases e2 : lockR q.2 m2 (compGo g (wipeW ρ g.vars) fc (fun ρ m => (fe ρ m).bnd (fzR P)) q.1) with
    | ok xs m3 =>
      rw [e2, R.bnd_ok] at h
      by_cases hz : sizeOk xs.length = true
      · rw [if_pos hz] at h; cases h; rfl
      · rw [if_neg hz] at h; cases h
    | exc _ _ _ => rw [e2] at h; cases h
    | bad => rw [e2] at h; cases h
  | exc _ _ _ => rw [e] at h; cases h
  | bad => rw [e] at h; cases h
theorem CompOk.n (h : CompOk P X Wx elt tg iter ifs scope g fit fc fe) : PE X (.ListComp elt [⟨tg, iter, ifs, 0⟩] scope pos) (rN P X.K (fun ρ m => (fit ρ m).bnd (compN P g fc fe ρ)) Wx) := by
  have z := pe_lc (pos := pos) h.calm h.nd h.pi h.blk h.pg h.pt h.pe (fun x => notSet_ok h.st x)
  rw [ownOf_ix] at z
  exact PE.imp z fun σ H Q q => comp_read q
theorem CompOk.e {fr : Bool} (h : CompOk P X Wx elt tg iter ifs scope g fit fc fe) : PEB P X Wx (.ListComp elt [⟨tg, iter, ifs, 0⟩] scope pos) fun ρ m => ((fit ρ m).bnd (compN P g fc fe ρ)).bnd (nwR fr) :=
  e_nw h.n (fun _ _ _ _ e => comp_lk (fr := fr) e) fun _ => rfl
def swB (sc : Scope) (x : Str) (px : Pos) (scope : Scope) (pos : Pos) : Bool := isLoc sc x && (px.line == pos.line && !(scope.names.any fun (n, k) => n == x && (k == .local || k == .cell)))
/-- x = [..] -/
theorem CompOk.asg {fr : Bool} {i : Nat} {x : Str} {px spos : Pos} (h : CompOk P X Wx elt tg iter ifs scope g fit fc fe) (hk : X.env.scope.kind = .function) (hi : X.N[i]? = some x) (hx : Loc X.env.scope x) (hf : X.fn x = true ∨ X.env.scope.names.lookup x = some .local) :
    PSm P X Wx (.Assign [.Name x px] (.ListComp elt [⟨tg, iter, ifs, 0⟩] scope pos) spos) fun ρ m => (((fit ρ m).bnd (compN P g fc fe ρ)).bnd (nwR fr)).thn ρ fun w m1 => .nx (ρ.set i w) m1 := by
  have hb : X.env.blockKind = .function := by unfold Env.blockKind; rw [hk]; rfl
  have es : swapsWith (.ListComp elt [⟨tg, iter, ifs, 0⟩] scope pos) (some (.Name x px)) spos.line X.env = pure (X.env.kindOf x == some .local && px.line == pos.line && !(scope.names.any fun (n, k) => n == x && (k == .local || k == .cell))) := by
    unfold swapsWith
    simp only [hb, Expr.pos]
    rfl
  cases hsw : (X.env.kindOf x == some .local && px.line == pos.line && !(scope.names.any fun (n, k) => n == x && (k == .local || k == .cell))) with
  | false =>
    rw [hsw] at es
    refine PS.imp (ps_set h.nd hi hx (h.e (fr := fr) (pos := pos)).pe es hf) fun D σ H ⟨w, ρ, m, hm, hs, p⟩ => ?_
    exact ⟨w, ρ, m, hm, hs, (PostO.thn p hs (WRel P X.K)).mono fun b H1 ⟨a, w1, m1, x1, M1, S1, R1, p1⟩ => p1 _ w1 H1 .rfl M1 (S1.set R1)⟩
  | true =>
    rw [hsw] at es
    have hl : X.env.scope.names.lookup x = some .local := by
      have h1 := (He.ba (He.ba hsw).1).1
      exact eq_of_beq h1
    have z := ps_setLc (py := px) (pos := pos) (spos := spos) h.calm h.nd hi hl es h.pi h.blk h.pg h.pt h.pe (fun x => notSet_ok h.st x)
    rw [ownOf_ix] at z
    refine PS.imp z fun D σ H ⟨w, ρ, m, hm, hs, p⟩ => ?_
    refine comp_read ⟨w, ρ, m, hm, hs, ?_⟩
    have q := PostO.thn p hs (WRel P X.K)
    have q2 := nw_post (X := X) (fr := fr) q fun c m1 e => comp_lk (fr := fr) e
    show PostN P X.K w H ((fit ρ m).bnd (compN P g fc fe ρ)) _ _
    cases er : (fit ρ m).bnd (compN P g fc fe ρ) with
    | bad => rw [er] at q2; exact q2
    | exc c fs m1 => rw [er] at q2; exact q2
    | ok c m1 =>
      rw [er] at q2
      refine ⟨q2.1, fun w1 H1 pp x1 M1 f1 c1 => ?_⟩
      obtain ⟨a, w2, m2, x2, M2, S2, R2, p2⟩ := q2.2 w1 H1 pp x1 M1 f1 c1
      exact p2 _ w2 H1 .rfl M2 (S2.set R2)
/-! ### a pair -/
theorem swap_ok {x y : Str} {px py pt pt2 : Pos} {a b : Expr} {kt k2 : Nat} {env : Env} (hk : env.scope.kind = .function) (ha : noStar a = true) (hb : noStar b = true) (hx : env.scope.names.lookup x = some .local) (hy : env.scope.names.lookup y = some .local) (hl : (py.line == px.line) = true) (hne : decide (x = y) = false)
    (h1 : ([a, b].all (foldedForSure 8)) = false) (h2 : ([a, b].all (constantsAlone 8)) = false) : swappedStores [.Tuple [.Name x px, .Name y py] kt pt] (.Tuple [a, b] k2 pt2) env = pure (some [x, y]) := by
  have hbk : env.blockKind = .function := by unfold Env.blockKind; rw [hk]; rfl
  have hkx : env.kindOf x = some .local := hx
  have hky : env.kindOf y = some .local := hy
  have hxy : x ≠ y := of_decide_eq_false hne
  have hed : ([x, y].eraseDups).length = 2 := by
    have : (y == x) = false := beq_eq_false_iff_ne.mpr (Ne.symm hxy)
    simp [List.eraseDups_cons, this]
  have q : ∀ e, noStar e = true → (match e with | .Starred .. => true | _ => false) = false := by
    intro e he
    cases e <;> first | rfl | cases he
  unfold swappedStores
  simp only [hbk, h1, h2, hkx, hky, hl, hed, List.head?, Expr.pos, Option.map, Option.getD, beq_self_eq_true, Bool.and_self, List.filterMap_cons, List.filterMap_nil, if_true, List.length_cons, List.length_nil, List.any_cons, List.any_nil]
  rw [if_neg (by decide), if_neg, if_neg (by decide), if_neg (by decide), if_neg (by decide)]
  · simp only [Bool.or_false, Bool.not_eq_true]
    rw [Bool.or_eq_false_iff]
    exact ⟨q a ha, q b hb⟩
/-! ### names of the module -/
/-- what the module's names are -/
structure MgK (K : Fg) (mg : Str → Option Value) : Prop where
  yes : ∀ x v, PySem.W.nsIn K mainGlobals x = some (some v) → mg x = some v
  no : ∀ x, PySem.W.nsIn K mainGlobals x = some none → mg x = none
def globB (K : Fg) (x : Str) (d : D) : Bool := match PySem.W.nsIn K mainGlobals x with
  | some (some (.int j _)) => (match d with
    | .int i => decide (i = j)
    | _ => false)
  | some (some (.str y _)) => (match d with
    | .str z => decide (y = ts z)
    | _ => false)
  | _ => false
theorem e_glob {x : Str} {d : D} (F : MgK X.K X.mg) (hg : Gl X x) (hd : okN x = true) (h : globB X.K x d = true) : PEB P X Wx (.Name x pos) fun _ m => .ok (.v d) m := by
  unfold globB at h
  split at h
  · rename_i j t e
    cases d with
    | int i =>
      have ei : i = j := of_decide_eq_true h
      subst ei
      exact .of (pe_const (pe_glob (v := .int i) hg (F.yes _ _ e) ⟨t, rfl⟩ (okN_ok hd).1) fun _ _ => Dat.int_iff.mpr rfl) fun _ => rfl
    | _ => cases h
  · rename_i y t e
    cases d with
    | str z =>
      have ez : y = ts z := of_decide_eq_true h
      subst ez
      exact .of (pe_const (pe_glob (v := .str (ts z)) hg (F.yes _ _ e) ⟨t, rfl⟩ (okN_ok hd).1) fun _ _ => Dat.str_iff.mpr rfl) fun _ => rfl
    | _ => cases h
  · cases h
/-- {} -/
theorem n_dict0 {t : Bool} : PE X (.Dict [] [] pos) (rN P X.K (fun _ m => .ok (.dct false t []) m) Wx) := by
  cases t with
  | false =>
    refine PE.imp pe_dnewK fun σ H Q ⟨w, ρ, m, hm, hs, p⟩ => fun a ha => ?_
    exact p.2 w _ a (Ext.lay hm ha) (hm.lay ha) (hm.free ha) ⟨a, rfl, [], upd_same, datK_nil⟩
  | true =>
    refine PE.imp pe_dnewT fun σ H Q ⟨w, ρ, m, hm, hs, p⟩ => fun a ha => ?_
    refine p.2 w _ a (Ext.lay hm ha) (hm.lay ha) (hm.free ha) ⟨a, rfl, [], upd_same, ?_⟩
    unfold DatT
    rfl
end
end MP
end
section
set_option  maxHeartbeats  4000000
namespace MP
open PySem PySem.Spec PyProof.Rows L2
section
variable (P : Prog) (x : Option (Addr × Value × Option Addr))
theorem evE_wx (c : Nat → Bool → List W → M → R W) : evE ⟨P.wx x, c⟩ = evE ⟨P, c⟩ := by kernel_rfl
theorem evIt_wx (c : Nat → Bool → List W → M → R W) : evIt ⟨P.wx x, c⟩ = evIt ⟨P, c⟩ := by kernel_rfl
theorem evEs_wx (c : Nat → Bool → List W → M → R W) : evEs ⟨P.wx x, c⟩ = evEs ⟨P, c⟩ := by kernel_rfl
theorem evF_wx (c : Nat → Bool → List W → M → R W) : evF ⟨P.wx x, c⟩ = evF ⟨P, c⟩ := by kernel_rfl
mutual
theorem evS_wx : ∀ (s : S) (c : Nat → Bool → List W → M → R W) (fr : Bool), evS ⟨P.wx x, c⟩ fr s = evS ⟨P, c⟩ fr s
  | .asg _ _, _, _ => by kernel_rfl
  | .par _ _, _, _ => by kernel_rfl
  | .setf _ _ _ _, _, _ => by kernel_rfl
  | .setfd _ _ _ _, _, _ => by kernel_rfl
  | .seti _ _ _, _, _ => by kernel_rfl
  | .setfi _ _ _ _ _, _, _ => by kernel_rfl
  | .app _ _, _, _ => by kernel_rfl
  | .clear _, _, _ => by kernel_rfl
  | .remove _ _, _, _ => rfl
  | .expr _, _, _ => by kernel_rfl
  | .ret _, _, _ => by kernel_rfl
  | .retN, _, _ => rfl
  | .pass, _, _ => rfl
  | .ite e a b, c, fr => by
    have h1 := evSs_wx a c fr
    have h2 := evSs_wx b c fr
    funext ρ m
    simp only [evS, h1, h2, evE_wx]
  | .for_ g it b, c, fr => by
    have h1 := evSs_wx b c fr
    funext ρ m
    simp only [evS, h1, evIt_wx]
  | .while_ e b, c, fr => by
    have h1 := evSs_wx b c fr
    funext ρ m
    simp only [evS, h1, evE_wx]
  | .raise _ _, _, _ => by kernel_rfl
  | .try_ b hs, c, fr => by
    have h1 := evSs_wx b c false
    have h2 := evHs_wx hs c fr
    funext ρ m
    simp only [evS, h1, h2]
theorem evSs_wx : ∀ (s : Ss) (c : Nat → Bool → List W → M → R W) (fr : Bool), evSs ⟨P.wx x, c⟩ fr s = evSs ⟨P, c⟩ fr s
  | .nil, _, _ => rfl
  | .cons s l, c, fr => by
    have h1 := evS_wx s c fr
    have h2 := evSs_wx l c fr
    funext ρ m
    simp only [evSs, h1, h2]
theorem evHs_wx : ∀ (s : Hs) (c : Nat → Bool → List W → M → R W) (fr : Bool), evHs ⟨P.wx x, c⟩ fr s = evHs ⟨P, c⟩ fr s
  | .nil, _, _ => rfl
  | .cons c' i b l, c, fr => by
    have h1 := evSs_wx b (fun _ _ _ _ => .bad) fr
    have h2 := evHs_wx l c fr
    have e1 : isExc (P.wx x) = isExc P := rfl
    have e2 : catches (P.wx x) = catches P := rfl
    funext k fs ρ m
    simp only [evHs, h1, h2, e1, e2]
end
end
end MP
end
section
set_option  maxHeartbeats  4000000
/-! Texts: split, join, f-strings. -/
namespace MP
open PySem PySem.Spec PyProof.Rows L2
theorem tl_ts (x : Sg) : (ts x).cps.toList = x := by simp [ts]
theorem ts_inj2 {x y : Sg} (h : ts x = ts y) : x = y := by
  rw [← tl_ts x, ← tl_ts y, h]
theorem ts_joinS (s : Sg) : ∀ ps : List Sg, Str.join (ts s) (ps.map ts) = ts (joinS s ps)
  | [] => rfl
  | [p] => rfl
  | p :: q :: r => by
    show ts p ++ ts s ++ Str.join (ts s) ((q :: r).map ts) = _
    rw [ts_joinS s (q :: r), ts_app, ts_app]
    show _ = ts (p ++ (s ++ joinS s (q :: r)))
    rw [List.append_assoc]
theorem split_ts (x : Sg) (s : Nat) : Txt.split (ts x) (ts [s]) = (splitS s [] x).map ts := by
  have e : Txt.split (ts x) (ts [s]) = ((Txt.split (ts x) (ts [s])).map fun p => p.cps.toList).map ts := by
    rw [List.map_map]
    conv => lhs; rw [← List.map_id (Txt.split (ts x) (ts [s]))]
    refine List.map_congr_left fun p _ => ?_
    exact (ts_of p).symm
  rw [e]
  refine congrArg _ (join_uniq (s := s) ?_ (splitS_ne _ _ _) (fun p hp => ?_) (splitS_free s x [] (by simp)) ?_)
  · intro z
    have h1 := split_pos (ts x) (ts [s])
    rw [List.map_eq_nil_iff.mp z] at h1
    simp at h1
  · obtain ⟨q, hq, rfl⟩ := List.mem_map.mp hp
    exact StrLaws.split_free (ts x) s q hq
  · rw [splitS_join, List.nil_append]
    refine ts_inj2 ?_
    rw [← ts_joinS, ← e]
    exact StrLaws.join_split (ts x) (ts [s])
section
variable {P : Prog} {X : Cx} {Wx : WX} {pos apos : Pos} {a b : Expr} {fa fb : List W → M → R W}
theorem datL_strs {K : Fg} {w : Wd} {H : Hp} : ∀ ss : List Sg, DatL P K w.fro H (ss.map D.str) ((ss.map ts).map V.str)
  | [] => DatL.nil
  | s :: r => DatL.cons (Dat.str_iff.mpr rfl) (datL_strs r)
/-- a.split(b) -/
theorem e_split (hb0 : plainBase a = true) (hst : noStar b = true) (hline : (apos.endLine == pos.line) = true) (ha : PEB P X Wx a fa) (hb : PEB P X Wx b fb) :
    PEB P X Wx (.Call (.Attribute a "split" apos) [b] [] pos) fun ρ m => (fa ρ m).bnd fun x m1 => strW x fun s => (fb ρ m1).bnd fun y m2 => splitW s y m2 := by
  refine .of (PE.imp (pe_split ha.pe hb.pe (starEach_cons hst) (base_eq hb0) hline) fun σ H Q ⟨w, ρ, m, hm, hs, p⟩ => ?_) fun _ => rfl
  dsimp only at p
  refine ⟨w, ρ, m, hm, hs, (p.bnd (WRel P X.K)).mono fun v H1 ⟨x, w1, m1, X1, M1, R1, p1⟩ => ?_⟩
  cases x with
  | v d =>
    cases d with
    | str s =>
      cases WRel.str R1
      refine ⟨⟨_, rfl⟩, w1, ρ, m1, M1, hs.mono X1, ?_⟩
      refine (Post.bnd (show Post P X.K (WRel P X.K) w1 H1 ((fb ρ m1).bnd fun y m2 => splitW s y m2) Q _ from p1) (WRel P X.K)).mono fun u H2 ⟨y, w2, m2, X2, M2, R2, p2⟩ => ?_
      unfold splitW at p2
      split at p2
      · rename_i c
        by_cases hz : (sizeOk (s.length + 2) && decide (c < 256)) = true
        · rw [if_pos hz] at p2
          cases WRel.str R2
          refine ⟨ts s, ts [c], rfl, rfl, rfl, by rw [ts_len]; exact sizeOk_line (Bool.and_eq_true_iff.mp hz).1, ?_⟩
          rw [split_ts]
          exact fun q hq => Post.new p2 M2 hq (new_lst M2 hq (datL_strs _))
        · rw [if_neg hz] at p2; exact p2.elim
      · exact p2.elim
    | _ => exact p1.elim
  | _ => exact p1.elim
theorem strL_rel {K : Fg} {w : Wd} {H : Hp} : ∀ {xs : List D} {ss : List Sg} {vs : List V}, strL xs = some ss → DatL P K w.fro H xs vs → vs = (ss.map ts).map V.str
  | [], ss, vs, e, h => by
    cases e
    unfold DatL at h
    exact h
  | x :: xs, ss, vs, e, h => by
    unfold DatL at h
    obtain ⟨v, r, rfl, h1, h2⟩ := h
    cases x with
    | str s =>
      dsimp only [strL] at e
      cases e2 : strL xs with
      | none => rw [e2] at e; cases e
      | some l =>
        rw [e2] at e
        cases e
        rw [Dat.str_iff.mp h1, strL_rel e2 h2]
        rfl
    | _ => cases e
theorem lens_ts (ss : List Sg) : ((ss.map ts).map (·.length)).sum = (ss.map List.length).sum := by
  rw [List.map_map]
  congr 1
  first
  | done
  | exact List.map_congr_left fun s _ => ts_len s
/-- a.join(b) -/
theorem e_join (hb0 : plainBase a = true) (hst : noStar b = true) (hline : (apos.endLine == pos.line) = true) (ha : PEB P X Wx a fa) (hb : PEB P X Wx b fb) :
    PEB P X Wx (.Call (.Attribute a "join" apos) [b] [] pos) fun ρ m => (fa ρ m).bnd fun x m1 => strW x fun s => (fb ρ m1).bnd fun y m2 => joinW s y m2 := by
  refine .of (PE.imp (pe_join ha.pe hb.pe (starEach_cons hst) (base_eq hb0) hline) fun σ H Q ⟨w, ρ, m, hm, hs, p⟩ => ?_) fun _ => rfl
  dsimp only at p
  refine ⟨w, ρ, m, hm, hs, (p.bnd (WRel P X.K)).mono fun v H1 ⟨x, w1, m1, X1, M1, R1, p1⟩ => ?_⟩
  cases x with
  | v d =>
    cases d with
    | str s =>
      cases WRel.str R1
      refine ⟨⟨_, rfl⟩, w1, ρ, m1, M1, hs.mono X1, ?_⟩
      refine (Post.bnd (show Post P X.K (WRel P X.K) w1 H1 ((fb ρ m1).bnd fun y m2 => joinW s y m2) Q _ from p1) (WRel P X.K)).mono fun u H2 ⟨y, w2, m2, X2, M2, R2, p2⟩ => ?_
      have fin : ∀ (xs : List D) (pa : Addr) (vs : List V), DatL P X.K w2.fro H2 xs vs → (SqL X.K H2 pa vs ∨ SqT X.K H2 pa vs) → Post P X.K (WRel P X.K) w2 H2 (joinL s xs m2) Q (fun cls d H' => Wx cls d σ H') →
          ∃ a p, ∃ ys : List Str, V.str (ts s) = .str a ∧ [V.ref pa] = [V.ref p] ∧ (SqL X.K H2 p (ys.map V.str) ∨ SqT X.K H2 p (ys.map V.str)) ∧ (ys.map (·.length)).sum + ys.length * a.length ≤ 16777216 ∧ Q (.str (Txt.join a ys)) H2 := by
        intro xs pa vs l sq pp
        unfold joinL at pp
        cases e1 : strL xs with
        | none => rw [e1] at pp; exact pp.elim
        | some ss =>
          rw [e1] at pp
          dsimp only at pp
          by_cases hz : sizeOk ((ss.map List.length).sum + ss.length * s.length) = true
          · rw [if_pos hz] at pp
            have ev := strL_rel e1 l
            subst ev
            refine ⟨ts s, pa, ss.map ts, rfl, rfl, sq, ?_, ?_⟩
            · rw [lens_ts, List.length_map, ts_len]
              have : (ss.map List.length).sum + ss.length * s.length ≤ 16000000 := of_decide_eq_true hz
              omega
            · have e2 : Txt.join (ts s) (ss.map ts) = ts (joinS s ss) := by
                show Builtin.Str.glued (ts s) (ss.map ts) = _
                rw [StrLaws.glued_eq_join, ts_joinS]
              rw [e2]
              exact Post.flat pp M2 (Dat.str_iff.mpr rfl)
          · rw [if_neg hz] at pp; exact pp.elim
      unfold joinW at p2
      cases e1 : vw m2 y with
      | none => rw [e1] at p2; exact p2.elim
      | some d =>
        rw [e1] at p2
        have V2 := vw_rel M2 R2 e1
        cases d with
        | lst xs =>
          obtain ⟨pa, vs, rfl, ra, la⟩ := V2
          exact fin xs pa vs la (.inl (.inl ra)) p2
        | tup xs =>
          obtain ⟨pa, vs, rfl, ra, la⟩ := V2
          exact fin xs pa vs la (.inr ra) p2
        | _ => exact p2.elim
    | _ => exact p1.elim
  | _ => exact p1.elim
end
/-! ### f-strings -/
/-- the parts of an f-string -/
inductive PFs (P : Prog) (X : Cx) (Wx : WX) : List Expr → (Sg → List W → M → R Sg) → Prop where
  | nil : PFs P X Wx [] fun acc _ m => .ok acc m
  | fmt {e : Expr} {f : List W → M → R W} {es : List Expr} {g : Sg → List W → M → R Sg} {pos : Pos} (h : PEB P X Wx e f) (r : PFs P X Wx es g) : PFs P X Wx (.FormattedValue e (-1) none pos :: es) fun acc ρ m => (f ρ m).bnd fun w m1 => fmtW w acc fun acc => g acc ρ m1
  | txt {s : Sg} {es : List Expr} {g : Sg → List W → M → R Sg} {pos : Pos} {j : Nat} (r : PFs P X Wx es g) : PFs P X Wx (.Constant (.str (ts s)) j pos :: es) fun acc ρ m => (R.ok (W.v (.str s)) m).bnd fun w m1 => fmtW w acc fun acc => g acc ρ m1
section
variable {P : Prog} {X : Cx} {Wx : WX}
theorem pfs_ok {es : List Expr} {g : Sg → List W → M → R Sg} (h : PFs P X Wx es g) : ∃ ts', PJ X es ts' ∧ ∀ (acc : Sg) (σ : L2.St) (H : Hp) (w : Wd) (ρ : List W) (m : M) (Q : Str → Hp → Prop), MRel P X.K w H m → SRel P X.K w H ρ σ →
    Post P X.K (fun _ _ a b => b = ts a) w H (g acc ρ m) Q (fun cls d H' => Wx cls d σ H') → tJs ts' (ts acc) σ H Q := by
  induction h with
  | nil => exact ⟨[], .nil, fun acc σ H w ρ m Q hm hs p => p (ts acc) w H .rfl hm rfl⟩
  | @fmt e f es g pos he r ih =>
    obtain ⟨ts', j, ih⟩ := ih
    refine ⟨tFmt (rE P X.K f Wx) :: ts', .cons (pe_fmt he.pe) j, fun acc σ H w ρ m Q hm hs p => ?_⟩
    refine ⟨w, ρ, m, hm, hs, (p.bnd (WRel P X.K)).mono fun v H1 ⟨x, w1, m1, X1, M1, R1, p1⟩ => ?_⟩
    unfold fmtW at p1
    cases x with
    | v d =>
      dsimp only at p1
      cases d with
      | str s =>
        cases WRel.str R1
        dsimp only [fmtD] at p1
        by_cases hz : sizeOk (acc.length + s.length) = true
        · rw [if_pos hz] at p1
          have hz1 := sizeOk_line hz
          refine .inl ⟨ts s, rfl, by rw [ts_len]; omega, ts s, rfl, ?_, ?_⟩
          · rw [ts_app, ts_len, List.length_append]; exact hz1
          · rw [ts_app]
            exact ih (acc ++ s) σ H1 w1 ρ m1 Q M1 (hs.mono X1) p1
        · rw [if_neg hz] at p1; exact p1.elim
      | int i =>
        cases WRel.int R1
        dsimp only [fmtD] at p1
        by_cases hi : i.natAbs.log2 < 1900
        · rw [if_pos hi] at p1
          dsimp only at p1
          by_cases hz : sizeOk (acc.length + (numS i).length) = true
          · rw [if_pos hz] at p1
            have hz1 := sizeOk_line hz
            refine .inr ⟨i, rfl, by omega, ts (numS i), by rw [numS_str], ?_, ?_⟩
            · rw [ts_app, ts_len, List.length_append]; exact hz1
            · rw [ts_app]
              exact ih (acc ++ numS i) σ H1 w1 ρ m1 Q M1 (hs.mono X1) p1
          · rw [if_neg hz] at p1; exact p1.elim
        · rw [if_neg hi] at p1; exact p1.elim
      | _ => exact p1.elim
    | _ => exact p1.elim
  | @txt s es g pos j0 r ih =>
    obtain ⟨ts', j, ih⟩ := ih
    refine ⟨tC (.str (ts s)) :: ts', .cons pe_str j, fun acc σ H w ρ m Q hm hs p => ?_⟩
    replace p : Post P X.K (fun _ _ a b => b = ts a) w H (if sizeOk (acc.length + s.length) then g (acc ++ s) ρ m else .bad) Q (fun cls d H' => Wx cls d σ H') := p
    by_cases hz : sizeOk (acc.length + s.length) = true
    · rw [if_pos hz] at p
      have hz1 := sizeOk_line hz
      refine ⟨ts s, rfl, ?_, ?_⟩
      · rw [ts_app, ts_len, List.length_append]; exact hz1
      · rw [ts_app]
        exact ih (acc ++ s) σ H w ρ m Q hm hs p
    · rw [if_neg hz] at p; exact p.elim
/-- f'..' -/
theorem e_fstr {v1 v2 : Expr} {rest : List Expr} {pos : Pos} {g : Sg → List W → M → R Sg} (h : PFs P X Wx (v1 :: v2 :: rest) g) : PEB P X Wx (.JoinedStr (v1 :: v2 :: rest) pos) fun ρ m => (g [] ρ m).bnd fun x m1 => .ok (.v (.str x)) m1 := by
  obtain ⟨ts', j, hj⟩ := pfs_ok h
  refine .of (PE.imp (pe_joined j) fun σ H Q ⟨w, ρ, m, hm, hs, p⟩ => ?_) fun _ => rfl
  refine hj [] σ H w ρ m _ hm hs ((p.bnd (fun _ _ a b => b = ts a)).mono fun b H1 ⟨a, w1, m1, X1, M1, R1, p1⟩ => ?_)
  subst R1
  exact Post.flat p1 M1 (Dat.str_iff.mpr rfl)
end
end MP
end
section
set_option  maxHeartbeats  4000000
/-! Classmethods. -/
namespace MP
open PySem PySem.Spec PyProof.Rows L2
/-- what is known of a classmethod -/
structure CmF (K : Fg) (C : Addr) (m : Str) (g : Addr) : Prop where
  rd : ClX.CRead K C (.type "type")
  ex : ∃ p, ClX.CMet K C (.type "type") m p g
section
variable {P : Prog} {hd : Hd} {X : Cx} {Wx : WX} {k : Nat} {pos apos p0 : Pos} {es : List Expr} {kws : List Keyword} {ks : List Str} {fl fk : List W → M → R (List W)}
/-- C.m(.., k = ..), C a class, m a classmethod -/
theorem e_cmethk {x mn : Str} {c f : Nat} {d : FnDef} (g : CallOk P hd X k f d false) (hP : hd.P = P) (hf : P.fn f = some d) (hr : Rm k X.A) (tk : Takes X Wx) (cm : CmF X.K (ca P X.K c) mn (fA X.K d.at_)) (hg : Gl X x) (hm : X.mg x = some (.ref (ca P X.K c))) (hdb : (x == ("__debug__" : Str)) = false)
    (hl : es.length + kws.length < 28) (hline : (apos.endLine == pos.line) = true) (h : PAr P X Wx es fl) (hkk : PKr P X Wx kws ks fk) :
    PEB P X Wx (.Call (.Attribute (.Name x p0) mn apos) es kws pos) fun ρ m => (fl ρ m).bnd fun ws m1 => (fk ρ m1).bnd fun us m2 => match fnArgsK P f (.v (.cls c) :: ws) ks us with
    | some as => hd.call f false as m2
    | none => .bad := by
  refine .of ⟨fun pins s σ H Q I q => ?_⟩ fun _ => rfl
  obtain ⟨w, ρ, m, hm', hs, p⟩ := q
  obtain ⟨pc, CM⟩ := cm.ex
  refine PySem.W.methodCall_KW (pl := plainOf (.Name x p0) X.env) (ld_glob I hg hm ?_ hdb) (methk_eq (o := .Name x p0) rfl h.st hkk.nm hl hline)
  refine ClX.getmethcm_ok I cm.rd CM fun s2 I2 => ?_
  have hq := ClX.pin_at I2
  obtain ⟨z1, z2, z3⟩ := kw_facts (pos := pos) (env := X.env) hkk.nm
  have fin : ∀ us kus s1 vs kvs H1 as kas w1 m1, Inv X ((s.heap.objs.size, PySem.W.methodObj (.ref (fA X.K d.at_)) (.ref (ca P X.K c))) :: pins) σ H1 s1 → Vals vs us → Vals kvs kus → MRel P X.K w1 H1 m1 → WsRel P X.K w1 H1 as vs → WsRel P X.K w1 H1 kas kvs →
      Post P X.K (WRel P X.K) w1 H1 (match fnArgsK P f (.v (.cls c) :: as) ks kas with
        | some as => hd.call f false as m1
        | none => .bad) Q (fun cls d H' => Wx cls d σ H') → wpAny (model X.prog X.w) X.A (call (.ref s.heap.objs.size) us (ks.zip kus)) (EP X pins σ Q) X.xe s1 := by
    intro us kus s1 vs kvs H1 as kas w1 m1 I1 r rk M1 R1 Rk p1
    cases e : fnArgsK P f (.v (.cls c) :: as) ks kas with
    | none => rw [e] at p1; exact p1.elim
    | some as1 =>
      rw [e] at p1
      unfold fnArgsK at e
      rw [hf] at e
      have R1' : WsRel P X.K w1 H1 (.v (.cls c) :: as) (V.ref (ca P X.K c) :: vs) := WsRel.cons (show Dat P X.K w1.fro H1 (.cls c) (.ref (ca P X.K c)) from Dat.cls_iff.mpr rfl) R1
      have z := call_codeK g (by rw [hP]; exact hf) hr tk I1 M1 R1' (show Vals (V.ref (ca P X.K c) :: vs) (Value.ref (ca P X.K c) :: us) from .cons rfl r) Rk rk e p1
      have z2 : wpAny (model X.prog X.w) X.A (call (.ref s.heap.objs.size) us (ks.zip kus)) (EP X ((s.heap.objs.size, PySem.W.methodObj (.ref (fA X.K d.at_)) (.ref (ca P X.K c))) :: pins) σ Q) X.xe s1 := wpAny_call (PySem.W.method_call (ClX.pin_at I1) z)
      exact thn z2 fun _ _ y => ClX.unpinE y
  cases es with
  | nil =>
    rw [h.nil rfl] at p
    refine PySem.W.callWith_of (by rw [z3]; rfl) (PySem.W.keeps_M (K := X.K) (q := s.heap.objs.size) (f := fA X.K d.at_) (self := .ref (ca P X.K c)) CM.fi) (evalArgs_kw2_nil z1 (thn (hkk.pk.run pos _ s2 σ H _ I2 (rA_step p hm' hs)) fun kus s1 ⟨kvs, H1, I1, r, kas, w1, m1, M1, S1, R1, X1, p1⟩ => ⟨⟨ClX.pin_at I1, I1.kIn⟩, ?_⟩))
    rw [z2]
    exact fin [] kus s1 [] kvs H1 [] kas w1 m1 I1 .nil r M1 WsRel.nil R1 p1
  | cons e es =>
    have st := h.st
    have sa := noStars_any (env := X.env) (pos := pos) st
    rw [List.all_cons] at st
    obtain ⟨st1, st2⟩ := Bool.and_eq_true_iff.mp st
    refine PySem.W.callWith_of (by rw [sa, z3]; rfl) (PySem.W.keeps_M (K := X.K) (q := s.heap.objs.size) (f := fA X.K d.at_) (self := .ref (ca P X.K c)) CM.fi) (evalArgs_kw2 z1 (thn (h.pa.run pos _ s2 σ H _ I2 (rA_step p hm' hs)) fun us s1 ⟨vs, H1, I1, r, as, w1, m1, M1, S1, R1, X1, p1⟩ => ?_) (starEach_cons st1))
    refine thn (hkk.pk.run pos _ s1 σ H1 _ I1 (rA_step p1 M1 S1)) fun kus s3 ⟨kvs, H2, I2', r2, kas, w2, m2, M2, S2, R2, X2, p2⟩ => ⟨⟨ClX.pin_at I2', I2'.kIn⟩, ?_⟩
    rw [z2]
    exact fin us kus s3 vs kvs H2 as kas w2 m2 I2' r r2 M2 (R1.mono X2) R2 p2
/-- cls(..) in a classmethod -/
theorem e_makev {i : Nat} {x : Str} {c : Nat} {cd : ClsDef} {d : FnDef} (hP : hd.P = P) (hc : P.cls[c]? = some cd) (hf : P.fn cd.init = some d) (g : CallOk P hd X k cd.init d false) (mk : Mk X.K (ca P X.K c) (fA X.K d.at_)) (hr : Rm (k + 1) X.A) (tk : Takes X Wx)
    (hN : X.N[i]? = some x) (hv : Vis X.env.scope x) (hd1 : (x == ("__debug__" : Str)) = false) (hcd : (x == ("__classdict__" : Str)) = false) (h : PAr P X Wx es fl) : PEB P X Wx (.Call (.Name x p0) es [] pos) fun ρ m => (R.opt (getV ρ i) m).bnd fun x m => match x with
    | .v (.cls c') => if c = c' then (fl ρ m).bnd fun ws m1 => mkObj hd c false ws m1 else .bad
    | _ => .bad := by
  refine .of ⟨fun pins s σ H Q I q => ?_⟩ fun _ => rfl
  obtain ⟨w, ρ, m, hm', hs, p⟩ := q
  refine wpAny_Call_Name_kw (thn ((e_var (P := P) (Wx := Wx) hN hv hd1 hcd).pe.run pins s σ H _ I (rE_step p hm' hs)) fun u s1 ⟨z, H1, I1, r1, y, w1, m1, M1, S1, R1, X1, p1⟩ => ?_)
  cases y with
  | v dd =>
    cases dd with
    | cls c' =>
      dsimp only at p1
      by_cases hcc : c = c'
      · subst hcc
        rw [if_pos rfl] at p1
        have ez : z = .ref (ca P X.K c) := (Dat.cls_iff (w := w1) (H := H1)).mp R1
        subst ez
        obtain rfl : u = Value.ref (ca P X.K c) := r1
        exact cw_run h mk.kp I1 M1 S1 p1 fun us s2 vs H2 as w2 m2 I2 r M2 R2 X2 p2 => make_run hP hc hf g mk hr tk I2 M2 R2 r p2
      · rw [if_neg hcc] at p1; exact p1.elim
    | _ => exact p1.elim
  | _ => exact p1.elim
end
end MP
end
section
set_option  maxHeartbeats  4000000
/-! The test that a def's text is a term. -/
namespace MP
open PySem PySem.Spec PyProof.Rows L2
def bltNames : List Str := ["len", "abs", "int", "str", "tuple", "all", "any", "max", "min", "repr", "isinstance", "range", "bool", "list", "dict", "sorted", "enumerate", "zip"]
def opB : BOp → Operator → Bool
  | .add, .Add => true
  | .sub, .Sub => true
  | .mul, .Mult => true
  | .fdiv, .FloorDiv => true
  | .mod, .Mod => true
  | .pow, .Pow => true
  | _, _ => false
theorem opB_ok {a : BOp} {b : Operator} (h : opB a b = true) : b = a.py := by
  cases a <;> cases b <;> first | rfl | cases h
def copB : COp → CmpOp → Bool
  | .eq, .Eq => true
  | .ne, .NotEq => true
  | .lt, .Lt => true
  | .le, .LtE => true
  | .gt, .Gt => true
  | .ge, .GtE => true
  | .mem, .In => true
  | .nmem, .NotIn => true
  | _, _ => false
theorem copB_ok {a : COp} {b : CmpOp} (h : copB a b = true) : b = a.py := by
  cases a <;> cases b <;> first | rfl | cases h
section
variable (P : Prog) (K : Fg) (nn : List Str)
def ownNm (c : Nat) (x : Str) : Bool := match P.cls[c]? with
  | some d => d.here && (!d.exc && decide (d.name = x))
  | none => false
def excNm (c : Nat) (x : Str) : Bool := match P.cls[c]? with
  | some d => d.here && (d.exc && decide (d.name = x))
  | none => false
def fnAt (f : Nat) (x : Str) : Bool := match P.fn f with
  | some d => decide (d.at_ = (x, none))
  | none => false
def mthAt (c f : Nat) (m : Str) : Bool := match P.cls[c]? with
  | some cd => cd.here && (!cd.exc && (!cd.flds.contains m && (match P.fn f with
    | some d => decide (d.at_ = (cd.name, some m)) && !isCm K d.at_
    | none => false)))
  | none => false
def cmAt (c f : Nat) (m : Str) : Bool := match P.cls[c]? with
  | some cd => cd.here && (!cd.exc && (match P.fn f with
    | some d => decide (d.at_ = (cd.name, some m)) && isCm K d.at_
    | none => false))
  | none => false
def fldB (c k : Nat) (x : Str) : Bool := match P.cls[c]? with
  | some d => d.here && (!d.exc && decide (d.flds[k]? = some x))
  | none => false
def makeB (c : Nat) (x : Str) : Bool := match P.cls[c]? with
  | some d => d.here && (!d.exc && (decide (d.name = x) && (P.fn d.init).isSome))
  | none => false
def tyXB (sc : Scope) : Ty → Str → Bool
  | .int, x => decide (x = "int") && glB sc x
  | .bool, x => decide (x = "bool") && glB sc x
  | .str, x => decide (x = "str") && glB sc x
  | .list, x => decide (x = "list") && glB sc x
  | .tuple, x => decide (x = "tuple") && glB sc x
  | .dict, x => decide (x = "dict") && glB sc x
  | .cls c, x => ownNm P c x && (glB sc x && okN x)
def mkvB (c : Nat) : Bool := match P.cls[c]? with
  | some d => d.here && (!d.exc && (P.fn d.init).isSome)
  | none => false
def strB : E → Str → Bool
  | .str s, y => decide (y = ts s)
  | _, _ => false
def nilDs : Ds → Bool
  | .nil => true
  | _ => false
def fewB (n : Nat) : Bool := decide (n ≤ 25)
def isiB (sc : Scope) : Expr → List Ty → Bool
  | .Name x _, [t] => tyXB P sc t x
  | .Tuple [.Name x _, .Name y _] _ _, [t, u] => tyXB P sc t x && tyXB P sc u y
  | _, _ => false
def optB (h : Bool) (f : Expr → Bool) : Option Expr → Bool
  | none => !h
  | some x => h && f x
def ifsB (h : Bool) (f : Expr → Bool) : List Expr → Bool
  | [] => !h
  | [c] => h && f c
  | _ => false
mutual
def chkE : E → Scope → Bool → Expr → Bool
  | .var i => fun sc _ e => match e with
    | .Name x _ => nmB nn i x && (visB sc x && okN x)
    | _ => false
  | .int i => fun _ _ e => match e with
    | .Constant (.int j) _ _ => decide (i = j)
    | _ => false
  | .str x => fun _ _ e => match e with
    | .Constant (.str y) _ _ => decide (y = ts x)
    | _ => false
  | .bl b => fun _ _ e => match e with
    | .Constant (.bool c) _ _ => decide (b = c)
    | _ => false
  | .non => fun _ _ e => match e with
    | .Constant .none _ _ => true
    | _ => false
  | .glob x d => fun sc _ e => match e with
    | .Name y _ => decide (x = y) && (glB sc x && (okN x && globB K x d))
    | _ => false
  | .bin op a b => fun sc cm e => match e with
    | .BinOp a' o b' _ => opB op o && (chkE a sc cm a' && chkE b sc cm b')
    | _ => false
  | .neg a => fun sc cm e => match e with
    | .UnaryOp .USub a' _ => chkE a sc cm a'
    | _ => false
  | .not a => fun sc cm e => match e with
    | .UnaryOp .Not a' _ => chkE a sc cm a'
    | _ => false
  | .cmp op a b => fun sc cm e => match e with
    | .Compare a' [o] [b'] _ => copB op o && (!behindInMarks o b' && (chkE a sc cm a' && chkE b sc cm b'))
    | _ => false
  | .cmp2 op op' a b c => fun sc cm e => match e with
    | .Compare a' [o, o'] [b', c'] _ => copB op o && (copB op' o' && (!lastMarks [o, o'] [b', c'] && (chkE a sc cm a' && (chkE b sc cm b' && chkE c sc cm c'))))
    | _ => false
  | .isN a => fun sc cm e => match e with
    | .Compare a' [.Is] [.Constant .none _ _] _ => chkE a sc cm a'
    | _ => false
  | .notN a => fun sc cm e => match e with
    | .Compare a' [.IsNot] [.Constant .none _ _] _ => chkE a sc cm a'
    | _ => false
  | .and a b => fun sc cm e => match e with
    | .BoolOp .And (a' :: b' :: rest) p => chkE a sc cm a' && (match rest with
      | [] => chkE b sc cm b'
      | _ => chkE b sc cm (.BoolOp .And (b' :: rest) p))
    | _ => false
  | .or a b => fun sc cm e => match e with
    | .BoolOp .Or (a' :: b' :: rest) p => chkE a sc cm a' && (match rest with
      | [] => chkE b sc cm b'
      | _ => chkE b sc cm (.BoolOp .Or (b' :: rest) p))
    | _ => false
  | .ite c a b => fun sc cm e => match e with
    | .IfExp c' a' b' _ => chkE c sc cm c' && (chkE a sc cm a' && chkE b sc cm b')
    | _ => false
  | .tup l => fun sc cm e => match e with
    | .Tuple es _ _ => decide (es.length ≤ 10000) && chkEs l sc cm es
    | _ => false
  | .call f _ l => fun sc cm e => match e with
    | .Call (.Name x _) es [] _ => cm && (fnAt P f x && (glB sc x && (okN x && chkEs l sc cm es)))
    | _ => false
  | .callk f l ks lk => fun sc cm e => match e with
    | .Call (.Name x _) es kws _ => cm && (fnAt P f x && (glB sc x && (okN x && (chkEs l sc cm es && chkKs lk ks sc cm kws))))
    | _ => false
  | .meth c o f _ l => fun sc cm e => match e with
    | .Call (.Attribute o' m ap) es [] p => cm && (mthAt P K c f m && (plainBase o' && (fewB es.length && ((ap.endLine == p.line) && (chkE o sc cm o' && chkEs l sc cm es)))))
    | _ => false
  | .methk c o f l ks lk => fun sc cm e => match e with
    | .Call (.Attribute o' m ap) es kws p => cm && (mthAt P K c f m && (plainBase o' && (fewB (es.length + kws.length) && ((ap.endLine == p.line) && (chkE o sc cm o' && (chkEs l sc cm es && chkKs lk ks sc cm kws))))))
    | _ => false
  | .make c _ l => fun sc cm e => match e with
    | .Call (.Name x _) es [] _ => cm && (makeB P c x && (glB sc x && (okN x && chkEs l sc cm es)))
    | _ => false
  | .makek c l ks lk => fun sc cm e => match e with
    | .Call (.Name x _) es kws _ => cm && (makeB P c x && (glB sc x && (okN x && (chkEs l sc cm es && chkKs lk ks sc cm kws))))
    | _ => false
  | .fld c o k => fun sc cm e => match e with
    | .Attribute o' x _ => fldB P c k x && (plainBase o' && chkE o sc cm o')
    | _ => false
  | .efld i _ x => fun sc _ e => match e with
    | .Attribute (.Name n _) y _ => decide (x = y) && (nmB nn i n && (visB sc n && okN n))
    | _ => false
  | .isi a tys => fun sc cm e => match e with
    | .Call (.Name f _) [a', t'] [] _ => decide (f = "isinstance") && (glB sc "isinstance" && (noStar a' && (chkE a sc cm a' && isiB P sc t' tys)))
    | _ => false
  | .bf f l => fun sc cm e => match e with
    | .Call (.Name x _) (a' :: es) [] _ => decide (x = f.name) && ((!f.calm || cm) && (f.val.isSome && (glB sc x && chkEs l sc cm (a' :: es))))
    | _ => false
  | .idx a i => fun sc cm e => match e with
    | .Subscript a' i' _ => plainIx i' && (chkE a sc cm a' && chkE i sc cm i')
    | _ => false
  | .slice a lo hi hlo hhi => fun sc cm e => match e with
    | .Subscript a' (.Slice lo' hi' none _) _ => chkE a sc cm a' && (optB hlo (fun x => chkE lo sc cm x) lo' && optB hhi (fun x => chkE hi sc cm x) hi')
    | _ => false
  | .nw _ x => fun sc cm e => chkN x sc cm e
  | .cmethk c f l ks lk => fun sc cm e => match e with
    | .Call (.Attribute (.Name x _) m ap) es kws p => cm && (cmAt P K c f m && (ownNm P c x && (glB sc x && (okN x && (fewB (es.length + kws.length) && ((ap.endLine == p.line) && (chkEs l sc cm es && chkKs lk ks sc cm kws)))))))
    | _ => false
  | .makev i c l => fun sc cm e => match e with
    | .Call (.Name x _) es [] _ => cm && (mkvB P c && (nmB nn i x && (visB sc x && (okN x && chkEs l sc cm es))))
    | _ => false
  | .split a b => fun sc cm e => match e with
    | .Call (.Attribute a' m ap) [b'] [] p => decide (m = "split") && (plainBase a' && (noStar b' && ((ap.endLine == p.line) && (chkE a sc cm a' && chkE b sc cm b'))))
    | _ => false
  | .join a b => fun sc cm e => match e with
    | .Call (.Attribute a' m ap) [b'] [] p => decide (m = "join") && (plainBase a' && (noStar b' && ((ap.endLine == p.line) && (chkE a sc cm a' && chkE b sc cm b'))))
    | _ => false
  | .fstr l => fun sc cm e => match e with
    | .JoinedStr (v1 :: v2 :: r) _ => chkFs l sc cm (v1 :: v2 :: r)
    | _ => false
  | .cmeth .. => fun _ _ _ => false
  | .fldi .. => fun _ _ _ => false
  | .rev .. => fun _ _ _ => false
  | .get .. => fun _ _ _ => false
  | .pop .. => fun _ _ _ => false
def chkFs : Es → Scope → Bool → List Expr → Bool
  | .nil => fun _ _ es => es.isEmpty
  | .cons e l => fun sc cm es => match es with
    | .FormattedValue e' c none _ :: r => decide (c = -1) && (chkE e sc cm e' && chkFs l sc cm r)
    | .Constant (.str y) _ _ :: r => strB e y && chkFs l sc cm r
    | _ => false
  | .star .. => fun _ _ _ => false
def chkN : N → Scope → Bool → Expr → Bool
  | .lst l => fun sc cm e => match e with
    | .List es _ => chkEs l sc cm es
    | _ => false
  | .comp g it hc cond elt => fun sc cm e => match e with
    | .ListComp elt' [⟨tg, iter, ifs, n⟩] scope _ => cm && (decide (n = 0) && (!isSetE iter && (blkC nn sc scope (ownOf nn g) && (chkTg nn false (relS scope sc) g tg && (chkIt it sc cm iter && (chkE elt (relS scope sc) cm elt' && ifsB hc (fun c => chkE cond (relS scope sc) cm c) ifs))))))
    | _ => false
  | .dict _ l => fun _ _ e => match e with
    | .Dict [] [] _ => nilDs l
    | _ => false
  | .comp2 .. => fun _ _ _ => false
  | .dcomp .. => fun _ _ _ => false
  | .list .. => fun _ _ _ => false
  | .dictc .. => fun _ _ _ => false
  | .sorted .. => fun _ _ _ => false
  | .values .. => fun _ _ _ => false
def chkEs : Es → Scope → Bool → List Expr → Bool
  | .nil => fun _ _ es => es.isEmpty
  | .cons e l => fun sc cm es => match es with
    | e' :: r => noStar e' && (chkE e sc cm e' && chkEs l sc cm r)
    | [] => false
  | .star .. => fun _ _ _ => false
def chkKs : Es → List Str → Scope → Bool → List Keyword → Bool
  | .nil => fun ks _ _ es => es.isEmpty && ks.isEmpty
  | .cons e l => fun ks sc cm es => match ks, es with
    | x :: ks, ⟨some y, e', _⟩ :: r => decide (x = y) && (chkE e sc cm e' && chkKs l ks sc cm r)
    | _, _ => false
  | .star .. => fun _ _ _ _ => false
def chkIt : It → Scope → Bool → Expr → Bool
  | .e x => fun sc cm e => chkE x sc cm e
  | .range1 a => fun sc cm e => match e with
    | .Call (.Name f _) [a'] [] _ => decide (f = "range") && (glB sc "range" && (noStar a' && chkE a sc cm a'))
    | _ => false
  | .range2 a b => fun sc cm e => match e with
    | .Call (.Name f _) [a', b'] [] _ => decide (f = "range") && (glB sc "range" && (noStar a' && (noStar b' && (chkE a sc cm a' && chkE b sc cm b'))))
    | _ => false
  | .enum .. => fun _ _ _ => false
  | .zip .. => fun _ _ _ => false
end
def lcB : Expr → Bool
  | .ListComp .. => true
  | _ => false
def parB (is : List Nat) (x y : Str) : Bool := match is with
  | [i, j] => nmB nn i x && nmB nn j y && !(i == j)
  | _ => false
def slotB (sc : Scope) : Option Str → Option Nat → Bool
  | none, none => true
  | some y, some j => nmB nn j y && isLoc sc y
  | _, _ => false
def isTupE : Expr → Bool
  | .Tuple .. => true
  | _ => false
mutual
/-- cm: nothing is handled; tp: the def's own frame -/
def chkS : S → Scope → Bool → Bool → Stmt → Bool
  | .asg g e => fun sc cm _ s => match s with
    | .Assign [t] e' _ => (match g, t with
      | .n i, .Name x _ => nmB nn i x && (locB true sc x && ((!isCompE e' || lcB e') && chkE P K nn e sc cm e'))
      | .t l, .Tuple es _ _ => cm && (chkTgs nn true sc l es && (!isCompE e' && (!isTupE e' && chkE P K nn e sc cm e')))
      | _, _ => false)
    | _ => false
  | .par is l => fun sc cm _ s => match s with
    | .Assign [.Tuple [.Name x px, .Name y py] _ _] (.Tuple [a, b] _ _) _ => cm && (parB nn is x y && (isLoc sc x && (isLoc sc y && ((py.line == px.line) && (!decide (x = y) && (!([a, b].all (foldedForSure 8)) && (!([a, b].all (constantsAlone 8)) && chkEs P K nn l sc cm [a, b])))))))
    | _ => false
  | .setf c o k e => fun sc cm _ s => match s with
    | .Assign [.Attribute o' x _] e' _ => fldB P c k x && (!isCompE e' && (chkE P K nn e sc cm e' && chkE P K nn o sc cm o'))
    | _ => false
  | .seti o i e => fun sc cm _ s => match s with
    | .Assign [.Subscript o' i' _] e' _ => plainSet i' && (!isCompE e' && (chkE P K nn e sc cm e' && (chkE P K nn o sc cm o' && chkE P K nn i sc cm i')))
    | _ => false
  | .app o e => fun sc cm _ s => match s with
    | .Expr (.Call (.Attribute o' m ap) [e'] [] p) _ => decide (m = "append") && (plainBase o' && (noStar e' && ((ap.endLine == p.line) && (chkE P K nn o sc cm o' && chkE P K nn e sc cm e'))))
    | _ => false
  | .expr e => fun sc cm _ s => match s with
    | .Expr e' _ => !isCompE e' && chkE P K nn e sc cm e'
    | _ => false
  | .ret e => fun sc cm _ s => match s with
    | .Return (some e') _ => chkE P K nn e sc cm e'
    | _ => false
  | .retN => fun _ _ _ s => match s with
    | .Return none _ => true
    | _ => false
  | .pass => fun _ _ _ s => match s with
    | .Pass _ => true
    | _ => false
  | .ite c a b => fun sc cm tp s => match s with
    | .If c' a' b' _ => chkE P K nn c sc cm c' && (chkSs a sc cm tp a' && chkSs b sc cm tp b')
    | _ => false
  | .for_ g it b => fun sc cm tp s => match s with
    | .For tg iter b' [] _ => cm && (!isSetE iter && (chkTg nn true sc g tg && (chkIt P K nn it sc cm iter && chkSs b sc cm tp b')))
    | _ => false
  | .while_ c b => fun sc cm tp s => match s with
    | .While c' b' [] _ => chkE P K nn c sc cm c' && chkSs b sc cm tp b'
    | _ => false
  | .raise c l => fun sc cm _ s => match s with
    | .Raise (some (.Call (.Name x _) es [] _)) none _ => cm && (!(c == P.base) && (excNm P c x && (glB sc x && (okN x && (decide (es.length ≤ 100) && chkEs P K nn l sc cm es)))))
    | _ => false
  | .try_ b hs => fun sc cm tp s => match s with
    | .Try b' (h :: r) [] [] _ => cm && (tp && (chkSs b sc cm tp b' && chkHs hs sc (h :: r)))
    | _ => false
  | .setfd .. => fun _ _ _ _ => false
  | .setfi .. => fun _ _ _ _ => false
  | .clear .. => fun _ _ _ _ => false
  | .remove .. => fun _ _ _ _ => false
def chkSs : Ss → Scope → Bool → Bool → List Stmt → Bool
  | .nil => fun _ _ _ s => s.isEmpty
  | .cons s l => fun sc cm tp r => match r with
    | s' :: r => chkS s sc cm tp s' && chkSs l sc cm tp r
    | [] => false
def chkHs : Hs → Scope → List ExceptHandler → Bool
  | .nil => fun _ r => r.isEmpty
  | .cons c i b l => fun sc r => match r with
    | .ExceptHandler (some (.Name x _)) n (b0 :: su) _ :: r => excNm P c x && (glB sc x && (okN x && (slotB nn sc n i && (chkSs b sc false false (b0 :: su) && chkHs l sc r))))
    | _ => false
end
end
end MP
end
section
set_option  maxHeartbeats  4000000
/-! What the head tells; what is known where a piece stands. -/
namespace MP
open PySem PySem.Spec PyProof.Rows L2
structure Facts (P : Prog) (K : Fg) : Prop where
  fn : ∀ f d x, P.fn f = some d → d.at_ = (x, none) → PySem.W.nsIn K mainGlobals x = some (some (.ref (fA K d.at_))) ∧ PySem.W.keepIn K (.ref (fA K d.at_)) = true
  mt : ∀ f d x m, P.fn f = some d → d.at_ = (x, some m) → isCm K d.at_ = false → Meth K (He.ga K x) m (fA K d.at_)
  cm : ∀ f d x m, P.fn f = some d → d.at_ = (x, some m) → isCm K d.at_ = true → CmF K (He.ga K x) m (fA K d.at_)
  cl : ∀ (c : Nat) (cd : ClsDef), P.cls[c]? = some cd → cd.here = true → PySem.W.nsIn K mainGlobals cd.name = some (some (.ref (He.ga K cd.name)))
  own : ∀ (c : Nat) (cd : ClsDef), P.cls[c]? = some cd → cd.here = true → cd.exc = false → Cls K (ca P K c) ∧ (∀ x ∈ cd.flds, NoAttr K (ca P K c) x) ∧ ∀ d, P.fn cd.init = some d → Mk K (ca P K c) (fA K d.at_)
  nd : ∀ c, (fnm P c).Nodup
  sm : ∀ c, (fnm P c).length < 1000
  pd : ∀ f d, P.fn f = some d → d.ps.Nodup
  op : ∀ c j f, P.op c j = some f → OpF P K c
  isf : ∀ c, P.own c = true → IsF P K c
  exc : ∀ c mg, MgK K mg → isExc P c = true → c ≠ P.base ∨ fnm P c ≠ [] → ExF P K mg c
  exm : ∀ c c', isExc P c = true → isExc P c' = true → PySem.W.exmOne K (.ref (ca P K c)) (.ref (ca P K c')) = some (catches P c c')
  blt : ∀ x ∈ bltNames, PySem.W.nsIn K mainGlobals x = some none
abbrev XI := Option (Addr × Value × Option Addr)
section
variable {P : Prog} {K : Fg} {c : Nat} {xi : XI}
theorem ClsF.wx (h : ClsF P K c) : ClsF (P.wx xi) K c := ⟨h.cl, h.sf, h.ca_, h.cn, h.ct, h.cm, h.nf⟩
theorem OpF.wx (h : OpF P K c) : OpF (P.wx xi) K c := ⟨h.cf.wx, h.cmp, h.ne, h.neg, h.bin, h.no⟩
theorem IsF.wx (h : IsF P K c) : IsF (P.wx xi) K c := ⟨h.cf.wx, h.ty, h.fl, h.own⟩
theorem ExF.wx {mg : Str → Option Value} (h : ExF P K mg c) : ExF (P.wx xi) K mg c := ⟨h.ox, h.xf, h.no, h.make⟩
end
/-- what is known where an expression stands -/
structure Cz (P : Prog) (K : Fg) (nn : List Str) (xi : XI) (hd : Hd) (X : Cx) (Wx : WX) (k : Nat) (sc : Scope) (cm : Bool) : Prop where
  g : Gx (P.wx xi) hd X Wx k
  eK : X.K = K
  es : X.env.scope = sc
  eN : X.N = nn
  calm : cm = true → X.calm = true
  mg : MgK K X.mg
  F : Facts P K
  sx : ∀ a cls d, xi = some (a, cls, d) → ∃ oe, Zc cls d oe ∧ (∃ vs, oe.data = .fields vs) ∧ (a, oe) ∈ X.pn
  xi0 : cm = true → xi = none
/-- .. a statement -/
structure Cs (P : Prog) (K : Fg) (nn : List Str) (xi : XI) (hd : Hd) (X : Cx) (Wx : WX) (k : Nat) (sc : Scope) (cm tp : Bool) : Prop where
  z : Cz P K nn xi hd X Wx k sc cm
  kf : sc.kind = .function
  fn : ∀ x, X.fn x = true
  pass : PassesOwn (model X.prog X.w) X.A X.env X.xe
  top : tp = true → X.stack = X.env :: X.outer ∧ X.env.frame = some X.env.locals
section
variable {P : Prog} {K : Fg} {nn : List Str} {xi : XI} {hd : Hd} {X : Cx} {Wx : WX} {k : Nat} {sc : Scope} {cm tp : Bool}
/-- in a comprehension -/
theorem Cz.blk (z : Cz P K nn xi hd X Wx k sc true) (s : Shared) (H : Hp) (scope : Scope) (cl : List (Str × Addr)) (C : Addr) (fp : List Addr) : Cz P K nn xi hd (X.blk s H scope (compEnvC scope cl C X.env) fp) noW k (relS scope sc) true := by
  obtain ⟨g, rfl, rfl, rfl, hc, mg, F, sx, x0⟩ := z
  refine ⟨⟨g.hP, g.nd, takes_none5, g.un, g.room, g.gd, g.dumb, fun f d fr h => ⟨(g.fns f d fr h).ex⟩, g.ops⟩, rfl, rfl, rfl, hc, mg, F, fun a cls d e => ?_, x0⟩
  rw [x0 rfl] at e
  cases e
/-- in the body of a try -/
theorem Cs.tr {W : WX} {pn : List (Addr × Obj)} {xe : Value → Shared → Prop} (z : Cs P K nn xi hd X Wx k sc true tp) (tk : Takes (X.tr pn xe) W) (pass : PassesOwn (model X.prog X.w) X.A X.env xe) : Cs P K nn xi hd (X.tr pn xe) W k sc true tp := by
  obtain ⟨⟨g, rfl, rfl, rfl, hc, mg, F, sx, x0⟩, kf, fn, _, top⟩ := z
  refine ⟨⟨⟨g.hP, g.nd, tk, g.un, g.room, g.gd, g.dumb, fun f d fr h => ⟨(g.fns f d fr h).ex⟩, g.ops⟩, rfl, rfl, rfl, hc, mg, F, fun a cls d e => ?_, x0⟩, kf, fn, pass, top⟩
  rw [x0 rfl] at e
  cases e
theorem Rm.mark {j : Nat} {A : Around} {u : Option Value} (h : A.guards = some []) : (A.mark u).guards = some [] := h
/-- in an except suite -/
theorem Cs.suite (z : Cs P K nn xi hd X Wx k sc true tp) (a : Addr) (oe : Obj) (cls : Value) (d : Option Addr) (pn : List (Addr × Obj)) (hz : Zc cls d oe) (hf : ∃ vs, oe.data = .fields vs) :
    Cs P K nn (some (a, cls, d)) ⟨P.wx (some (a, cls, d)), fun _ _ _ _ => .bad⟩ (X.suite a ((a, oe) :: pn)) noW k sc false false := by
  obtain ⟨⟨g, rfl, rfl, rfl, hc, mg, F, sx, x0⟩, kf, fn, pass, top⟩ := z
  refine ⟨⟨⟨rfl, g.nd, takes_none5, g.un, (fun z => nomatch z), g.gd, fun _ _ _ _ _ => rfl, fun f dd fr h => ?_, fun c j f h => (F.op c j f h).wx⟩, rfl, rfl, rfl, (fun z => nomatch z), mg, F, fun a' cls' d' e => ?_, (fun z => nomatch z)⟩, kf, fn, PassesOwn.never, (fun z => nomatch z)⟩
  · obtain ⟨fd, dvs, its, FG, rd, hdl, hb, hbk⟩ := (g.fns f dd fr h).ex
    refine ⟨fd, dvs, its, ⟨fun vs H Q E q => ?_, fun A outer s H args us vs Q E hr e0 hb rv q => ?_⟩, rd, fun w H => DatL.wx (P := P.wx xi) (x := some (a, cls, d)) (hdl w H), hb, hbk⟩
    · obtain ⟨w, as, m, _, _, _, p⟩ := q
      exact p.elim
    · obtain ⟨w, as, m, _, _, _, p⟩ := q
      exact p.elim
  · cases e
    exact ⟨oe, hz, hf, List.mem_cons_self⟩
end
end MP
end
section
set_option  maxHeartbeats  4000000
/-! The test is sound: expressions. -/
namespace MP
open PySem PySem.Spec PyProof.Rows L2
def isBO : Expr → Bool
  | .BoolOp .. => true
  | _ => false
structure PEQ (P : Prog) (X : Cx) (Wx : WX) (e : Expr) (f : List W → M → R W) : Prop where
  b : PEB P X Wx e f
  w : isBO e = true → PW X e (RB P X Wx f)
theorem PEB.q {P : Prog} {X : Cx} {Wx : WX} {e : Expr} {f : List W → M → R W} (h : PEB P X Wx e f) (hn : isBO e = false) : PEQ P X Wx e f := ⟨h, fun z => by rw [hn] at z; cases z⟩
theorem PEW.q {P : Prog} {X : Cx} {Wx : WX} {e : Expr} {f : List W → M → R W} (h : PEW P X Wx e f) : PEQ P X Wx e f := ⟨h.peb, fun _ => h.pw⟩
section
variable {P : Prog} {K : Fg} {nn : List Str} {xi : XI} {hd : Hd} {X : Cx} {Wx : WX} {k : Nat} {sc : Scope} {cm : Bool}
theorem Cz.gl (z : Cz P K nn xi hd X Wx k sc cm) {x : Str} (h : glB sc x = true) : Gl X x := by
  have := glB_ok h
  rw [← z.es] at this
  exact this
theorem Cz.blt (z : Cz P K nn xi hd X Wx k sc cm) {x : Str} (h : x ∈ bltNames) : X.mg x = none := z.mg.no x (z.F.blt x h)
theorem ownNm_ok {c : Nat} {x : Str} (h : ownNm P c x = true) : ∃ cd, P.cls[c]? = some cd ∧ cd.here = true ∧ cd.exc = false ∧ cd.name = x := by
  unfold ownNm at h
  cases e : P.cls[c]? with
  | none => rw [e] at h; cases h
  | some cd =>
    rw [e] at h
    obtain ⟨h1, h⟩ := He.ba h
    obtain ⟨h2, h3⟩ := He.ba h
    exact ⟨cd, rfl, h1, by simpa using h2, of_decide_eq_true h3⟩
theorem excNm_ok {c : Nat} {x : Str} (h : excNm P c x = true) : isExc P c = true ∧ ∃ cd, P.cls[c]? = some cd ∧ cd.here = true ∧ cd.name = x := by
  unfold excNm at h
  unfold isExc
  cases e : P.cls[c]? with
  | none => rw [e] at h; cases h
  | some cd =>
    rw [e] at h
    obtain ⟨h1, h⟩ := He.ba h
    obtain ⟨h2, h3⟩ := He.ba h
    refine ⟨?_, cd, rfl, h1, of_decide_eq_true h3⟩
    show (cd.here && cd.exc) = true
    rw [h1, h2]
    rfl
theorem Cz.cls (z : Cz P K nn xi hd X Wx k sc cm) {c : Nat} {cd : ClsDef} (h : P.cls[c]? = some cd) (hh : cd.here = true) : X.mg cd.name = some (.ref (ca (P.wx xi) X.K c)) := by
  have e : ca (P.wx xi) X.K c = He.ga X.K cd.name := by
    show ca P X.K c = _
    unfold ca
    rw [h]
  rw [e]
  have := z.mg.yes _ _ (z.F.cl c cd h hh)
  rw [← z.eK] at this
  exact this
theorem fnAt_ok {f : Nat} {x : Str} (h : fnAt P f x = true) : ∃ d, P.fn f = some d ∧ d.at_ = (x, none) := by
  unfold fnAt at h
  cases e : P.fn f with
  | none => rw [e] at h; cases h
  | some d => rw [e] at h; exact ⟨d, rfl, of_decide_eq_true h⟩
theorem cmAt_ok {c f : Nat} {m : Str} (h : cmAt P K c f m = true) : ∃ cd d, P.cls[c]? = some cd ∧ cd.here = true ∧ cd.exc = false ∧ P.fn f = some d ∧ d.at_ = (cd.name, some m) ∧ isCm K d.at_ = true := by
  unfold cmAt at h
  cases e : P.cls[c]? with
  | none => rw [e] at h; cases h
  | some cd =>
    rw [e] at h
    obtain ⟨h1, h⟩ := He.ba h
    obtain ⟨h2, h⟩ := He.ba h
    cases e2 : P.fn f with
    | none => rw [e2] at h; cases h
    | some d =>
      rw [e2] at h
      obtain ⟨h3, h4⟩ := He.ba h
      exact ⟨cd, d, rfl, h1, by simpa using h2, rfl, of_decide_eq_true h3, h4⟩
theorem mkvB_ok {c : Nat} (h : mkvB P c = true) : ∃ cd d, P.cls[c]? = some cd ∧ cd.here = true ∧ cd.exc = false ∧ P.fn cd.init = some d := by
  unfold mkvB at h
  cases e : P.cls[c]? with
  | none => rw [e] at h; cases h
  | some cd =>
    rw [e] at h
    obtain ⟨h1, h⟩ := He.ba h
    obtain ⟨h2, h4⟩ := He.ba h
    obtain ⟨d, hd⟩ := Option.isSome_iff_exists.mp h4
    exact ⟨cd, d, rfl, h1, by simpa using h2, hd⟩
theorem strB_ok {e : E} {y : Str} (h : strB e y = true) : ∃ s, e = .str s ∧ y = ts s := by
  cases e with
  | str s => exact ⟨s, rfl, of_decide_eq_true h⟩
  | _ => cases h
theorem mthAt_ok {c f : Nat} {m : Str} (h : mthAt P K c f m = true) : ∃ cd d, P.cls[c]? = some cd ∧ cd.here = true ∧ cd.exc = false ∧ m ∉ cd.flds ∧ P.fn f = some d ∧ d.at_ = (cd.name, some m) ∧ isCm K d.at_ = false := by
  unfold mthAt at h
  cases e : P.cls[c]? with
  | none => rw [e] at h; cases h
  | some cd =>
    rw [e] at h
    obtain ⟨h1, h⟩ := He.ba h
    obtain ⟨h2, h⟩ := He.ba h
    obtain ⟨h3, h⟩ := He.ba h
    cases e2 : P.fn f with
    | none => rw [e2] at h; cases h
    | some d =>
      rw [e2] at h
      obtain ⟨h4, h5⟩ := He.ba h
      exact ⟨cd, d, rfl, h1, by simpa using h2, by simpa using h3, rfl, of_decide_eq_true h4, by simpa using h5⟩
theorem fldB_ok {c j : Nat} {x : Str} (h : fldB P c j x = true) : ∃ cd, P.cls[c]? = some cd ∧ cd.here = true ∧ cd.exc = false ∧ cd.flds[j]? = some x := by
  unfold fldB at h
  cases e : P.cls[c]? with
  | none => rw [e] at h; cases h
  | some cd =>
    rw [e] at h
    obtain ⟨h1, h⟩ := He.ba h
    obtain ⟨h2, h3⟩ := He.ba h
    exact ⟨cd, rfl, h1, by simpa using h2, of_decide_eq_true h3⟩
theorem makeB_ok {c : Nat} {x : Str} (h : makeB P c x = true) : ∃ cd d, P.cls[c]? = some cd ∧ cd.here = true ∧ cd.exc = false ∧ cd.name = x ∧ P.fn cd.init = some d := by
  unfold makeB at h
  cases e : P.cls[c]? with
  | none => rw [e] at h; cases h
  | some cd =>
    rw [e] at h
    obtain ⟨h1, h⟩ := He.ba h
    obtain ⟨h2, h⟩ := He.ba h
    obtain ⟨h3, h4⟩ := He.ba h
    obtain ⟨d, hd⟩ := Option.isSome_iff_exists.mp h4
    exact ⟨cd, d, rfl, h1, by simpa using h2, of_decide_eq_true h3, hd⟩
theorem fnm_of {c : Nat} {cd : ClsDef} (h : P.cls[c]? = some cd) : fnm P c = cd.flds := by
  unfold fnm
  rw [h]
theorem ca_of {c : Nat} {cd : ClsDef} (h : P.cls[c]? = some cd) : ca P K c = He.ga K cd.name := by
  unfold ca
  rw [h]
theorem ty_boot : bootBuiltins "int" = some (.type "int") ∧ bootBuiltins "bool" = some (.type "bool") ∧ bootBuiltins "str" = some (.type "str") ∧ bootBuiltins "list" = some (.type "list") ∧ bootBuiltins "tuple" = some (.type "tuple") ∧ bootBuiltins "dict" = some (.type "dict") := by
  refine ⟨?_, ?_, ?_, ?_, ?_, ?_⟩ <;> decide +kernel
theorem blt_mem : ("int" : Str) ∈ bltNames ∧ ("bool" : Str) ∈ bltNames ∧ ("str" : Str) ∈ bltNames ∧ ("list" : Str) ∈ bltNames ∧ ("tuple" : Str) ∈ bltNames ∧ ("dict" : Str) ∈ bltNames ∧ ("isinstance" : Str) ∈ bltNames ∧ ("range" : Str) ∈ bltNames := by
  refine ⟨?_, ?_, ?_, ?_, ?_, ?_, ?_, ?_⟩ <;> decide +kernel
theorem Cz.ty (z : Cz P K nn xi hd X Wx k sc cm) {t : Ty} {x : Str} (h : tyXB P sc t x = true) : ∃ v u, TyV (P.wx xi) X x t v u := by
  have mk : ∀ (y : Str) (T : String), (decide (x = y) && glB sc x) = true → y ∈ bltNames → bootBuiltins y = some (.type T) → y ≠ "__name__" → (y == ("__debug__" : Str)) = false → t.name = some T → ∃ v u, TyV (P.wx xi) X x t v u := by
    intro y T h hm hb hn hdb ht
    obtain ⟨h1, h2⟩ := He.ba h
    have e : x = y := of_decide_eq_true h1
    subst e
    exact ⟨_, _, .blt (z.gl h2) (z.blt hm) hb hn hdb ht⟩
  obtain ⟨b1, b2, b3, b4, b5, b6⟩ := ty_boot
  obtain ⟨m1, m2, m3, m4, m5, m6, _, _⟩ := blt_mem
  cases t with
  | int => exact mk "int" "int" h m1 b1 (by decide) (by decide) rfl
  | bool => exact mk "bool" "bool" h m2 b2 (by decide) (by decide) rfl
  | str => exact mk "str" "str" h m3 b3 (by decide) (by decide) rfl
  | list => exact mk "list" "list" h m4 b4 (by decide) (by decide) rfl
  | tuple => exact mk "tuple" "tuple" h m5 b5 (by decide) (by decide) rfl
  | dict => exact mk "dict" "dict" h m6 b6 (by decide) (by decide) rfl
  | cls c =>
    obtain ⟨h1, h⟩ := He.ba h
    obtain ⟨h2, h3⟩ := He.ba h
    obtain ⟨cd, e1, e2, e3, rfl⟩ := ownNm_ok h1
    refine ⟨_, _, .own (z.gl h2) (z.cls e1 e2) (okN_ok h3).1 ?_⟩
    show P.own c = true
    unfold Prog.own
    rw [e1]
    show (cd.here && !cd.exc) = true
    rw [e2, e3]
    rfl
theorem bf_boot : ∀ (f : BF) (fv : Value), f.val = some fv → bootBuiltins f.name = some fv ∧ f.name ∈ bltNames ∧ f.name ≠ "__name__" ∧ (f.name == ("__debug__" : Str)) = false ∧ ((∃ id, fv = .builtin id) ∨ ∃ id, fv = .type id) := by
  intro f fv h
  cases f <;> cases h <;> refine ⟨by decide +kernel, by decide +kernel, by decide, by decide, ?_⟩ <;> first | exact .inl ⟨_, rfl⟩ | exact .inr ⟨_, rfl⟩
theorem PTs.imp {e : List Expr} {t t' : TT} (h : PTs X e t) (hi : ∀ σ H Q, t' σ H Q → t σ H Q) : PTs X e t' := ⟨fun pins s σ H Q I q => h.run pins s σ H Q I (hi σ H Q q)⟩
end
theorem isiB_ok {P : Prog} {sc : Scope} {t' : Expr} {tys : List Ty} (h : isiB P sc t' tys = true) : (∃ x p t, t' = .Name x p ∧ tys = [t] ∧ tyXB P sc t x = true) ∨
    ∃ x p1 y p2 n p3 t u, t' = .Tuple [.Name x p1, .Name y p2] n p3 ∧ tys = [t, u] ∧ tyXB P sc t x = true ∧ tyXB P sc u y = true := by
  unfold isiB at h
  split at h
  · exact .inl ⟨_, _, _, rfl, rfl, h⟩
  · obtain ⟨k1, k2⟩ := He.ba h
    exact .inr ⟨_, _, _, _, _, _, _, _, rfl, rfl, k1, k2⟩
  · cases h
/-- the parts of a comprehension, by the test -/
theorem comp_mk {P : Prog} {K : Fg} {nn : List Str} {xi : XI} {hd : Hd} {k : Nat} {g : Tg} {it : It} {hc : Bool} {cond elt : E} {elt' : Expr} {gs : List Comprehension} {scope : Scope} {p : Pos} {X : Cx} {Wx : WX} {sc : Scope} {cm : Bool} (z : Cz P K nn xi hd X Wx k sc cm) (h : chkN P K nn (.comp g it hc cond elt) sc cm (.ListComp elt' gs scope p) = true)
    (fE : ∀ {e : Expr} {X : Cx} {Wx : WX} {sc : Scope} {cm : Bool}, Cz P K nn xi hd X Wx k sc cm → chkE P K nn elt sc cm e = true → PEQ (P.wx xi) X Wx e (evE hd elt)) (fC : ∀ {e : Expr} {X : Cx} {Wx : WX} {sc : Scope} {cm : Bool}, Cz P K nn xi hd X Wx k sc cm → chkE P K nn cond sc cm e = true → PEQ (P.wx xi) X Wx e (evE hd cond))
    (fI : ∀ {e tg : Expr} {X : Cx} {Wx : WX} {sc : Scope} {cm : Bool}, Cz P K nn xi hd X Wx k sc cm → chkIt P K nn it sc cm e = true → PI X tg e (rI (P.wx xi) X.K (evIt hd it) Wx)) :
    ∃ tg iter ifs, gs = [⟨tg, iter, ifs, 0⟩] ∧ CompOk (P.wx xi) X Wx elt' tg iter ifs scope g (evIt hd it) (fun ρ m => if hc then (evE hd cond ρ m).bnd asB else .ok true m) (evE hd elt) := by
  match gs, h with
  | [⟨tg, iter, ifs, n⟩], h =>
    obtain ⟨h0, h⟩ := He.ba (show (cm && (decide (n = 0) && (!isSetE iter && (blkC nn sc scope (ownOf nn g) && (chkTg nn false (relS scope sc) g tg && (chkIt P K nn it sc cm iter && (chkE P K nn elt (relS scope sc) cm elt' && ifsB hc (fun c => chkE P K nn cond (relS scope sc) cm c) ifs))))))) = true from h)
    obtain ⟨h1, h⟩ := He.ba h
    obtain ⟨h2, h⟩ := He.ba h
    obtain ⟨h3, h⟩ := He.ba h
    obtain ⟨h4, h⟩ := He.ba h
    obtain ⟨h5, h⟩ := He.ba h
    obtain ⟨h6, h7⟩ := He.ba h
    have en : n = 0 := of_decide_eq_true h1
    subst en h0
    refine ⟨tg, iter, ifs, rfl, z.calm rfl, z.g.nd, fI z h5, ?_, fun s H C cl fp => ?_, fun s H C cl fp => ?_, fun s H C cl fp => (fE (z.blk s H scope cl C fp) h6).b.pe, by simpa using h2⟩
    · rw [z.eN, z.es]
      exact blkOk_by h3
    · have zb := z.blk s H scope cl C fp
      refine tg_ok (fnx := false) (zb.calm rfl) zb.g.nd (fun q => nomatch q) ?_
      rw [zb.eN, zb.es]
      exact h4
    · have zb := z.blk s H scope cl C fp
      match ifs, h7 with
      | [], h7 =>
        have e : hc = false := by simpa [ifsB] using h7
        subst e
        exact PTs.imp pts_nil fun σ H Q ⟨w, ρ, m, hm, hs, p⟩ => p true w H .rfl hm rfl
      | [c], h7 =>
        obtain ⟨e, h8⟩ := He.ba (show (hc && chkE P K nn cond (relS scope sc) true c) = true from h7)
        subst e
        exact pts_one (fC zb h8).b.pt
mutual
theorem chkE_ok {P : Prog} {K : Fg} {nn : List Str} {xi : XI} {hd : Hd} {k : Nat} : ∀ (t : E) {e : Expr} {X : Cx} {Wx : WX} {sc : Scope} {cm : Bool}, Cz P K nn xi hd X Wx k sc cm → chkE P K nn t sc cm e = true → PEQ (P.wx xi) X Wx e (evE hd t)
  | .var i, e, X, Wx, sc, cm, z, h => by
    cases e with
    | Name x p =>
      obtain ⟨h1, h⟩ := He.ba (show (nmB nn i x && (visB sc x && okN x)) = true from h)
      obtain ⟨h2, h3⟩ := He.ba h
      have v := visB_ok h2
      rw [← z.es] at v
      exact (e_var (by rw [z.eN]; exact nmB_ok h1) v (okN_ok h3).1 (okN_ok h3).2).q rfl
    | _ => cases h
  | .int i, e, X, Wx, sc, cm, z, h => by
    cases e with
    | Constant c j p =>
      cases c with
      | int n =>
        have e : i = n := of_decide_eq_true h
        subst e
        exact e_int.q rfl
      | _ => cases h
    | _ => cases h
  | .str x, e, X, Wx, sc, cm, z, h => by
    cases e with
    | Constant c j p =>
      cases c with
      | str n =>
        have e : n = ts x := of_decide_eq_true h
        subst e
        exact e_str.q rfl
      | _ => cases h
    | _ => cases h
  | .bl x, e, X, Wx, sc, cm, z, h => by
    cases e with
    | Constant c j p =>
      cases c with
      | bool n =>
        have e : x = n := of_decide_eq_true h
        subst e
        exact e_bl.q rfl
      | _ => cases h
    | _ => cases h
  | .non, e, X, Wx, sc, cm, z, h => by
    cases e with
    | Constant c j p =>
      cases c with
      | none => exact e_non.q rfl
      | _ => cases h
    | _ => cases h
  | .glob x d, e, X, Wx, sc, cm, z, h => by
    cases e with
    | Name y p =>
      obtain ⟨h1, h⟩ := He.ba (show (decide (x = y) && (glB sc x && (okN x && globB K x d))) = true from h)
      obtain ⟨h2, h⟩ := He.ba h
      obtain ⟨h3, h4⟩ := He.ba h
      have e : x = y := of_decide_eq_true h1
      subst e
      exact (e_glob (by rw [z.eK]; exact z.mg) (z.gl h2) h3 (by rw [z.eK]; exact h4)).q rfl
    | _ => cases h
  | .bin op a b, e, X, Wx, sc, cm, z, h => by
    cases e with
    | BinOp a' o b' p =>
      obtain ⟨h1, h⟩ := He.ba (show (opB op o && (chkE P K nn a sc cm a' && chkE P K nn b sc cm b')) = true from h)
      obtain ⟨h2, h3⟩ := He.ba h
      cases opB_ok h1
      exact (e_bin (op_binW z.g op) (chkE_ok a z h2).b (chkE_ok b z h3).b).q rfl
    | _ => cases h
  | .neg a, e, X, Wx, sc, cm, z, h => by
    cases e with
    | UnaryOp o a' p =>
      cases o with
      | USub => exact (e_un (op_negW z.g) (chkE_ok a z h).b fun _ => rfl).q rfl
      | _ => cases h
    | _ => cases h
  | .not a, e, X, Wx, sc, cm, z, h => by
    cases e with
    | UnaryOp o a' p =>
      cases o with
      | Not => exact (e_not (chkE_ok a z h).b).q rfl
      | _ => cases h
    | _ => cases h
  | .cmp op a b, e, X, Wx, sc, cm, z, h => by
    cases e with
    | Compare a' os bs p =>
      match os, bs, h with
      | [o], [b'], h =>
        obtain ⟨h1, h⟩ := He.ba (show (copB op o && (!behindInMarks o b' && (chkE P K nn a sc cm a' && chkE P K nn b sc cm b'))) = true from h)
        obtain ⟨h2, h⟩ := He.ba h
        obtain ⟨h3, h4⟩ := He.ba h
        cases copB_ok h1
        exact (e_cmp (op_cmpW z.g op) (chkE_ok a z h3).b (chkE_ok b z h4).b (by simpa using h2)).q rfl
    | _ => cases h
  | .cmp2 op op' a b c, e, X, Wx, sc, cm, z, h => by
    cases e with
    | Compare a' os bs p =>
      match os, bs, h with
      | [o, o'], [b', c'], h =>
        obtain ⟨h1, h⟩ := He.ba (show (copB op o && (copB op' o' && (!lastMarks [o, o'] [b', c'] && (chkE P K nn a sc cm a' && (chkE P K nn b sc cm b' && chkE P K nn c sc cm c'))))) = true from h)
        obtain ⟨h2, h⟩ := He.ba h
        obtain ⟨h3, h⟩ := He.ba h
        obtain ⟨h4, h⟩ := He.ba h
        obtain ⟨h5, h6⟩ := He.ba h
        cases copB_ok h1
        cases copB_ok h2
        exact (e_cmp2 (op_cmpW z.g op) (op_cmpW z.g op') (chkE_ok a z h4).b (chkE_ok b z h5).b (chkE_ok c z h6).b (by simpa using h3)).q rfl
    | _ => cases h
  | .isN a, e, X, Wx, sc, cm, z, h => by
    cases e with
    | Compare a' os bs p =>
      match os, bs, h with
      | [.Is], [.Constant .none _ _], h => exact (e_isN (chkE_ok a z (show chkE P K nn a sc cm a' = true from h)).b).q rfl
    | _ => cases h
  | .notN a, e, X, Wx, sc, cm, z, h => by
    cases e with
    | Compare a' os bs p =>
      match os, bs, h with
      | [.IsNot], [.Constant .none _ _], h => exact (e_notN (chkE_ok a z (show chkE P K nn a sc cm a' = true from h)).b).q rfl
    | _ => cases h
  | .and a b, e, X, Wx, sc, cm, z, h => by
    cases e with
    | BoolOp o l p =>
      match o, l, h with
      | .And, [a', b'], h =>
        obtain ⟨h1, h2⟩ := He.ba (show (chkE P K nn a sc cm a' && chkE P K nn b sc cm b') = true from h)
        exact (w_and (chkE_ok a z h1).b (w_and1 (chkE_ok b z h2).b)).q
      | .And, a' :: b' :: c' :: r, h =>
        obtain ⟨h1, h2⟩ := He.ba (show (chkE P K nn a sc cm a' && chkE P K nn b sc cm (.BoolOp .And (b' :: c' :: r) p)) = true from h)
        have q := chkE_ok b z h2
        exact (w_and (chkE_ok a z h1).b ⟨q.b.pe, q.w rfl⟩).q
    | _ => cases h
  | .or a b, e, X, Wx, sc, cm, z, h => by
    cases e with
    | BoolOp o l p =>
      match o, l, h with
      | .Or, [a', b'], h =>
        obtain ⟨h1, h2⟩ := He.ba (show (chkE P K nn a sc cm a' && chkE P K nn b sc cm b') = true from h)
        exact (w_or (chkE_ok a z h1).b (w_or1 (chkE_ok b z h2).b)).q
      | .Or, a' :: b' :: c' :: r, h =>
        obtain ⟨h1, h2⟩ := He.ba (show (chkE P K nn a sc cm a' && chkE P K nn b sc cm (.BoolOp .Or (b' :: c' :: r) p)) = true from h)
        have q := chkE_ok b z h2
        exact (w_or (chkE_ok a z h1).b ⟨q.b.pe, q.w rfl⟩).q
    | _ => cases h
  | .ite c a b, e, X, Wx, sc, cm, z, h => by
    cases e with
    | IfExp c' a' b' p =>
      obtain ⟨h1, h⟩ := He.ba (show (chkE P K nn c sc cm c' && (chkE P K nn a sc cm a' && chkE P K nn b sc cm b')) = true from h)
      obtain ⟨h2, h3⟩ := He.ba h
      exact (e_ite (chkE_ok c z h1).b (chkE_ok a z h2).b (chkE_ok b z h3).b).q rfl
    | _ => cases h
  | .tup l, e, X, Wx, sc, cm, z, h => by
    cases e with
    | Tuple es n p =>
      obtain ⟨h1, h2⟩ := He.ba (show (decide (es.length ≤ 10000) && chkEs P K nn l sc cm es) = true from h)
      have q := e_tup (k := n) (pos := p) (chkEs_ok l z h2) (of_decide_eq_true h1)
      rw [← z.g.hP] at q
      exact (show PEB (P.wx xi) X Wx _ (evE hd (.tup l)) by rw [← z.g.hP]; exact q).q rfl
    | _ => cases h
  | .call f fr l, e, X, Wx, sc, cm, z, h => by
    cases e with
    | Call fe es kws p =>
      match fe, kws, h with
      | .Name x p0, [], h =>
        obtain ⟨h0, h⟩ := He.ba (show (cm && (fnAt P f x && (glB sc x && (okN x && chkEs P K nn l sc cm es)))) = true from h)
        obtain ⟨h1, h⟩ := He.ba h
        obtain ⟨h2, h⟩ := He.ba h
        obtain ⟨h3, h4⟩ := He.ba h
        obtain ⟨d, hf, hat⟩ := fnAt_ok h1
        obtain ⟨n1, n2⟩ := z.F.fn f d x hf hat
        have q := e_call (p0 := p0) (pos := p) (z.g.fns f d fr hf) z.g.hP hf ((z.g.room (z.calm h0)).mono (by omega)) z.g.tk (z.gl h2) (by rw [z.eK]; exact z.mg.yes _ _ n1) (by rw [z.eK]; exact n2) (okN_ok h3).1 (chkEs_ok l z h4)
        exact (show PEB (P.wx xi) X Wx _ (evE hd (.call f fr l)) from q.congr (by funext ρ m; simp only [evE]; rw [z.g.hP]; try rfl)).q rfl
    | _ => cases h
  | .callk f l ks lk, e, X, Wx, sc, cm, z, h => by
    cases e with
    | Call fe es kws p =>
      match fe, h with
      | .Name x p0, h =>
        obtain ⟨h0, h⟩ := He.ba (show (cm && (fnAt P f x && (glB sc x && (okN x && (chkEs P K nn l sc cm es && chkKs P K nn lk ks sc cm kws))))) = true from h)
        obtain ⟨h1, h⟩ := He.ba h
        obtain ⟨h2, h⟩ := He.ba h
        obtain ⟨h3, h⟩ := He.ba h
        obtain ⟨h4, h5⟩ := He.ba h
        obtain ⟨d, hf, hat⟩ := fnAt_ok h1
        obtain ⟨n1, n2⟩ := z.F.fn f d x hf hat
        have q := e_callk (p0 := p0) (pos := p) (z.g.fns f d false hf) z.g.hP hf ((z.g.room (z.calm h0)).mono (by omega)) z.g.tk (z.gl h2) (by rw [z.eK]; exact z.mg.yes _ _ n1) (by rw [z.eK]; exact n2) (okN_ok h3).1 (chkEs_ok l z h4) (chkKs_ok lk ks z h5)
        exact (show PEB (P.wx xi) X Wx _ (evE hd (.callk f l ks lk)) from q.congr (by funext ρ m; simp only [evE]; rw [z.g.hP]; try rfl)).q rfl
    | _ => cases h
  | .meth c o f fr l, e, X, Wx, sc, cm, z, h => by
    cases e with
    | Call fe es kws p =>
      match fe, kws, h with
      | .Attribute o' m ap, [], h =>
        obtain ⟨h0, h⟩ := He.ba (show (cm && (mthAt P K c f m && (plainBase o' && (fewB es.length && ((ap.endLine == p.line) && (chkE P K nn o sc cm o' && chkEs P K nn l sc cm es)))))) = true from h)
        obtain ⟨h1, h⟩ := He.ba h
        obtain ⟨h2, h⟩ := He.ba h
        obtain ⟨h3, h⟩ := He.ba h
        obtain ⟨h4, h⟩ := He.ba h
        obtain ⟨h5, h6⟩ := He.ba h
        obtain ⟨cd, d, e1, e2, e3, e4, hf, hat, hcm⟩ := mthAt_ok h1
        have hl : es.length ≤ 25 := of_decide_eq_true h3
        have cl := (z.F.own c cd e1 e2 e3).1
        have mt := z.F.mt f d cd.name m hf hat hcm
        rw [← ca_of (P := P) e1] at mt
        rw [← z.eK] at cl mt
        have q := e_meth (P := P.wx xi) (c := c) (es := es) (apos := ap) (pos := p) (z.g.fns f d fr hf) z.g.hP hf ((z.g.room (z.calm h0)).mono (by omega)) z.g.tk cl mt (by show m ∉ fnm P c; rw [fnm_of e1]; exact e4) h2 (by omega) h4 (chkE_ok o z h5).b (chkEs_ok l z h6)
        exact (show PEB (P.wx xi) X Wx _ (evE hd (.meth c o f fr l)) from q.congr (by funext ρ m; simp only [evE]; rw [z.g.hP]; try rfl)).q rfl
    | _ => cases h
  | .methk c o f l ks lk, e, X, Wx, sc, cm, z, h => by
    cases e with
    | Call fe es kws p =>
      match fe, h with
      | .Attribute o' m ap, h =>
        obtain ⟨h0, h⟩ := He.ba (show (cm && (mthAt P K c f m && (plainBase o' && (fewB (es.length + kws.length) && ((ap.endLine == p.line) && (chkE P K nn o sc cm o' && (chkEs P K nn l sc cm es && chkKs P K nn lk ks sc cm kws))))))) = true from h)
        obtain ⟨h1, h⟩ := He.ba h
        obtain ⟨h2, h⟩ := He.ba h
        obtain ⟨h3, h⟩ := He.ba h
        obtain ⟨h4, h⟩ := He.ba h
        obtain ⟨h5, h⟩ := He.ba h
        obtain ⟨h6, h7⟩ := He.ba h
        obtain ⟨cd, d, e1, e2, e3, e4, hf, hat, hcm⟩ := mthAt_ok h1
        have hl : es.length + kws.length ≤ 25 := of_decide_eq_true h3
        have cl := (z.F.own c cd e1 e2 e3).1
        have mt := z.F.mt f d cd.name m hf hat hcm
        rw [← ca_of (P := P) e1] at mt
        rw [← z.eK] at cl mt
        have q := e_methk (P := P.wx xi) (c := c) (es := es) (apos := ap) (pos := p) (z.g.fns f d false hf) z.g.hP hf ((z.g.room (z.calm h0)).mono (by omega)) z.g.tk cl mt (by show m ∉ fnm P c; rw [fnm_of e1]; exact e4) h2 (by omega) h4 (chkE_ok o z h5).b (chkEs_ok l z h6) (chkKs_ok lk ks z h7)
        exact (show PEB (P.wx xi) X Wx _ (evE hd (.methk c o f l ks lk)) from q.congr (by funext ρ m; simp only [evE]; rw [z.g.hP]; try rfl)).q rfl
    | _ => cases h
  | .make c fr l, e, X, Wx, sc, cm, z, h => by
    cases e with
    | Call fe es kws p =>
      match fe, kws, h with
      | .Name x p0, [], h =>
        obtain ⟨h0, h⟩ := He.ba (show (cm && (makeB P c x && (glB sc x && (okN x && chkEs P K nn l sc cm es)))) = true from h)
        obtain ⟨h1, h⟩ := He.ba h
        obtain ⟨h2, h⟩ := He.ba h
        obtain ⟨h3, h4⟩ := He.ba h
        obtain ⟨cd, d, e1, e2, e3, rfl, hf⟩ := makeB_ok h1
        have mk := (z.F.own c cd e1 e2 e3).2.2 d hf
        rw [← z.eK] at mk
        have q := e_make (P := P.wx xi) (fr := fr) (p0 := p0) (pos := p) z.g.hP e1 hf (z.g.fns cd.init d false hf) mk ((z.g.room (z.calm h0)).mono (by omega)) z.g.tk (z.gl h2) (z.cls e1 e2) (okN_ok h3).1 (chkEs_ok l z h4)
        exact (show PEB (P.wx xi) X Wx _ (evE hd (.make c fr l)) from q).q rfl
    | _ => cases h
  | .makek c l ks lk, e, X, Wx, sc, cm, z, h => by
    cases e with
    | Call fe es kws p =>
      match fe, h with
      | .Name x p0, h =>
        obtain ⟨h0, h⟩ := He.ba (show (cm && (makeB P c x && (glB sc x && (okN x && (chkEs P K nn l sc cm es && chkKs P K nn lk ks sc cm kws))))) = true from h)
        obtain ⟨h1, h⟩ := He.ba h
        obtain ⟨h2, h⟩ := He.ba h
        obtain ⟨h3, h⟩ := He.ba h
        obtain ⟨h4, h5⟩ := He.ba h
        obtain ⟨cd, d, e1, e2, e3, rfl, hf⟩ := makeB_ok h1
        have mk := (z.F.own c cd e1 e2 e3).2.2 d hf
        rw [← z.eK] at mk
        have q := e_makek (P := P.wx xi) (p0 := p0) (pos := p) z.g.hP e1 hf (z.F.pd cd.init d hf) (z.g.fns cd.init d false hf) mk ((z.g.room (z.calm h0)).mono (by omega)) z.g.tk (z.gl h2) (z.cls e1 e2) (okN_ok h3).1 (chkEs_ok l z h4) (chkKs_ok lk ks z h5)
        exact (show PEB (P.wx xi) X Wx _ (evE hd (.makek c l ks lk)) from q).q rfl
    | _ => cases h
  | .fld c o j, e, X, Wx, sc, cm, z, h => by
    cases e with
    | Attribute o' x p =>
      obtain ⟨h1, h⟩ := He.ba (show (fldB P c j x && (plainBase o' && chkE P K nn o sc cm o')) = true from h)
      obtain ⟨h2, h3⟩ := He.ba h
      obtain ⟨cd, e1, e2, e3, e4⟩ := fldB_ok h1
      obtain ⟨cl, na, _⟩ := z.F.own c cd e1 e2 e3
      have na' := na x (List.mem_of_getElem? e4)
      rw [← z.eK] at cl na'
      exact (e_fld (P := P.wx xi) (c := c) (k := j) (by show (fnm P c)[j]? = _; rw [fnm_of e1]; exact e4) (z.F.nd c) cl na' h2 (chkE_ok o z h3).b).q rfl
    | _ => cases h
  | .efld i j x, e, X, Wx, sc, cm, z, h => by
    cases e with
    | Attribute o' y p =>
      match o', h with
      | .Name n p0, h =>
        obtain ⟨h1, h⟩ := He.ba (show (decide (x = y) && (nmB nn i n && (visB sc n && okN n))) = true from h)
        obtain ⟨h2, h⟩ := He.ba h
        obtain ⟨h3, h4⟩ := He.ba h
        have e : x = y := of_decide_eq_true h1
        subst e
        have v := visB_ok h3
        rw [← z.es] at v
        have q := e_efld (P := P.wx xi) (X := X) (Wx := Wx) (pos := p) (k := j) (x := x) (pn := p0) (fun c hc hn => by rw [z.eK]; exact (z.F.exc c X.mg z.mg hc (.inr hn)).wx) (z.F.nd) z.sx (i := i) (by rw [z.eN]; exact nmB_ok h2) v h4
        exact (show PEB (P.wx xi) X Wx _ (evE hd (.efld i j x)) from q.congr (by funext ρ m; simp only [evE]; rw [z.g.hP]; try rfl)).q rfl
    | _ => cases h
  | .isi a tys, e, X, Wx, sc, cm, z, h => by
    cases e with
    | Call fe es kws p =>
      match fe, es, kws, h with
      | .Name f p0, [a', t'], [], h =>
        obtain ⟨h1, h⟩ := He.ba (show (decide (f = "isinstance") && (glB sc "isinstance" && (noStar a' && (chkE P K nn a sc cm a' && isiB P sc t' tys)))) = true from h)
        obtain ⟨h2, h⟩ := He.ba h
        obtain ⟨h3, h⟩ := He.ba h
        obtain ⟨h4, h5⟩ := He.ba h
        have e : f = "isinstance" := of_decide_eq_true h1
        subst e
        have hF : ∀ c, (P.wx xi).own c = true → IsF (P.wx xi) X.K c := fun c hc => by rw [z.eK]; exact (z.F.isf c hc).wx
        have hb := z.blt blt_mem.2.2.2.2.2.2.1
        have ea := (chkE_ok a z h4).b
        rcases isiB_ok h5 with ⟨x, p1, t, rfl, rfl, k1⟩ | ⟨x, p1, y, p2, n, p3, t, u, rfl, rfl, k1, k2⟩
        · obtain ⟨v, u, T⟩ := z.ty k1
          have q := e_isi (p0 := p0) (p1 := p1) (pos := p) T hF (z.gl h2) hb ea h3
          exact (show PEB (P.wx xi) X Wx _ (evE hd (.isi a [t])) from q.congr (by funext ρ m; simp only [evE]; rw [z.g.hP]; try rfl)).q rfl
        · obtain ⟨v, w, T⟩ := z.ty k1
          obtain ⟨v', w', T'⟩ := z.ty k2
          have q := e_isi2 (p0 := p0) (p1 := p1) (p2 := p2) (p3 := p3) (k := n) (pos := p) T T' hF (z.gl h2) hb ea h3
          exact (show PEB (P.wx xi) X Wx _ (evE hd (.isi a [t, u])) from q.congr (by funext ρ m; simp only [evE]; rw [z.g.hP]; try rfl)).q rfl
    | _ => cases h
  | .bf f l, e, X, Wx, sc, cm, z, h => by
    cases e with
    | Call fe es kws p =>
      match fe, es, kws, h with
      | .Name x p0, a' :: es, [], h =>
        obtain ⟨h1, h⟩ := He.ba (show (decide (x = f.name) && ((!f.calm || cm) && (f.val.isSome && (glB sc x && chkEs P K nn l sc cm (a' :: es))))) = true from h)
        obtain ⟨h2, h⟩ := He.ba h
        obtain ⟨h3, h⟩ := He.ba h
        obtain ⟨h4, h5⟩ := He.ba h
        have e : x = f.name := of_decide_eq_true h1
        subst e
        obtain ⟨fv, hv⟩ := Option.isSome_iff_exists.mp h3
        obtain ⟨b1, b2, b3, b4, b5⟩ := bf_boot f fv hv
        have hc : f.calm = true → X.calm = true := fun q => z.calm (by rw [q] at h2; simpa using h2)
        have cw : CallW (P.wx xi) X Wx fv (bfW hd f) := by
          by_cases hi : f = .int
          · subst hi
            cases hv
            exact int_call
          · exact bf_call z.g.un z.g.gd f hc hv hi
        have ar := chkEs_ok l z h5
        rcases b5 with ⟨id, rfl⟩ | ⟨id, rfl⟩
        · exact (show PEB (P.wx xi) X Wx _ (evE hd (.bf f l)) from e_callB cw (z.gl h4) (z.blt b2) b1 b3 b4 (by intro q; cases q) ar).q rfl
        · exact (show PEB (P.wx xi) X Wx _ (evE hd (.bf f l)) from e_callT cw (z.gl h4) (z.blt b2) b1 b3 b4 (by intro q; cases q) ar).q rfl
    | _ => cases h
  | .idx a i, e, X, Wx, sc, cm, z, h => by
    cases e with
    | Subscript a' i' p =>
      obtain ⟨h1, h⟩ := He.ba (show (plainIx i' && (chkE P K nn a sc cm a' && chkE P K nn i sc cm i')) = true from h)
      obtain ⟨h2, h3⟩ := He.ba h
      have hu := z.g.un
      exact (show PEB (P.wx xi) X Wx _ (evE hd (.idx a i)) from e_idx (idx_run (by omega)) (chkE_ok a z h2).b (chkE_ok i z h3).b h1).q rfl
    | _ => cases h
  | .slice a lo hi hlo hhi, e, X, Wx, sc, cm, z, h => by
    cases e with
    | Subscript a' i' p =>
      match i', h with
      | .Slice lo' hi' none p2, h =>
        obtain ⟨h1, h⟩ := He.ba (show (chkE P K nn a sc cm a' && (optB hlo (fun x => chkE P K nn lo sc cm x) lo' && optB hhi (fun x => chkE P K nn hi sc cm x) hi')) = true from h)
        obtain ⟨h2, h3⟩ := He.ba h
        have ol : PO X lo' (rO (P.wx xi) X.K (fun ρ m => if hlo then (evE hd lo ρ m).bnd asI else .ok none m) Wx) := by
          cases lo' with
          | none =>
            have e : hlo = false := by simpa [optB] using h2
            subst e
            exact o_none
          | some x =>
            obtain ⟨e, k2⟩ := He.ba h2
            subst e
            exact o_some (chkE_ok lo z k2).b
        have oh : PO X hi' (rO (P.wx xi) X.K (fun ρ m => if hhi then (evE hd hi ρ m).bnd asI else .ok none m) Wx) := by
          cases hi' with
          | none =>
            have e : hhi = false := by simpa [optB] using h3
            subst e
            exact o_none
          | some x =>
            obtain ⟨e, k2⟩ := He.ba h3
            subst e
            exact o_some (chkE_ok hi z k2).b
        exact (show PEB (P.wx xi) X Wx _ (evE hd (.slice a lo hi hlo hhi)) from e_slice (chkE_ok a z h1).b ol oh).q rfl
    | _ => cases h
  | .nw fr x, e, X, Wx, sc, cm, z, h => chkN_ok x fr z h
  | .cmethk c f l ks lk, e, X, Wx, sc, cm, z, h => by
    cases e with
    | Call fe es kws p =>
      match fe, h with
      | .Attribute (.Name x p0) m ap, h =>
        obtain ⟨h0, h⟩ := He.ba (show (cm && (cmAt P K c f m && (ownNm P c x && (glB sc x && (okN x && (fewB (es.length + kws.length) && ((ap.endLine == p.line) && (chkEs P K nn l sc cm es && chkKs P K nn lk ks sc cm kws)))))))) = true from h)
        obtain ⟨h1, h⟩ := He.ba h
        obtain ⟨h2, h⟩ := He.ba h
        obtain ⟨h3, h⟩ := He.ba h
        obtain ⟨h4, h⟩ := He.ba h
        obtain ⟨h5, h⟩ := He.ba h
        obtain ⟨h6, h⟩ := He.ba h
        obtain ⟨h7, h8⟩ := He.ba h
        obtain ⟨cd, d, e1, e2, e3, hf, hat, hcm⟩ := cmAt_ok h1
        obtain ⟨cd', e1', _, _, en⟩ := ownNm_ok h2
        rw [e1] at e1'
        cases e1'
        subst en
        have hl : es.length + kws.length ≤ 25 := of_decide_eq_true h5
        have mt := z.F.cm f d cd.name m hf hat hcm
        rw [← ca_of (P := P) e1] at mt
        rw [← z.eK] at mt
        have q := e_cmethk (P := P.wx xi) (c := c) (es := es) (apos := ap) (pos := p) (p0 := p0) (z.g.fns f d false hf) z.g.hP hf ((z.g.room (z.calm h0)).mono (by omega)) z.g.tk mt (z.gl h3) (z.cls e1 e2) (okN_ok h4).1 (by omega) h6 (chkEs_ok l z h7) (chkKs_ok lk ks z h8)
        exact (show PEB (P.wx xi) X Wx _ (evE hd (.cmethk c f l ks lk)) from q.congr (by funext ρ m; simp only [evE]; rw [z.g.hP]; try rfl)).q rfl
    | _ => cases h
  | .makev i c l, e, X, Wx, sc, cm, z, h => by
    cases e with
    | Call fe es kws p =>
      match fe, kws, h with
      | .Name x p0, [], h =>
        obtain ⟨h0, h⟩ := He.ba (show (cm && (mkvB P c && (nmB nn i x && (visB sc x && (okN x && chkEs P K nn l sc cm es))))) = true from h)
        obtain ⟨h1, h⟩ := He.ba h
        obtain ⟨h2, h⟩ := He.ba h
        obtain ⟨h3, h⟩ := He.ba h
        obtain ⟨h4, h5⟩ := He.ba h
        obtain ⟨cd, d, e1, e2, e3, hf⟩ := mkvB_ok h1
        have mk := (z.F.own c cd e1 e2 e3).2.2 d hf
        rw [← z.eK] at mk
        have v := visB_ok h3
        rw [← z.es] at v
        have q := e_makev (P := P.wx xi) (p0 := p0) (pos := p) (c := c) (i := i) z.g.hP e1 hf (z.g.fns cd.init d false hf) mk ((z.g.room (z.calm h0)).mono (by omega)) z.g.tk (by rw [z.eN]; exact nmB_ok h2) v (okN_ok h4).1 (okN_ok h4).2 (chkEs_ok l z h5)
        exact (show PEB (P.wx xi) X Wx _ (evE hd (.makev i c l)) from q).q rfl
    | _ => cases h
  | .split a b, e, X, Wx, sc, cm, z, h => by
    cases e with
    | Call fe es kws p =>
      match fe, es, kws, h with
      | .Attribute a' m ap, [b'], [], h =>
        obtain ⟨h0, h⟩ := He.ba (show (decide (m = "split") && (plainBase a' && (noStar b' && ((ap.endLine == p.line) && (chkE P K nn a sc cm a' && chkE P K nn b sc cm b'))))) = true from h)
        obtain ⟨h1, h⟩ := He.ba h
        obtain ⟨h2, h⟩ := He.ba h
        obtain ⟨h3, h⟩ := He.ba h
        obtain ⟨h4, h5⟩ := He.ba h
        have e0 : m = "split" := of_decide_eq_true h0
        subst e0
        exact (show PEB (P.wx xi) X Wx _ (evE hd (.split a b)) from e_split h1 h2 h3 (chkE_ok a z h4).b (chkE_ok b z h5).b).q rfl
    | _ => cases h
  | .join a b, e, X, Wx, sc, cm, z, h => by
    cases e with
    | Call fe es kws p =>
      match fe, es, kws, h with
      | .Attribute a' m ap, [b'], [], h =>
        obtain ⟨h0, h⟩ := He.ba (show (decide (m = "join") && (plainBase a' && (noStar b' && ((ap.endLine == p.line) && (chkE P K nn a sc cm a' && chkE P K nn b sc cm b'))))) = true from h)
        obtain ⟨h1, h⟩ := He.ba h
        obtain ⟨h2, h⟩ := He.ba h
        obtain ⟨h3, h⟩ := He.ba h
        obtain ⟨h4, h5⟩ := He.ba h
        have e0 : m = "join" := of_decide_eq_true h0
        subst e0
        exact (show PEB (P.wx xi) X Wx _ (evE hd (.join a b)) from e_join h1 h2 h3 (chkE_ok a z h4).b (chkE_ok b z h5).b).q rfl
    | _ => cases h
  | .fstr l, e, X, Wx, sc, cm, z, h => by
    cases e with
    | JoinedStr vs p =>
      match vs, h with
      | v1 :: v2 :: r, h => exact (show PEB (P.wx xi) X Wx _ (evE hd (.fstr l)) from e_fstr (chkFs_ok l z h)).q rfl
    | _ => cases h
  | .cmeth .., e, X, Wx, sc, cm, z, h => nomatch h
  | .fldi .., e, X, Wx, sc, cm, z, h => nomatch h
  | .rev .., e, X, Wx, sc, cm, z, h => nomatch h
  | .get .., e, X, Wx, sc, cm, z, h => nomatch h
  | .pop .., e, X, Wx, sc, cm, z, h => nomatch h
theorem chkFs_ok {P : Prog} {K : Fg} {nn : List Str} {xi : XI} {hd : Hd} {k : Nat} : ∀ (t : Es) {es : List Expr} {X : Cx} {Wx : WX} {sc : Scope} {cm : Bool}, Cz P K nn xi hd X Wx k sc cm → chkFs P K nn t sc cm es = true → PFs (P.wx xi) X Wx es (evFs hd t)
  | .nil, es, X, Wx, sc, cm, z, h => by
    cases es with
    | nil => exact .nil
    | cons _ _ => cases h
  | .cons e l, es, X, Wx, sc, cm, z, h => by
    match es, h with
    | .FormattedValue e' c none p :: r, h =>
      obtain ⟨h1, h⟩ := He.ba (show (decide (c = -1) && (chkE P K nn e sc cm e' && chkFs P K nn l sc cm r)) = true from h)
      obtain ⟨h2, h3⟩ := He.ba h
      have e0 : c = -1 := of_decide_eq_true h1
      subst e0
      exact .fmt (chkE_ok e z h2).b (chkFs_ok l z h3)
    | .Constant (.str y) j p :: r, h =>
      obtain ⟨h1, h2⟩ := He.ba (show (strB e y && chkFs P K nn l sc cm r) = true from h)
      obtain ⟨s, rfl, rfl⟩ := strB_ok h1
      exact .txt (chkFs_ok l z h2)
  | .star .., es, X, Wx, sc, cm, z, h => nomatch h
theorem chkN_ok {P : Prog} {K : Fg} {nn : List Str} {xi : XI} {hd : Hd} {k : Nat} : ∀ (t : N) (fr : Bool) {e : Expr} {X : Cx} {Wx : WX} {sc : Scope} {cm : Bool}, Cz P K nn xi hd X Wx k sc cm → chkN P K nn t sc cm e = true → PEQ (P.wx xi) X Wx e (evE hd (.nw fr t))
  | .lst l, fr, e, X, Wx, sc, cm, z, h => by
    cases e with
    | List es p =>
      have ar := chkEs_ok l z (show chkEs P K nn l sc cm es = true from h)
      have q := e_nw (fr := fr) (n_lst (pos := p) ar) (fun ρ m c m1 q => by
        cases e1 : evEs hd l ρ m with
        | ok ws m2 =>
          rw [e1, R.bnd_ok] at q
          unfold lstN at q
          cases e2 : fzs (P.wx xi) m2 ws with
          | none => rw [e2] at q; cases q
          | some r =>
            rw [e2] at q
            dsimp only at q
            split at q
            · cases q; rfl
            · cases q
        | _ => rw [e1] at q; cases q) (fun _ => rfl)
      exact (show PEB (P.wx xi) X Wx _ (evE hd (.nw fr (.lst l))) from q.congr (by funext ρ m; simp only [evE, evN]; rw [z.g.hP]; rfl)).q rfl
    | _ => cases h
  | .comp g it hc cond elt, fr, e, X, Wx, sc, cm, z, h => by
    cases e with
    | ListComp elt' gs scope p =>
      obtain ⟨tg, iter, ifs, rfl, q⟩ := comp_mk z h (fun z h => chkE_ok elt z h) (fun z h => chkE_ok cond z h) (fun z h => chkIt_ok it z h)
      exact (show PEB (P.wx xi) X Wx _ (evE hd (.nw fr (.comp g it hc cond elt))) from (q.e (fr := fr) (pos := p)).congr (by funext ρ m; simp only [evE, evN]; rw [z.g.hP]; rfl)).q rfl
    | _ => cases h
  | .dict t l, fr, e, X, Wx, sc, cm, z, h => by
    match e, l, h with
    | .Dict [] [] p, .nil, h =>
      have q := e_nw (P := P.wx xi) (X := X) (Wx := Wx) (fr := fr) (n_dict0 (t := t) (pos := p)) (fun ρ m c m1 q => by cases q; rfl) (fun _ => rfl)
      exact (show PEB (P.wx xi) X Wx _ (evE hd (.nw fr (.dict t .nil))) from q.congr (by funext ρ m; simp only [evE, evN, evDs]; rfl)).q rfl
  | .comp2 .., fr, e, X, Wx, sc, cm, z, h => nomatch h
  | .dcomp .., fr, e, X, Wx, sc, cm, z, h => nomatch h
  | .list .., fr, e, X, Wx, sc, cm, z, h => nomatch h
  | .dictc .., fr, e, X, Wx, sc, cm, z, h => nomatch h
  | .sorted .., fr, e, X, Wx, sc, cm, z, h => nomatch h
  | .values .., fr, e, X, Wx, sc, cm, z, h => nomatch h
theorem chkEs_ok {P : Prog} {K : Fg} {nn : List Str} {xi : XI} {hd : Hd} {k : Nat} : ∀ (t : Es) {es : List Expr} {X : Cx} {Wx : WX} {sc : Scope} {cm : Bool}, Cz P K nn xi hd X Wx k sc cm → chkEs P K nn t sc cm es = true → PAr (P.wx xi) X Wx es (evEs hd t)
  | .nil, es, X, Wx, sc, cm, z, h => by
    cases es with
    | nil => exact a_nil
    | cons _ _ => cases h
  | .cons e l, es, X, Wx, sc, cm, z, h => by
    cases es with
    | nil => cases h
    | cons e' r =>
      obtain ⟨h1, h⟩ := He.ba (show (noStar e' && (chkE P K nn e sc cm e' && chkEs P K nn l sc cm r)) = true from h)
      obtain ⟨h2, h3⟩ := He.ba h
      exact a_cons (chkE_ok e z h2).b (chkEs_ok l z h3) h1
  | .star .., es, X, Wx, sc, cm, z, h => nomatch h
theorem chkKs_ok {P : Prog} {K : Fg} {nn : List Str} {xi : XI} {hd : Hd} {k : Nat} : ∀ (t : Es) (ks : List Str) {es : List Keyword} {X : Cx} {Wx : WX} {sc : Scope} {cm : Bool}, Cz P K nn xi hd X Wx k sc cm → chkKs P K nn t ks sc cm es = true → PKr (P.wx xi) X Wx es ks (evEs hd t)
  | .nil, ks, es, X, Wx, sc, cm, z, h => by
    cases es with
    | nil =>
      cases ks with
      | nil => exact k_nil
      | cons _ _ => cases h
    | cons _ _ => cases h
  | .cons e l, ks, es, X, Wx, sc, cm, z, h => by
    match ks, es, h with
    | x :: ks, ⟨some y, e', p⟩ :: r, h =>
      obtain ⟨h1, h⟩ := He.ba (show (decide (x = y) && (chkE P K nn e sc cm e' && chkKs P K nn l ks sc cm r)) = true from h)
      obtain ⟨h2, h3⟩ := He.ba h
      have e0 : x = y := of_decide_eq_true h1
      subst e0
      exact k_cons (chkE_ok e z h2).b (chkKs_ok l ks z h3)
  | .star .., ks, es, X, Wx, sc, cm, z, h => nomatch h
theorem chkIt_ok {P : Prog} {K : Fg} {nn : List Str} {xi : XI} {hd : Hd} {k : Nat} : ∀ (t : It) {e tg : Expr} {X : Cx} {Wx : WX} {sc : Scope} {cm : Bool}, Cz P K nn xi hd X Wx k sc cm → chkIt P K nn t sc cm e = true → PI X tg e (rI (P.wx xi) X.K (evIt hd t) Wx)
  | .e x, e, tg, X, Wx, sc, cm, z, h => i_e (chkE_ok x z (show chkE P K nn x sc cm e = true from h)).b
  | .range1 a, e, tg, X, Wx, sc, cm, z, h => by
    cases e with
    | Call fe es kws p =>
      match fe, es, kws, h with
      | .Name f p0, [a'], [], h =>
        obtain ⟨h1, h⟩ := He.ba (show (decide (f = "range") && (glB sc "range" && (noStar a' && chkE P K nn a sc cm a'))) = true from h)
        obtain ⟨h2, h⟩ := He.ba h
        obtain ⟨h3, h4⟩ := He.ba h
        have e : f = "range" := of_decide_eq_true h1
        subst e
        exact i_range1 (z.gl h2) (z.blt blt_mem.2.2.2.2.2.2.2) (chkE_ok a z h4).b h3
    | _ => cases h
  | .range2 a b, e, tg, X, Wx, sc, cm, z, h => by
    cases e with
    | Call fe es kws p =>
      match fe, es, kws, h with
      | .Name f p0, [a', b'], [], h =>
        obtain ⟨h1, h⟩ := He.ba (show (decide (f = "range") && (glB sc "range" && (noStar a' && (noStar b' && (chkE P K nn a sc cm a' && chkE P K nn b sc cm b'))))) = true from h)
        obtain ⟨h2, h⟩ := He.ba h
        obtain ⟨h3, h⟩ := He.ba h
        obtain ⟨h4, h⟩ := He.ba h
        obtain ⟨h5, h6⟩ := He.ba h
        have e : f = "range" := of_decide_eq_true h1
        subst e
        exact i_range2 (z.gl h2) (z.blt blt_mem.2.2.2.2.2.2.2) (chkE_ok a z h5).b (chkE_ok b z h6).b h3 h4
    | _ => cases h
  | .enum .., e, tg, X, Wx, sc, cm, z, h => nomatch h
  | .zip .., e, tg, X, Wx, sc, cm, z, h => nomatch h
end
end MP
end
section
set_option  maxHeartbeats  4000000
/-! The test is sound: statements. -/
namespace MP
open PySem PySem.Spec PyProof.Rows L2
theorem bn {b : Bool} (h : (!b) = true) : b = false := by
  cases b with
  | false => rfl
  | true => cases h
section
variable {P : Prog} {K : Fg} {nn : List Str} {xi : XI} {hd : Hd} {k : Nat}
theorem chkF_bad {t : E} {e : Expr} {X : Cx} {Wx : WX} (hb : ∀ ρ m, evF hd t ρ m = .bad) (h : PEQ P X Wx e (evE hd t)) : PE X e (rE P X.K (evF hd t) Wx) :=
  PE.imp h.b.pe fun σ H Q ⟨w, ρ, m, hm, hs, p⟩ => by rw [hb] at p; exact p.elim
end
theorem chkF_ok {P : Prog} {K : Fg} {nn : List Str} {xi : XI} {hd : Hd} {k : Nat} : ∀ (t : E) {e : Expr} {X : Cx} {Wx : WX} {sc : Scope} {cm : Bool}, Cz P K nn xi hd X Wx k sc cm → chkE P K nn t sc cm e = true → PE X e (rE (P.wx xi) X.K (evF hd t) Wx)
  | .nw fr x, e, X, Wx, sc, cm, z, h => (chkN_ok x true z h).b.pe
  | .var i, e, X, Wx, sc, cm, z, h => by
    refine PE.imp (chkE_ok (.var i) z h).b.pe fun σ H Q ⟨w, ρ, m, hm, hs, p⟩ => ⟨w, ρ, m, hm, hs, ?_⟩
    have p' : Post (P.wx xi) X.K (WRel (P.wx xi) X.K) w H (match getV ρ i with
      | some (.c n) => .ok (.c n) m
      | _ => .bad) Q _ := p
    show Post (P.wx xi) X.K (WRel (P.wx xi) X.K) w H (R.opt (getV ρ i) m) Q _
    cases e : getV ρ i with
    | none => rw [e] at p'; exact p'.elim
    | some a =>
      rw [e] at p'
      cases a with
      | c n => exact p'
      | _ => exact p'.elim
  | .call f fr l, e, X, Wx, sc, cm, z, h => (chkE_ok (.call f true l) z h).b.pe
  | .meth c o f fr l, e, X, Wx, sc, cm, z, h => (chkE_ok (.meth c o f true l) z h).b.pe
  | .ite c a b, e, X, Wx, sc, cm, z, h => by
    cases e with
    | IfExp c' a' b' p =>
      obtain ⟨h1, h⟩ := He.ba (show (chkE P K nn c sc cm c' && (chkE P K nn a sc cm a' && chkE P K nn b sc cm b')) = true from h)
      obtain ⟨h2, h3⟩ := He.ba h
      refine PE.imp (pe_ifExp (chkE_ok c z h1).b.pt (chkF_ok a z h2) (chkF_ok b z h3)) fun σ H Q ⟨w, ρ, m, hm, hs, p⟩ => ?_
      have p' : Post (P.wx xi) X.K (WRel (P.wx xi) X.K) w H ((evE hd c ρ m).bnd fun x m1 => (asB x m1).bnd fun k m1 => if k then evF hd a ρ m1 else evF hd b ρ m1) Q _ := p
      rw [← R.bnd_assoc] at p'
      refine ⟨w, ρ, m, hm, hs, (p'.bnd (fun _ _ a b => a = b)).mono fun k H1 ⟨x, w1, m1, X1, M1, R1, p1⟩ => ?_⟩
      subst R1
      cases x with
      | true => exact ⟨w1, ρ, m1, M1, hs.mono X1, p1⟩
      | false => exact ⟨w1, ρ, m1, M1, hs.mono X1, p1⟩
    | _ => cases h
  | .int _, e, X, Wx, sc, cm, z, h => chkF_bad (fun _ _ => rfl) (chkE_ok _ z h)
  | .str _, e, X, Wx, sc, cm, z, h => chkF_bad (fun _ _ => rfl) (chkE_ok _ z h)
  | .bl _, e, X, Wx, sc, cm, z, h => chkF_bad (fun _ _ => rfl) (chkE_ok _ z h)
  | .non, e, X, Wx, sc, cm, z, h => chkF_bad (fun _ _ => rfl) (chkE_ok _ z h)
  | .glob _ _, e, X, Wx, sc, cm, z, h => chkF_bad (fun _ _ => rfl) (chkE_ok _ z h)
  | .bin _ _ _, e, X, Wx, sc, cm, z, h => chkF_bad (fun _ _ => rfl) (chkE_ok _ z h)
  | .neg _, e, X, Wx, sc, cm, z, h => chkF_bad (fun _ _ => rfl) (chkE_ok _ z h)
  | .not _, e, X, Wx, sc, cm, z, h => chkF_bad (fun _ _ => rfl) (chkE_ok _ z h)
  | .cmp _ _ _, e, X, Wx, sc, cm, z, h => chkF_bad (fun _ _ => rfl) (chkE_ok _ z h)
  | .cmp2 _ _ _ _ _, e, X, Wx, sc, cm, z, h => chkF_bad (fun _ _ => rfl) (chkE_ok _ z h)
  | .isN _, e, X, Wx, sc, cm, z, h => chkF_bad (fun _ _ => rfl) (chkE_ok _ z h)
  | .notN _, e, X, Wx, sc, cm, z, h => chkF_bad (fun _ _ => rfl) (chkE_ok _ z h)
  | .and _ _, e, X, Wx, sc, cm, z, h => chkF_bad (fun _ _ => rfl) (chkE_ok _ z h)
  | .or _ _, e, X, Wx, sc, cm, z, h => chkF_bad (fun _ _ => rfl) (chkE_ok _ z h)
  | .tup _, e, X, Wx, sc, cm, z, h => chkF_bad (fun _ _ => rfl) (chkE_ok _ z h)
  | .callk _ _ _ _, e, X, Wx, sc, cm, z, h => chkF_bad (fun _ _ => rfl) (chkE_ok _ z h)
  | .methk _ _ _ _ _ _, e, X, Wx, sc, cm, z, h => chkF_bad (fun _ _ => rfl) (chkE_ok _ z h)
  | .make _ _ _, e, X, Wx, sc, cm, z, h => chkF_bad (fun _ _ => rfl) (chkE_ok _ z h)
  | .makek _ _ _ _, e, X, Wx, sc, cm, z, h => chkF_bad (fun _ _ => rfl) (chkE_ok _ z h)
  | .cmeth _ _ _, e, X, Wx, sc, cm, z, h => chkF_bad (fun _ _ => rfl) (chkE_ok _ z h)
  | .cmethk _ _ _ _ _, e, X, Wx, sc, cm, z, h => chkF_bad (fun _ _ => rfl) (chkE_ok _ z h)
  | .makev _ _ _, e, X, Wx, sc, cm, z, h => chkF_bad (fun _ _ => rfl) (chkE_ok _ z h)
  | .fld _ _ _, e, X, Wx, sc, cm, z, h => chkF_bad (fun _ _ => rfl) (chkE_ok _ z h)
  | .efld _ _ _, e, X, Wx, sc, cm, z, h => chkF_bad (fun _ _ => rfl) (chkE_ok _ z h)
  | .fldi _ _ _ _, e, X, Wx, sc, cm, z, h => chkF_bad (fun _ _ => rfl) (chkE_ok _ z h)
  | .isi _ _, e, X, Wx, sc, cm, z, h => chkF_bad (fun _ _ => rfl) (chkE_ok _ z h)
  | .bf _ _, e, X, Wx, sc, cm, z, h => chkF_bad (fun _ _ => rfl) (chkE_ok _ z h)
  | .idx _ _, e, X, Wx, sc, cm, z, h => chkF_bad (fun _ _ => rfl) (chkE_ok _ z h)
  | .slice _ _ _ _ _, e, X, Wx, sc, cm, z, h => chkF_bad (fun _ _ => rfl) (chkE_ok _ z h)
  | .rev _, e, X, Wx, sc, cm, z, h => chkF_bad (fun _ _ => rfl) (chkE_ok _ z h)
  | .split _ _, e, X, Wx, sc, cm, z, h => chkF_bad (fun _ _ => rfl) (chkE_ok _ z h)
  | .join _ _, e, X, Wx, sc, cm, z, h => chkF_bad (fun _ _ => rfl) (chkE_ok _ z h)
  | .get _ _, e, X, Wx, sc, cm, z, h => chkF_bad (fun _ _ => rfl) (chkE_ok _ z h)
  | .pop _, e, X, Wx, sc, cm, z, h => chkF_bad (fun _ _ => rfl) (chkE_ok _ z h)
  | .fstr _, e, X, Wx, sc, cm, z, h => chkF_bad (fun _ _ => rfl) (chkE_ok _ z h)
section
variable {P : Prog} {K : Fg} {nn : List Str} {xi : XI} {hd : Hd} {k : Nat} {X : Cx} {Wx : WX} {sc : Scope} {cm tp : Bool}
theorem Cs.asgN {i : Nat} {e : E} {x : Str} {px pos : Pos} {e' : Expr} (z : Cs P K nn xi hd X Wx k sc cm tp) (h1 : nmB nn i x = true) (h2 : locB true sc x = true) (h3 : (!isCompE e' || lcB e') = true) (h4 : chkE P K nn e sc cm e' = true) : PSm (P.wx xi) X Wx (.Assign [.Name x px] e' pos) fun ρ m => (evE hd e ρ m).thn ρ fun w m1 => .nx (ρ.set i w) m1 := by
  have hN : X.N[i]? = some x := by rw [z.z.eN]; exact nmB_ok h1
  obtain ⟨l1, _⟩ := locB_ok h2
  rw [← z.z.es] at l1
  by_cases hc : isCompE e' = true
  · cases e' with
    | ListComp elt' gs scope p =>
      match e, h4 with
      | .nw fr (.comp g it hcc cond elt), h4 =>
        obtain ⟨tg, iter, ifs, rfl, q⟩ := comp_mk z.z h4 (fun z h => chkE_ok elt z h) (fun z h => chkE_ok cond z h) (fun z h => chkIt_ok it z h)
        have r := q.asg (fr := fr) (px := px) (spos := pos) (pos := p) (by rw [z.z.es]; exact z.kf) hN l1 (.inl (z.fn x))
        refine PS.imp r fun D σ H ⟨w, ρ, m, hm, hs, p⟩ => ⟨w, ρ, m, hm, hs, ?_⟩
        have ee : evE hd (.nw fr (.comp g it hcc cond elt)) ρ m = ((evIt hd it ρ m).bnd (compN (P.wx xi) g (fun ρ m => if hcc then (evE hd cond ρ m).bnd asB else .ok true m) (evE hd elt) ρ)).bnd (nwR fr) := by
          simp only [evE, evN]
          rw [z.z.g.hP]
          rfl
        dsimp only at p
        rw [ee] at p
        exact p
    | SetComp _ _ _ _ => rw [show isCompE (Expr.SetComp _ _ _ _) = true from rfl] at h3; cases h3
    | DictComp _ _ _ _ _ => rw [show isCompE (Expr.DictComp _ _ _ _ _) = true from rfl] at h3; cases h3
    | _ => cases hc
  · exact s_asg z.z.g.nd hN l1 (.inl (z.fn x)) (chkE_ok e z.z h4).b (by simpa using hc)
end
mutual
theorem chkS_ok {P : Prog} {K : Fg} {nn : List Str} {k : Nat} : ∀ (t : S) {s : Stmt} {xi : XI} {hd : Hd} {X : Cx} {Wx : WX} {sc : Scope} {cm tp fr : Bool}, Cs P K nn xi hd X Wx k sc cm tp → chkS P K nn t sc cm tp s = true → PSm (P.wx xi) X Wx s (evS hd fr t)
  | .asg g e, s, xi, hd, X, Wx, sc, cm, tp, fr, z, h => by
    cases s with
    | Assign ts e' p =>
      match ts, h with
      | [t], h =>
        cases g with
        | n i =>
          cases t with
          | Name x px =>
            obtain ⟨h1, h⟩ := He.ba (show (nmB nn i x && (locB true sc x && ((!isCompE e' || lcB e') && chkE P K nn e sc cm e'))) = true from h)
            obtain ⟨h2, h⟩ := He.ba h
            obtain ⟨h3, h4⟩ := He.ba h
            exact z.asgN h1 h2 h3 h4
          | _ => cases h
        | t l =>
          cases t with
          | Tuple es n tp' =>
            obtain ⟨h0, h⟩ := He.ba (show (cm && (chkTgs nn true sc l es && (!isCompE e' && (!isTupE e' && chkE P K nn e sc cm e')))) = true from h)
            obtain ⟨h1, h⟩ := He.ba h
            obtain ⟨h2, h⟩ := He.ba h
            obtain ⟨h3, h4⟩ := He.ba h
            have hg : PG X (.Tuple es n tp') (tgR X.K (.t l)) := tg_ok (fnx := true) (z.z.calm h0) z.z.g.nd (fun _ => z.fn) (by rw [z.z.eN, z.z.es]; exact h1)
            refine s_asgT hg (chkE_ok e z.z h4).b (by simpa using h2) ?_
            have h3' : isTupE e' = false := by simpa using h3
            cases e' <;> first | rfl | cases h3'
          | _ => cases h
    | _ => cases h
  | .par is l, s, xi, hd, X, Wx, sc, cm, tp, fr, z, h => by
    cases s with
    | Assign ts e' p =>
      match ts, e', h with
      | [.Tuple [.Name x px, .Name y py] n1 q1], .Tuple [a, b] n2 q2, h =>
        obtain ⟨h0, h⟩ := He.ba (show (cm && (parB nn is x y && (isLoc sc x && (isLoc sc y && ((py.line == px.line) && (!decide (x = y) && (!([a, b].all (foldedForSure 8)) && (!([a, b].all (constantsAlone 8)) && chkEs P K nn l sc cm [a, b])))))))) = true from h)
        obtain ⟨h1, h⟩ := He.ba h
        obtain ⟨h2, h⟩ := He.ba h
        obtain ⟨h3, h⟩ := He.ba h
        obtain ⟨h4, h⟩ := He.ba h
        obtain ⟨h5, h⟩ := He.ba h
        obtain ⟨h6, h⟩ := He.ba h
        obtain ⟨h7, h8⟩ := He.ba h
        match is, h1 with
        | [i, j], h1 =>
          obtain ⟨k1, k3⟩ := He.ba h1
          obtain ⟨k1, k2⟩ := He.ba k1
          have ar := chkEs_ok l z.z h8
          have st := ar.st
          have l1 := isLoc_ok h2
          have l2 := isLoc_ok h3
          rw [← z.z.es] at l1 l2
          have sa : noStar a = true ∧ noStar b = true := by
            rw [List.all_cons, List.all_cons] at st
            obtain ⟨s1, s2⟩ := He.ba st
            exact ⟨s1, (He.ba s2).1⟩
          exact s_par (z.z.calm h0) z.z.g.nd (by rw [z.z.eN]; exact nmB_ok k1) (by rw [z.z.eN]; exact nmB_ok k2) (by simpa using k3) l1 l2 ar (swap_ok (by rw [z.z.es]; exact z.kf) sa.1 sa.2 l1 l2 h4 (by simpa using h5) (bn h6) (bn h7))
    | _ => cases h
  | .setf c o j e, s, xi, hd, X, Wx, sc, cm, tp, fr, z, h => by
    cases s with
    | Assign ts e' p =>
      match ts, h with
      | [.Attribute o' x q], h =>
        obtain ⟨h1, h⟩ := He.ba (show (fldB P c j x && (!isCompE e' && (chkE P K nn e sc cm e' && chkE P K nn o sc cm o'))) = true from h)
        obtain ⟨h2, h⟩ := He.ba h
        obtain ⟨h3, h4⟩ := He.ba h
        obtain ⟨cd, e1, e2, e3, e4⟩ := fldB_ok h1
        obtain ⟨cl, na, _⟩ := z.z.F.own c cd e1 e2 e3
        have na' := na x (List.mem_of_getElem? e4)
        rw [← z.z.eK] at cl na'
        have r := s_setf (P := P.wx xi) (c := c) (k := j) (pos' := q) (pos := p) (by show (fnm P c)[j]? = _; rw [fnm_of e1]; exact e4) (z.z.F.nd c) (z.z.F.sm c) cl na' (chkE_ok e z.z h3).b (chkE_ok o z.z h4).b (by simpa using h2)
        refine PS.imp r fun D σ H ⟨w, ρ, m, hm, hs, p⟩ => ⟨w, ρ, m, hm, hs, ?_⟩
        simp only [evS] at p
        rw [z.z.g.hP] at p
        exact p
    | _ => cases h
  | .seti o i e, s, xi, hd, X, Wx, sc, cm, tp, fr, z, h => by
    cases s with
    | Assign ts e' p =>
      match ts, h with
      | [.Subscript o' i' q], h =>
        obtain ⟨h1, h⟩ := He.ba (show (plainSet i' && (!isCompE e' && (chkE P K nn e sc cm e' && (chkE P K nn o sc cm o' && chkE P K nn i sc cm i')))) = true from h)
        obtain ⟨h2, h⟩ := He.ba h
        obtain ⟨h3, h⟩ := He.ba h
        obtain ⟨h4, h5⟩ := He.ba h
        have hu := z.z.g.un
        have r := s_seti (P := P.wx xi) (pos' := q) (pos := p) (by omega) (chkE_ok e z.z h3).b (chkE_ok o z.z h4).b (chkE_ok i z.z h5).b (by simpa using h2) h1
        refine PS.imp r fun D σ H ⟨w, ρ, m, hm, hs, p⟩ => ⟨w, ρ, m, hm, hs, ?_⟩
        simp only [evS] at p
        rw [z.z.g.hP] at p
        exact p
    | _ => cases h
  | .app o e, s, xi, hd, X, Wx, sc, cm, tp, fr, z, h => by
    cases s with
    | Expr ee p =>
      match ee, h with
      | .Call (.Attribute o' m ap) [e'] [] q, h =>
        obtain ⟨h1, h⟩ := He.ba (show (decide (m = "append") && (plainBase o' && (noStar e' && ((ap.endLine == q.line) && (chkE P K nn o sc cm o' && chkE P K nn e sc cm e'))))) = true from h)
        obtain ⟨h2, h⟩ := He.ba h
        obtain ⟨h3, h⟩ := He.ba h
        obtain ⟨h4, h⟩ := He.ba h
        obtain ⟨h5, h6⟩ := He.ba h
        have e0 : m = "append" := of_decide_eq_true h1
        subst e0
        have r := s_app (P := P.wx xi) (apos := ap) (pos' := q) (pos := p) (chkE_ok o z.z h5).b (chkE_ok e z.z h6).b h2 h3 h4
        refine PS.imp r fun D σ H ⟨w, ρ, m, hm, hs, p⟩ => ⟨w, ρ, m, hm, hs, ?_⟩
        simp only [evS] at p
        rw [z.z.g.hP] at p
        exact p
    | _ => cases h
  | .expr e, s, xi, hd, X, Wx, sc, cm, tp, fr, z, h => by
    cases s with
    | Expr e' p =>
      obtain ⟨h1, h2⟩ := He.ba (show (!isCompE e' && chkE P K nn e sc cm e') = true from h)
      exact s_expr (chkE_ok e z.z h2).b (by simpa using h1)
    | _ => cases h
  | .ret e, s, xi, hd, X, Wx, sc, cm, tp, fr, z, h => by
    cases s with
    | Return oe p =>
      cases oe with
      | none => cases h
      | some e' =>
        have h' : chkE P K nn e sc cm e' = true := h
        cases fr with
        | true => exact s_retF (chkF_ok e z.z h')
        | false =>
          refine PS.imp (s_ret (chkE_ok e z.z h').b) fun D σ H ⟨w, ρ, m, hm, hs, p⟩ => ⟨w, ρ, m, hm, hs, ?_⟩
          have p' : PostO (P.wx xi) X.K w H (evRet hd false e ρ m) D Wx := p
          unfold evRet at p'
          rw [if_neg Bool.false_ne_true, z.z.g.hP] at p'
          exact p'
    | _ => cases h
  | .retN, s, xi, hd, X, Wx, sc, cm, tp, fr, z, h => by
    cases s with
    | Return oe p =>
      cases oe with
      | none => exact s_retN
      | some e' => cases h
    | _ => cases h
  | .pass, s, xi, hd, X, Wx, sc, cm, tp, fr, z, h => by
    cases s with
    | Pass p => exact s_pass
    | _ => cases h
  | .ite c a b, s, xi, hd, X, Wx, sc, cm, tp, fr, z, h => by
    cases s with
    | If c' a' b' p =>
      obtain ⟨h1, h⟩ := He.ba (show (chkE P K nn c sc cm c' && (chkSs P K nn a sc cm tp a' && chkSs P K nn b sc cm tp b')) = true from h)
      obtain ⟨h2, h3⟩ := He.ba h
      exact s_if (chkE_ok c z.z h1).b (chkSs_ok a z h2) (chkSs_ok b z h3)
    | _ => cases h
  | .for_ g it b, s, xi, hd, X, Wx, sc, cm, tp, fr, z, h => by
    cases s with
    | For tg iter b' oe p =>
      match oe, h with
      | [], h =>
        obtain ⟨h0, h⟩ := He.ba (show (cm && (!isSetE iter && (chkTg nn true sc g tg && (chkIt P K nn it sc cm iter && chkSs P K nn b sc cm tp b')))) = true from h)
        obtain ⟨h1, h⟩ := He.ba h
        obtain ⟨h2, h⟩ := He.ba h
        obtain ⟨h3, h4⟩ := He.ba h
        have hg : PG X tg (tgR X.K g) := tg_ok (fnx := true) (z.z.calm h0) z.z.g.nd (fun _ => z.fn) (by rw [z.z.eN, z.z.es]; exact h2)
        exact s_for z.pass (z.z.calm h0) (chkIt_ok it z.z h3) hg (chkSs_ok b z h4) fun x => notSet_ok (by simpa using h1) x
    | _ => cases h
  | .while_ c b, s, xi, hd, X, Wx, sc, cm, tp, fr, z, h => by
    cases s with
    | While c' b' oe p =>
      match oe, h with
      | [], h =>
        obtain ⟨h1, h2⟩ := He.ba (show (chkE P K nn c sc cm c' && chkSs P K nn b sc cm tp b') = true from h)
        exact s_while z.pass (chkE_ok c z.z h1).b (chkSs_ok b z h2)
    | _ => cases h
  | .raise c l, s, xi, hd, X, Wx, sc, cm, tp, fr, z, h => by
    cases s with
    | Raise ee ca' p =>
      match ee, ca', h with
      | some (.Call (.Name x p0) es [] p1), none, h =>
        obtain ⟨h0, h⟩ := He.ba (show (cm && (!(c == P.base) && (excNm P c x && (glB sc x && (okN x && (decide (es.length ≤ 100) && chkEs P K nn l sc cm es)))))) = true from h)
        obtain ⟨hb, h⟩ := He.ba h
        obtain ⟨h1, h⟩ := He.ba h
        obtain ⟨h2, h⟩ := He.ba h
        obtain ⟨h3, h⟩ := He.ba h
        obtain ⟨h4, h5⟩ := He.ba h
        obtain ⟨hx, cd, e1, e2, rfl⟩ := excNm_ok h1
        have hF : ExF (P.wx xi) X.K X.mg c := by rw [z.z.eK]; exact (z.z.F.exc c X.mg z.z.mg hx (.inl (by simpa using hb))).wx
        have r := s_raise (pos := p) (p0 := p0) (p1 := p1) hF (z.z.calm h0) ((z.z.g.room (z.z.calm h0)).mono (by omega)) z.z.g.tk (z.z.gl h2) (z.z.cls e1 e2) (okN_ok h3).1 (chkEs_ok l z.z h5) (of_decide_eq_true h4)
        refine PS.imp r fun D σ H ⟨w, ρ, m, hm, hs, p⟩ => ⟨w, ρ, m, hm, hs, ?_⟩
        simp only [evS] at p
        rw [z.z.g.hP] at p
        exact p
    | _ => cases h
  | .try_ b hs, s, xi, hd, X, Wx, sc, cm, tp, fr, z, h => by
    cases s with
    | Try b' hds oe fe p =>
      match hds, oe, fe, h with
      | h0 :: r, [], [], h =>
        obtain ⟨k0, h⟩ := He.ba (show (cm && (tp && (chkSs P K nn b sc cm tp b' && chkHs P K nn hs sc (h0 :: r)))) = true from h)
        obtain ⟨k1, h⟩ := He.ba h
        obtain ⟨k2, k3⟩ := He.ba h
        subst k0 k1
        obtain ⟨t1, t2⟩ := z.top rfl
        have x0 := z.z.xi0 rfl
        subst x0
        exact s_try (P := P.wx none) t1 t2 z.z.g.nd rfl z.z.g.tk (fun W pn xe tk pass => chkSs_ok b (z.tr tk pass) k2) (chkHs_ok hs z k3)
    | _ => cases h
  | .setfd .., s, xi, hd, X, Wx, sc, cm, tp, fr, z, h => nomatch h
  | .setfi .., s, xi, hd, X, Wx, sc, cm, tp, fr, z, h => nomatch h
  | .clear .., s, xi, hd, X, Wx, sc, cm, tp, fr, z, h => nomatch h
  | .remove .., s, xi, hd, X, Wx, sc, cm, tp, fr, z, h => nomatch h
theorem chkSs_ok {P : Prog} {K : Fg} {nn : List Str} {k : Nat} : ∀ (t : Ss) {s : List Stmt} {xi : XI} {hd : Hd} {X : Cx} {Wx : WX} {sc : Scope} {cm tp fr : Bool}, Cs P K nn xi hd X Wx k sc cm tp → chkSs P K nn t sc cm tp s = true → PSl (P.wx xi) X Wx s (evSs hd fr t)
  | .nil, s, xi, hd, X, Wx, sc, cm, tp, fr, z, h => by
    cases s with
    | nil => exact s_nil
    | cons _ _ => cases h
  | .cons t l, s, xi, hd, X, Wx, sc, cm, tp, fr, z, h => by
    cases s with
    | nil => cases h
    | cons s r =>
      obtain ⟨h1, h2⟩ := He.ba (show (chkS P K nn t sc cm tp s && chkSs P K nn l sc cm tp r) = true from h)
      exact s_cons (chkS_ok t z h1) (chkSs_ok l z h2)
theorem chkHs_ok {P : Prog} {K : Fg} {nn : List Str} {k : Nat} : ∀ (t : Hs) {s : List ExceptHandler} {hd : Hd} {X : Cx} {Wx : WX} {sc : Scope} {tp fr : Bool}, Cs P K nn none hd X Wx k sc true tp → chkHs P K nn t sc s = true → HdM (P.wx none) X s (evHs hd fr t)
  | .nil, s, hd, X, Wx, sc, tp, fr, z, h => by
    cases s with
    | nil => exact .nil
    | cons _ _ => cases h
  | .cons c i b l, s, hd, X, Wx, sc, tp, fr, z, h => by
    match s, h with
    | .ExceptHandler (some (.Name x p0)) n (b0 :: su) p1 :: r, h =>
      obtain ⟨h1, h⟩ := He.ba (show (excNm P c x && (glB sc x && (okN x && (slotB nn sc n i && (chkSs P K nn b sc false false (b0 :: su) && chkHs P K nn l sc r))))) = true from h)
      obtain ⟨h2, h⟩ := He.ba h
      obtain ⟨h3, h⟩ := He.ba h
      obtain ⟨h4, h⟩ := He.ba h
      obtain ⟨h5, h6⟩ := He.ba h
      obtain ⟨hx, cd, e1, e2, rfl⟩ := excNm_ok h1
      have hsl : SlotN X n i := by
        unfold SlotN
        cases n with
        | none =>
          cases i with
          | none => trivial
          | some _ => cases h4
        | some y =>
          cases i with
          | none => cases h4
          | some j =>
            obtain ⟨k1, k2⟩ := He.ba h4
            have l1 := isLoc_ok k2
            rw [← z.z.es] at l1
            exact ⟨by rw [z.z.eN]; exact nmB_ok k1, l1⟩
      have hP := z.z.g.hP
      have key := HdM.cons (P := P.wx none) (X := X) (np := p0) (pos' := p1) (c' := c) (fb := evSs ⟨P, fun _ _ _ _ => .bad⟩ fr b) ⟨z.z.gl h2, (okN_ok h3).1, .inl (z.z.cls e1 e2)⟩ (fun c' hc' => by rw [z.z.eK]; exact z.z.F.exm c' c hc' hx) hsl
        (fun a oe cls d pn hz hf => by
          have q := chkSs_ok (fr := fr) b (z.suite a oe cls d pn hz hf) h5
          rw [evSs_wx] at q
          exact q) (chkHs_ok (fr := fr) l z h6)
      have ee : evHs hd fr (.cons c i b l) = fun c' fs ρ m => if isExc (P.wx none) c' then (if catches (P.wx none) c' c then outS i (evSs ⟨P, fun _ _ _ _ => .bad⟩ fr b (setE i c' fs ρ) m) else evHs hd fr l c' fs ρ m) else .bad := by
        funext c' fs ρ m
        simp only [evHs]
        rw [hP, evSs_wx]
      rw [ee]
      exact key
end
end MP
end
section
set_option  maxHeartbeats  4000000
/-! Defs by their fuel; the law's call. -/
namespace MP
open PySem PySem.Spec PyProof.Rows L2
/-- a def as it stands: its text is its term -/
structure FnAt (P : Prog) (K : Fg) (d : FnDef) : Prop where
  ex : ∃ (x qual : Str) (params : Arguments) (body : List Stmt) (scope : Scope) (fd : FuncData) (dvs : List V), FunD K x qual params body scope dvs [] (fA K d.at_) fd ∧ FnScope d.names d.ps scope ∧ PlainPs params d.ps ∧ d.ps.Nodup ∧ dvs.length ≤ d.ps.length ∧
    (∀ (w : Wd) (H : Hp), DatL P K w.fro H d.dfl dvs) ∧ chkSs P K d.names d.body scope true true body = true
section
variable {P : Prog} {K : Fg} {w w' : Wd} {H H' : Hp} {m : M}
/-- a thing of the store is handed back: it stands behind the first ones -/
theorem MRel.pick (h : MRel P K w H m) {n j : Nat} {c : C} {as : List Addr} (hnj : n ≤ j) (e1 : m[j]? = some c) (e2 : w.ow[j]? = some as) : MRel P K { w with ow := w.ow.take n ++ [as] } H (m.take n ++ [c]) := by
  have hjl : j < m.length := (List.getElem?_eq_some_iff.mp e1).1
  have hlm : (m.take n).length = n := by rw [List.length_take]; omega
  have hlo : (w.ow.take n).length = n := by rw [List.length_take, h.len]; omega
  have at1 : ∀ (i : Nat) c' bs, (m.take n ++ [c])[i]? = some c' → (w.ow.take n ++ [as])[i]? = some bs → ∃ i', m[i']? = some c' ∧ w.ow[i']? = some bs := fun i c' bs q1 q2 => by
    by_cases hi : i < n
    · rw [List.getElem?_append_left (by rw [hlm]; exact hi), List.getElem?_take_of_lt hi] at q1
      rw [List.getElem?_append_left (by rw [hlo]; exact hi), List.getElem?_take_of_lt hi] at q2
      exact ⟨i, q1, q2⟩
    · have hi2 : i = n := by
        have := (List.getElem?_eq_some_iff.mp q1).1
        rw [List.length_append, hlm, List.length_singleton] at this
        omega
      rw [List.getElem?_append_right (by rw [hlm]; omega), hi2, hlm, Nat.sub_self] at q1
      rw [List.getElem?_append_right (by rw [hlo]; omega), hi2, hlo, Nat.sub_self] at q2
      cases q1
      cases q2
      exact ⟨j, e1, e2⟩
  have memo : ∀ a, a ∈ (w.ow.take n ++ [as]).flatten → a ∈ w.ow.flatten := fun a ha => by
    rw [List.flatten_append] at ha
    rcases List.mem_append.mp ha with q | q
    · rw [flatten_cut w.ow n]
      exact List.mem_append_left _ q
    · have q' : a ∈ as := by simpa using q
      exact mem_ow e2 a q'
  refine ⟨by show (w.ow.take n ++ [as]).length = _; rw [List.length_append, List.length_append, hlm, hlo]; rfl, fun i c' bs q1 q2 => ?_, ?_, fun a ha => h.dis a (memo a ha), h.some_, fun a q => ⟨(h.hid a q).1, fun z => (h.hid a q).2.1 (memo a z), (h.hid a q).2.2⟩, h.pro, fun i c' bs q1 q2 hl a ha => ?_, fun i c' bs q1 q2 hl a ha => ?_, h.xk⟩
  · obtain ⟨i', r1, r2⟩ := at1 i c' bs q1 q2
    exact CRel.mono (w := w) (w' := { w with ow := w.ow.take n ++ [as] }) (fun _ f => f) (fun _ _ => .rfl) (fun _ _ => rfl) (h.at_ i' c' bs r1 r2)
  · show (w.ow.take n ++ [as]).flatten.Nodup
    obtain ⟨a1, a2, a3⟩ := ow_apart (bs := []) h.nd e2
    rw [List.flatten_append]
    refine List.nodup_append.mpr ⟨?_, by simpa using a3, fun x hx y hy e => ?_⟩
    · have := h.nd
      rw [flatten_cut w.ow n] at this
      exact (List.nodup_append.mp this).1
    · subst e
      have hy' : x ∈ as := by simpa using hy
      refine a1 x hy' ?_
      rw [List.flatten_append]
      refine List.mem_append_left _ ?_
      have e3 : w.ow.take n = (w.ow.take j).take n := by rw [List.take_take, Nat.min_eq_left hnj]
      rw [e3] at hx
      obtain ⟨l, hl, hxl⟩ := List.mem_flatten.mp hx
      exact List.mem_flatten.mpr ⟨l, List.mem_of_mem_take hl, hxl⟩
  · obtain ⟨i', r1, r2⟩ := at1 i c' bs q1 q2
    exact h.lk i' c' bs r1 r2 hl a ha
  · obtain ⟨i', r1, r2⟩ := at1 i c' bs q1 q2
    exact h.lk2 i' c' bs r1 r2 hl a ha
theorem Ext.pick (x : Ext w H w' H') {n : Nat} {as : List Addr} (hn : w.ow.length ≤ n) (hn' : n ≤ w'.ow.length) : Ext w H { w' with ow := w'.ow.take n ++ [as] } H' :=
  ⟨x.fro, x.keep, fun i bs e => by
    obtain ⟨bs', h1, h2⟩ := x.ow i bs e
    have hi : i < n := Nat.lt_of_lt_of_le (List.getElem?_eq_some_iff.mp e).1 hn
    refine ⟨bs', ?_, h2⟩
    show (w'.ow.take n ++ [as])[i]? = _
    rw [List.getElem?_append_left (by rw [List.length_take]; omega), List.getElem?_take_of_lt hi]
    exact h1, x.xi, x.hid, x.prot, x.pk⟩
theorem ow_grow (x : Ext w H w' H') : w.ow.length ≤ w'.ow.length := by
  by_cases h : w.ow.length = 0
  · omega
  · obtain ⟨as, e⟩ : ∃ as, w.ow[w.ow.length - 1]? = some as := ⟨w.ow[w.ow.length - 1], List.getElem?_eq_getElem (by omega)⟩
    obtain ⟨bs, h1, _⟩ := x.ow _ as e
    have := (List.getElem?_eq_some_iff.mp h1).1
    omega
theorem entry_rel {d : FnDef} {as : List W} {vs : List V} (h : WsRel P K w H as vs) : SRel P K w H (entry d as) (L2.start d.names vs) := by
  have hl := h.length
  have get : ∀ {as : List W} {vs : List V}, WsRel P K w H as vs → ∀ (i : Nat) x, as[i]? = some x → ∃ v, vs[i]? = some v ∧ WRel P K w H x v := by
    intro as
    induction as with
    | nil => intro vs _ i x e; simp at e
    | cons a as ih =>
      intro vs h i x e
      obtain ⟨v, r, rfl, h1, h2⟩ := h
      cases i with
      | zero => cases e; exact ⟨v, rfl, h1⟩
      | succ i => exact ih h2 i x e
  refine ⟨by unfold entry L2.start; rw [List.length_append, List.length_append, List.length_replicate, List.length_replicate, List.length_map, hl], fun i x e n => ?_⟩
  unfold entry at e
  by_cases hi : i < as.length
  · rw [List.getElem?_append_left hi] at e
    obtain ⟨v, h1, h2⟩ := get h i x e
    refine ⟨v, ?_, h2⟩
    unfold L2.start
    rw [List.getElem?_append_left (by rw [List.length_map, hl]; exact hi), List.getElem?_map, h1]
    rfl
  · rw [List.getElem?_append_right (by omega), List.getElem?_replicate] at e
    split at e
    · cases e; exact absurd rfl n
    · cases e
/-- what a body's end means for its caller -/
theorem body_end {d : FnDef} {Q : VK} {E : XK} {o : O} (hm : MRel P K w H m) (p : Post P K (WRel P K) w H (match o with
      | .nx _ m1 => .ok (.v .non) (m1.take m.length)
      | .rt a m1 => backW m.length a m1
      | .exc c fs _ m1 => .exc c fs (m1.take m.length)
      | .bad => .bad) Q E) : PostO P K w H o { nx := fun _ H' => Q .non H', rt := Q } (fun cls dd _ H' => E cls dd H') := by
  have hn : w.ow.length = m.length := hm.len
  cases o with
  | bad => exact p
  | nx ρ m1 => exact fun σ' w' H' x' M' S' => p .non (w'.cut m.length) H' (x'.cut (Nat.le_of_eq hn)) (M'.take _) (show Dat P K w'.fro H' .non .non from Dat.non_iff.mpr rfl)
  | exc c fs ρ m1 => exact fun cls dd σ' w' H' x' M' S' X' => p cls dd (w'.cut m.length) H' (x'.cut (Nat.le_of_eq hn)) (M'.take _) X'
  | rt a m1 =>
    intro v w' H' x' M' R'
    dsimp only at p
    unfold backW at p
    cases a with
    | v dd => exact p v (w'.cut m.length) H' (x'.cut (Nat.le_of_eq hn)) (M'.take _) R'
    | c j =>
      dsimp only at p
      by_cases hj : j < m.length
      · rw [if_pos hj] at p
        refine p v (w'.cut m.length) H' (x'.cut (Nat.le_of_eq hn)) (M'.take _) ?_
        obtain ⟨as, h1, h2⟩ := R'
        refine ⟨as, ?_, h2⟩
        show (w'.ow.take m.length)[j]? = _
        rw [List.getElem?_take_of_lt hj]
        exact h1
      · rw [if_neg hj] at p
        obtain ⟨as, h1, h2⟩ := R'
        cases e : m1[j]? with
        | none => rw [e] at p; exact p.elim
        | some c =>
          rw [e] at p
          have hle : m.length ≤ w'.ow.length := by rw [← hn]; exact ow_grow x'
          refine p v _ H' (x'.pick (as := as) (Nat.le_of_eq hn) hle) (M'.pick (Nat.not_lt.mp hj) e h1) ⟨as, ?_, h2⟩
          show (w'.ow.take m.length ++ [as])[m.length]? = _
          rw [List.getElem?_append_right (by rw [List.length_take]; omega), List.length_take, Nat.min_eq_left hle, Nat.sub_self]
          rfl
    | e c fs => exact p.elim
    | u => exact p.elim
end
/-- how much room a def of fuel n wants -/
def lev (n : Nat) : Nat := 4 * n
section
variable {P : Prog} {K : Fg} {Pr : Program} {w : World} {mg : Str → Option Value} {base : Heap}
/-- a def of fuel n keeps what the evaluator says -/
structure FnsOk (P : Prog) (K : Fg) (Pr : Program) (w : World) (mg : Str → Option Value) (base : Heap) (n : Nat) : Prop where
  ok : ∀ f d fr, P.fn f = some d → ∃ (fd : FuncData) (dvs : List V) (its : List Value), FnG Pr w K mg base (L2.CX Pr w) (lev n) (fA K d.at_) fd d.ps (spF P K (runF P n) f fr d.ps.length) ∧ Vals dvs its ∧ (∀ (w : Wd) (H : Hp), DatL P K w.fro H d.dfl dvs) ∧
    (∀ (s : Shared) (us zs : List Value), K.In s.heap → argsG d.ps.length us its = some zs → BindsTo s fd ⟨us, []⟩ (d.ps.zip zs)) ∧
    ∀ (s : Shared) (us zs : List Value) (kw : List (Str × Value)), K.In s.heap → argsK d.ps us kw its = some zs → BindsTo s fd ⟨us, kw⟩ (d.ps.zip zs)
theorem fns_zero (hA : ∀ f d, P.fn f = some d → FnAt P K d) : FnsOk P K Pr w mg base 0 := by
  refine ⟨fun f d fr hf => ?_⟩
  obtain ⟨x, qual, params, body, scope, fd, dvs, F, S, pp, nd, hz, hdl, hck⟩ := (hA f d hf).ex
  obtain ⟨its, r, b1, b2⟩ := bind_all F pp nd hz
  refine ⟨fd, dvs, its, ⟨fun vs H Q E q => ?_, fun A outer s H args us vs Q E hr e0 hb rv q => ?_⟩, r, hdl, b1, b2⟩
  · obtain ⟨w, as, m, _, _, _, p⟩ := q
    exact p.elim
  · obtain ⟨w, as, m, _, _, _, p⟩ := q
    exact p.elim
theorem fns_succ (hx : P.wx none = P) (hA : ∀ f d, P.fn f = some d → FnAt P K d) (F0 : Facts P K) (hmg : MgK K mg) {n : Nat} (ih : FnsOk P K Pr w mg base n) : FnsOk P K Pr w mg base (n + 1) := by
  refine ⟨fun f d fr hf => ?_⟩
  obtain ⟨x, qual, params, body, scope, fd, dvs, F, S, pp, nd, hz, hdl, hck⟩ := (hA f d hf).ex
  obtain ⟨its, r, b1, b2⟩ := bind_all F pp nd hz
  refine ⟨fd, dvs, its, ?_, r, hdl, b1, b2⟩
  refine fnG_of (k := lev n + 3) F S (fun vs H Q E q => ?_) (fun cdv A outer s H vs Q E hr q => ?_)
  · obtain ⟨w, as, m, _, wr, hl, p⟩ := q
    rw [wr.length, hl]
  · obtain ⟨wd, as, m, hm, wr, hl, p⟩ := q
    let X : Cx := cxOf (L2.CX Pr w) Pr w K mg base d.names qual scope (fA K d.at_) cdv A outer s H E
    let Wx : WX := fun cls dd _ H' => E cls dd H'
    have tk : Takes X Wx := takes_of rfl rfl rfl rfl
    have G : Gx (P.wx none) ⟨P, runF P n⟩ X Wx (lev n) := by
      rw [hx]
      refine ⟨rfl, S.nd, tk, by have q := hr.rm.un; exact Nat.lt_of_le_of_lt (by show (A.deeper (envOfC qual scope s.heap.objs.size (fA K d.at_) cdv)).units + 70 ≤ (A.deeper (envOfC qual scope s.heap.objs.size (fA K d.at_) cdv)).units + 16 * (lev n + 3) + 200; omega) q, fun _ => hr, hr.gd, (fun z => nomatch z), fun f' d' fr' hf' => ⟨ih.ok f' d' fr' hf'⟩, F0.op⟩
    have Z : Cs P K d.names none ⟨P, runF P n⟩ X Wx (lev n) scope true true :=
      ⟨⟨G, rfl, rfl, rfl, fun _ => rfl, hmg, F0, (fun _ _ _ z => nomatch z), fun _ => rfl⟩, S.kind, fun _ => rfl, passes_of rfl, fun _ => ⟨rfl, rfl⟩⟩
    have B := chkSs_ok (fr := fr) d.body Z hck
    rw [hx] at B
    refine ⟨_, B, wd, entry d as, m, hm, entry_rel wr, body_end (d := d) hm ?_⟩
    have e : runF P (n + 1) f fr as m = (match evSs ⟨P, runF P n⟩ fr d.body (entry d as) m with
      | .nx _ m1 => .ok (.v .non) (m1.take m.length)
      | .rt w m1 => backW m.length w m1
      | .exc c fs _ m1 => .exc c fs (m1.take m.length)
      | .bad => .bad) := by
      unfold runF
      rw [hf]
      exact if_pos hl
    rw [e] at p
    exact p
theorem fns_ok (hx : P.wx none = P) (hA : ∀ f d, P.fn f = some d → FnAt P K d) (F0 : Facts P K) (hmg : MgK K mg) : ∀ n, FnsOk P K Pr w mg base n
  | 0 => fns_zero hA
  | n + 1 => fns_succ hx hA F0 hmg (fns_ok hx hA F0 hmg n)
end
end MP
end
section
set_option  maxHeartbeats  4000000
/-! The head's facts by one test. -/
namespace MP
open PySem PySem.Spec PyProof.Rows L2
/-! ### one def -/
def dfV (K : Fg) (at_ : Str × Option Str) (i : Nat) : D → V
  | .int n => .int n
  | _ => .ref (He.dflAt at_ i K)
def dfVs (K : Fg) (at_ : Str × Option Str) : Nat → List D → List V
  | _, [] => []
  | i, d :: ds => dfV K at_ i d :: dfVs K at_ (i + 1) ds
def dfB (K : Fg) (at_ : Str × Option Str) : Nat → List D → Bool
  | _, [] => true
  | i, .int _ :: ds => dfB K at_ (i + 1) ds
  | i, .tup [] :: ds => (match K.lookup (He.dflAt at_ i K) with
    | some ⟨.type c, _, .seq its _, _⟩ => decide (c = "tuple") && its.toList.isEmpty
    | _ => false) && dfB K at_ (i + 1) ds
  | _, _ => false
theorem dfVs_len {K : Fg} {at_ : Str × Option Str} : ∀ (ds : List D) (i : Nat), (dfVs K at_ i ds).length = ds.length
  | [], _ => rfl
  | d :: ds, i => congrArg Nat.succ (dfVs_len ds (i + 1))
theorem dfB_ok {P : Prog} {K : Fg} {at_ : Str × Option Str} {w : Wd} {H : Hp} : ∀ (ds : List D) (i : Nat), dfB K at_ i ds = true → DatL P K w.fro H ds (dfVs K at_ i ds)
  | [], i, _ => DatL.nil
  | d :: ds, i, h => by
    cases d with
    | int n => exact DatL.cons (Dat.int_iff.mpr rfl) (dfB_ok ds (i + 1) h)
    | tup xs =>
      cases xs with
      | nil =>
        obtain ⟨h1, h2⟩ := He.ba (show ((match K.lookup (He.dflAt at_ i K) with
          | some ⟨.type c, _, .seq its _, _⟩ => decide (c = "tuple") && its.toList.isEmpty
          | _ => false) && dfB K at_ (i + 1) ds) = true from h)
        refine DatL.cons (Dat.tup_iff.mpr ⟨He.dflAt at_ i K, [], rfl, .inr ?_, DatL.nil⟩) (dfB_ok ds (i + 1) h2)
        split at h1
        · rename_i c dd its n sl e
          obtain ⟨k1, k2⟩ := He.ba h1
          have e1 : its.toList = [] := List.isEmpty_iff.mp k2
          refine ⟨_, its, n, e, congrArg Value.type (of_decide_eq_true k1), rfl, ?_, by rw [e1]; exact .nil⟩
          have : its.size = 0 := by
            rw [← Array.length_toList, e1]
            rfl
          omega
        · cases h1
      | cons _ _ => cases h
    | _ => cases h
def scopeB (nn ps : List Str) (sc : Scope) : Bool := isFun sc.kind && (!sc.isCoroutine && (!sc.isGenerator && (decide nn.Nodup && (decide (nn.take ps.length = ps) && ((ps.all fun x => locB true sc x) && sc.names.all fun y => (match y.2 with
  | .free => false
  | _ => true))))))
theorem scopeB_ok {nn ps : List Str} {sc : Scope} (h : scopeB nn ps sc = true) : FnScope nn ps sc := by
  obtain ⟨h1, h⟩ := He.ba h
  obtain ⟨h2, h⟩ := He.ba h
  obtain ⟨h3, h⟩ := He.ba h
  obtain ⟨h4, h⟩ := He.ba h
  obtain ⟨h5, h⟩ := He.ba h
  obtain ⟨h6, h7⟩ := He.ba h
  refine ⟨isFun_ok h1, bn h2, bn h3, of_decide_eq_true h4, of_decide_eq_true h5, fun x hx => (locB_ok (List.all_eq_true.mp h6 x hx)).1, fun y hy e => ?_⟩
  have := List.all_eq_true.mp h7 y hy
  rw [e] at this
  cases this
def plainB (p : Arguments) (ps : List Str) : Bool := p.posonlyargs.isEmpty && (p.vararg.isNone && (p.kwonlyargs.isEmpty && (p.kwarg.isNone && decide (p.args.map (·.arg) = ps))))
theorem plainB_ok {p : Arguments} {ps : List Str} (h : plainB p ps = true) : PlainPs p ps := by
  obtain ⟨h1, h⟩ := He.ba h
  obtain ⟨h2, h⟩ := He.ba h
  obtain ⟨h3, h⟩ := He.ba h
  obtain ⟨h4, h5⟩ := He.ba h
  exact ⟨List.isEmpty_iff.mp h1, Option.isNone_iff_eq_none.mp h2, List.isEmpty_iff.mp h3, Option.isNone_iff_eq_none.mp h4, of_decide_eq_true h5⟩
/-- the function object at f, and what t says of its body -/
def fdB (K : Fg) (f : Addr) (dvs : List V) (t : Arguments → Scope → List Stmt → Bool) : Bool := PySem.W.keepIn K (.ref f) && (match K.lookup f with
  | some ⟨_, _, .func fd, _⟩ => decide (fd.globals = mainGlobals) && (fd.closure.isEmpty && (decide (fd.builtins = builtinsNs) && (PySem.W.codeIn K fd.code fd.qualname && (He.dflB K fd.defaults dvs && (match fd.body with
    | .stmts b => t fd.params fd.scope b
    | _ => false)))))
  | _ => false)
theorem fdB_ok {K : Fg} {f : Addr} {dvs : List V} {t : Arguments → Scope → List Stmt → Bool} (h : fdB K f dvs t = true) :
    ∃ (x qual : Str) (params : Arguments) (body : List Stmt) (scope : Scope) (fd : FuncData), FunD K x qual params body scope dvs [] f fd ∧ t params scope body = true := by
  obtain ⟨kp, h⟩ := He.ba h
  split at h
  · rename_i oc od fd osl e
    obtain ⟨h1, h⟩ := He.ba h
    obtain ⟨h2, h⟩ := He.ba h
    obtain ⟨h3, h⟩ := He.ba h
    obtain ⟨h4, h⟩ := He.ba h
    obtain ⟨h5, h⟩ := He.ba h
    split at h
    · rename_i b eb
      obtain ⟨n1, n2, n3, n4, n5, n6, n7, n8, n9, n10, n11, n12, n13, n14, n15⟩ := fd
      have k1 : n6 = mainGlobals := of_decide_eq_true h1
      have k2 : n7 = [] := List.isEmpty_iff.mp h2
      have k3 : n15 = builtinsNs := of_decide_eq_true h3
      have k4 : n4 = .stmts b := eb
      subst k1 k2 k3 k4
      exact ⟨n1, n2, n3, b, n5, _, ⟨⟨oc, od, n8, n9, n10, n11, n12, n13, n14, osl, rfl, e, h4, He.dflB_ok h5, .inl rfl⟩, kp⟩, h⟩
    · cases h
  · cases h
/-- a classmethod -/
def cmB (K : Fg) (C : Addr) (m : Str) (g : Addr) : Bool := PySem.W.readsIn K C (.type "type") && (He.eqO (PySem.W.specialIn K (.ref C) "__getattribute__") (some (some (.builtin "type.__getattribute__"))) && (match PySem.W.findCls K (.ref C) (.type "type") m with
  | some (.get (.builtin b) (.ref p) .none (.ref C')) => decide (b = "classmethod.__get__") && (decide (C' = C) && ((match PySem.W.recIn K p "classmethod" with
    | some (.ref g' :: _) => decide (g' = g)
    | _ => false) && PySem.W.fnIn K g))
  | _ => false))
theorem cmB_ok {K : Fg} {C : Addr} {m : Str} {g : Addr} (h : cmB K C m g = true) : CmF K C m g := by
  obtain ⟨h1, h⟩ := He.ba h
  obtain ⟨h2, h⟩ := He.ba h
  refine ⟨⟨h1, He.eqO_ok h2⟩, ?_⟩
  split at h
  · rename_i b p C' e
    obtain ⟨k1, h⟩ := He.ba h
    obtain ⟨k2, h⟩ := He.ba h
    obtain ⟨k3, k4⟩ := He.ba h
    have e1 : b = "classmethod.__get__" := of_decide_eq_true k1
    have e2 : C' = C := of_decide_eq_true k2
    subst e1 e2
    refine ⟨p, e, ?_, k4⟩
    split at k3
    · rename_i g' rest e3
      have e4 : g' = g := of_decide_eq_true k3
      subst e4
      exact ⟨rest, e3⟩
    · cases k3
  · cases h
def fnB (P : Prog) (K : Fg) (d : FnDef) : Bool := fdB K (fA K d.at_) (dfVs K d.at_ 0 d.dfl) (fun params scope b => plainB params d.ps && (scopeB d.names d.ps scope && chkSs P K d.names d.body scope true true b)) && (dfB K d.at_ 0 d.dfl && (decide (d.dfl.length ≤ d.ps.length) && (decide d.ps.Nodup &&
  (match d.at_.2 with
  | none => He.eqO (PySem.W.nsIn K mainGlobals d.at_.1) (some (some (.ref (fA K d.at_))))
  | some m => if isCm K d.at_ then cmB K (He.ga K d.at_.1) m (fA K d.at_) else He.eqO (PySem.W.findIn K (.ref (He.ga K d.at_.1)) m) (some (some (.ref (fA K d.at_)))) && PySem.W.isFn K (.ref (fA K d.at_))))))
theorem fnB_ok {P : Prog} {K : Fg} {d : FnDef} (h : fnB P K d = true) : FnAt P K d ∧ d.ps.Nodup ∧ (∀ x, d.at_ = (x, none) → PySem.W.nsIn K mainGlobals x = some (some (.ref (fA K d.at_))) ∧ PySem.W.keepIn K (.ref (fA K d.at_)) = true) ∧ (∀ x m, d.at_ = (x, some m) → isCm K d.at_ = false → Meth K (He.ga K x) m (fA K d.at_)) ∧ ∀ x m, d.at_ = (x, some m) → isCm K d.at_ = true → CmF K (He.ga K x) m (fA K d.at_) := by
  obtain ⟨h1, h⟩ := He.ba h
  obtain ⟨h2, h⟩ := He.ba h
  obtain ⟨h3, h⟩ := He.ba h
  obtain ⟨h4, h5⟩ := He.ba h
  have kp : PySem.W.keepIn K (.ref (fA K d.at_)) = true := (He.ba h1).1
  obtain ⟨x, qual, params, body, scope, fd, F, t⟩ := fdB_ok h1
  obtain ⟨t1, t⟩ := He.ba t
  obtain ⟨t2, t3⟩ := He.ba t
  have nd : d.ps.Nodup := of_decide_eq_true h4
  refine ⟨⟨x, qual, params, body, scope, fd, _, F, scopeB_ok t2, plainB_ok t1, nd, by rw [dfVs_len]; exact of_decide_eq_true h3, fun w H => dfB_ok d.dfl 0 h2, t3⟩, nd, fun y e => ?_, fun y m e hc => ?_, fun y m e hc => ?_⟩
  · rw [show d.at_.2 = none by rw [e]] at h5
    refine ⟨?_, kp⟩
    have := He.eqO_ok h5
    rw [show d.at_.1 = y by rw [e]] at this
    exact this
  · rw [show d.at_.2 = some m by rw [e]] at h5
    dsimp only at h5
    rw [hc, if_neg Bool.false_ne_true] at h5
    obtain ⟨k1, k2⟩ := He.ba h5
    have := He.eqO_ok k1
    rw [show d.at_.1 = y by rw [e]] at this
    exact ⟨this, k2, kp⟩
  · rw [show d.at_.2 = some m by rw [e]] at h5
    dsimp only at h5
    rw [hc, if_pos rfl] at h5
    rw [show d.at_.1 = y by rw [e]] at h5
    exact cmB_ok h5
/-! ### one class -/
def tyNs : List String := ["NoneType", "bool", "int", "str", "list", "tuple", "dict"]
def clsFB (K : Fg) (C : Addr) : Bool := PySem.W.plainGet K C Str.empty && (PySem.W.hasDictIn K C && (PySem.W.plainOver K C && (He.eqO (PySem.W.findIn K (.ref C) "__setattr__") (some (some (.builtin "object.__setattr__"))) &&
  (PySem.W.selfFirst K C && (He.eqO (PySem.W.findIn K (.ref C) "__class__") (some (some (.builtin "object.__class__"))) && (He.eqO (PySem.W.specialIn K (.builtin "object.__class__") "__get__") (some (some (.builtin "getset_descriptor.__get__"))) &&
  (decide (PySem.W.takesIn K (.builtin "object.__class__") = some true) && (decide (PySem.W.mroIn K C (.type "object") = some true) && tyNs.all fun T => decide (PySem.W.subIn K (.type T) (.ref C) = some false)))))))))
theorem clsFB_ok {P : Prog} {K : Fg} {c : Nat} (h : clsFB K (ca P K c) = true) : ClsF P K c := by
  obtain ⟨h1, h⟩ := He.ba h
  obtain ⟨h2, h⟩ := He.ba h
  obtain ⟨h3, h⟩ := He.ba h
  obtain ⟨h4, h⟩ := He.ba h
  obtain ⟨h5, h⟩ := He.ba h
  obtain ⟨h6, h⟩ := He.ba h
  obtain ⟨h7, h⟩ := He.ba h
  obtain ⟨h8, h⟩ := He.ba h
  obtain ⟨h9, hA⟩ := He.ba h
  exact ⟨⟨h1, h2, h3, He.eqO_ok h4⟩, h5, He.eqO_ok h6, He.eqO_ok h7, of_decide_eq_true h8, of_decide_eq_true h9, fun T hT => of_decide_eq_true (List.all_eq_true.mp hA T hT)⟩
def cmpNm : Nat → Option CmpOp
  | 10 => some .Eq
  | 11 => some .Lt
  | 12 => some .LtE
  | _ => none
def binNm : Nat → Option Operator
  | 0 => some .Add
  | 1 => some .Sub
  | 2 => some .Mult
  | _ => none
/-- an own operator's def -/
def opEB (P : Prog) (K : Fg) (C : Addr) (q : Nat × Nat) : Bool := (q.1 == 0 || (q.1 == 1 || (q.1 == 2 || (q.1 == 10 || (q.1 == 11 || (q.1 == 12 || (q.1 == 20 || q.1 == 30))))))) && (match P.fn q.2 with
  | none => true
  | some d => (match cmpNm q.1 with
    | some op => He.eqO (PySem.W.findIn K (.ref C) (cmpInfo op).2.1) (some (some (.ref (fA K d.at_)))) && PySem.W.isFn K (.ref (fA K d.at_))
    | none => true) && ((match binNm q.1 with
    | some op => He.eqO (PySem.W.findIn K (.ref C) (PySem.dunder op.info.2)) (some (some (.ref (fA K d.at_)))) && (PySem.W.isFn K (.ref (fA K d.at_)) && (He.eqO (PySem.W.findIn K (.ref C) (dunderR op.info.2)) (some none) && ((PySem.W.findIn K (.type "int") (PySem.dunder op.info.2)).isSome && (PySem.W.findIn K (.type "int") (dunderR op.info.2)).isSome)))
    | none => true) && (q.1 != 30 || (He.eqO (PySem.W.findIn K (.ref C) "__neg__") (some (some (.ref (fA K d.at_)))) && PySem.W.isFn K (.ref (fA K d.at_))))))
def opsB (P : Prog) (K : Fg) (C : Addr) (cd : ClsDef) : Bool := He.eqO (PySem.W.findIn K (.ref C) "__ne__") (some (some (.builtin "object.__ne__"))) && cd.ops.all (opEB P K C)
theorem lookup_mem {α β : Type} [BEq α] [LawfulBEq α] {k : α} {b : β} : ∀ {l : List (α × β)}, l.lookup k = some b → (k, b) ∈ l
  | [], h => by cases h
  | (k', b') :: l, h => by
    rw [List.lookup_cons] at h
    cases e : (k == k') with
    | true =>
      rw [e] at h
      cases h
      rw [eq_of_beq e]
      exact List.mem_cons_self
    | false =>
      rw [e] at h
      exact List.mem_cons_of_mem _ (lookup_mem h)
theorem opsB_ok {P : Prog} {K : Fg} {c : Nat} {cd : ClsDef} (e : P.cls[c]? = some cd) (F : ClsF P K c) (h : opsB P K (ca P K c) cd = true) : OpF P K c := by
  obtain ⟨h1, h2⟩ := He.ba h
  have get : ∀ k f, P.op c k = some f → opEB P K (ca P K c) (k, f) = true := fun k f q => by
    unfold Prog.op at q
    rw [e] at q
    exact List.all_eq_true.mp h2 _ (lookup_mem q)
  refine ⟨F, fun op k hk f d q hf => ?_, He.eqO_ok h1, fun f d q hf => ?_, fun op k hk f d q hf => ?_, fun k f q => ?_⟩
  · have z := (He.ba (get k f q)).2
    dsimp only at z
    rw [hf] at z
    rcases hk with ⟨rfl, rfl⟩ | ⟨rfl, rfl⟩ | ⟨rfl, rfl⟩
    · obtain ⟨k1, k2⟩ := He.ba (He.ba z).1
      exact ⟨He.eqO_ok k1, k2⟩
    · obtain ⟨k1, k2⟩ := He.ba (He.ba z).1
      exact ⟨He.eqO_ok k1, k2⟩
    · obtain ⟨k1, k2⟩ := He.ba (He.ba z).1
      exact ⟨He.eqO_ok k1, k2⟩
  · have z := (He.ba (get 30 f q)).2
    dsimp only at z
    rw [hf] at z
    obtain ⟨k1, k2⟩ := He.ba (He.ba (He.ba z).2).2
    exact ⟨He.eqO_ok k1, k2⟩
  · have z := (He.ba (get k f q)).2
    dsimp only at z
    rw [hf] at z
    have fin : ∀ op : Operator, (He.eqO (PySem.W.findIn K (.ref (ca P K c)) (PySem.dunder op.info.2)) (some (some (.ref (fA K d.at_)))) && (PySem.W.isFn K (.ref (fA K d.at_)) && (He.eqO (PySem.W.findIn K (.ref (ca P K c)) (dunderR op.info.2)) (some none) && ((PySem.W.findIn K (.type "int") (PySem.dunder op.info.2)).isSome && (PySem.W.findIn K (.type "int") (dunderR op.info.2)).isSome)))) = true →
        PySem.W.findIn K (.ref (ca P K c)) (PySem.dunder op.info.2) = some (some (.ref (fA K d.at_))) ∧ PySem.W.isFn K (.ref (fA K d.at_)) = true ∧ PySem.W.findIn K (.ref (ca P K c)) (dunderR op.info.2) = some none ∧ (∃ fo, PySem.W.findIn K (.type "int") (PySem.dunder op.info.2) = some fo) ∧ ∃ ro, PySem.W.findIn K (.type "int") (dunderR op.info.2) = some ro := by
      intro op z
      obtain ⟨k1, z⟩ := He.ba z
      obtain ⟨k2, z⟩ := He.ba z
      obtain ⟨k3, z⟩ := He.ba z
      obtain ⟨k4, k5⟩ := He.ba z
      exact ⟨He.eqO_ok k1, k2, He.eqO_ok k3, Option.isSome_iff_exists.mp k4, Option.isSome_iff_exists.mp k5⟩
    rcases hk with ⟨rfl, rfl⟩ | ⟨rfl, rfl⟩ | ⟨rfl, rfl⟩
    · exact fin _ (He.ba (He.ba z).2).1
    · exact fin _ (He.ba (He.ba z).2).1
    · exact fin _ (He.ba (He.ba z).2).1
  · have z := (He.ba (get k f q)).1
    simpa using z
def isFB (P : Prog) (K : Fg) (c : Nat) : Bool := (["int", "bool", "str", "list", "tuple", "dict"].all fun T => decide (PySem.W.kitOne K (.ref (ca P K c)) (.type T) = some false)) && ((tyNs.all fun T => decide (PySem.W.kitOne K (.type T) (.ref (ca P K c)) = some false)) &&
  (List.range P.cls.length).all fun c' => !P.own c' || decide (PySem.W.kitOne K (.ref (ca P K c')) (.ref (ca P K c)) = some (c == c')))
theorem own_lt {P : Prog} {c : Nat} (h : P.own c = true) : c < P.cls.length := by
  unfold Prog.own at h
  cases e : P.cls[c]? with
  | none => rw [e] at h; cases h
  | some d => exact (List.getElem?_eq_some_iff.mp e).1
theorem isFB_ok {P : Prog} {K : Fg} {c : Nat} (F : ClsF P K c) (h : isFB P K c = true) : IsF P K c := by
  obtain ⟨h1, h⟩ := He.ba h
  obtain ⟨h2, h3⟩ := He.ba h
  refine ⟨F, fun T hT => of_decide_eq_true (List.all_eq_true.mp h1 T hT), fun T hT => of_decide_eq_true (List.all_eq_true.mp h2 T hT), fun c' hc => ?_⟩
  have := List.all_eq_true.mp h3 c' (List.mem_range.mpr (own_lt hc))
  rw [hc] at this
  exact of_decide_eq_true (by simpa using this)
def ownB (P : Prog) (K : Fg) (c : Nat) (cd : ClsDef) : Bool := clsFB K (ca P K c) && ((cd.flds.all fun x => He.eqO (PySem.W.findIn K (.ref (ca P K c)) x) (some none)) && (opsB P K (ca P K c) cd && (isFB P K c && (match P.fn cd.init with
  | none => true
  | some d => PySem.W.makesIn K (ca P K c) && (He.eqO (PySem.W.findIn K (.ref (ca P K c)) "__init__") (some (some (.ref (fA K d.at_)))) && (PySem.W.isFn K (.ref (fA K d.at_)) && PySem.W.keepIn K (.ref (ca P K c))))))))
/-! ### one error -/
def initB (K : Fg) (flds : List Str) (C : Addr) (params : Arguments) (scope : Scope) (b : List Stmt) : Bool := match flds, b with
  | [], [.Expr (.Call (.Attribute (.Name bn _) m p2) [.Name sn _, .Constant (.str _) _ _] [] p5) _] => decide (m = "__init__") && (glB scope bn && (okN bn && (okN sn && ((p2.endLine == p5.line) && (scopeB [sn] [sn] scope && (plainB params [sn] && (He.eqO (PySem.W.nsIn K mainGlobals bn) (some (some (.ref (He.ga K bn)))) && baseB K (He.ga K bn))))))))
  | [f], [.Expr (.Call (.Attribute (.Name bn _) m p2) [.Name sn _, .Constant (.str _) _ _] [] p5) _, .Assign [.Attribute (.Name sn' _) fn _] (.Name gn _) _] => decide (m = "__init__") && (decide (sn' = sn) && (decide (fn = f) && (glB scope bn && (okN bn && (okN sn && (okN gn && ((p2.endLine == p5.line) && (scopeB [sn, gn] [sn, gn] scope && (plainB params [sn, gn] && (He.eqO (PySem.W.nsIn K mainGlobals bn) (some (some (.ref (He.ga K bn)))) && baseB K (He.ga K bn)))))))))))
  | _, _ => false
def excB (P : Prog) (K : Fg) (c : Nat) (cd : ClsDef) : Bool := oexB K (ca P K c) && (xfB K (ca P K c) && ((cd.flds.all fun x => He.eqO (PySem.W.findIn K (.ref (ca P K c)) x) (some none)) && (He.eqO (PySem.W.findIn K (.ref (ca P K c)) "__init__") (some (some (.ref (He.ma K (ca P K c) "__init__")))) &&
  (decide (PySem.W.typeIn K (.ref (He.ma K (ca P K c) "__init__")) = some (.type "function")) && fdB K (He.ma K (ca P K c) "__init__") [] (initB K cd.flds (ca P K c))))))
theorem argsG_all {α : Type} {us : List α} {n : Nat} (h : us.length = n) : argsG n us [] = some us := by
  unfold argsG
  rw [if_pos ⟨by omega, by simp; omega⟩]
  simp
theorem excB_ok {P : Prog} {K : Fg} {c : Nat} {cd : ClsDef} {mg : Str → Option Value} (e : P.cls[c]? = some cd) (hmg : MgK K mg) (h : excB P K c cd = true) : ExF P K mg c := by
  obtain ⟨h1, h⟩ := He.ba h
  obtain ⟨h2, h⟩ := He.ba h
  obtain ⟨h3, h⟩ := He.ba h
  obtain ⟨h4, h⟩ := He.ba h
  obtain ⟨h5, h6⟩ := He.ba h
  have T := oexB_ok h1
  have no : ∀ x ∈ fnm P c, PySem.W.findIn K (.ref (ca P K c)) x = some none := fun x hx => by
    rw [fnm_of e] at hx
    exact He.eqO_ok (List.all_eq_true.mp h3 x hx)
  refine ⟨T, xfB_ok h2, no, ?_⟩
  obtain ⟨x, qual, params, body, scope, fd, F, t⟩ := fdB_ok h6
  have bd : ∀ ps : List Str, plainB params ps = true → ps.Nodup → ∀ (s : Shared) (us : List Value), K.In s.heap → us.length = ps.length → BindsTo s fd ⟨us, []⟩ (ps.zip us) := fun ps hp nd s us kx hl => by
    obtain ⟨its, r, b1, _⟩ := bind_all F (plainB_ok hp) nd (Nat.zero_le _)
    cases r
    exact b1 s us us kx (argsG_all hl)
  rw [fnm_of e]
  unfold initB at t
  split at t
  · rename_i fl bb bn p1 m p2 sn p3 z j p4 p5 p6 e1
    obtain ⟨t0, t⟩ := He.ba t
    obtain ⟨t1, t⟩ := He.ba t
    obtain ⟨t2, t⟩ := He.ba t
    obtain ⟨t3, t⟩ := He.ba t
    obtain ⟨t4, t⟩ := He.ba t
    obtain ⟨t5, t⟩ := He.ba t
    obtain ⟨t6, t⟩ := He.ba t
    obtain ⟨t7, t8⟩ := He.ba t
    have e0 : m = "__init__" := of_decide_eq_true t0
    subst e0
    refine ⟨_, fd, [sn], He.eqO_ok h4, of_decide_eq_true h5, by rw [e1]; rfl, bd [sn] t6 (scopeB_ok t5).nd, .inl ⟨e1, fun Pr w base => init0 F (scopeB_ok t5) (glB_ok t1) (hmg.yes _ _ (He.eqO_ok t7)) t2 t3 t4 (baseB_ok t8) T⟩⟩
  · rename_i fl bb f bn p1 m p2 sn p3 z j p4 p5 p6 sn' p7 fn p8 gn p9 p10 e1
    obtain ⟨t0, t⟩ := He.ba t
    obtain ⟨ta, t⟩ := He.ba t
    obtain ⟨tb, t⟩ := He.ba t
    obtain ⟨t1, t⟩ := He.ba t
    obtain ⟨t2, t⟩ := He.ba t
    obtain ⟨t3, t⟩ := He.ba t
    obtain ⟨t9, t⟩ := He.ba t
    obtain ⟨t4, t⟩ := He.ba t
    obtain ⟨t5, t⟩ := He.ba t
    obtain ⟨t6, t⟩ := He.ba t
    obtain ⟨t7, t8⟩ := He.ba t
    have e0 : m = "__init__" := of_decide_eq_true t0
    have ea : sn' = sn := of_decide_eq_true ta
    have eb : fn = f := of_decide_eq_true tb
    subst e0 ea eb
    have hno : PySem.W.findIn K (.ref (ca P K c)) fn = some none := no fn (by rw [fnm_of e, e1]; exact List.mem_cons_self)
    refine ⟨_, fd, [sn', gn], He.eqO_ok h4, of_decide_eq_true h5, by rw [e1]; rfl, bd [sn', gn] t6 (scopeB_ok t5).nd, .inr ⟨fn, e1, fun Pr w base => init1 F (scopeB_ok t5) (glB_ok t1) (hmg.yes _ _ (He.eqO_ok t7)) t2 t3 t9 t4 (baseB_ok t8) T hno⟩⟩
  · cases t
end MP
end
section
set_option  maxHeartbeats  4000000
/-! The whole test; the law's end. -/
namespace MP
open PySem PySem.Spec PyProof.Rows L2
def clsB (P : Prog) (K : Fg) (c : Nat) : Bool := match P.cls[c]? with
  | none => true
  | some cd => decide cd.flds.Nodup && (decide (cd.flds.length < 1000) && (if cd.here then He.eqO (PySem.W.nsIn K mainGlobals cd.name) (some (some (.ref (He.ga K cd.name)))) && (if cd.exc then (c == P.base && cd.flds.isEmpty) || excB P K c cd else ownB P K c cd) && (!cd.exc || cd.ops.isEmpty) else cd.ops.isEmpty))
def exmB (P : Prog) (K : Fg) (c c' : Nat) : Bool := !(isExc P c && isExc P c') || decide (PySem.W.exmOne K (.ref (ca P K c)) (.ref (ca P K c')) = some (catches P c c'))
def fnsB (P : Prog) (K : Fg) : Bool := P.fns.all fun o => (match o with
  | none => true
  | some d => fnB P K d)
def allB (P : Prog) (K : Fg) : Bool := fnsB P K && (((List.range P.cls.length).all fun c => clsB P K c) && ((bltNames.all fun x => He.eqO (PySem.W.nsIn K mainGlobals x) (some none)) && (List.range P.cls.length).all fun c => (List.range P.cls.length).all fun c' => exmB P K c c'))
theorem isExc_lt {P : Prog} {c : Nat} (h : isExc P c = true) : ∃ cd, P.cls[c]? = some cd ∧ cd.here = true ∧ cd.exc = true ∧ c < P.cls.length := by
  unfold isExc at h
  cases e : P.cls[c]? with
  | none => rw [e] at h; cases h
  | some d =>
    rw [e] at h
    obtain ⟨h1, h2⟩ := He.ba h
    exact ⟨d, rfl, h1, h2, (List.getElem?_eq_some_iff.mp e).1⟩
theorem allB_fn {P : Prog} {K : Fg} (h : allB P K = true) : ∀ f d, P.fn f = some d → fnB P K d = true := fun f d hf => by
  have h1 := (He.ba h).1
  unfold Prog.fn at hf
  cases e : P.fns[f]? with
  | none => rw [e] at hf; cases hf
  | some o =>
    rw [e] at hf
    have e1 : o = some d := hf
    subst e1
    exact List.all_eq_true.mp h1 (some d) (List.mem_of_getElem? e)
theorem allB_ok {P : Prog} {K : Fg} (h : allB P K = true) : Facts P K := by
  have hfn := allB_fn h
  obtain ⟨_, h⟩ := He.ba h
  obtain ⟨h2, h⟩ := He.ba h
  obtain ⟨h3, h4⟩ := He.ba h
  have cl : ∀ (c : Nat) (cd : ClsDef), P.cls[c]? = some cd → (decide cd.flds.Nodup && (decide (cd.flds.length < 1000) && (if cd.here then He.eqO (PySem.W.nsIn K mainGlobals cd.name) (some (some (.ref (He.ga K cd.name)))) && (if cd.exc then (c == P.base && cd.flds.isEmpty) || excB P K c cd else ownB P K c cd) && (!cd.exc || cd.ops.isEmpty) else cd.ops.isEmpty))) = true := fun c cd e => by
    have := List.all_eq_true.mp h2 c (List.mem_range.mpr (List.getElem?_eq_some_iff.mp e).1)
    unfold clsB at this
    rw [e] at this
    exact this
  have here : ∀ (c : Nat) (cd : ClsDef), P.cls[c]? = some cd → cd.here = true → PySem.W.nsIn K mainGlobals cd.name = some (some (.ref (He.ga K cd.name))) ∧ (if cd.exc then (c == P.base && cd.flds.isEmpty) || excB P K c cd else ownB P K c cd) = true ∧ (!cd.exc || cd.ops.isEmpty) = true := fun c cd e hh => by
    have q := (He.ba (He.ba (cl c cd e)).2).2
    rw [hh, if_pos rfl] at q
    obtain ⟨q1, q3⟩ := He.ba q
    obtain ⟨q1, q2⟩ := He.ba q1
    exact ⟨He.eqO_ok q1, q2, q3⟩
  have own : ∀ (c : Nat) (cd : ClsDef), P.cls[c]? = some cd → cd.here = true → cd.exc = false → ownB P K c cd = true := fun c cd e hh hx => by
    have q := (here c cd e hh).2.1
    rw [hx, if_neg Bool.false_ne_true] at q
    exact q
  have ofOp : ∀ c j f, P.op c j = some f → ∃ cd, P.cls[c]? = some cd ∧ cd.here = true ∧ cd.exc = false := fun c j f q => by
    unfold Prog.op at q
    cases e : P.cls[c]? with
    | none => rw [e] at q; cases q
    | some cd =>
      rw [e] at q
      have ne : cd.ops.isEmpty = false := by
        cases ho : cd.ops with
        | nil =>
          have q' : cd.ops.lookup j = some f := q
          rw [ho] at q'
          cases q'
        | cons _ _ => rfl
      cases hh : cd.here with
      | false =>
        have z := (He.ba (He.ba (cl c cd e)).2).2
        rw [hh, if_neg Bool.false_ne_true, ne] at z
        cases z
      | true =>
        have z := (here c cd e hh).2.2
        rw [ne, Bool.or_false] at z
        exact ⟨cd, rfl, hh, bn z⟩
  refine ⟨fun f d x hf ha => (fnB_ok (hfn f d hf)).2.2.1 x ha, fun f d x m hf ha hc => (fnB_ok (hfn f d hf)).2.2.2.1 x m ha hc, fun f d x m hf ha hc => (fnB_ok (hfn f d hf)).2.2.2.2 x m ha hc, fun c cd e hh => (here c cd e hh).1, fun c cd e hh hx => ?_, fun c => ?_, fun c => ?_, fun f d hf => (fnB_ok (hfn f d hf)).2.1, fun c j f q => ?_, fun c q => ?_, fun c mg hmg q hn => ?_, fun c c' q q' => ?_, fun x hx => He.eqO_ok (List.all_eq_true.mp h3 x hx)⟩
  · obtain ⟨k1, k⟩ := He.ba (own c cd e hh hx)
    obtain ⟨k2, k⟩ := He.ba k
    obtain ⟨k3, k⟩ := He.ba k
    obtain ⟨k4, k5⟩ := He.ba k
    refine ⟨(clsFB_ok k1).cl, fun x hx => He.eqO_ok (List.all_eq_true.mp k2 x hx), fun d hd => ?_⟩
    rw [hd] at k5
    obtain ⟨j1, k5⟩ := He.ba k5
    obtain ⟨j2, k5⟩ := He.ba k5
    obtain ⟨j3, j4⟩ := He.ba k5
    exact ⟨j1, He.eqO_ok j2, j3, j4⟩
  · unfold fnm
    cases e : P.cls[c]? with
    | none => exact List.nodup_nil
    | some cd => exact of_decide_eq_true (He.ba (cl c cd e)).1
  · unfold fnm
    cases e : P.cls[c]? with
    | none => show 0 < 1000; omega
    | some cd => exact of_decide_eq_true (He.ba (He.ba (cl c cd e)).2).1
  · obtain ⟨cd, e, hh, hx⟩ := ofOp c j f q
    obtain ⟨k1, k⟩ := He.ba (own c cd e hh hx)
    obtain ⟨k2, k⟩ := He.ba k
    exact opsB_ok e (clsFB_ok k1) (He.ba k).1
  · have q' := q
    unfold Prog.own at q'
    cases e : P.cls[c]? with
    | none => rw [e] at q'; cases q'
    | some cd =>
      rw [e] at q'
      obtain ⟨hh, hx⟩ := He.ba q'
      obtain ⟨k1, k⟩ := He.ba (own c cd e hh (bn hx))
      obtain ⟨k2, k⟩ := He.ba k
      obtain ⟨k3, k⟩ := He.ba k
      exact isFB_ok (clsFB_ok k1) (He.ba k).1
  · obtain ⟨cd, e, hh, hx, _⟩ := isExc_lt q
    have z := (here c cd e hh).2.1
    rw [hx, if_pos rfl] at z
    rcases Bool.or_eq_true_iff.mp z with z | z
    · obtain ⟨z1, z2⟩ := He.ba z
      rcases hn with hn | hn
      · exact absurd (eq_of_beq z1) hn
      · rw [fnm_of e, List.isEmpty_iff.mp z2] at hn
        exact absurd rfl hn
    · exact excB_ok e hmg z
  · obtain ⟨_, _, _, _, l1⟩ := isExc_lt q
    obtain ⟨_, _, _, _, l2⟩ := isExc_lt q'
    have z := List.all_eq_true.mp (List.all_eq_true.mp h4 c (List.mem_range.mpr l1)) c' (List.mem_range.mpr l2)
    unfold exmB at z
    rw [q, q'] at z
    exact of_decide_eq_true (by simpa using z)
/-! ### the Hook -/
def notLst (p : Addr × Obj) : Bool := match p.2.cls with
  | .type c => !decide (c = "list")
  | _ => true
def frM (n : Nat) (g : Addr → Option Obj) : Fg := (He.frG g (cStatics :: He.asD g n)).filter notLst
theorem mem_lookup {K : Fg} {a : Addr} {o : Obj} : K.lookup a = some o → (a, o) ∈ K := fun h => lookup_mem h
theorem frG_mem {g : Addr → Option Obj} {as : List Addr} {a : Addr} {o : Obj} (h : (a, o) ∈ He.frG g as) : g a = some o := by
  unfold He.frG at h
  obtain ⟨b, _, e⟩ := List.mem_filterMap.mp h
  cases q : g b with
  | none => rw [q] at e; cases e
  | some ob =>
    rw [q] at e
    cases e
    exact q
theorem frM_in {n : Nat} {h : Heap} : (frM n h.get?).In h := fun a o e => frG_mem (List.mem_filter.mp (mem_lookup e)).1
theorem frM_no {n : Nat} {g : Addr → Option Obj} {a : Addr} {o : Obj} (e : (frM n g).lookup a = some o) : notLst (a, o) = true := (List.mem_filter.mp (mem_lookup e)).2
def Says (P : Prog) (K : Fg) : Prop := allB P K = true ∧ ∀ a o, K.lookup a = some o → notLst (a, o) = true
def hookM (P : Prog) (n : Nat) : PySem.W.Hook where
  α := Bool
  obs := fun s => allB P (frM n s.heap.get?)
  val := fun _ => true
  says := fun _ h => ∃ K : Fg, K.In h ∧ Says P K
  of := fun _ _ e => ⟨_, frM_in, e, fun _ _ q => frM_no q⟩
  keeps := fun _ _ _ ⟨K, hK, c⟩ k => ⟨K, PySem.W.Frag.In.keeps hK k, c⟩
def obM (P : Prog) (n : Nat) (s : PySem.W.SharedT) : Bool := allB P (frM n (HandSHeadRun.getT s))
theorem obM_eq (P : Prog) (n : Nat) (s : PySem.W.SharedT) : obM P n s = (hookM P n).obs s.abs := by
  show allB P (frM n (HandSHeadRun.getT s)) = allB P (frM n s.abs.heap.get?)
  rw [show HandSHeadRun.getT s = s.abs.heap.get? from funext fun a => HandSHeadRun.getT_eq s a]
/-! ### the call -/
/-- the heap in which the script alone is tracked -/
def scrH (a : Addr) (ob : Obj) (xs : List V) : Hp := fun b => if b = a then some (.frz ob (.lst xs)) else none
theorem scrH_at {a : Addr} {ob : Obj} {xs : List V} : scrH a ob xs a = some (.frz ob (.lst xs)) := if_pos rfl
theorem scrH_ne {a b : Addr} {ob : Obj} {xs : List V} (h : b ≠ a) : scrH a ob xs b = none := if_neg h
theorem law_run {Pr : Program} {w : World} {K : Fg} {mg mb : Str → Option Value} {k : Nat} {fa a : Addr} {fd : FuncData} {x : Str} {sp : Sp} {s1 : Shared} {vs : List Value} {ns : List Int}
    (KX : K.In s1.heap) (hns : s1.heap.Ns mainGlobals mg) (hb : s1.heap.Ns builtinsNs mb) (hbb : ∀ x : Str, x ≠ "__name__" → mb x = bootBuiltins x) (hlim : s1.heap.NoLimit) (hg : s1.gens = #[])
    (ha : s1.heap.get? a = some { cls := .type "list", data := .seq vs.toArray }) (hi : IntsAre vs ns) (hl : ns.length ≤ sizeLine) (hKa : K.lookup a = none) (hr : Rm k callerA)
    (F : FnG Pr w K mg (hidT s1.heap (scrH a { cls := .type "list", data := .seq vs.toArray } (ns.map V.int))) (L2.CX Pr w) k fa fd [x] sp) (hbind : BindsTo s1 fd ⟨[.ref a], []⟩ [(x, .ref a)])
    (hsp : sp [.ref a] (scrH a { cls := .type "list", data := .seq vs.toArray } (ns.map V.int)) (fun v _ => v = .bl true) fun _ _ _ => False) :
    codeAny (model Pr w) callerA (.call (.ref fa) ⟨[.ref a], []⟩) (fun r s' => r = .ok (.ret (.bool true)) ∧ OldK s1.heap s'.heap ∧ s'.os = s1.os ∧ AllBare s'.gens) s1 := by
  have lenV := hi.length
  generalize hH : scrH a { cls := .type "list", data := .seq vs.toArray } (ns.map V.int) = H at hsp F
  have Ha : H a = some (.frz { cls := .type "list", data := .seq vs.toArray } (.lst (ns.map V.int))) := by rw [← hH]; exact scrH_at
  have Hn : ∀ b, b ≠ a → H b = none := fun b q => by rw [← hH]; exact scrH_ne q
  have hok : HOk Pr w H s1.heap := fun b u z => by
    by_cases q : b = a
    · subst q
      rw [Ha] at z
      cases z
      exact ⟨ha, by rw [List.length_map]; exact hl, vs, _, vals_ints hi, ha⟩
    · rw [Hn b q] at z
      cases z
  have keepB : ∀ {b : Addr} {o : Obj}, s1.heap.get? b = some o → b ≠ a → (hidT s1.heap H).get? b = some o := fun e q => hidT_get e (Hn _ q)
  have nsB : ∀ {b : Addr} {m : Str → Option Value}, s1.heap.Ns b m → (hidT s1.heap H).Ns b m := fun {b m} ⟨o, es, ep, e, d, r⟩ => ⟨o, es, ep, keepB e (fun q => by
    subst q
    rw [ha] at e
    cases e
    cases d), d, r⟩
  have KB : K.In (hidT s1.heap H) := fun b o e => keepB (KX b o e) (fun q => by rw [q, hKa] at e; cases e)
  obtain ⟨mc, n1, n2⟩ := hlim
  have e0 : Env0 Pr w K mg (hidT s1.heap H) callerA [] s1 H := ⟨rfl, ⟨KB, nsB hns, ⟨mb, nsB hb, hbb⟩, mc, nsB n1, n2⟩, fun b o e => of_hidT e, Nat.le_of_eq (hidT_size _ _), trivial, (fun b q => nomatch q), hok, .of_eq hg⟩
  refine codeAny_mono (F.run callerA [] s1 H ⟨[.ref a], []⟩ [.ref a] [.ref a] _ _ hr e0 hbind (.cons rfl .nil) hsp) fun res s' h => ?_
  cases res with
  | error e =>
    obtain ⟨_, _, _, _, _, _, _, _, _, _, _, _, z⟩ := h
    exact z.elim
  | ok fl =>
    cases fl with
    | next => exact h.elim
    | brk => exact h.elim
    | cont => exact h.elim
    | ret u =>
      obtain ⟨v, H', os, bare, un, hok', rv, q⟩ := h
      have q' : v = .bl true := q
      subst q'
      obtain rfl : u = Value.bool true := rv
      refine ⟨rfl, OldK.of_keep fun b o e => ?_, os, bare⟩
      by_cases hba : b = a
      · subst hba
        have z2 := un.frzs b _ _ Ha
        rw [ha] at e
        cases e
        exact (hok' b _ z2).1
      · exact un.keep b o e (Hn b hba) (fun z => nomatch z) (fun z => nomatch z)
/-- a law, by the evaluator -/
theorem walk_mp {l : PySem.W.OpenLaw} {P : Prog} {n hn fuel lf : Nat} {q : Program} {loose : List Str} {XP : (Str → Option Value) → Heap → Prop} {d : DefRec} {dl : FnDef} {x : Str}
    (hm : l.most = some n) (hn2 : n ≤ 1000) (hdf : d.params.defaults = []) (hr : Room (lev fuel) callerA) (hx : P.wx none = P) (hl : P.fn lf = some dl) (hat : dl.at_ = (d.name, none)) (hps : dl.ps = [x])
    (hrun : ∀ ns : List Int, ns.length ≤ n → ∃ m, runF P fuel lf false [.c 0] [.scr (ns.map D.int)] = .ok (.v (.bl true)) m) :
    PySem.W.WalkO q loose XP (hookM P hn).says l.row.toRowW d [] (fun f vs => PySem.call f vs) := by
  refine Att.attach_call hm hdf fun w s0 s1 mg mb fa o pm cd doc a vs ns G Y ho hd hcd hmg hobj hints hlen hg => ?_
  obtain ⟨K, KX, hall, hno⟩ := Y
  have F0 := allB_ok hall
  have hA : ∀ f d, P.fn f = some d → FnAt P K d := fun f d hf => (fnB_ok (allB_fn hall f d hf)).1
  have hmgk : MgK K mg := ⟨fun y v e => PySem.W.mg_of KX G.T.g e, fun y e => PySem.W.mg_none_of KX G.T.g e⟩
  have hKa : K.lookup a = none := by
    cases e : K.lookup a with
    | none => rfl
    | some ob =>
      have e2 := KX a ob e
      rw [hobj] at e2
      cases e2
      have := hno a _ e
      cases this
  have hfa : fa = fA K dl.at_ := by
    have e1 := hmgk.yes _ _ (F0.fn lf dl d.name hl hat).1
    rw [hmg] at e1
    cases e1
    rfl
  subst hfa
  let ob : Obj := { cls := .type "list", data := .seq vs.toArray }
  obtain ⟨fd, dvs, its, FG, r, _, b1, _⟩ := (fns_ok (Pr := l.prog) (w := w) (base := hidT s1.heap (scrH a ob (ns.map V.int))) hx hA F0 hmgk fuel).ok lf dl false hl
  rw [hps] at FG b1
  refine law_run (x := x) KX G.T.g G.T.b G.T.builtins G.T.nolimit hg hobj hints (by rw [sizeLine_eq]; omega) hKa ⟨hr, rfl⟩ FG ?_ ?_
  · refine b1 s1 [.ref a] [.ref a] KX ?_
    unfold argsG
    rw [if_pos ⟨by simp, by simp⟩]
    simp
  · obtain ⟨m, hrn⟩ := hrun ns hlen
    let w0 : Wd := ⟨fun _ => False, [[a]], P.xi, fun _ => False, fun b => b = a⟩
    have dl : ∀ l : List Int, DatL P K w0.fro (scrH a ob (ns.map V.int)) (l.map D.int) (l.map V.int) := by
      intro l
      induction l with
      | nil => exact DatL.nil
      | cons i l ih => exact DatL.cons (Dat.int_iff (w := w0).mpr rfl) ih
    have M0 : MRel P K w0 (scrH a ob (ns.map V.int)) [.scr (ns.map D.int)] := by
      have one : ∀ (i : Nat) (c : C) (as : List Addr), ([C.scr (ns.map D.int)] : M)[i]? = some c → ([[a]] : List (List Addr))[i]? = some as → c = .scr (ns.map D.int) ∧ as = [a] := by
        intro i c as e1 e2
        cases i with
        | zero => cases e1; cases e2; exact ⟨rfl, rfl⟩
        | succ i => cases e1
      refine ⟨rfl, fun i c as e1 e2 => ?_, by simp [w0], (fun b _ z => z), (fun b z => z.elim), (fun b z => z.elim), fun b z => ⟨fun y => y, ?_⟩, fun i c as e1 e2 hlk b hb => ?_, fun i c as e1 e2 hlk b hb => ?_, rfl⟩
      · obtain ⟨rfl, rfl⟩ := one i c as e1 e2
        exact ⟨a, ns.map V.int, rfl, .inr ⟨ob, scrH_at⟩, dl ns⟩
      · have z' : b = a := z
        rw [z', scrH_at]
        exact fun y => nomatch y
      · obtain ⟨rfl, rfl⟩ := one i c as e1 e2
        cases hlk
      · obtain ⟨rfl, rfl⟩ := one i c as e1 e2
        exact List.mem_singleton.mp hb
    refine ⟨w0, [.c 0], [.scr (ns.map D.int)], M0, WsRel.cons ⟨[a], rfl, fun b e => by cases e; rfl⟩ WsRel.nil, rfl, ?_⟩
    rw [hrn]
    exact fun b w' H' _ _ z => WRel.bl z
end MP
end
section
set_option  maxHeartbeats  4000000
/-! The evaluator, clause by clause. -/
namespace MP
open PySem (Str)
@[simp] theorem z1 (H : Hd) : ∀ i ρ m, evE H (.var i) ρ m = (R.opt (getV ρ i) m) := fun _ _ _ => Eq.trans rfl rfl
@[simp] theorem z2 (H : Hd) : ∀ i z1 m, evE H (.int i) z1 m = (.ok (.v (.int i)) m) := fun _ _ _ => Eq.trans rfl rfl
@[simp] theorem z3 (H : Hd) : ∀ x z1 m, evE H (.str x) z1 m = (.ok (.v (.str x)) m) := fun _ _ _ => Eq.trans rfl rfl
@[simp] theorem z4 (H : Hd) : ∀ b z1 m, evE H (.bl b) z1 m = (.ok (.v (.bl b)) m) := fun _ _ _ => Eq.trans rfl rfl
@[simp] theorem z5 (H : Hd) : ∀ z1 m, evE H .non z1 m = (.ok (.v .non) m) := fun _ _ => Eq.trans rfl rfl
@[simp] theorem z6 (H : Hd) : ∀ z1 d z2 m, evE H (.glob z1 d) z2 m = (.ok (.v d) m) := fun _ _ _ _ => Eq.trans rfl rfl
@[simp] theorem z7 (H : Hd) : ∀ op a b ρ m, evE H (.bin op a b) ρ m = ((evE H a ρ m).bnd fun x m1 => (evE H b ρ m1).bnd fun y m2 => binW H op x y m2) := fun _ _ _ _ _ => Eq.trans rfl rfl
@[simp] theorem z8 (H : Hd) : ∀ a ρ m, evE H (.neg a) ρ m = ((evE H a ρ m).bnd (negW H)) := fun _ _ _ => Eq.trans rfl rfl
@[simp] theorem z9 (H : Hd) : ∀ a ρ m, evE H (.not a) ρ m = (notW (evE H a ρ m)) := fun _ _ _ => Eq.trans rfl rfl
@[simp] theorem z10 (H : Hd) : ∀ op a b ρ m, evE H (.cmp op a b) ρ m = ((evE H a ρ m).bnd fun x m1 => (evE H b ρ m1).bnd fun y m2 => cmpW H op x y m2) := fun _ _ _ _ _ => Eq.trans rfl rfl
@[simp] theorem z11 (H : Hd) : ∀ op op' a b c ρ m, evE H (.cmp2 op op' a b c) ρ m = ((evE H a ρ m).bnd fun x m1 => (evE H b ρ m1).bnd fun y m2 => (cmpW H op x y m2).bnd fun z m3 => (asB z m3).bnd fun k m3 => if k then (evE H c ρ m3).bnd fun t m4 => cmpW H op' y t m4 else .ok (.v (.bl false)) m3) := fun _ _ _ _ _ _ _ => Eq.trans rfl rfl
@[simp] theorem z12 (H : Hd) : ∀ a ρ m, evE H (.isN a) ρ m = ((evE H a ρ m).bnd (isNW true)) := fun _ _ _ => Eq.trans rfl rfl
@[simp] theorem z13 (H : Hd) : ∀ a ρ m, evE H (.notN a) ρ m = ((evE H a ρ m).bnd (isNW false)) := fun _ _ _ => Eq.trans rfl rfl
@[simp] theorem z14 (H : Hd) : ∀ a b ρ m, evE H (.and a b) ρ m = ((evE H a ρ m).bnd fun x m1 => (asB x m1).bnd fun k m1 => if k then evE H b ρ m1 else .ok (.v (.bl false)) m1) := fun _ _ _ _ => Eq.trans rfl rfl
@[simp] theorem z15 (H : Hd) : ∀ a b ρ m, evE H (.or a b) ρ m = ((evE H a ρ m).bnd fun x m1 => (asB x m1).bnd fun k m1 => if k then .ok (.v (.bl true)) m1 else evE H b ρ m1) := fun _ _ _ _ => Eq.trans rfl rfl
@[simp] theorem z16 (H : Hd) : ∀ c a b ρ m, evE H (.ite c a b) ρ m = ((evE H c ρ m).bnd fun x m1 => (asB x m1).bnd fun k m1 => if k then evE H a ρ m1 else evE H b ρ m1) := fun _ _ _ _ _ => Eq.trans rfl rfl
@[simp] theorem z17 (H : Hd) : ∀ l ρ m, evE H (.tup l) ρ m = ((evEs H l ρ m).bnd fun ws m1 => match fzs H.P m1 ws with
    | some (ds, m2) => .ok (.v (.tup ds)) m2
    | none => .bad) := fun _ _ _ => Eq.trans rfl rfl
@[simp] theorem z18 (H : Hd) : ∀ f fr l ρ m, evE H (.call f fr l) ρ m = ((evEs H l ρ m).bnd fun ws m1 => match fnArgs H.P f ws with
    | some as => H.call f fr as m1
    | none => .bad) := fun _ _ _ _ _ => Eq.trans rfl rfl
@[simp] theorem z19 (H : Hd) : ∀ f l ks lk ρ m, evE H (.callk f l ks lk) ρ m = ((evEs H l ρ m).bnd fun ws m1 => (evEs H lk ρ m1).bnd fun us m2 => match fnArgsK H.P f ws ks us with
    | some as => H.call f false as m2
    | none => .bad) := fun _ _ _ _ _ _ => Eq.trans rfl rfl
@[simp] theorem z20 (H : Hd) : ∀ c o f fr l ρ m, evE H (.meth c o f fr l) ρ m = ((evE H o ρ m).bnd fun x m1 => if isObj c m1 x then (evEs H l ρ m1).bnd fun ws m2 => match fnArgs H.P f (x :: ws) with
    | some as => H.call f fr as m2
    | none => .bad else .bad) := fun _ _ _ _ _ _ _ => Eq.trans rfl rfl
@[simp] theorem z21 (H : Hd) : ∀ c o f l ks lk ρ m, evE H (.methk c o f l ks lk) ρ m = ((evE H o ρ m).bnd fun x m1 => if isObj c m1 x then (evEs H l ρ m1).bnd fun ws m2 => (evEs H lk ρ m2).bnd fun us m3 => match fnArgsK H.P f (x :: ws) ks us with
    | some as => H.call f false as m3
    | none => .bad else .bad) := fun _ _ _ _ _ _ _ _ => Eq.trans rfl rfl
@[simp] theorem z22 (H : Hd) : ∀ c fr l ρ m, evE H (.make c fr l) ρ m = ((evEs H l ρ m).bnd fun ws m1 => mkObj H c fr ws m1) := fun _ _ _ _ _ => Eq.trans rfl rfl
@[simp] theorem z23 (H : Hd) : ∀ c l ks lk ρ m, evE H (.makek c l ks lk) ρ m = ((evEs H l ρ m).bnd fun ws m1 => (evEs H lk ρ m1).bnd fun us m2 => mkObjK H c ws ks us m2) := fun _ _ _ _ _ _ => Eq.trans rfl rfl
@[simp] theorem z24 (H : Hd) : ∀ c f l ρ m, evE H (.cmeth c f l) ρ m = ((evEs H l ρ m).bnd fun ws m1 => match fnArgs H.P f (.v (.cls c) :: ws) with
    | some as => H.call f false as m1
    | none => .bad) := fun _ _ _ _ _ => Eq.trans rfl rfl
@[simp] theorem z25 (H : Hd) : ∀ c f l ks lk ρ m, evE H (.cmethk c f l ks lk) ρ m = ((evEs H l ρ m).bnd fun ws m1 => (evEs H lk ρ m1).bnd fun us m2 => match fnArgsK H.P f (.v (.cls c) :: ws) ks us with
    | some as => H.call f false as m2
    | none => .bad) := fun _ _ _ _ _ _ _ => Eq.trans rfl rfl
@[simp] theorem z26 (H : Hd) : ∀ i c l ρ m, evE H (.makev i c l) ρ m = ((R.opt (getV ρ i) m).bnd fun x m => match x with
    | .v (.cls c') => if c = c' then (evEs H l ρ m).bnd fun ws m1 => mkObj H c false ws m1 else .bad
    | _ => .bad) := fun _ _ _ _ _ => Eq.trans rfl rfl
@[simp] theorem z27 (H : Hd) : ∀ c o k ρ m, evE H (.fld c o k) ρ m = ((evE H o ρ m).bnd (fldW c k)) := fun _ _ _ _ _ => Eq.trans rfl rfl
@[simp] theorem z28 (H : Hd) : ∀ i k x ρ m, evE H (.efld i k x) ρ m = (efldR H.P i k x ρ m) := fun _ _ _ _ _ => Eq.trans rfl rfl
@[simp] theorem z29 (H : Hd) : ∀ c o k i ρ m, evE H (.fldi c o k i) ρ m = ((evE H o ρ m).bnd fun x m1 => (evE H i ρ m1).bnd fun y m2 => match x with
    | .v (.obj c' fs) => if c = c' then (match fs[k]?, vw m2 y with
      | some d, some q => R.opt ((idxD d q).map W.v) m2
      | _, _ => .bad) else .bad
    | .c n => match m2[n]? with
      | some (.obj c' fs) => if c = c' then (match fs[k]?, vw m2 y with
        | some f, some q => R.opt ((idxD f.fz q).map W.v) m2
        | _, _ => .bad) else .bad
      | _ => .bad
    | _ => .bad) := fun _ _ _ _ _ _ => Eq.trans rfl rfl
@[simp] theorem z30 (H : Hd) : ∀ a ts ρ m, evE H (.isi a ts) ρ m = ((evE H a ρ m).bnd (isiW H.P ts)) := fun _ _ _ _ => Eq.trans rfl rfl
@[simp] theorem z31 (H : Hd) : ∀ f l ρ m, evE H (.bf f l) ρ m = ((evEs H l ρ m).bnd fun ws m1 => bfW H f ws m1) := fun _ _ _ _ => Eq.trans rfl rfl
@[simp] theorem z32 (H : Hd) : ∀ a i ρ m, evE H (.idx a i) ρ m = ((evE H a ρ m).bnd fun x m1 => (evE H i ρ m1).bnd fun y m2 => idxW x y m2) := fun _ _ _ _ => Eq.trans rfl rfl
@[simp] theorem z33 (H : Hd) : ∀ a lo hi hlo hhi ρ m, evE H (.slice a lo hi hlo hhi) ρ m = ((evE H a ρ m).bnd fun x m1 => (if hlo then (evE H lo ρ m1).bnd asI else .ok none m1).bnd fun y m2 => (if hhi then (evE H hi ρ m2).bnd asI else .ok none m2).bnd fun z m3 => sliceW x y z m3) := fun _ _ _ _ _ _ _ => Eq.trans rfl rfl
@[simp] theorem z34 (H : Hd) : ∀ a ρ m, evE H (.rev a) ρ m = ((evE H a ρ m).bnd fun x m1 => match vw m1 x with
    | some (.lst xs) => .ok (.v (.lst xs.reverse)) m1
    | _ => .bad) := fun _ _ _ => Eq.trans rfl rfl
@[simp] theorem z35 (H : Hd) : ∀ a b ρ m, evE H (.split a b) ρ m = ((evE H a ρ m).bnd fun x m1 => strW x fun s => (evE H b ρ m1).bnd fun y m2 => splitW s y m2) := fun _ _ _ _ => Eq.trans rfl rfl
@[simp] theorem z36 (H : Hd) : ∀ a b ρ m, evE H (.join a b) ρ m = ((evE H a ρ m).bnd fun x m1 => strW x fun s => (evE H b ρ m1).bnd fun y m2 => joinW s y m2) := fun _ _ _ _ => Eq.trans rfl rfl
@[simp] theorem z37 (H : Hd) : ∀ a b ρ m, evE H (.get a b) ρ m = ((evE H a ρ m).bnd fun x m1 => dctW x m1 fun kvs => (evE H b ρ m1).bnd fun y m2 => getW kvs y m2) := fun _ _ _ _ => Eq.trans rfl rfl
@[simp] theorem z38 (H : Hd) : ∀ a ρ m, evE H (.pop a) ρ m = ((evE H a ρ m).bnd fun x m1 => match x with
    | .c n => match m1[n]? with
      | some (.lst false xs) => match xs.getLast? with
        | some d => .ok (.v d) (m1.set n (.lst false xs.dropLast))
        | none => .bad
      | _ => .bad
    | _ => .bad) := fun _ _ _ => Eq.trans rfl rfl
@[simp] theorem z39 (H : Hd) : ∀ l ρ m, evE H (.fstr l) ρ m = ((evFs H l [] ρ m).bnd fun x m1 => .ok (.v (.str x)) m1) := fun _ _ _ => Eq.trans rfl rfl
@[simp] theorem z40 (H : Hd) : ∀ fr x ρ m, evE H (.nw fr x) ρ m = ((evN H x ρ m).bnd fun c m1 => if fr then .ok (.c m1.length) (m1 ++ [c]) else R.opt ((C.d c).map W.v) m1) := fun _ _ _ _ => Eq.trans rfl rfl
@[simp] theorem zf1 (H : Hd) : ∀ acc z1 m, evFs H .nil acc z1 m = (.ok acc m) := fun _ _ _ => Eq.trans rfl rfl
@[simp] theorem zf2 (H : Hd) : ∀ e l acc ρ m, evFs H (.cons e l) acc ρ m = ((evE H e ρ m).bnd fun w m1 => fmtW w acc fun acc => evFs H l acc ρ m1) := fun _ _ _ _ _ => Eq.trans rfl rfl
@[simp] theorem zf3 (H : Hd) : ∀ z1 z2 z3 z4 z5, evFs H (.star z1 z2) z3 z4 z5 = (.bad) := fun _ _ _ _ _ => Eq.trans rfl rfl
@[simp] theorem z41 (H : Hd) : ∀ l ρ m, evN H (.lst l) ρ m = ((evEs H l ρ m).bnd fun ws m1 => match fzs H.P m1 ws with
    | some (ds, m2) => if sizeOk ds.length then .ok (.lst false ds) m2 else .bad
    | none => .bad) := fun _ _ _ => Eq.trans rfl rfl
@[simp] theorem z42 (H : Hd) : ∀ t l ρ m, evN H (.dict t l) ρ m = ((evDs H l ρ m []).bnd fun kvs m1 => if sizeOk kvs.length then .ok (.dct false t kvs) m1 else .bad) := fun _ _ _ _ => Eq.trans rfl rfl
theorem z_comp (H : Hd) : ∀ g it hc cond elt ρ m, evN H (.comp g it hc cond elt) ρ m = ((evIt H it ρ m).bnd fun q m1 => (lockR q.2 m1 (compGo g (wipeW ρ g.vars) (fun ρ m => if hc then (evE H cond ρ m).bnd asB else .ok true m)
      (fun ρ m => (evE H elt ρ m).bnd (fzR H.P)) q.1)).bnd fun xs m2 => if sizeOk xs.length then .ok (.lst false xs) m2 else .bad) := fun _ _ _ _ _ _ _ => Eq.trans rfl rfl
theorem z_comp2 (H : Hd) : ∀ g it g' it' hc cond elt ρ m, evN H (.comp2 g it g' it' hc cond elt) ρ m = ((evIt H it ρ m).bnd fun q m1 => (lockR q.2 m1 (comp2Go g (wipeW ρ (g.vars ++ g'.vars)) (fun ρ m => (evIt H it' ρ m).bnd fun q' m' => lockR q'.2 m' (compGo g' (wipeW ρ g'.vars) (fun ρ m => if hc then (evE H cond ρ m).bnd asB else .ok true m)
      (fun ρ m => (evE H elt ρ m).bnd (fzR H.P)) q'.1)) q.1)).bnd fun xs m2 => if sizeOk xs.length then .ok (.lst false xs) m2 else .bad) := fun _ _ _ _ _ _ _ _ _ => Eq.trans rfl rfl
theorem z_dcomp (H : Hd) : ∀ g it hc cond k v ρ m, evN H (.dcomp g it hc cond k v) ρ m = ((evIt H it ρ m).bnd fun q m1 => (lockR q.2 m1 fun m1 => dcompGo g (wipeW ρ g.vars) (fun ρ m => if hc then (evE H cond ρ m).bnd asB else .ok true m)
      (fun ρ m => (evE H k ρ m).bnd fun kw m => (evE H v ρ m).bnd fun w m => match vw m kw, fz H.P m w with
        | some kd, some (d, m) => (match keyOf kd with
          | some (.k a) => .ok (DKey.k a, d) m
          | _ => .bad)
        | _, _ => .bad) q.1 m1 []).bnd fun kvs m2 => if sizeOk kvs.length then .ok (.dct false false kvs) m2 else .bad) := fun _ _ _ _ _ _ _ _ => Eq.trans rfl rfl
@[simp] theorem z46 (H : Hd) : ∀ e ρ m, evN H (.list e) ρ m = ((evE H e ρ m).bnd fun x m1 => match vw m1 x with
    | some (.lst xs) => .ok (.lst false xs) m1
    | some (.tup xs) => .ok (.lst false xs) m1
    | some (.dct kvs) => .ok (.lst false (kvs.map fun p => p.1.d)) m1
    | _ => .bad) := fun _ _ _ => Eq.trans rfl rfl
@[simp] theorem z47 (H : Hd) : ∀ e ρ m, evN H (.dictc e) ρ m = ((evE H e ρ m).bnd fun x m1 => match vw m1 x with
    | some (.dct kvs) => .ok (.dct false false kvs) m1
    | _ => .bad) := fun _ _ _ => Eq.trans rfl rfl
@[simp] theorem z48 (H : Hd) : ∀ e ρ m, evN H (.sorted e) ρ m = ((evE H e ρ m).bnd fun x m1 => match vw m1 x with
    | some d => R.opt ((sortedD d).map fun xs => C.lst false xs) m1
    | none => .bad) := fun _ _ _ => Eq.trans rfl rfl
@[simp] theorem z49 (H : Hd) : ∀ e ρ m, evN H (.values e) ρ m = ((evE H e ρ m).bnd fun x m1 => match vw m1 x with
    | some (.dct kvs) => .ok (.lst false (kvs.map (·.2))) m1
    | _ => .bad) := fun _ _ _ => Eq.trans rfl rfl
@[simp] theorem z50 (H : Hd) : ∀ z1 m, evEs H .nil z1 m = (.ok [] m) := fun _ _ => Eq.trans rfl rfl
@[simp] theorem z51 (H : Hd) : ∀ e l ρ m, evEs H (.cons e l) ρ m = ((evE H e ρ m).bnd fun w m1 => (evEs H l ρ m1).bnd fun ws m2 => .ok (w :: ws) m2) := fun _ _ _ _ => Eq.trans rfl rfl
@[simp] theorem z52 (H : Hd) : ∀ i l ρ m, evEs H (.star i l) ρ m = ((evIt H i ρ m).bnd fun q m1 => (evEs H l ρ m1).bnd fun ws m2 => .ok (q.1.map W.v ++ ws) m2) := fun _ _ _ _ => Eq.trans rfl rfl
@[simp] theorem z53 (H : Hd) : ∀ z1 m acc, evDs H .nil z1 m acc = (.ok acc m) := fun _ _ _ => Eq.trans rfl rfl
@[simp] theorem z54 (H : Hd) : ∀ k v l ρ m acc, evDs H (.cons k v l) ρ m acc = ((evE H k ρ m).bnd fun kw m1 => (evE H v ρ m1).bnd fun w m2 => match vw m2 kw, fz H.P m2 w with
    | some kd, some (d, m3) => (match keyOf kd with
      | some q => evDs H l ρ m3 (putD acc q d)
      | none => .bad)
    | _, _ => .bad) := fun _ _ _ _ _ _ => Eq.trans rfl rfl
@[simp] theorem z55 (H : Hd) : ∀ e l ρ m acc, evDs H (.star e l) ρ m acc = ((evE H e ρ m).bnd fun x m1 => match vw m1 x with
    | some (.dct kvs) => evDs H l ρ m1 (putAll acc kvs)
    | _ => .bad) := fun _ _ _ _ _ => Eq.trans rfl rfl
@[simp] theorem z56 (H : Hd) : ∀ x ρ m, evIt H (.e x) ρ m = ((evE H x ρ m).bnd fun w m1 => match (vw m1 w).bind itemsD with
    | some ds => if canIt m1 w then .ok (ds, [w]) m1 else .bad
    | none => .bad) := fun _ _ _ => Eq.trans rfl rfl
@[simp] theorem z57 (H : Hd) : ∀ a ρ m, evIt H (.range1 a) ρ m = ((evE H a ρ m).bnd fun w m1 => match w with
    | .v (.int j) => if small j then .ok (rangeD 0 j, []) m1 else .bad
    | _ => .bad) := fun _ _ _ => Eq.trans rfl rfl
@[simp] theorem z58 (H : Hd) : ∀ a b ρ m, evIt H (.range2 a b) ρ m = ((evE H a ρ m).bnd fun w m1 => (evE H b ρ m1).bnd fun w' m2 => match w, w' with
    | .v (.int i), .v (.int j) => if small i && small j then .ok (rangeD i j, []) m2 else .bad
    | _, _ => .bad) := fun _ _ _ _ => Eq.trans rfl rfl
@[simp] theorem z59 (H : Hd) : ∀ a ρ m, evIt H (.enum a) ρ m = ((evE H a ρ m).bnd fun w m1 => match vw m1 w with
    | some (.lst xs) => .ok (enumD 0 xs, [w]) m1
    | _ => .bad) := fun _ _ _ => Eq.trans rfl rfl
@[simp] theorem z60 (H : Hd) : ∀ a b ρ m, evIt H (.zip a b) ρ m = ((evE H a ρ m).bnd fun w m1 => (evE H b ρ m1).bnd fun w' m2 => match vw m2 w, vw m2 w' with
    | some (.lst xs), some (.lst ys) => .ok (zipD xs ys, [w, w']) m2
    | _, _ => .bad) := fun _ _ _ _ => Eq.trans rfl rfl
@[simp] theorem z61 (H : Hd) : ∀ z1 x ρ m, evF H (.nw z1 x) ρ m = (evE H (.nw true x) ρ m) := fun _ _ _ _ => Eq.trans rfl rfl
@[simp] theorem z62 (H : Hd) : ∀ i ρ m, evF H (.var i) ρ m = (match getV ρ i with
    | some (.c n) => .ok (.c n) m
    | _ => .bad) := fun _ _ _ => Eq.trans rfl rfl
@[simp] theorem z63 (H : Hd) : ∀ f z1 l ρ m, evF H (.call f z1 l) ρ m = (evE H (.call f true l) ρ m) := fun _ _ _ _ _ => Eq.trans rfl rfl
@[simp] theorem z64 (H : Hd) : ∀ c o f z1 l ρ m, evF H (.meth c o f z1 l) ρ m = (evE H (.meth c o f true l) ρ m) := fun _ _ _ _ _ _ _ => Eq.trans rfl rfl
@[simp] theorem z65 (H : Hd) : ∀ c a b ρ m, evF H (.ite c a b) ρ m = ((evE H c ρ m).bnd fun x m1 => (asB x m1).bnd fun k m1 => if k then evF H a ρ m1 else evF H b ρ m1) := fun _ _ _ _ _ => Eq.trans rfl rfl
@[simp] theorem z66 (H : Hd) (fr : Bool) : ∀ g e ρ m, evS H fr (.asg g e) ρ m = ((evE H e ρ m).thn ρ fun w m1 => match g with
    | .n i => .nx (ρ.set i w) m1
    | .t l => match vw m1 w with
      | some d => (match setTg (.t l) d ρ with
        | some ρ1 => .nx ρ1 m1
        | none => .bad)
      | none => .bad) := fun _ _ _ _ => Eq.trans rfl rfl
@[simp] theorem z67 (H : Hd) (fr : Bool) : ∀ is l ρ m, evS H fr (.par is l) ρ m = ((evEs H l ρ m).thn ρ fun ws m1 => if ws.length = is.length then .nx (setAll is ws ρ) m1 else .bad) := fun _ _ _ _ => Eq.trans rfl rfl
@[simp] theorem z68 (H : Hd) (fr : Bool) : ∀ c o k e ρ m, evS H fr (.setf c o k e) ρ m = ((evE H e ρ m).thn ρ fun w m1 => (evE H o ρ m1).thn ρ fun x m2 => match x, fz H.P m2 w with
    | .c n, some (d, m3) => (match m3[n]? with
      | some (.obj c' fs) => if c = c' ∧ k < H.P.nf c then (match setFd fs k (.v d) with
        | some fs' => .nx ρ (m3.set n (.obj c fs'))
        | none => .bad) else .bad
      | _ => .bad)
    | _, _ => .bad) := fun _ _ _ _ _ _ => Eq.trans rfl rfl
@[simp] theorem z69 (H : Hd) (fr : Bool) : ∀ c o k t ρ m, evS H fr (.setfd c o k t) ρ m = ((evE H o ρ m).thn ρ fun x m2 => match x with
    | .c n => (match m2[n]? with
      | some (.obj c' fs) => if c = c' ∧ k = fs.length ∧ k < H.P.nf c then .nx ρ (m2.set n (.obj c (fs ++ [.d t []]))) else .bad
      | _ => .bad)
    | _ => .bad) := fun _ _ _ _ _ _ => Eq.trans rfl rfl
@[simp] theorem z70 (H : Hd) (fr : Bool) : ∀ o i e ρ m, evS H fr (.seti o i e) ρ m = ((evE H e ρ m).thn ρ fun w m1 => (evE H o ρ m1).thn ρ fun x m2 => (evE H i ρ m2).thn ρ fun y m3 => match x, vw m3 y, fz H.P m3 w with
    | .c n, some q, some (d, m4) => (match m4[n]? with
      | some c => (match setIdx c q d with
        | some c' => .nx ρ (m4.set n c')
        | none => .bad)
      | none => .bad)
    | _, _, _ => .bad) := fun _ _ _ _ _ => Eq.trans rfl rfl
@[simp] theorem z71 (H : Hd) (fr : Bool) : ∀ c o k i e ρ m, evS H fr (.setfi c o k i e) ρ m = ((evE H e ρ m).thn ρ fun w m1 => (evE H o ρ m1).thn ρ fun x m2 => (evE H i ρ m2).thn ρ fun y m3 => match x, vw m3 y, fz H.P m3 w with
    | .c n, some q, some (d, m4) => (match m4[n]? with
      | some (.obj c' fs) => if c = c' then (match fs[k]?, keyOf q with
        | some (.d false kvs), some (.k a) => .nx ρ (m4.set n (.obj c (fs.set k (.d false (putD kvs (.k a) d)))))
        | some (.d true kvs), some (.t l) => .nx ρ (m4.set n (.obj c (fs.set k (.d true (putD kvs (.t l) d)))))
        | _, _ => .bad) else .bad
      | _ => .bad)
    | _, _, _ => .bad) := fun _ _ _ _ _ _ _ => Eq.trans rfl rfl
@[simp] theorem z72 (H : Hd) (fr : Bool) : ∀ o e ρ m, evS H fr (.app o e) ρ m = ((evE H o ρ m).thn ρ fun x m1 => if isLst m1 x then (evE H e ρ m1).thn ρ fun w m2 => appO H.P ρ x w m2 else .bad) := fun _ _ _ _ => Eq.trans rfl rfl
@[simp] theorem z73 (H : Hd) (fr : Bool) : ∀ o ρ m, evS H fr (.clear o) ρ m = ((evE H o ρ m).thn ρ fun x m1 => match x with
    | .c n => (match m1[n]? with
      | some (.lst false _) => .nx ρ (m1.set n (.lst false []))
      | some (.dct false t _) => .nx ρ (m1.set n (.dct false t []))
      | _ => .bad)
    | _ => .bad) := fun _ _ _ => Eq.trans rfl rfl
@[simp] theorem z74 (H : Hd) (fr : Bool) : ∀ z1 z2 z3 z4, evS H fr (.remove z1 z2) z3 z4 = (.bad) := fun _ _ _ _ => Eq.trans rfl rfl
@[simp] theorem z75 (H : Hd) (fr : Bool) : ∀ e ρ m, evS H fr (.expr e) ρ m = ((evE H e ρ m).thn ρ fun _ m1 => .nx ρ m1) := fun _ _ _ => Eq.trans rfl rfl
@[simp] theorem z76 (H : Hd) (fr : Bool) : ∀ e ρ m, evS H fr (.ret e) ρ m = (evRet H fr e ρ m) := fun _ _ _ => Eq.trans rfl rfl
@[simp] theorem z77 (H : Hd) (fr : Bool) : ∀ z1 m, evS H fr .retN z1 m = (.rt (.v .non) m) := fun _ _ => Eq.trans rfl rfl
@[simp] theorem z78 (H : Hd) (fr : Bool) : ∀ ρ m, evS H fr .pass ρ m = (.nx ρ m) := fun _ _ => Eq.trans rfl rfl
@[simp] theorem z79 (H : Hd) (fr : Bool) : ∀ c a b ρ m, evS H fr (.ite c a b) ρ m = (((evE H c ρ m).bnd asB).thn ρ fun k m1 => if k then evSs H fr a ρ m1 else evSs H fr b ρ m1) := fun _ _ _ _ _ => Eq.trans rfl rfl
theorem z_for (H : Hd) (fr : Bool) : ∀ g it b ρ m, evS H fr (.for_ g it b) ρ m = ((evIt H it ρ m).thn ρ fun q m1 => lockO q.2 m1 (forGo g (fun ρ m => evSs H fr b ρ m) q.1 ρ)) := fun _ _ _ _ _ => Eq.trans rfl rfl
theorem z_while (H : Hd) (fr : Bool) : ∀ c b ρ m, evS H fr (.while_ c b) ρ m = (whileGo (fun ρ m => (evE H c ρ m).bnd asB) (fun ρ m => evSs H fr b ρ m) H.P.wf ρ m) := fun _ _ _ _ => Eq.trans rfl rfl
@[simp] theorem z82 (H : Hd) (fr : Bool) : ∀ c l ρ m, evS H fr (.raise c l) ρ m = ((evEs H l ρ m).thn ρ fun ws m1 => match fzs H.P m1 ws with
    | some (ds, m2) => if ds.length = H.P.nf c then .exc c ds ρ m2 else .bad
    | none => .bad) := fun _ _ _ _ => Eq.trans rfl rfl
@[simp] theorem z83 (H : Hd) (fr : Bool) : ∀ b hs ρ m, evS H fr (.try_ b hs) ρ m = (match evSs H false b ρ m with
    | .exc c fs ρ1 m1 => evHs H fr hs c fs ρ1 m1
    | .nx ρ1 m1 => .nx ρ1 m1
    | .rt w m1 => if fr then .bad else .rt w m1
    | .bad => .bad) := fun _ _ _ _ => Eq.trans rfl rfl
@[simp] theorem z84 (H : Hd) (fr : Bool) : ∀ ρ m, evSs H fr .nil ρ m = (.nx ρ m) := fun _ _ => Eq.trans rfl rfl
@[simp] theorem z85 (H : Hd) (fr : Bool) : ∀ s l ρ m, evSs H fr (.cons s l) ρ m = ((evS H fr s ρ m).seq fun ρ1 m1 => evSs H fr l ρ1 m1) := fun _ _ _ _ => Eq.trans rfl rfl
@[simp] theorem z86 (H : Hd) (fr : Bool) : ∀ c fs ρ m, evHs H fr .nil c fs ρ m = (.exc c fs ρ m) := fun _ _ _ _ => Eq.trans rfl rfl
@[simp] theorem z87 (H : Hd) (fr : Bool) : ∀ c' i b l c fs ρ m, evHs H fr (.cons c' i b l) c fs ρ m = (if isExc H.P c then (if catches H.P c c' then outS i (evSs ⟨H.P, fun _ _ _ _ => .bad⟩ fr b (setE i c fs ρ) m) else evHs H fr l c fs ρ m) else .bad) := fun _ _ _ _ _ _ _ _ => Eq.trans rfl rfl
@[simp] theorem fz_v (P : Prog) (m : M) (d : D) : fz P m (.v d) = some (d, m) := rfl
@[simp] theorem vw_v (m : M) (d : D) : vw m (.v d) = some d := rfl
@[simp] theorem vx_v (m : M) (d : D) : vx m (.v d) = some d := rfl
@[simp] theorem fzs_nil (P : Prog) (m : M) : fzs P m [] = some ([], m) := rfl
@[simp] theorem fzs_v (P : Prog) (m : M) (d : D) (ws : List W) : fzs P m (.v d :: ws) = (fzs P m ws).map fun q => (d :: q.1, q.2) := by
  rw [fzs]
  simp only [fz_v]
  cases fzs P m ws with
  | none => rfl
  | some q => rfl
@[simp] theorem asB_bl (b : Bool) (m : M) : asB (.v (.bl b)) m = .ok b m := rfl
@[simp] theorem asI_int (i : Int) (m : M) : asI (.v (.int i)) m = .ok (some i) m := rfl
@[simp] theorem notW_ok (b : Bool) (m : M) : notW (.ok (.v (.bl b)) m) = .ok (.v (.bl (!b))) m := rfl
@[simp] theorem notW_exc (c : Nat) (fs : List D) (m : M) : notW (.exc c fs m) = .exc c fs m := rfl
@[simp] theorem isNW_non (t : Bool) (m : M) : isNW t (.v .non) m = .ok (.v (.bl t)) m := rfl
@[simp] theorem isNW_int (t : Bool) (i : Int) (m : M) : isNW t (.v (.int i)) m = .ok (.v (.bl (!t))) m := rfl
@[simp] theorem isNW_tup (t : Bool) (l : List D) (m : M) : isNW t (.v (.tup l)) m = .ok (.v (.bl (!t))) m := rfl
@[simp] theorem isNW_lst (t : Bool) (l : List D) (m : M) : isNW t (.v (.lst l)) m = .ok (.v (.bl (!t))) m := rfl
@[simp] theorem isNW_obj (t : Bool) (c : Nat) (l : List D) (m : M) : isNW t (.v (.obj c l)) m = .ok (.v (.bl (!t))) m := rfl
@[simp] theorem isNW_str (t : Bool) (l : Sg) (m : M) : isNW t (.v (.str l)) m = .ok (.v (.bl (!t))) m := rfl
@[simp] theorem getV_v (d : D) (ρ : List W) : getV (.v d :: ρ) 0 = some (.v d) := rfl
@[simp] theorem getV_c (k : Nat) (ρ : List W) : getV (.c k :: ρ) 0 = some (.c k) := rfl
@[simp] theorem getV_s (w : W) (ρ : List W) (i : Nat) : getV (w :: ρ) (i + 1) = getV ρ i := rfl
@[simp] theorem setTgs_nil (ρ : List W) : setTgs [] [] ρ = some ρ := rfl
@[simp] theorem setTgs_cons (i : Nat) (l : List Nat) (d : D) (ds : List D) (ρ : List W) : setTgs (i :: l) (d :: ds) ρ = setTgs l ds (ρ.set i (.v d)) := rfl
@[simp] theorem setTg_n (i : Nat) (d : D) (ρ : List W) : setTg (.n i) d ρ = some (ρ.set i (.v d)) := rfl
@[simp] theorem setTg_t (l : List Nat) (ds : List D) (ρ : List W) : setTg (.t l) (.tup ds) ρ = setTgs l ds ρ := rfl
@[simp] theorem evRet_f (H : Hd) (e : E) (ρ : List W) (m : M) : evRet H false e ρ m = (evE H e ρ m).thn ρ fun w m1 => (match fz H.P m1 w with
  | some (d, m2) => .rt (.v d) m2
  | none => .bad) := rfl
@[simp] theorem nwR_f (c : C) (m : M) : (if (false : Bool) = true then R.ok (W.c m.length) (m ++ [c]) else R.opt ((C.d c).map W.v) m) = R.opt ((C.d c).map W.v) m := rfl
@[simp] theorem Cd_lst (k : Bool) (xs : List D) : C.d (.lst k xs) = some (.lst xs) := rfl
@[simp] theorem Cd_dct (k t : Bool) (xs : List (DKey × D)) : C.d (.dct k t xs) = some (.dct xs) := rfl
def endR (o : O) (k : Nat) : R W := match o with
  | .nx _ m1 => .ok (.v .non) (m1.take k)
  | .rt w m1 => backW k w m1
  | .exc c fs _ m1 => .exc c fs (m1.take k)
  | .bad => .bad
theorem run_eq {P : Prog} {n f : Nat} {fr : Bool} {as : List W} {m : M} {d : FnDef} (hf : P.fn f = some d) (hl : as.length = d.ps.length) : runF P (n + 1) f fr as m = endR (evSs ⟨P, runF P n⟩ fr d.body (entry d as) m) m.length := by
  rw [runF, hf]
  exact if_pos hl
@[simp] theorem endR_nx (ρ : List W) (m : M) (k : Nat) : endR (.nx ρ m) k = .ok (.v .non) (m.take k) := rfl
@[simp] theorem endR_rtv (d : D) (m : M) (k : Nat) : endR (.rt (.v d) m) k = .ok (.v d) (m.take k) := rfl
@[simp] theorem endR_exc (c : Nat) (fs : List D) (ρ : List W) (m : M) (k : Nat) : endR (.exc c fs ρ m) k = .exc c fs (m.take k) := rfl
theorem args_full {P : Prog} {f : Nat} {d : FnDef} {ws : List W} (hf : P.fn f = some d) (hl : ws.length = d.ps.length) (hd : d.dfl = []) : fnArgs P f ws = some ws := by
  unfold fnArgs
  rw [hf]
  dsimp only
  unfold argsG
  rw [hd, if_pos ⟨by omega, by simp; omega⟩]
  simp
section
variable {P : Prog} {f : Nat} {d : FnDef} (hf : P.fn f = some d) (hd : d.dfl = [])
include hf hd
theorem fa1 (hl : d.ps.length = 1) (a : W) : fnArgs P f [a] = some [a] := args_full hf hl.symm hd
theorem fa2 (hl : d.ps.length = 2) (a b : W) : fnArgs P f [a, b] = some [a, b] := args_full hf hl.symm hd
theorem fa3 (hl : d.ps.length = 3) (a b c : W) : fnArgs P f [a, b, c] = some [a, b, c] := args_full hf hl.symm hd
theorem fa4 (hl : d.ps.length = 4) (a b c d : W) : fnArgs P f [a, b, c, d] = some [a, b, c, d] := args_full hf hl.symm hd
theorem fa5 (hl : d.ps.length = 5) (a b c d e : W) : fnArgs P f [a, b, c, d, e] = some [a, b, c, d, e] := args_full hf hl.symm hd
theorem fa6 (hl : d.ps.length = 6) (a b c d e g : W) : fnArgs P f [a, b, c, d, e, g] = some [a, b, c, d, e, g] := args_full hf hl.symm hd
theorem fa0 (hl : d.ps.length = 0) : fnArgs P f [] = some [] := args_full hf hl.symm hd
end
@[simp] theorem get_end (m : M) (c : C) : (m ++ [c])[m.length]? = some c := by simp
@[simp] theorem set_end (m : M) (c d : C) : (m ++ [c]).set m.length d = m ++ [d] := by simp
@[simp] theorem take_end (m : M) (c : C) : (m ++ [c]).take (m.length + 1) = m ++ [c] := by
  rw [List.take_of_length_le (by simp)]
@[simp] theorem take_end0 (m : M) (c : C) : (m ++ [c]).take m.length = m := by simp
end MP
end
section
set_option  maxHeartbeats  4000000
/-! Operations by values, as rules for simp. -/
namespace MP
section
variable {H : Hd} {a b : Int} {m : M}
@[simp] theorem bw_add : binW H .add (.v (.int a)) (.v (.int b)) m = .ok (.v (.int (a + b))) m := Eq.trans rfl rfl
@[simp] theorem bw_sub : binW H .sub (.v (.int a)) (.v (.int b)) m = .ok (.v (.int (a - b))) m := Eq.trans rfl rfl
theorem bw_mul (h : mulOk a b = true) : binW H .mul (.v (.int a)) (.v (.int b)) m = .ok (.v (.int (a * b))) m := by
  show R.opt ((if mulOk a b then some (D.int (a * b)) else none).map W.v) m = _
  rw [if_pos h]
  rfl
theorem bw_fdiv (h : divOk b = true) : binW H .fdiv (.v (.int a)) (.v (.int b)) m = .ok (.v (.int (a.fdiv b))) m := by
  show R.opt ((if divOk b then some (D.int (a.fdiv b)) else none).map W.v) m = _
  rw [if_pos h]
  rfl
theorem bw_mod (h : b ≠ 0) : binW H .mod (.v (.int a)) (.v (.int b)) m = .ok (.v (.int (a.fmod b))) m := by
  show R.opt ((if b = 0 then none else some (D.int (a.fmod b))).map W.v) m = _
  rw [if_neg h]
  rfl
theorem bw_pow (h1 : 0 ≤ b) (h2 : b ≤ 1000) (h3 : a.natAbs.log2 ≤ 10000) : binW H .pow (.v (.int a)) (.v (.int b)) m = .ok (.v (.int (a ^ b.toNat))) m := by
  show R.opt ((if decide (0 ≤ b) && decide (b ≤ 1000) && decide (a.natAbs.log2 ≤ 10000) then some (D.int (a ^ b.toNat)) else none).map W.v) m = _
  rw [if_pos (by rw [decide_eq_true h1, decide_eq_true h2, decide_eq_true h3]; rfl)]
  rfl
@[simp] theorem cw_lt : cmpW H .lt (.v (.int a)) (.v (.int b)) m = .ok (.v (.bl (decide (a < b)))) m := Eq.trans rfl rfl
@[simp] theorem cw_le : cmpW H .le (.v (.int a)) (.v (.int b)) m = .ok (.v (.bl (decide (a ≤ b)))) m := Eq.trans rfl rfl
@[simp] theorem cw_gt : cmpW H .gt (.v (.int a)) (.v (.int b)) m = .ok (.v (.bl (decide (b < a)))) m := Eq.trans rfl rfl
@[simp] theorem cw_ge : cmpW H .ge (.v (.int a)) (.v (.int b)) m = .ok (.v (.bl (decide (b ≤ a)))) m := Eq.trans rfl rfl
@[simp] theorem cw_eq : cmpW H .eq (.v (.int a)) (.v (.int b)) m = .ok (.v (.bl (decide (a = b)))) m := by
  show R.opt (((eqD (.int a) (.int b)).or (cmpO H .eq (.int a) (.int b))).map fun b => W.v (.bl b)) m = _
  simp [eqD, plain, eqB]
  rfl
@[simp] theorem cw_ne : cmpW H .ne (.v (.int a)) (.v (.int b)) m = .ok (.v (.bl (!decide (a = b)))) m := by
  show R.opt ((((eqD (.int a) (.int b)).map (!·)).or (cmpO H .ne (.int a) (.int b))).map fun b => W.v (.bl b)) m = _
  simp [eqD, plain, eqB]
  rfl
@[simp] theorem cw_eqb (a b : Bool) : cmpW H .eq (.v (.bl a)) (.v (.bl b)) m = .ok (.v (.bl (a == b))) m := by
  show R.opt (((eqD (.bl a) (.bl b)).or (cmpO H .eq (.bl a) (.bl b))).map fun b => W.v (.bl b)) m = _
  simp [eqD, plain, eqB]
@[simp] theorem cw_neb (a b : Bool) : cmpW H .ne (.v (.bl a)) (.v (.bl b)) m = .ok (.v (.bl (!(a == b)))) m := by
  show R.opt ((((eqD (.bl a) (.bl b)).map (!·)).or (cmpO H .ne (.bl a) (.bl b))).map fun b => W.v (.bl b)) m = _
  simp [eqD, plain, eqB]
/-- two tuples, two lists -/
theorem cw_eqt {xs ys : List D} (h1 : plainL 49 xs = true) (h2 : plainL 49 ys = true) : cmpW H .eq (.v (.tup xs)) (.v (.tup ys)) m = .ok (.v (.bl (eqBs xs ys))) m := by
  show R.opt (((eqD (.tup xs) (.tup ys)).or (cmpO H .eq (.tup xs) (.tup ys))).map fun b => W.v (.bl b)) m = _
  simp [eqD, plain, h1, h2, eqB]
theorem cw_net {xs ys : List D} (h1 : plainL 49 xs = true) (h2 : plainL 49 ys = true) : cmpW H .ne (.v (.tup xs)) (.v (.tup ys)) m = .ok (.v (.bl (!eqBs xs ys))) m := by
  show R.opt ((((eqD (.tup xs) (.tup ys)).map (!·)).or (cmpO H .ne (.tup xs) (.tup ys))).map fun b => W.v (.bl b)) m = _
  simp [eqD, plain, h1, h2, eqB]
theorem cw_eql {xs ys : List D} (h1 : plainL 49 xs = true) (h2 : plainL 49 ys = true) : cmpW H .eq (.v (.lst xs)) (.v (.lst ys)) m = .ok (.v (.bl (eqBs xs ys))) m := by
  show R.opt (((eqD (.lst xs) (.lst ys)).or (cmpO H .eq (.lst xs) (.lst ys))).map fun b => W.v (.bl b)) m = _
  simp [eqD, plain, h1, h2, eqB]
theorem cw_nel {xs ys : List D} (h1 : plainL 49 xs = true) (h2 : plainL 49 ys = true) : cmpW H .ne (.v (.lst xs)) (.v (.lst ys)) m = .ok (.v (.bl (!eqBs xs ys))) m := by
  show R.opt ((((eqD (.lst xs) (.lst ys)).map (!·)).or (cmpO H .ne (.lst xs) (.lst ys))).map fun b => W.v (.bl b)) m = _
  simp [eqD, plain, h1, h2, eqB]
@[simp] theorem nw_int : negW H (.v (.int a)) m = .ok (.v (.int (-a))) m := Eq.trans rfl rfl
/-! items -/
theorem ix_l {x : W} {xs : List D} {i : Nat} {d : D} (h : vw m x = some (.lst xs)) (hd : xs[i]? = some d) : idxW x (.v (.int (i : Int))) m = .ok (.v d) m := by
  unfold idxW
  simp only [h, vw_v]
  have hl : i < xs.length := (List.getElem?_eq_some_iff.mp hd).1
  have : idxD (.lst xs) (.int (i : Int)) = some d := by
    simp [idxD, place, hl]
    have := List.getElem?_eq_some_iff.mp hd
    exact this.2
  rw [this]
  rfl
theorem ix_t {xs : List D} {i : Nat} {d : D} (hd : xs[i]? = some d) : idxW (.v (.tup xs)) (.v (.int (i : Int))) m = .ok (.v d) m := by
  unfold idxW
  simp only [vw_v]
  have hl : i < xs.length := (List.getElem?_eq_some_iff.mp hd).1
  have : idxD (.tup xs) (.int (i : Int)) = some d := by
    simp [idxD, place, hl]
    have := List.getElem?_eq_some_iff.mp hd
    exact this.2
  rw [this]
  rfl
@[simp] theorem ix_t0 (d : D) (l : List D) : idxW (.v (.tup (d :: l))) (.v (.int 0)) m = .ok (.v d) m := ix_t (i := 0) rfl
@[simp] theorem ix_t1 (c d : D) (l : List D) : idxW (.v (.tup (c :: d :: l))) (.v (.int 1)) m = .ok (.v d) m := ix_t (i := 1) rfl
@[simp] theorem ix_t2 (b c d : D) (l : List D) : idxW (.v (.tup (b :: c :: d :: l))) (.v (.int 2)) m = .ok (.v d) m := ix_t (i := 2) rfl
@[simp] theorem ix_l0 (d : D) (l : List D) : idxW (.v (.lst (d :: l))) (.v (.int 0)) m = .ok (.v d) m := ix_l (i := 0) rfl rfl
@[simp] theorem ix_l1 (c d : D) (l : List D) : idxW (.v (.lst (c :: d :: l))) (.v (.int 1)) m = .ok (.v d) m := ix_l (i := 1) rfl rfl
@[simp] theorem ix_l2 (b c d : D) (l : List D) : idxW (.v (.lst (b :: c :: d :: l))) (.v (.int 2)) m = .ok (.v d) m := ix_l (i := 2) rfl rfl
/-! fields -/
@[simp] theorem fw_0 (c : Nat) (d : D) (l : List D) : fldW c 0 (.v (.obj c (d :: l))) m = .ok (.v d) m := by simp [fldW]
@[simp] theorem fw_1 (c : Nat) (e d : D) (l : List D) : fldW c 1 (.v (.obj c (e :: d :: l))) m = .ok (.v d) m := by simp [fldW]
@[simp] theorem fw_2 (c : Nat) (f e d : D) (l : List D) : fldW c 2 (.v (.obj c (f :: e :: d :: l))) m = .ok (.v d) m := by simp [fldW]
@[simp] theorem fw_3 (c : Nat) (g f e d : D) (l : List D) : fldW c 3 (.v (.obj c (g :: f :: e :: d :: l))) m = .ok (.v d) m := by simp [fldW]
/-! builtins -/
@[simp] theorem bf_abs : bfW H .abs [.v (.int a)] m = .ok (.v (.int (if a < 0 then -a else a))) m := Eq.trans rfl rfl
@[simp] theorem bf_int : bfW H .int [.v (.int a)] m = .ok (.v (.int a)) m := Eq.trans rfl rfl
@[simp] theorem bf_max : bfW H .max [.v (.int a), .v (.int b)] m = .ok (.v (.int (if b > a then b else a))) m := Eq.trans rfl rfl
@[simp] theorem bf_min : bfW H .min [.v (.int a), .v (.int b)] m = .ok (.v (.int (if b < a then b else a))) m := Eq.trans rfl rfl
theorem bf_len {x : W} {xs : List D} (h : vw m x = some (.lst xs)) : bfW H .len [x] m = .ok (.v (.int xs.length)) m := by
  unfold bfW
  simp [vws, h, bfD, lenD]
@[simp] theorem bf_lenv (xs : List D) : bfW H .len [.v (.lst xs)] m = .ok (.v (.int xs.length)) m := bf_len rfl
@[simp] theorem bf_lent (xs : List D) : bfW H .len [.v (.tup xs)] m = .ok (.v (.int xs.length)) m := Eq.trans rfl rfl
end
end MP
end
section
/-! Terms of the program's defs on ratios. -/
namespace MP
def d_is_integer : FnDef := ⟨("is_integer", none), ["value"], [], ["value"],
  (.cons (.ret (.and (.isi (.var 0) [.int]) (.not (.isi (.var 0) [.bool])))) .nil)⟩
def d_divisor_of : FnDef := ⟨("divisor_of", none), ["one", "other"], [], ["one", "other"],
  (.cons (.while_ (.cmp .ne (.var 1) (.int 0)) (.cons (.par [0, 1] (.cons (.var 1) (.cons (.bin .mod (.var 0) (.var 1)) .nil))) .nil)) (.cons (.ret (.bf .abs (.cons (.var 0) .nil))) .nil))⟩
def d_parts : FnDef := ⟨("parts", none), ["given"], [], ["given"],
  (.cons (.ite (.call 0 false (.cons (.var 0) .nil)) (.cons (.ret (.tup (.cons (.var 0) (.cons (.int 1) .nil)))) .nil) .nil) (.cons (.ret (.ite (.isi (.var 0) [.cls 0]) (.tup (.cons (.fld 0 (.var 0) 0) (.cons (.fld 0 (.var 0) 1) .nil))) .non)) .nil))⟩
def d_checked : FnDef := ⟨("checked", none), ["given"], [], ["given", "found"],
  (.cons (.asg (.n 1) (.call 2 false (.cons (.var 0) .nil))) (.cons (.ite (.isN (.var 1)) (.cons (.raise 12 (.cons (.var 0) .nil)) .nil) .nil) (.cons (.ret (.var 1)) .nil)))⟩
def d_Ratiox_initx : FnDef := ⟨("Ratio", some "__init__"), ["self", "top", "bottom"], [.int 1], ["self", "top", "bottom", "divisor"],
  (.cons (.ite (.cmp .eq (.var 2) (.int 0)) (.cons (.raise 11 .nil) .nil) .nil) (.cons (.asg (.n 3) (.ite (.cmp .gt (.var 2) (.int 0)) (.call 1 false (.cons (.var 1) (.cons (.var 2) .nil))) (.neg (.call 1 false (.cons (.var 1) (.cons (.var 2) .nil)))))) (.cons (.setf 0 (.var 0) 0 (.bin .fdiv (.var 1) (.var 3))) (.cons (.setf 0 (.var 0) 1 (.bin .fdiv (.var 2) (.var 3))) .nil))))⟩
def d_Ratiox_addx : FnDef := ⟨("Ratio", some "__add__"), ["self", "other"], [], ["self", "other", "top", "bottom"],
  (.cons (.asg (.t [2, 3]) (.call 3 false (.cons (.var 1) .nil))) (.cons (.ret (.make 0 false (.cons (.bin .add (.bin .mul (.fld 0 (.var 0) 0) (.var 3)) (.bin .mul (.var 2) (.fld 0 (.var 0) 1))) (.cons (.bin .mul (.fld 0 (.var 0) 1) (.var 3)) .nil)))) .nil))⟩
def d_Ratiox_subx : FnDef := ⟨("Ratio", some "__sub__"), ["self", "other"], [], ["self", "other", "top", "bottom"],
  (.cons (.asg (.t [2, 3]) (.call 3 false (.cons (.var 1) .nil))) (.cons (.ret (.make 0 false (.cons (.bin .sub (.bin .mul (.fld 0 (.var 0) 0) (.var 3)) (.bin .mul (.var 2) (.fld 0 (.var 0) 1))) (.cons (.bin .mul (.fld 0 (.var 0) 1) (.var 3)) .nil)))) .nil))⟩
def d_Ratiox_mulx : FnDef := ⟨("Ratio", some "__mul__"), ["self", "other"], [], ["self", "other", "top", "bottom"],
  (.cons (.asg (.t [2, 3]) (.call 3 false (.cons (.var 1) .nil))) (.cons (.ret (.make 0 false (.cons (.bin .mul (.fld 0 (.var 0) 0) (.var 2)) (.cons (.bin .mul (.fld 0 (.var 0) 1) (.var 3)) .nil)))) .nil))⟩
def d_Ratiox_negx : FnDef := ⟨("Ratio", some "__neg__"), ["self"], [], ["self"],
  (.cons (.ret (.make 0 false (.cons (.neg (.fld 0 (.var 0) 0)) (.cons (.fld 0 (.var 0) 1) .nil)))) .nil)⟩
def d_Ratiox_eqx : FnDef := ⟨("Ratio", some "__eq__"), ["self", "other"], [], ["self", "other"],
  (.cons (.ret (.cmp .eq (.call 2 false (.cons (.var 1) .nil)) (.tup (.cons (.fld 0 (.var 0) 0) (.cons (.fld 0 (.var 0) 1) .nil))))) .nil)⟩
def d_Ratiox_ltx : FnDef := ⟨("Ratio", some "__lt__"), ["self", "other"], [], ["self", "other", "top", "bottom"],
  (.cons (.asg (.t [2, 3]) (.call 3 false (.cons (.var 1) .nil))) (.cons (.ret (.cmp .lt (.bin .mul (.fld 0 (.var 0) 0) (.var 3)) (.bin .mul (.var 2) (.fld 0 (.var 0) 1)))) .nil))⟩
def d_Ratiox_lex : FnDef := ⟨("Ratio", some "__le__"), ["self", "other"], [], ["self", "other", "top", "bottom"],
  (.cons (.asg (.t [2, 3]) (.call 3 false (.cons (.var 1) .nil))) (.cons (.ret (.cmp .le (.bin .mul (.fld 0 (.var 0) 0) (.var 3)) (.bin .mul (.var 2) (.fld 0 (.var 0) 1)))) .nil))⟩
def d_Ratio_over : FnDef := ⟨("Ratio", some "over"), ["self", "number"], [], ["self", "number", "top", "bottom"],
  (.cons (.asg (.t [2, 3]) (.call 3 false (.cons (.var 1) .nil))) (.cons (.ret (.make 0 false (.cons (.bin .mul (.fld 0 (.var 0) 0) (.var 3)) (.cons (.bin .mul (.fld 0 (.var 0) 1) (.var 2)) .nil)))) .nil))⟩
def d_as_ratio : FnDef := ⟨("as_ratio", none), ["given"], [], ["given", "top", "bottom"],
  (.cons (.asg (.t [1, 2]) (.call 3 false (.cons (.var 0) .nil))) (.cons (.ret (.make 0 false (.cons (.var 1) (.cons (.var 2) .nil)))) .nil))⟩
def d_lesser : FnDef := ⟨("lesser", none), ["one", "other"], [], ["one", "other"],
  (.cons (.ret (.ite (.cmp .lt (.call 16 false (.cons (.var 0) .nil)) (.var 1)) (.call 16 false (.cons (.var 0) .nil)) (.call 16 false (.cons (.var 1) .nil)))) .nil)⟩
def d_greater : FnDef := ⟨("greater", none), ["one", "other"], [], ["one", "other"],
  (.cons (.ret (.ite (.cmp .lt (.call 16 false (.cons (.var 0) .nil)) (.var 1)) (.call 16 false (.cons (.var 1) .nil)) (.call 16 false (.cons (.var 0) .nil)))) .nil)⟩
def d_total : FnDef := ⟨("total", none), ["numbers"], [], ["numbers", "found", "number"],
  (.cons (.asg (.n 1) (.make 0 false (.cons (.int 0) .nil))) (.cons (.for_ (.n 2) (.e (.var 0)) (.cons (.asg (.n 1) (.bin .add (.var 1) (.var 2))) .nil)) (.cons (.ret (.var 1)) .nil)))⟩
def d_raised : FnDef := ⟨("raised", none), ["number", "exponent"], [], ["number", "exponent", "found", "turn"],
  (.cons (.asg (.n 2) (.make 0 false (.cons (.int 1) .nil))) (.cons (.for_ (.n 3) (.range1 (.var 1)) (.cons (.asg (.n 2) (.bin .mul (.var 2) (.var 0))) .nil)) (.cons (.ret (.var 2)) .nil)))⟩
end MP
end
section
set_option  maxHeartbeats  4000000
/-! The program's ratios, run by the evaluator. -/
namespace MP
def ratD (q : Rat) : D := .obj 0 [.int q.num, .int (q.den : Int)]
/-- what is asked of a program for its ratios -/
structure RatP (P : Prog) : Prop where
  f0 : P.fn 0 = some d_is_integer
  f1 : P.fn 1 = some d_divisor_of
  f2 : P.fn 2 = some d_parts
  f3 : P.fn 3 = some d_checked
  f4 : P.fn 4 = some d_Ratiox_initx
  c0 : ∃ cd, P.cls[0]? = some cd ∧ cd.init = 4 ∧ cd.flds.length = 2 ∧ cd.here = true ∧ cd.exc = false
  f6 : P.fn 6 = some d_Ratiox_addx
  f7 : P.fn 7 = some d_Ratiox_subx
  f8 : P.fn 8 = some d_Ratiox_mulx
  f9 : P.fn 9 = some d_Ratiox_negx
  f10 : P.fn 10 = some d_Ratiox_eqx
  f11 : P.fn 11 = some d_Ratiox_ltx
  f12 : P.fn 12 = some d_Ratiox_lex
  o0 : P.op 0 0 = some 6
  o1 : P.op 0 1 = some 7
  o2 : P.op 0 2 = some 8
  o10 : P.op 0 10 = some 10
  o11 : P.op 0 11 = some 11
  o12 : P.op 0 12 = some 12
  o30 : P.op 0 30 = some 9
  n11 : P.nf 11 = 0
  n12 : P.nf 12 = 1
  wf : 2 ^ 9000 ≤ P.wf
theorem RatP.nf {P : Prog} (h : RatP P) : P.nf 0 = 2 := by
  obtain ⟨cd, e, _, l, _⟩ := h.c0
  unfold Prog.nf
  rw [e]
  exact l
theorem RatP.own {P : Prog} (h : RatP P) : P.own 0 = true := by
  obtain ⟨cd, e, _, _, h1, h2⟩ := h.c0
  unfold Prog.own
  rw [e]
  show (cd.here && !cd.exc) = true
  rw [h1, h2]
  rfl
/-! ### sizes -/
def Sm (k : Nat) (x : Int) : Prop := x.natAbs < 2 ^ k
theorem Sm.mono {j k : Nat} {x : Int} (h : Sm j x) (hk : j ≤ k) : Sm k x := Nat.lt_of_lt_of_le h (Nat.pow_le_pow_right (by omega) hk)
theorem Sm.mul {j k : Nat} {x y : Int} (h : Sm j x) (h' : Sm k y) : Sm (j + k) (x * y) := by
  unfold Sm at *
  rw [Int.natAbs_mul, Nat.pow_add]
  exact Nat.mul_lt_mul'' h h'
theorem Sm.add {j : Nat} {x y : Int} (h : Sm j x) (h' : Sm j y) : Sm (j + 1) (x + y) := by
  unfold Sm at *
  have := Int.natAbs_add_le x y
  rw [Nat.pow_succ]
  omega
theorem Sm.sub {j : Nat} {x y : Int} (h : Sm j x) (h' : Sm j y) : Sm (j + 1) (x - y) := by
  unfold Sm at *
  have := Int.natAbs_sub_le x y
  rw [Nat.pow_succ]
  omega
theorem Sm.neg {j : Nat} {x : Int} (h : Sm j x) : Sm j (-x) := by
  unfold Sm at *
  rw [Int.natAbs_neg]
  exact h
theorem Sm.log {j : Nat} {x : Int} (h : Sm j x) : x.natAbs.log2 ≤ j := by
  unfold Sm at h
  by_cases hz : x.natAbs = 0
  · rw [hz]; simp
  · exact Nat.le_of_lt ((Nat.log2_lt hz).mpr h)
theorem Sm.mulOk {j k : Nat} {x y : Int} (h : Sm j x) (h' : Sm k y) (hk : j + k ≤ 900000) : mulOk x y = true := decide_eq_true (by have := h.log; have := h'.log; omega)
theorem Sm.divOk {j : Nat} {x : Int} (h : Sm j x) (hk : j ≤ 8000) (hz : x ≠ 0) : divOk x = true := by
  unfold MP.divOk
  rw [decide_eq_true hz, decide_eq_true (Nat.le_trans h.log hk)]
  rfl
theorem Sm.of_natAbs {j : Nat} {x y : Int} (h : Sm j x) (hl : y.natAbs ≤ x.natAbs) : Sm j y := Nat.lt_of_le_of_lt hl h
/-- a ratio with top and bottom below 2 ^ k -/
def Rs (k : Nat) (q : Rat) : Prop := Sm k q.num ∧ Sm k (q.den : Int)
theorem Rs.mono {j k : Nat} {q : Rat} (h : Rs j q) (hk : j ≤ k) : Rs k q := ⟨h.1.mono hk, h.2.mono hk⟩
theorem divInt_sm {j : Nat} {a b : Int} (ha : Sm j a) (hb : Sm j b) (hz : b ≠ 0) : Rs j (Rat.divInt a b) := by
  constructor
  · refine ha.of_natAbs ?_
    rw [Rat.num_divInt, Int.natAbs_ediv_of_dvd]
    · rw [Int.natAbs_mul]
      have : b.sign.natAbs = 1 := by rw [Int.natAbs_sign]; simp [hz]
      rw [this, Nat.one_mul]
      exact Nat.div_le_self _ _
    · exact Int.dvd_trans (Int.gcd_dvd_right ..) (Int.dvd_mul_left ..)
  · refine hb.of_natAbs ?_
    rw [Rat.den_divInt, if_neg hz, Int.natAbs_natCast]
    exact Nat.div_le_self _ _
/-! ### the greatest common divisor -/
theorem fmod_neg_neg (a b : Int) : a.fmod b = -((-a).fmod (-b)) := by
  rw [Int.neg_fmod_neg]
  omega
theorem fmod_nonpos (a : Int) {b : Int} (h : b < 0) : a.fmod b ≤ 0 := by
  rw [fmod_neg_neg]
  have := Int.fmod_nonneg_of_pos (-a) (b := -b) (by omega)
  omega
theorem lt_fmod (a : Int) {b : Int} (h : b < 0) : b < a.fmod b := by
  rw [fmod_neg_neg]
  have := Int.fmod_lt_of_pos (-a) (b := -b) (by omega)
  omega
theorem natAbs_fmod_lt (a b : Int) (h : b ≠ 0) : (a.fmod b).natAbs < b.natAbs := by
  rcases Int.lt_or_lt_of_ne h with hb | hb
  · have h1 := fmod_nonpos a hb
    have h2 := lt_fmod a hb
    omega
  · have h1 := Int.fmod_nonneg_of_pos a hb
    have h2 := Int.fmod_lt_of_pos a hb
    omega
theorem gcd_fmod (a b : Int) : b.gcd (a.fmod b) = a.gcd b := by
  rw [Int.fmod_def, Int.gcd_sub_mul_left_right, Int.gcd_comm]
theorem div_go (cond : List W → M → R Bool) (body : List W → M → O) (m : M) (hc : ∀ a b : Int, cond [.v (.int a), .v (.int b)] m = .ok (!decide (b = 0)) m) (hb : ∀ a b : Int, b ≠ 0 → body [.v (.int a), .v (.int b)] m = .nx [.v (.int b), .v (.int (a.fmod b))] m) :
    ∀ (k : Nat) (a b : Int), b.natAbs < k → ∃ c : Int, c.natAbs = a.gcd b ∧ whileGo cond body k [.v (.int a), .v (.int b)] m = .nx [.v (.int c), .v (.int 0)] m
  | 0, a, b, h => absurd h (Nat.not_lt_zero _)
  | k + 1, a, b, h => by
    by_cases hz : b = 0
    · subst hz
      refine ⟨a, by simp, ?_⟩
      rw [whileGo, hc]
      rfl
    · have hlt := natAbs_fmod_lt a b hz
      obtain ⟨c, h1, h2⟩ := div_go cond body m hc hb k b (a.fmod b) (by omega)
      refine ⟨c, by rw [h1, gcd_fmod], ?_⟩
      rw [whileGo, hc, decide_eq_false hz]
      show (body _ m).seq _ = _
      rw [hb a b hz]
      exact h2
theorem div_loop (H : Hd) (fr : Bool) (m : M) (a b : Int) (h : b.natAbs < H.P.wf) : ∃ c : Int, c.natAbs = a.gcd b ∧
    evS H fr (.while_ (.cmp .ne (.var 1) (.int 0)) (.cons (.par [0, 1] (.cons (.var 1) (.cons (.bin .mod (.var 0) (.var 1)) .nil))) .nil)) [.v (.int a), .v (.int b)] m = .nx [.v (.int c), .v (.int 0)] m := by
  rw [z_while]
  refine div_go _ _ m (fun a b => ?_) (fun a b hz => ?_) _ a b h
  · simp [cmpW, cmpD, eqD, plain, eqB]
    rfl
  · simp [binW, binD, setAll, hz]
section
variable {P : Prog} (hP : RatP P) {n : Nat} {m : M}
include hP
theorem r_div (a b : Int) (hb : Sm 9000 b) : runF P (n + 1) 1 false [.v (.int a), .v (.int b)] m = .ok (.v (.int (a.gcd b : Int))) m := by
  rw [run_eq hP.f1 rfl]
  obtain ⟨c, h1, h2⟩ := div_loop ⟨P, runF P n⟩ false m a b (Nat.lt_of_lt_of_le hb hP.wf)
  simp [d_divisor_of, entry, h2, bfW, vws, bfD]
  have : (if c < 0 then -c else c) = (c.natAbs : Int) := by split <;> omega
  rw [this, h1]
/-- no number -/
def odd : D → Bool
  | .non => true
  | .bl _ => true
  | .str _ => true
  | .lst _ => true
  | .tup _ => true
  | .dct _ => true
  | _ => false
theorem r_isint (i : Int) : runF P (n + 1) 0 false [.v (.int i)] m = .ok (.v (.bl true)) m := by
  rw [run_eq hP.f0 rfl]
  simp [d_is_integer, entry, isiW, isiD]
theorem r_isint_odd (d : D) (hd : odd d = true) : runF P (n + 1) 0 false [.v d] m = .ok (.v (.bl false)) m := by
  rw [run_eq hP.f0 rfl]
  cases d with
  | int _ => cases hd
  | obj _ _ => cases hd
  | cls _ => cases hd
  | _ => simp [d_is_integer, entry, isiW, isiD]
theorem r_isint_rat (q : Rat) : runF P (n + 1) 0 false [.v (ratD q)] m = .ok (.v (.bl false)) m := by
  rw [run_eq hP.f0 rfl]
  simp [d_is_integer, entry, isiW, isiD, ratD, hP.own]
theorem r_parts_int (i : Int) : runF P (n + 2) 2 false [.v (.int i)] m = .ok (.v (.tup [.int i, .int 1])) m := by
  rw [run_eq hP.f2 rfl]
  simp [d_parts, entry, fa1 hP.f0 rfl rfl, r_isint hP]
theorem r_parts_rat (q : Rat) : runF P (n + 2) 2 false [.v (ratD q)] m = .ok (.v (.tup [.int q.num, .int q.den])) m := by
  rw [run_eq hP.f2 rfl]
  simp [d_parts, entry, fa1 hP.f0 rfl rfl, r_isint_rat hP]
  simp [isiW, isiD, ratD, hP.own, fldW]
theorem r_parts_odd (d : D) (hd : odd d = true) : runF P (n + 2) 2 false [.v d] m = .ok (.v .non) m := by
  rw [run_eq hP.f2 rfl]
  simp [d_parts, entry, fa1 hP.f0 rfl rfl, r_isint_odd hP d hd]
  cases d with
  | int _ => cases hd
  | obj _ _ => cases hd
  | cls _ => cases hd
  | _ => simp [isiW, isiD]
theorem r_chk_int (i : Int) : runF P (n + 3) 3 false [.v (.int i)] m = .ok (.v (.tup [.int i, .int 1])) m := by
  rw [run_eq hP.f3 rfl]
  simp [d_checked, entry, fa1 hP.f2 rfl rfl, r_parts_int hP]
theorem r_chk_rat (q : Rat) : runF P (n + 3) 3 false [.v (ratD q)] m = .ok (.v (.tup [.int q.num, .int q.den])) m := by
  rw [run_eq hP.f3 rfl]
  simp [d_checked, entry, fa1 hP.f2 rfl rfl, r_parts_rat hP]
theorem r_chk_odd (d : D) (hd : odd d = true) : runF P (n + 3) 3 false [.v d] m = .exc 12 [d] m := by
  rw [run_eq hP.f3 rfl]
  simp [d_checked, entry, fa1 hP.f2 rfl rfl, r_parts_odd hP d hd, hP.n12]
end
end MP
end
section
set_option  maxHeartbeats  4000000
namespace MP
theorem fdiv_gcd_pos {a b g : Int} (hb : 0 < b) (hg : g = (a.gcd b : Int)) : a.fdiv g = (Rat.divInt a b).num ∧ b.fdiv g = ((Rat.divInt a b).den : Int) := by
  have hgz : a.gcd b ≠ 0 := by
    intro h
    have := Int.gcd_eq_zero_iff.mp h
    omega
  have h0 : (0 : Int) ≤ g := by rw [hg]; exact Int.natCast_nonneg _
  rw [Int.fdiv_eq_ediv_of_nonneg _ h0, Int.fdiv_eq_ediv_of_nonneg _ h0, Rat.num_divInt, Rat.den_divInt, if_neg (by omega), Int.sign_eq_one_of_pos hb, Int.one_mul, Int.gcd_comm b a, hg]
  refine ⟨rfl, ?_⟩
  rw [Int.natCast_ediv]
  congr 1
  omega
theorem fdiv_neg_dvd {a g : Int} (hz : g ≠ 0) (h : g ∣ a) : a.fdiv (-g) = (-a) / g := by
  obtain ⟨c, rfl⟩ := h
  rw [show g * c = (-g) * (-c) by grind, Int.mul_fdiv_cancel_left _ (by omega), show -(-g * -c) = g * (-c) by grind, Int.mul_ediv_cancel_left _ hz]
theorem fdiv_gcd_neg {a b g : Int} (hb : b < 0) (hg : g = -(a.gcd b : Int)) : a.fdiv g = (Rat.divInt a b).num ∧ b.fdiv g = ((Rat.divInt a b).den : Int) := by
  have hgz : a.gcd b ≠ 0 := by
    intro h
    have := Int.gcd_eq_zero_iff.mp h
    omega
  have hz : (a.gcd b : Int) ≠ 0 := by omega
  rw [hg, fdiv_neg_dvd hz (Int.gcd_dvd_left ..), fdiv_neg_dvd hz (Int.gcd_dvd_right ..), Rat.num_divInt, Rat.den_divInt, if_neg (by omega), Int.sign_eq_neg_one_of_neg hb, Int.gcd_comm b a]
  refine ⟨by rw [Int.neg_one_mul], ?_⟩
  rw [Int.natCast_ediv]
  congr 1
  omega
theorem divInt_one (a : Int) : Rat.divInt a 1 = (a : Rat) := by
  have h := Rat.num_divInt_den (a : Rat)
  rw [Rat.num_intCast, Rat.den_intCast] at h
  exact h
theorem den_nz (q : Rat) : (q.den : Int) ≠ 0 := by
  have := q.den_nz
  omega
theorem den_pos (q : Rat) : (0 : Int) < q.den := by
  have := q.den_nz
  omega
theorem add_div (q r : Rat) : Rat.divInt (q.num * r.den + r.num * q.den) (q.den * r.den) = q + r := by
  have := Rat.divInt_add_divInt q.num r.num (den_nz q) (den_nz r)
  rw [Rat.num_divInt_den, Rat.num_divInt_den] at this
  exact this.symm
theorem sub_div (q r : Rat) : Rat.divInt (q.num * r.den - r.num * q.den) (q.den * r.den) = q - r := by
  have := Rat.divInt_sub_divInt q.num r.num (den_nz q) (den_nz r)
  rw [Rat.num_divInt_den, Rat.num_divInt_den] at this
  exact this.symm
theorem mul_div (q r : Rat) : Rat.divInt (q.num * r.num) (q.den * r.den) = q * r := by
  have := Rat.divInt_mul_divInt q.num r.num (d₁ := q.den) (d₂ := r.den)
  rw [Rat.num_divInt_den, Rat.num_divInt_den] at this
  exact this.symm
theorem over_div (q r : Rat) (h : r ≠ 0) : Rat.divInt (q.num * r.den) (q.den * r.num) = q / r := by
  have := Rat.divInt_mul_divInt q.num r.den (d₁ := q.den) (d₂ := r.num)
  rw [Rat.num_divInt_den] at this
  rw [Rat.div_def, Rat.inv_def, this]
theorem Rs.add {j k : Nat} {q r : Rat} (h : Rs j q) (h' : Rs k r) : Rs (j + k + 1) (q + r) := by
  rw [← add_div]
  refine divInt_sm ?_ ?_ (Int.mul_ne_zero (den_nz q) (den_nz r))
  · refine (Sm.add (j := j + k) (h.1.mul h'.2) ?_)
    rw [Nat.add_comm j k]
    exact h'.1.mul h.2
  · exact (h.2.mul h'.2).mono (by omega)
theorem Rs.sub {j k : Nat} {q r : Rat} (h : Rs j q) (h' : Rs k r) : Rs (j + k + 1) (q - r) := by
  rw [← sub_div]
  refine divInt_sm ?_ ?_ (Int.mul_ne_zero (den_nz q) (den_nz r))
  · refine (Sm.sub (j := j + k) (h.1.mul h'.2) ?_)
    rw [Nat.add_comm j k]
    exact h'.1.mul h.2
  · exact (h.2.mul h'.2).mono (by omega)
theorem Rs.mul {j k : Nat} {q r : Rat} (h : Rs j q) (h' : Rs k r) : Rs (j + k) (q * r) := by
  rw [← mul_div]
  exact divInt_sm (h.1.mul h'.1) (h.2.mul h'.2) (Int.mul_ne_zero (den_nz q) (den_nz r))
theorem num_nz {r : Rat} (h : r ≠ 0) : r.num ≠ 0 := fun e => h (Rat.num_eq_zero.mp e)
theorem Rs.div {j k : Nat} {q r : Rat} (h : Rs j q) (h' : Rs k r) (hz : r ≠ 0) : Rs (j + k) (q / r) := by
  rw [← over_div q r hz]
  exact divInt_sm (h.1.mul h'.2) (h.2.mul h'.1) (Int.mul_ne_zero (den_nz q) (num_nz hz))
theorem Rs.int {j : Nat} {i : Int} (h : Sm j i) (hj : 0 < j) : Rs j (i : Rat) := by
  refine ⟨by rw [Rat.num_intCast]; exact h, ?_⟩
  rw [Rat.den_intCast]
  unfold Sm
  exact Nat.one_lt_two_pow (by omega)
section
variable {P : Prog} (hP : RatP P) {n : Nat} {m : M}
include hP
theorem Sm.gcd {a b : Int} {k : Nat} (hb : Sm k b) (hz : b ≠ 0) : Sm k (a.gcd b : Int) := by
  refine hb.of_natAbs ?_
  rw [Int.natAbs_natCast]
  exact Nat.le_of_dvd (by omega) (Nat.gcd_dvd_right a.natAbs b.natAbs)
theorem r_init (a b : Int) (hb : Sm 8000 b) (hz : b ≠ 0) : runF P (n + 2) 4 false [.c m.length, .v (.int a), .v (.int b)] (m ++ [.obj 0 []]) = .ok (.v .non) (m ++ [.obj 0 [.v (.int (Rat.divInt a b).num), .v (.int (Rat.divInt a b).den)]]) := by
  rw [run_eq hP.f4 rfl]
  have hg := Sm.gcd hP (a := a) hb hz
  have hgz : (a.gcd b : Int) ≠ 0 := by
    intro h
    have h' : a.gcd b = 0 := by omega
    exact hz (Int.gcd_eq_zero_iff.mp h').2
  have e0 : eqB (.int b) (.int 0) = false := by simpa [eqB] using hz
  rcases Int.lt_or_lt_of_ne hz with h | h
  · obtain ⟨e1, e2⟩ := fdiv_gcd_neg (a := a) h rfl
    have hd := hg.neg.divOk (Nat.le_refl _) (by omega)
    have h2 : ¬ 0 < b := by omega
    simp [d_Ratiox_initx, entry, cmpW, cmpD, eqD, plain, e0, h2, fa2 hP.f1 rfl rfl, r_div hP a b (hb.mono (by omega)), negW, binW, binD, hd, e1, e2, hP.nf, setFd]
  · obtain ⟨e1, e2⟩ := fdiv_gcd_pos (a := a) h rfl
    have hd := hg.divOk (Nat.le_refl _) hgz
    simp [d_Ratiox_initx, entry, cmpW, cmpD, eqD, plain, e0, h, fa2 hP.f1 rfl rfl, r_div hP a b (hb.mono (by omega)), binW, binD, hd, e1, e2, hP.nf, setFd]
theorem r_init0 (a : Int) : runF P (n + 1) 4 false [.c m.length, .v (.int a), .v (.int 0)] (m ++ [.obj 0 []]) = .exc 11 [] (m ++ [.obj 0 []]) := by
  rw [run_eq hP.f4 rfl]
  simp [d_Ratiox_initx, entry, cmpW, cmpD, eqD, plain, eqB, hP.n11]
theorem r_mk (a b : Int) (hb : Sm 8000 b) (hz : b ≠ 0) : mkObj ⟨P, runF P (n + 2)⟩ 0 false [.v (.int a), .v (.int b)] m = .ok (.v (ratD (Rat.divInt a b))) m := by
  obtain ⟨cd, e, hi, hl, _⟩ := hP.c0
  unfold mkObj
  simp only [e, hi]
  have ea : fnArgs P 4 (W.c m.length :: [.v (.int a), .v (.int b)]) = some [W.c m.length, .v (.int a), .v (.int b)] := by
    unfold fnArgs
    rw [hP.f4]
    rfl
  simp only [ea]
  unfold mkGo
  simp only [r_init hP a b hb hz]
  have hnf := hP.nf
  simp [fz, hnf, ratD, Fd.fz]
theorem r_mkK (a b : Int) (hb : Sm 8000 b) (hz : b ≠ 0) : mkObjK ⟨P, runF P (n + 2)⟩ 0 [] ["bottom", "top"] [.v (.int b), .v (.int a)] m = .ok (.v (ratD (Rat.divInt a b))) m := by
  obtain ⟨cd, e, hi, hl, _⟩ := hP.c0
  unfold mkObjK
  simp only [e, hi]
  have ea : fnArgsK P 4 [W.c m.length] ["bottom", "top"] [.v (.int b), .v (.int a)] = some [W.c m.length, .v (.int a), .v (.int b)] := by
    unfold fnArgsK
    rw [hP.f4]
    rfl
  simp only [ea]
  unfold mkGo
  simp only [r_init hP a b hb hz]
  have hnf := hP.nf
  simp [fz, hnf, ratD, Fd.fz]
theorem r_mk1 (a : Int) : mkObj ⟨P, runF P (n + 2)⟩ 0 false [.v (.int a)] m = .ok (.v (ratD (a : Rat))) m := by
  obtain ⟨cd, e, hi, hl, _⟩ := hP.c0
  have h1 : Sm 8000 1 := by
    unfold Sm
    exact Nat.one_lt_two_pow (by omega)
  unfold mkObj
  simp only [e, hi]
  have ea : fnArgs P 4 (W.c m.length :: [.v (.int a)]) = some [W.c m.length, .v (.int a), .v (.int 1)] := by
    unfold fnArgs
    rw [hP.f4]
    rfl
  simp only [ea]
  unfold mkGo
  simp only [r_init hP a 1 h1 (by decide)]
  have hnf := hP.nf
  have e1 := divInt_one a
  rw [e1]
  simp [fz, hnf, ratD, Fd.fz]
theorem r_mk0 (a : Int) : mkObj ⟨P, runF P (n + 1)⟩ 0 false [.v (.int a), .v (.int 0)] m = .exc 11 [] m := by
  obtain ⟨cd, e, hi, hl, _⟩ := hP.c0
  unfold mkObj
  simp only [e, hi]
  have ea : fnArgs P 4 (W.c m.length :: [.v (.int a), .v (.int 0)]) = some [W.c m.length, .v (.int a), .v (.int 0)] := by
    unfold fnArgs
    rw [hP.f4]
    rfl
  simp only [ea]
  unfold mkGo
  simp only [r_init0 hP a]
  simp
/-- a number as it is passed -/
inductive NumD : D → Rat → Prop
  | int (i : Int) : NumD (.int i) (i : Rat)
  | rat (q : Rat) : NumD (ratD q) q
theorem r_chk {d : D} {r : Rat} (h : NumD d r) : runF P (n + 3) 3 false [.v d] m = .ok (.v (.tup [.int r.num, .int r.den])) m := by
  cases h with
  | int i =>
    rw [r_chk_int hP, Rat.num_intCast, Rat.den_intCast]
    rfl
  | rat => exact r_chk_rat hP _
theorem r_parts {d : D} {r : Rat} (h : NumD d r) : runF P (n + 2) 2 false [.v d] m = .ok (.v (.tup [.int r.num, .int r.den])) m := by
  cases h with
  | int i =>
    rw [r_parts_int hP, Rat.num_intCast, Rat.den_intCast]
    rfl
  | rat => exact r_parts_rat hP _
theorem r_add (q : Rat) {d : D} {r : Rat} (h : NumD d r) (hq : Rs 3900 q) (hr : Rs 3900 r) : runF P (n + 4) 6 false [.v (ratD q), .v d] m = .ok (.v (ratD (q + r))) m := by
  rw [run_eq hP.f6 rfl]
  have k1 := hq.1.mulOk hr.2 (by omega)
  have k2 := hr.1.mulOk hq.2 (by omega)
  have k3 := hq.2.mulOk hr.2 (by omega)
  have k4 := r_mk hP (n := n + 1) (m := m) (q.num * r.den + r.num * q.den) (q.den * r.den) ((hq.2.mul hr.2).mono (by omega)) (Int.mul_ne_zero (den_nz q) (den_nz r))
  rw [add_div] at k4
  simp [d_Ratiox_addx, entry, fa1 hP.f3 rfl rfl, r_chk hP h]
  simp [ratD, fldW, binW, binD, k1, k2, k3]
  simp [k4, ratD]
theorem r_sub (q : Rat) {d : D} {r : Rat} (h : NumD d r) (hq : Rs 3900 q) (hr : Rs 3900 r) : runF P (n + 4) 7 false [.v (ratD q), .v d] m = .ok (.v (ratD (q - r))) m := by
  rw [run_eq hP.f7 rfl]
  have k1 := hq.1.mulOk hr.2 (by omega)
  have k2 := hr.1.mulOk hq.2 (by omega)
  have k3 := hq.2.mulOk hr.2 (by omega)
  have k4 := r_mk hP (n := n + 1) (m := m) (q.num * r.den - r.num * q.den) (q.den * r.den) ((hq.2.mul hr.2).mono (by omega)) (Int.mul_ne_zero (den_nz q) (den_nz r))
  rw [sub_div] at k4
  simp [d_Ratiox_subx, entry, fa1 hP.f3 rfl rfl, r_chk hP h]
  simp [ratD, fldW, binW, binD, k1, k2, k3]
  simp [k4, ratD]
theorem r_mul (q : Rat) {d : D} {r : Rat} (h : NumD d r) (hq : Rs 3900 q) (hr : Rs 3900 r) : runF P (n + 4) 8 false [.v (ratD q), .v d] m = .ok (.v (ratD (q * r))) m := by
  rw [run_eq hP.f8 rfl]
  have k1 := hq.1.mulOk hr.1 (by omega)
  have k3 := hq.2.mulOk hr.2 (by omega)
  have k4 := r_mk hP (n := n + 1) (m := m) (q.num * r.num) (q.den * r.den) ((hq.2.mul hr.2).mono (by omega)) (Int.mul_ne_zero (den_nz q) (den_nz r))
  rw [mul_div] at k4
  simp [d_Ratiox_mulx, entry, fa1 hP.f3 rfl rfl, r_chk hP h]
  simp [ratD, fldW, binW, binD, k1, k3]
  simp [k4, ratD]
theorem r_neg (q : Rat) (hq : Rs 3900 q) : runF P (n + 3) 9 false [.v (ratD q)] m = .ok (.v (ratD (-q))) m := by
  rw [run_eq hP.f9 rfl]
  have k4 := r_mk hP (n := n) (m := m) (-q.num) q.den (hq.2.mono (by omega)) (den_nz q)
  rw [← Rat.neg_divInt, Rat.num_divInt_den] at k4
  simp [d_Ratiox_negx, entry]
  simp [ratD, fldW, negW]
  simp [k4, ratD]
theorem rat_eq (q r : Rat) : decide (q = r) = (decide (r.num = q.num) && decide ((r.den : Int) = q.den)) := by
  by_cases h : q = r
  · subst h; simp
  · rw [decide_eq_false h]
    by_cases h1 : r.num = q.num
    · have h2 : (r.den : Int) ≠ q.den := fun e => h (Rat.ext h1.symm (by omega))
      simp [h2]
    · simp [h1]
theorem r_eq (q : Rat) {d : D} {r : Rat} (h : NumD d r) : runF P (n + 3) 10 false [.v (ratD q), .v d] m = .ok (.v (.bl (decide (q = r)))) m := by
  rw [run_eq hP.f10 rfl]
  simp [d_Ratiox_eqx, entry, fa1 hP.f2 rfl rfl, r_parts hP h]
  simp [ratD, fldW, cmpW, cmpD, eqD, plain, plainL, eqB, eqBs, rat_eq hP]
  rfl
theorem r_eq_odd (q : Rat) (d : D) (hd : odd d = true) : runF P (n + 3) 10 false [.v (ratD q), .v d] m = .ok (.v (.bl false)) m := by
  rw [run_eq hP.f10 rfl]
  simp [d_Ratiox_eqx, entry, fa1 hP.f2 rfl rfl, r_parts_odd hP d hd]
  simp [ratD, fldW, cmpW, cmpD, eqD, plain, plainL, eqB, eqBs]
theorem r_lt (q : Rat) {d : D} {r : Rat} (h : NumD d r) (hq : Rs 3900 q) (hr : Rs 3900 r) : runF P (n + 4) 11 false [.v (ratD q), .v d] m = .ok (.v (.bl (decide (q < r)))) m := by
  rw [run_eq hP.f11 rfl]
  have k1 := hq.1.mulOk hr.2 (by omega)
  have k2 := hr.1.mulOk hq.2 (by omega)
  have e : decide (q < r) = decide (q.num * r.den < r.num * q.den) := by simp only [Rat.lt_iff]
  simp [d_Ratiox_ltx, entry, fa1 hP.f3 rfl rfl, r_chk hP h]
  simp [ratD, fldW, binW, binD, k1, k2, cmpW, cmpD, e]
theorem r_le (q : Rat) {d : D} {r : Rat} (h : NumD d r) (hq : Rs 3900 q) (hr : Rs 3900 r) : runF P (n + 4) 12 false [.v (ratD q), .v d] m = .ok (.v (.bl (decide (q ≤ r)))) m := by
  rw [run_eq hP.f12 rfl]
  have k1 := hq.1.mulOk hr.2 (by omega)
  have k2 := hr.1.mulOk hq.2 (by omega)
  have e : decide (q ≤ r) = decide (q.num * r.den ≤ r.num * q.den) := by simp only [Rat.le_iff]
  simp [d_Ratiox_lex, entry, fa1 hP.f3 rfl rfl, r_chk hP h]
  simp [ratD, fldW, binW, binD, k1, k2, cmpW, cmpD, e]
end
end MP
end
section
set_option  maxHeartbeats  4000000
namespace MP
theorem opCall2 {P : Prog} {k j f : Nat} {d : FnDef} {m : M} {a b : W} (ho : P.op 0 j = some f) (hf : P.fn f = some d) (hd : d.dfl = []) (hl : d.ps.length = 2) : opCall ⟨P, runF P k⟩ 0 j [a, b] m = runF P k f false [a, b] m := by
  unfold opCall
  simp only [ho, fa2 hf hd hl]
theorem opCall1 {P : Prog} {k j f : Nat} {d : FnDef} {m : M} {a : W} (ho : P.op 0 j = some f) (hf : P.fn f = some d) (hd : d.dfl = []) (hl : d.ps.length = 1) : opCall ⟨P, runF P k⟩ 0 j [a] m = runF P k f false [a] m := by
  unfold opCall
  simp only [ho, fa1 hf hd hl]
theorem binW_rat {P : Prog} {k : Nat} {op : BOp} {q : Rat} {d : D} {r : Rat} {m : M} (h : NumD d r) : binW ⟨P, runF P k⟩ op (.v (ratD q)) (.v d) m = opCall ⟨P, runF P k⟩ 0 op.code [.v (ratD q), .v d] m := by
  cases h <;> simp [binW, ratD]
theorem rhs_num {d : D} {r : Rat} {m : M} (h : NumD d r) : rhsOk 0 m (.v d) = true := by
  cases h <;> simp [rhsOk, ratD]
theorem rhs_odd {d : D} {m : M} (h : odd d = true) : rhsOk 0 m (.v d) = true := by
  cases d <;> first | rfl | cases h
section
variable {P : Prog} (hP : RatP P) {n : Nat} {m : M} (q : Rat) {d : D} {r : Rat}
include hP
theorem b_add (h : NumD d r) (hq : Rs 3900 q) (hr : Rs 3900 r) : binW ⟨P, runF P (n + 4)⟩ .add (.v (ratD q)) (.v d) m = .ok (.v (ratD (q + r))) m := by
  rw [binW_rat h, show BOp.add.code = 0 from rfl, opCall2 hP.o0 hP.f6 rfl rfl, r_add hP q h hq hr]
theorem b_sub (h : NumD d r) (hq : Rs 3900 q) (hr : Rs 3900 r) : binW ⟨P, runF P (n + 4)⟩ .sub (.v (ratD q)) (.v d) m = .ok (.v (ratD (q - r))) m := by
  rw [binW_rat h, show BOp.sub.code = 1 from rfl, opCall2 hP.o1 hP.f7 rfl rfl, r_sub hP q h hq hr]
theorem b_mul (h : NumD d r) (hq : Rs 3900 q) (hr : Rs 3900 r) : binW ⟨P, runF P (n + 4)⟩ .mul (.v (ratD q)) (.v d) m = .ok (.v (ratD (q * r))) m := by
  rw [binW_rat h, show BOp.mul.code = 2 from rfl, opCall2 hP.o2 hP.f8 rfl rfl, r_mul hP q h hq hr]
theorem b_eq (h : NumD d r) : cmpW ⟨P, runF P (n + 3)⟩ .eq (.v (ratD q)) (.v d) m = .ok (.v (.bl (decide (q = r)))) m := by
  show (if rhsOk 0 m (.v d) then _ else _) = _
  rw [if_pos (rhs_num h)]
  show opCall _ 0 10 [.v (ratD q), .v d] m = _
  rw [opCall2 hP.o10 hP.f10 rfl rfl, r_eq hP q h]
theorem b_ne (h : NumD d r) : cmpW ⟨P, runF P (n + 3)⟩ .ne (.v (ratD q)) (.v d) m = .ok (.v (.bl (!decide (q = r)))) m := by
  show (if rhsOk 0 m (.v d) then _ else _) = _
  rw [if_pos (rhs_num h)]
  show notW (opCall _ 0 10 [.v (ratD q), .v d] m) = _
  rw [opCall2 hP.o10 hP.f10 rfl rfl, r_eq hP q h]
  rfl
theorem b_eq_odd (h : odd d = true) : cmpW ⟨P, runF P (n + 3)⟩ .eq (.v (ratD q)) (.v d) m = .ok (.v (.bl false)) m := by
  show (if rhsOk 0 m (.v d) then _ else _) = _
  rw [if_pos (rhs_odd h)]
  show opCall _ 0 10 [.v (ratD q), .v d] m = _
  rw [opCall2 hP.o10 hP.f10 rfl rfl, r_eq_odd hP q d h]
theorem b_lt (h : NumD d r) (hq : Rs 3900 q) (hr : Rs 3900 r) : cmpW ⟨P, runF P (n + 4)⟩ .lt (.v (ratD q)) (.v d) m = .ok (.v (.bl (decide (q < r)))) m := by
  show (if rhsOk 0 m (.v d) then _ else _) = _
  rw [if_pos (rhs_num h)]
  show opCall _ 0 11 [.v (ratD q), .v d] m = _
  rw [opCall2 hP.o11 hP.f11 rfl rfl, r_lt hP q h hq hr]
theorem b_le (h : NumD d r) (hq : Rs 3900 q) (hr : Rs 3900 r) : cmpW ⟨P, runF P (n + 4)⟩ .le (.v (ratD q)) (.v d) m = .ok (.v (.bl (decide (q ≤ r)))) m := by
  show (if rhsOk 0 m (.v d) then _ else _) = _
  rw [if_pos (rhs_num h)]
  show opCall _ 0 12 [.v (ratD q), .v d] m = _
  rw [opCall2 hP.o12 hP.f12 rfl rfl, r_le hP q h hq hr]
theorem b_neg (hq : Rs 3900 q) : negW ⟨P, runF P (n + 3)⟩ (.v (ratD q)) m = .ok (.v (ratD (-q))) m := by
  show opCall _ 0 30 [.v (ratD q)] m = _
  rw [opCall1 hP.o30 hP.f9 rfl rfl, r_neg hP q hq]
theorem r_over (h13 : P.fn 13 = some d_Ratio_over) (h : NumD d r) (hz : r ≠ 0) (hq : Rs 3900 q) (hr : Rs 3900 r) : runF P (n + 4) 13 false [.v (ratD q), .v d] m = .ok (.v (ratD (q / r))) m := by
  rw [run_eq h13 rfl]
  have k1 := hq.1.mulOk hr.2 (by omega)
  have k3 := hq.2.mulOk hr.1 (by omega)
  have k4 := r_mk hP (n := n + 1) (m := m) (q.num * r.den) (q.den * r.num) ((hq.2.mul hr.1).mono (by omega)) (Int.mul_ne_zero (den_nz q) (num_nz hz))
  rw [over_div q r hz] at k4
  simp [d_Ratio_over, entry, fa1 hP.f3 rfl rfl, r_chk hP h]
  simp [ratD, fldW, binW, binD, k1, k3]
  simp [k4, ratD]
theorem r_over0 (h13 : P.fn 13 = some d_Ratio_over) (h : NumD d 0) (hq : Rs 3900 q) : runF P (n + 4) 13 false [.v (ratD q), .v d] m = .exc 11 [] m := by
  rw [run_eq h13 rfl]
  have z1 : (0 : Rat).num = 0 := rfl
  have z2 : (0 : Rat).den = 1 := rfl
  have s0 : Sm 1 0 := by unfold Sm; decide
  have s1 : Sm 1 1 := by unfold Sm; decide
  have k1 := hq.1.mulOk s1 (by omega)
  have k3 := hq.2.mulOk s0 (by omega)
  have k4 := r_mk0 hP (n := n + 2) (m := m) q.num
  simp [d_Ratio_over, entry, fa1 hP.f3 rfl rfl, r_chk hP h, z1, z2]
  simp [ratD, fldW, binW, binD, k1, k3]
  simp [k4]
theorem r_as (h16 : P.fn 16 = some d_as_ratio) (h : NumD d r) (hr : Rs 3900 r) : runF P (n + 4) 16 false [.v d] m = .ok (.v (ratD r)) m := by
  rw [run_eq h16 rfl]
  have k4 := r_mk hP (n := n + 1) (m := m) r.num r.den (hr.2.mono (by omega)) (den_nz r)
  rw [Rat.num_divInt_den] at k4
  simp [d_as_ratio, entry, fa1 hP.f3 rfl rfl, r_chk hP h, k4]
theorem r_as_odd (h16 : P.fn 16 = some d_as_ratio) (h : odd d = true) : runF P (n + 4) 16 false [.v d] m = .exc 12 [d] m := by
  rw [run_eq h16 rfl]
  simp [d_as_ratio, entry, fa1 hP.f3 rfl rfl, r_chk_odd hP d h]
variable {d1 d2 : D} {r1 r2 : Rat}
theorem r_lesser (h16 : P.fn 16 = some d_as_ratio) (h17 : P.fn 17 = some d_lesser) (h1 : NumD d1 r1) (h2 : NumD d2 r2) (k1 : Rs 3900 r1) (k2 : Rs 3900 r2) : runF P (n + 5) 17 false [.v d1, .v d2] m = .ok (.v (ratD (if r1 < r2 then r1 else r2))) m := by
  rw [run_eq h17 rfl]
  simp [d_lesser, entry, fa1 h16 rfl rfl, r_as hP h16 h1 k1, r_as hP h16 h2 k2, b_lt hP r1 h2 k1 k2]
  by_cases h : r1 < r2 <;> simp [h]
theorem r_greater (h16 : P.fn 16 = some d_as_ratio) (h18 : P.fn 18 = some d_greater) (h1 : NumD d1 r1) (h2 : NumD d2 r2) (k1 : Rs 3900 r1) (k2 : Rs 3900 r2) : runF P (n + 5) 18 false [.v d1, .v d2] m = .ok (.v (ratD (if r1 < r2 then r2 else r1))) m := by
  rw [run_eq h18 rfl]
  simp [d_greater, entry, fa1 h16 rfl rfl, r_as hP h16 h1 k1, r_as hP h16 h2 k2, b_lt hP r1 h2 k1 k2]
  by_cases h : r1 < r2 <;> simp [h]
end
end MP
end
section
set_option  maxHeartbeats  4000000
namespace MP
@[simp] theorem lockO_nil (m : M) (f : M → O) : lockO [] m f = f m := rfl
@[simp] theorem lockO_v (d : D) (m : M) (f : M → O) : lockO [.v d] m f = f m := by
  unfold lockO
  simp only [lockO_nil]
  show (match f m with
    | .nx ρ m1 => _
    | .rt x m1 => _
    | .exc c fs ρ m1 => _
    | .bad => _) = _
  cases f m <;> rfl
/-- numbers as they are passed -/
inductive NumL : List D → List Rat → Prop
  | nil : NumL [] []
  | cons {d : D} {r : Rat} {ds : List D} {rs : List Rat} (h : NumD d r) (t : NumL ds rs) : NumL (d :: ds) (r :: rs)
theorem total_go (body : List W → M → O) (a : W) (m : M) (hb : ∀ acc d r, NumD d r → Rs 3900 acc → Rs 3900 r → body [a, .v (ratD acc), .v d] m = .nx [a, .v (ratD (acc + r)), .v d] m) {k : Nat} :
    ∀ {ds : List D} {rs : List Rat}, NumL ds rs → ∀ (acc : Rat) (x : W) (j : Nat), Rs j acc → (∀ r ∈ rs, Rs k r) → j + rs.length * (k + 1) ≤ 3900 → k ≤ 3900 → ∃ x', forGo (.n 2) body ds [a, .v (ratD acc), x] m = .nx [a, .v (ratD (rs.foldl (· + ·) acc)), x'] m
  | _, _, .nil, acc, x, j, hj, hr, hl, hk => ⟨x, rfl⟩
  | _, _, .cons (d := d) (r := r) (ds := ds) (rs := rs) h t, acc, x, j, hj, hr, hl, hk => by
    rw [List.length_cons] at hl
    have e1 : (rs.length + 1) * (k + 1) = rs.length * (k + 1) + (k + 1) := by rw [Nat.add_mul, Nat.one_mul]
    have hrr := hr r List.mem_cons_self
    obtain ⟨x', h1⟩ := total_go body a m hb t (acc + r) (.v d) (j + k + 1) (hj.add hrr) (fun r hr' => hr r (List.mem_cons_of_mem _ hr')) (by omega) hk
    refine ⟨x', ?_⟩
    rw [forGo]
    show (body [a, .v (ratD acc), .v d] m).seq _ = _
    rw [hb acc d r h (hj.mono (by omega)) (hrr.mono hk)]
    exact h1
theorem pow_go (body : List W → M → O) (a b : W) (m : M) (q : Rat) {k : Nat} (hq : Rs k q) (hk : k ≤ 3900) (hb : ∀ acc i, Rs 3900 acc → body [a, b, .v (ratD acc), .v (.int i)] m = .nx [a, b, .v (ratD (acc * q)), .v (.int i)] m) :
    ∀ (l : List Int) (acc : Rat) (x : W) (j : Nat), Rs j acc → j + l.length * k ≤ 3900 → ∃ x', forGo (.n 3) body (l.map D.int) [a, b, .v (ratD acc), x] m = .nx [a, b, .v (ratD (acc * q ^ l.length)), x'] m
  | [], acc, x, j, hj, hl => ⟨x, by rw [List.length_nil, Rat.pow_zero, Rat.mul_one]; rfl⟩
  | i :: l, acc, x, j, hj, hl => by
    rw [List.length_cons] at hl
    have e1 : (l.length + 1) * k = l.length * k + k := by rw [Nat.add_mul, Nat.one_mul]
    obtain ⟨x', h1⟩ := pow_go body a b m q hq hk hb l (acc * q) (.v (.int i)) (j + k) (hj.mul hq) (by omega)
    refine ⟨x', ?_⟩
    rw [List.map_cons, forGo]
    show (body [a, b, .v (ratD acc), .v (.int i)] m).seq _ = _
    rw [hb acc i (hj.mono (by omega))]
    have e2 : acc * q ^ (i :: l).length = acc * q * q ^ l.length := by
      rw [List.length_cons, Rat.pow_succ]
      grind
    rw [e2]
    exact h1
theorem range_map (e : Nat) : rangeD 0 (e : Int) = ((List.range e).map fun (k : Nat) => ((0 : Int) + (k : Int))).map D.int := by
  unfold rangeD
  rw [show ((e : Int) - 0).toNat = e by omega, List.map_map]
  rfl
theorem Rs_zero : Rs 10 0 := ⟨(show (0 : Nat) < 2 ^ 10 by decide), (show (1 : Nat) < 2 ^ 10 by decide)⟩
theorem Rs_one : Rs 10 1 := ⟨(show (1 : Nat) < 2 ^ 10 by decide), (show (1 : Nat) < 2 ^ 10 by decide)⟩
theorem small_nat {e : Nat} (he : e ≤ 1000) : small (e : Int) = true := Nat.ble_eq_true_of_le (Nat.le_trans he (by decide))
theorem one_cast : ((1 : Int) : Rat) = 1 := rfl
theorem zero_cast : ((0 : Int) : Rat) = 0 := rfl
section
variable {P : Prog} (hP : RatP P) {n : Nat} {m : M}
include hP
theorem r_total (h19 : P.fn 19 = some d_total) {ds : List D} {rs : List Rat} (h : NumL ds rs) {k : Nat} (hr : ∀ r ∈ rs, Rs k r) (hl : 10 + rs.length * (k + 1) ≤ 3900) (hk : k ≤ 3900) (w : D) (hw : w = .lst ds ∨ w = .tup ds) : runF P (n + 5) 19 false [.v w] m = .ok (.v (ratD (rs.foldl (· + ·) 0))) m := by
  rw [run_eq h19 rfl]
  have k0 := r_mk1 hP (n := n + 2) (m := m) 0
  rw [zero_cast] at k0
  have hi : itemsD w = some ds := by rcases hw with rfl | rfl <;> rfl
  have hc : canIt m (.v w) = true := rfl
  obtain ⟨x', h1⟩ := total_go (fun ρ m => evSs ⟨P, runF P (n + 4)⟩ false (.cons (.asg (.n 1) (.bin .add (.var 1) (.var 2))) .nil) ρ m) (.v w) m (fun acc d r hd ha hr => by
    simp [b_add hP acc hd ha hr]) h 0 .u 10 Rs_zero hr hl hk
  simp only [d_total, entry]
  simp only [List.length, List.replicate, z_for]
  simp [k0]
  simp [z_for, hi, hc]
  simp at h1
  simp [h1]
theorem r_raised (h20 : P.fn 20 = some d_raised) {d : D} {q : Rat} (h : NumD d q) (e : Nat) {k : Nat} (hq : Rs k q) (hl : 10 + e * k ≤ 3900) (hk : k ≤ 3900) (he : e ≤ 1000) : runF P (n + 5) 20 false [.v d, .v (.int e)] m = .ok (.v (ratD (q ^ e))) m := by
  rw [run_eq h20 rfl]
  have k0 := r_mk1 hP (n := n + 2) (m := m) 1
  rw [one_cast] at k0
  obtain ⟨x', h1⟩ := pow_go (fun ρ m => evSs ⟨P, runF P (n + 4)⟩ false (.cons (.asg (.n 2) (.bin .mul (.var 2) (.var 0))) .nil) ρ m) (.v d) (.v (.int e)) m q hq hk (fun acc i ha => by
    simp [b_mul hP acc h ha (hq.mono hk)]) ((List.range e).map fun (k : Nat) => ((0 : Int) + (k : Int))) 1 .u 10 Rs_one (by rw [List.length_map, List.length_range]; exact hl)
  rw [List.length_map, List.length_range, Rat.one_mul, ← range_map] at h1
  have hs := small_nat he
  have en : entry d_raised [.v d, .v (.int e)] = [.v d, .v (.int e), .u, .u] := rfl
  rw [en]
  simp only [d_raised]
  simp [k0]
  simp [z_for, hs]
  simp at h1
  simp [h1]
end
end MP
end
section
set_option  maxHeartbeats  4000000
/-! Draws. -/
namespace MP
def d__law_cell : FnDef := ⟨("_law_cell", none), ["_law_script", "_law_k"], [], ["_law_script", "_law_k"],
  (.cons (.ret (.ite (.cmp .lt (.var 1) (.bf .len (.cons (.var 0) .nil))) (.idx (.var 0) (.var 1)) (.int 0))) .nil)⟩
def d__law_box : FnDef := ⟨("_law_box", none), ["_law_script", "_law_k"], [], ["_law_script", "_law_k"],
  (.cons (.ret (.nw false (.lst (.cons (.bf .abs (.cons (.bf .int (.cons (.call 200 false (.cons (.var 0) (.cons (.var 1) .nil))) .nil)) .nil)) (.cons (.int 0) (.cons (.bin .add (.bin .mul (.int 40503) (.var 1)) (.int 911)) .nil)))))) .nil)⟩
def d__law_take : FnDef := ⟨("_law_take", none), ["_law_box_here", "_law_many"], [], ["_law_box_here", "_law_many", "_law_mixed", "_law_digit"],
  (.cons (.ite (.cmp .ge (.idx (.var 0) (.int 0)) (.bin .pow (.int 10) (.int 18))) (.cons (.asg (.n 3) (.bin .mod (.bf .int (.cons (.idx (.var 0) (.int 0)) .nil)) (.var 1))) (.cons (.seti (.var 0) (.int 0) (.bin .fdiv (.idx (.var 0) (.int 0)) (.var 1))) (.cons (.ret (.var 3)) .nil))) .nil) (.cons (.seti (.var 0) (.int 1) (.bin .add (.idx (.var 0) (.int 1)) (.int 1))) (.cons (.asg (.n 2) (.bin .mod (.bin .pow (.bf .int (.cons (.bin .add (.bin .add (.bin .mul (.bin .add (.idx (.var 0) (.int 0)) (.int 7)) (.int 69069)) (.bin .mul (.idx (.var 0) (.int 1)) (.int 40692))) (.idx (.var 0) (.int 2))) .nil)) (.int 3)) (.int 2147483647))) (.cons (.asg (.n 2) (.bin .mod (.bin .pow (.bf .int (.cons (.bin .add (.var 2) (.bin .mul (.idx (.var 0) (.int 1)) (.int 17389))) .nil)) (.int 3)) (.int 2147483399))) (.cons (.ret (.bin .mod (.bf .int (.cons (.bin .fdiv (.var 2) (.int 64)) .nil)) (.var 1))) .nil)))))⟩
theorem vw_c {m : M} {j : Nat} {k : Bool} {xs : List D} (h : m[j]? = some (.lst k xs)) : vw m (.c j) = some (.lst xs) := by
  unfold vw
  simp only [h]
theorem vw_scr {m : M} {j : Nat} {xs : List D} (h : m[j]? = some (.scr xs)) : vw m (.c j) = some (.lst xs) := by
  unfold vw
  simp only [h]
theorem set_get {m : M} {j : Nat} {c c' : C} (h : m[j]? = some c) : (m.set j c')[j]? = some c' := by
  rw [List.getElem?_set_self (List.getElem?_eq_some_iff.mp h).1]
@[simp] theorem take_set (m : M) (j : Nat) (c : C) : (List.set m j c).take (List.length m) = List.set m j c := by
  rw [List.take_of_length_le (by rw [List.length_set]; exact Nat.le_refl _)]
def cellI (ns : List Int) (k : Nat) : Int := (ns[k]?).getD 0
section
variable {P : Prog} {n : Nat} {m : M}
theorem r_cell (f : P.fn 200 = some d__law_cell) {ns : List Int} (hm : m[0]? = some (.scr (ns.map D.int))) (k : Nat) : runF P (n + 1) 200 false [.c 0, .v (.int k)] m = .ok (.v (.int (cellI ns k))) m := by
  rw [run_eq f rfl]
  have hv := vw_scr hm
  simp only [d__law_cell, entry]
  unfold cellI
  by_cases h : k < ns.length
  · have hd : (ns.map D.int)[k]? = some (.int ns[k]) := by simp [h]
    simp [bf_len hv, ix_l hv hd, h]
  · have hn : ns[k]? = none := by simp; omega
    simp [bf_len hv, h, hn]
theorem r_box (f : P.fn 200 = some d__law_cell) (f1 : P.fn 201 = some d__law_box) {ns : List Int} (hm : m[0]? = some (.scr (ns.map D.int))) (k : Nat) (hk : k ≤ 1000) : runF P (n + 2) 201 true [.c 0, .v (.int k)] m = .ok (.c m.length) (m ++ [.lst false [.int (if cellI ns k < 0 then -cellI ns k else cellI ns k), .int 0, .int (40503 * k + 911)]]) := by
  rw [run_eq f1 rfl]
  have hmul : mulOk 40503 (k : Int) = true := Sm.mulOk (j := 16) (k := 10) (show (40503 : Nat) < 2 ^ 16 by decide) (show ((k : Int)).natAbs < 2 ^ 10 by omega) (by omega)
  simp only [d__law_box, entry]
  simp [evRet, fa2 f rfl rfl, r_cell f hm, bw_mul hmul, sizeOk, endR, backW]
theorem r_take (f : P.fn 202 = some d__law_take) {j : Nat} {a c s : Int} (hj : m[j]? = some (.lst false [.int a, .int c, .int s])) (ha : 0 ≤ a) (hc : 0 ≤ c) (hc2 : c < 2 ^ 20) (hs : 0 ≤ s) (hs2 : s < 2 ^ 40) (many : Int) (hm : 0 < many) (hm2 : Sm 2000 many) :
    ∃ r a' c' : Int, 0 ≤ r ∧ r < many ∧ 0 ≤ a' ∧ c ≤ c' ∧ c' ≤ c + 1 ∧ runF P (n + 1) 202 false [.c j, .v (.int many)] m = .ok (.v (.int r)) (m.set j (.lst false [.int a', .int c', .int s])) := by
  have hv := vw_c hj
  have hmz : many ≠ 0 := by omega
  have hd := hm2.divOk (by omega) hmz
  have e18 : (10 : Int).natAbs.log2 ≤ 10000 := by decide +kernel
  have p18 : (10 : Int) ^ (18 : Int).toNat = 1000000000000000000 := by decide
  have hp : ∀ m, binW ⟨P, runF P n⟩ .pow (.v (.int 10)) (.v (.int 18)) m = .ok (.v (.int 1000000000000000000)) m := fun m => by
    rw [bw_pow (by decide) (by decide) e18, p18]
  have i0 : idxW (.c j) (.v (.int 0)) m = .ok (.v (.int a)) m := ix_l (i := 0) hv rfl
  have i1 : idxW (.c j) (.v (.int 1)) m = .ok (.v (.int c)) m := ix_l (i := 1) hv rfl
  have en : entry d__law_take [.c j, .v (.int many)] = [.c j, .v (.int many), .u, .u] := rfl
  by_cases hb : (1000000000000000000 : Int) ≤ a
  · refine ⟨a.fmod many, a.fdiv many, c, Int.fmod_nonneg_of_pos _ hm, Int.fmod_lt_of_pos _ hm, ?_, by omega, by omega, ?_⟩
    · rw [Int.fdiv_eq_ediv_of_nonneg _ (by omega)]
      exact Int.ediv_nonneg ha (by omega)
    · rw [run_eq f rfl, en]
      simp only [d__law_take]
      simp [i0, hp, hb, bw_mod hmz, bw_fdiv hd, hj, setIdx, place]
  · have hlt : a < 1000000000000000000 := by omega
    have k1 : mulOk (a + 7) 69069 = true := Sm.mulOk (j := 62) (k := 20) (show (a + 7).natAbs < 2 ^ 62 by omega) (show (69069 : Nat) < 2 ^ 20 by decide) (by omega)
    have k2 : mulOk (c + 1) 40692 = true := Sm.mulOk (j := 22) (k := 20) (show (c + 1).natAbs < 2 ^ 22 by omega) (show (40692 : Nat) < 2 ^ 20 by decide) (by omega)
    have k3 : mulOk (c + 1) 17389 = true := Sm.mulOk (j := 22) (k := 20) (show (c + 1).natAbs < 2 ^ 22 by omega) (show (17389 : Nat) < 2 ^ 20 by decide) (by omega)
    have k4 : ((a + 7) * 69069 + (c + 1) * 40692 + s).natAbs.log2 ≤ 10000 := Nat.le_trans (Sm.log (j := 100) (show ((a + 7) * 69069 + (c + 1) * 40692 + s).natAbs < 2 ^ 100 by omega)) (by omega)
    generalize hx : (((a + 7) * 69069 + (c + 1) * 40692 + s) ^ 3).fmod 2147483647 = x
    have hx0 : 0 ≤ x := by rw [← hx]; exact Int.fmod_nonneg_of_pos _ (by decide)
    have hx1 : x < 2147483647 := by rw [← hx]; exact Int.fmod_lt_of_pos _ (by decide)
    have k5 : (x + (c + 1) * 17389).natAbs.log2 ≤ 10000 := Nat.le_trans (Sm.log (j := 100) (show (x + (c + 1) * 17389).natAbs < 2 ^ 100 by omega)) (by omega)
    generalize hy : ((x + (c + 1) * 17389) ^ 3).fmod 2147483399 = y
    have k6 : divOk 64 = true := by decide +kernel
    have hj2 : (m.set j (.lst false [.int a, .int (c + 1), .int s]))[j]? = some (.lst false [.int a, .int (c + 1), .int s]) := set_get hj
    have hv2 := vw_c hj2
    have j0 : idxW (.c j) (.v (.int 0)) (m.set j (.lst false [.int a, .int (c + 1), .int s])) = .ok (.v (.int a)) (m.set j (.lst false [.int a, .int (c + 1), .int s])) := ix_l (i := 0) hv2 rfl
    have j1 : idxW (.c j) (.v (.int 1)) (m.set j (.lst false [.int a, .int (c + 1), .int s])) = .ok (.v (.int (c + 1))) (m.set j (.lst false [.int a, .int (c + 1), .int s])) := ix_l (i := 1) hv2 rfl
    have j2 : idxW (.c j) (.v (.int 2)) (m.set j (.lst false [.int a, .int (c + 1), .int s])) = .ok (.v (.int s)) (m.set j (.lst false [.int a, .int (c + 1), .int s])) := ix_l (i := 2) hv2 rfl
    have q1 : ∀ m, binW ⟨P, runF P n⟩ .pow (.v (.int ((a + 7) * 69069 + (c + 1) * 40692 + s))) (.v (.int 3)) m = .ok (.v (.int (((a + 7) * 69069 + (c + 1) * 40692 + s) ^ 3))) m := fun m => bw_pow (by decide) (by decide) k4
    have q2 : ∀ m, binW ⟨P, runF P n⟩ .mod (.v (.int (((a + 7) * 69069 + (c + 1) * 40692 + s) ^ 3))) (.v (.int 2147483647)) m = .ok (.v (.int x)) m := fun m => by rw [bw_mod (by decide), hx]
    have q3 : ∀ m, binW ⟨P, runF P n⟩ .pow (.v (.int (x + (c + 1) * 17389))) (.v (.int 3)) m = .ok (.v (.int ((x + (c + 1) * 17389) ^ 3))) m := fun m => bw_pow (by decide) (by decide) k5
    have q4 : ∀ m, binW ⟨P, runF P n⟩ .mod (.v (.int ((x + (c + 1) * 17389) ^ 3))) (.v (.int 2147483399)) m = .ok (.v (.int y)) m := fun m => by rw [bw_mod (by decide), hy]
    refine ⟨(y.fdiv 64).fmod many, a, c + 1, Int.fmod_nonneg_of_pos _ hm, Int.fmod_lt_of_pos _ hm, ha, by omega, by omega, ?_⟩
    rw [run_eq f rfl, en]
    simp only [d__law_take]
    simp [i0, i1, hp, hb, hj, setIdx, place, j0, j1, j2, bw_mul k1, bw_mul k2, bw_mul k3, q1, q2, q3, q4, bw_fdiv k6, bw_mod hmz]
end
end MP
end
section
set_option  maxHeartbeats  4000000
namespace MP.K02
open MP
def d_law : FnDef := ⟨("law", none), ["_law_script"], [], ["_law_script", "_law_k", "_law_box_here", "_law_first", "_law_second", "_law_x", "_law_y", "_law_one", "_law_other", "_law_sums", "_law_n", "_law_odd"],
  (.cons (.for_ (.n 1) (.range1 (.bf .max (.cons (.int 1) (.cons (.bf .min (.cons (.int 2) (.cons (.bf .len (.cons (.var 0) .nil)) .nil))) .nil)))) (.cons (.asg (.n 2) (.call 201 true (.cons (.var 0) (.cons (.var 1) .nil)))) (.cons (.asg (.n 3) (.call 208 false (.cons (.var 2) .nil))) (.cons (.asg (.n 4) (.ite (.cmp .eq (.call 202 false (.cons (.var 2) (.cons (.int 5) .nil))) (.int 0)) (.nw false (.lst (.cons (.bin .mul (.idx (.var 3) (.int 0)) (.int 3)) (.cons (.bin .mul (.idx (.var 3) (.int 1)) (.int 3)) .nil)))) (.call 208 false (.cons (.var 2) .nil)))) (.cons (.asg (.n 5) (.call 203 false (.cons (.idx (.var 3) (.int 0)) (.cons (.idx (.var 3) (.int 1)) .nil)))) (.cons (.asg (.n 6) (.call 203 false (.cons (.idx (.var 4) (.int 0)) (.cons (.idx (.var 4) (.int 1)) .nil)))) (.cons (.asg (.n 7) (.make 0 false (.cons (.idx (.var 3) (.int 0)) (.cons (.idx (.var 3) (.int 1)) .nil)))) (.cons (.asg (.n 8) (.makek 0 .nil ["bottom", "top"] (.cons (.idx (.var 4) (.int 1)) (.cons (.idx (.var 4) (.int 0)) .nil)))) (.cons (.ite (.or (.not (.call 209 false (.cons (.var 7) (.cons (.var 5) .nil)))) (.or (.not (.call 209 false (.cons (.var 8) (.cons (.var 6) .nil)))) (.not (.call 209 false (.cons (.neg (.var 7)) (.cons (.call 203 false (.cons (.bin .sub (.int 0) (.idx (.var 5) (.int 0))) (.cons (.idx (.var 5) (.int 1)) .nil))) .nil)))))) (.cons (.ret (.bl false)) .nil) .nil) (.cons (.asg (.n 9) (.nw false (.lst (.cons (.call 209 false (.cons (.bin .add (.var 7) (.var 8)) (.cons (.call 204 false (.cons (.var 5) (.cons (.var 6) .nil))) .nil))) (.cons (.call 209 false (.cons (.bin .sub (.var 7) (.var 8)) (.cons (.call 206 false (.cons (.var 5) (.cons (.var 6) .nil))) .nil))) .nil))))) (.cons (.ite (.or (.cmp .ne (.var 9) (.nw false (.lst (.cons (.bl true) (.cons (.bl true) .nil))))) (.or (.not (.call 209 false (.cons (.bin .mul (.var 7) (.var 8)) (.cons (.call 205 false (.cons (.var 5) (.cons (.var 6) .nil))) .nil)))) (.not (.call 212 false (.cons (.var 7) (.cons (.var 8) (.cons (.var 5) (.cons (.var 6) .nil)))))))) (.cons (.ret (.bl false)) .nil) .nil) (.cons (.ite (.and (.cmp .ne (.idx (.var 6) (.int 0)) (.int 0)) (.not (.call 209 false (.cons (.meth 0 (.var 7) 13 false (.cons (.var 8) .nil)) (.cons (.call 205 false (.cons (.var 5) (.cons (.call 203 false (.cons (.idx (.var 6) (.int 1)) (.cons (.idx (.var 6) (.int 0)) .nil))) .nil))) .nil))))) (.cons (.ret (.bl false)) .nil) .nil) (.cons (.asg (.n 10) (.ite (.cmp .eq (.call 202 false (.cons (.var 2) (.cons (.int 4) .nil))) (.int 0)) (.idx (.var 3) (.int 0)) (.bin .sub (.call 202 false (.cons (.var 2) (.cons (.int 2001) .nil))) (.int 1000)))) (.cons (.asg (.n 9) (.nw false (.lst (.cons (.call 209 false (.cons (.bin .add (.var 7) (.var 10)) (.cons (.call 204 false (.cons (.var 5) (.cons (.tup (.cons (.var 10) (.cons (.int 1) .nil))) .nil))) .nil))) (.cons (.call 209 false (.cons (.bin .sub (.var 7) (.var 10)) (.cons (.call 206 false (.cons (.var 5) (.cons (.tup (.cons (.var 10) (.cons (.int 1) .nil))) .nil))) .nil))) .nil))))) (.cons (.ite (.or (.cmp .ne (.var 9) (.nw false (.lst (.cons (.bl true) (.cons (.bl true) .nil))))) (.or (.not (.call 209 false (.cons (.bin .mul (.var 7) (.var 10)) (.cons (.call 205 false (.cons (.var 5) (.cons (.tup (.cons (.var 10) (.cons (.int 1) .nil))) .nil))) .nil)))) (.not (.call 212 false (.cons (.var 7) (.cons (.var 10) (.cons (.var 5) (.cons (.tup (.cons (.var 10) (.cons (.int 1) .nil))) .nil)))))))) (.cons (.ret (.bl false)) .nil) .nil) (.cons (.ite (.and (.cmp .ne (.var 10) (.int 0)) (.not (.call 209 false (.cons (.methk 0 (.var 7) 13 .nil ["number"] (.cons (.var 10) .nil)) (.cons (.call 205 false (.cons (.var 5) (.cons (.call 203 false (.cons (.int 1) (.cons (.var 10) .nil))) .nil))) .nil))))) (.cons (.ret (.bl false)) .nil) .nil) (.cons (.ite (.or (.not (.call 209 false (.cons (.call 16 false (.cons (.var 7) .nil)) (.cons (.var 5) .nil)))) (.or (.not (.call 209 false (.cons (.callk 16 .nil ["given"] (.cons (.var 10) .nil)) (.cons (.tup (.cons (.var 10) (.cons (.int 1) .nil))) .nil)))) (.not (.call 213 false (.cons (.var 7) (.cons (.var 8) (.cons (.var 5) (.cons (.var 10) .nil)))))))) (.cons (.ret (.bl false)) .nil) .nil) (.cons (.asg (.n 11) (.idx (.nw false (.lst (.cons (.bl true) (.cons (.bl false) (.cons .non (.cons (.str [49]) (.cons (.nw false (.lst (.cons (.int 1) .nil))) (.cons (.tup (.cons (.int 2) (.cons (.int 1) .nil))) (.cons (.nw false (.dict false .nil)) .nil))))))))) (.call 202 false (.cons (.var 2) (.cons (.int 7) .nil))))) (.cons (.ite (.or (.cmp .eq (.make 0 false (.cons (.int 1) .nil)) (.var 11)) (.or (.cmp .eq (.make 0 false (.cons (.int 0) .nil)) (.var 11)) (.or (.not (.call 210 false (.cons (.var 11) .nil))) (.not (.call 211 false (.cons (.var 7) (.cons (.idx (.nw false (.lst (.cons (.int 0) (.cons (.make 0 false (.cons (.int 0) .nil)) .nil)))) (.bin .mod (.var 1) (.int 2))) .nil))))))) (.cons (.ret (.bl false)) .nil) .nil) .nil))))))))))))))))))) (.cons (.ret (.and (.cmp .eq (.fld 0 (.make 0 false (.cons (.int 7) .nil)) 1) (.int 1)) (.cmp .eq (.fld 0 (.make 0 false (.cons (.int 0) (.cons (.neg (.int 5)) .nil))) 1) (.int 1)))) .nil))⟩
def d_Ratiox_negx : FnDef := ⟨("Ratio", some "__neg__"), ["self"], [], ["self"],
  (.cons (.ret (.make 0 false (.cons (.neg (.fld 0 (.var 0) 0)) (.cons (.fld 0 (.var 0) 1) .nil)))) .nil)⟩
def d_Ratiox_lex : FnDef := ⟨("Ratio", some "__le__"), ["self", "other"], [], ["self", "other", "top", "bottom"],
  (.cons (.asg (.t [2, 3]) (.call 3 false (.cons (.var 1) .nil))) (.cons (.ret (.cmp .le (.bin .mul (.fld 0 (.var 0) 0) (.var 3)) (.bin .mul (.var 2) (.fld 0 (.var 0) 1)))) .nil))⟩
def d_Ratiox_ltx : FnDef := ⟨("Ratio", some "__lt__"), ["self", "other"], [], ["self", "other", "top", "bottom"],
  (.cons (.asg (.t [2, 3]) (.call 3 false (.cons (.var 1) .nil))) (.cons (.ret (.cmp .lt (.bin .mul (.fld 0 (.var 0) 0) (.var 3)) (.bin .mul (.var 2) (.fld 0 (.var 0) 1)))) .nil))⟩
def d_Ratiox_eqx : FnDef := ⟨("Ratio", some "__eq__"), ["self", "other"], [], ["self", "other"],
  (.cons (.ret (.cmp .eq (.call 2 false (.cons (.var 1) .nil)) (.tup (.cons (.fld 0 (.var 0) 0) (.cons (.fld 0 (.var 0) 1) .nil))))) .nil)⟩
def d_Ratiox_mulx : FnDef := ⟨("Ratio", some "__mul__"), ["self", "other"], [], ["self", "other", "top", "bottom"],
  (.cons (.asg (.t [2, 3]) (.call 3 false (.cons (.var 1) .nil))) (.cons (.ret (.make 0 false (.cons (.bin .mul (.fld 0 (.var 0) 0) (.var 2)) (.cons (.bin .mul (.fld 0 (.var 0) 1) (.var 3)) .nil)))) .nil))⟩
def d_Ratiox_subx : FnDef := ⟨("Ratio", some "__sub__"), ["self", "other"], [], ["self", "other", "top", "bottom"],
  (.cons (.asg (.t [2, 3]) (.call 3 false (.cons (.var 1) .nil))) (.cons (.ret (.make 0 false (.cons (.bin .sub (.bin .mul (.fld 0 (.var 0) 0) (.var 3)) (.bin .mul (.var 2) (.fld 0 (.var 0) 1))) (.cons (.bin .mul (.fld 0 (.var 0) 1) (.var 3)) .nil)))) .nil))⟩
def d_Ratiox_addx : FnDef := ⟨("Ratio", some "__add__"), ["self", "other"], [], ["self", "other", "top", "bottom"],
  (.cons (.asg (.t [2, 3]) (.call 3 false (.cons (.var 1) .nil))) (.cons (.ret (.make 0 false (.cons (.bin .add (.bin .mul (.fld 0 (.var 0) 0) (.var 3)) (.bin .mul (.var 2) (.fld 0 (.var 0) 1))) (.cons (.bin .mul (.fld 0 (.var 0) 1) (.var 3)) .nil)))) .nil))⟩
def d_Ratiox_initx : FnDef := ⟨("Ratio", some "__init__"), ["self", "top", "bottom"], [.int 1], ["self", "top", "bottom", "divisor"],
  (.cons (.ite (.cmp .eq (.var 2) (.int 0)) (.cons (.raise 11 .nil) .nil) .nil) (.cons (.asg (.n 3) (.ite (.cmp .gt (.var 2) (.int 0)) (.call 1 false (.cons (.var 1) (.cons (.var 2) .nil))) (.neg (.call 1 false (.cons (.var 1) (.cons (.var 2) .nil)))))) (.cons (.setf 0 (.var 0) 0 (.bin .fdiv (.var 1) (.var 3))) (.cons (.setf 0 (.var 0) 1 (.bin .fdiv (.var 2) (.var 3))) .nil))))⟩
def d_divisor_of : FnDef := ⟨("divisor_of", none), ["one", "other"], [], ["one", "other"],
  (.cons (.while_ (.cmp .ne (.var 1) (.int 0)) (.cons (.par [0, 1] (.cons (.var 1) (.cons (.bin .mod (.var 0) (.var 1)) .nil))) .nil)) (.cons (.ret (.bf .abs (.cons (.var 0) .nil))) .nil))⟩
def d_checked : FnDef := ⟨("checked", none), ["given"], [], ["given", "found"],
  (.cons (.asg (.n 1) (.call 2 false (.cons (.var 0) .nil))) (.cons (.ite (.isN (.var 1)) (.cons (.raise 12 (.cons (.var 0) .nil)) .nil) .nil) (.cons (.ret (.var 1)) .nil)))⟩
def d_parts : FnDef := ⟨("parts", none), ["given"], [], ["given"],
  (.cons (.ite (.call 0 false (.cons (.var 0) .nil)) (.cons (.ret (.tup (.cons (.var 0) (.cons (.int 1) .nil)))) .nil) .nil) (.cons (.ret (.ite (.isi (.var 0) [.cls 0]) (.tup (.cons (.fld 0 (.var 0) 0) (.cons (.fld 0 (.var 0) 1) .nil))) .non)) .nil))⟩
def d_is_integer : FnDef := ⟨("is_integer", none), ["value"], [], ["value"],
  (.cons (.ret (.and (.isi (.var 0) [.int]) (.not (.isi (.var 0) [.bool])))) .nil)⟩
def d__law_frac : FnDef := ⟨("_law_frac", none), ["_law_up", "_law_down"], [], ["_law_up", "_law_down", "_law_one", "_law_other"],
  (.cons (.par [2, 3] (.cons (.bf .abs (.cons (.var 0) .nil)) (.cons (.bf .abs (.cons (.var 1) .nil)) .nil))) (.cons (.while_ (.cmp .gt (.var 3) (.int 0)) (.cons (.par [2, 3] (.cons (.var 3) (.cons (.bin .mod (.var 2) (.var 3)) .nil))) .nil)) (.cons (.ite (.cmp .lt (.var 1) (.int 0)) (.cons (.asg (.n 2) (.bin .sub (.int 0) (.var 2))) .nil) .nil) (.cons (.ret (.tup (.cons (.bin .fdiv (.var 0) (.var 2)) (.cons (.bin .fdiv (.var 1) (.var 2)) .nil)))) .nil))))⟩
def d_as_ratio : FnDef := ⟨("as_ratio", none), ["given"], [], ["given", "top", "bottom"],
  (.cons (.asg (.t [1, 2]) (.call 3 false (.cons (.var 0) .nil))) (.cons (.ret (.make 0 false (.cons (.var 1) (.cons (.var 2) .nil)))) .nil))⟩
def d__law_times : FnDef := ⟨("_law_times", none), ["_law_x", "_law_y"], [], ["_law_x", "_law_y"],
  (.cons (.ret (.call 203 false (.cons (.bin .mul (.idx (.var 0) (.int 0)) (.idx (.var 1) (.int 0))) (.cons (.bin .mul (.idx (.var 0) (.int 1)) (.idx (.var 1) (.int 1))) .nil)))) .nil)⟩
def d_Ratio_over : FnDef := ⟨("Ratio", some "over"), ["self", "number"], [], ["self", "number", "top", "bottom"],
  (.cons (.asg (.t [2, 3]) (.call 3 false (.cons (.var 1) .nil))) (.cons (.ret (.make 0 false (.cons (.bin .mul (.fld 0 (.var 0) 0) (.var 3)) (.cons (.bin .mul (.fld 0 (.var 0) 1) (.var 2)) .nil)))) .nil))⟩
def d__law_zero : FnDef := ⟨("_law_zero", none), ["_law_amount", "_law_nought"], [], ["_law_amount", "_law_nought", "_law_caught"],
  (.cons (.asg (.n 2) (.int 0)) (.cons (.try_ (.cons (.expr (.meth 0 (.var 0) 13 false (.cons (.var 1) .nil))) .nil) (.cons 11 none (.cons (.asg (.n 2) (.bin .add (.var 2) (.int 1))) .nil) .nil)) (.cons (.try_ (.cons (.expr (.make 0 false (.cons (.fld 0 (.var 0) 0) (.cons (.int 0) .nil)))) .nil) (.cons 11 none (.cons (.asg (.n 2) (.bin .add (.var 2) (.int 1))) .nil) .nil)) (.cons (.ret (.cmp .eq (.var 2) (.int 2))) .nil))))⟩
def d__law_refused : FnDef := ⟨("_law_refused", none), ["_law_strange"], [], ["_law_strange", "e"],
  (.cons (.try_ (.cons (.expr (.call 16 false (.cons (.var 0) .nil))) .nil) (.cons 12 (some 1) (.cons (.ret (.cmp .eq (.bf .repr (.cons (.efld 1 0 "given") .nil)) (.bf .repr (.cons (.var 0) .nil)))) .nil) .nil)) (.cons (.ret (.bl false)) .nil))⟩
def d__law_chosen : FnDef := ⟨("_law_chosen", none), ["_law_one", "_law_other", "_law_x", "_law_n"], [], ["_law_one", "_law_other", "_law_x", "_law_n", "_law_due", "_law_made", "_law_power", "_law_k", "_law_passed"],
  (.cons (.asg (.n 4) (.nw false (.lst (.cons (.ite (.call 207 false (.cons (.var 2) (.cons (.tup (.cons (.var 3) (.cons (.int 1) .nil))) .nil))) (.var 0) (.make 0 false (.cons (.var 3) .nil))) (.cons (.ite (.call 207 false (.cons (.var 2) (.cons (.tup (.cons (.var 3) (.cons (.int 1) .nil))) .nil))) (.make 0 false (.cons (.var 3) .nil)) (.var 0)) .nil))))) (.cons (.ite (.or (.cmp .ne (.make 0 false (.cons (.var 3) .nil)) (.var 3)) (.or (.cmp .ne (.call 17 false (.cons (.var 0) (.cons (.var 3) .nil))) (.idx (.var 4) (.int 0))) (.cmp .ne (.call 18 false (.cons (.var 3) (.cons (.var 0) .nil))) (.idx (.var 4) (.int 1))))) (.cons (.ret (.bl false)) .nil) .nil) (.cons (.ite (.or (.cmp .ne (.call 17 false (.cons (.var 3) (.cons (.var 0) .nil))) (.idx (.var 4) (.int 0))) (.cmp .ne (.call 18 false (.cons (.var 0) (.cons (.var 3) .nil))) (.idx (.var 4) (.int 1)))) (.cons (.ret (.bl false)) .nil) .nil) (.cons (.asg (.n 5) (.nw false (.lst (.cons (.call 17 false (.cons (.var 3) (.cons (.var 3) .nil))) (.cons (.call 18 false (.cons (.var 3) (.cons (.var 3) .nil))) (.cons (.call 17 false (.cons (.var 3) (.cons (.bin .add (.var 3) (.int 1)) .nil))) (.cons (.call 18 false (.cons (.bin .add (.var 3) (.int 1)) (.cons (.var 3) .nil))) (.cons (.call 19 false (.cons (.nw false (.lst .nil)) .nil)) (.cons (.call 19 false (.cons (.nw false (.lst (.cons (.var 3) (.cons (.int 3) .nil)))) .nil)) .nil))))))))) (.cons (.asg (.n 5) (.bin .add (.var 5) (.nw false (.lst (.cons (.call 20 false (.cons (.var 3) (.cons (.int 2) .nil))) (.cons (.call 20 false (.cons (.var 3) (.cons (.int 0) .nil))) (.cons (.call 17 false (.cons (.var 0) (.cons (.var 3) .nil))) (.cons (.call 18 false (.cons (.var 0) (.cons (.var 3) .nil))) (.cons (.call 17 false (.cons (.var 3) (.cons (.var 0) .nil))) (.cons (.call 18 false (.cons (.var 3) (.cons (.var 0) .nil))) .nil)))))))))) (.cons (.ite (.cmp .ne (.nw false (.comp (.n 2) (.e (.var 5)) true (.not (.isi (.var 2) [.cls 0])) (.var 2))) (.nw false (.lst .nil))) (.cons (.ret (.bl false)) .nil) .nil) (.cons (.ite (.or (.cmp .ne (.call 20 false (.cons (.var 0) (.cons (.int 3) .nil))) (.bin .mul (.bin .mul (.var 0) (.var 0)) (.var 0))) (.or (.cmp .ne (.call 20 false (.cons (.var 3) (.cons (.int 2) .nil))) (.bin .mul (.var 3) (.var 3))) (.cmp .ne (.callk 20 .nil ["exponent", "number"] (.cons (.int 0) (.cons (.var 1) .nil))) (.int 1)))) (.cons (.ret (.bl false)) .nil) .nil) (.cons (.ite (.or (.cmp .ne (.cmp .eq (.call 17 false (.cons (.var 0) (.cons (.var 1) .nil))) (.var 0)) (.cmp .le (.var 0) (.var 1))) (.or (.cmp .ne (.cmp .eq (.call 18 false (.cons (.var 0) (.cons (.var 1) .nil))) (.var 0)) (.cmp .le (.var 1) (.var 0))) (.cmp .eq (.var 0) (.var 2)))) (.cons (.ret (.bl false)) .nil) .nil) (.cons (.asg (.n 6) (.make 0 false (.cons (.int 1) .nil))) (.cons (.for_ (.n 7) (.range1 (.int 9)) (.cons (.ite (.cmp .ne (.call 20 false (.cons (.var 1) (.cons (.var 7) .nil))) (.var 6)) (.cons (.ret (.bl false)) .nil) .nil) (.cons (.asg (.n 6) (.bin .mul (.var 6) (.var 1))) .nil))) (.cons (.asg (.n 8) (.nw false (.lst (.cons (.var 0) (.cons (.var 3) (.cons (.var 1) (.cons (.var 3) .nil))))))) (.cons (.ite (.or (.cmp .ne (.callk 19 .nil ["numbers"] (.cons (.var 8) .nil)) (.bin .add (.bin .add (.var 0) (.var 1)) (.bin .mul (.int 2) (.var 3)))) (.or (.cmp .ne (.bf .len (.cons (.var 8) .nil)) (.int 4)) (.cmp .ne (.call 19 false (.cons (.tup (.cons (.var 0) (.cons (.var 3) .nil))) .nil)) (.bin .add (.var 0) (.var 3))))) (.cons (.ret (.bl false)) .nil) .nil) (.cons (.ret (.cmp .eq (.call 19 false (.cons (.nw false (.lst .nil)) .nil)) (.int 0))) .nil)))))))))))))⟩
def d_greater : FnDef := ⟨("greater", none), ["one", "other"], [], ["one", "other"],
  (.cons (.ret (.ite (.cmp .lt (.call 16 false (.cons (.var 0) .nil)) (.var 1)) (.call 16 false (.cons (.var 1) .nil)) (.call 16 false (.cons (.var 0) .nil)))) .nil)⟩
def d_lesser : FnDef := ⟨("lesser", none), ["one", "other"], [], ["one", "other"],
  (.cons (.ret (.ite (.cmp .lt (.call 16 false (.cons (.var 0) .nil)) (.var 1)) (.call 16 false (.cons (.var 0) .nil)) (.call 16 false (.cons (.var 1) .nil)))) .nil)⟩
def d_total : FnDef := ⟨("total", none), ["numbers"], [], ["numbers", "found", "number"],
  (.cons (.asg (.n 1) (.make 0 false (.cons (.int 0) .nil))) (.cons (.for_ (.n 2) (.e (.var 0)) (.cons (.asg (.n 1) (.bin .add (.var 1) (.var 2))) .nil)) (.cons (.ret (.var 1)) .nil)))⟩
def d_raised : FnDef := ⟨("raised", none), ["number", "exponent"], [], ["number", "exponent", "found", "turn"],
  (.cons (.asg (.n 2) (.make 0 false (.cons (.int 1) .nil))) (.cons (.for_ (.n 3) (.range1 (.var 1)) (.cons (.asg (.n 2) (.bin .mul (.var 2) (.var 0))) .nil)) (.cons (.ret (.var 2)) .nil)))⟩
def d__law_less : FnDef := ⟨("_law_less", none), ["_law_x", "_law_y"], [], ["_law_x", "_law_y"],
  (.cons (.ret (.cmp .lt (.bin .mul (.idx (.var 0) (.int 0)) (.idx (.var 1) (.int 1))) (.bin .mul (.idx (.var 1) (.int 0)) (.idx (.var 0) (.int 1))))) .nil)⟩
def d__law_is : FnDef := ⟨("_law_is", none), ["_law_amount", "_law_due"], [], ["_law_amount", "_law_due"],
  (.cons (.ret (.and (.isi (.var 0) [.cls 0]) (.cmp .eq (.tup (.cons (.fld 0 (.var 0) 0) (.cons (.fld 0 (.var 0) 1) .nil))) (.var 1)))) .nil)⟩
def d__law_compared : FnDef := ⟨("_law_compared", none), ["_law_one", "_law_other", "_law_x", "_law_y"], [], ["_law_one", "_law_other", "_law_x", "_law_y"],
  (.cons (.ite (.or (.cmp .ne (.cmp .eq (.var 0) (.var 1)) (.cmp .eq (.var 2) (.var 3))) (.cmp .ne (.cmp .lt (.var 0) (.var 1)) (.call 207 false (.cons (.var 2) (.cons (.var 3) .nil))))) (.cons (.ret (.bl false)) .nil) .nil) (.cons (.ret (.cmp .eq (.cmp .le (.var 0) (.var 1)) (.not (.call 207 false (.cons (.var 3) (.cons (.var 2) .nil)))))) .nil))⟩
def d__law_minus : FnDef := ⟨("_law_minus", none), ["_law_x", "_law_y"], [], ["_law_x", "_law_y"],
  (.cons (.ret (.call 203 false (.cons (.bin .sub (.bin .mul (.idx (.var 0) (.int 0)) (.idx (.var 1) (.int 1))) (.bin .mul (.idx (.var 1) (.int 0)) (.idx (.var 0) (.int 1)))) (.cons (.bin .mul (.idx (.var 0) (.int 1)) (.idx (.var 1) (.int 1))) .nil)))) .nil)⟩
def d__law_plus : FnDef := ⟨("_law_plus", none), ["_law_x", "_law_y"], [], ["_law_x", "_law_y"],
  (.cons (.ret (.call 203 false (.cons (.bin .add (.bin .mul (.idx (.var 0) (.int 0)) (.idx (.var 1) (.int 1))) (.bin .mul (.idx (.var 1) (.int 0)) (.idx (.var 0) (.int 1)))) (.cons (.bin .mul (.idx (.var 0) (.int 1)) (.idx (.var 1) (.int 1))) .nil)))) .nil)⟩
def d__law_take : FnDef := ⟨("_law_take", none), ["_law_box_here", "_law_many"], [], ["_law_box_here", "_law_many", "_law_mixed", "_law_digit"],
  (.cons (.ite (.cmp .ge (.idx (.var 0) (.int 0)) (.bin .pow (.int 10) (.int 18))) (.cons (.asg (.n 3) (.bin .mod (.bf .int (.cons (.idx (.var 0) (.int 0)) .nil)) (.var 1))) (.cons (.seti (.var 0) (.int 0) (.bin .fdiv (.idx (.var 0) (.int 0)) (.var 1))) (.cons (.ret (.var 3)) .nil))) .nil) (.cons (.seti (.var 0) (.int 1) (.bin .add (.idx (.var 0) (.int 1)) (.int 1))) (.cons (.asg (.n 2) (.bin .mod (.bin .pow (.bf .int (.cons (.bin .add (.bin .add (.bin .mul (.bin .add (.idx (.var 0) (.int 0)) (.int 7)) (.int 69069)) (.bin .mul (.idx (.var 0) (.int 1)) (.int 40692))) (.idx (.var 0) (.int 2))) .nil)) (.int 3)) (.int 2147483647))) (.cons (.asg (.n 2) (.bin .mod (.bin .pow (.bf .int (.cons (.bin .add (.var 2) (.bin .mul (.idx (.var 0) (.int 1)) (.int 17389))) .nil)) (.int 3)) (.int 2147483399))) (.cons (.ret (.bin .mod (.bf .int (.cons (.bin .fdiv (.var 2) (.int 64)) .nil)) (.var 1))) .nil)))))⟩
def d__law_pick : FnDef := ⟨("_law_pick", none), ["_law_box_here"], [], ["_law_box_here", "_law_wide", "_law_up", "_law_down"],
  (.cons (.asg (.n 1) (.idx (.nw false (.lst (.cons (.int 3) (.cons (.int 9) (.cons (.int 60) (.cons (.bin .mul (.int 3) (.bin .pow (.int 10) (.int 8))) (.cons (.bin .pow (.int 10) (.int 30)) (.cons (.bin .pow (.int 10) (.int 59)) .nil)))))))) (.call 202 false (.cons (.var 0) (.cons (.int 6) .nil))))) (.cons (.asg (.n 2) (.bin .sub (.call 202 false (.cons (.var 0) (.cons (.bin .add (.bin .mul (.int 2) (.var 1)) (.int 1)) .nil))) (.var 1))) (.cons (.asg (.n 3) (.bin .mul (.bin .add (.int 1) (.call 202 false (.cons (.var 0) (.cons (.var 1) .nil)))) (.idx (.nw false (.lst (.cons (.int 1) (.cons (.neg (.int 1)) .nil)))) (.call 202 false (.cons (.var 0) (.cons (.int 2) .nil)))))) (.cons (.ret (.nw false (.lst (.cons (.var 2) (.cons (.idx (.nw false (.lst (.cons (.var 3) (.cons (.int 1) (.cons (.int 1) .nil))))) (.call 202 false (.cons (.var 0) (.cons (.int 3) .nil)))) .nil))))) .nil))))⟩
def d__law_box : FnDef := ⟨("_law_box", none), ["_law_script", "_law_k"], [], ["_law_script", "_law_k"],
  (.cons (.ret (.nw false (.lst (.cons (.bf .abs (.cons (.bf .int (.cons (.call 200 false (.cons (.var 0) (.cons (.var 1) .nil))) .nil)) .nil)) (.cons (.int 0) (.cons (.bin .add (.bin .mul (.int 40503) (.var 1)) (.int 911)) .nil)))))) .nil)⟩
def d__law_cell : FnDef := ⟨("_law_cell", none), ["_law_script", "_law_k"], [], ["_law_script", "_law_k"],
  (.cons (.ret (.ite (.cmp .lt (.var 1) (.bf .len (.cons (.var 0) .nil))) (.idx (.var 0) (.var 1)) (.int 0))) .nil)⟩
def fns0 : List (Option FnDef) := [some d_is_integer, some d_divisor_of, some d_parts, some d_checked, some d_Ratiox_initx, none, some d_Ratiox_addx, some d_Ratiox_subx, some d_Ratiox_mulx, some d_Ratiox_negx, some d_Ratiox_eqx, some d_Ratiox_ltx, some d_Ratiox_lex, some d_Ratio_over, none, none, some d_as_ratio, some d_lesser, some d_greater, some d_total, some d_raised, none, none, none, none, none, none, none, none, none, none, none, none, none, none, none, none, none, none, none]
def fns1 : List (Option FnDef) := [none, none, none, none, none, none, none, none, none, none, none, none, none, none, none, none, none, none, none, none, none, none, none, none, none, none, none, none, none, none, none, none, none, none, none, none, none, none, none, none]
def fns2 : List (Option FnDef) := [none, none, none, none, none, none, none, none, none, none, none, none, none, none, none, none, none, none, none, none, none, none, none, none, none, none, none, none, none, none, none, none, none, none, none, none, none, none, none, none]
def fns3 : List (Option FnDef) := [none, none, none, none, none, none, none, none, none, none, none, none, none, none, none, none, none, none, none, none, none, none, none, none, none, none, none, none, none, none, none, none, none, none, none, none, none, none, none, none]
def fns4 : List (Option FnDef) := [none, none, none, none, none, none, none, none, none, none, none, none, none, none, none, none, none, none, none, none, none, none, none, none, none, none, none, none, none, none, none, none, none, none, none, none, none, none, none, none]
def fns5 : List (Option FnDef) := [some d__law_cell, some d__law_box, some d__law_take, some d__law_frac, some d__law_plus, some d__law_times, some d__law_minus, some d__law_less, some d__law_pick, some d__law_is, some d__law_refused, some d__law_zero, some d__law_compared, some d__law_chosen, some d_law]
def clss : List ClsDef := [⟨"Ratio", ["top", "bottom"], 4, [(0, 6), (1, 7), (2, 8), (10, 10), (11, 11), (12, 12), (30, 9)], false, true⟩, ⟨"", [], 0, [], false, false⟩, ⟨"", [], 0, [], false, false⟩, ⟨"", [], 0, [], false, false⟩, ⟨"", [], 0, [], false, false⟩, ⟨"", [], 0, [], false, false⟩, ⟨"", [], 0, [], false, false⟩, ⟨"", [], 0, [], false, false⟩, ⟨"", [], 0, [], false, false⟩, ⟨"", [], 0, [], false, false⟩, ⟨"BlockError", [], 0, [], true, true⟩, ⟨"ByZero", [], 0, [], true, true⟩, ⟨"BadNumber", ["given"], 0, [], true, true⟩, ⟨"BadText", [], 0, [], true, true⟩, ⟨"", [], 0, [], false, false⟩, ⟨"", [], 0, [], false, false⟩, ⟨"", [], 0, [], false, false⟩, ⟨"", [], 0, [], false, false⟩, ⟨"", [], 0, [], false, false⟩, ⟨"", [], 0, [], false, false⟩, ⟨"", [], 0, [], false, false⟩, ⟨"", [], 0, [], false, false⟩, ⟨"", [], 0, [], false, false⟩, ⟨"", [], 0, [], false, false⟩, ⟨"", [], 0, [], false, false⟩, ⟨"", [], 0, [], false, false⟩, ⟨"", [], 0, [], false, false⟩, ⟨"", [], 0, [], false, false⟩, ⟨"", [], 0, [], false, false⟩, ⟨"", [], 0, [], false, false⟩, ⟨"", [], 0, [], false, false⟩, ⟨"", [], 0, [], false, false⟩]
def prog (wf : Nat) : Prog := { fns := fns0 ++ fns1 ++ fns2 ++ fns3 ++ fns4 ++ fns5, cls := clss, base := 10, wf := wf }
def wfB : Nat := 2 ^ 9000
abbrev PR : MP.Prog := prog wfB
end MP.K02
end
section
set_option  maxHeartbeats  4000000
/-! The law's own fractions: pairs of numbers. -/
namespace MP.K02
open MP
def prD (q : Rat) : D := .tup [.int q.num, .int (q.den : Int)]
theorem prD_int (i : Int) : prD (i : Rat) = .tup [.int i, .int 1] := by
  unfold prD
  rw [Rat.num_intCast, Rat.den_intCast]
  rfl
theorem frac_go (cond : List W → M → R Bool) (body : List W → M → O) (m : M) (x y : W) (hc : ∀ a b : Int, cond [x, y, .v (.int a), .v (.int b)] m = .ok (decide (0 < b)) m) (hb : ∀ a b : Int, 0 < b → body [x, y, .v (.int a), .v (.int b)] m = .nx [x, y, .v (.int b), .v (.int (a.fmod b))] m) :
    ∀ (k : Nat) (a b : Int), 0 ≤ a → 0 ≤ b → b.natAbs < k → whileGo cond body k [x, y, .v (.int a), .v (.int b)] m = .nx [x, y, .v (.int (a.gcd b : Int)), .v (.int 0)] m
  | 0, a, b, _, _, h => absurd h (Nat.not_lt_zero _)
  | k + 1, a, b, ha, hb0, h => by
    by_cases hz : b = 0
    · subst hz
      rw [whileGo, hc]
      have : ((a.gcd 0 : Nat) : Int) = a := by rw [Int.gcd_zero_right]; omega
      rw [this]
      rfl
    · have hp : 0 < b := by omega
      have hlt := natAbs_fmod_lt a b hz
      have h2 := frac_go cond body m x y hc hb k b (a.fmod b) hb0 (Int.fmod_nonneg_of_pos _ hp) (by omega)
      rw [gcd_fmod] at h2
      rw [whileGo, hc, decide_eq_true hp]
      show (body _ m).seq _ = _
      rw [hb a b hp]
      exact h2
theorem gcd_if (a b : Int) : (if a < 0 then -a else a).gcd (if b < 0 then -b else b) = a.gcd b := by
  split <;> split <;> simp
theorem if_abs_nonneg (a : Int) : 0 ≤ (if a < 0 then -a else a) := by split <;> omega
theorem if_abs_abs (a : Int) : (if a < 0 then -a else a).natAbs = a.natAbs := by split <;> omega
section
variable {P : Prog} {n : Nat} {m : M}
theorem frac_loop (H : Hd) (m : M) (x y : W) (a b : Int) (ha : 0 ≤ a) (hb : 0 ≤ b) (h : b.natAbs < H.P.wf) :
    evS H false (.while_ (.cmp .gt (.var 3) (.int 0)) (.cons (.par [2, 3] (.cons (.var 3) (.cons (.bin .mod (.var 2) (.var 3)) .nil))) .nil)) [x, y, .v (.int a), .v (.int b)] m = .nx [x, y, .v (.int (a.gcd b : Int)), .v (.int 0)] m := by
  rw [z_while]
  refine frac_go _ _ m x y (fun a b => ?_) (fun a b hz => ?_) _ a b ha hb h
  · simp
  · have hz' : b ≠ 0 := by omega
    simp [bw_mod hz', setAll]
theorem r_frac (wf : 2 ^ 9000 ≤ P.wf) (f : P.fn 203 = some d__law_frac) (a b : Int) (hb : Sm 8000 b) (hz : b ≠ 0) : runF P (n + 1) 203 false [.v (.int a), .v (.int b)] m = .ok (.v (prD (Rat.divInt a b))) m := by
  rw [run_eq f rfl]
  have en : entry d__law_frac [.v (.int a), .v (.int b)] = [.v (.int a), .v (.int b), .u, .u] := rfl
  have hl := frac_loop ⟨P, runF P n⟩ m (.v (.int a)) (.v (.int b)) (if a < 0 then -a else a) (if b < 0 then -b else b) (if_abs_nonneg a) (if_abs_nonneg b) (by rw [if_abs_abs]; exact Nat.lt_of_lt_of_le (hb.mono (show 8000 ≤ 9000 by omega)) wf)
  rw [gcd_if] at hl
  have hgz : a.gcd b ≠ 0 := by
    intro h'
    exact hz (Int.gcd_eq_zero_iff.mp h').2
  have hgz' : (a.gcd b : Int) ≠ 0 := by omega
  have hgs : Sm 8000 (a.gcd b : Int) := by
    refine hb.of_natAbs ?_
    rw [Int.natAbs_natCast]
    exact Nat.le_of_dvd (by omega) (Nat.gcd_dvd_right a.natAbs b.natAbs)
  rw [en]
  simp only [d__law_frac]
  rcases Int.lt_or_lt_of_ne hz with h | h
  · obtain ⟨e1, e2⟩ := fdiv_gcd_neg (a := a) h rfl
    have hd := hgs.neg.divOk (Nat.le_refl _) (by omega)
    simp [setAll, h] at hl ⊢
    simp [hl, h, bw_fdiv hd, e1, e2, prD]
  · obtain ⟨e1, e2⟩ := fdiv_gcd_pos (a := a) h rfl
    have hd := hgs.divOk (Nat.le_refl _) hgz'
    have hn : ¬ b < 0 := by omega
    simp [setAll, hn] at hl ⊢
    simp [hl, hn, bw_fdiv hd, e1, e2, prD]
variable (wf : 2 ^ 9000 ≤ P.wf) (f : P.fn 203 = some d__law_frac) (q r : Rat) (hq : Rs 3900 q) (hr : Rs 3900 r)
include wf f hq hr
theorem r_plus (f4 : P.fn 204 = some d__law_plus) : runF P (n + 2) 204 false [.v (prD q), .v (prD r)] m = .ok (.v (prD (q + r))) m := by
  rw [run_eq f4 rfl]
  have k1 := hq.1.mulOk hr.2 (by omega)
  have k2 := hr.1.mulOk hq.2 (by omega)
  have k3 := hq.2.mulOk hr.2 (by omega)
  have k4 := r_frac (n := n) (m := m) wf f (q.num * r.den + r.num * q.den) (q.den * r.den) ((hq.2.mul hr.2).mono (by omega)) (Int.mul_ne_zero (den_nz q) (den_nz r))
  rw [add_div] at k4
  have en : entry d__law_plus [.v (prD q), .v (prD r)] = [.v (prD q), .v (prD r)] := rfl
  rw [en]
  simp only [d__law_plus]
  simp [prD, bw_mul k1, bw_mul k2, bw_mul k3, fa2 f rfl rfl]
  simp [k4, prD]
theorem r_minus (f4 : P.fn 206 = some d__law_minus) : runF P (n + 2) 206 false [.v (prD q), .v (prD r)] m = .ok (.v (prD (q - r))) m := by
  rw [run_eq f4 rfl]
  have k1 := hq.1.mulOk hr.2 (by omega)
  have k2 := hr.1.mulOk hq.2 (by omega)
  have k3 := hq.2.mulOk hr.2 (by omega)
  have k4 := r_frac (n := n) (m := m) wf f (q.num * r.den - r.num * q.den) (q.den * r.den) ((hq.2.mul hr.2).mono (by omega)) (Int.mul_ne_zero (den_nz q) (den_nz r))
  rw [sub_div] at k4
  have en : entry d__law_minus [.v (prD q), .v (prD r)] = [.v (prD q), .v (prD r)] := rfl
  rw [en]
  simp only [d__law_minus]
  simp [prD, bw_mul k1, bw_mul k2, bw_mul k3, fa2 f rfl rfl]
  simp [k4, prD]
theorem r_times (f4 : P.fn 205 = some d__law_times) : runF P (n + 2) 205 false [.v (prD q), .v (prD r)] m = .ok (.v (prD (q * r))) m := by
  rw [run_eq f4 rfl]
  have k1 := hq.1.mulOk hr.1 (by omega)
  have k3 := hq.2.mulOk hr.2 (by omega)
  have k4 := r_frac (n := n) (m := m) wf f (q.num * r.num) (q.den * r.den) ((hq.2.mul hr.2).mono (by omega)) (Int.mul_ne_zero (den_nz q) (den_nz r))
  rw [mul_div] at k4
  have en : entry d__law_times [.v (prD q), .v (prD r)] = [.v (prD q), .v (prD r)] := rfl
  rw [en]
  simp only [d__law_times]
  simp [prD, bw_mul k1, bw_mul k3, fa2 f rfl rfl]
  simp [k4, prD]
omit wf f
theorem r_less (f4 : P.fn 207 = some d__law_less) : runF P (n + 1) 207 false [.v (prD q), .v (prD r)] m = .ok (.v (.bl (decide (q < r)))) m := by
  rw [run_eq f4 rfl]
  have k1 := hq.1.mulOk hr.2 (by omega)
  have k2 := hr.1.mulOk hq.2 (by omega)
  have e : decide (q < r) = decide (q.num * r.den < r.num * q.den) := by simp only [Rat.lt_iff]
  have en : entry d__law_less [.v (prD q), .v (prD r)] = [.v (prD q), .v (prD r)] := rfl
  rw [en]
  simp only [d__law_less]
  simp [prD, bw_mul k1, bw_mul k2, e]
omit hq hr
theorem r_is (hP : RatP P) (f4 : P.fn 209 = some d__law_is) : runF P (n + 1) 209 false [.v (ratD q), .v (prD r)] m = .ok (.v (.bl (decide (q = r)))) m := by
  rw [run_eq f4 rfl]
  have en : entry d__law_is [.v (ratD q), .v (prD r)] = [.v (ratD q), .v (prD r)] := rfl
  rw [en]
  simp only [d__law_is]
  have e : decide (q = r) = (decide (q.num = r.num) && decide ((q.den : Int) = r.den)) := by
    have := rat_eq hP r q
    rw [← this]
    exact decide_eq_decide.mpr ⟨Eq.symm, Eq.symm⟩
  have hc : ∀ m, cmpW ⟨P, runF P n⟩ .eq (.v (.tup [.int q.num, .int q.den])) (.v (.tup [.int r.num, .int r.den])) m = .ok (.v (.bl (decide (q = r)))) m := fun m => by
    rw [cw_eqt (by simp [plainL, plain]) (by simp [plainL, plain]), e]
    simp [eqBs, eqB]
    rfl
  simp [isiW, isiD, ratD, prD, hP.own, hc]
end
end MP.K02
end
section
set_option  maxHeartbeats  4000000
namespace MP
/-- a box of draws, with at most b draws made -/
def Bx (m : M) (j b : Nat) : Prop := ∃ a c s : Int, m[j]? = some (.lst false [.int a, .int c, .int s]) ∧ 0 ≤ a ∧ 0 ≤ c ∧ c ≤ b ∧ 0 ≤ s ∧ s < 2 ^ 40
/-- nothing but the thing j is another -/
def Up (j : Nat) (m m' : M) : Prop := ∃ c, m' = m.set j c
theorem Up.trans {j : Nat} {m m' m'' : M} (h : Up j m m') (h' : Up j m' m'') : Up j m m'' := by
  obtain ⟨c, rfl⟩ := h
  obtain ⟨c', rfl⟩ := h'
  exact ⟨c', by rw [List.set_set]⟩
theorem Up.len {j : Nat} {m m' : M} (h : Up j m m') : m'.length = m.length := by
  obtain ⟨c, rfl⟩ := h
  rw [List.length_set]
theorem Up.get {j k : Nat} {m m' : M} (h : Up j m m') (hk : j ≠ k) : m'[k]? = m[k]? := by
  obtain ⟨c, rfl⟩ := h
  rw [List.getElem?_set_ne hk]
theorem Up.take {j : Nat} {m m' : M} (h : Up j m m') : List.take (List.length m) m' = m' := List.take_of_length_le (by rw [h.len]; exact Nat.le_refl _)
theorem Bx.lt {m : M} {j b : Nat} (h : Bx m j b) : j < m.length := by
  obtain ⟨a, c, s, h, _⟩ := h
  exact (List.getElem?_eq_some_iff.mp h).1
theorem d_take {P : Prog} {n : Nat} {m : M} {j b : Nat} (f : P.fn 202 = some d__law_take) (h : Bx m j b) (hb : b < 2 ^ 20) (many : Int) (hm : 0 < many) (hm2 : Sm 2000 many) :
    ∃ (r : Int) (m' : M), 0 ≤ r ∧ r < many ∧ Up j m m' ∧ Bx m' j (b + 1) ∧ runF P (n + 1) 202 false [.c j, .v (.int many)] m = .ok (.v (.int r)) m' := by
  obtain ⟨a, c, s, h1, h2, h3, h4, h5, h6⟩ := h
  obtain ⟨r, a', c', k1, k2, k3, k4, k5, k6⟩ := r_take (n := n) f h1 h2 h3 (by omega) h5 h6 many hm hm2
  exact ⟨r, _, k1, k2, ⟨_, rfl⟩, ⟨a', c', s, set_get h1, k3, by omega, by omega, h5, h6⟩, k6⟩
theorem cw_eqs {H : Hd} {m : M} (s : Sg) (h : (s.all fun c => decide (c < 1114112)) = true) : cmpW H .eq (.v (.str s)) (.v (.str s)) m = .ok (.v (.bl true)) m := by
  show R.opt (((eqD (.str s) (.str s)).or (cmpO H .eq (.str s) (.str s))).map fun b => W.v (.bl b)) m = _
  simp only [eqD, plain, h, eqB]
  simp
theorem ix_in {H : Hd} (xs : List D) (r : Int) (h0 : 0 ≤ r) (h1 : r < xs.length) : ∃ d, d ∈ xs ∧ ∀ m, idxW (.v (.lst xs)) (.v (.int r)) m = .ok (.v d) m := by
  obtain ⟨k, rfl⟩ := Int.eq_ofNat_of_zero_le h0
  have hk : k < xs.length := by omega
  exact ⟨xs[k], List.getElem_mem hk, fun m => ix_l (i := k) rfl (List.getElem?_eq_getElem hk)⟩
namespace K02
section
variable {P : Prog} {n : Nat} {m : M}
theorem sm_le {w : Int} {k : Nat} (h : w.natAbs < 2 ^ k) : Sm k w := h
theorem r_pick {j b : Nat} (f : P.fn 202 = some MP.d__law_take) (f8 : P.fn 208 = some d__law_pick) (h : Bx m j b) (hb : b < 1000000) :
    ∃ (up down : Int) (m' : M), down ≠ 0 ∧ Sm 200 up ∧ Sm 200 down ∧ Up j m m' ∧ Bx m' j (b + 5) ∧ runF P (n + 2) 208 false [.c j] m = .ok (.v (.lst [.int up, .int down])) m' := by
  have hn : (6 : Int) = (6 : Nat) := rfl
  have p8 : ∀ m, binW ⟨P, runF P (n + 1)⟩ .pow (.v (.int 10)) (.v (.int 8)) m = .ok (.v (.int 100000000)) m := fun m => by
    rw [bw_pow (by decide) (by decide) (by decide +kernel)]
    rfl
  have p30 : ∀ m, binW ⟨P, runF P (n + 1)⟩ .pow (.v (.int 10)) (.v (.int 30)) m = .ok (.v (.int 1000000000000000000000000000000)) m := fun m => by
    rw [bw_pow (by decide) (by decide) (by decide +kernel)]
    rfl
  have p59 : ∀ m, binW ⟨P, runF P (n + 1)⟩ .pow (.v (.int 10)) (.v (.int 59)) m = .ok (.v (.int 100000000000000000000000000000000000000000000000000000000000)) m := fun m => by
    rw [bw_pow (by decide) (by decide) (by decide +kernel)]
    rfl
  have q3 : mulOk 3 100000000 = true := by decide +kernel
  obtain ⟨r1, m1, a1, b1, u1, x1, e1⟩ := d_take (n := n) f h (by omega) 6 (by omega) (by unfold Sm; exact Nat.lt_of_lt_of_le (show (6 : Nat) < 2 ^ 3 by decide) (Nat.pow_le_pow_right (by omega) (by omega)))
  obtain ⟨d, hd, ixd⟩ := ix_in (H := ⟨P, runF P n⟩) [.int 3, .int 9, .int 60, .int 300000000, .int 1000000000000000000000000000000, .int 100000000000000000000000000000000000000000000000000000000000] r1 a1 b1
  have hw : ∃ w : Int, d = .int w ∧ 3 ≤ w ∧ w ≤ 100000000000000000000000000000000000000000000000000000000000 := by
    simp only [List.mem_cons, List.not_mem_nil, or_false] at hd
    rcases hd with h | h | h | h | h | h <;> exact ⟨_, h, by decide, by decide⟩
  obtain ⟨w, rfl, hw3, hw4⟩ := hw
  have sw : Sm 198 w := by unfold Sm; omega
  have q2 : mulOk 2 w = true := Sm.mulOk (j := 2) (show (2 : Nat) < 2 ^ 2 by decide) sw (by omega)
  obtain ⟨r2, m2, a2, b2, u2, x2, e2⟩ := d_take (n := n) f x1 (by omega) (2 * w + 1) (by omega) (Sm.mono (j := 200) (by unfold Sm; omega) (by omega))
  obtain ⟨r3, m3, a3, b3, u3, x3, e3⟩ := d_take (n := n) f x2 (by omega) w (by omega) (sw.mono (by omega))
  obtain ⟨r4, m4, a4, b4, u4, x4, e4⟩ := d_take (n := n) f x3 (by omega) 2 (by omega) (Sm.mono (j := 3) (show (2 : Nat) < 2 ^ 3 by decide) (by omega))
  obtain ⟨r5, m5, a5, b5, u5, x5, e5⟩ := d_take (n := n) f x4 (by omega) 3 (by omega) (Sm.mono (j := 3) (show (3 : Nat) < 2 ^ 3 by decide) (by omega))
  obtain ⟨d2, hd2, ix2⟩ := ix_in (H := ⟨P, runF P n⟩) [.int 1, .int (-1)] r4 a4 b4
  have hg : ∃ g : Int, d2 = .int g ∧ (g = 1 ∨ g = -1) := by
    simp only [List.mem_cons, List.not_mem_nil, or_false] at hd2
    rcases hd2 with h | h <;> exact ⟨_, h, by decide⟩
  obtain ⟨g, rfl, hg⟩ := hg
  have q5 : mulOk (1 + r3) g = true := Sm.mulOk (j := 200) (k := 2) (by unfold Sm; omega) (by unfold Sm; omega) (by omega)
  have hdn : (1 + r3) * g ≠ 0 ∧ Sm 200 ((1 + r3) * g) := by
    rcases hg with rfl | rfl
    · unfold Sm; omega
    · unfold Sm; omega
  obtain ⟨d3, hd3, ix3⟩ := ix_in (H := ⟨P, runF P n⟩) [.int ((1 + r3) * g), .int 1, .int 1] r5 a5 b5
  have hz : ∃ z : Int, d3 = .int z ∧ z ≠ 0 ∧ Sm 200 z := by
    have s1 : Sm 200 1 := Sm.mono (j := 3) (show (1 : Nat) < 2 ^ 3 by decide) (by omega)
    simp only [List.mem_cons, List.not_mem_nil, or_false] at hd3
    rcases hd3 with h | h | h
    · exact ⟨_, h, hdn.1, hdn.2⟩
    · exact ⟨_, h, by decide, s1⟩
    · exact ⟨_, h, by decide, s1⟩
  obtain ⟨z, rfl, hz0, hz1⟩ := hz
  have up := (((u1.trans u2).trans u3).trans u4).trans u5
  refine ⟨r2 - w, z, m5, hz0, by unfold Sm; omega, hz1, up, x5, ?_⟩
  rw [run_eq f8 rfl]
  have en : entry d__law_pick [.c j] = [.c j, .u, .u, .u] := rfl
  rw [en]
  simp only [d__law_pick]
  simp [p8, p30, p59, bw_mul q3, fa2 f rfl rfl, e1, ixd, bw_mul q2, e2, e3, ix2, bw_mul q5, e4, e5, ix3, up.take, sizeOk]
end
end K02
end MP
end
section
set_option  maxHeartbeats  4000000
namespace MP.K03
open MP
def d_law : FnDef := ⟨("law", none), ["_law_script"], [], ["_law_script", "_law_k", "_law_box_here", "_law_wide", "_law_x", "_law_phrase", "_law_turn", "_law_at", "_law_part", "_law_near", "_law_factor", "_law_other"],
  (.cons (.for_ (.n 1) (.range1 (.bf .max (.cons (.int 1) (.cons (.bf .min (.cons (.int 3) (.cons (.bf .len (.cons (.var 0) .nil)) .nil))) .nil)))) (.cons (.asg (.n 2) (.call 201 true (.cons (.var 0) (.cons (.var 1) .nil)))) (.cons (.asg (.n 3) (.idx (.nw false (.lst (.cons (.int 9) (.cons (.int 60) (.cons (.bin .sub (.bin .pow (.int 10) (.int 9)) (.int 1)) (.cons (.bin .pow (.int 10) (.int 59)) .nil)))))) (.call 202 false (.cons (.var 2) (.cons (.int 4) .nil))))) (.cons (.asg (.n 4) (.call 203 false (.cons (.bin .sub (.call 202 false (.cons (.var 2) (.cons (.bin .add (.bin .mul (.int 2) (.var 3)) (.int 1)) .nil))) (.var 3)) (.cons (.idx (.nw false (.lst (.cons (.int 1) (.cons (.bin .add (.int 1) (.call 202 false (.cons (.var 2) (.cons (.var 3) .nil)))) .nil)))) (.call 202 false (.cons (.var 2) (.cons (.int 2) .nil)))) .nil)))) (.cons (.asg (.n 5) (.ite (.cmp .eq (.idx (.var 4) (.int 1)) (.int 1)) (.bf .str (.cons (.idx (.var 4) (.int 0)) .nil)) (.bin .add (.bin .add (.bf .str (.cons (.idx (.var 4) (.int 0)) .nil)) (.str [47])) (.bf .str (.cons (.idx (.var 4) (.int 1)) .nil))))) (.cons (.ite (.or (.cmp .ne (.meth 0 (.make 0 false (.cons (.idx (.var 4) (.int 0)) (.cons (.idx (.var 4) (.int 1)) .nil))) 14 false .nil) (.var 5)) (.or (.cmp .ne (.call 206 false (.cons (.var 5) .nil)) (.var 4)) (.cmp .ne (.call 205 false (.cons (.var 5) .nil)) (.var 4)))) (.cons (.ret (.bl false)) .nil) .nil) (.cons (.ite (.not (.cmp .eq (.cmethk 0 5 .nil ["text"] (.cons (.var 5) .nil)) (.make 0 false (.cons (.idx (.var 4) (.int 0)) (.cons (.idx (.var 4) (.int 1)) .nil))))) (.cons (.ret (.bl false)) .nil) .nil) (.cons (.for_ (.n 6) (.range1 (.int 6)) (.cons (.asg (.n 7) (.call 202 false (.cons (.var 2) (.cons (.bin .add (.bf .len (.cons (.var 5) .nil)) (.int 1)) .nil)))) (.cons (.asg (.n 8) (.idx (.nw false (.lst (.cons (.str [48]) (.cons (.str [49]) (.cons (.str [45]) (.cons (.str [47]) (.cons (.str [32]) (.cons (.str [43]) (.cons (.str [46]) (.cons (.str [47, 49]) (.cons (.str [47, 48]) (.cons (.str [48, 48]) (.cons (.str [97]) (.cons (.str []) (.cons (.str [95]) (.cons (.str [10]) .nil)))))))))))))))) (.call 202 false (.cons (.var 2) (.cons (.int 14) .nil))))) (.cons (.asg (.n 9) (.bin .add (.bin .add (.slice (.var 5) .non (.var 7) false true) (.var 8)) (.slice (.var 5) (.bin .add (.var 7) (.call 202 false (.cons (.var 2) (.cons (.int 2) .nil)))) .non true false))) (.cons (.asg (.n 10) (.bin .add (.bin .add (.bf .str (.cons (.bin .mul (.idx (.var 4) (.int 0)) (.int 2)) .nil)) (.str [47])) (.bf .str (.cons (.bin .mul (.idx (.var 4) (.int 1)) (.int 2)) .nil)))) (.cons (.for_ (.n 11) (.e (.nw false (.lst (.cons (.var 9) (.cons (.var 10) (.cons (.bin .add (.bin .add (.var 5) (.str [47])) (.var 8)) (.cons (.bin .add (.var 8) (.var 5)) (.cons (.bin .add (.var 5) (.var 8)) .nil)))))))) (.cons (.ite (.cmp .ne (.call 206 false (.cons (.var 11) .nil)) (.call 205 false (.cons (.var 11) .nil))) (.cons (.ret (.bl false)) .nil) .nil) .nil)) .nil)))))) .nil)))))))) (.cons (.ret (.and (.isN (.call 206 false (.cons (.str []) .nil))) (.and (.isN (.call 206 false (.cons (.str [45, 48]) .nil))) (.isN (.call 206 false (.cons (.str [48, 47, 51]) .nil)))))) .nil))⟩
def d_Ratiox_negx : FnDef := ⟨("Ratio", some "__neg__"), ["self"], [], ["self"],
  (.cons (.ret (.make 0 false (.cons (.neg (.fld 0 (.var 0) 0)) (.cons (.fld 0 (.var 0) 1) .nil)))) .nil)⟩
def d_Ratiox_lex : FnDef := ⟨("Ratio", some "__le__"), ["self", "other"], [], ["self", "other", "top", "bottom"],
  (.cons (.asg (.t [2, 3]) (.call 3 false (.cons (.var 1) .nil))) (.cons (.ret (.cmp .le (.bin .mul (.fld 0 (.var 0) 0) (.var 3)) (.bin .mul (.var 2) (.fld 0 (.var 0) 1)))) .nil))⟩
def d_Ratiox_ltx : FnDef := ⟨("Ratio", some "__lt__"), ["self", "other"], [], ["self", "other", "top", "bottom"],
  (.cons (.asg (.t [2, 3]) (.call 3 false (.cons (.var 1) .nil))) (.cons (.ret (.cmp .lt (.bin .mul (.fld 0 (.var 0) 0) (.var 3)) (.bin .mul (.var 2) (.fld 0 (.var 0) 1)))) .nil))⟩
def d_Ratiox_eqx : FnDef := ⟨("Ratio", some "__eq__"), ["self", "other"], [], ["self", "other"],
  (.cons (.ret (.cmp .eq (.call 2 false (.cons (.var 1) .nil)) (.tup (.cons (.fld 0 (.var 0) 0) (.cons (.fld 0 (.var 0) 1) .nil))))) .nil)⟩
def d_Ratiox_mulx : FnDef := ⟨("Ratio", some "__mul__"), ["self", "other"], [], ["self", "other", "top", "bottom"],
  (.cons (.asg (.t [2, 3]) (.call 3 false (.cons (.var 1) .nil))) (.cons (.ret (.make 0 false (.cons (.bin .mul (.fld 0 (.var 0) 0) (.var 2)) (.cons (.bin .mul (.fld 0 (.var 0) 1) (.var 3)) .nil)))) .nil))⟩
def d_Ratiox_subx : FnDef := ⟨("Ratio", some "__sub__"), ["self", "other"], [], ["self", "other", "top", "bottom"],
  (.cons (.asg (.t [2, 3]) (.call 3 false (.cons (.var 1) .nil))) (.cons (.ret (.make 0 false (.cons (.bin .sub (.bin .mul (.fld 0 (.var 0) 0) (.var 3)) (.bin .mul (.var 2) (.fld 0 (.var 0) 1))) (.cons (.bin .mul (.fld 0 (.var 0) 1) (.var 3)) .nil)))) .nil))⟩
def d_Ratiox_addx : FnDef := ⟨("Ratio", some "__add__"), ["self", "other"], [], ["self", "other", "top", "bottom"],
  (.cons (.asg (.t [2, 3]) (.call 3 false (.cons (.var 1) .nil))) (.cons (.ret (.make 0 false (.cons (.bin .add (.bin .mul (.fld 0 (.var 0) 0) (.var 3)) (.bin .mul (.var 2) (.fld 0 (.var 0) 1))) (.cons (.bin .mul (.fld 0 (.var 0) 1) (.var 3)) .nil)))) .nil))⟩
def d_Ratiox_initx : FnDef := ⟨("Ratio", some "__init__"), ["self", "top", "bottom"], [.int 1], ["self", "top", "bottom", "divisor"],
  (.cons (.ite (.cmp .eq (.var 2) (.int 0)) (.cons (.raise 11 .nil) .nil) .nil) (.cons (.asg (.n 3) (.ite (.cmp .gt (.var 2) (.int 0)) (.call 1 false (.cons (.var 1) (.cons (.var 2) .nil))) (.neg (.call 1 false (.cons (.var 1) (.cons (.var 2) .nil)))))) (.cons (.setf 0 (.var 0) 0 (.bin .fdiv (.var 1) (.var 3))) (.cons (.setf 0 (.var 0) 1 (.bin .fdiv (.var 2) (.var 3))) .nil))))⟩
def d_divisor_of : FnDef := ⟨("divisor_of", none), ["one", "other"], [], ["one", "other"],
  (.cons (.while_ (.cmp .ne (.var 1) (.int 0)) (.cons (.par [0, 1] (.cons (.var 1) (.cons (.bin .mod (.var 0) (.var 1)) .nil))) .nil)) (.cons (.ret (.bf .abs (.cons (.var 0) .nil))) .nil))⟩
def d_checked : FnDef := ⟨("checked", none), ["given"], [], ["given", "found"],
  (.cons (.asg (.n 1) (.call 2 false (.cons (.var 0) .nil))) (.cons (.ite (.isN (.var 1)) (.cons (.raise 12 (.cons (.var 0) .nil)) .nil) .nil) (.cons (.ret (.var 1)) .nil)))⟩
def d_parts : FnDef := ⟨("parts", none), ["given"], [], ["given"],
  (.cons (.ite (.call 0 false (.cons (.var 0) .nil)) (.cons (.ret (.tup (.cons (.var 0) (.cons (.int 1) .nil)))) .nil) .nil) (.cons (.ret (.ite (.isi (.var 0) [.cls 0]) (.tup (.cons (.fld 0 (.var 0) 0) (.cons (.fld 0 (.var 0) 1) .nil))) .non)) .nil))⟩
def d_is_integer : FnDef := ⟨("is_integer", none), ["value"], [], ["value"],
  (.cons (.ret (.and (.isi (.var 0) [.int]) (.not (.isi (.var 0) [.bool])))) .nil)⟩
def d__law_take : FnDef := ⟨("_law_take", none), ["_law_box_here", "_law_many"], [], ["_law_box_here", "_law_many", "_law_mixed", "_law_digit"],
  (.cons (.ite (.cmp .ge (.idx (.var 0) (.int 0)) (.bin .pow (.int 10) (.int 18))) (.cons (.asg (.n 3) (.bin .mod (.bf .int (.cons (.idx (.var 0) (.int 0)) .nil)) (.var 1))) (.cons (.seti (.var 0) (.int 0) (.bin .fdiv (.idx (.var 0) (.int 0)) (.var 1))) (.cons (.ret (.var 3)) .nil))) .nil) (.cons (.seti (.var 0) (.int 1) (.bin .add (.idx (.var 0) (.int 1)) (.int 1))) (.cons (.asg (.n 2) (.bin .mod (.bin .pow (.bf .int (.cons (.bin .add (.bin .add (.bin .mul (.bin .add (.idx (.var 0) (.int 0)) (.int 7)) (.int 69069)) (.bin .mul (.idx (.var 0) (.int 1)) (.int 40692))) (.idx (.var 0) (.int 2))) .nil)) (.int 3)) (.int 2147483647))) (.cons (.asg (.n 2) (.bin .mod (.bin .pow (.bf .int (.cons (.bin .add (.var 2) (.bin .mul (.idx (.var 0) (.int 1)) (.int 17389))) .nil)) (.int 3)) (.int 2147483399))) (.cons (.ret (.bin .mod (.bf .int (.cons (.bin .fdiv (.var 2) (.int 64)) .nil)) (.var 1))) .nil)))))⟩
def d__law_due : FnDef := ⟨("_law_due", none), ["_law_phrase"], [], ["_law_phrase", "_law_words", "_law_word"],
  (.cons (.asg (.n 1) (.nw false (.comp (.n 2) (.e (.split (.var 0) (.str [47]))) false (.bl true) (.call 204 false (.cons (.var 2) .nil))))) (.cons (.ite (.or (.cmp .mem .non (.var 1)) (.cmp .gt (.bf .len (.cons (.var 1) .nil)) (.int 2))) (.cons (.ret .non) .nil) .nil) (.cons (.ite (.cmp .eq (.bf .len (.cons (.var 1) .nil)) (.int 1)) (.cons (.ret (.tup (.cons (.idx (.var 1) (.int 0)) (.cons (.int 1) .nil)))) .nil) .nil) (.cons (.ret (.ite (.and (.cmp .gt (.idx (.var 1) (.int 1)) (.int 1)) (.cmp .eq (.call 203 false (.cons (.idx (.var 1) (.int 0)) (.cons (.idx (.var 1) (.int 1)) .nil))) (.tup (.cons (.idx (.var 1) (.int 0)) (.cons (.idx (.var 1) (.int 1)) .nil))))) (.tup (.cons (.idx (.var 1) (.int 0)) (.cons (.idx (.var 1) (.int 1)) .nil))) .non)) .nil))))⟩
def d__law_frac : FnDef := ⟨("_law_frac", none), ["_law_up", "_law_down"], [], ["_law_up", "_law_down", "_law_one", "_law_other"],
  (.cons (.par [2, 3] (.cons (.bf .abs (.cons (.var 0) .nil)) (.cons (.bf .abs (.cons (.var 1) .nil)) .nil))) (.cons (.while_ (.cmp .gt (.var 3) (.int 0)) (.cons (.par [2, 3] (.cons (.var 3) (.cons (.bin .mod (.var 2) (.var 3)) .nil))) .nil)) (.cons (.ite (.cmp .lt (.var 1) (.int 0)) (.cons (.asg (.n 2) (.bin .sub (.int 0) (.var 2))) .nil) .nil) (.cons (.ret (.tup (.cons (.bin .fdiv (.var 0) (.var 2)) (.cons (.bin .fdiv (.var 1) (.var 2)) .nil)))) .nil))))⟩
def d__law_whole : FnDef := ⟨("_law_whole", none), ["_law_word"], [], ["_law_word", "_law_digits", "_law_char"],
  (.cons (.asg (.n 1) (.ite (.cmp .eq (.slice (.var 0) .non (.int 1) false true) (.str [45])) (.slice (.var 0) (.int 1) .non true false) (.var 0))) (.cons (.ite (.or (.cmp .eq (.var 1) (.str [])) (.cmp .ne (.nw false (.comp (.n 2) (.e (.var 1)) true (.cmp .nmem (.var 2) (.str [48, 49, 50, 51, 52, 53, 54, 55, 56, 57])) (.var 2))) (.nw false (.lst .nil)))) (.cons (.ret .non) .nil) .nil) (.cons (.ret (.ite (.cmp .eq (.bf .str (.cons (.bf .int (.cons (.var 0) .nil)) .nil)) (.var 0)) (.bf .int (.cons (.var 0) .nil)) .non)) .nil)))⟩
def d__law_read : FnDef := ⟨("_law_read", none), ["_law_phrase"], [], ["_law_phrase", "_law_amount"],
  (.cons (.try_ (.cons (.asg (.n 1) (.cmethk 0 5 (.cons (.var 0) .nil) [] .nil)) .nil) (.cons 13 none (.cons (.ret .non) .nil) .nil)) (.cons (.ret (.tup (.cons (.fld 0 (.var 1) 0) (.cons (.fld 0 (.var 1) 1) .nil)))) .nil))⟩
def d_Ratio_read : FnDef := ⟨("Ratio", some "read"), ["cls", "text"], [], ["cls", "text", "words", "ratio", "word"],
  (.cons (.asg (.n 2) (.nw false (.comp (.n 4) (.e (.split (.var 1) (.str [47]))) false (.bl true) (.call 15 false (.cons (.var 4) .nil))))) (.cons (.ite (.or (.cmp .mem .non (.var 2)) (.or (.cmp .gt (.bf .len (.cons (.var 2) .nil)) (.int 2)) (.cmp .mem (.int 0) (.slice (.var 2) (.int 1) .non true false)))) (.cons (.raise 13 .nil) .nil) .nil) (.cons (.asg (.n 3) (.ite (.cmp .eq (.bf .len (.cons (.var 2) .nil)) (.int 2)) (.makev 0 0 (.cons (.idx (.var 2) (.int 0)) (.cons (.idx (.var 2) (.int 1)) .nil))) (.makev 0 0 (.cons (.idx (.var 2) (.int 0)) .nil)))) (.cons (.ite (.cmp .ne (.meth 0 (.var 3) 14 false .nil) (.var 1)) (.cons (.raise 13 .nil) .nil) .nil) (.cons (.ret (.var 3)) .nil)))))⟩
def d_Ratio_text : FnDef := ⟨("Ratio", some "text"), ["self"], [], ["self"],
  (.cons (.ret (.ite (.cmp .eq (.fld 0 (.var 0) 1) (.int 1)) (.bf .str (.cons (.fld 0 (.var 0) 0) .nil)) (.fstr (.cons (.fld 0 (.var 0) 0) (.cons (.str [47]) (.cons (.fld 0 (.var 0) 1) .nil)))))) .nil)⟩
def d_integer_of : FnDef := ⟨("integer_of", none), ["word"], [], ["word", "digits", "char"],
  (.cons (.asg (.n 1) (.ite (.cmp .eq (.slice (.var 0) .non (.int 1) false true) (.str [45])) (.slice (.var 0) (.int 1) .non true false) (.var 0))) (.cons (.ite (.or (.not (.cmp2 .le .le (.int 1) (.bf .len (.cons (.var 1) .nil)) (.int 4000))) (.not (.bf .all (.cons (.nw false (.comp (.n 2) (.e (.var 1)) false (.bl true) (.cmp .mem (.var 2) (.str [48, 49, 50, 51, 52, 53, 54, 55, 56, 57])))) .nil)))) (.cons (.ret .non) .nil) .nil) (.cons (.ret (.ite (.cmp .eq (.bf .str (.cons (.bf .int (.cons (.var 0) .nil)) .nil)) (.var 0)) (.bf .int (.cons (.var 0) .nil)) .non)) .nil)))⟩
def d__law_box : FnDef := ⟨("_law_box", none), ["_law_script", "_law_k"], [], ["_law_script", "_law_k"],
  (.cons (.ret (.nw false (.lst (.cons (.bf .abs (.cons (.bf .int (.cons (.call 200 false (.cons (.var 0) (.cons (.var 1) .nil))) .nil)) .nil)) (.cons (.int 0) (.cons (.bin .add (.bin .mul (.int 40503) (.var 1)) (.int 911)) .nil)))))) .nil)⟩
def d__law_cell : FnDef := ⟨("_law_cell", none), ["_law_script", "_law_k"], [], ["_law_script", "_law_k"],
  (.cons (.ret (.ite (.cmp .lt (.var 1) (.bf .len (.cons (.var 0) .nil))) (.idx (.var 0) (.var 1)) (.int 0))) .nil)⟩
def fns0 : List (Option FnDef) := [some d_is_integer, some d_divisor_of, some d_parts, some d_checked, some d_Ratiox_initx, some d_Ratio_read, some d_Ratiox_addx, some d_Ratiox_subx, some d_Ratiox_mulx, some d_Ratiox_negx, some d_Ratiox_eqx, some d_Ratiox_ltx, some d_Ratiox_lex, none, some d_Ratio_text, some d_integer_of, none, none, none, none, none, none, none, none, none, none, none, none, none, none, none, none, none, none, none, none, none, none, none, none]
def fns1 : List (Option FnDef) := [none, none, none, none, none, none, none, none, none, none, none, none, none, none, none, none, none, none, none, none, none, none, none, none, none, none, none, none, none, none, none, none, none, none, none, none, none, none, none, none]
def fns2 : List (Option FnDef) := [none, none, none, none, none, none, none, none, none, none, none, none, none, none, none, none, none, none, none, none, none, none, none, none, none, none, none, none, none, none, none, none, none, none, none, none, none, none, none, none]
def fns3 : List (Option FnDef) := [none, none, none, none, none, none, none, none, none, none, none, none, none, none, none, none, none, none, none, none, none, none, none, none, none, none, none, none, none, none, none, none, none, none, none, none, none, none, none, none]
def fns4 : List (Option FnDef) := [none, none, none, none, none, none, none, none, none, none, none, none, none, none, none, none, none, none, none, none, none, none, none, none, none, none, none, none, none, none, none, none, none, none, none, none, none, none, none, none]
def fns5 : List (Option FnDef) := [some d__law_cell, some d__law_box, some d__law_take, some d__law_frac, some d__law_whole, some d__law_due, some d__law_read, some d_law]
def clss : List ClsDef := [⟨"Ratio", ["top", "bottom"], 4, [(0, 6), (1, 7), (2, 8), (10, 10), (11, 11), (12, 12), (30, 9)], false, true⟩, ⟨"", [], 0, [], false, false⟩, ⟨"", [], 0, [], false, false⟩, ⟨"", [], 0, [], false, false⟩, ⟨"", [], 0, [], false, false⟩, ⟨"", [], 0, [], false, false⟩, ⟨"", [], 0, [], false, false⟩, ⟨"", [], 0, [], false, false⟩, ⟨"", [], 0, [], false, false⟩, ⟨"", [], 0, [], false, false⟩, ⟨"BlockError", [], 0, [], true, true⟩, ⟨"ByZero", [], 0, [], true, true⟩, ⟨"BadNumber", ["given"], 0, [], true, true⟩, ⟨"BadText", [], 0, [], true, true⟩, ⟨"", [], 0, [], false, false⟩, ⟨"", [], 0, [], false, false⟩, ⟨"", [], 0, [], false, false⟩, ⟨"", [], 0, [], false, false⟩, ⟨"", [], 0, [], false, false⟩, ⟨"", [], 0, [], false, false⟩, ⟨"", [], 0, [], false, false⟩, ⟨"", [], 0, [], false, false⟩, ⟨"", [], 0, [], false, false⟩, ⟨"", [], 0, [], false, false⟩, ⟨"", [], 0, [], false, false⟩, ⟨"", [], 0, [], false, false⟩, ⟨"", [], 0, [], false, false⟩, ⟨"", [], 0, [], false, false⟩, ⟨"", [], 0, [], false, false⟩, ⟨"", [], 0, [], false, false⟩, ⟨"", [], 0, [], false, false⟩, ⟨"", [], 0, [], false, false⟩]
def prog (wf : Nat) : Prog := { fns := fns0 ++ fns1 ++ fns2 ++ fns3 ++ fns4 ++ fns5, cls := clss, base := 10, wf := wf }
def wfB : Nat := 2 ^ 9000
abbrev PR : MP.Prog := prog wfB
end MP.K03
end
section
set_option  maxHeartbeats  4000000
/-! Texts of numbers. -/
namespace MP
open PySem
abbrev digN (x : Nat) : List Nat := TL.numL x
theorem numS_nat (n : Nat) : numS (n : Int) = digN n := TL.tl_num n
theorem numS_neg (n : Nat) : numS (-((n + 1 : Nat) : Int)) = 45 :: digN (n + 1) := by
  have e : (toString (-((n + 1 : Nat) : Int)) : String) = "-" ++ toString (((n + 1 : Nat)) : Int) := rfl
  unfold numS
  rw [e]
  show (Str.ofString ("-" ++ toString (((n + 1 : Nat)) : Int))).cps.toList = _
  have e2 : (Str.ofString ("-" ++ toString (((n + 1 : Nat)) : Int))).cps.toList = (Str.ofString "-").cps.toList ++ (Str.ofString (toString (((n + 1 : Nat)) : Int))).cps.toList := by
    rw [Str.ofString_eq_toList, Str.ofString_eq_toList, Str.ofString_eq_toList]
    simp
  rw [e2]
  have e3 : (Str.ofString (toString (((n + 1 : Nat)) : Int))).cps.toList = digN (n + 1) := TL.tl_num (n + 1)
  rw [e3]
  rfl
/-- digits, with a minus or without -/
def isDig (c : Nat) : Bool := decide (48 ≤ c) && decide (c ≤ 57)
def dgs (w : Sg) : Sg := match w with
  | 45 :: r => r
  | l => l
def numW (w : Sg) : Bool := (dgs w).all isDig && !(dgs w).isEmpty
def valW (w : Sg) : Int := match w with
  | 45 :: r => -((NumText.digitsVal r : Nat) : Int)
  | l => ((NumText.digitsVal l : Nat) : Int)
theorem all_dig {l : Sg} (h : l.all isDig = true) : NumText.AllDigits l := fun c hc => by
  have := List.all_eq_true.mp h c hc
  unfold isDig at this
  simpa using this
theorem dig_all {l : Sg} (h : NumText.AllDigits l) : l.all isDig = true := List.all_eq_true.mpr fun c hc => by
  have := h c hc
  unfold isDig
  simpa using this
theorem dgs_neg (r : Sg) : dgs (45 :: r) = r := rfl
theorem dgs_pos {w : Sg} (h : ∀ r, w ≠ 45 :: r) : dgs w = w := by
  unfold dgs
  split
  · rename_i r; exact absurd rfl (h r)
  · rfl
theorem valW_pos {w : Sg} (h : ∀ r, w ≠ 45 :: r) : valW w = ((NumText.digitsVal w : Nat) : Int) := by
  unfold valW
  split
  · rename_i r; exact absurd rfl (h r)
  · rfl
theorem intText_w {w : Sg} (h : numW w = true) (hl : w.length ≤ 640) : intText? (ts w) = some (valW w) := by
  obtain ⟨h1, h2⟩ := Bool.and_eq_true_iff.mp h
  have hc : (ts w).cps.toList = w := by simp [ts]
  have hn : (ts w).length ≤ 4300 := by
    have : (ts w).length = w.length := by simp [ts, Str.length]
    omega
  have ne : dgs w ≠ [] := fun e => by rw [e] at h2; cases h2
  by_cases hw : ∃ r, w = 45 :: r
  · obtain ⟨r, rfl⟩ := hw
    exact PySem.intText_neg hc (all_dig h1) ne hn
  · have hw' : ∀ r, w ≠ 45 :: r := fun r e => hw ⟨r, e⟩
    rw [dgs_pos hw'] at h1 ne
    rw [valW_pos hw']
    have := PySem.intText_digits (x := ts w) (by rw [hc]; exact all_dig h1) (by rw [hc]; exact ne) hn
    rw [hc] at this
    exact this
theorem numL_no45 (n : Nat) : ∀ r, digN n ≠ 45 :: r := fun r e => TL.numL_free (n := n) (s := 45) (by omega) (by rw [show TL.numL n = 45 :: r from e]; exact List.mem_cons_self)
theorem numS_w (i : Int) : numW (numS i) = true ∧ valW (numS i) = i := by
  cases i with
  | ofNat n =>
    have e : numS (Int.ofNat n) = digN n := numS_nat n
    rw [e]
    have h := numL_no45 n
    refine ⟨?_, ?_⟩
    · unfold numW
      rw [dgs_pos h, dig_all (TL.numL_digits n)]
      cases q : digN n with
      | nil => exact absurd q (TL.numL_ne n)
      | cons _ _ => rfl
    · rw [valW_pos h, TL.numL_val]
      rfl
  | negSucc n =>
    have e : numS (Int.negSucc n) = 45 :: digN (n + 1) := numS_neg n
    rw [e]
    refine ⟨?_, ?_⟩
    · unfold numW
      rw [dgs_neg, dig_all (TL.numL_digits (n + 1))]
      cases q : digN (n + 1) with
      | nil => exact absurd q (TL.numL_ne (n + 1))
      | cons _ _ => rfl
    · show -((NumText.digitsVal (TL.numL (n + 1)) : Nat) : Int) = _
      rw [TL.numL_val]
      rfl
/-- the number that a word tells -/
def whole (w : Sg) : Option Int := if numW w && (numS (valW w) == w) then some (valW w) else none
theorem whole_numS (i : Int) : whole (numS i) = some i := by
  obtain ⟨h1, h2⟩ := numS_w i
  unfold whole
  rw [h1, h2]
  simp
theorem whole_some {w : Sg} {i : Int} (h : whole w = some i) : w = numS i := by
  unfold whole at h
  by_cases c : (numW w && (numS (valW w) == w)) = true
  · rw [if_pos c] at h
    have e := (Bool.and_eq_true_iff.mp c).2
    cases h
    exact (eq_of_beq e).symm
  · rw [if_neg c] at h; cases h
theorem numS_inj {i j : Int} (h : numS i = numS j) : i = j := by
  have := whole_numS i
  rw [h, whole_numS] at this
  exact (Option.some.inj this).symm
theorem numS_ch (i : Int) : ∀ c ∈ numS i, c = 45 ∨ (48 ≤ c ∧ c ≤ 57) := by
  cases i with
  | ofNat n =>
    have e : numS (Int.ofNat n) = digN n := numS_nat n
    rw [e]
    exact fun c hc => .inr (TL.numL_digits n c hc)
  | negSucc n =>
    have e : numS (Int.negSucc n) = 45 :: digN (n + 1) := numS_neg n
    rw [e]
    intro c hc
    rcases List.mem_cons.mp hc with e | hc
    · exact .inl e
    · exact .inr (TL.numL_digits (n + 1) c hc)
theorem numS_free (i : Int) : 47 ∉ numS i := fun h => by
  have := numS_ch i 47 h
  omega
theorem numS_len {i : Int} {k : Nat} (hk : 0 < k) (h : i.natAbs < 10 ^ k) : (numS i).length ≤ k + 1 := by
  cases i with
  | ofNat n =>
    have e : numS (Int.ofNat n) = digN n := numS_nat n
    rw [e]
    have := TL.numL_len (n := n) hk h
    show (TL.numL n).length ≤ _
    omega
  | negSucc n =>
    have e : numS (Int.negSucc n) = 45 :: digN (n + 1) := numS_neg n
    rw [e]
    have := TL.numL_len (n := n + 1) hk h
    show (TL.numL (n + 1)).length + 1 ≤ _
    omega
theorem digitsVal_lt : ∀ (l : Sg) (a : Nat), NumText.AllDigits l → l.foldl (fun acc c => acc * 10 + (c - 48)) a < (a + 1) * 10 ^ l.length
  | [], a, _ => by simp
  | c :: r, a, h => by
    have hc := h.head
    rw [List.foldl_cons, List.length_cons]
    refine Nat.lt_of_lt_of_le (digitsVal_lt r _ h.tail) ?_
    rw [Nat.pow_succ, Nat.mul_comm (10 ^ r.length) 10, ← Nat.mul_assoc]
    exact Nat.mul_le_mul_right _ (by omega)
theorem valW_lt {w : Sg} (h : numW w = true) : (valW w).natAbs < 10 ^ w.length := by
  obtain ⟨h1, h2⟩ := Bool.and_eq_true_iff.mp h
  by_cases hw : ∃ r, w = 45 :: r
  · obtain ⟨r, rfl⟩ := hw
    have := digitsVal_lt r 0 (all_dig h1)
    show (-((NumText.digitsVal r : Nat) : Int)).natAbs < 10 ^ (r.length + 1)
    rw [Int.natAbs_neg, Int.natAbs_natCast]
    unfold NumText.digitsVal
    rw [Nat.pow_succ]
    omega
  · have hw' : ∀ r, w ≠ 45 :: r := fun r e => hw ⟨r, e⟩
    rw [dgs_pos hw'] at h1
    rw [valW_pos hw', Int.natAbs_natCast]
    have := digitsVal_lt w 0 (all_dig h1)
    unfold NumText.digitsVal
    omega
theorem log_of_dec {n k : Nat} (h : n < 10 ^ k) (hk : k ≤ 450) : n.log2 < 1900 := by
  by_cases hz : n = 0
  · subst hz; decide
  · rw [Nat.log2_lt hz]
    refine Nat.lt_of_lt_of_le h ?_
    calc 10 ^ k ≤ 16 ^ k := Nat.pow_le_pow_left (by omega) k
      _ = 2 ^ (4 * k) := by rw [show (16 : Nat) = 2 ^ 4 by decide, ← Nat.pow_mul]
      _ ≤ 2 ^ 1900 := Nat.pow_le_pow_right (by omega) (by omega)
end MP
end
section
set_option  maxHeartbeats  4000000
/-! Comprehensions over data, and texts, by their values. -/
namespace MP
theorem szOk {n : Nat} (h : n ≤ 16000000) : sizeOk n = true := decide_eq_true h
def isV : W → Bool
  | .v _ => true
  | _ => false
theorem lockR_v {α : Type} {ws : List W} {m m1 : M} {f : M → R α} {a : α} (hv : ws.all isV = true) (h : f m = .ok a m1) : lockR ws m f = .ok a m1 := by
  induction ws generalizing m with
  | nil => simp [lockR, h]
  | cons w ws ih =>
    rw [List.all_cons] at hv
    obtain ⟨h1, h2⟩ := Bool.and_eq_true_iff.mp hv
    cases w with
    | v d =>
      unfold lockR
      have e : lockC m (.v d) = m := rfl
      rw [e, ih h2 h]
      rfl
    | _ => cases h1
theorem compGo_fm {g : Tg} {ρ : List W} {cond : List W → M → R Bool} {elt : List W → M → R D} {ρ' : D → List W} {c : D → Bool} {f : D → D} {m : M} : ∀ {ds : List D}, (∀ d ∈ ds, setTg g d ρ = some (ρ' d)) → (∀ d ∈ ds, cond (ρ' d) m = .ok (c d) m) → (∀ d ∈ ds, c d = true → elt (ρ' d) m = .ok (f d) m) →
    compGo g ρ cond elt ds m = .ok ((ds.filter c).map f) m
  | [], _, _, _ => rfl
  | d :: ds, h1, h2, h3 => by
    unfold compGo
    rw [h1 d List.mem_cons_self]
    simp only [h2 d List.mem_cons_self, R.bnd_ok]
    have ih := compGo_fm (ds := ds) (fun x hx => h1 x (List.mem_cons_of_mem _ hx)) (fun x hx => h2 x (List.mem_cons_of_mem _ hx)) (fun x hx => h3 x (List.mem_cons_of_mem _ hx))
    cases e : c d with
    | true => simp [h3 d List.mem_cons_self e, ih, e]
    | false => simp [ih, e]
/-- a comprehension, by what its parts give -/
theorem comp_fm {H : Hd} {g : Tg} {it : It} {hc : Bool} {cond elt : E} {ρ : List W} {m : M} {ds : List D} {ws : List W} (hit : evIt H it ρ m = .ok (ds, ws) m) (hv : ws.all isV = true) (ρ' : D → List W) (c : D → Bool) (f : D → D)
    (h1 : ∀ d ∈ ds, setTg g d (wipeW ρ g.vars) = some (ρ' d)) (h2 : ∀ d ∈ ds, (if hc then (evE H cond (ρ' d) m).bnd asB else .ok true m) = .ok (c d) m) (h3 : ∀ d ∈ ds, c d = true → evE H elt (ρ' d) m = .ok (.v (f d)) m) (hz : ds.length ≤ 16000000) :
    evN H (.comp g it hc cond elt) ρ m = .ok (.lst false ((ds.filter c).map f)) m := by
  rw [z_comp, hit, R.bnd_ok]
  have q : compGo g (wipeW ρ g.vars) (fun ρ m => if hc then (evE H cond ρ m).bnd asB else .ok true m) (fun ρ m => (evE H elt ρ m).bnd (fzR H.P)) ds m = .ok ((ds.filter c).map f) m := compGo_fm h1 h2 fun d hd e => by
    rw [h3 d hd e, R.bnd_ok]
    rfl
  rw [lockR_v hv q, R.bnd_ok, if_pos]
  refine decide_eq_true ?_
  rw [List.length_map]
  exact Nat.le_trans (List.length_filter_le _ _) hz
/-- without a test -/
theorem comp_map {H : Hd} {g : Tg} {it : It} {cond elt : E} {ρ : List W} {m : M} {ds : List D} {ws : List W} (hit : evIt H it ρ m = .ok (ds, ws) m) (hv : ws.all isV = true) (ρ' : D → List W) (f : D → D)
    (h1 : ∀ d ∈ ds, setTg g d (wipeW ρ g.vars) = some (ρ' d)) (h3 : ∀ d ∈ ds, evE H elt (ρ' d) m = .ok (.v (f d)) m) (hz : ds.length ≤ 16000000) :
    evN H (.comp g it false cond elt) ρ m = .ok (.lst false (ds.map f)) m := by
  have := comp_fm (hc := false) (cond := cond) (elt := elt) hit hv ρ' (fun _ => true) f h1 (fun d _ => rfl) (fun d hd _ => h3 d hd) hz
  rw [List.filter_eq_self.mpr (fun _ _ => rfl)] at this
  exact this
/-! statement by statement -/
theorem st_to {H : Hd} {fr : Bool} {s : S} {l : Ss} {ρ ρ1 : List W} {m m1 : M} {o : O} (h1 : evS H fr s ρ m = .nx ρ1 m1) (h2 : evSs H fr l ρ1 m1 = o) : evSs H fr (.cons s l) ρ m = o := by
  simp only [z85, h1, O.seq_nx, h2]
theorem st_asg {H : Hd} {fr : Bool} {e : E} {i : Nat} {ρ : List W} {w : W} {m m1 : M} (h : evE H e ρ m = .ok w m1) : evS H fr (.asg (.n i) e) ρ m = .nx (ρ.set i w) m1 := by
  simp [h]
theorem st_chk {H : Hd} {fr : Bool} {e : E} {a : Ss} {ρ : List W} {m m1 : M} (h : evE H e ρ m = .ok (.v (.bl false)) m1) : evS H fr (.ite e a .nil) ρ m = .nx ρ m1 := by
  simp [h]
theorem st_ret {H : Hd} {e : E} {l : Ss} {ρ : List W} {m m1 : M} {d : D} (h : evE H e ρ m = .ok (.v d) m1) : evSs H false (.cons (.ret e) l) ρ m = .rt (.v d) m1 := by
  simp [h]
/-- if c: return e -/
theorem st_if {H : Hd} {c e : E} {l l' : Ss} {ρ : List W} {m m1 m2 : M} {d : D} (h : evE H c ρ m = .ok (.v (.bl true)) m1) (h' : evE H e ρ m1 = .ok (.v d) m2) : evSs H false (.cons (.ite c (.cons (.ret e) .nil) l) l') ρ m = .rt (.v d) m2 := by
  simp [h, h']
/-! texts -/
def okS (x : Sg) : Prop := (x.all fun c => decide (c < 1114112)) = true
theorem okS_mk {x : Sg} (h : ∀ c ∈ x, c < 1114112) : okS x := List.all_eq_true.mpr fun c hc => decide_eq_true (h c hc)
theorem okS_lt {x : Sg} (h : okS x) : ∀ c ∈ x, c < 1114112 := fun c hc => of_decide_eq_true (List.all_eq_true.mp h c hc)
theorem okS.app {x y : Sg} (h : okS x) (h' : okS y) : okS (x ++ y) := okS_mk fun c hc => by
  rcases List.mem_append.mp hc with q | q
  · exact okS_lt h c q
  · exact okS_lt h' c q
theorem okS.sub {x y : Sg} (h : okS x) (hs : ∀ c ∈ y, c ∈ x) : okS y := okS_mk fun c hc => okS_lt h c (hs c hc)
section
variable {H : Hd} {m : M}
theorem cw_eqss {x y : Sg} (hx : okS x) (hy : okS y) : cmpW H .eq (.v (.str x)) (.v (.str y)) m = .ok (.v (.bl (x == y))) m := by
  show R.opt (((eqD (.str x) (.str y)).or (cmpO H .eq (.str x) (.str y))).map fun b => W.v (.bl b)) m = _
  have h1 : plain 50 (.str x) = true := hx
  have h2 : plain 50 (.str y) = true := hy
  simp [eqD, h1, h2, eqB]
theorem cw_ness {x y : Sg} (hx : okS x) (hy : okS y) : cmpW H .ne (.v (.str x)) (.v (.str y)) m = .ok (.v (.bl (!(x == y)))) m := by
  show R.opt ((((eqD (.str x) (.str y)).map (!·)).or (cmpO H .ne (.str x) (.str y))).map fun b => W.v (.bl b)) m = _
  have h1 : plain 50 (.str x) = true := hx
  have h2 : plain 50 (.str y) = true := hy
  simp [eqD, h1, h2, eqB]
theorem bw_adds {x y : Sg} (h : x.length + y.length ≤ 16000000) : binW H .add (.v (.str x)) (.v (.str y)) m = .ok (.v (.str (x ++ y))) m := by
  show R.opt ((if sizeOk (x.length + y.length) then some (D.str (x ++ y)) else none).map W.v) m = _
  rw [if_pos (szOk h)]
  rfl
theorem sl_to {x : Sg} (hx : x.length ≤ 16000000) {k : Nat} : sliceW (.v (.str x)) none (some (k : Int)) m = .ok (.v (.str (x.take k))) m := by
  show R.opt ((if sizeOk x.length then some (D.str (cut x none (some (k : Int)))) else none).map W.v) m = _
  rw [if_pos (szOk hx)]
  have : cut x none (some (k : Int)) = x.take k := by
    unfold cut clip
    simp only [List.drop_zero, Nat.sub_zero]
    rw [if_neg (by omega)]
    by_cases h : k ≤ x.length
    · rw [show (max 0 (min (k : Int) (x.length : Int))).toNat = k by omega]
    · rw [show (max 0 (min (k : Int) (x.length : Int))).toNat = x.length by omega, List.take_of_length_le (Nat.le_refl _), List.take_of_length_le (by omega)]
  rw [this]
  rfl
theorem sl_from {x : Sg} (hx : x.length ≤ 16000000) {k : Nat} : sliceW (.v (.str x)) (some (k : Int)) none m = .ok (.v (.str (x.drop k))) m := by
  show R.opt ((if sizeOk x.length then some (D.str (cut x (some (k : Int)) none)) else none).map W.v) m = _
  rw [if_pos (szOk hx)]
  have : cut x (some (k : Int)) none = x.drop k := by
    unfold cut clip
    dsimp only
    rw [if_neg (by omega)]
    by_cases h : k ≤ x.length
    · rw [show (max 0 (min (k : Int) (x.length : Int))).toNat = k by omega, List.take_of_length_le (by rw [List.length_drop]; omega)]
    · rw [show (max 0 (min (k : Int) (x.length : Int))).toNat = x.length by omega, List.drop_eq_nil_of_le (Nat.le_refl _), List.drop_eq_nil_of_le (by omega)]
      simp
  rw [this]
  rfl
theorem bf_lens {x : Sg} (hx : x.length ≤ 16000000) : bfW H .len [.v (.str x)] m = .ok (.v (.int x.length)) m := by
  have e : lenD (.str x) = some x.length := if_pos (szOk hx)
  show R.opt (((lenD (.str x)).map fun n => D.int n).map W.v) m = _
  rw [e]
  rfl
theorem bf_strI {i : Int} (h : i.natAbs.log2 < 1900) : bfW H .str [.v (.int i)] m = .ok (.v (.str (numS i))) m := by
  show R.opt ((if i.natAbs.log2 < 1900 then some (D.str (numS i)) else none).map W.v) m = _
  rw [if_pos h]
  rfl
theorem bf_intS {x : Sg} {i : Int} (hl : x.length ≤ 640) (h : PySem.intText? (ts x) = some i) : bfW H .int [.v (.str x)] m = .ok (.v (.int i)) m := by
  show R.opt ((if x.length ≤ 640 then (PySem.intText? (ts x)).map D.int else none).map W.v) m = _
  rw [if_pos hl, h]
  rfl
/-- the signs of a text, walked -/
theorem it_str {x : Sg} (hx : x.length ≤ 16000000) {e : E} {ρ : List W} (he : evE H e ρ m = .ok (.v (.str x)) m) : evIt H (.e e) ρ m = .ok (x.map fun c => D.str [c], [.v (.str x)]) m := by
  rw [z56, he, R.bnd_ok]
  have : itemsD (.str x) = some (x.map fun c => D.str [c]) := if_pos (szOk hx)
  simp only [vw_v, Option.bind_some, this]
  rfl
theorem it_lst {xs : List D} {e : E} {ρ : List W} (he : evE H e ρ m = .ok (.v (.lst xs)) m) : evIt H (.e e) ρ m = .ok (xs, [.v (.lst xs)]) m := by
  rw [z56, he, R.bnd_ok]
  rfl
theorem cw_inS {c : Nat} {y : Sg} : cmpW H .mem (.v (.str [c])) (.v (.str y)) m = .ok (.v (.bl (y.contains c))) m := Eq.trans rfl rfl
theorem cw_ninS {c : Nat} {y : Sg} : cmpW H .nmem (.v (.str [c])) (.v (.str y)) m = .ok (.v (.bl (!y.contains c))) m := Eq.trans rfl rfl
end
end MP
end
section
set_option  maxHeartbeats  4000000
/-! Loops by an invariant. -/
namespace MP
theorem for_inv {g : Tg} {body : List W → M → O} {I : Nat → List W → M → Prop} : ∀ (ds : List D) (i : Nat) (ρ : List W) (m : M), I i ρ m → (∀ k d, ds[k]? = some d → ∀ ρ m, I (i + k) ρ m → ∃ ρ1 ρ2 m2, setTg g d ρ = some ρ1 ∧ body ρ1 m = .nx ρ2 m2 ∧ I (i + k + 1) ρ2 m2) →
    ∃ ρ' m', forGo g body ds ρ m = .nx ρ' m' ∧ I (i + ds.length) ρ' m'
  | [], i, ρ, m, h, _ => ⟨ρ, m, rfl, h⟩
  | d :: ds, i, ρ, m, h, hs => by
    obtain ⟨ρ1, ρ2, m2, e1, e2, h2⟩ := hs 0 d rfl ρ m h
    obtain ⟨ρ', m', e3, h3⟩ := for_inv (g := g) (body := body) (I := I) ds (i + 1) ρ2 m2 h2 (fun k x hx ρ m hi => by
      have := hs (k + 1) x hx ρ m (by rw [show i + (k + 1) = i + 1 + k by omega]; exact hi)
      rw [show i + (k + 1) + 1 = i + 1 + k + 1 by omega] at this
      exact this)
    refine ⟨ρ', m', ?_, by rw [List.length_cons, show i + (ds.length + 1) = i + 1 + ds.length by omega]; exact h3⟩
    rw [forGo, e1]
    dsimp only
    rw [e2]
    exact e3
theorem lockO_dat {d : D} {m : M} {f : M → O} : lockO [.v d] m f = f m := by
  unfold lockO
  have e : lockC m (.v d) = m := rfl
  rw [e]
  simp only [lockO, unlockC]
  cases f m <;> rfl
theorem st_for {H : Hd} {fr : Bool} {g : Tg} {e : E} {b : Ss} {ρ : List W} {m m1 : M} {ds : List D} {o : O} (he : evE H e ρ m = .ok (.v (.lst ds)) m1) (h : forGo g (fun ρ m => evSs H fr b ρ m) ds ρ m1 = o) : evS H fr (.for_ g (.e e) b) ρ m = o := by
  rw [z_for, z56, he, R.bnd_ok]
  show lockO [.v (.lst ds)] m1 _ = _
  rw [lockO_dat]
  exact h
theorem st_forS {H : Hd} {fr : Bool} {g : Tg} {e : E} {b : Ss} {ρ : List W} {m m1 : M} {x : Sg} {o : O} (hx : x.length ≤ 16000000) (he : evE H e ρ m = .ok (.v (.str x)) m1) (h : forGo g (fun ρ m => evSs H fr b ρ m) (x.map fun c => D.str [c]) ρ m1 = o) : evS H fr (.for_ g (.e e) b) ρ m = o := by
  rw [z_for, z56, he, R.bnd_ok]
  have e : itemsD (.str x) = some (x.map fun c => D.str [c]) := if_pos (szOk hx)
  simp only [vw_v, Option.bind_some, e]
  show lockO [.v (.str x)] m1 _ = _
  rw [lockO_dat]
  exact h
theorem st_forT {H : Hd} {fr : Bool} {g : Tg} {e : E} {b : Ss} {ρ : List W} {m m1 : M} {ds : List D} {o : O} (he : evE H e ρ m = .ok (.v (.tup ds)) m1) (h : forGo g (fun ρ m => evSs H fr b ρ m) ds ρ m1 = o) : evS H fr (.for_ g (.e e) b) ρ m = o := by
  rw [z_for, z56, he, R.bnd_ok]
  show lockO [.v (.tup ds)] m1 _ = _
  rw [lockO_dat]
  exact h
def natsD (k n : Nat) : List D := (List.range' k n).map fun (j : Nat) => D.int (j : Int)
theorem natsD_get {k n i : Nat} {d : D} (h : (natsD k n)[i]? = some d) : i < n ∧ d = .int ((k + i : Nat) : Int) := by
  unfold natsD at h
  rw [List.getElem?_map] at h
  by_cases hi : i < n
  · rw [List.getElem?_range' (by simpa using hi)] at h
    simp at h
    exact ⟨hi, by rw [← h]; simp⟩
  · rw [List.getElem?_eq_none (by simp; omega)] at h
    cases h
theorem natsD_len {k n : Nat} : (natsD k n).length = n := by simp [natsD]
theorem small_le {e : Nat} (he : e ≤ 4000000000) : small (e : Int) = true := Nat.ble_eq_true_of_le (Nat.le_trans he (by decide))
theorem st_forR {H : Hd} {fr : Bool} {g : Tg} {e : E} {b : Ss} {ρ : List W} {m m1 : M} {n : Nat} {o : O} (hn : n ≤ 4000000000) (he : evE H e ρ m = .ok (.v (.int (n : Int))) m1) (h : forGo g (fun ρ m => evSs H fr b ρ m) (natsD 0 n) ρ m1 = o) : evS H fr (.for_ g (.range1 e) b) ρ m = o := by
  rw [z_for, z57, he, R.bnd_ok]
  dsimp only
  rw [if_pos (small_le hn)]
  show forGo g _ (rangeD 0 (n : Int)) ρ m1 = _
  have hr : rangeD 0 (n : Int) = natsD 0 n := by
    unfold rangeD natsD
    rw [show ((n : Int) - 0).toNat = n by omega, List.range_eq_range']
    congr 1
    funext j
    rw [Int.zero_add]
  rw [hr]
  exact h
end MP
end
section
set_option  maxHeartbeats  4000000
namespace MP.K03
open MP MP.K02
def optI : Option Int → D
  | none => .non
  | some i => .int i
theorem contains_dig (c : Nat) : ([48, 49, 50, 51, 52, 53, 54, 55, 56, 57] : Sg).contains c = isDig c := by
  unfold isDig
  by_cases h : 48 ≤ c ∧ c ≤ 57
  · rw [decide_eq_true h.1, decide_eq_true h.2]
    have : c = 48 ∨ c = 49 ∨ c = 50 ∨ c = 51 ∨ c = 52 ∨ c = 53 ∨ c = 54 ∨ c = 55 ∨ c = 56 ∨ c = 57 := by omega
    rcases this with rfl | rfl | rfl | rfl | rfl | rfl | rfl | rfl | rfl | rfl <;> rfl
  · have e : (decide (48 ≤ c) && decide (c ≤ 57)) = false := by simp; omega
    rw [e]
    simp
    omega
theorem dgs_eq (w : Sg) : (if w.take 1 == [45] then w.drop 1 else w) = dgs w := by
  cases w with
  | nil => rfl
  | cons c r =>
    by_cases h : c = 45
    · subst h; rfl
    · rw [dgs_pos (fun q e => h (by cases e; rfl))]
      simp [h]
theorem dgs_len (w : Sg) : (dgs w).length ≤ w.length := by
  unfold dgs
  split
  · simp
  · exact Nat.le_refl _
theorem dgs_sub {w : Sg} : ∀ c ∈ dgs w, c ∈ w := by
  unfold dgs
  split
  · exact fun c hc => List.mem_cons_of_mem _ hc
  · exact fun c hc => hc
/-- short and of signs -/
structure Sh (w : Sg) : Prop where
  len : w.length ≤ 400
  ok : okS w
section
variable {P : Prog} {n : Nat} {m : M} {w : Sg}
theorem val_log (h : numW w = true) (s : Sh w) : (valW w).natAbs.log2 < 1900 := log_of_dec (valW_lt h) (by have := s.len; omega)
theorem val_ok (h : numW w = true) (s : Sh w) : okS (numS (valW w)) := okS_mk fun c hc => by
  have := numS_ch _ c hc
  omega
/-- what both readers of a word do at their end -/
theorem whole_end (H : Hd) {ρ : List W} (s : Sh w) (h : numW w = true) (hv : getV ρ 0 = some (.v (.str w))) : evE H (.ite (.cmp .eq (.bf .str (.cons (.bf .int (.cons (.var 0) .nil)) .nil)) (.var 0)) (.bf .int (.cons (.var 0) .nil)) .non) ρ m = .ok (.v (optI (whole w))) m := by
  have hi : ∀ m, bfW H .int [.v (.str w)] m = .ok (.v (.int (valW w))) m := fun m => bf_intS (by have := s.len; omega) (intText_w h (by have := s.len; omega))
  have hs : ∀ m, bfW H .str [.v (.int (valW w))] m = .ok (.v (.str (numS (valW w)))) m := fun m => bf_strI (val_log h s)
  have hq : ∀ m, cmpW H .eq (.v (.str (numS (valW w)))) (.v (.str w)) m = .ok (.v (.bl (numS (valW w) == w))) m := fun m => cw_eqss (val_ok h s) s.ok
  have hw : whole w = if (numS (valW w) == w) then some (valW w) else none := by
    unfold whole
    rw [h, Bool.true_and]
  rw [hw]
  cases e : (numS (valW w) == w) with
  | true => simp [hv, hi, hs, hq, e, optI]
  | false => simp [hv, hi, hs, hq, e, optI]
theorem dgs_ev (H : Hd) {ρ : List W} (s : Sh w) (hv : getV ρ 0 = some (.v (.str w))) : evE H (.ite (.cmp .eq (.slice (.var 0) .non (.int 1) false true) (.str [45])) (.slice (.var 0) (.int 1) .non true false) (.var 0)) ρ m = .ok (.v (.str (dgs w))) m := by
  have l := s.len
  have h1 : ∀ m, sliceW (.v (.str w)) none (some 1) m = .ok (.v (.str (w.take 1))) m := fun m => sl_to (k := 1) (by omega)
  have h2 : ∀ m, sliceW (.v (.str w)) (some 1) none m = .ok (.v (.str (w.drop 1))) m := fun m => sl_from (k := 1) (by omega)
  have h3 : ∀ m, cmpW H .eq (.v (.str (w.take 1))) (.v (.str [45])) m = .ok (.v (.bl (w.take 1 == [45]))) m := fun m => cw_eqss (s.ok.sub fun c hc => List.mem_of_mem_take hc) rfl
  rw [← dgs_eq w]
  cases e : (w.take 1 == [45]) with
  | true => simp [hv, h1, h2, h3, e]
  | false => simp [hv, h1, h2, h3, e]
theorem whole_no (h : numW w = false) : whole w = none := by
  unfold whole
  rw [h]
  rfl
theorem boolL_map (f : D → Bool) : ∀ ds : List D, boolL (ds.map fun d => D.bl (f d)) = some (ds.map f)
  | [] => rfl
  | d :: ds => by
    show (boolL (ds.map fun d => D.bl (f d))).map (f d :: ·) = _
    rw [boolL_map f ds]
    rfl
def chD : D → Nat
  | .str [c] => c
  | _ => 0
def dbits (x : Sg) : List D := (x.map fun c => D.str [c]).map fun d => D.bl (isDig (chD d))
def dodd (x : Sg) : List D := ((x.map fun c => D.str [c]).filter fun d => !isDig (chD d)).map id
theorem r_integer_of (f : P.fn 15 = some d_integer_of) (s : Sh w) : runF P (n + 1) 15 false [.v (.str w)] m = .ok (.v (optI (whole w))) m := by
  rw [run_eq f rfl]
  have en : entry d_integer_of [.v (.str w)] = [.v (.str w), .u, .u] := rfl
  rw [en]
  have l := s.len
  have ld := dgs_len w
  have hcomp : ∀ ρ : List W, ρ = [.v (.str w), .v (.str (dgs w)), .u] → evN ⟨P, runF P n⟩ (.comp (.n 2) (.e (.var 1)) false (.bl true) (.cmp .mem (.var 2) (.str [48, 49, 50, 51, 52, 53, 54, 55, 56, 57]))) ρ m = .ok (.lst false (dbits (dgs w))) m := by
    rintro _ rfl
    refine comp_map (it_str (by omega) (by simp)) rfl (fun d => [.v (.str w), .v (.str (dgs w)), .v d]) (fun d => .bl (isDig (chD d))) (fun d _ => rfl) (fun d hd => ?_) (by rw [List.length_map]; omega)
    obtain ⟨c, _, rfl⟩ := List.mem_map.mp hd
    have : ∀ m, cmpW ⟨P, runF P n⟩ .mem (.v (.str [c])) (.v (.str [48, 49, 50, 51, 52, 53, 54, 55, 56, 57])) m = .ok (.v (.bl (isDig c))) m := fun m => by rw [cw_inS, contains_dig]
    simp [this, chD]
  have hall : ∀ m, bfW ⟨P, runF P n⟩ .all [.v (.lst (dbits (dgs w)))] m = .ok (.v (.bl ((dgs w).all isDig))) m := fun m => by
    show R.opt (((boolL (dbits (dgs w))).map fun l => D.bl (l.all id)).map W.v) m = _
    unfold dbits
    rw [boolL_map]
    have : (((dgs w).map fun c => D.str [c]).map fun d => isDig (chD d)).all id = (dgs w).all isDig := by
      rw [List.map_map, List.all_map]
      rfl
    rw [Option.map_some, this]
    rfl
  have hlen : ∀ m, bfW ⟨P, runF P n⟩ .len [.v (.str (dgs w))] m = .ok (.v (.int (dgs w).length)) m := fun m => bf_lens (by omega)
  simp only [d_integer_of]
  rw [z85, z66, dgs_ev _ s rfl]
  simp only [R.thn_ok, List.set_cons_succ, List.set_cons_zero, O.seq_nx]
  by_cases h : numW w = true
  · obtain ⟨h1, h2⟩ := Bool.and_eq_true_iff.mp h
    have ne : 1 ≤ (dgs w).length := by
      cases q : dgs w with
      | nil => rw [q] at h2; cases h2
      | cons _ _ => simp
    have ne' : (1 : Int) ≤ ((dgs w).length : Int) := by omega
    have le' : ((dgs w).length : Int) ≤ 4000 := by omega
    have e1 := whole_end ⟨P, runF P n⟩ (m := m) (ρ := [.v (.str w), .v (.str (dgs w)), .u]) s h rfl
    rw [st_to (st_chk (m1 := m) (by simp [hlen, hcomp, hall, h1, ne', le'])) (st_ret e1)]
    simp
  · have h' : numW w = false := by simpa using h
    rw [whole_no h']
    by_cases hz : (dgs w).length = 0
    · have : ¬ (1 : Int) ≤ ((dgs w).length : Int) := by omega
      simp [hlen, this, optI]
    · have ne' : (1 : Int) ≤ ((dgs w).length : Int) := by omega
      have le' : ((dgs w).length : Int) ≤ 4000 := by omega
      have hd : (dgs w).all isDig = false := by
        cases q : (dgs w).all isDig with
        | false => rfl
        | true =>
          unfold numW at h'
          rw [q] at h'
          cases q2 : dgs w with
          | nil => rw [q2] at hz; exact absurd rfl hz
          | cons _ _ => rw [q2] at h'; cases h'
      simp [hlen, hcomp, hall, hd, ne', le', optI]
theorem r_lwhole (f : P.fn 204 = some d__law_whole) (s : Sh w) : runF P (n + 1) 204 false [.v (.str w)] m = .ok (.v (optI (whole w))) m := by
  rw [run_eq f rfl]
  have en : entry d__law_whole [.v (.str w)] = [.v (.str w), .u, .u] := rfl
  rw [en]
  have l := s.len
  have ld := dgs_len w
  have okd : okS (dgs w) := s.ok.sub dgs_sub
  have hcomp : ∀ ρ : List W, ρ = [.v (.str w), .v (.str (dgs w)), .u] → evN ⟨P, runF P n⟩ (.comp (.n 2) (.e (.var 1)) true (.cmp .nmem (.var 2) (.str [48, 49, 50, 51, 52, 53, 54, 55, 56, 57])) (.var 2)) ρ m = .ok (.lst false (dodd (dgs w))) m := by
    rintro _ rfl
    refine comp_fm (it_str (by omega) (by simp)) rfl (fun d => [.v (.str w), .v (.str (dgs w)), .v d]) (fun d => !isDig (chD d)) id (fun d _ => rfl) (fun d hd => ?_) (fun d _ _ => by simp) (by rw [List.length_map]; omega)
    obtain ⟨c, _, rfl⟩ := List.mem_map.mp hd
    have : ∀ m, cmpW ⟨P, runF P n⟩ .nmem (.v (.str [c])) (.v (.str [48, 49, 50, 51, 52, 53, 54, 55, 56, 57])) m = .ok (.v (.bl (!isDig c))) m := fun m => by rw [cw_ninS, contains_dig]
    simp [this, chD]
  have hne : ∀ m, cmpW ⟨P, runF P n⟩ .ne (.v (.lst (dodd (dgs w)))) (.v (.lst [])) m = .ok (.v (.bl (!(dgs w).all isDig))) m := fun m => by
    have hp : plainL 49 (dodd (dgs w)) = true := by
      have gen : ∀ ds : List D, (∀ d ∈ ds, plain 49 d = true) → plainL 49 ds = true := by
        intro ds
        induction ds with
        | nil => intro _; rfl
        | cons d ds ih => intro h; simp [plainL, h d List.mem_cons_self, ih fun x hx => h x (List.mem_cons_of_mem _ hx)]
      refine gen _ fun d hd => ?_
      unfold dodd at hd
      rw [List.map_id] at hd
      obtain ⟨c, hc, rfl⟩ := List.mem_map.mp (List.mem_filter.mp hd).1
      have : c < 1114112 := okS_lt okd c hc
      simp [plain, this]
    rw [cw_nel hp rfl]
    have : eqBs (dodd (dgs w)) [] = (dgs w).all isDig := by
      unfold dodd
      rw [List.map_id]
      generalize dgs w = l
      induction l with
      | nil => rfl
      | cons c r ih =>
        rw [List.map_cons, List.all_cons]
        cases q : isDig c with
        | true =>
          rw [List.filter_cons_of_neg (by simp [chD, q]), ih]
          rfl
        | false =>
          rw [List.filter_cons_of_pos (by simp [chD, q])]
          rfl
    rw [this]
  have heq : ∀ m, cmpW ⟨P, runF P n⟩ .eq (.v (.str (dgs w))) (.v (.str [])) m = .ok (.v (.bl (dgs w == []))) m := fun m => cw_eqss okd rfl
  simp only [d__law_whole]
  rw [z85, z66, dgs_ev _ s rfl]
  simp only [R.thn_ok, List.set_cons_succ, List.set_cons_zero, O.seq_nx]
  by_cases h : numW w = true
  · obtain ⟨h1, h2⟩ := Bool.and_eq_true_iff.mp h
    have ne : (dgs w == []) = false := by
      cases q : dgs w with
      | nil => rw [q] at h2; cases h2
      | cons _ _ => rfl
    have e1 := whole_end ⟨P, runF P n⟩ (m := m) (ρ := [.v (.str w), .v (.str (dgs w)), .u]) s h rfl
    rw [st_to (st_chk (m1 := m) (by simp [heq, hcomp, hne, h1, ne, sizeOk])) (st_ret e1)]
    simp
  · have h' : numW w = false := by simpa using h
    rw [whole_no h']
    cases hz : (dgs w == []) with
    | true => simp [heq, hz, optI]
    | false =>
      have hd : (dgs w).all isDig = false := by
        cases q : (dgs w).all isDig with
        | false => rfl
        | true =>
          unfold numW at h'
          rw [q] at h'
          cases q2 : dgs w with
          | nil => rw [q2] at hz; cases hz
          | cons _ _ => rw [q2] at h'; cases h'
      simp [heq, hz, hcomp, hne, hd, sizeOk, optI]
end
end MP.K03
end
section
set_option  maxHeartbeats  4000000
namespace MP.K03
open MP MP.K02
def rtext (q : Rat) : Sg := if q.den = 1 then numS q.num else numS q.num ++ 47 :: numS (q.den : Int)
def rdP : List Sg → Option Rat
  | [a] => (whole a).map fun i => (i : Rat)
  | [a, b] => match whole a, whole b with
    | some i, some j => if 1 < j ∧ (Rat.divInt i j).num = i ∧ ((Rat.divInt i j).den : Int) = j then some (Rat.divInt i j) else none
    | _, _ => none
  | _ => none
def rd (x : Sg) : Option Rat := rdP (splitS 47 [] x)
theorem rd_rtext (q : Rat) : rd (rtext q) = some q := by
  unfold rd rtext
  by_cases h : q.den = 1
  · rw [if_pos h]
    have e : splitS 47 [] (numS q.num) = [numS q.num] := split_of_join (s := 47) (ps := [numS q.num]) (by simp) (by simp; exact numS_free _)
    rw [e]
    show (whole (numS q.num)).map (fun i => (i : Rat)) = _
    rw [whole_numS]
    have h2 := Rat.num_divInt_den q
    rw [h] at h2
    show some ((q.num : Int) : Rat) = _
    rw [← h2]
    congr 1
    rw [show ((1 : Nat) : Int) = 1 from rfl, divInt_one, Rat.num_intCast]
  · rw [if_neg h]
    have e : splitS 47 [] (numS q.num ++ 47 :: numS (q.den : Int)) = [numS q.num, numS (q.den : Int)] := split_of_join (s := 47) (ps := [numS q.num, numS (q.den : Int)]) (by simp) (by
      intro p hp
      simp at hp
      rcases hp with rfl | rfl <;> exact numS_free _)
    rw [e]
    show (match whole (numS q.num), whole (numS (q.den : Int)) with
      | some i, some j => if 1 < j ∧ (Rat.divInt i j).num = i ∧ ((Rat.divInt i j).den : Int) = j then some (Rat.divInt i j) else none
      | _, _ => none) = some q
    rw [whole_numS, whole_numS]
    dsimp only
    rw [Rat.num_divInt_den, if_pos]
    have := q.den_pos
    exact ⟨by omega, rfl, rfl⟩
theorem two_iff {x a b : Sg} {i j : Int} (hp : splitS 47 [] x = [a, b]) (ha : whole a = some i) (hb : whole b = some j) (hz : j ≠ 0) : (rtext (Rat.divInt i j) = x) ↔ (1 < j ∧ (Rat.divInt i j).num = i ∧ ((Rat.divInt i j).den : Int) = j) := by
  have ex : x = numS i ++ 47 :: numS j := by
    have := splitS_join 47 x []
    rw [hp, whole_some ha, whole_some hb] at this
    simpa [joinS] using this.symm
  generalize Rat.divInt i j = q
  unfold rtext
  constructor
  · intro h
    by_cases hd : q.den = 1
    · rw [if_pos hd, ex] at h
      exact absurd (show 47 ∈ numS q.num by rw [h]; simp) (numS_free _)
    · rw [if_neg hd, ex] at h
      obtain ⟨e1, e2⟩ := app_uniq (numS_free _) (numS_free _) h
      have h1 := numS_inj e1
      have h2 := numS_inj e2
      have := q.den_pos
      exact ⟨by omega, h1, h2⟩
  · rintro ⟨h1, h2, h3⟩
    rw [if_neg (by omega), ex, h2, h3]
theorem one_eq {x a : Sg} {i : Int} (hp : splitS 47 [] x = [a]) (ha : whole a = some i) : rtext (i : Rat) = x := by
  have ex : x = numS i := by
    have := splitS_join 47 x []
    rw [hp, whole_some ha] at this
    simpa [joinS] using this.symm
  unfold rtext
  rw [Rat.den_intCast, if_pos rfl, Rat.num_intCast, ex]
theorem ten_two : 10 ^ 400 < 2 ^ 1600 := by decide +kernel
theorem whole_sm {w : Sg} {i : Int} (s : Sh w) (h : whole w = some i) : Sm 1600 i := by
  unfold whole at h
  by_cases c : (numW w && (numS (valW w) == w)) = true
  · rw [if_pos c] at h
    have e := (Bool.and_eq_true_iff.mp c).1
    cases h
    refine Nat.lt_of_lt_of_le (valW_lt e) (Nat.le_trans (Nat.pow_le_pow_right (by omega) s.len) (Nat.le_of_lt ten_two))
  · rw [if_neg c] at h; cases h
theorem part_sh {x : Sg} (s : Sh x) : ∀ p ∈ splitS 47 [] x, Sh p := by
  have gen : ∀ (x acc : Sg), ∀ p ∈ splitS 47 acc x, p.length ≤ acc.length + x.length ∧ ∀ c ∈ p, c ∈ acc ∨ c ∈ x := by
    intro x
    induction x with
    | nil => intro acc p hp; simp [splitS] at hp; subst hp; exact ⟨by simp, fun c hc => .inl hc⟩
    | cons c r ih =>
      intro acc p hp
      unfold splitS at hp
      split at hp
      · rcases List.mem_cons.mp hp with e | e
        · subst e; exact ⟨by simp, fun c hc => .inl hc⟩
        · obtain ⟨h1, h2⟩ := ih [] p e
          refine ⟨by simp at h1 ⊢; omega, fun d hd => ?_⟩
          rcases h2 d hd with q | q
          · simp at q
          · exact .inr (List.mem_cons_of_mem _ q)
      · obtain ⟨h1, h2⟩ := ih _ p hp
        refine ⟨by simp at h1 ⊢; omega, fun d hd => ?_⟩
        rcases h2 d hd with q | q
        · rcases List.mem_append.mp q with q | q
          · exact .inl q
          · exact .inr (by rw [List.mem_singleton.mp q]; exact List.mem_cons_self)
        · exact .inr (List.mem_cons_of_mem _ q)
  intro p hp
  obtain ⟨h1, h2⟩ := gen x [] p hp
  refine ⟨by have := s.len; simp at h1; omega, s.ok.sub fun c hc => ?_⟩
  rcases h2 c hc with q | q
  · simp at q
  · exact q
theorem split_len (x acc : Sg) : (splitS 47 acc x).length ≤ x.length + 1 := by
  induction x generalizing acc with
  | nil => simp [splitS]
  | cons c r ih =>
    unfold splitS
    split
    · have := ih []
      simp
      exact this
    · have := ih (acc ++ [c])
      simp
      omega
/-- the words' numbers -/
def wds (x : Sg) : List D := (splitS 47 [] x).map fun w => optI (whole w)
def strD : D → Sg
  | .str x => x
  | _ => []
section
variable {P : Prog} {n : Nat} {m : M}
theorem fm_i {α : Type} {i : Int} {acc : Sg} {f : Sg → R α} (h : i.natAbs.log2 < 1900) (hz : acc.length + (numS i).length ≤ 16000000) : fmtW (.v (.int i)) acc f = f (acc ++ numS i) := by
  unfold fmtW
  have : fmtD (.int i) = some (numS i) := if_pos h
  dsimp only
  rw [this]
  exact if_pos (szOk hz)
theorem fm_s {α : Type} {x : Sg} {acc : Sg} {f : Sg → R α} (hz : acc.length + x.length ≤ 16000000) : fmtW (.v (.str x)) acc f = f (acc ++ x) := by
  unfold fmtW
  exact if_pos (szOk hz)
theorem numS_le {i : Int} (h : Sm 1600 i) : (numS i).length ≤ 1700 := by
  have h2 : (2 : Nat) ^ 1600 ≤ 10 ^ 1600 := Nat.pow_le_pow_left (by omega) 1600
  have := numS_len (k := 1600) (by omega) (Nat.lt_of_lt_of_le h h2)
  omega
theorem r_text (f : P.fn 14 = some d_Ratio_text) (q : Rat) (hq : Rs 1600 q) : runF P (n + 1) 14 false [.v (ratD q)] m = .ok (.v (.str (rtext q))) m := by
  rw [run_eq f rfl]
  have en : entry d_Ratio_text [.v (ratD q)] = [.v (ratD q)] := rfl
  rw [en]
  have l1 : q.num.natAbs.log2 < 1900 := Nat.lt_of_le_of_lt hq.1.log (by omega)
  have l2 : ((q.den : Int)).natAbs.log2 < 1900 := Nat.lt_of_le_of_lt hq.2.log (by omega)
  have s1 := numS_le hq.1
  have s2 := numS_le hq.2
  have b1 : ∀ m, bfW ⟨P, runF P n⟩ .str [.v (.int q.num)] m = .ok (.v (.str (numS q.num))) m := fun m => bf_strI l1
  simp only [d_Ratio_text]
  unfold rtext
  by_cases h : q.den = 1
  · have h' : ((q.den : Int)) = 1 := by omega
    rw [if_pos h]
    simp [ratD, h', b1]
  · have h' : ¬ ((q.den : Int)) = 1 := by omega
    have hl : (numS q.num ++ [47]).length = (numS q.num).length + 1 := by simp
    rw [if_neg h]
    simp [ratD, h', fm_i l1 (acc := []) (by simp; omega), fm_s (acc := numS q.num) (x := [47]) (by simp; omega), fm_i l2 (acc := numS q.num ++ [47]) (by rw [hl]; omega)]
/-- the list of the words' numbers -/
theorem wds_ev {H : Hd} {fi ix iw : Nat} {x : Sg} {ρ : List W} (s : Sh x) (hx : getV ρ ix = some (.v (.str x))) (hfn : ∀ w, fnArgs H.P fi [w] = some [w]) (hcall : ∀ w : Sg, Sh w → ∀ m, H.call fi false [.v (.str w)] m = .ok (.v (optI (whole w))) m) (hg : ∀ d, getV ((wipeW ρ [iw]).set iw (.v d)) iw = some (.v d)) :
    evN H (.comp (.n iw) (.e (.split (.var ix) (.str [47]))) false (.bl true) (.call fi false (.cons (.var iw) .nil))) ρ m = .ok (.lst false (wds x)) m := by
  have l := s.len
  have hs : ∀ m, splitW x (.v (.str [47])) m = .ok (.v (.lst ((splitS 47 [] x).map D.str))) m := fun m => by
    unfold splitW
    dsimp only
    rw [if_pos]
    rw [szOk (by omega)]
    rfl
  have hit : evIt H (.e (.split (.var ix) (.str [47]))) ρ m = .ok ((splitS 47 [] x).map D.str, [.v (.lst ((splitS 47 [] x).map D.str))]) m := it_lst (by simp [hx, strW, hs])
  have := comp_map (H := H) (g := .n iw) (cond := .bl true) (elt := .call fi false (.cons (.var iw) .nil)) hit rfl (fun d => (wipeW ρ [iw]).set iw (.v d)) (fun d => optI (whole (strD d))) (fun d _ => rfl) (fun d hd => by
    obtain ⟨w, hw, rfl⟩ := List.mem_map.mp hd
    have := hcall w (part_sh s w hw) m
    simp [hg, hfn, this, strD]) (by
    rw [List.length_map]
    have := split_len x []
    omega)
  rw [this, List.map_map]
  rfl
theorem optI_plain (o : Option Int) (k : Nat) : plain k (optI o) = true := by
  cases o <;> cases k <;> rfl
theorem wds_plain (x : Sg) : plainL 50 (wds x) = true := by
  unfold wds
  induction splitS 47 [] x with
  | nil => rfl
  | cons w r ih => simp only [List.map_cons, plainL, optI_plain, ih]; rfl
theorem mem_non {H : Hd} {ds : List D} (h : plainL 50 ds = true) : cmpW H .mem (.v .non) (.v (.lst ds)) m = .ok (.v (.bl (ds.any fun y => eqB y .non))) m := by
  show R.opt (((memL .non ds).or (cmpO H .mem .non (.lst ds))).map fun b => W.v (.bl b)) m = _
  have : memL .non ds = some (ds.any fun y => eqB y .non) := if_pos (by rw [h]; rfl)
  rw [this]
  rfl
theorem mem_int {H : Hd} {ds : List D} (i : Int) (h : plainL 50 ds = true) : cmpW H .mem (.v (.int i)) (.v (.lst ds)) m = .ok (.v (.bl (ds.any fun y => eqB y (.int i)))) m := by
  show R.opt (((memL (.int i) ds).or (cmpO H .mem (.int i) (.lst ds))).map fun b => W.v (.bl b)) m = _
  have : memL (.int i) ds = some (ds.any fun y => eqB y (.int i)) := if_pos (by rw [h]; rfl)
  rw [this]
  rfl
theorem sl_tail (d : D) (ds : List D) : sliceW (.v (.lst (d :: ds))) (some 1) none m = .ok (.v (.lst ds)) m := by
  show R.opt ((some (D.lst (cut (d :: ds) (some 1) none))).map W.v) m = _
  have : cut (d :: ds) (some 1) none = ds := by
    unfold cut clip
    dsimp only
    rw [if_neg (by omega)]
    rw [show (max 0 (min (1 : Int) ((d :: ds).length : Int))).toNat = 1 by rw [List.length_cons]; omega]
    rw [List.drop_one, List.tail_cons, List.take_of_length_le (by simp)]
  rw [this]
  rfl
end
end MP.K03
end
section
set_option  maxHeartbeats  4000000
namespace MP.K03
open MP MP.K02
def optPr : Option Rat → D
  | none => .non
  | some q => prD q
structure TxtP (P : Prog) : Prop where
  hP : RatP P
  f5 : P.fn 5 = some d_Ratio_read
  f14 : P.fn 14 = some d_Ratio_text
  f15 : P.fn 15 = some d_integer_of
  n13 : P.nf 13 = 0
  x13 : isExc P 13 = true
  g3 : P.fn 203 = some MP.K02.d__law_frac
  g4 : P.fn 204 = some d__law_whole
  g5 : P.fn 205 = some d__law_due
  g6 : P.fn 206 = some d__law_read
theorem rdP_one (a : Sg) : rdP [a] = (whole a).map fun i => (i : Rat) := rfl
theorem rdP_two (a b : Sg) : rdP [a, b] = match whole a, whole b with
    | some i, some j => if 1 < j ∧ (Rat.divInt i j).num = i ∧ ((Rat.divInt i j).den : Int) = j then some (Rat.divInt i j) else none
    | _, _ => none := rfl
theorem any_non {ws : List Sg} (h : ∃ w ∈ ws, whole w = none) : ((ws.map fun w => optI (whole w)).any fun y => eqB y .non) = true := by
  obtain ⟨w, hw, e⟩ := h
  refine List.any_eq_true.mpr ⟨optI (whole w), List.mem_map.mpr ⟨w, hw, rfl⟩, ?_⟩
  rw [e]
  rfl
section
variable {P : Prog} (T : TxtP P) {n : Nat} {m : M}
include T
theorem r_read {x : Sg} (s : Sh x) : runF P (n + 4) 5 false [.v (.cls 0), .v (.str x)] m = match rd x with
    | some q => .ok (.v (ratD q)) m
    | none => .exc 13 [] m := by
  have hP := T.hP
  rw [run_eq T.f5 rfl]
  have en : entry d_Ratio_read [.v (.cls 0), .v (.str x)] = [.v (.cls 0), .v (.str x), .u, .u, .u] := rfl
  rw [en]
  have hw := wds_ev (H := ⟨P, runF P (n + 3)⟩) (m := m) (fi := 15) (ix := 1) (iw := 4) (ρ := [.v (.cls 0), .v (.str x), .u, .u, .u]) s rfl (fun w => fa1 T.f15 rfl rfl w) (fun w sw m => r_integer_of (n := n + 2) T.f15 sw) (fun d => rfl)
  have a1 : evS ⟨P, runF P (n + 3)⟩ false (.asg (.n 2) (.nw false (.comp (.n 4) (.e (.split (.var 1) (.str [47]))) false (.bl true) (.call 15 false (.cons (.var 4) .nil))))) [.v (.cls 0), .v (.str x), .u, .u, .u] m = .nx [.v (.cls 0), .v (.str x), .v (.lst (wds x)), .u, .u] m := st_asg (by rw [z40, hw]; rfl)
  have mn := fun m => mem_non (H := ⟨P, runF P (n + 3)⟩) (m := m) (wds_plain x)
  have bad : ∀ {b}, evE ⟨P, runF P (n + 3)⟩ (.or (.cmp .mem .non (.var 2)) (.or (.cmp .gt (.bf .len (.cons (.var 2) .nil)) (.int 2)) (.cmp .mem (.int 0) (.slice (.var 2) (.int 1) .non true false)))) [.v (.cls 0), .v (.str x), .v (.lst (wds x)), .u, .u] m = .ok (.v (.bl true)) m → rd x = none → endR (evSs ⟨P, runF P (n + 3)⟩ false d_Ratio_read.body [.v (.cls 0), .v (.str x), .u, .u, .u] m) b = .exc 13 [] (m.take b) := by
    intro b hb _
    simp only [d_Ratio_read]
    rw [st_to a1 (o := .exc 13 [] [.v (.cls 0), .v (.str x), .v (.lst (wds x)), .u, .u] m)]
    · rfl
    · rw [z85, z79, hb]
      simp [T.n13]
  have tk : m.take m.length = m := List.take_length
  -- by the number of words
  match hp : splitS 47 [] x with
  | [] => exact absurd hp (splitS_ne _ _ _)
  | [a] =>
    have ew : wds x = [optI (whole a)] := by unfold wds; rw [hp]; rfl
    have sa : Sh a := part_sh s a (by rw [hp]; exact List.mem_cons_self)
    cases ha : whole a with
    | none =>
      have er : rd x = none := by unfold rd; rw [hp, rdP_one, ha]; rfl
      rw [er]
      dsimp only
      rw [bad ?_ er, tk]
      have : ((wds x).any fun y => eqB y .non) = true := by
        unfold wds
        rw [hp]
        exact any_non ⟨a, by simp, ha⟩
      simp [mn, this]
    | some i =>
      have er : rd x = some (i : Rat) := by unfold rd; rw [hp, rdP_one, ha]; rfl
      rw [er]
      rw [ha] at ew
      replace ew : wds x = [.int i] := ew
      have mn1 : ∀ m, cmpW ⟨P, runF P (n + 3)⟩ .mem (.v .non) (.v (.lst [.int i])) m = .ok (.v (.bl false)) m := fun m => by rw [mem_non rfl]; rfl
      have si := whole_sm sa ha
      have k1 : ∀ m, mkObj ⟨P, runF P (n + 3)⟩ 0 false [.v (.int i)] m = .ok (.v (ratD (i : Rat))) m := fun m => r_mk1 hP (n := n + 1) (m := m) i
      have sq : Rs 1600 (i : Rat) := Rs.int si (by omega)
      have k2 : ∀ m, runF P (n + 3) 14 false [.v (ratD (i : Rat))] m = .ok (.v (.str (rtext (i : Rat)))) m := fun m => r_text (n := n + 2) T.f14 _ sq
      rw [one_eq hp ha] at k2
      have k3 : ∀ m, cmpW ⟨P, runF P (n + 3)⟩ .ne (.v (.str x)) (.v (.str x)) m = .ok (.v (.bl false)) m := fun m => by rw [cw_ness s.ok s.ok]; simp
      have io : ∀ m, isObj 0 m (.v (ratD (i : Rat))) = true := fun m => by simp [ratD, isObj]
      have mi : ∀ m, cmpW ⟨P, runF P (n + 3)⟩ .mem (.v (.int 0)) (.v (.lst [])) m = .ok (.v (.bl false)) m := fun m => by rw [mem_int 0 rfl]; rfl
      rw [ew] at a1
      simp only [d_Ratio_read]
      generalize (i : Rat) = q at *
      rw [st_to a1 (o := .rt (.v (ratD q)) m)]
      · simp
      · refine st_to (st_chk (m1 := m) ?_) (st_to (st_asg (w := .v (ratD q)) (m1 := m) ?_) (st_to (st_chk (m1 := m) ?_) (st_ret ?_)))
        · simp [mn1, sl_tail, mi]
        · simp [k1]
        · simp [io, fa1 T.f14 rfl rfl, k2, k3]
        · simp
  | [a, b] =>
    have ew : wds x = [optI (whole a), optI (whole b)] := by unfold wds; rw [hp]; rfl
    have sa : Sh a := part_sh s a (by rw [hp]; exact List.mem_cons_self)
    have sb : Sh b := part_sh s b (by rw [hp]; simp)
    by_cases hn : whole a = none ∨ whole b = none
    · have er : rd x = none := by
        unfold rd
        rw [hp, rdP_two]
        rcases hn with h | h
        · rw [h]
        · rw [h]; cases whole a <;> rfl
      rw [er]
      dsimp only
      rw [bad ?_ er, tk]
      have : ((wds x).any fun y => eqB y .non) = true := by
        unfold wds
        rw [hp]
        refine any_non ?_
        rcases hn with h | h
        · exact ⟨a, by simp, h⟩
        · exact ⟨b, by simp, h⟩
      simp [mn, this]
    · obtain ⟨i, ha⟩ := Option.ne_none_iff_exists'.mp (fun h => hn (.inl h))
      obtain ⟨j, hb⟩ := Option.ne_none_iff_exists'.mp (fun h => hn (.inr h))
      rw [ha, hb] at ew
      replace ew : wds x = [.int i, .int j] := ew
      have mn1 : ∀ m, cmpW ⟨P, runF P (n + 3)⟩ .mem (.v .non) (.v (.lst [.int i, .int j])) m = .ok (.v (.bl false)) m := fun m => by rw [mem_non rfl]; rfl
      have si := whole_sm sa ha
      have sj := whole_sm sb hb
      have mi : ∀ m, cmpW ⟨P, runF P (n + 3)⟩ .mem (.v (.int 0)) (.v (.lst [.int j])) m = .ok (.v (.bl (j == 0))) m := fun m => by rw [mem_int 0 rfl]; simp [eqB]
      have er : rd x = if 1 < j ∧ (Rat.divInt i j).num = i ∧ ((Rat.divInt i j).den : Int) = j then some (Rat.divInt i j) else none := by
        unfold rd
        rw [hp, rdP_two, ha, hb]
      by_cases hz : j = 0
      · have er2 : rd x = none := by rw [er, if_neg (by omega)]
        rw [er2]
        dsimp only
        rw [bad ?_ er2, tk]
        subst hz
        rw [ew]
        simp [mn1, sl_tail, mi]
      · have k1 : ∀ m, mkObj ⟨P, runF P (n + 3)⟩ 0 false [.v (.int i), .v (.int j)] m = .ok (.v (ratD (Rat.divInt i j))) m := fun m => r_mk hP (n := n + 1) (m := m) i j (sj.mono (by omega)) hz
        have sq : Rs 1600 (Rat.divInt i j) := divInt_sm si sj hz
        have k2 : ∀ m, runF P (n + 3) 14 false [.v (ratD (Rat.divInt i j))] m = .ok (.v (.str (rtext (Rat.divInt i j)))) m := fun m => r_text (n := n + 2) T.f14 _ sq
        have ti := two_iff hp ha hb hz
        have okt : okS (rtext (Rat.divInt i j)) := okS_mk fun c hc => by
          unfold rtext at hc
          split at hc
          · have := numS_ch _ c hc; omega
          · rcases List.mem_append.mp hc with q | q
            · have := numS_ch _ c q; omega
            · rcases List.mem_cons.mp q with q | q
              · omega
              · have := numS_ch _ c q; omega
        have k3 : ∀ m, cmpW ⟨P, runF P (n + 3)⟩ .ne (.v (.str (rtext (Rat.divInt i j)))) (.v (.str x)) m = .ok (.v (.bl (!(rtext (Rat.divInt i j) == x)))) m := fun m => cw_ness okt s.ok
        have io : ∀ m, isObj 0 m (.v (ratD (Rat.divInt i j))) = true := fun m => by simp [ratD, isObj]
        have hz' : ¬ (0 : Int) = j := fun e => hz e.symm
        rw [ew] at a1
        have c1 : evE ⟨P, runF P (n + 3)⟩ (.or (.cmp .mem .non (.var 2)) (.or (.cmp .gt (.bf .len (.cons (.var 2) .nil)) (.int 2)) (.cmp .mem (.int 0) (.slice (.var 2) (.int 1) .non true false)))) [.v (.cls 0), .v (.str x), .v (.lst [.int i, .int j]), .u, .u] m = .ok (.v (.bl false)) m := by
          simp [mn1, sl_tail, mi, hz]
        have c2 : evE ⟨P, runF P (n + 3)⟩ (.ite (.cmp .eq (.bf .len (.cons (.var 2) .nil)) (.int 2)) (.makev 0 0 (.cons (.idx (.var 2) (.int 0)) (.cons (.idx (.var 2) (.int 1)) .nil))) (.makev 0 0 (.cons (.idx (.var 2) (.int 0)) .nil))) [.v (.cls 0), .v (.str x), .v (.lst [.int i, .int j]), .u, .u] m = .ok (.v (ratD (Rat.divInt i j))) m := by
          simp [k1]
        simp only [d_Ratio_read]
        by_cases hc : 1 < j ∧ (Rat.divInt i j).num = i ∧ ((Rat.divInt i j).den : Int) = j
        · rw [er, if_pos hc]
          rw [ti.mpr hc] at k2 k3
          have k3' : ∀ m, cmpW ⟨P, runF P (n + 3)⟩ .ne (.v (.str x)) (.v (.str x)) m = .ok (.v (.bl false)) m := fun m => by rw [k3]; simp
          generalize Rat.divInt i j = q at *
          rw [st_to a1 (o := .rt (.v (ratD q)) m)]
          · simp
          · refine st_to (st_chk c1) (st_to (st_asg c2) (st_to (st_chk (m1 := m) ?_) (st_ret ?_)))
            · simp [io, fa1 T.f14 rfl rfl, k2, k3']
            · simp
        · rw [er, if_neg hc]
          have hne : (rtext (Rat.divInt i j) == x) = false := by
            cases q : (rtext (Rat.divInt i j) == x) with
            | false => rfl
            | true => exact absurd (ti.mp (eq_of_beq q)) hc
          rw [hne] at k3
          generalize Rat.divInt i j = q at *
          rw [st_to a1 (o := .exc 13 [] [.v (.cls 0), .v (.str x), .v (.lst [.int i, .int j]), .v (ratD q), .u] m)]
          · simp
          · refine st_to (st_chk c1) (st_to (st_asg c2) ?_)
            simp [io, fa1 T.f14 rfl rfl, k2, k3, T.n13]
  | a :: b :: c :: r =>
    have er : rd x = none := by unfold rd; rw [hp]; rfl
    rw [er]
    dsimp only
    rw [bad ?_ er, tk]
    have hl : (wds x).length = r.length + 3 := by unfold wds; rw [hp]; simp
    have hl2 : (2 : Int) < ((wds x).length : Int) := by omega
    cases e : ((wds x).any fun y => eqB y .non) with
    | true => simp [mn, e]
    | false => simp [mn, e, hl2]
end
end MP.K03
end
section
set_option  maxHeartbeats  4000000
namespace MP.K03
open MP MP.K02
section
variable {P : Prog} (T : TxtP P) {n : Nat} {m : M}
include T
theorem fk5 (x : W) : fnArgsK P 5 [.v (.cls 0), x] [] [] = some [.v (.cls 0), x] := by
  unfold fnArgsK
  rw [T.f5]
  rfl
theorem fk5t (x : W) : fnArgsK P 5 [.v (.cls 0)] ["text"] [x] = some [.v (.cls 0), x] := by
  unfold fnArgsK
  rw [T.f5]
  rfl
theorem r_lread {x : Sg} (s : Sh x) : runF P (n + 5) 206 false [.v (.str x)] m = .ok (.v (optPr (rd x))) m := by
  rw [run_eq T.g6 rfl]
  have en : entry d__law_read [.v (.str x)] = [.v (.str x), .u] := rfl
  rw [en]
  have k := fun m => r_read T (n := n) (m := m) s
  have cc : catches P 13 13 = true := rfl
  simp only [d__law_read]
  cases e : rd x with
  | none =>
    rw [e] at k
    simp [fk5 T, k, T.x13, cc, outS, setE, optPr]
  | some q =>
    rw [e] at k
    simp [fk5 T, k, optPr]
    simp [ratD, prD]
theorem r_due {x : Sg} (s : Sh x) : runF P (n + 2) 205 false [.v (.str x)] m = .ok (.v (optPr (rd x))) m := by
  have hP := T.hP
  rw [run_eq T.g5 rfl]
  have en : entry d__law_due [.v (.str x)] = [.v (.str x), .u, .u] := rfl
  rw [en]
  have hw := wds_ev (H := ⟨P, runF P (n + 1)⟩) (m := m) (fi := 204) (ix := 0) (iw := 2) (ρ := [.v (.str x), .u, .u]) s rfl (fun w => fa1 T.g4 rfl rfl w) (fun w sw m => r_lwhole (n := n) T.g4 sw) (fun d => rfl)
  have a1 : evS ⟨P, runF P (n + 1)⟩ false (.asg (.n 1) (.nw false (.comp (.n 2) (.e (.split (.var 0) (.str [47]))) false (.bl true) (.call 204 false (.cons (.var 2) .nil))))) [.v (.str x), .u, .u] m = .nx [.v (.str x), .v (.lst (wds x)), .u] m := st_asg (by rw [z40, hw]; rfl)
  have mn := fun m => mem_non (H := ⟨P, runF P (n + 1)⟩) (m := m) (wds_plain x)
  have bad : evE ⟨P, runF P (n + 1)⟩ (.or (.cmp .mem .non (.var 1)) (.cmp .gt (.bf .len (.cons (.var 1) .nil)) (.int 2))) [.v (.str x), .v (.lst (wds x)), .u] m = .ok (.v (.bl true)) m → rd x = none → endR (evSs ⟨P, runF P (n + 1)⟩ false d__law_due.body [.v (.str x), .u, .u] m) m.length = .ok (.v (optPr (rd x))) m := by
    intro hb hr
    simp only [d__law_due]
    rw [st_to a1 (st_if (d := .non) (m2 := m) hb (by simp)), hr]
    simp [optPr]
  match hp : splitS 47 [] x with
  | [] => exact absurd hp (splitS_ne _ _ _)
  | [a] =>
    have ew : wds x = [optI (whole a)] := by unfold wds; rw [hp]; rfl
    cases ha : whole a with
    | none =>
      have er : rd x = none := by unfold rd; rw [hp, rdP_one, ha]; rfl
      refine bad ?_ er
      have : ((wds x).any fun y => eqB y .non) = true := by
        unfold wds
        rw [hp]
        exact any_non ⟨a, by simp, ha⟩
      simp [mn, this]
    | some i =>
      have er : rd x = some (i : Rat) := by unfold rd; rw [hp, rdP_one, ha]; rfl
      rw [ha] at ew
      replace ew : wds x = [.int i] := ew
      have mn1 : ∀ m, cmpW ⟨P, runF P (n + 1)⟩ .mem (.v .non) (.v (.lst [.int i])) m = .ok (.v (.bl false)) m := fun m => by rw [mem_non rfl]; rfl
      rw [ew] at a1
      rw [er]
      simp only [d__law_due]
      rw [st_to a1 (st_to (st_chk (m1 := m) (by simp [mn1])) (st_if (d := .tup [.int i, .int 1]) (m1 := m) (m2 := m) (by simp) (by simp)))]
      simp [optPr, prD_int]
  | [a, b] =>
    have ew : wds x = [optI (whole a), optI (whole b)] := by unfold wds; rw [hp]; rfl
    have sa : Sh a := part_sh s a (by rw [hp]; exact List.mem_cons_self)
    have sb : Sh b := part_sh s b (by rw [hp]; simp)
    by_cases hn : whole a = none ∨ whole b = none
    · have er : rd x = none := by
        unfold rd
        rw [hp, rdP_two]
        rcases hn with h | h
        · rw [h]
        · rw [h]; cases whole a <;> rfl
      refine bad ?_ er
      have : ((wds x).any fun y => eqB y .non) = true := by
        unfold wds
        rw [hp]
        refine any_non ?_
        rcases hn with h | h
        · exact ⟨a, by simp, h⟩
        · exact ⟨b, by simp, h⟩
      simp [mn, this]
    · obtain ⟨i, ha⟩ := Option.ne_none_iff_exists'.mp (fun h => hn (.inl h))
      obtain ⟨j, hb⟩ := Option.ne_none_iff_exists'.mp (fun h => hn (.inr h))
      rw [ha, hb] at ew
      replace ew : wds x = [.int i, .int j] := ew
      have mn1 : ∀ m, cmpW ⟨P, runF P (n + 1)⟩ .mem (.v .non) (.v (.lst [.int i, .int j])) m = .ok (.v (.bl false)) m := fun m => by rw [mem_non rfl]; rfl
      have si := whole_sm sa ha
      have sj := whole_sm sb hb
      have er : rd x = if 1 < j ∧ (Rat.divInt i j).num = i ∧ ((Rat.divInt i j).den : Int) = j then some (Rat.divInt i j) else none := by
        unfold rd
        rw [hp, rdP_two, ha, hb]
      rw [ew] at a1
      rw [er]
      simp only [d__law_due]
      by_cases h1 : 1 < j
      · have hz : j ≠ 0 := by omega
        have k1 : ∀ m, runF P (n + 1) 203 false [.v (.int i), .v (.int j)] m = .ok (.v (prD (Rat.divInt i j))) m := fun m => r_frac (n := n) (m := m) hP.wf T.g3 i j (sj.mono (by omega)) hz
        generalize Rat.divInt i j = q at *
        have k2 : ∀ m, cmpW ⟨P, runF P (n + 1)⟩ .eq (.v (prD q)) (.v (.tup [.int i, .int j])) m = .ok (.v (.bl (decide (q.num = i ∧ (q.den : Int) = j)))) m := fun m => by
          unfold prD
          rw [cw_eqt rfl rfl]
          simp [eqBs, eqB]
          by_cases e1 : q.num = i <;> by_cases e2 : (q.den : Int) = j <;> simp [e1, e2]
        by_cases h2 : q.num = i ∧ (q.den : Int) = j
        · rw [if_pos ⟨h1, h2⟩]
          have ep : prD q = .tup [.int i, .int j] := by unfold prD; rw [h2.1, h2.2]
          rw [st_to a1 (st_to (st_chk (m1 := m) (by simp [mn1])) (st_to (st_chk (m1 := m) (by simp)) (st_ret (d := .tup [.int i, .int j]) (m1 := m) (by simp [h1, fa2 T.g3 rfl rfl, k1, k2, h2]))))]
          simp [optPr, ep]
        · rw [if_neg (fun h => h2 h.2)]
          rw [st_to a1 (st_to (st_chk (m1 := m) (by simp [mn1])) (st_to (st_chk (m1 := m) (by simp)) (st_ret (d := .non) (m1 := m) (by simp [h1, fa2 T.g3 rfl rfl, k1, k2, h2]))))]
          simp [optPr]
      · rw [if_neg (fun h => h1 h.1)]
        rw [st_to a1 (st_to (st_chk (m1 := m) (by simp [mn1])) (st_to (st_chk (m1 := m) (by simp)) (st_ret (d := .non) (m1 := m) (by simp [h1]))))]
        simp [optPr]
  | a :: b :: c :: r =>
    have er : rd x = none := by unfold rd; rw [hp]; rfl
    refine bad ?_ er
    have hl : (wds x).length = r.length + 3 := by unfold wds; rw [hp]; simp
    have hl2 : (2 : Int) < ((wds x).length : Int) := by omega
    cases e : ((wds x).any fun y => eqB y .non) with
    | true => simp [mn, e]
    | false => simp [mn, e, hl2]
end
end MP.K03
end
section
set_option  maxHeartbeats  4000000
namespace MP.K03
open MP MP.K02
theorem ne_optPr {H : Hd} {m : M} (o : Option Rat) : cmpW H .ne (.v (optPr o)) (.v (optPr o)) m = .ok (.v (.bl false)) m := by
  cases o with
  | none => rfl
  | some q =>
    show cmpW H .ne (.v (prD q)) (.v (prD q)) m = _
    unfold prD
    rw [cw_net rfl rfl]
    simp [eqBs, eqB]
def parts : List D := [.str [48], .str [49], .str [45], .str [47], .str [32], .str [43], .str [46], .str [47, 49], .str [47, 48], .str [48, 48], .str [97], .str [], .str [95], .str [10]]
theorem parts_ok {d : D} (h : d ∈ parts) : ∃ x : Sg, d = .str x ∧ x.length ≤ 2 ∧ okS x := by
  simp only [parts, List.mem_cons, List.not_mem_nil, or_false] at h
  rcases h with rfl | rfl | rfl | rfl | rfl | rfl | rfl | rfl | rfl | rfl | rfl | rfl | rfl | rfl <;> exact ⟨_, rfl, by decide, rfl⟩
theorem rtext_sh {q : Rat} (hq : Rs 200 q) : (rtext q).length ≤ 150 ∧ okS (rtext q) := by
  have h2 : (2 : Nat) ^ 200 < 10 ^ 61 := by decide +kernel
  have l1 := numS_len (k := 61) (by omega) (Nat.lt_trans hq.1 h2)
  have l2 := numS_len (k := 61) (by omega) (Nat.lt_trans hq.2 h2)
  unfold rtext
  split
  · exact ⟨by omega, okS_mk fun c hc => by have := numS_ch _ c hc; omega⟩
  · refine ⟨by rw [List.length_append, List.length_cons]; omega, okS_mk fun c hc => ?_⟩
    rcases List.mem_append.mp hc with h | h
    · have := numS_ch _ c h; omega
    · rcases List.mem_cons.mp h with h | h
      · omega
      · have := numS_ch _ c h; omega
def turnB : Ss := match d_law.body with
  | .cons (.for_ _ _ b) _ => b
  | _ => .nil
def innB : Ss := match turnB with
  | .cons _ (.cons _ (.cons _ (.cons _ (.cons _ (.cons _ (.cons (.for_ _ _ b) _)))))) => b
  | _ => .nil
structure LawP (P : Prog) : Prop where
  T : TxtP P
  g0 : P.fn 200 = some MP.d__law_cell
  g1 : P.fn 201 = some MP.d__law_box
  g2 : P.fn 202 = some MP.d__law_take
section
variable {P : Prog} {k : Nat} {m : M} (L : LawP P)
include L
/-- one text near it -/
theorem near_ev {x : Sg} (s : Sh x) (ρ : List W) (hv : getV ρ 11 = some (.v (.str x))) : evSs ⟨P, runF P (k + 5)⟩ false (.cons (.ite (.cmp .ne (.call 206 false (.cons (.var 11) .nil)) (.call 205 false (.cons (.var 11) .nil))) (.cons (.ret (.bl false)) .nil) .nil) .nil) ρ m = .nx ρ m := by
  have k1 := r_lread L.T (n := k) (m := m) s
  have k2 := r_due L.T (n := k + 3) (m := m) s
  refine st_to (st_chk (m1 := m) ?_) rfl
  simp [hv, fa1 L.T.g6 rfl rfl, fa1 L.T.g5 rfl rfl, k1, k2, ne_optPr]
theorem inner {q : Rat} (hq : Rs 200 q) {j b : Nat} (h : Bx m j b) (hb : b < 800000) (a0 a1 a3 a7 a8 a9 a10 a11 : W) (t : Nat) :
    ∃ m' c7 c8 c9 c10 c11, Up j m m' ∧ Bx m' j (b + 3) ∧ evSs ⟨P, runF P (k + 5)⟩ false innB [a0, a1, .c j, a3, .v (prD q), .v (.str (rtext q)), .v (.int t), a7, a8, a9, a10, a11] m = .nx [a0, a1, .c j, a3, .v (prD q), .v (.str (rtext q)), .v (.int t), c7, c8, c9, c10, c11] m' := by
  obtain ⟨lq, okq⟩ := rtext_sh hq
  have g2 := L.g2
  obtain ⟨r1, m1, p1, q1, u1, x1, e1⟩ := d_take (n := k + 4) g2 h (by omega) (((rtext q).length : Int) + 1) (by omega) (show ((((rtext q).length : Int) + 1)).natAbs < 2 ^ 2000 from Nat.lt_of_lt_of_le (show _ < 2 ^ 10 by omega) (Nat.pow_le_pow_right (by omega) (by omega)))
  obtain ⟨at_, rfl⟩ := Int.eq_ofNat_of_zero_le p1
  obtain ⟨r2, m2, p2, q2, u2, x2, e2⟩ := d_take (n := k + 4) g2 x1 (by omega) 14 (by omega) (Sm.mono (j := 4) (show (14 : Nat) < 2 ^ 4 by decide) (by omega))
  obtain ⟨r3, m3, p3, q3, u3, x3, e3⟩ := d_take (n := k + 4) g2 x2 (by omega) 2 (by omega) (Sm.mono (j := 4) (show (2 : Nat) < 2 ^ 4 by decide) (by omega))
  obtain ⟨sk, rfl⟩ := Int.eq_ofNat_of_zero_le p3
  obtain ⟨d, hd, ixd⟩ := ix_in (H := ⟨P, runF P k⟩) parts r2 p2 q2
  obtain ⟨pt, rfl, lp, okp⟩ := parts_ok hd
  have n1 : q.num.natAbs < 2 ^ 200 := hq.1
  have n2 : ((q.den : Int)).natAbs < 2 ^ 200 := hq.2
  have b1 : ∀ m, binW ⟨P, runF P (k + 5)⟩ .mul (.v (.int q.num)) (.v (.int 2)) m = .ok (.v (.int (q.num * 2))) m := fun m => bw_mul (Sm.mulOk hq.1 (k := 2) (show (2 : Nat) < 2 ^ 2 by decide) (by omega))
  have b2 : ∀ m, binW ⟨P, runF P (k + 5)⟩ .mul (.v (.int (q.den : Int))) (.v (.int 2)) m = .ok (.v (.int ((q.den : Int) * 2))) m := fun m => bw_mul (Sm.mulOk hq.2 (k := 2) (show (2 : Nat) < 2 ^ 2 by decide) (by omega))
  have s1 : Sm 201 (q.num * 2) := by unfold Sm; rw [Int.natAbs_mul, Nat.pow_succ]; exact Nat.mul_lt_mul_of_pos_right n1 (by decide)
  have s2 : Sm 201 ((q.den : Int) * 2) := by unfold Sm; rw [Int.natAbs_mul, Nat.pow_succ]; exact Nat.mul_lt_mul_of_pos_right n2 (by decide)
  have h2 : (2 : Nat) ^ 201 < 10 ^ 62 := by decide +kernel
  have l1 := numS_len (k := 62) (by omega) (Nat.lt_trans s1 h2)
  have l2 := numS_len (k := 62) (by omega) (Nat.lt_trans s2 h2)
  have c1 : ∀ m, bfW ⟨P, runF P (k + 5)⟩ .str [.v (.int (q.num * 2))] m = .ok (.v (.str (numS (q.num * 2)))) m := fun m => bf_strI (Nat.lt_of_le_of_lt s1.log (by omega))
  have c2 : ∀ m, bfW ⟨P, runF P (k + 5)⟩ .str [.v (.int ((q.den : Int) * 2))] m = .ok (.v (.str (numS ((q.den : Int) * 2)))) m := fun m => bf_strI (Nat.lt_of_le_of_lt s2.log (by omega))
  have i0 : ∀ m, idxW (.v (prD q)) (.v (.int 0)) m = .ok (.v (.int q.num)) m := fun m => ix_t0 _ _
  have i1 : ∀ m, idxW (.v (prD q)) (.v (.int 1)) m = .ok (.v (.int q.den)) m := fun m => ix_t1 _ _ _
  have bl : ∀ m, bfW ⟨P, runF P (k + 5)⟩ .len [.v (.str (rtext q))] m = .ok (.v (.int (rtext q).length)) m := fun m => bf_lens (by omega)
  have sl1 : ∀ m, sliceW (.v (.str (rtext q))) none (some (at_ : Int)) m = .ok (.v (.str ((rtext q).take at_))) m := fun m => sl_to (by omega)
  have sl2 : ∀ m, sliceW (.v (.str (rtext q))) (some ((at_ : Int) + (sk : Int))) none m = .ok (.v (.str ((rtext q).drop (at_ + sk)))) m := fun m => by
    rw [← Int.natCast_add]
    exact sl_from (by omega)
  have lt := List.length_take_le at_ (rtext q)
  have ltt : ((rtext q).take at_).length ≤ (rtext q).length := by rw [List.length_take]; omega
  have ld : ((rtext q).drop (at_ + sk)).length ≤ (rtext q).length := by rw [List.length_drop]; omega
  -- the five texts
  let t1 : Sg := (rtext q).take at_ ++ pt ++ (rtext q).drop (at_ + sk)
  let t2 : Sg := numS (q.num * 2) ++ [47] ++ numS ((q.den : Int) * 2)
  let t3 : Sg := rtext q ++ [47] ++ pt
  let t4 : Sg := pt ++ rtext q
  let t5 : Sg := rtext q ++ pt
  have okn : ∀ i, okS (numS i) := fun i => okS_mk fun c hc => by have := numS_ch i c hc; omega
  have sh1 : Sh t1 := ⟨by simp only [t1, List.length_append]; omega, ((okq.sub fun c hc => List.mem_of_mem_take hc).app okp).app (okq.sub fun c hc => List.mem_of_mem_drop hc)⟩
  have sh2 : Sh t2 := ⟨by simp only [t2, List.length_append, List.length_cons, List.length_nil]; omega, ((okn _).app (show okS [47] from rfl)).app (okn _)⟩
  have sh3 : Sh t3 := ⟨by simp only [t3, List.length_append, List.length_cons, List.length_nil]; omega, (okq.app (show okS [47] from rfl)).app okp⟩
  have sh4 : Sh t4 := ⟨by simp only [t4, List.length_append]; omega, okp.app okq⟩
  have sh5 : Sh t5 := ⟨by simp only [t5, List.length_append]; omega, okq.app okp⟩
  have uu := (u1.trans u2).trans u3
  have a9e : evE ⟨P, runF P (k + 5)⟩ (.bin .add (.bin .add (.slice (.var 5) .non (.var 7) false true) (.var 8)) (.slice (.var 5) (.bin .add (.var 7) (.call 202 false (.cons (.var 2) (.cons (.int 2) .nil)))) .non true false)) [a0, a1, .c j, a3, .v (prD q), .v (.str (rtext q)), .v (.int t), .v (.int at_), .v (.str pt), a9, a10, a11] m2 = .ok (.v (.str t1)) m3 := by
    have w1 : ∀ m, binW ⟨P, runF P (k + 5)⟩ .add (.v (.str ((rtext q).take at_))) (.v (.str pt)) m = .ok (.v (.str ((rtext q).take at_ ++ pt))) m := fun m => bw_adds (by omega)
    have w2 : ∀ m, binW ⟨P, runF P (k + 5)⟩ .add (.v (.str ((rtext q).take at_ ++ pt))) (.v (.str ((rtext q).drop (at_ + sk)))) m = .ok (.v (.str t1)) m := fun m => bw_adds (by rw [List.length_append]; omega)
    simp [sl1, sl2, w1, w2, fa2 g2 rfl rfl, e3]
  have a10e : evE ⟨P, runF P (k + 5)⟩ (.bin .add (.bin .add (.bf .str (.cons (.bin .mul (.idx (.var 4) (.int 0)) (.int 2)) .nil)) (.str [47])) (.bf .str (.cons (.bin .mul (.idx (.var 4) (.int 1)) (.int 2)) .nil))) [a0, a1, .c j, a3, .v (prD q), .v (.str (rtext q)), .v (.int t), .v (.int at_), .v (.str pt), .v (.str t1), a10, a11] m3 = .ok (.v (.str t2)) m3 := by
    have w1 : ∀ m, binW ⟨P, runF P (k + 5)⟩ .add (.v (.str (numS (q.num * 2)))) (.v (.str [47])) m = .ok (.v (.str (numS (q.num * 2) ++ [47]))) m := fun m => bw_adds (by rw [List.length_cons, List.length_nil]; omega)
    have w2 : ∀ m, binW ⟨P, runF P (k + 5)⟩ .add (.v (.str (numS (q.num * 2) ++ [47]))) (.v (.str (numS ((q.den : Int) * 2)))) m = .ok (.v (.str t2)) m := fun m => bw_adds (by rw [List.length_append, List.length_cons, List.length_nil]; omega)
    simp [i0, i1, b1, b2, c1, c2, w1, w2]
  have lse : evE ⟨P, runF P (k + 5)⟩ (.nw false (.lst (.cons (.var 9) (.cons (.var 10) (.cons (.bin .add (.bin .add (.var 5) (.str [47])) (.var 8)) (.cons (.bin .add (.var 8) (.var 5)) (.cons (.bin .add (.var 5) (.var 8)) .nil))))))) [a0, a1, .c j, a3, .v (prD q), .v (.str (rtext q)), .v (.int t), .v (.int at_), .v (.str pt), .v (.str t1), .v (.str t2), a11] m3 = .ok (.v (.lst [.str t1, .str t2, .str t3, .str t4, .str t5])) m3 := by
    have w1 : ∀ m, binW ⟨P, runF P (k + 5)⟩ .add (.v (.str (rtext q))) (.v (.str [47])) m = .ok (.v (.str (rtext q ++ [47]))) m := fun m => bw_adds (by rw [List.length_cons, List.length_nil]; omega)
    have w2 : ∀ m, binW ⟨P, runF P (k + 5)⟩ .add (.v (.str (rtext q ++ [47]))) (.v (.str pt)) m = .ok (.v (.str t3)) m := fun m => bw_adds (by rw [List.length_append, List.length_cons, List.length_nil]; omega)
    have w3 : ∀ m, binW ⟨P, runF P (k + 5)⟩ .add (.v (.str pt)) (.v (.str (rtext q))) m = .ok (.v (.str t4)) m := fun m => bw_adds (by omega)
    have w4 : ∀ m, binW ⟨P, runF P (k + 5)⟩ .add (.v (.str (rtext q))) (.v (.str pt)) m = .ok (.v (.str t5)) m := fun m => bw_adds (by omega)
    simp [w1, w2, w3, w4, sizeOk]
  clear_value t1 t2 t3 t4 t5
  obtain ⟨ρ', m', hgo, a11', rfl, rfl⟩ := for_inv (g := .n 11) (body := fun ρ m => evSs ⟨P, runF P (k + 5)⟩ false (.cons (.ite (.cmp .ne (.call 206 false (.cons (.var 11) .nil)) (.call 205 false (.cons (.var 11) .nil))) (.cons (.ret (.bl false)) .nil) .nil) .nil) ρ m)
    (I := fun _ ρ m' => ∃ z, ρ = [a0, a1, .c j, a3, .v (prD q), .v (.str (rtext q)), .v (.int t), .v (.int at_), .v (.str pt), .v (.str t1), .v (.str t2), z] ∧ m' = m3) [.str t1, .str t2, .str t3, .str t4, .str t5] 0 _ _ ⟨a11, rfl, rfl⟩ (fun i d hd ρ m hI => by
      obtain ⟨z, rfl, rfl⟩ := hI
      have hs : ∃ x, d = .str x ∧ Sh x := by
        have := List.mem_of_getElem? hd
        simp only [List.mem_cons, List.not_mem_nil, or_false] at this
        rcases this with rfl | rfl | rfl | rfl | rfl
        · exact ⟨_, rfl, sh1⟩
        · exact ⟨_, rfl, sh2⟩
        · exact ⟨_, rfl, sh3⟩
        · exact ⟨_, rfl, sh4⟩
        · exact ⟨_, rfl, sh5⟩
      obtain ⟨x, rfl, sx⟩ := hs
      exact ⟨_, _, _, rfl, near_ev L sx _ rfl, _, rfl, rfl⟩)
  refine ⟨m', .v (.int at_), .v (.str pt), .v (.str t1), .v (.str t2), a11', uu, x3, ?_⟩
  simp only [innB, turnB, d_law]
  refine st_to (st_asg (w := .v (.int at_)) (m1 := m1) (by simp [bl, fa2 g2 rfl rfl, e1])) ?_
  refine st_to (st_asg (w := .v (.str pt)) (m1 := m2) (by
    have ix2 : ∀ m, idxW (.v (.lst [.str [48], .str [49], .str [45], .str [47], .str [32], .str [43], .str [46], .str [47, 49], .str [47, 48], .str [48, 48], .str [97], .str [], .str [95], .str [10]])) (.v (.int r2)) m = .ok (.v (.str pt)) m := ixd
    simp [sizeOk, fa2 g2 rfl rfl, e2, ix2])) ?_
  refine st_to (st_asg (m1 := m') a9e) ?_
  refine st_to (st_asg (m1 := m') a10e) ?_
  exact st_to (st_for lse hgo) rfl
end
end MP.K03
end
section
set_option  maxHeartbeats  4000000
namespace MP.K03
open MP MP.K02
theorem wide_list {d : D} (h : d ∈ ([.int 9, .int 60, .int 999999999, .int (10 ^ 59)] : List D)) : ∃ w : Nat, d = .int (w : Int) ∧ 1 ≤ w ∧ w ≤ 10 ^ 59 := by
  simp only [List.mem_cons, List.not_mem_nil, or_false] at h
  rcases h with rfl | rfl | rfl | rfl
  · exact ⟨9, rfl, by decide, by decide +kernel⟩
  · exact ⟨60, rfl, by decide, by decide +kernel⟩
  · exact ⟨999999999, rfl, by decide, by decide +kernel⟩
  · exact ⟨10 ^ 59, by congr 1, by decide +kernel, Nat.le_refl _⟩
theorem w_bound : (2 * 10 ^ 59 + 1 : Nat) < 2 ^ 200 := by decide +kernel
section
variable {P : Prog} {k : Nat} {m : M} (L : LawP P)
include L
theorem turn {ns : List Int} (hm : m[0]? = some (.scr (ns.map D.int))) (i : Nat) (hi : i ≤ 1000) (w2 w3 w4 w5 w6 w7 w8 w9 w10 w11 : W) :
    ∃ (m' : M) (v2 v3 v4 v5 v6 v7 v8 v9 v10 v11 : W), m'[0]? = some (.scr (ns.map D.int)) ∧ evSs ⟨P, runF P (k + 5)⟩ false turnB [.c 0, .v (.int i), w2, w3, w4, w5, w6, w7, w8, w9, w10, w11] m = .nx [.c 0, .v (.int i), v2, v3, v4, v5, v6, v7, v8, v9, v10, v11] m' := by
  have T := L.T
  have hP := T.hP
  have g2 := L.g2
  have hj : 0 < m.length := (List.getElem?_eq_some_iff.mp hm).1
  have e0 := r_box (n := k + 3) L.g0 L.g1 hm i hi
  generalize hbx : C.lst false [.int (if cellI ns i < 0 then -cellI ns i else cellI ns i), .int 0, .int (40503 * i + 911)] = bx at e0
  have b0 : Bx (m ++ [bx]) m.length 0 := by
    refine ⟨if cellI ns i < 0 then -cellI ns i else cellI ns i, 0, 40503 * i + 911, ?_, if_abs_nonneg _, by omega, by omega, by omega, by omega⟩
    rw [← hbx]
    simp
  have hm0 : (m ++ [bx])[0]? = some (.scr (ns.map D.int)) := by
    rw [List.getElem?_append_left hj]
    exact hm
  obtain ⟨r1, m1, p1, q1, u1, x1, e1⟩ := d_take (n := k + 4) g2 b0 (by omega) 4 (by omega) (Sm.mono (j := 4) (show (4 : Nat) < 2 ^ 4 by decide) (by omega))
  obtain ⟨d, hd, ixd⟩ := ix_in (H := ⟨P, runF P k⟩) [.int 9, .int 60, .int 999999999, .int (10 ^ 59)] r1 p1 q1
  obtain ⟨wd, rfl, wd1, wd2⟩ := wide_list hd
  have wb := w_bound
  obtain ⟨r2, m2, p2, q2, u2, x2, e2⟩ := d_take (n := k + 4) g2 x1 (by omega) (2 * (wd : Int) + 1) (by omega) (Sm.mono (j := 200) (show (2 * (wd : Int) + 1).natAbs < 2 ^ 200 by omega) (by omega))
  obtain ⟨r3, m3, p3, q3, u3, x3, e3⟩ := d_take (n := k + 4) g2 x2 (by omega) (wd : Int) (by omega) (Sm.mono (j := 200) (show ((wd : Int)).natAbs < 2 ^ 200 by omega) (by omega))
  obtain ⟨r4, m4, p4, q4, u4, x4, e4⟩ := d_take (n := k + 4) g2 x3 (by omega) 2 (by omega) (Sm.mono (j := 4) (show (2 : Nat) < 2 ^ 4 by decide) (by omega))
  obtain ⟨dd, hdd, ixdd⟩ := ix_in (H := ⟨P, runF P k⟩) [.int 1, .int (1 + r3)] r4 p4 q4
  have hdn : ∃ dn : Int, dd = .int dn ∧ 1 ≤ dn ∧ dn ≤ wd := by
    simp only [List.mem_cons, List.not_mem_nil, or_false] at hdd
    rcases hdd with rfl | rfl
    · exact ⟨1, rfl, by omega, by omega⟩
    · exact ⟨1 + r3, rfl, by omega, by omega⟩
  obtain ⟨dn, rfl, dn1, dn2⟩ := hdn
  have hz : dn ≠ 0 := by omega
  have su : Sm 200 (r2 - wd) := by unfold Sm; omega
  have sd : Sm 200 dn := by unfold Sm; omega
  have k1 : ∀ m, runF P (k + 5) 203 false [.v (.int (r2 - wd)), .v (.int dn)] m = .ok (.v (prD (Rat.divInt (r2 - wd) dn))) m := fun m => r_frac (n := k + 4) (m := m) hP.wf T.g3 (r2 - wd) dn (sd.mono (by omega)) hz
  have sq : Rs 200 (Rat.divInt (r2 - wd) dn) := divInt_sm su sd hz
  have a3e : evE ⟨P, runF P (k + 5)⟩ (.idx (.nw false (.lst (.cons (.int 9) (.cons (.int 60) (.cons (.bin .sub (.bin .pow (.int 10) (.int 9)) (.int 1)) (.cons (.bin .pow (.int 10) (.int 59)) .nil)))))) (.call 202 false (.cons (.var 2) (.cons (.int 4) .nil)))) [.c 0, .v (.int i), .c m.length, w3, w4, w5, w6, w7, w8, w9, w10, w11] (m ++ [bx]) = .ok (.v (.int wd)) m1 := by
    have pw : ∀ (x y : Int) m, 0 ≤ x → x ≤ 1000 → (10 : Int) ^ x.toNat = y → binW ⟨P, runF P (k + 5)⟩ .pow (.v (.int 10)) (.v (.int x)) m = .ok (.v (.int y)) m := fun x y m h1 h2 h3 => by
      rw [bw_pow h1 h2 (by decide +kernel), h3]
    have pw9 := fun m => pw 9 1000000000 m (by decide) (by decide) (by decide)
    have pw59 := fun m => pw 59 (10 ^ 59) m (by decide) (by decide) rfl
    generalize (10 : Int) ^ 59 = big at *
    simp [pw9, pw59, sizeOk, fa2 g2 rfl rfl, e1, ixd]
  have bm : ∀ m, binW ⟨P, runF P (k + 5)⟩ .mul (.v (.int 2)) (.v (.int (wd : Int))) m = .ok (.v (.int (2 * (wd : Int)))) m := fun m => bw_mul (Sm.mulOk (j := 3) (k := 200) (show (2 : Nat) < 2 ^ 3 by decide) (show ((wd : Int)).natAbs < 2 ^ 200 by omega) (by omega))
  have a4e : ∀ w3' w4', w3' = .v (.int (wd : Int)) → evE ⟨P, runF P (k + 5)⟩ (.call 203 false (.cons (.bin .sub (.call 202 false (.cons (.var 2) (.cons (.bin .add (.bin .mul (.int 2) (.var 3)) (.int 1)) .nil))) (.var 3)) (.cons (.idx (.nw false (.lst (.cons (.int 1) (.cons (.bin .add (.int 1) (.call 202 false (.cons (.var 2) (.cons (.var 3) .nil)))) .nil)))) (.call 202 false (.cons (.var 2) (.cons (.int 2) .nil)))) .nil))) [.c 0, .v (.int i), .c m.length, w3', w4', w5, w6, w7, w8, w9, w10, w11] m1 = .ok (.v (prD (Rat.divInt (r2 - wd) dn))) m4 := by
    rintro _ w4' rfl
    simp [bm, fa2 g2 rfl rfl, e2, e3, e4, sizeOk, ixdd, fa2 T.g3 rfl rfl, k1]
  generalize Rat.divInt (r2 - wd) dn = q at *
  obtain ⟨lq, okq⟩ := rtext_sh sq
  have shq : Sh (rtext q) := ⟨by omega, okq⟩
  have i0 : ∀ m, idxW (.v (prD q)) (.v (.int 0)) m = .ok (.v (.int q.num)) m := fun m => ix_t0 _ _
  have i1 : ∀ m, idxW (.v (prD q)) (.v (.int 1)) m = .ok (.v (.int q.den)) m := fun m => ix_t1 _ _ _
  have c1 : ∀ m, bfW ⟨P, runF P (k + 5)⟩ .str [.v (.int q.num)] m = .ok (.v (.str (numS q.num))) m := fun m => bf_strI (Nat.lt_of_le_of_lt sq.1.log (by omega))
  have c2 : ∀ m, bfW ⟨P, runF P (k + 5)⟩ .str [.v (.int (q.den : Int))] m = .ok (.v (.str (numS (q.den : Int)))) m := fun m => bf_strI (Nat.lt_of_le_of_lt sq.2.log (by omega))
  have h2 : (2 : Nat) ^ 200 < 10 ^ 61 := by decide +kernel
  have l1 := numS_len (k := 61) (by omega) (Nat.lt_trans sq.1 h2)
  have l2 := numS_len (k := 61) (by omega) (Nat.lt_trans sq.2 h2)
  have a5e : ∀ w5', evE ⟨P, runF P (k + 5)⟩ (.ite (.cmp .eq (.idx (.var 4) (.int 1)) (.int 1)) (.bf .str (.cons (.idx (.var 4) (.int 0)) .nil)) (.bin .add (.bin .add (.bf .str (.cons (.idx (.var 4) (.int 0)) .nil)) (.str [47])) (.bf .str (.cons (.idx (.var 4) (.int 1)) .nil)))) [.c 0, .v (.int i), .c m.length, .v (.int wd), .v (prD q), w5', w6, w7, w8, w9, w10, w11] m4 = .ok (.v (.str (rtext q))) m4 := by
    intro w5'
    have v1 : ∀ m, binW ⟨P, runF P (k + 5)⟩ .add (.v (.str (numS q.num))) (.v (.str [47])) m = .ok (.v (.str (numS q.num ++ [47]))) m := fun m => bw_adds (by rw [List.length_cons, List.length_nil]; omega)
    have v2 : ∀ m, binW ⟨P, runF P (k + 5)⟩ .add (.v (.str (numS q.num ++ [47]))) (.v (.str (numS (q.den : Int)))) m = .ok (.v (.str (numS q.num ++ [47] ++ numS (q.den : Int)))) m := fun m => bw_adds (by rw [List.length_append, List.length_cons, List.length_nil]; omega)
    unfold rtext
    by_cases h : q.den = 1
    · have h' : ((q.den : Int)) = 1 := by omega
      rw [if_pos h]
      simp [i0, i1, h', c1]
    · have h' : ¬ ((q.den : Int)) = 1 := by omega
      rw [if_neg h]
      have ea : numS q.num ++ 47 :: numS (q.den : Int) = numS q.num ++ [47] ++ numS (q.den : Int) := by simp
      rw [ea]
      simp only [z16, z10, z32, z1, z2]
      simp [i0, i1, h', c1, c2, v1, v2]
  have mk : ∀ m, mkObj ⟨P, runF P (k + 5)⟩ 0 false [.v (.int q.num), .v (.int (q.den : Int))] m = .ok (.v (ratD q)) m := fun m => by
    have := r_mk hP (n := k + 3) (m := m) q.num q.den (sq.2.mono (by omega)) (den_nz q)
    rw [Rat.num_divInt_den] at this
    exact this
  have io : ∀ m, isObj 0 m (.v (ratD q)) = true := fun m => by simp [ratD, isObj]
  have t1 : ∀ m, runF P (k + 5) 14 false [.v (ratD q)] m = .ok (.v (.str (rtext q))) m := fun m => r_text (n := k + 4) T.f14 q (sq.mono (by omega))
  have t2 : ∀ m, runF P (k + 5) 206 false [.v (.str (rtext q))] m = .ok (.v (prD q)) m := fun m => by
    have := r_lread T (n := k) (m := m) shq
    rw [rd_rtext] at this
    exact this
  have t3 : ∀ m, runF P (k + 5) 205 false [.v (.str (rtext q))] m = .ok (.v (prD q)) m := fun m => by
    have := r_due T (n := k + 3) (m := m) shq
    rw [rd_rtext] at this
    exact this
  have t4 : ∀ m, runF P (k + 5) 5 false [.v (.cls 0), .v (.str (rtext q))] m = .ok (.v (ratD q)) m := fun m => by
    have := r_read T (n := k + 1) (m := m) shq
    rw [rd_rtext] at this
    exact this
  have n1 : ∀ m, cmpW ⟨P, runF P (k + 5)⟩ .ne (.v (.str (rtext q))) (.v (.str (rtext q))) m = .ok (.v (.bl false)) m := fun m => by rw [cw_ness okq okq]; simp
  have n2 : ∀ m, cmpW ⟨P, runF P (k + 5)⟩ .ne (.v (prD q)) (.v (prD q)) m = .ok (.v (.bl false)) m := fun m => ne_optPr (some q)
  have n3 : ∀ m, cmpW ⟨P, runF P (k + 5)⟩ .eq (.v (ratD q)) (.v (ratD q)) m = .ok (.v (.bl true)) m := fun m => by
    rw [b_eq hP (n := k + 2) q (.rat q)]
    simp
  have ui := ((u1.trans u2).trans u3).trans u4
  -- the six turns
  obtain ⟨ρ', m', hgo, c6, c7, c8, c9, c10, c11, rfl, u5, x5⟩ := for_inv (g := .n 6) (body := fun ρ m => evSs ⟨P, runF P (k + 5)⟩ false innB ρ m)
    (I := fun t ρ m' => ∃ c6 c7 c8 c9 c10 c11, ρ = [.c 0, .v (.int i), .c m.length, .v (.int wd), .v (prD q), .v (.str (rtext q)), c6, c7, c8, c9, c10, c11] ∧ Up m.length m4 m' ∧ Bx m' m.length (4 + 3 * t)) (natsD 0 6) 0 _ m4 ⟨w6, w7, w8, w9, w10, w11, rfl, ⟨_, (List.set_getElem_self (show m.length < m4.length by rw [ui.len]; simp)).symm⟩, x4⟩ (fun t d hd ρ m' hI => by
      obtain ⟨c6, c7, c8, c9, c10, c11, rfl, uI, xI⟩ := hI
      obtain ⟨ht, rfl⟩ := natsD_get hd
      obtain ⟨m5, d7, d8, d9, d10, d11, u6, x6, e6⟩ := inner (k := k) L sq xI (by omega) (.c 0) (.v (.int i)) (.v (.int wd)) c7 c8 c9 c10 c11 (0 + t)
      exact ⟨_, _, _, rfl, e6, _, d7, d8, d9, d10, d11, rfl, uI.trans u6, by rw [show 4 + 3 * (0 + t + 1) = 4 + 3 * (0 + t) + 3 by omega]; exact x6⟩)
  have hfin : m'[0]? = some (.scr (ns.map D.int)) := by
    rw [(ui.trans u5).get (by omega)]
    exact hm0
  refine ⟨m', .c m.length, .v (.int wd), .v (prD q), .v (.str (rtext q)), c6, c7, c8, c9, c10, c11, hfin, ?_⟩
  have hinn : evS ⟨P, runF P (k + 5)⟩ false (.for_ (.n 6) (.range1 (.int 6)) innB) [.c 0, .v (.int i), .c m.length, .v (.int wd), .v (prD q), .v (.str (rtext q)), w6, w7, w8, w9, w10, w11] m4 = .nx [.c 0, .v (.int i), .c m.length, .v (.int wd), .v (prD q), .v (.str (rtext q)), c6, c7, c8, c9, c10, c11] m' := st_forR (n := 6) (by omega) (by simp) hgo
  simp only [innB, turnB, d_law] at hinn
  simp only [turnB, d_law]
  refine st_to (st_asg (w := .c m.length) (m1 := m ++ [bx]) (by simp [fa2 L.g1 rfl rfl, e0])) ?_
  refine st_to (st_asg (m1 := m1) a3e) ?_
  refine st_to (st_asg (m1 := m4) (a4e _ _ rfl)) ?_
  refine st_to (st_asg (m1 := m4) (a5e _)) ?_
  refine st_to (st_chk (m1 := m4) (by simp [i0, i1, mk, io, fa1 T.f14 rfl rfl, t1, n1, fa1 T.g6 rfl rfl, t2, n2, fa1 T.g5 rfl rfl, t3])) ?_
  refine st_to (st_chk (m1 := m4) (by simp [fk5t T, t4, i0, i1, mk, n3])) ?_
  exact st_to hinn rfl
end
theorem lawP (wf : Nat) (h : 2 ^ 9000 ≤ wf) : LawP (prog wf) where
  g0 := rfl
  g1 := rfl
  g2 := rfl
  T := {
    f5 := rfl, f14 := rfl, f15 := rfl, n13 := rfl, x13 := rfl, g3 := rfl, g4 := rfl, g5 := rfl, g6 := rfl
    hP := {
      f0 := rfl, f1 := rfl, f2 := rfl, f3 := rfl, f4 := rfl
      c0 := ⟨_, rfl, rfl, rfl, rfl, rfl⟩
      f6 := rfl, f7 := rfl, f8 := rfl, f9 := rfl, f10 := rfl, f11 := rfl, f12 := rfl
      o0 := rfl, o1 := rfl, o2 := rfl, o10 := rfl, o11 := rfl, o12 := rfl, o30 := rfl
      n11 := rfl, n12 := rfl
      wf := h } }
theorem wf_le : 2 ^ 9000 ≤ wfB := by
  unfold wfB
  exact Nat.le_refl _
theorem law_fn (wf : Nat) : (prog wf).fn 207 = some d_law := rfl
theorem run_law (wf : Nat) (hw : 2 ^ 9000 ≤ wf) (ns : List Int) : ∃ m, runF (prog wf) 20 207 false [.c 0] [.scr (ns.map D.int)] = .ok (.v (.bl true)) m := by
  have L := lawP wf hw
  have hf := law_fn wf
  generalize prog wf = P at L hf
  have T := L.T
  have en : entry d_law [.c 0] = [.c 0, .u, .u, .u, .u, .u, .u, .u, .u, .u, .u, .u] := rfl
  have hm : ([.scr (ns.map D.int)] : M)[0]? = some (.scr (ns.map D.int)) := rfl
  have hv := vw_scr (j := 0) hm
  have hlen : ∃ e : Nat, e ≤ 1000 ∧ ∀ H : Hd, evE H (.bf .max (.cons (.int 1) (.cons (.bf .min (.cons (.int 3) (.cons (.bf .len (.cons (.var 0) .nil)) .nil))) .nil))) [.c 0, .u, .u, .u, .u, .u, .u, .u, .u, .u, .u, .u] [.scr (ns.map D.int)] = .ok (.v (.int e)) [.scr (ns.map D.int)] := by
    refine ⟨(if (if ((ns.map D.int).length : Int) < 3 then ((ns.map D.int).length : Int) else 3) > 1 then (if ((ns.map D.int).length : Int) < 3 then ((ns.map D.int).length : Int) else 3) else 1 : Int).toNat, ?_, fun H => ?_⟩
    · split <;> split <;> omega
    · have e0 : ((if (if ((ns.map D.int).length : Int) < 3 then ((ns.map D.int).length : Int) else 3) > 1 then (if ((ns.map D.int).length : Int) < 3 then ((ns.map D.int).length : Int) else 3) else 1 : Int).toNat : Int) = (if (if ((ns.map D.int).length : Int) < 3 then ((ns.map D.int).length : Int) else 3) > 1 then (if ((ns.map D.int).length : Int) < 3 then ((ns.map D.int).length : Int) else 3) else 1 : Int) := by
        split <;> split <;> omega
      rw [e0]
      simp [bf_len hv]
  obtain ⟨e, he, hev⟩ := hlen
  obtain ⟨ρ', m', hgo, v1, v2, v3, v4, v5, v6, v7, v8, v9, v10, v11, rfl, hmf⟩ := for_inv (g := .n 1) (body := fun ρ m => evSs ⟨P, runF P 19⟩ false turnB ρ m)
    (I := fun _ ρ m' => ∃ v1 v2 v3 v4 v5 v6 v7 v8 v9 v10 v11, ρ = [.c 0, v1, v2, v3, v4, v5, v6, v7, v8, v9, v10, v11] ∧ m'[0]? = some (.scr (ns.map D.int))) (natsD 0 e) 0 _ _ ⟨.u, .u, .u, .u, .u, .u, .u, .u, .u, .u, .u, rfl, hm⟩ (fun t d hd ρ m' hI => by
      obtain ⟨v1, v2, v3, v4, v5, v6, v7, v8, v9, v10, v11, rfl, hmf⟩ := hI
      obtain ⟨ht, rfl⟩ := natsD_get hd
      obtain ⟨m5, d2, d3, d4, d5, d6, d7, d8, d9, d10, d11, h6, e6⟩ := turn (k := 14) L hmf (0 + t) (by omega) v2 v3 v4 v5 v6 v7 v8 v9 v10 v11
      exact ⟨_, _, _, rfl, e6, _, d2, d3, d4, d5, d6, d7, d8, d9, d10, d11, rfl, h6⟩)
  have hfor : evS ⟨P, runF P 19⟩ false (.for_ (.n 1) (.range1 (.bf .max (.cons (.int 1) (.cons (.bf .min (.cons (.int 3) (.cons (.bf .len (.cons (.var 0) .nil)) .nil))) .nil)))) turnB) [.c 0, .u, .u, .u, .u, .u, .u, .u, .u, .u, .u, .u] [.scr (ns.map D.int)] = .nx [.c 0, v1, v2, v3, v4, v5, v6, v7, v8, v9, v10, v11] m' := st_forR (by omega) (hev _) hgo
  refine ⟨m'.take 1, ?_⟩
  rw [run_eq hf rfl, en]
  have c1 : ∀ x : Sg, Sh x → rd x = none → ∀ m, runF P 19 206 false [.v (.str x)] m = .ok (.v .non) m := fun x sx hx m => by
    have := r_lread T (n := 14) (m := m) sx
    rw [hx] at this
    exact this
  have z1 := c1 [] ⟨by decide, rfl⟩ (by decide +kernel)
  have z2 := c1 [45, 48] ⟨by decide, rfl⟩ (by decide +kernel)
  have z3 := c1 [48, 47, 51] ⟨by decide, rfl⟩ (by decide +kernel)
  have hb : evSs ⟨P, runF P 19⟩ false d_law.body [.c 0, .u, .u, .u, .u, .u, .u, .u, .u, .u, .u, .u] [.scr (ns.map D.int)] = .rt (.v (.bl true)) m' := by
    refine st_to hfor ?_
    simp [fa1 T.g6 rfl rfl, z1, z2, z3]
  rw [hb]
  rfl
end MP.K03
end
section
set_option  maxHeartbeats  0
namespace MP.K03
open PySem PySem.W PySem.Calls PyProof.Rows MP
abbrev Rw : OpenRow := OpenLaw.row PySem.Challenge.rw_finalblocks_k03_texts_of_ratios
abbrev qv : Program := view Rw.prog [21]
def nm0 : List PySem.Str := ["_wall", "__name__", "BlockError", "ByZero", "BadNumber", "BadText", "is_integer", "divisor_of", "parts", "checked", "Ratio", "integer_of", "_law_cell", "_law_box", "_law_take", "_law_frac", "_law_whole", "_law_due", "_law_read"]
def nms : List PySem.Str := nm0
def dLaw : DefRec := HandSHeadRun.topDef Rw.prog 21
theorem run (w : World) : HandSHeadRun.RunEq Rw qv (hookM PR 5) (obM PR 5) 3000 nms w := by
  intro os
  kernel_rfl
end MP.K03
open PySem PySem.W PySem.Calls PyProof.Rows
theorem MP.K03.holds_of (hrun : ∀ ns : List Int, ns.length ≤ 63 → ∃ m, MP.runF MP.K03.PR 20 207 false [.c 0] [.scr (ns.map MP.D.int)] = .ok (.v (.bl true)) m) : PySem.Challenge.rw_finalblocks_k03_texts_of_ratios.Holds := by
  w_on; o_law
  refine HandSHeadRun.head_any (r := MP.K03.Rw) (q := MP.K03.qv) (H := MP.hookM MP.K03.PR 5) (ob := MP.obM MP.K03.PR 5) (M := 3000) (loose := MP.K03.nms) (d := MP.K03.dLaw) (kwd := []) (MP.obM_eq _ _)
    (by kernel_rfl) (fun s => by kernel_rfl) MP.K03.run (by kernel_rfl) (by kernel_rfl) (by kernel_rfl) (by rfl) (by first | assumption | decide +kernel) (by decide +kernel) ⟨rfl, rfl, rfl, rfl, rfl, by decide +kernel⟩ ?hw ?hc
  case hw => w_witness2
  case hc => exact MP.walk_mp (dl := MP.K03.d_law) (x := "_law_script") rfl (by decide) (by kernel_rfl) ⟨rfl, by decide, by decide⟩ rfl (by kernel_rfl) (by kernel_rfl) rfl hrun
end
open PySem PySem.W PySem.Calls PyProof.Rows
theorem PySem.Challenge.cw_finalblocks_k03_texts_of_ratios_holds : PySem.Challenge.rw_finalblocks_k03_texts_of_ratios.Holds := by
  exact MP.K03.holds_of (fun ns _ => MP.K03.run_law MP.K03.wfB MP.K03.wf_le ns)
