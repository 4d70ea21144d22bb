import PyProof.Rows.All
import HandS.ForMost
import HandS.Wide
import HandS.TupAny
import HandS.TupMul
import HandS.Deep
import HandS.Style
import HandS.Conv
import HandS.Zip
import HandS.Rev
import HandS.IsInst
import KE.KTupSum
import HandS.CallSlots
import HandS.ExcInit
import HandS.ForExc
import HandS.ExcOwn
import HandS.HeadHook1
import HandS.HeadHook2
import HandS.HeadEnd
import HandS.Defaults
import HandS.Words
import PyProof.StrLawsRepr
import HandS.Head0
import HandS.Head1
import HandS.Head2
import PySem.Challenge.RW_kilnshares_k10_pence_parted
set_option Elab.async false
set_option linter.all false
set_option maxRecDepth 100000
set_option maxHeartbeats 0
/-! KV: values, the store, the little language and its interpreter. -/
namespace KI
open PySem L2

/-- a value: pure data, or a place of the store -/
inductive D where
  | non | bl (b : Bool) | int (i : Int) | str (x : Str)
  | tup (xs : List D) | lst (xs : List D)
  | scr (ns : List Int)
  | dct (kvs : List (Key × D))
  | ref (i : Nat)

inductive Ob where
  | lst (xs : List D)
  | dct (kvs : List (Key × D))
  | ins (c : Str) (fs : List (Str × D))

abbrev Store := List Ob
abbrev Lc := List (Option D)

inductive Res (α : Type) where
  | ok (a : α) (S : Store)
  | exc (c : Str) (fs : List (Str × D)) (S : Store)
  | bad

def Res.bind {α β : Type} (r : Res α) (f : α → Store → Res β) : Res β := match r with
  | .ok a S => f a S
  | .exc c fs S => .exc c fs S
  | .bad => .bad
@[simp] theorem Res.bind_ok {α β : Type} (a : α) (S : Store) (f : α → Store → Res β) : (Res.ok a S).bind f = f a S := rfl
@[simp] theorem Res.bind_exc {α β : Type} (c : Str) (fs : List (Str × D)) (S : Store) (f : α → Store → Res β) : (Res.exc (α := α) c fs S).bind f = .exc c fs S := rfl
@[simp] theorem Res.bind_bad {α β : Type} (f : α → Store → Res β) : (Res.bad (α := α)).bind f = .bad := rfl

inductive Bop | add | sub | mul | fdiv | mod | pow
  deriving DecidableEq
inductive Uop | neg | inv | not
  deriving DecidableEq
inductive Cop | eq | ne | lt | le | gt | ge | isN | notN | inn | nin | isB | notB
  deriving DecidableEq
inductive Ty | int | bool | str | tuple | list
  deriving DecidableEq
/-- built-in functions by their names -/
inductive Bi | len | sum | all | any | abs | max2 | min2 | max1 | min1 | int | str | repr | list | tuple | sorted | isI (t : Ty)
  deriving DecidableEq
/-- methods of lists, texts -/
inductive Bm | append | pop0 | pop1 | insert | extend | clear | index | count
  deriving DecidableEq

mutual
inductive E where
  | var (i : Nat)
  | cst (d : D)
  | glob (x : Str)
  | bin (fl : Bool) (op : Bop) (a b : E)
  | un (op : Uop) (a : E)
  | cmp (op : Cop) (a b : E)
  | chain (op op' : Cop) (a b c : E)
  | and (a b : E)
  | or (a b : E)
  | ife (c a b : E)
  | tup (es : Es)
  | lst (fl : Bool) (es : Es)
  | idx (a i : E)
  | slice (fl : Bool) (a lo hi : E)
  | call (f : Str) (es : Es)
  | bi (fl : Bool) (b : Bi) (es : Es)
  | bm (fl : Bool) (b : Bm) (o : E) (es : Es)
  | lc (fl : Bool) (tg : List Nat) (it : It) (c e : E)
inductive Es where
  | nil
  | cons (e : E) (es : Es)
inductive It where
  | seq (e : E)
  | rng1 (a : E)
  | rng2 (a b : E)
  | zip (a b : E)
  | enum (a : E)
end
inductive Tg where
  | nm (i : Nat)
  | sub (o i : E)
  | fld (o : E) (f : Str)
mutual
inductive Sm where
  | ex (e : E)
  | asg (i : Nat) (e : E)
  | asgT (ts : List Tg) (e : E)
  | asgG (t : Tg) (e : E)
  | ite (c : E) (a b : Sms)
  | whil (c : E) (b : Sms)
  | fo (tg : List Nat) (it : It) (b : Sms)
  | ret (e : E)
  | rais (c : Str) (es : Es)
  | pass
inductive Sms where
  | nil
  | cons (s : Sm) (ss : Sms)
end

/-! ### pure operations -/
/-- a result: a value, or a fresh list -/
inductive R1 where
  | v (d : D)
  | l (xs : List D)

def big : Nat := 100000
def mulOk (x y : Int) : Bool := decide (x.natAbs.log2 + y.natAbs.log2 < 1000000)
def divOk (y : Int) : Bool := decide (0 < y) && decide (y.natAbs.log2 < 9000)
def powOk (i j : Int) : Bool := decide (0 ≤ j) && decide (j ≤ 1000000) && decide (i.natAbs < 2 ^ 64)

/-- the items of a thing that is walked -/
def items (S : Store) : D → Option (List D)
  | .tup xs => some xs
  | .lst xs => some xs
  | .scr ns => some (ns.map D.int)
  | .ref i => match S[i]? with
    | some (.lst xs) => some xs
    | _ => none
  | _ => none
/-- a tuple's items -/
def titems : D → Option (List D)
  | .tup xs => some xs
  | _ => none
/-- a list's items (no tuple) -/
def litems (S : Store) : D → Option (List D)
  | .lst xs => some xs
  | .ref i => match S[i]? with
    | some (.lst xs) => some xs
    | _ => none
  | _ => none

def catL (S : Store) (x y : D) : Option R1 := match litems S x, litems S y with
  | some a, some b => if a.length + b.length ≤ big then some (.l (a ++ b)) else none
  | _, _ => none
def repL (S : Store) (x : D) (k : Int) : Option R1 := match litems S x with
  | some a => if decide (0 ≤ k) && decide (k ≤ 1000) && decide (a.length ≤ 100) then some (.l (List.replicate k.toNat a).flatten) else none
  | none => none
def addop (S : Store) (x y : D) : Option R1 := match x, y with
  | .int i, .int j => some (.v (.int (i + j)))
  | .str a, .str b => if a.length + b.length ≤ big then some (.v (.str (a ++ b))) else none
  | .tup a, .tup b => if a.length + b.length ≤ big then some (.v (.tup (a ++ b))) else none
  | x, y => catL S x y
def mulop (S : Store) (x y : D) : Option R1 := match x, y with
  | .int i, .int j => if mulOk i j then some (.v (.int (i * j))) else none
  | .tup a, .int k => if decide (2 ≤ k) && decide (k ≤ 1000) && decide (a.length ≤ 100) && !a.isEmpty then some (.v (.tup (List.replicate k.toNat a).flatten)) else none
  | x, .int k => repL S x k
  | _, _ => none
def intop (op : Bop) (i j : Int) : Option R1 := match op with
  | .sub => some (.v (.int (i - j)))
  | .fdiv => if divOk j then some (.v (.int (i / j))) else none
  | .mod => if 0 < j then some (.v (.int (i % j))) else none
  | .pow => if powOk i j then some (.v (.int (i ^ j.toNat))) else none
  | _ => none
def intD (op : Bop) (x y : D) : Option R1 := match x, y with
  | .int i, .int j => intop op i j
  | _, _ => none
def binop (S : Store) (op : Bop) (x y : D) : Option R1 := match op with
  | .add => addop S x y
  | .mul => mulop S x y
  | op => intD op x y

def unop (op : Uop) (x : D) : Option D := match op, x with
  | .neg, .int i => some (.int (-i))
  | .inv, .int i => some (.int (Builtin.bitNot i))
  | .not, .bl b => some (.bl (!b))
  | _, _ => none

/- as plain data -/
mutual
def toPy : D → Option PyData
  | .non => some .none
  | .bl b => some (.bool b)
  | .int i => some (.int i)
  | .str x => some (.str x)
  | .tup xs => (toPys xs).map .tuple
  | .lst xs => (toPys xs).map .list
  | .scr _ => none
  | .dct _ => none
  | .ref _ => none
def toPys : List D → Option (List PyData)
  | [] => some []
  | x :: xs => match toPy x, toPys xs with
    | some a, some b => some (a :: b)
    | _, _ => none
end
/-- .. the store's lists read -/
def toPyS (S : Store) (d : D) : Option PyData := match d with
  | .ref i => match S[i]? with
    | some (.lst xs) => (toPys xs).map .list
    | _ => none
  | d => toPy d

def eqP (S : Store) (x y : D) : Option Bool := match toPyS S x, toPyS S y with
  | some p, some q => if SeqAt.shaped p && SeqAt.shaped q then some (PyData.eqv p q) else none
  | _, _ => none
def eqD (S : Store) (x y : D) : Option Bool := match x, y with
  | .str a, .str b => some (a == b)
  | x, y => eqP S x y

def cmpop (S : Store) (op : Cop) (x y : D) : Option Bool := match op with
  | .eq => eqD S x y
  | .ne => (eqD S x y).map (!·)
  | .lt => match x, y with
    | .int i, .int j => some (decide (i < j))
    | _, _ => none
  | .le => match x, y with
    | .int i, .int j => some (decide (i ≤ j))
    | _, _ => none
  | .gt => match x, y with
    | .int i, .int j => some (decide (j < i))
    | _, _ => none
  | .ge => match x, y with
    | .int i, .int j => some (decide (j ≤ i))
    | _, _ => none
  | .isN => match y with
    | .non => some (match x with | .non => true | _ => false)
    | _ => none
  | .notN => match y with
    | .non => some (match x with | .non => false | _ => true)
    | _ => none
  | .isB => match x, y with
    | .bl a, .bl b => some (decide (a = b))
    | _, _ => none
  | .notB => match x, y with
    | .bl a, .bl b => some (!decide (a = b))
    | _, _ => none
  | .inn => none
  | .nin => none

/-- an item by its place -/
def ixS (z : Str) (k : Int) : Option D := match atI z.cps.toList k with
  | some c => if z.length ≤ big then some (.str ⟨#[c]⟩) else none
  | none => none
def ixX (S : Store) (x : D) (k : Int) : Option D := match items S x with
  | some xs => atI xs k
  | none => none
def ixD (S : Store) (x i : D) : Option D := match i with
  | .int k => match x with
    | .str z => ixS z k
    | x => ixX S x k
  | _ => none

def cutD (xs : List D) (lo hi : Option Int) : List D := (xs.drop (HT.sIx xs.length 0 lo)).take (HT.sIx xs.length xs.length hi - HT.sIx xs.length 0 lo)
def slL (S : Store) (x : D) (l h : Option Int) : Option R1 := match litems S x with
  | some xs => some (.l (cutD xs l h))
  | none => none
def slX (S : Store) (x : D) (l h : Option Int) : Option R1 := match x with
  | .tup xs => some (.v (.tup (cutD xs l h)))
  | .str z => if z.length ≤ big then some (.v (.str (cutS z l h))) else none
  | x => slL S x l h
/-- a slice's part: left out, or an int -/
def isCN : E → Bool
  | .cst .non => true
  | _ => false
def asI (n : Bool) (d : D) (S : Store) : Res (Option Int) := match n with
  | true => .ok none S
  | false => match d with
    | .int i => .ok (some i) S
    | _ => .bad

def intsD : List D → Option (List Int)
  | [] => some []
  | .int i :: r => (intsD r).map (i :: ·)
  | _ :: _ => none
def boolsD : List D → Option (List Bool)
  | [] => some []
  | .bl i :: r => (boolsD r).map (i :: ·)
  | _ :: _ => none

def hasTy (S : Store) (t : Ty) : D → Option Bool
  | .non => some false
  | .bl _ => some (t == .bool || t == .int)
  | .int _ => some (t == .int)
  | .str _ => some (t == .str)
  | .tup _ => some (t == .tuple)
  | .lst _ => some (t == .list)
  | .scr _ => none
  | .dct _ => some false
  | .ref i => match S[i]? with
    | some (.lst _) => some (t == .list)
    | some (.dct _) => some false
    | _ => none

def showOk (p : PyData) : Bool := p.showable && !p.hasDict && decide (p.depth ≤ 64) && decide (p.shown.length ≤ sizeLine)

def bifn (S : Store) (b : Bi) (as : List D) : Option R1 := match b, as with
  | .len, [.str z] => if z.length ≤ big then some (.v (.int z.length)) else none
  | .len, [x] => (items S x).map fun xs => .v (.int xs.length)
  | .sum, [.tup xs] => (intsD xs).map fun ns => .v (.int ns.sum)
  | .sum, [x] => match litems S x with
    | some xs => (intsD xs).map fun ns => .v (.int ns.sum)
    | none => none
  | .all, [x] => match litems S x with
    | some xs => (boolsD xs).map fun bs => .v (.bl (bs.all id))
    | none => none
  | .any, [x] => match litems S x with
    | some xs => (boolsD xs).map fun bs => .v (.bl (bs.any id))
    | none => none
  | .abs, [.int i] => some (.v (.int (if i < 0 then -i else i)))
  | .max2, [.int i, .int j] => some (.v (.int (if j > i then j else i)))
  | .min2, [.int i, .int j] => some (.v (.int (if j < i then j else i)))
  | .int, [.int i] => some (.v (.int i))
  | .int, [.bl k] => some (.v (.int (if k then 1 else 0)))
  | .list, [x] => (items S x).map fun xs => .l xs
  | .tuple, [.tup xs] => some (.v (.tup xs))
  | .tuple, [x] => (litems S x).map fun xs => .v (.tup xs)
  | .repr, [x] => match toPyS S x with
    | some p => if showOk p then some (.v (.str p.shown)) else none
    | none => none
  | .isI t, [x] => (hasTy S t x).map fun b => .v (.bl b)
  | _, _ => none

/- one more than the greatest place of the store within -/
mutual
def top : D → Nat
  | .tup xs => tops xs
  | .lst xs => tops xs
  | .dct kvs => topk kvs
  | .ref i => i + 1
  | _ => 0
def tops : List D → Nat
  | [] => 0
  | x :: xs => max (top x) (tops xs)
def topk : List (Key × D) → Nat
  | [] => 0
  | (_, x) :: xs => max (top x) (topk xs)
end
def topf : List (Str × D) → Nat
  | [] => 0
  | (_, x) :: xs => max (top x) (topf xs)
def topo : Ob → Nat
  | .lst xs => tops xs
  | .dct kvs => topk kvs
  | .ins _ fs => topf fs

/- a frame is left: what it made is read out -/
mutual
def resD (n : Nat) (S : Store) : D → Option D
  | .ref i => if i < n then some (.ref i) else match S[i]? with
    | some (.lst xs) => if tops xs ≤ n then some (.lst xs) else none
    | some (.dct kvs) => if topk kvs ≤ n then some (.dct kvs) else none
    | _ => none
  | .tup xs => (resDs n S xs).map .tup
  | .lst xs => if tops xs ≤ n then some (.lst xs) else none
  | .dct kvs => if topk kvs ≤ n then some (.dct kvs) else none
  | d => some d
def resDs (n : Nat) (S : Store) : List D → Option (List D)
  | [] => some []
  | x :: xs => match resD n S x, resDs n S xs with
    | some a, some b => some (a :: b)
    | _, _ => none
end

/-- a write into the store: at an old place (below the frame's base n) only what speaks of no younger places than what stood there -/
def topAt (S : Store) (i : Nat) : Nat := match S[i]? with
  | some o => topo o
  | none => 0
def wr (n : Nat) (S : Store) (i : Nat) (o : Ob) : Option Store := if i < S.length ∧ (n ≤ i ∨ topo o ≤ topAt S i) then some (S.set i o) else none

/-- methods that change a list of the store, or read one -/
def bmL (n : Nat) (S : Store) (i : Nat) (xs : List D) (b : Bm) (as : List D) : Option (D × Store) := match b, as with
  | .append, [d] => if xs.length < big then (wr n S i (.lst (xs ++ [d]))).map fun S' => (.non, S') else none
  | .pop0, [] => match xs.getLast? with
    | some d => (wr n S i (.lst xs.dropLast)).map fun S' => (d, S')
    | none => none
  | .pop1, [.int k] => if decide (-(2 ^ 63) ≤ k) && decide (k < 2 ^ 63) then match seqIndex? k xs.length with
    | some j => match xs[j]? with
      | some d => (wr n S i (.lst (xs.eraseIdx j))).map fun S' => (d, S')
      | none => none
    | none => none else none
  | .clear, [] => (wr n S i (.lst [])).map fun S' => (.non, S')
  | _, _ => none
def bmf (n : Nat) (S : Store) (b : Bm) (x : D) (as : List D) : Option (D × Store) := match x with
  | .ref i => match S[i]? with
    | some (.lst xs) => bmL n S i xs b as
    | _ => none
  | _ => none
def ofP (r : Option (D × Store)) : Res D := match r with
  | some p => .ok p.1 p.2
  | none => .bad

def fin (fl : Bool) (r : R1) (S : Store) : Res D := match r with
  | .v d => .ok d S
  | .l xs => if fl then .ok (.ref S.length) (S ++ [.lst xs]) else .ok (.lst xs) S
def ofO {α : Type} (o : Option α) (S : Store) : Res α := match o with
  | some a => .ok a S
  | none => .bad
def finO (fl : Bool) (o : Option R1) (S : Store) : Res D := match o with
  | some r => fin fl r S
  | none => .bad
def asB (d : D) (S : Store) : Res Bool := match d with
  | .bl b => .ok b S
  | _ => .bad

/-! ### names bound -/
def setT (L : Lc) : List Nat → D → Option Lc
  | [i], d => some (L.set i (some d))
  | [i, j], .tup [x, y] => some ((L.set i (some x)).set j (some y))
  | [i, j, k], .tup [x, y, z] => some (((L.set i (some x)).set j (some y)).set k (some z))
  | [i, j, k, l], .tup [x, y, z, u] => some ((((L.set i (some x)).set j (some y)).set k (some z)).set l (some u))
  | [i, j, k, l, m], .tup [x, y, z, u, w] => some (((((L.set i (some x)).set j (some y)).set k (some z)).set l (some u)).set m (some w))
  | _, _ => none
def wipeL (L : Lc) : List Nat → Lc
  | [] => L
  | v :: vs => (wipeL L vs).set v none

/-- the store's lists that a walk goes over: they must stand as they stood -/
abbrev Gd := List (Nat × List D)
def isT : D → Bool
  | .tup _ => true
  | _ => false
def gdOf (x : D) (xs : List D) : Gd := match x with
  | .ref i => [(i, xs)]
  | _ => []
def GdOk (g : Gd) (S : Store) : Prop := ∀ p ∈ g, S[p.1]? = some (.lst p.2)
def rngD (lo hi : Int) : Option (List D) := if decide (-(2 ^ 62) ≤ lo) && decide (lo < 2 ^ 62) && decide (-(2 ^ 62) ≤ hi) && decide (hi < 2 ^ 62) then some ((List.range (hi - lo).toNat).map fun (i : Nat) => D.int (lo + (i : Int))) else none

abbrev CallF := Str → List D → Nat → Store → Res D

structure Env where
  call : CallF
  con : Str → Option D
  /-- the frame's base -/
  n : Nat
  /-- the most turns of a while -/
  wf : Nat

/-- within a comprehension nothing may be raised -/
def noX {α : Type} (r : Res α) : Res α := match r with
  | .exc _ _ _ => .bad
  | r => r
open Classical in
/-- the items of a comprehension, turn by turn -/
noncomputable def lcLoop (g : Gd) (turn : D → Store → Res (Option D)) : List D → Store → Res (List D)
  | [], S => if GdOk g S then .ok [] S else .bad
  | x :: xs, S => if GdOk g S then (turn x S).bind (fun o S1 => (lcLoop g turn xs S1).bind fun ys S2 => .ok (match o with | some y => y :: ys | none => ys) S2) else .bad

mutual
noncomputable def evE (V : Env) (L : Lc) : E → Store → Res D
  | .var i, S => match L[i]? with
    | some (some d) => .ok d S
    | _ => .bad
  | .cst d, S => .ok d S
  | .glob x, S => ofO (V.con x) S
  | .bin fl op a b, S => (evE V L a S).bind fun x S1 => (evE V L b S1).bind fun y S2 => finO fl (binop S2 op x y) S2
  | .un op a, S => (evE V L a S).bind fun x S1 => ofO (unop op x) S1
  | .cmp op a b, S => (evE V L a S).bind fun x S1 => (evE V L b S1).bind fun y S2 => ofO ((cmpop S2 op x y).map D.bl) S2
  | .chain op op' a b c, S => (evE V L a S).bind fun x S1 => (evE V L b S1).bind fun y S2 => (ofO (cmpop S2 op x y) S2).bind fun k S3 =>
      if k then (evE V L c S3).bind fun z S4 => ofO ((cmpop S4 op' y z).map D.bl) S4 else .ok (.bl false) S3
  | .and a b, S => (evE V L a S).bind fun x S1 => (asB x S1).bind fun k S2 => if k then evE V L b S2 else .ok (.bl false) S2
  | .or a b, S => (evE V L a S).bind fun x S1 => (asB x S1).bind fun k S2 => if k then .ok (.bl true) S2 else evE V L b S2
  | .ife c a b, S => (evE V L c S).bind fun x S1 => (asB x S1).bind fun k S2 => if k then evE V L a S2 else evE V L b S2
  | .tup es, S => (evEs V L es S).bind fun xs S1 => if xs.length ≤ big then .ok (.tup xs) S1 else .bad
  | .lst fl es, S => (evEs V L es S).bind fun xs S1 => if xs.length ≤ big then fin fl (.l xs) S1 else .bad
  | .idx a i, S => (evE V L a S).bind fun x S1 => (evE V L i S1).bind fun y S2 => ofO (ixD S2 x y) S2
  | .slice fl a lo hi, S => (evE V L a S).bind fun x S1 => (evE V L lo S1).bind fun l0 S2 => (asI (isCN lo) l0 S2).bind fun l S2 => (evE V L hi S2).bind fun h0 S3 => (asI (isCN hi) h0 S3).bind fun h S3 => finO fl (slX S3 x l h) S3
  | .call f es, S => (evEs V L es S).bind fun xs S1 => V.call f xs V.n S1
  | .bi fl b es, S => (evEs V L es S).bind fun xs S1 => finO fl (bifn S1 b xs) S1
  | .bm fl b o es, S => (evE V L o S).bind fun x S1 => (ofO (litems S1 x) S1).bind fun _ S1 => (evEs V L es S1).bind fun xs S2 => ofP (bmf V.n S2 b x xs)
  | .lc fl tg it c e, S => (evIt V L it S).bind fun xs S1 => if xs.1.length < big then (lcLoop xs.2 (fun x S2 => match setT (wipeL L tg) tg x with
      | some L2 => (noX (evE V L2 c S2)).bind fun k S3 => (asB k S3).bind fun b S4 => if b then (noX (evE V L2 e S4)).bind fun y S5 => .ok (some y) S5 else .ok none S4
      | none => .bad) xs.1 S1).bind (fun ys S2 => fin fl (.l ys) S2) else .bad
noncomputable def evEs (V : Env) (L : Lc) : Es → Store → Res (List D)
  | .nil, S => .ok [] S
  | .cons e es, S => (evE V L e S).bind fun x S1 => (evEs V L es S1).bind fun xs S2 => .ok (x :: xs) S2
noncomputable def evIt (V : Env) (L : Lc) : It → Store → Res (List D × Gd)
  | .seq e, S => (evE V L e S).bind fun x S1 => ofO ((items S1 x).map fun xs => (xs, gdOf x xs)) S1
  | .rng1 a, S => (evE V L a S).bind fun x S1 => match x with
    | .int hi => ofO ((rngD 0 hi).map fun xs => (xs, [])) S1
    | _ => .bad
  | .rng2 a b, S => (evE V L a S).bind fun x S1 => (evE V L b S1).bind fun y S2 => match x, y with
    | .int lo, .int hi => ofO ((rngD lo hi).map fun xs => (xs, [])) S2
    | _, _ => .bad
  | .zip a b, S => (evE V L a S).bind fun x S1 => (evE V L b S1).bind fun y S2 => match items S2 x, items S2 y with
    | some xs, some ys => if isT x = isT y then .ok (xs.zipWith (fun u w => .tup [u, w]) ys, gdOf x xs ++ gdOf y ys) S2 else .bad
    | _, _ => .bad
  | .enum a, S => (evE V L a S).bind fun x S1 => match items S1 x with
    | some xs => if isT x then .bad else .ok (xs.zipIdx.map (fun p => .tup [.int (p.2 : Int), p.1]), gdOf x xs) S1
    | none => .bad
end

/-! ### statements -/
inductive Out where
  | nx (L : Lc)
  | rt (d : D)
  | bk (L : Lc)
  | ct (L : Lc)

/-- a value stored at a target -/
noncomputable def stT (V : Env) (L : Lc) (t : Tg) (d : D) (S : Store) : Res Lc := match t with
  | .nm i => .ok (L.set i (some d)) S
  | .sub o i => (evE V L o S).bind fun x S1 => (evE V L i S1).bind fun y S2 => match x, y with
    | .ref j, .int k => match S2[j]? with
      | some (.lst xs) => match ixN xs.length k with
        | some p => (ofO (wr V.n S2 j (.lst (xs.set p d))) S2).bind fun S3 _ => .ok L S3
        | none => .bad
      | _ => .bad
    | _, _ => .bad
  | .fld _ _ => .bad
noncomputable def stTs (V : Env) (L : Lc) : List Tg → List D → Store → Res Lc
  | [], [], S => .ok L S
  | t :: ts, d :: ds, S => (stT V L t d S).bind fun L1 S1 => stTs V L1 ts ds S1
  | _, _, _ => .bad

open Classical in
noncomputable def foLoop (g : Gd) (turn : Lc → D → Store → Res Out) : List D → Lc → Store → Res Out
  | [], L, S => if GdOk g S then .ok (.nx L) S else .bad
  | x :: xs, L, S => if GdOk g S then (turn L x S).bind (fun o S1 => match o with
    | .nx L1 => foLoop g turn xs L1 S1
    | .ct L1 => foLoop g turn xs L1 S1
    | .bk L1 => .ok (.nx L1) S1
    | .rt d => .ok (.rt d) S1) else .bad
def whLoop (test : Lc → Store → Res Bool) (turn : Lc → Store → Res Out) : Nat → Lc → Store → Res Out
  | 0, _, _ => .bad
  | k + 1, L, S => (test L S).bind fun b S1 => match b with
    | true => (turn L S1).bind fun o S2 => match o with
      | .nx L1 => whLoop test turn k L1 S2
      | .ct L1 => whLoop test turn k L1 S2
      | .bk L1 => .ok (.nx L1) S2
      | .rt d => .ok (.rt d) S2
    | false => .ok (.nx L) S1

mutual
noncomputable def exS (V : Env) : Sm → Lc → Store → Res Out
  | .ex e, L, S => (evE V L e S).bind fun _ S1 => .ok (.nx L) S1
  | .asg i e, L, S => (evE V L e S).bind fun d S1 => .ok (.nx (L.set i (some d))) S1
  | .asgG t e, L, S => (evE V L e S).bind fun d S1 => (stT V L t d S1).bind fun L1 S2 => .ok (.nx L1) S2
  | .asgT ts e, L, S => (evE V L e S).bind fun d S1 => match titems d with
    | some ds => if ds.length = ts.length then (stTs V L ts ds S1).bind fun L1 S2 => .ok (.nx L1) S2 else .bad
    | none => .bad
  | .ite c a b, L, S => (evE V L c S).bind fun x S1 => (asB x S1).bind fun k S2 => if k then exB V a L S2 else exB V b L S2
  | .whil c b, L, S => whLoop (fun L S => (evE V L c S).bind fun x S1 => asB x S1) (fun L S => exB V b L S) V.wf L S
  | .fo tg it b, L, S => (evIt V L it S).bind fun xs S1 => foLoop xs.2 (fun L x S => match setT L tg x with
    | some L1 => exB V b L1 S
    | none => .bad) xs.1 L S1
  | .ret e, L, S => (evE V L e S).bind fun d S1 => .ok (.rt d) S1
  | .rais c es, L, S => (evEs V L es S).bind fun _ S1 => .exc c [] S1
  | .pass, L, S => .ok (.nx L) S
noncomputable def exB (V : Env) : Sms → Lc → Store → Res Out
  | .nil, L, S => .ok (.nx L) S
  | .cons s ss, L, S => (exS V s L S).bind fun o S1 => match o with
    | .nx L1 => exB V ss L1 S1
    | o => .ok o S1
end

/-! ### defs -/
structure Fn where
  /-- parameters, slots -/
  np : Nat
  ns : Nat
  body : Sms
  /-- what it makes stays (its frame is its caller's) -/
  keep : Bool

structure Tbl where
  fn : Str → Option Fn
  con : Str → Option D
  wf : Nat

def endK (r : Res Out) : Res D := match r with
  | .ok (.rt d) S => .ok d S
  | .ok (.nx _) S => .ok .non S
  | .ok _ _ => .bad
  | .exc c fs S => .exc c fs S
  | .bad => .bad
def resF (n : Nat) (S : Store) : List (Str × D) → Option (List (Str × D))
  | [] => some []
  | (f, d) :: r => match resD n S d, resF n S r with
    | some a, some b => some ((f, a) :: b)
    | _, _ => none
def dropR (n : Nat) (r : Res D) : Res D := match r with
  | .ok d S => match resD n S d with
    | some d' => .ok d' (S.take n)
    | none => .bad
  | .exc c fs S => match resF n S fs with
    | some fs' => .exc c fs' (S.take n)
    | none => .bad
  | .bad => .bad

noncomputable def callI (T : Tbl) : Nat → CallF
  | 0, _, _, _, _ => .bad
  | k + 1, f, as, n, S => match T.fn f with
    | none => .bad
    | some F => if as.length = F.np then
        if F.keep then endK (exB ⟨callI T k, T.con, n, T.wf⟩ F.body (as.map some ++ List.replicate (F.ns - F.np) none) S)
        else dropR S.length (endK (exB ⟨callI T k, T.con, S.length, T.wf⟩ F.body (as.map some ++ List.replicate (F.ns - F.np) none) S))
      else .bad
end KI

/-! KR: how a store lies in the abstract heap. -/
namespace KI
open PySem L2

/-- where the store's objects are; G: what stands aside (the lists that comprehensions are filling) -/
structure Mw where
  ms : List Addr
  G : Hp
def Pre (m m' : Mw) : Prop := m.ms <+: m'.ms ∧ m'.G = m.G
theorem Pre.refl (m : Mw) : Pre m m := ⟨List.prefix_refl _, rfl⟩
theorem Pre.trans {m m' m2 : Mw} (a : Pre m m') (b : Pre m' m2) : Pre m m2 := ⟨a.1.trans b.1, b.2.trans a.2⟩
def Mw.app (m : Mw) (p : Addr) : Mw := ⟨m.ms ++ [p], m.G⟩
theorem Pre.app (m : Mw) (p : Addr) : Pre m (m.app p) := ⟨List.prefix_append _ _, rfl⟩
/- the part F of the abstract heap that stays -/
mutual
inductive Rel (K : PySem.W.Frag) (F : Hp) (m : Mw) : D → V → Prop
  | non : Rel K F m .non .non
  | bl (b : Bool) : Rel K F m (.bl b) (.bl b)
  | int (i : Int) : Rel K F m (.int i) (.int i)
  | str (x : Str) : Rel K F m (.str x) (.str x)
  | tup {a : Addr} {xs : List D} {vs : List V} : SqT K F a vs → Rels K F m xs vs → Rel K F m (.tup xs) (.ref a)
  | lst {a : Addr} {xs : List D} {vs : List V} : F a = some (.lst vs) → Rels K F m xs vs → Rel K F m (.lst xs) (.ref a)
  | scr {a : Addr} {ns : List Int} : SqL K F a (ns.map V.int) → Rel K F m (.scr ns) (.ref a)
  | dct {a : Addr} {kvs : List (Key × D)} {vs : List (Key × V)} : F a = some (.dK vs) → Relk K F m kvs vs → Rel K F m (.dct kvs) (.ref a)
  | ref {i : Nat} {a : Addr} : m.ms[i]? = some a → Rel K F m (.ref i) (.ref a)
inductive Rels (K : PySem.W.Frag) (F : Hp) (m : Mw) : List D → List V → Prop
  | nil : Rels K F m [] []
  | cons {d : D} {v : V} {ds : List D} {vs : List V} : Rel K F m d v → Rels K F m ds vs → Rels K F m (d :: ds) (v :: vs)
inductive Relk (K : PySem.W.Frag) (F : Hp) (m : Mw) : List (Key × D) → List (Key × V) → Prop
  | nil : Relk K F m [] []
  | cons {k : Key} {d : D} {v : V} {ds : List (Key × D)} {vs : List (Key × V)} : Rel K F m d v → Relk K F m ds vs → Relk K F m ((k, d) :: ds) ((k, v) :: vs)
end
inductive Relf (K : PySem.W.Frag) (F : Hp) (m : Mw) : List (Str × D) → List (Str × V) → Prop
  | nil : Relf K F m [] []
  | cons {k : Str} {d : D} {v : V} {ds : List (Str × D)} {vs : List (Str × V)} : Rel K F m d v → Relf K F m ds vs → Relf K F m ((k, d) :: ds) ((k, v) :: vs)

theorem seqT_mono {K : PySem.W.Frag} {F F' : Hp} {a : Addr} {xs : List V} (e : Same F F') (h : SqT K F a xs) : SqT K F' a xs := by
  (rcases h with (h | ⟨o, h⟩) | h)
  · exact .inl (.inl (e _ _ h))
  · (exact .inl (.inr ⟨o, e _ _ h⟩))
  · exact .inr h

section
variable {K : PySem.W.Frag} {F F' : Hp} {m m' : Mw}
theorem pre_get2 {i : Nat} {a : Addr} (p : m.ms <+: m'.ms) (h : m.ms[i]? = some a) : m'.ms[i]? = some a := by
  obtain ⟨t, ht⟩ := p
  have hi : i < m.ms.length := (List.getElem?_eq_some_iff.mp h).1
  rw [← ht, List.getElem?_append_left hi]
  exact h
theorem pre_get {i : Nat} {a : Addr} (p : Pre m m') (h : m.ms[i]? = some a) : m'.ms[i]? = some a := by
  obtain ⟨t, ht⟩ := p.1
  have hi : i < m.ms.length := (List.getElem?_eq_some_iff.mp h).1
  rw [← ht, List.getElem?_append_left hi]
  exact h
mutual
theorem Rel.mono (e : Same F F') (p : Pre m m') : ∀ {d : D} {v : V}, Rel K F m d v → Rel K F' m' d v
  | _, _, .non => .non
  | _, _, .bl b => .bl b
  | _, _, .int i => .int i
  | _, _, .str x => .str x
  | _, _, .tup h r => .tup (seqT_mono e h) (Rels.mono e p r)
  | _, _, .lst h r => .lst (e _ _ h) (Rels.mono e p r)
  | _, _, .scr h => .scr (e.seq h)
  | _, _, .dct h r => .dct (e _ _ h) (Relk.mono e p r)
  | _, _, .ref h => .ref (pre_get p h)
theorem Rels.mono (e : Same F F') (p : Pre m m') : ∀ {d : List D} {v : List V}, Rels K F m d v → Rels K F' m' d v
  | _, _, .nil => .nil
  | _, _, .cons h r => .cons (Rel.mono e p h) (Rels.mono e p r)
theorem Relk.mono (e : Same F F') (p : Pre m m') : ∀ {d : List (Key × D)} {v : List (Key × V)}, Relk K F m d v → Relk K F' m' d v
  | _, _, .nil => .nil
  | _, _, .cons h r => .cons (Rel.mono e p h) (Relk.mono e p r)
end
theorem Relf.mono (e : Same F F') (p : Pre m m') : ∀ {d : List (Str × D)} {v : List (Str × V)}, Relf K F m d v → Relf K F' m' d v
  | _, _, .nil => .nil
  | _, _, .cons h r => .cons (Rel.mono e p h) (Relf.mono e p r)

mutual
theorem Rel.side (G : Hp) : ∀ {d : D} {v : V}, Rel K F m d v → Rel K F ⟨m.ms, G⟩ d v
  | _, _, .non => .non
  | _, _, .bl b => .bl b
  | _, _, .int i => .int i
  | _, _, .str x => .str x
  | _, _, .tup h r => .tup h (Rels.side G r)
  | _, _, .lst h r => .lst h (Rels.side G r)
  | _, _, .scr h => .scr h
  | _, _, .dct h r => .dct h (Relk.side G r)
  | _, _, .ref h => .ref h
theorem Rels.side (G : Hp) : ∀ {d : List D} {v : List V}, Rels K F m d v → Rels K F ⟨m.ms, G⟩ d v
  | _, _, .nil => .nil
  | _, _, .cons h r => .cons (Rel.side G h) (Rels.side G r)
theorem Relk.side (G : Hp) : ∀ {d : List (Key × D)} {v : List (Key × V)}, Relk K F m d v → Relk K F ⟨m.ms, G⟩ d v
  | _, _, .nil => .nil
  | _, _, .cons h r => .cons (Rel.side G h) (Relk.side G r)
end
theorem Relf.side (G : Hp) : ∀ {d : List (Str × D)} {v : List (Str × V)}, Relf K F m d v → Relf K F ⟨m.ms, G⟩ d v
  | _, _, .nil => .nil
  | _, _, .cons h r => .cons (Rel.side G h) (Relf.side G r)

theorem Rel.mono2 {d : D} {v : V} (e : Same F F') (p : m.ms <+: m'.ms) (r : Rel K F m d v) : Rel K F' m' d v := Rel.side (m := ⟨m'.ms, m.G⟩) m'.G (Rel.mono (m' := ⟨m'.ms, m.G⟩) e ⟨p, rfl⟩ r)
theorem Rels.mono2 {d : List D} {v : List V} (e : Same F F') (p : m.ms <+: m'.ms) (r : Rels K F m d v) : Rels K F' m' d v := Rels.side (m := ⟨m'.ms, m.G⟩) m'.G (Rels.mono (m' := ⟨m'.ms, m.G⟩) e ⟨p, rfl⟩ r)
theorem Rels.length : ∀ {d : List D} {v : List V}, Rels K F m d v → d.length = v.length
  | _, _, .nil => rfl
  | _, _, .cons _ r => by rw [List.length_cons, List.length_cons, r.length]
theorem Rels.append : ∀ {a b : List D} {v w : List V}, Rels K F m a v → Rels K F m b w → Rels K F m (a ++ b) (v ++ w)
  | _, _, _, _, .nil, s => s
  | _, _, _, _, .cons h r, s => .cons h (Rels.append r s)
theorem Rels.get : ∀ {d : List D} {v : List V} {i : Nat} {x : D}, Rels K F m d v → d[i]? = some x → ∃ y, v[i]? = some y ∧ Rel K F m x y
  | _, _, _, _, .nil, e0 => by simp at e0
  | _, _, 0, _, .cons h _, e => by
    simp at e
    subst e
    exact ⟨_, rfl, h⟩
  | _, _, i + 1, _, .cons _ r, e => by
    obtain ⟨y, h1, h2⟩ := Rels.get (i := i) r (by simpa using e)
    exact ⟨y, by simpa using h1, h2⟩
theorem Rels.get' : ∀ {d : List D} {v : List V} {i : Nat} {y : V}, Rels K F m d v → v[i]? = some y → ∃ x, d[i]? = some x ∧ Rel K F m x y
  | _, _, _, _, .nil, e0 => by simp at e0
  | _, _, 0, _, .cons h _, e => by
    simp at e
    subst e
    exact ⟨_, rfl, h⟩
  | _, _, i + 1, _, .cons _ r, e => by
    obtain ⟨y, h1, h2⟩ := Rels.get' (i := i) r (by simpa using e)
    exact ⟨y, by simpa using h1, h2⟩
theorem Rels.take : ∀ {d : List D} {v : List V} (n : Nat), Rels K F m d v → Rels K F m (d.take n) (v.take n)
  | _, _, 0, _ => .nil
  | _, _, _ + 1, .nil => .nil
  | _, _, n + 1, .cons h r => .cons h (Rels.take n r)
theorem Rels.drop : ∀ {d : List D} {v : List V} (n : Nat), Rels K F m d v → Rels K F m (d.drop n) (v.drop n)
  | _, _, 0, r => r
  | _, _, _ + 1, .nil => .nil
  | _, _, n + 1, .cons _ r => Rels.drop n r
theorem Rels.set {x : D} {y : V} (h : Rel K F m x y) : ∀ {d : List D} {v : List V} (i : Nat), Rels K F m d v → Rels K F m (d.set i x) (v.set i y)
  | _, _, _, .nil => .nil
  | _, _, 0, .cons _ r => .cons h r
  | _, _, i + 1, .cons q r => .cons q (Rels.set h i r)
theorem Rels.eraseIdx : ∀ {d : List D} {v : List V} (i : Nat), Rels K F m d v → Rels K F m (d.eraseIdx i) (v.eraseIdx i)
  | _, _, _, .nil => .nil
  | _, _, 0, .cons _ r => r
  | _, _, i + 1, .cons q r => .cons q (Rels.eraseIdx i r)
theorem Rels.dropLast : ∀ {d : List D} {v : List V}, Rels K F m d v → Rels K F m d.dropLast v.dropLast
  | _, _, .nil => .nil
  | _, _, .cons _ .nil => .nil
  | _, _, .cons h (.cons h2 r) => .cons h (Rels.dropLast (.cons h2 r))
theorem Rels.cut {d : List D} {v : List V} (r : Rels K F m d v) (lo hi : Option Int) : Rels K F m (cutD d lo hi) (cutV v lo hi) := by
  unfold cutD cutV
  rw [r.length]
  exact (r.drop _).take _
theorem Rels.flatten_rep {d : List D} {v : List V} (r : Rels K F m d v) : ∀ k : Nat, Rels K F m (List.replicate k d).flatten (List.replicate k v).flatten
  | 0 => .nil
  | k + 1 => by
    (rw [List.replicate_succ, List.replicate_succ, List.flatten_cons, List.flatten_cons])
    exact r.append (Rels.flatten_rep r k)
theorem Rels.ints : ∀ {d : List D} {v : List V} {ns : List Int}, Rels K F m d v → intsD d = some ns → v = ns.map V.int
  | _, _, _, .nil, e => by
    simp only [KI.intsD, Option.some.injEq] at e
    subst e
    rfl
  | _, _, _, .cons (.int i) r, e => by
    simp only [KI.intsD, Option.map_eq_some_iff] at e
    obtain ⟨ms, e1, e2⟩ := e
    subst e2
    rw [List.map_cons, Rels.ints r e1]
  | _, _, _, .cons (.non) _, e => by simp [KI.intsD] at e
  | _, _, _, .cons (.bl _) _, e => by simp [KI.intsD] at e
  | _, _, _, .cons (.str _) _, e => by simp [KI.intsD] at e
  | _, _, _, .cons (.tup _ _) _, e => by simp [KI.intsD] at e
  | _, _, _, .cons (.lst _ _) _, e => by simp [KI.intsD] at e
  | _, _, _, .cons (.scr _) _, e => by simp [KI.intsD] at e
  | _, _, _, .cons (.dct _ _) _, e => by simp [KI.intsD] at e
  | _, _, _, .cons (.ref _) _, e => by simp [KI.intsD] at e
theorem Rels.bools : ∀ {d : List D} {v : List V} {ns : List Bool}, Rels K F m d v → boolsD d = some ns → v = ns.map V.bl
  | _, _, _, .nil, e => by
    simp only [KI.boolsD, Option.some.injEq] at e
    subst e
    rfl
  | _, _, _, .cons (.bl i) r, e => by
    simp only [KI.boolsD, Option.map_eq_some_iff] at e
    obtain ⟨ms, e1, e2⟩ := e
    subst e2
    rw [List.map_cons, Rels.bools r e1]
  | _, _, _, .cons (.non) _, e => by simp [KI.boolsD] at e
  | _, _, _, .cons (.int _) _, e => by simp [KI.boolsD] at e
  | _, _, _, .cons (.str _) _, e => by simp [KI.boolsD] at e
  | _, _, _, .cons (.tup _ _) _, e => by simp [KI.boolsD] at e
  | _, _, _, .cons (.lst _ _) _, e => by simp [KI.boolsD] at e
  | _, _, _, .cons (.scr _) _, e => by simp [KI.boolsD] at e
  | _, _, _, .cons (.dct _ _) _, e => by simp [KI.boolsD] at e
  | _, _, _, .cons (.ref _) _, e => by simp [KI.boolsD] at e
theorem Rels.of_ints : ∀ (ns : List Int), Rels K F m (ns.map D.int) (ns.map V.int)
  | [] => .nil
  | n :: r => .cons (.int n) (Rels.of_ints r)

/-! ### the store's objects -/
inductive RelO (K : PySem.W.Frag) (cl : Str → Addr) (F : Hp) (m : Mw) : Ob → HO → Prop
  | lst {xs : List D} {vs : List V} : Rels K F m xs vs → RelO K cl F m (.lst xs) (.lst vs)
  | dct {xs : List (Key × D)} {vs : List (Key × V)} : Relk K F m xs vs → RelO K cl F m (.dct xs) (.dK vs)
  | ins {c : Str} {dx : Addr} {fs : List (Str × D)} {vs : List (Str × V)} : Relf K F m fs vs → RelO K cl F m (.ins c fs) (.ins (cl c) dx vs)
theorem RelO.mono {cl : Str → Addr} {o : Ob} {h : HO} (e : Same F F') (p : Pre m m') (r : RelO K cl F m o h) : RelO K cl F' m' o h := by
  cases r with
  | lst r => exact .lst (r.mono e p)
  | dct r => exact .dct (r.mono e p)
  | ins r => exact .ins (r.mono e p)

/-- what stands aside is not spoken of -/
theorem RelO.side {cl : Str → Addr} {o : Ob} {h : HO} (r : RelO K cl F m o h) (G : Hp) : RelO K cl F ⟨m.ms, G⟩ o h := by
  cases r with
  | lst r => exact .lst (r.side G)
  | dct r => exact .dct (r.side G)
  | ins r => exact .ins (r.side G)

structure Rep (K : PySem.W.Frag) (cl : Str → Addr) (F : Hp) (m : Mw) (S : Store) (H : Hp) : Prop where
  fz : Same F H
  gz : Same m.G H
  gd : ∀ (a : Addr) (o : HO), m.G a = some o → F a = none ∧ a ∉ m.ms
  len : m.ms.length = S.length
  nd : m.ms.Nodup
  ob : ∀ (i : Nat) (o : Ob) (a : Addr), S[i]? = some o → m.ms[i]? = some a → F a = none ∧ ∃ h, H a = some h ∧ RelO K cl F m o h
/-- what stands below n speaks of nothing from n on -/
def Old (n : Nat) (S : Store) : Prop := n ≤ S.length ∧ ∀ (i : Nat) (o : Ob), i < n → S[i]? = some o → topo o ≤ n

variable {cl : Str → Addr} {S : Store} {H H' : Hp}
theorem Rep.at (R : Rep K cl F m S H) {i : Nat} {o : Ob} (h : S[i]? = some o) : ∃ a ho, m.ms[i]? = some a ∧ F a = none ∧ H a = some ho ∧ RelO K cl F m o ho := by
  have hi : i < S.length := (List.getElem?_eq_some_iff.mp h).1
  have hm : m.ms[i]? = some (m.ms[i]'(by rw [R.len]; exact hi)) := List.getElem?_eq_getElem _
  obtain ⟨h1, ho, h2, h3⟩ := R.ob i o _ h hm
  exact ⟨_, ho, hm, h1, h2, h3⟩
theorem none_of {F H : Hp} {p : Addr} (e : Same F H) (np : H p = none) : F p = none := by
  cases h : F p with
  | none => rfl
  | some u =>
    have z := e _ _ h
    rw [np] at z
    cases z
theorem Rep.tr (R : Rep K cl F m S H) {p : Addr} (hp : p ∈ m.ms) : ∃ o, H p = some o := by
  obtain ⟨i, hi⟩ := List.getElem?_of_mem hp
  have hl : i < S.length := by rw [← R.len]; exact (List.getElem?_eq_some_iff.mp hi).1
  obtain ⟨_, ho, h2, _⟩ := R.ob i _ p (List.getElem?_eq_getElem hl) hi
  exact ⟨ho, h2⟩
theorem Rep.nm (R : Rep K cl F m S H) {p : Addr} (np : H p = none) : p ∉ m.ms := fun hm => by
  obtain ⟨o, ho⟩ := R.tr hm
  rw [np] at ho
  cases ho
/-- a new thing that stays -/
theorem Rep.fresh (R : Rep K cl F m S H) {p : Addr} (np : H p = none) (o : HO) : Same F (upd F p o) ∧ Rep K cl (upd F p o) m S (upd H p o) := by
  have nF : F p = none := none_of R.fz np
  have nG : m.G p = none := none_of R.gz np
  have sF : Same F (upd F p o) := fun b u e => by
    rw [upd_ne (ne_of_none e nF)]
    exact e
  refine ⟨sF, ⟨fun b u e => ?_, fun b u e => ?_, fun b u e => ?_, R.len, R.nd, fun i ob a h1 h2 => ?_⟩⟩
  · by_cases hb : b = p
    · subst hb
      rw [upd_same] at e ⊢
      exact e
    · rw [upd_ne hb] at e ⊢
      exact R.fz _ _ e
  · rw [upd_ne (ne_of_none e nG)]
    exact R.gz _ _ e
  · rw [upd_ne (ne_of_none e nG)]
    exact R.gd _ _ e
  · obtain ⟨h3, ho, h4, h5⟩ := R.ob i ob a h1 h2
    have ne : a ≠ p := ne_of_none h4 np
    exact ⟨by rw [upd_ne ne]; exact h3, ho, by rw [upd_ne ne]; exact h4, h5.mono sF (Pre.refl m)⟩
/-- what is new at the end of the store's places -/
theorem Rep.more (R : Rep K cl F m S H) {p : Addr} {H' : Hp} (nm : p ∉ m.ms) (nF : F p = none) {o : Ob} {ho : HO} (r : RelO K cl F m o ho) (G' : Hp) (hG : ∀ a u, G' a = some u → m.G a = some u ∧ a ≠ p) (hH : ∀ a u, H a = some u → a ≠ p → H' a = some u) (hp : H' p = some ho) :
    Rep K cl F ⟨m.ms ++ [p], G'⟩ (S ++ [o]) H' := by
  have rm : ∀ {ob : Ob} {h : HO}, RelO K cl F m ob h → RelO K cl F ⟨m.ms ++ [p], G'⟩ ob h := fun {ob h} q => by
    have q2 : RelO K cl F ⟨m.ms ++ [p], m.G⟩ ob h := q.mono (Same.refl F) (Pre.app m p)
    exact q2.side G'
  have neF : ∀ b u, F b = some u → b ≠ p := fun b u e z => by
    rw [z, nF] at e
    cases e
  refine ⟨fun b u e => hH _ _ (R.fz _ _ e) (neF b u e), fun b u e => ?_, fun b u e => ?_, by rw [List.length_append, List.length_append, R.len]; rfl, ?_, fun i ob a h1 h2 => ?_⟩
  · obtain ⟨h1, h2⟩ := hG b u e
    exact hH _ _ (R.gz _ _ h1) h2
  · obtain ⟨h1, h2⟩ := hG b u e
    obtain ⟨h3, h4⟩ := R.gd _ _ h1
    refine ⟨h3, fun hm => ?_⟩
    rcases List.mem_append.mp hm with z | z
    · exact h4 z
    · exact h2 (by simpa using z)
  · show (m.ms ++ [p]).Nodup
    rw [List.nodup_append]
    refine ⟨R.nd, by simp, fun a ha b hb => ?_⟩
    have eb : b = p := by simpa using hb
    subst eb
    intro z
    subst z
    exact nm ha
  · replace h2 : (m.ms ++ [p])[i]? = some a := h2
    by_cases hi : i < S.length
    · rw [List.getElem?_append_left hi] at h1
      rw [List.getElem?_append_left (by rw [R.len]; exact hi)] at h2
      obtain ⟨h3, ho', h4, h5⟩ := R.ob i ob a h1 h2
      have ne : a ≠ p := fun z => nm (z ▸ List.mem_of_getElem? h2)
      exact ⟨h3, ho', hH _ _ h4 ne, rm h5⟩
    · have hi' : i = S.length := by
        have := (List.getElem?_eq_some_iff.mp h1).1
        rw [List.length_append] at this
        simp at this
        omega
      subst hi'
      rw [List.getElem?_append_right (Nat.le_refl _)] at h1
      rw [← R.len, List.getElem?_append_right (Nat.le_refl _)] at h2
      simp at h1 h2
      subst h1 h2
      exact ⟨nF, ho, hp, rm r⟩
/-- a new object of the store -/
theorem Rep.alloc (R : Rep K cl F m S H) {p : Addr} (np : H p = none) {o : Ob} {ho : HO} (r : RelO K cl F m o ho) : Rep K cl F (m.app p) (S ++ [o]) (upd H p ho) :=
  R.more (R.nm np) (none_of R.fz np) r m.G (fun a u e => ⟨e, ne_of_none e (none_of R.gz np)⟩) (fun a u e ne => by rw [upd_ne ne]; exact e) upd_same
/-- an object of the store changes -/
theorem Rep.write (R : Rep K cl F m S H) {i : Nat} {a : Addr} {o : Ob} {ho : HO} (hi : m.ms[i]? = some a) (hl : i < S.length) (r : RelO K cl F m o ho) : Rep K cl F m (S.set i o) (upd H a ho) := by
  have nF : F a = none := (R.ob i _ a (List.getElem?_eq_getElem hl) hi).1
  refine ⟨fun b u e => ?_, fun b u e => ?_, R.gd, by rw [List.length_set]; exact R.len, R.nd, fun j ob b h1 h2 => ?_⟩
  · rw [upd_ne (ne_of_none e nF)]
    exact R.fz _ _ e
  · have ne : b ≠ a := fun z => by
      subst z
      exact (R.gd _ _ e).2 (List.mem_of_getElem? hi)
    rw [upd_ne ne]
    exact R.gz _ _ e
  · by_cases hj : j = i
    · subst hj
      rw [List.getElem?_set_self hl] at h1
      rw [hi] at h2
      cases h1
      cases h2
      exact ⟨nF, ho, upd_same, r⟩
    · rw [List.getElem?_set_ne (Ne.symm hj)] at h1
      obtain ⟨h3, ho', h4, h5⟩ := R.ob j ob b h1 h2
      have ne : b ≠ a := fun z => by
        subst z
        exact hj ((List.getElem?_inj (List.getElem?_eq_some_iff.mp h2).1 R.nd).mp (h2.trans hi.symm))
      exact ⟨h3, ho', by rw [upd_ne ne]; exact h4, h5⟩
/-- a new thing stands aside -/
theorem Rep.aside (R : Rep K cl F m S H) {p : Addr} (np : H p = none) (o : HO) : Rep K cl F ⟨m.ms, upd m.G p o⟩ S (upd H p o) := by
  have nF : F p = none := none_of R.fz np
  refine ⟨fun b u e => by rw [upd_ne (ne_of_none e nF)]; exact R.fz _ _ e, fun b u e => ?_, fun b u e => ?_, R.len, R.nd, fun i ob a h1 h2 => ?_⟩
  · by_cases hb : b = p
    · subst hb
      have e : upd m.G b o b = some u := e
      rw [upd_same] at e ⊢
      exact e
    · have e : upd m.G p o b = some u := e
      rw [upd_ne hb] at e ⊢
      exact R.gz _ _ e
  · by_cases hb : b = p
    · subst hb
      exact ⟨nF, R.nm np⟩
    · have e : upd m.G p o b = some u := e
      rw [upd_ne hb] at e
      exact R.gd _ _ e
  · obtain ⟨h3, ho, h4, h5⟩ := R.ob i ob a h1 h2
    exact ⟨h3, ho, by rw [upd_ne (ne_of_none h4 np)]; exact h4, h5.side _⟩
/-- .. and changes -/
theorem Rep.again {G : Hp} {ms : List Addr} {p : Addr} {o o' : HO} (R : Rep K cl F ⟨ms, upd G p o⟩ S H) : Rep K cl F ⟨ms, upd G p o'⟩ S (upd H p o') := by
  have hp := R.gd p o (show upd G p o p = some o from upd_same)
  have neF : ∀ b u, F b = some u → b ≠ p := fun b u e z => by
    rw [z, hp.1] at e
    cases e
  refine ⟨fun b u e => by rw [upd_ne (neF b u e)]; exact R.fz _ _ e, fun b u e => ?_, fun b u e => ?_, R.len, R.nd, fun i ob a h1 h2 => ?_⟩
  · by_cases hb : b = p
    · subst hb
      have e : upd G b o' b = some u := e
      rw [upd_same] at e ⊢
      exact e
    · have e : upd G p o' b = some u := e
      rw [upd_ne hb] at e ⊢
      exact R.gz _ _ (show upd G p o b = some u by rw [upd_ne hb]; exact e)
  · by_cases hb : b = p
    · subst hb
      exact hp
    · have e : upd G p o' b = some u := e
      rw [upd_ne hb] at e
      exact R.gd b u (show upd G p o b = some u by rw [upd_ne hb]; exact e)
  · obtain ⟨h3, ho, h4, h5⟩ := R.ob i ob a h1 h2
    have ne : a ≠ p := fun z => by
      subst z
      exact hp.2 (List.mem_of_getElem? h2)
    exact ⟨h3, ho, by rw [upd_ne ne]; exact h4, h5.side _⟩
/-- what stood aside stays from now on -/
theorem Rep.into {G : Hp} {ms : List Addr} {p : Addr} {o : HO} (R : Rep K cl F ⟨ms, upd G p o⟩ S H) (nG : G p = none) : Same F (upd F p o) ∧ Rep K cl (upd F p o) ⟨ms, G⟩ S H := by
  have hp := R.gd p o (show upd G p o p = some o from upd_same)
  have hH : H p = some o := R.gz p o (show upd G p o p = some o from upd_same)
  have sF : Same F (upd F p o) := fun b u e => by
    rw [upd_ne (ne_of_none e hp.1)]
    exact e
  have gne : ∀ b u, G b = some u → b ≠ p := fun b u e => ne_of_none e nG
  refine ⟨sF, ⟨fun b u e => ?_, fun b u e => ?_, fun b u e => ?_, R.len, R.nd, fun i ob a h1 h2 => ?_⟩⟩
  · by_cases hb : b = p
    · subst hb
      rw [upd_same] at e
      cases e
      exact hH
    · rw [upd_ne hb] at e
      exact R.fz _ _ e
  · exact R.gz b u (show upd G p o b = some u by rw [upd_ne (gne b u e)]; exact e)
  · obtain ⟨h1, h2⟩ := R.gd b u (show upd G p o b = some u by rw [upd_ne (gne b u e)]; exact e)
    exact ⟨by rw [upd_ne (gne b u e)]; exact h1, h2⟩
  · obtain ⟨h3, ho, h4, h5⟩ := R.ob i ob a h1 h2
    have ne : a ≠ p := fun z => by
      subst z
      exact hp.2 (List.mem_of_getElem? h2)
    exact ⟨by rw [upd_ne ne]; exact h3, ho, h4, (h5.side G).mono sF (Pre.refl _)⟩
/-- .. is an object of the store from now on -/
theorem Rep.join {G : Hp} {ms : List Addr} {p : Addr} {o : Ob} {ho : HO} (R : Rep K cl F ⟨ms, upd G p ho⟩ S H) (nG : G p = none) (r : RelO K cl F ⟨ms, upd G p ho⟩ o ho) : Rep K cl F ⟨ms ++ [p], G⟩ (S ++ [o]) H := by
  have hp := R.gd p ho (show upd G p ho p = some ho from upd_same)
  have hH : H p = some ho := R.gz p ho (show upd G p ho p = some ho from upd_same)
  exact R.more hp.2 hp.1 r G (fun a u e => ⟨show upd G p ho a = some u by rw [upd_ne (ne_of_none e nG)]; exact e, ne_of_none e nG⟩) (fun a u e _ => e) hH
end

/-! ### names -/
def RelL (K : PySem.W.Frag) (F : Hp) (m : Mw) (L : Lc) (σ : St) : Prop := L.length = σ.length ∧ ∀ (i : Nat) (d : D), L[i]? = some (some d) → ∃ v, σ[i]? = some (some v) ∧ Rel K F m d v
section
variable {K : PySem.W.Frag} {F F' : Hp} {m m' : Mw} {L : Lc} {σ : St}
theorem RelL.mono (e : Same F F') (p : Pre m m') (h : RelL K F m L σ) : RelL K F' m' L σ := ⟨h.1, fun i d hd => by
  obtain ⟨v, h1, h2⟩ := h.2 i d hd
  exact ⟨v, h1, h2.mono e p⟩⟩
theorem RelL.side (h : RelL K F m L σ) (G : Hp) : RelL K F ⟨m.ms, G⟩ L σ := ⟨h.1, fun i d hd => by
  obtain ⟨v, h1, h2⟩ := h.2 i d hd
  exact ⟨v, h1, Rel.side G h2⟩⟩
theorem RelL.set (h : RelL K F m L σ) {d : D} {v : V} (r : Rel K F m d v) (i : Nat) : RelL K F m (L.set i (some d)) (σ.set i (some v)) := ⟨by rw [List.length_set, List.length_set, h.1], fun j e hj => by
  by_cases z : i = j
  · subst z
    have hl : i < L.length := by
      have := (List.getElem?_eq_some_iff.mp hj).1
      rw [List.length_set] at this
      exact this
    rw [List.getElem?_set_self hl] at hj
    cases hj
    exact ⟨v, by rw [List.getElem?_set_self (by rw [← h.1]; exact hl)], r⟩
  · rw [List.getElem?_set_ne z] at hj
    obtain ⟨w, h1, h2⟩ := h.2 j e hj
    exact ⟨w, by rw [List.getElem?_set_ne z]; exact h1, h2⟩⟩
theorem RelL.setN (h : RelL K F m L σ) (i : Nat) : RelL K F m (L.set i none) (σ.set i none) := ⟨by rw [List.length_set, List.length_set, h.1], fun j e hj => by
  by_cases z : i = j
  · subst z
    by_cases hl : i < L.length
    · rw [List.getElem?_set_self hl] at hj
      cases hj
    · rw [List.getElem?_eq_none (by rw [List.length_set]; omega)] at hj
      cases hj
  · rw [List.getElem?_set_ne z] at hj
    obtain ⟨w, h1, h2⟩ := h.2 j e hj
    exact ⟨w, by rw [List.getElem?_set_ne z]; exact h1, h2⟩⟩
theorem RelL.wipe (h : RelL K F m L σ) : ∀ vs : List Nat, RelL K F m (wipeL L vs) (wipe σ vs)
  | [] => h
  | v :: vs => (RelL.wipe h vs).setN v
end
end KI

/-! KP: what an evaluation promises over the abstract heap; the operations. -/
namespace KI
open PySem L2

/-- an exception's fields: none, or in its own dict -/
def ExcR (K : PySem.W.Frag) (F : Hp) (m : Mw) (fs : List (Str × D)) (d : Option Addr) : Prop :=
  (fs = [] ∧ d = none) ∨ ∃ dd vs, d = some dd ∧ F dd = some (.xd vs) ∧ Relf K F m fs vs

/-- what the rules lean on -/
structure Ct where
  K : PySem.W.Frag
  cl : Str → Addr
  V : Env
  /-- the bases of the frames that run -/
  b : Nat → Prop
  hb : ∀ n0, b n0 → n0 ≤ V.n
def OldC (C : Ct) (S : Store) : Prop := ∀ n0, C.b n0 → Old n0 S

section
variable (C : Ct) (WE : Value → Option Addr → Hp → Prop)
/-- r's end, whatever heap lies so, is Q -/
def Post {α β : Type} (F : Hp) (m : Mw) (R : Hp → Mw → α → β → Prop) (r : Res α) (Q : β → Hp → Prop) : Prop := match r with
  | .ok a S' => ∀ (F' : Hp) (m' : Mw) (H' : Hp) (b : β), Same F F' → Pre m m' → Rep C.K C.cl F' m' S' H' → OldC C S' → R F' m' a b → Q b H'
  | .exc c fs S' => ∀ (F' : Hp) (m' : Mw) (H' : Hp) (d : Option Addr), Same F F' → Pre m m' → Rep C.K C.cl F' m' S' H' → OldC C S' → ExcR C.K F' m' fs d → WE (.ref (C.cl c)) d H'
  | .bad => False
end
section
variable {C : Ct} {WE : Value → Option Addr → Hp → Prop} {α β γ δ : Type} {F F' : Hp} {m m' : Mw} {R : Hp → Mw → α → β → Prop} {R2 : Hp → Mw → γ → δ → Prop}
theorem Post.mono {r : Res α} {Q : β → Hp → Prop} (e : Same F F') (p : Pre m m') (h : Post C WE F m R r Q) : Post C WE F' m' R r Q := by
  cases r with
  | ok a S => exact fun F2 m2 H2 b e2 p2 => h F2 m2 H2 b (e.trans e2) (p.trans p2)
  | exc c fs S => exact fun F2 m2 H2 d e2 p2 => h F2 m2 H2 d (e.trans e2) (p.trans p2)
  | bad => exact h
/-- the first of two: its end is the second's start -/
theorem Post.unbind {r : Res α} {f : α → Store → Res γ} {Q : δ → Hp → Prop} {Q' : β → Hp → Prop} (h : Post C WE F m R2 (r.bind f) Q)
    (k : ∀ (a : α) (S1 : Store) (F1 : Hp) (m1 : Mw) (H1 : Hp) (b : β), Same F F1 → Pre m m1 → Rep C.K C.cl F1 m1 S1 H1 → OldC C S1 → R F1 m1 a b → Post C WE F1 m1 R2 (f a S1) Q → Q' b H1) : Post C WE F m R r Q' := by
  cases r with
  | ok a S => exact fun F1 m1 H1 b e p rp o r => k a S F1 m1 H1 b e p rp o r (Post.mono e p h)
  | exc c fs S => exact h
  | bad => exact h
theorem Post.use {a : α} {b : β} {S : Store} {H : Hp} {Q : β → Hp → Prop} (h : Post C WE F m R (.ok a S) Q) (rp : Rep C.K C.cl F m S H) (o : OldC C S) (r : R F m a b) : Q b H :=
  h F m H b (Same.refl F) (Pre.refl m) rp o r
end

section
variable {C : Ct} {WE : Value → Option Addr → Hp → Prop} {F : Hp} {m : Mw} {S : Store} {H : Hp} {Q : VK}
abbrev RD (C : Ct) : Hp → Mw → D → V → Prop := fun F m d v => Rel C.K F m d v
abbrev RDs (C : Ct) : Hp → Mw → List D → List V → Prop := fun F m d v => Rels C.K F m d v
abbrev RB : Hp → Mw → Bool → Bool → Prop := fun _ _ a b => a = b

theorem Post.tup {xs : List D} {vs : List V} (h : Post C WE F m (RD C) (.ok (.tup xs) S) Q) (rp : Rep C.K C.cl F m S H) (o : OldC C S) (r : Rels C.K F m xs vs) : ∀ p, H p = none → Q (.ref p) (upd H p (.tup vs)) := fun p np => by
  obtain ⟨e, rp'⟩ := rp.fresh np (.tup vs)
  exact h _ m _ _ e (Pre.refl m) rp' o (.tup (.inl (.inl upd_same)) (r.mono e (Pre.refl m)))
theorem Old.push {n : Nat} {S : Store} {o : Ob} (h : Old n S) : Old n (S ++ [o]) := ⟨by rw [List.length_append]; have := h.1; omega, fun i ob hi e => by
  have := h.1
  rw [List.getElem?_append_left (by omega)] at e
  exact h.2 i ob hi e⟩
theorem OldC.push {C : Ct} {S : Store} {o : Ob} (h : OldC C S) : OldC C (S ++ [o]) := fun n0 hn => (h n0 hn).push
theorem Post.lst {fl : Bool} {xs : List D} {vs : List V} (h : Post C WE F m (RD C) (fin fl (.l xs) S) Q) (rp : Rep C.K C.cl F m S H) (o : OldC C S) (r : Rels C.K F m xs vs) : ∀ p, H p = none → Q (.ref p) (upd H p (.lst vs)) := fun p np => by
  cases fl with
  | false =>
    obtain ⟨e, rp'⟩ := rp.fresh np (.lst vs)
    exact h _ m _ _ e (Pre.refl m) rp' o (.lst upd_same (r.mono e (Pre.refl m)))
  | true =>
    have rp' := rp.alloc np (o := .lst xs) (.lst r)
    exact h F (m.app p) _ _ (Same.refl F) (Pre.app m p) rp' o.push (.ref (by show (m.ms ++ [p])[S.length]? = some p; rw [← rp.len, List.getElem?_append_right (Nat.le_refl _)]; simp))
theorem Post.val {fl : Bool} {d : D} {v : V} (h : Post C WE F m (RD C) (fin fl (.v d) S) Q) (rp : Rep C.K C.cl F m S H) (o : OldC C S) (r : Rel C.K F m d v) : Q v H := Post.use (R := RD C) h rp o r
theorem Post.valT {fl : Bool} {xs : List D} {vs : List V} (h : Post C WE F m (RD C) (fin fl (.v (.tup xs)) S) Q) (rp : Rep C.K C.cl F m S H) (o : OldC C S) (r : Rels C.K F m xs vs) : ∀ p, H p = none → Q (.ref p) (upd H p (.tup vs)) := Post.tup h rp o r

/-! ### reading the store -/
theorem SqT.ex {K : PySem.W.Frag} {F H : Hp} {a : Addr} {vs : List V} (e : Same F H) (h : SqT K F a vs) : SqT K H a vs := seqT_mono e h
theorem lit_sq {x : D} {v : V} {xs : List D} (rp : Rep C.K C.cl F m S H) (r : Rel C.K F m x v) (e : litems S x = some xs) : ∃ a vs, v = .ref a ∧ H a = some (.lst vs) ∧ Rels C.K F m xs vs := by
  cases r with
  | lst h rs =>
    simp only [litems, Option.some.injEq] at e
    subst e
    exact ⟨_, _, rfl, rp.fz _ _ h, rs⟩
  | ref h =>
    rename_i i a
    simp only [litems] at e
    split at e
    · rename_i ys hs
      cases e
      obtain ⟨b, ho, h1, h2, h3, h4⟩ := rp.at hs
      rw [h] at h1
      cases h1
      cases h4 with
      | lst rs => exact ⟨_, _, rfl, h3, rs⟩
    · cases e
  | _ => simp [litems] at e
theorem it_sq {x : D} {v : V} {xs : List D} (rp : Rep C.K C.cl F m S H) (r : Rel C.K F m x v) (e : items S x = some xs) : ∃ a vs, v = .ref a ∧ (SqL C.K H a vs ∨ SqT C.K H a vs) ∧ Rels C.K F m xs vs := by
  cases r with
  | tup h rs =>
    simp only [items, Option.some.injEq] at e
    subst e
    exact ⟨_, _, rfl, .inr (seqT_mono rp.fz h), rs⟩
  | scr h =>
    simp only [items, Option.some.injEq] at e
    subst e
    exact ⟨_, _, rfl, .inl (rp.fz.seq h), Rels.of_ints _⟩
  | lst h rs =>
    simp only [items, Option.some.injEq] at e
    subst e
    exact ⟨_, _, rfl, .inl (.inl (.inl (rp.fz _ _ h))), rs⟩
  | ref h =>
    rename_i i a
    simp only [items] at e
    split at e
    · rename_i ys hs
      cases e
      obtain ⟨b, ho, h1, h2, h3, h4⟩ := rp.at hs
      rw [h] at h1
      cases h1
      cases h4 with
      | lst rs => exact ⟨_, _, rfl, .inl (.inl (.inl h3)), rs⟩
    · cases e
  | _ => simp [items] at e

/-! ### as plain data -/
mutual
theorem rel_dp (e : Same F H) : ∀ {d : D} {v : V} {p : PyData}, Rel C.K F m d v → toPy d = some p → Dp C.K H v p
  | _, _, _, .non, h => by
    simp only [toPy, Option.some.injEq] at h
    subst h
    exact .non
  | _, _, _, .bl b, h => by
    simp only [toPy, Option.some.injEq] at h
    subst h
    exact .bl b
  | _, _, _, .int b, h => by
    simp only [toPy, Option.some.injEq] at h
    subst h
    exact .int b
  | _, _, _, .str b, h => by
    simp only [toPy, Option.some.injEq] at h
    subst h
    exact .str b
  | _, _, _, .tup q rs, h => by
    simp only [toPy, Option.map_eq_some_iff] at h
    obtain ⟨ps, h1, h2⟩ := h
    subst h2
    exact .tup (seqT_mono e q) (rels_dp e rs h1)
  | _, _, _, .lst q rs, h => by
    simp only [toPy, Option.map_eq_some_iff] at h
    obtain ⟨ps, h1, h2⟩ := h
    subst h2
    exact .lst (.inl (.inl (e _ _ q))) (rels_dp e rs h1)
  | _, _, _, .scr _, h => by simp [toPy] at h
  | _, _, _, .dct _ _, h => by simp [toPy] at h
  | _, _, _, .ref _, h => by simp [toPy] at h
theorem rels_dp (e : Same F H) : ∀ {d : List D} {v : List V} {p : List PyData}, Rels C.K F m d v → toPys d = some p → DpAll C.K H v p
  | _, _, _, .nil, h => by
    simp only [toPys, Option.some.injEq] at h
    subst h
    exact .nil
  | _, _, _, .cons r rs, h => by
    simp only [toPys] at h
    split at h
    · rename_i a b h1 h2
      cases h
      exact .cons (rel_dp e r h1) (rels_dp e rs h2)
    · cases h
end
theorem relS_dp {d : D} {v : V} {p : PyData} (rp : Rep C.K C.cl F m S H) (r : Rel C.K F m d v) (h : toPyS S d = some p) : Dp C.K H v p := by
  cases r with
  | ref q =>
    simp only [toPyS] at h
    split at h
    · rename_i ys hs
      obtain ⟨b, ho, h1, h2, h3, h4⟩ := rp.at hs
      rw [q] at h1
      cases h1
      cases h4 with
      | lst rs =>
        (simp only [Option.map_eq_some_iff] at h)
        obtain ⟨ps, e1, e2⟩ := h
        subst e2
        exact .lst (.inl (.inl h3)) (rels_dp rp.fz rs e1)
    · cases h
  | non => exact rel_dp (m := m) rp.fz .non h
  | bl b => exact rel_dp (m := m) rp.fz (.bl b) h
  | int b => exact rel_dp (m := m) rp.fz (.int b) h
  | str b => exact rel_dp (m := m) rp.fz (.str b) h
  | tup a b => exact rel_dp rp.fz (.tup a b) h
  | lst a b => exact rel_dp rp.fz (.lst a b) h
  | scr a => simp [toPyS, toPy] at h
  | dct a b => simp [toPyS, toPy] at h
end

/-! ### the operations as rules over values -/
section
variable {X : Cx} (C : Ct) (WE : Value → Option Addr → Hp → Prop)
/-- two values, and what the operation tells of them -/
def r2 (f : D → D → Store → Res D) : R2 := fun x y H Q => ∃ (F : Hp) (m : Mw) (S : Store) (a b : D), Rep C.K C.cl F m S H ∧ OldC C S ∧ Rel C.K F m a x ∧ Rel C.K F m b y ∧ Post C WE F m (RD C) (f a b S) Q
def opOf : Bop → Operator
  | .add => .Add | .sub => .Sub | .mul => .Mult | .fdiv => .FloorDiv | .mod => .Mod | .pow => .Pow
end
section
variable {X : Cx} {C : Ct} {WE : Value → Option Addr → Hp → Prop}
theorem big_sz {n : Nat} (h : n ≤ big) : n ≤ sizeLine := Nat.le_trans h (by decide)
theorem big_lt {n : Nat} (h : n < big) : n < sizeLine := Nat.lt_of_lt_of_le h (by decide)
theorem ite_some {α : Type} {c : Prop} [Decidable c] {a b : α} (h : (if c then some a else none) = some b) : c ∧ a = b := by
  split at h
  · rename_i hc
    exact ⟨hc, Option.some.inj h⟩
  · cases h

theorem mul_ok {i j : Int} (h : mulOk i j = true) : CMulW i j := by
  unfold mulOk at h
  have h' := of_decide_eq_true h
  exact h'
theorem emp_iff {K : PySem.W.Frag} {F : Hp} {m : Mw} {xs : List D} {vs : List V} (r : Rels K F m xs vs) : xs = [] ↔ vs = [] := by
  cases r <;> simp
theorem op_bin {fl : Bool} {op : Bop} (hK : C.K = X.K) : OpR X (binaryOp (opOf op)) (r2 C WE fun a b S => finO fl (binop S op a b) S) := by
  (intro pins s σ H x y v u Q I rx ry h)
  obtain ⟨F, m, S, a, b, rp, o, ra, rb, h⟩ := h
  cases hr : binop S op a b with
  | none =>
    simp only [hr, finO] at h
    exact False.elim h
  | some r =>
    simp only [hr, finO] at h
    have gen : ∀ op', intD op' a b = some r → ∃ i j, a = .int i ∧ b = .int j ∧ intop op' i j = some r := fun op' e => by
      unfold intD at e
      split at e
      · exact ⟨_, _, rfl, rfl, e⟩
      · cases e
    cases op with
    | add =>
      have hr' : addop S a b = some r := hr
      unfold addop at hr'
      split at hr'
      · cases hr'; cases ra; cases rb
        exact op_add pins s σ H _ _ v u Q I rx ry ⟨_, _, rfl, rfl, h.val rp o (.int _)⟩
      · obtain ⟨hc, e⟩ := ite_some hr'
        subst e; cases ra; cases rb
        exact op_add_str pins s σ H _ _ v u Q I rx ry ⟨_, _, rfl, rfl, big_sz hc, h.val rp o (.str _)⟩
      · obtain ⟨hc, e⟩ := ite_some hr'
        subst e
        cases ra with
        | tup h1 r1 =>
        cases rb with
        | tup h2 r2 =>
          have q1 := h1
          have q2 := h2
          rw [hK] at q1 q2
          refine op_catA pins s σ H _ _ v u Q I rx ry ⟨_, _, _, _, rfl, rfl, seqT_mono rp.fz q1, seqT_mono rp.fz q2, ?_, fun e => ?_, fun _ e => ?_, fun _ _ => ?_⟩
          · rw [← r1.length, ← r2.length]
            exact big_sz hc
          · have e' := (emp_iff r1).mpr e
            subst e'
            exact h.val rp o (.tup h2 r2)
          · have e' := (emp_iff r2).mpr e
            subst e'
            rw [List.append_nil] at h
            exact h.val rp o (.tup h1 r1)
          · exact h.valT rp o (r1.append r2)
      · have hr2 : catL S a b = some r := hr'
        unfold catL at hr2
        split at hr2
        · rename_i xs ys e1 e2
          obtain ⟨hc, e⟩ := ite_some hr2
          subst e
          obtain ⟨p1, w1, rfl, g1, r1⟩ := lit_sq rp ra e1
          obtain ⟨p2, w2, rfl, g2, r2⟩ := lit_sq rp rb e2
          exact op_cat pins s σ H _ _ v u Q I rx ry ⟨_, _, _, _, rfl, rfl, g1, g2, by rw [← r1.length, ← r2.length]; exact big_sz hc, h.lst rp o (r1.append r2)⟩
        · cases hr2
    | mul =>
      have hr' : mulop S a b = some r := hr
      unfold mulop at hr'
      split at hr'
      · obtain ⟨hc, e⟩ := ite_some hr'
        subst e; cases ra; cases rb
        exact op_mulW pins s σ H _ _ v u Q I rx ry ⟨_, _, rfl, rfl, mul_ok hc, h.val rp o (.int _)⟩
      · obtain ⟨hc, e⟩ := ite_some hr'
        subst e
        cases rb
        cases ra with
        | tup h1 r1 =>
          (simp only [Bool.and_eq_true, decide_eq_true_eq] at hc)
          have q1 := h1
          rw [hK] at q1
          refine op_repT pins s σ H _ _ v u Q I rx ry ⟨_, _, _, rfl, rfl, seqT_mono rp.fz q1, fun e => ?_, hc.1.1.1, hc.1.1.2, ?_, h.valT rp o (r1.flatten_rep _)⟩
          · have e' := (emp_iff r1).mpr e
            subst e'
            simp at hc
          · rw [← r1.length]
            omega
      · rename_i k _ _
        have hr2 : repL S a k = some r := hr'
        unfold repL at hr2
        split at hr2
        · rename_i xs e1
          obtain ⟨hc, e⟩ := ite_some hr2
          subst e
          cases rb
          obtain ⟨p1, w1, rfl, g1, r1⟩ := lit_sq rp ra e1
          (simp only [Bool.and_eq_true, decide_eq_true_eq] at hc)
          refine op_rep pins s σ H _ _ v u Q I rx ry ⟨_, _, _, rfl, rfl, g1, by omega, by omega, ?_, h.lst rp o (r1.flatten_rep _)⟩
          rw [← r1.length]
          have h1 : k.toNat ≤ 1000 := by omega
          exact Nat.le_trans (Nat.mul_le_mul hc.2 h1) (by decide)
        · cases hr2
      · cases hr'
    | sub =>
      obtain ⟨i, j, rfl, rfl, e⟩ := gen .sub hr
      cases e; cases ra; cases rb
      exact op_sub pins s σ H _ _ v u Q I rx ry ⟨_, _, rfl, rfl, h.val rp o (.int _)⟩
    | fdiv =>
      obtain ⟨i, j, rfl, rfl, e⟩ := gen .fdiv hr
      obtain ⟨hc, e⟩ := ite_some e
      subst e; cases ra; cases rb
      have hc' := Bool.and_eq_true_iff.mp hc
      exact op_fdivW pins s σ H _ _ v u Q I rx ry ⟨_, _, rfl, rfl, ⟨of_decide_eq_true hc'.1, of_decide_eq_true hc'.2⟩, h.val rp o (.int _)⟩
    | mod =>
      obtain ⟨i, j, rfl, rfl, e⟩ := gen .mod hr
      obtain ⟨hc, e⟩ := ite_some e
      subst e; cases ra; cases rb
      exact op_mod pins s σ H _ _ v u Q I rx ry ⟨_, _, rfl, rfl, hc, h.val rp o (.int _)⟩
    | pow =>
      obtain ⟨i, j, rfl, rfl, e⟩ := gen .pow hr
      obtain ⟨hc, e⟩ := ite_some e
      subst e; cases ra; cases rb
      have hc' := Bool.and_eq_true_iff.mp hc
      have hc2 := Bool.and_eq_true_iff.mp hc'.1
      exact op_pow pins s σ H _ _ v u Q I rx ry ⟨_, _, rfl, rfl, ⟨of_decide_eq_true hc2.1, of_decide_eq_true hc2.2, of_decide_eq_true hc'.2⟩, h.val rp o (.int _)⟩
end
end KI

/-! KO: comparisons, items, slices, built-in functions. -/
namespace KI
open PySem L2
section
variable {X : Cx} {C : Ct} {WE : Value → Option Addr → Hp → Prop}

def copOf : Cop → CmpOp
  | .eq => .Eq | .ne => .NotEq | .lt => .Lt | .le => .LtE | .gt => .Gt | .ge => .GtE | .isN => .Is | .notN => .IsNot | .inn => .In | .nin => .NotIn | .isB => .Is | .notB => .IsNot
theorem op_cmp {op : Cop} (hK : C.K = X.K) (hu : X.A.units + 64 < cLine) : OpR X (compareOp (copOf op)) (r2 C WE fun a b S => ofO ((cmpop S op a b).map D.bl) S) := by
  (intro pins s σ H x y v u Q I rx ry h)
  obtain ⟨F, m, S, a, b, rp, o, ra, rb, h⟩ := h
  cases hr : cmpop S op a b with
  | none =>
    simp only [hr, Option.map_none, ofO] at h
    exact False.elim h
  | some r =>
    simp only [hr, Option.map_some, ofO] at h
    have q : Q (.bl r) H := h.use rp o (.bl r)
    have eqs : ∀ k, eqD S a b = some k → (∃ i j, x = .str i ∧ y = .str j ∧ (i == j) = k) ∨ ∃ d e, Dp X.K H x d ∧ Dp X.K H y e ∧ SeqAt.shaped d = true ∧ SeqAt.shaped e = true ∧ PyData.eqv d e = k := fun k e => by
      unfold eqD at e
      split at e
      · cases ra
        cases rb
        exact .inl ⟨_, _, rfl, rfl, Option.some.inj e⟩
      · unfold eqP at e
        split at e
        · rename_i p1 p2 e1 e2
          obtain ⟨hc, e⟩ := ite_some e
          have hc' := Bool.and_eq_true_iff.mp hc
          have d1 := relS_dp rp ra e1
          have d2 := relS_dp rp rb e2
          rw [hK] at d1 d2
          exact .inr ⟨_, _, d1, d2, hc'.1, hc'.2, e⟩
        · cases e
    cases op with
    | eq =>
      rcases eqs r hr with ⟨i, j, rfl, rfl, e⟩ | ⟨d, e, h1, h2, h3, h4, h5⟩
      · exact op_eq pins s σ H _ _ v u Q I rx ry ⟨rfl, by rw [dec_str, e]; exact q⟩
      exact op_eqD hu pins s σ H _ _ v u Q I rx ry ⟨d, e, h1, h2, h3, h4, by rw [h5]; exact q⟩
    | ne =>
      have hr' : (eqD S a b).map (!·) = some r := hr
      rw [Option.map_eq_some_iff] at hr'
      obtain ⟨k, hk, e⟩ := hr'
      rcases eqs k hk with ⟨i, j, rfl, rfl, e2⟩ | ⟨d, e2, h1, h2, h3, h4, h5⟩
      · exact op_ne pins s σ H _ _ v u Q I rx ry ⟨rfl, by rw [dec_str, e2, e]; exact q⟩
      exact op_neD hu pins s σ H _ _ v u Q I rx ry ⟨d, e2, h1, h2, h3, h4, by rw [h5, e]; exact q⟩
    | lt =>
      simp only [cmpop] at hr
      split at hr
      · cases hr; cases ra; cases rb
        exact op_lt pins s σ H _ _ v u Q I rx ry ⟨_, _, rfl, rfl, q⟩
      · cases hr
    | le =>
      simp only [cmpop] at hr
      split at hr
      · cases hr; cases ra; cases rb
        exact op_le pins s σ H _ _ v u Q I rx ry ⟨_, _, rfl, rfl, q⟩
      · cases hr
    | gt =>
      simp only [cmpop] at hr
      split at hr
      · cases hr; cases ra; cases rb
        exact op_gt pins s σ H _ _ v u Q I rx ry ⟨_, _, rfl, rfl, q⟩
      · cases hr
    | ge =>
      simp only [cmpop] at hr
      split at hr
      · cases hr; cases ra; cases rb
        exact op_ge pins s σ H _ _ v u Q I rx ry ⟨_, _, rfl, rfl, q⟩
      · cases hr
    | isN =>
      simp only [cmpop] at hr
      split at hr
      · cases rb
        refine op_isN pins s σ H _ _ v u Q I rx ry ⟨rfl, ?_⟩
        have e : r = decide (x = .non) := by
          cases ra <;> simp at hr <;> subst hr <;> simp
        rw [← e]
        exact q
      · cases hr
    | notN =>
      simp only [cmpop] at hr
      split at hr
      · cases rb
        refine op_notN pins s σ H _ _ v u Q I rx ry ⟨rfl, ?_⟩
        have e : r = !decide (x = .non) := by
          cases ra <;> simp at hr <;> subst hr <;> simp
        rw [← e]
        exact q
      · cases hr
    | isB =>
      simp only [cmpop] at hr
      split at hr
      · cases hr; cases ra; cases rb
        exact op_isBl pins s σ H _ _ v u Q I rx ry ⟨_, _, rfl, rfl, q⟩
      · cases hr
    | notB =>
      simp only [cmpop] at hr
      split at hr
      · cases hr; cases ra; cases rb
        exact op_notBl pins s σ H _ _ v u Q I rx ry ⟨_, _, rfl, rfl, q⟩
      · cases hr
    | inn => cases hr
    | nin => cases hr

/-- a[i] -/
theorem ix_D (hK : C.K = X.K) : IxR X (r2 C WE fun a b S => ofO (ixD S a b) S) := by
  (intro value slice pins s σ H x y v u Q I rx ry h hs)
  obtain ⟨F, m, S, a, b, rp, o, ra, rb, h⟩ := h
  cases hr : ixD S a b with
  | none =>
    simp only [hr, ofO] at h
    exact False.elim h
  | some r =>
    simp only [hr, ofO] at h
    unfold ixD at hr
    split at hr
    · rename_i k
      cases rb
      split at hr
      · rename_i z
        cases ra
        unfold ixS at hr
        split at hr
        · rename_i c hc
          obtain ⟨hz, e⟩ := ite_some hr
          subst e
          exact ix_seq value slice pins s σ H _ _ v u Q I rx ry (.inr (.inr ⟨_, _, _, rfl, rfl, big_sz hz, hc, h.use rp o (.str _)⟩)) hs
        · cases hr
      · have hr2 : ixX S a k = some r := hr
        unfold ixX at hr2
        split at hr2
        · rename_i xs e1
          obtain ⟨p, vs, rfl, sq, rs⟩ := it_sq rp ra e1
          have e2 : ∃ w, atI vs k = some w ∧ Rel C.K F m r w := by
            unfold atI at hr2 ⊢
            rw [← rs.length]
            cases hx : ixN xs.length k with
            | none =>
              rw [hx] at hr2
              cases hr2
            | some j =>
              rw [hx] at hr2
              exact rs.get (by simpa using hr2)
          obtain ⟨w, e3, rw'⟩ := e2
          have q : Q w H := h.use rp o rw'
          rw [hK] at sq
          rcases sq with sq | sq
          · exact ix_seq value slice pins s σ H _ _ v u Q I rx ry (.inl ⟨_, _, _, _, rfl, rfl, sq, e3, q⟩) hs
          · exact ix_seq value slice pins s σ H _ _ v u Q I rx ry (.inr (.inl ⟨_, _, _, _, rfl, rfl, sq, e3, q⟩)) hs
        · cases hr2
    · cases hr

/-- a[lo:hi]; the parts have been evaluated ahead -/
def r3 (C : Ct) (WE : Value → Option Addr → Hp → Prop) (f : D → Option Int → Option Int → Store → Res D) : V → Option Int → Option Int → Hp → VK → Prop := fun x lo hi H Q =>
  ∃ (F : Hp) (m : Mw) (S : Store) (a : D), Rep C.K C.cl F m S H ∧ OldC C S ∧ Rel C.K F m a x ∧ Post C WE F m (RD C) (f a lo hi S) Q
theorem sl_D {fl : Bool} (hK : C.K = X.K) : SlR X (r3 C WE fun a lo hi S => finO fl (slX S a lo hi) S) := by
  (intro pins s σ H x v vl vu lo hi sl Q I rx hs pl pu h)
  obtain ⟨F, m, S, a, rp, o, ra, h⟩ := h
  cases hr : slX S a lo hi with
  | none =>
    simp only [hr, finO] at h
    exact False.elim h
  | some r =>
    simp only [hr, finO] at h
    unfold slX at hr
    split at hr
    · cases hr
      cases ra with
      | tup h1 r1 =>
        have q1 := h1
        rw [hK] at q1
        refine sl_tupA pins s σ H _ v vl vu lo hi sl Q I rx hs pl pu ⟨_, _, rfl, seqT_mono rp.fz q1, fun e => ?_, fun _ => h.valT rp o (r1.cut lo hi)⟩
        rename_i xs p vs
        have ec : cutD xs lo hi = xs := by
          unfold cutD
          rw [r1.length]
          obtain ⟨e1, e2⟩ := e
          rw [e1, e2, ← r1.length]
          simp
        rw [ec] at h
        exact h.val rp o (.tup h1 r1)
    · obtain ⟨hc, e⟩ := ite_some hr
      subst e
      cases ra
      exact sl_str pins s σ H _ v vl vu lo hi sl Q I rx hs pl pu ⟨_, rfl, big_sz hc, h.val rp o (.str _)⟩
    · have hr2 : slL S a lo hi = some r := hr
      unfold slL at hr2
      split at hr2
      · rename_i xs e1
        cases hr2
        obtain ⟨p1, w1, rfl, g1, r1⟩ := lit_sq rp ra e1
        exact sl_list pins s σ H _ v vl vu lo hi sl Q I rx hs pl pu ⟨_, _, rfl, .inl (.inl g1), h.lst rp o (r1.cut lo hi)⟩
      · cases hr2
end
end KI

/-! KB: built-in functions. -/
namespace KI
open PySem PySem.Spec
open PyProof.Rows L2
section
variable {X : Cx} {C : Ct} {WE : Value → Option Addr → Hp → Prop}
/-- a call on values -/
def rn (C : Ct) (WE : Value → Option Addr → Hp → Prop) (f : List D → Store → Res D) : List V → Hp → VK → Prop := fun vs H Q =>
  ∃ (F : Hp) (m : Mw) (S : Store) (as : List D), Rep C.K C.cl F m S H ∧ OldC C S ∧ Rels C.K F m as vs ∧ Post C WE F m (RD C) (f as S) Q

/-- sum of a tuple of ints -/
theorem call_sumT (hc : X.calm = true) : CallR X (.builtin "sum") (fun vs H Q => ∃ (a : Addr) (ns : List Int), vs = [V.ref a] ∧ SqT X.K H a (ns.map V.int) ∧ Q (.int ns.sum) H) := by
  (intro pins s σ H vs us Q I r h)
  (obtain ⟨a, ns, rfl, hs, q⟩ := h)
  obtain ⟨its, rv, hl, _⟩ := I.tuple hs
  rw [Vals.ref1 r]
  have hi : IntsAre its ns := rv.ints
  (obtain ⟨xs, hx⟩ := hi.allInts.items)
  have hn : numsOf its.toArray.toList = ns := by rw [show its.toArray.toList = its from rfl, hi.numsOf]
  rw [hx] at hl hn
  rw [nums_intItems] at hn
  refine PySem.W.ktm_sumG (I.ok.hd hc) hl fun h' tk t' hk => ?_
  have e : preSum (numAt xs) xs.size = ns.sum := by rw [preSum_eq, List.take_of_length_le (by simp), hn]
  rw [e]
  exact ⟨.int _, H, I.kept hk, ⟨_, rfl⟩, q⟩

/-- repr of plain data -/
theorem call_reprD (hg : X.A.guards = some []) (hu : X.A.units + 100 < cLine) : CallR X (.builtin "repr") (fun vs H Q => ∃ (v : V) (p : PyData), vs = [v] ∧ Dp X.K H v p ∧ showOk p = true ∧ Q (.str p.shown) H) := by
  (intro pins s σ H vs us Q I r h)
  obtain ⟨v, p, rfl, hd, hs, q⟩ := h
  unfold showOk at hs
  simp only [Bool.and_eq_true, decide_eq_true_eq, Bool.not_eq_true'] at hs
  obtain ⟨⟨⟨h1, h2⟩, h3⟩, h4⟩ := hs
  cases r with
  | cons rv rr =>
    cases rr
    rename_i u
    obtain ⟨as, rd⟩ := Dp.reads I p v u hd rv
    have fin : ∀ (t : Tok) (tk : Nat), EP X pins σ Q (.str p.shown t) { s with toks := tk } := fun t tk => ⟨.str p.shown, H, I.tok tk, ⟨_, rfl⟩, q⟩
    cases hd with
    | non =>
      cases rv
      exact PySem.P.repr_of_none (fin _ _)
    | bl b =>
      cases rv
      exact PySem.P.repr_of_bool (fin _ _)
    | int i =>
      obtain ⟨t, rfl⟩ := rv
      exact PySem.P.repr_of_int (by simpa [PyData.showable] using h1) (fin _ _)
    | str x =>
      obtain ⟨t, rfl⟩ := rv
      exact PySem.P.repr_of_str (fin _ _) (by simpa [PyData.shown] using h4)
    | lst a b =>
      cases rv
      exact repr_of_reads' rd h1 (PyData.noDict_hsm h2) hg (by omega) (fun _ _ e => e) (fun h' u tk hk => ⟨.str _, H, I.kept hk, ⟨_, rfl⟩, q⟩) h4
    | tup a b =>
      cases rv
      exact repr_of_reads' rd h1 (PyData.noDict_hsm h2) hg (by omega) (fun _ _ e => e) (fun h' u tk hk => ⟨.str _, H, I.kept hk, ⟨_, rfl⟩, q⟩) h4

def biV : Bi → Value
  | .len => .builtin "len" | .sum => .builtin "sum" | .all => .builtin "all" | .any => .builtin "any" | .abs => .builtin "abs" | .max2 => .builtin "max" | .min2 => .builtin "min"
  | .max1 => .builtin "max" | .min1 => .builtin "min" | .int => .type "int" | .str => .type "str" | .repr => .builtin "repr" | .list => .type "list" | .tuple => .type "tuple" | .sorted => .builtin "sorted" | .isI _ => .none
theorem vals1 {K : PySem.W.Frag} {F : Hp} {m : Mw} {x : D} {vs : List V} (r : Rels K F m [x] vs) : ∃ v, vs = [v] ∧ Rel K F m x v := by
  cases r with
  | cons h r =>
    cases r
    exact ⟨_, rfl, h⟩
theorem vals2D {K : PySem.W.Frag} {F : Hp} {m : Mw} {x y : D} {vs : List V} (r : Rels K F m [x, y] vs) : ∃ v w, vs = [v, w] ∧ Rel K F m x v ∧ Rel K F m y w := by
  cases r with
  | cons h r =>
    cases r with
    | cons h2 r =>
      cases r
      exact ⟨_, _, rfl, h, h2⟩
theorem call_bi {fl : Bool} {b : Bi} (hK : C.K = X.K) (hc : X.calm = true) (hg : X.A.guards = some []) (hu : X.A.units + 100 < cLine) (hb : ∀ t, b ≠ .isI t) : CallR X (biV b) (rn C WE fun as S => finO fl (bifn S b as) S) := by
  (intro pins s σ H vs us Q I r h)
  obtain ⟨F, m, S, as, rp, o, ra, h⟩ := h
  cases hr : bifn S b as with
  | none =>
    simp only [hr, finO] at h
    exact False.elim h
  | some r1 =>
    simp only [hr, finO] at h
    unfold bifn at hr
    split at hr
    · -- len of a text
      obtain ⟨hz, e⟩ := ite_some hr
      subst e
      obtain ⟨v, rfl, rv⟩ := vals1 ra
      cases rv
      exact call_len_str pins s σ H _ us Q I r ⟨_, rfl, big_sz hz, h.val rp o (.int _)⟩
    · rw [Option.map_eq_some_iff] at hr
      obtain ⟨xs, e1, e2⟩ := hr
      subst e2
      obtain ⟨v, rfl, rv⟩ := vals1 ra
      obtain ⟨a, w, rfl, sq, rs⟩ := it_sq rp rv e1
      rw [hK] at sq
      refine call_len_seq pins s σ H _ us Q I r ⟨_, _, rfl, sq, ?_⟩
      rw [← rs.length]
      exact h.val rp o (.int _)
    · rw [Option.map_eq_some_iff] at hr
      obtain ⟨ns, e1, e2⟩ := hr
      subst e2
      obtain ⟨v, rfl, rv⟩ := vals1 ra
      cases rv with
      | tup q rs =>
        have e3 := rs.ints e1
        subst e3
        rw [hK] at q
        exact call_sumT hc pins s σ H _ us Q I r ⟨_, _, rfl, seqT_mono rp.fz q, h.val rp o (.int _)⟩
    · split at hr
      · rename_i xs e0
        rw [Option.map_eq_some_iff] at hr
        obtain ⟨ns, e1, e2⟩ := hr
        subst e2
        obtain ⟨v, rfl, rv⟩ := vals1 ra
        obtain ⟨a, w, rfl, g, rs⟩ := lit_sq rp rv e0
        have e3 := rs.ints e1
        subst e3
        exact cr_sum hc pins s σ H _ us Q I r ⟨_, _, rfl, .inl (.inl g), h.val rp o (.int _)⟩
      · cases hr
    · split at hr
      · rename_i xs e0
        rw [Option.map_eq_some_iff] at hr
        obtain ⟨ns, e1, e2⟩ := hr
        subst e2
        obtain ⟨v, rfl, rv⟩ := vals1 ra
        obtain ⟨a, w, rfl, g, rs⟩ := lit_sq rp rv e0
        have e3 := rs.bools e1
        subst e3
        exact cr_all hc pins s σ H _ us Q I r ⟨_, _, rfl, .inl (.inl g), h.val rp o (.bl _)⟩
      · cases hr
    · split at hr
      · rename_i xs e0
        rw [Option.map_eq_some_iff] at hr
        obtain ⟨ns, e1, e2⟩ := hr
        subst e2
        obtain ⟨v, rfl, rv⟩ := vals1 ra
        obtain ⟨a, w, rfl, g, rs⟩ := lit_sq rp rv e0
        have e3 := rs.bools e1
        subst e3
        exact cr_any hc pins s σ H _ us Q I r ⟨_, _, rfl, .inl (.inl g), h.val rp o (.bl _)⟩
      · cases hr
    · cases hr
      obtain ⟨v, rfl, rv⟩ := vals1 ra
      cases rv
      exact call_abs pins s σ H _ us Q I r ⟨_, rfl, h.val rp o (.int _)⟩
    · cases hr
      obtain ⟨v, w, rfl, rv, rw'⟩ := vals2D ra
      cases rv; cases rw'
      exact call_max2 hc pins s σ H _ us Q I r ⟨_, _, rfl, h.val rp o (.int _)⟩
    · cases hr
      obtain ⟨v, w, rfl, rv, rw'⟩ := vals2D ra
      cases rv; cases rw'
      exact call_min2 hc pins s σ H _ us Q I r ⟨_, _, rfl, h.val rp o (.int _)⟩
    · cases hr
      obtain ⟨v, rfl, rv⟩ := vals1 ra
      cases rv
      exact call_int1 pins s σ H _ us Q I r (.inl ⟨_, rfl, h.val rp o (.int _)⟩)
    · cases hr
      obtain ⟨v, rfl, rv⟩ := vals1 ra
      cases rv
      exact call_int1 pins s σ H _ us Q I r (.inr ⟨_, rfl, h.val rp o (.int _)⟩)
    · rw [Option.map_eq_some_iff] at hr
      obtain ⟨xs, e1, e2⟩ := hr
      subst e2
      obtain ⟨v, rfl, rv⟩ := vals1 ra
      obtain ⟨a, w, rfl, sq, rs⟩ := it_sq rp rv e1
      rw [hK] at sq
      exact call_list_of pins s σ H _ us Q I r ⟨_, _, rfl, sq, h.lst rp o rs⟩
    · cases hr
      obtain ⟨v, rfl, rv⟩ := vals1 ra
      cases rv with
      | tup q rs =>
        have q1 := q
        rw [hK] at q1
        exact call_tuple_of pins s σ H _ us Q I r ⟨_, _, rfl, .inr ⟨seqT_mono rp.fz q1, h.val rp o (.tup q rs)⟩⟩
    · rw [Option.map_eq_some_iff] at hr
      obtain ⟨xs, e1, e2⟩ := hr
      subst e2
      obtain ⟨v, rfl, rv⟩ := vals1 ra
      obtain ⟨a, w, rfl, g, rs⟩ := lit_sq rp rv e1
      exact call_tuple_of pins s σ H _ us Q I r ⟨_, _, rfl, .inl ⟨.inl (.inl g), h.valT rp o rs⟩⟩
    · split at hr
      · rename_i p e1
        obtain ⟨hz, e⟩ := ite_some hr
        subst e
        obtain ⟨v, rfl, rv⟩ := vals1 ra
        have d1 := relS_dp rp rv e1
        rw [hK] at d1
        exact call_reprD hg hu pins s σ H _ us Q I r ⟨_, _, rfl, d1, hz, h.val rp o (.str _)⟩
      · cases hr
    · exact absurd rfl (hb _)
    · cases hr
end
end KI

/-! KX: expressions. -/
namespace KI
open PySem PySem.Spec
open PyProof.Rows L2

theorem Res.bind_assoc {α β γ : Type} (r : Res α) (g : α → Store → Res β) (f : β → Store → Res γ) : (r.bind g).bind f = r.bind fun a S => (g a S).bind f := by
  cases r <;> rfl
/-! ### isinstance by a built-in class -/
def tyN : Ty → String
  | .int => "int" | .bool => "bool" | .str => "str" | .tuple => "tuple" | .list => "list"
section
variable {X : Cx} {C : Ct} {WE : Value → Option Addr → Hp → Prop} {F : Hp} {m : Mw} {S : Store} {H : Hp}
theorem tyx_tup {a : Addr} {vs : List V} (h : SqT C.K H a vs) : TyX C.K H (.ref a) (.type "tuple") := by
  rcases h with (h | ⟨o, h⟩) | ⟨o, its, n, h1, h2, h3⟩
  · exact .base (.tup h)
  · exact .fTuple h
  · exact .kTuple h1 h2
theorem has_tyx {t : Ty} {d : D} {v : V} {b : Bool} (rp : Rep C.K C.cl F m S H) (r : Rel C.K F m d v) (h : hasTy S t d = some b) : ∃ n : String, TyX C.K H v (.type n) ∧ kitB n (tyN t) = some b := by
  have lst : ∀ {a vs}, H a = some (.lst vs) → (t == .list) = b → ∃ n : String, TyX C.K H (.ref a) (.type n) ∧ kitB n (tyN t) = some b := fun e q =>
    ⟨"list", .base (.lst e), by subst q; cases t <;> decide +kernel⟩
  have dct : ∀ {a vs}, H a = some (.dK vs) → false = b → ∃ n : String, TyX C.K H (.ref a) (.type n) ∧ kitB n (tyN t) = some b := fun e q =>
    ⟨"dict", .base (.dK e), by subst q; cases t <;> decide +kernel⟩
  cases r with
  | non => exact ⟨"NoneType", .base .non, by cases t <;> simp [hasTy] at h <;> subst h <;> decide +kernel⟩
  | bl x => exact ⟨"bool", .base (.bl x), by cases t <;> simp [hasTy] at h <;> subst h <;> decide +kernel⟩
  | int x => exact ⟨"int", .base (.int x), by cases t <;> simp [hasTy] at h <;> subst h <;> decide +kernel⟩
  | str x => exact ⟨"str", .base (.str x), by cases t <;> simp [hasTy] at h <;> subst h <;> decide +kernel⟩
  | tup q rs => exact ⟨"tuple", tyx_tup (seqT_mono rp.fz q), by cases t <;> simp [hasTy] at h <;> subst h <;> decide +kernel⟩
  | lst q rs => exact lst (rp.fz _ _ q) (by simpa [hasTy] using h)
  | scr q => simp [hasTy] at h
  | dct q rs => exact dct (rp.fz _ _ q) (by simpa [hasTy] using h)
  | ref q =>
    simp only [hasTy] at h
    split at h
    · rename_i ys hs
      obtain ⟨b', ho, h1, h2, h3, h4⟩ := rp.at hs
      rw [q] at h1
      cases h1
      cases h4
      exact lst h3 (by simpa using h)
    · rename_i ys hs
      obtain ⟨b', ho, h1, h2, h3, h4⟩ := rp.at hs
      rw [q] at h1
      cases h1
      cases h4
      exact dct h3 (by simpa using h)
    · cases h
theorem call_isD {t : Ty} (hK : C.K = X.K) : CallR X (.builtin "isinstance") (fun vs H Q => ∃ v, vs = [v, .ty (tyN t)] ∧ rn C WE (fun as S => finO false (bifn S (.isI t) as) S) [v] H Q) := by
  (intro pins s σ H vs us Q I r h)
  obtain ⟨v, rfl, F, m, S, as, rp, o, ra, h⟩ := h
  cases ra with
  | cons rv ra =>
    cases ra
    rename_i d
    have h' : Post C WE F m (RD C) (finO false ((hasTy S t d).map fun b => .v (.bl b)) S) Q := h
    cases hr : hasTy S t d with
    | none =>
      rw [hr] at h'
      exact False.elim h'
    | some b =>
      rw [hr] at h'
      obtain ⟨n, ty, k⟩ := has_tyx rp rv hr
      rw [hK] at ty
      exact call_isi pins s σ H _ us Q I r ⟨_, _, _, _, _, rfl, .ty _, ty, kit_ty k, Post.val (fl := false) h' rp o (.bl b)⟩
end

/-! ### readings by the interpreter -/
def Cx.we (W : WX) (σ : L2.St) : Value → Option Addr → Hp → Prop := fun c d H => W c d σ H
section
variable (C : Ct) (W : WX)
def tI {α β : Type} (R : Hp → Mw → α → β → Prop) (f : Lc → Store → Res α) : L2.St → Hp → (β → Hp → Prop) → Prop := fun σ H Q =>
  ∃ (F : Hp) (m : Mw) (S : Store) (L : Lc), Rep C.K C.cl F m S H ∧ OldC C S ∧ RelL C.K F m L σ ∧ Post C (fun c d H => W c d σ H) F m R (f L S) Q
abbrev tE (e : E) : TE := tI C W (RD C) fun L S => evE C.V L e S
abbrev tEs (es : Es) : TA := tI C W (RDs C) fun L S => evEs C.V L es S
abbrev tTst (e : E) : TT := tI C W RB fun L S => (evE C.V L e S).bind asB
end
theorem PE.imp {X : Cx} {e : Expr} {t t' : TE} (h : PE X e t) (k : ∀ σ H Q, t' σ H Q → t σ H Q) : PE X e t' := ⟨fun pins s σ H Q I q => h.run pins s σ H Q I (k σ H Q q)⟩
theorem PT.imp {X : Cx} {e : Expr} {t t' : TT} (h : PT X e t) (k : ∀ σ H Q, t' σ H Q → t σ H Q) : PT X e t' := ⟨fun pins s σ H Q I q => h.run pins s σ H Q I (k σ H Q q)⟩
theorem PW.imp {X : Cx} {e : Expr} {t t' : TT} (h : PW X e t) (k : ∀ σ H Q, t' σ H Q → t σ H Q) : PW X e t' := ⟨fun wh pins s σ H Q I q => h.run wh pins s σ H Q I (k σ H Q q)⟩
theorem PA.imp {X : Cx} {e : List Expr} {t t' : TA} (h : PA X e t) (k : ∀ σ H Q, t' σ H Q → t σ H Q) : PA X e t' := ⟨fun pos pins s σ H Q I q => h.run pos pins s σ H Q I (k σ H Q q)⟩
theorem PO.imp {X : Cx} {e : Option Expr} {t t' : TO} (h : PO X e t) (k : ∀ σ H Q, t' σ H Q → t σ H Q) : PO X e t' := ⟨fun pins s σ H Q I q => h.run pins s σ H Q I (k σ H Q q)⟩

section
variable {C : Ct} {W : WX} {α β γ δ : Type} {R : Hp → Mw → α → β → Prop} {R2 : Hp → Mw → γ → δ → Prop}
/-- what comes first of two -/
theorem tI.first {f : Lc → Store → Res α} {g : Lc → α → Store → Res γ} {σ : L2.St} {H : Hp} {Q : δ → Hp → Prop} {Q' : β → Hp → Prop} (h : tI C W R2 (fun L S => (f L S).bind (g L)) σ H Q)
    (k : ∀ (F : Hp) (m : Mw) (S : Store) (L : Lc) (a : α) (H1 : Hp) (b : β), Rep C.K C.cl F m S H1 → OldC C S → RelL C.K F m L σ → R F m a b → Post C (fun c d H => W c d σ H) F m R2 (g L a S) Q → Q' b H1) : tI C W R f σ H Q' := by
  obtain ⟨F, m, S, L, rp, o, rl, h⟩ := h
  exact ⟨F, m, S, L, rp, o, rl, h.unbind fun a S1 F1 m1 H1 b s p rp1 o1 r h1 => k F1 m1 S1 L a H1 b rp1 o1 (rl.mono s p) r h1⟩
end

section
variable {X : Cx} {C : Ct} {W : WX} {a b c : Expr} {ia ib ic : E} {pos : Pos}
theorem se_bin {fl : Bool} {op : Bop} (hK : C.K = X.K) (ha : PE X a (tE C W ia)) (hb : PE X b (tE C W ib)) : PE X (.BinOp a (opOf op) b pos) (tE C W (.bin fl op ia ib)) := by
  refine PE.imp (t := fun σ H Q => tOp (r2 C (fun c d H => W c d σ H) fun a b S => finO fl (binop S op a b) S) (tE C W ia) (tE C W ib) σ H Q) ⟨fun pins s σ H Q I h => (pe_op (op_bin hK) ha hb).run pins s σ H Q I h⟩ fun σ H Q h => ?_
  obtain ⟨F, m, S, L, rp, o, rl, h⟩ := h
  simp only [evE] at h
  refine ⟨F, m, S, L, rp, o, rl, h.unbind fun x S1 F1 m1 H1 v s p rp1 o1 r1 h1 => ⟨F1, m1, S1, L, rp1, o1, rl.mono s p, h1.unbind fun y S2 F2 m2 H2 w s2 p2 rp2 o2 r2 h2 => ⟨F2, m2, S2, x, y, rp2, o2, r1.mono s2 p2, r2, h2⟩⟩⟩
theorem se_un {op : Uop} {o : UnaryOp} {r : V → Hp → VK → Prop} (ho : UnR X (unaryOp o) r) (ha : PE X a (tE C W ia))
    (hr : ∀ (σ : L2.St) (F : Hp) (m : Mw) (S : Store) (H : Hp) (x : D) (v : V) (Q : VK), Rep C.K C.cl F m S H → OldC C S → Rel C.K F m x v → Post C (fun c d H => W c d σ H) F m (RD C) (ofO (unop op x) S) Q → r v H Q) : PE X (.UnaryOp o a pos) (tE C W (.un op ia)) := by
  refine PE.imp (pe_un ho ha) fun σ H Q h => ?_
  obtain ⟨F, m, S, L, rp, o, rl, h⟩ := h
  simp only [evE] at h
  exact ⟨F, m, S, L, rp, o, rl, h.unbind fun x S1 F1 m1 H1 v s p rp1 o1 r1 h1 => hr σ F1 m1 S1 H1 x v Q rp1 o1 r1 h1⟩
theorem cmp_imp {op : Cop} {σ : L2.St} {H : Hp} {Q : VK} (h : tE C W (.cmp op ia ib) σ H Q) : tOp (r2 C (fun c d H => W c d σ H) fun a b S => ofO ((cmpop S op a b).map D.bl) S) (tE C W ia) (tE C W ib) σ H Q := by
  obtain ⟨F, m, S, L, rp, o, rl, h⟩ := h
  simp only [evE] at h
  exact ⟨F, m, S, L, rp, o, rl, h.unbind fun x S1 F1 m1 H1 v s p rp1 o1 r1 h1 => ⟨F1, m1, S1, L, rp1, o1, rl.mono s p, h1.unbind fun y S2 F2 m2 H2 w s2 p2 rp2 o2 r2 h2 => ⟨F2, m2, S2, x, y, rp2, o2, r1.mono s2 p2, r2, h2⟩⟩⟩
theorem se_cmp {op : Cop} (hK : C.K = X.K) (hu : X.A.units + 64 < cLine) (ha : PE X a (tE C W ia)) (hb : PE X b (tE C W ib)) (hm : behindInMarks (copOf op) b = false) : PE X (.Compare a [copOf op] [b] pos) (tE C W (.cmp op ia ib)) :=
  PE.imp (t := fun σ H Q => tOp (r2 C (fun c d H => W c d σ H) fun a b S => ofO ((cmpop S op a b).map D.bl) S) (tE C W ia) (tE C W ib) σ H Q) ⟨fun pins s σ H Q I h => (pe_cmpR (op_cmp hK hu) ha hb hm).run pins s σ H Q I h⟩ fun _ _ _ h => cmp_imp h
theorem asB_post {F : Hp} {m : Mw} {S : Store} {H : Hp} {d : D} {v : V} {Q : Bool → Hp → Prop} {WE : Value → Option Addr → Hp → Prop} (h : Post C WE F m RB (asB d S) Q) (rp : Rep C.K C.cl F m S H) (o : OldC C S) (r : Rel C.K F m d v) : ∃ k, v = .bl k ∧ d = .bl k ∧ Q k H := by
  cases r with
  | bl k => exact ⟨k, rfl, rfl, h.use rp o rfl⟩
  | _ => exact False.elim h
/-- a test by its value's reading -/
theorem tst_imp {e : E} {σ : L2.St} {H : Hp} {Q : Bool → Hp → Prop} (h : tTst C W e σ H Q) : tE C W e σ H fun x H1 => ∃ k, x = .bl k ∧ Q k H1 := by
  obtain ⟨F, m, S, L, rp, o, rl, h⟩ := h
  refine ⟨F, m, S, L, rp, o, rl, h.unbind fun x S1 F1 m1 H1 v s p rp1 o1 r1 h1 => ?_⟩
  obtain ⟨k, e1, _, q⟩ := asB_post h1 rp1 o1 r1
  exact ⟨k, e1, q⟩
theorem st_of {e : Expr} {ie : E} {t : TE} (h : PT X e (tTest t)) (k : ∀ σ H Q, tE C W ie σ H Q → t σ H Q) : PT X e (tTst C W ie) := PT.imp h fun σ H Q q => k σ H _ (tst_imp q)
theorem st_val {e : Expr} {ie : E} (h : PE X e (tE C W ie)) (he : ∀ whole, isTrue e X.env whole = (do let v ← whole; standAt e.pos; holding [v] (truthy v))) : PT X e (tTst C W ie) := PT.imp (pt_val h he) fun σ H Q q => tst_imp q
theorem st_cmp {op : Cop} (hK : C.K = X.K) (hu : X.A.units + 64 < cLine) (ha : PE X a (tE C W ia)) (hb : PE X b (tE C W ib)) (hm : behindInMarks (copOf op) b = false) : PT X (.Compare a [copOf op] [b] pos) (tTst C W (.cmp op ia ib)) :=
  PT.imp (t := fun σ H Q => tTest (tOp (r2 C (fun c d H => W c d σ H) fun a b S => ofO ((cmpop S op a b).map D.bl) S) (tE C W ia) (tE C W ib)) σ H Q) ⟨fun pins s σ H Q I h => (pt_cmpR (op_cmp hK hu) ha hb hm).run pins s σ H Q I h⟩ fun σ H Q h => cmp_imp (tst_imp h)

/-! ### chains -/
/-- a comparison that tells a truth, its value known to the interpreter -/
def rChk (WE : Value → Option Addr → Hp → Prop) (f : D → D → Store → Res Bool) : R2 := fun x y H Q => ∃ (F : Hp) (m : Mw) (S : Store) (a b : D), Rep C.K C.cl F m S H ∧ OldC C S ∧ Rel C.K F m a x ∧ Rel C.K F m b y ∧ Post C WE F m RB (f a b S) fun k H' => Q (.bl k) H'
theorem chain_imp {op op' : Cop} {σ : L2.St} {H : Hp} {Q : VK} (h : tE C W (.chain op op' ia ib ic) σ H Q) :
    tChain (r2 C (fun c d H => W c d σ H) fun a b S => ofO ((cmpop S op a b).map D.bl) S) (r2 C (fun c d H => W c d σ H) fun a b S => ofO ((cmpop S op' a b).map D.bl) S) (tE C W ia) (tE C W ib) (tE C W ic) σ H Q := by
  obtain ⟨F, m, S, L, rp, o, rl, h⟩ := h
  simp only [evE] at h
  refine ⟨F, m, S, L, rp, o, rl, h.unbind fun x S1 F1 m1 H1 v s p rp1 o1 r1 h1 => ⟨F1, m1, S1, L, rp1, o1, rl.mono s p, h1.unbind fun y S2 F2 m2 H2 w s2 p2 rp2 o2 r2 h2 => ⟨F2, m2, S2, x, y, rp2, o2, r1.mono s2 p2, r2, ?_⟩⟩⟩
  cases e : cmpop S2 op x y with
  | none =>
    rw [e] at h2
    exact False.elim h2
  | some k =>
    rw [e] at h2
    simp only [ofO, Res.bind_ok] at h2
    show Post C _ F2 m2 (RD C) (ofO ((cmpop S2 op x y).map D.bl) S2) _
    rw [e]
    intro F3 m3 H3 b3 e3 p3 rp3 o3 r3
    cases r3
    refine ⟨k, rfl, ?_⟩
    have h3 := Post.mono e3 p3 h2
    cases k with
    | true =>
      simp only [if_true] at h3
      exact ⟨F3, m3, S2, L, rp3, o3, (rl.mono (s.trans (s2.trans e3)) (p.trans (p2.trans p3))), h3.unbind fun z S4 F4 m4 H4 u s4 p4 rp4 o4 r4 h4 => ⟨F4, m4, S4, y, z, rp4, o4, r2.mono (e3.trans s4) (p3.trans p4), r4, h4⟩⟩
    | false => exact Post.use (R := RD C) h3 rp3 o3 (.bl false)
theorem se_chain {op op' : Cop} (hK : C.K = X.K) (hu : X.A.units + 64 < cLine) (ha : PE X a (tE C W ia)) (hb : PE X b (tE C W ib)) (hc : PE X c (tE C W ic)) (hm : lastMarks [copOf op, copOf op'] [b, c] = false) :
    PE X (.Compare a [copOf op, copOf op'] [b, c] pos) (tE C W (.chain op op' ia ib ic)) :=
  PE.imp (t := fun σ H Q => tChain (r2 C (fun c d H => W c d σ H) fun a b S => ofO ((cmpop S op a b).map D.bl) S) (r2 C (fun c d H => W c d σ H) fun a b S => ofO ((cmpop S op' a b).map D.bl) S) (tE C W ia) (tE C W ib) (tE C W ic) σ H Q)
    ⟨fun pins s σ H Q I h => (pe_chain (op_cmp hK hu) (op_cmp hK hu) ha hb hc hm).run pins s σ H Q I h⟩ fun _ _ _ h => chain_imp h
theorem st_chain {op op' : Cop} (hK : C.K = X.K) (hu : X.A.units + 64 < cLine) (ha : PE X a (tE C W ia)) (hb : PE X b (tE C W ib)) (hc : PE X c (tE C W ic)) (hm : lastMarks [copOf op, copOf op'] [b, c] = false) :
    PT X (.Compare a [copOf op, copOf op'] [b, c] pos) (tTst C W (.chain op op' ia ib ic)) :=
  PT.imp (t := fun σ H Q => tTest (tChain (r2 C (fun c d H => W c d σ H) fun a b S => ofO ((cmpop S op a b).map D.bl) S) (r2 C (fun c d H => W c d σ H) fun a b S => ofO ((cmpop S op' a b).map D.bl) S) (tE C W ia) (tE C W ib) (tE C W ic)) σ H Q)
    ⟨fun pins s σ H Q I h => (pt_chain (op_cmp hK hu) (op_cmp hK hu) ha hb hc hm).run pins s σ H Q I h⟩ fun _ _ _ h => chain_imp (tst_imp h)

/-! ### and, or, not, if -/
variable {rest : List Expr}
theorem Post.splitB {γ δ : Type} {WE : Value → Option Addr → Hp → Prop} {F : Hp} {m : Mw} {R2 : Hp → Mw → γ → δ → Prop} {r : Res D} {f : Bool → Store → Res γ} {Q : δ → Hp → Prop} {Q' : Bool → Hp → Prop}
    (h : Post C WE F m R2 (r.bind fun x S1 => (asB x S1).bind f) Q)
    (k : ∀ (b : Bool) (S1 : Store) (F1 : Hp) (m1 : Mw) (H1 : Hp), Same F F1 → Pre m m1 → Rep C.K C.cl F1 m1 S1 H1 → OldC C S1 → Post C WE F1 m1 R2 (f b S1) Q → Q' b H1) : Post C WE F m RB (r.bind asB) Q' := by
  rw [← Res.bind_assoc] at h
  exact h.unbind fun a S1 F1 m1 H1 b e p rp o r1 h1 => by
    subst r1
    exact k _ S1 F1 m1 H1 e p rp o h1
theorem se_and (ha : PE X a (tE C W ia)) (hb : PE X (.BoolOp .And (b :: rest) pos) (tE C W ib)) : PE X (.BoolOp .And (a :: b :: rest) pos) (tE C W (.and ia ib)) := by
  refine PE.imp (pe_and ha hb) fun σ H Q h => ?_
  obtain ⟨F, m, S, L, rp, o, rl, h⟩ := h
  simp only [evE] at h
  refine ⟨F, m, S, L, rp, o, rl, h.unbind fun x S1 F1 m1 H1 v s p rp1 o1 r1 h1 => ?_⟩
  cases r1 with
  | bl k =>
    refine ⟨k, rfl, ?_⟩
    cases k with
    | true => exact ⟨F1, m1, S1, L, rp1, o1, rl.mono s p, h1⟩
    | false => exact Post.use (R := RD C) h1 rp1 o1 (.bl false)
  | _ => exact False.elim h1
theorem se_or (ha : PE X a (tE C W ia)) (hb : PE X (.BoolOp .Or (b :: rest) pos) (tE C W ib)) : PE X (.BoolOp .Or (a :: b :: rest) pos) (tE C W (.or ia ib)) := by
  refine PE.imp (pe_or ha hb) fun σ H Q h => ?_
  obtain ⟨F, m, S, L, rp, o, rl, h⟩ := h
  simp only [evE] at h
  refine ⟨F, m, S, L, rp, o, rl, h.unbind fun x S1 F1 m1 H1 v s p rp1 o1 r1 h1 => ?_⟩
  cases r1 with
  | bl k =>
    refine ⟨k, rfl, ?_⟩
    cases k with
    | false => exact ⟨F1, m1, S1, L, rp1, o1, rl.mono s p, h1⟩
    | true => exact Post.use (R := RD C) h1 rp1 o1 (.bl true)
  | _ => exact False.elim h1
theorem sw_and (ha : PT X a (tTst C W ia)) (hb : PW X (.BoolOp .And (b :: rest) pos) (tTst C W ib)) : PW X (.BoolOp .And (a :: b :: rest) pos) (tTst C W (.and ia ib)) := by
  refine PW.imp (pw_and ha hb) fun σ H Q h => ?_
  obtain ⟨F, m, S, L, rp, o, rl, h⟩ := h
  simp only [evE, Res.bind_assoc] at h
  refine ⟨F, m, S, L, rp, o, rl, h.splitB fun k S1 F1 m1 H1 e1 p1 rp1 o1 h1 => ?_⟩
  cases k with
  | true => exact ⟨F1, m1, S1, L, rp1, o1, rl.mono e1 p1, h1⟩
  | false => exact Post.use (R := RB) h1 rp1 o1 rfl
theorem sw_or (ha : PT X a (tTst C W ia)) (hb : PW X (.BoolOp .Or (b :: rest) pos) (tTst C W ib)) : PW X (.BoolOp .Or (a :: b :: rest) pos) (tTst C W (.or ia ib)) := by
  refine PW.imp (pw_or ha hb) fun σ H Q h => ?_
  obtain ⟨F, m, S, L, rp, o, rl, h⟩ := h
  simp only [evE, Res.bind_assoc] at h
  refine ⟨F, m, S, L, rp, o, rl, h.splitB fun k S1 F1 m1 H1 e1 p1 rp1 o1 h1 => ?_⟩
  cases k with
  | false => exact ⟨F1, m1, S1, L, rp1, o1, rl.mono e1 p1, h1⟩
  | true => exact Post.use (R := RB) h1 rp1 o1 rfl
theorem se_not (ha : PE X a (tE C W ia)) : PE X (.UnaryOp .Not a pos) (tE C W (.un .not ia)) := by
  refine PE.imp (pe_not ha) fun σ H Q h => ?_
  obtain ⟨F, m, S, L, rp, o, rl, h⟩ := h
  simp only [evE] at h
  refine ⟨F, m, S, L, rp, o, rl, h.unbind fun x S1 F1 m1 H1 v s p rp1 o1 r1 h1 => ?_⟩
  cases r1 with
  | bl k => exact ⟨k, rfl, Post.use (R := RD C) h1 rp1 o1 (.bl _)⟩
  | _ => exact False.elim h1
theorem st_not (ha : PT X a (tTst C W ia)) : PT X (.UnaryOp .Not a pos) (tTst C W (.un .not ia)) := by
  refine PT.imp (pt_not ha) fun σ H Q h => ?_
  obtain ⟨F, m, S, L, rp, o, rl, h⟩ := h
  simp only [evE, Res.bind_assoc] at h
  refine ⟨F, m, S, L, rp, o, rl, Post.splitB (f := fun b S1 => .ok (!b) S1) (R2 := RB) (Q := Q) ?_ fun k S1 F1 m1 H1 e1 p1 rp1 o1 h1 => Post.use (R := RB) h1 rp1 o1 rfl⟩
  cases e : evE C.V L ia S with
  | bad =>
    rw [e] at h
    exact h
  | exc c fs S1 =>
    rw [e] at h
    exact h
  | ok x S1 =>
    rw [e] at h
    cases x <;> exact h
theorem se_neg (ha : PE X a (tE C W ia)) : PE X (.UnaryOp .USub a pos) (tE C W (.un .neg ia)) := se_un un_neg ha fun σ F m S H x v Q rp o r h => by
  cases r with
  | int i => exact ⟨_, rfl, Post.use (R := RD C) h rp o (.int _)⟩
  | _ => exact False.elim h
theorem se_inv (ha : PE X a (tE C W ia)) : PE X (.UnaryOp .Invert a pos) (tE C W (.un .inv ia)) := se_un un_inv ha fun σ F m S H x v Q rp o r h => by
  cases r with
  | int i => exact ⟨_, rfl, Post.use (R := RD C) h rp o (.int _)⟩
  | _ => exact False.elim h
theorem se_ife (hc : PT X c (tTst C W ic)) (ha : PE X a (tE C W ia)) (hb : PE X b (tE C W ib)) : PE X (.IfExp c a b pos) (tE C W (.ife ic ia ib)) := by
  refine PE.imp (pe_ifExp hc ha hb) fun σ H Q h => ?_
  obtain ⟨F, m, S, L, rp, o, rl, h⟩ := h
  simp only [evE, Res.bind_assoc] at h
  refine ⟨F, m, S, L, rp, o, rl, h.splitB fun k S1 F1 m1 H1 e1 p1 rp1 o1 h1 => ?_⟩
  cases k with
  | true => exact ⟨F1, m1, S1, L, rp1, o1, rl.mono e1 p1, h1⟩
  | false => exact ⟨F1, m1, S1, L, rp1, o1, rl.mono e1 p1, h1⟩
end
end KI

/-! KY: names, displays, items, calls of built-ins. -/
namespace KI
open PySem PySem.Spec
open PyProof.Rows L2
theorem Old.set {n i : Nat} {S : Store} {o : Ob} (h : Old n S) (hi : n ≤ i ∨ topo o ≤ topAt S i) : Old n (S.set i o) := ⟨by rw [List.length_set]; exact h.1, fun j ob hj e => by
  by_cases z : i = j
  · subst z
    have hl : i < S.length := Nat.lt_of_lt_of_le hj h.1
    rw [List.getElem?_set_self hl] at e
    cases e
    rcases hi with q | q
    · omega
    · refine Nat.le_trans q ?_
      unfold topAt
      rw [List.getElem?_eq_getElem hl]
      exact h.2 i _ hj (List.getElem?_eq_getElem hl)
  · rw [List.getElem?_set_ne z] at e
    exact h.2 j ob hj e⟩
section
variable {X : Cx} {C : Ct} {W : WX} {a b c e : Expr} {es : List Expr} {ia ib ic ie : E} {ies : Es} {pos : Pos}
theorem wr_sound {F : Hp} {m : Mw} {S S' : Store} {H : Hp} {i : Nat} {p : Addr} {o : Ob} {ho : HO} (h : wr C.V.n S i o = some S') (rp : Rep C.K C.cl F m S H) (od : OldC C S) (hi : m.ms[i]? = some p) (r : RelO C.K C.cl F m o ho) :
    Rep C.K C.cl F m S' (upd H p ho) ∧ OldC C S' := by
  unfold wr at h
  obtain ⟨hc, e⟩ := ite_some h
  subst e
  refine ⟨rp.write hi hc.1 r, fun n0 hn => (od n0 hn).set ?_⟩
  rcases hc.2 with q | q
  · exact .inl (Nat.le_trans (C.hb n0 hn) q)
  · exact .inr q

/-! ### names, constants -/
theorem se_var {i : Nat} {x : Str} (hN : X.N[i]? = some x) (hv : Vis X.env.scope x) (hd : (x == ("__debug__" : Str)) = false) (hcd : (x == ("__classdict__" : Str)) = false) : PE X (.Name x pos) (tE C W (.var i)) := by
  refine PE.imp (pe_var hN hv hd hcd) fun σ H Q h => ?_
  obtain ⟨F, m, S, L, rp, o, rl, h⟩ := h
  simp only [evE] at h
  split at h
  · rename_i d hL
    obtain ⟨v, h1, h2⟩ := rl.2 i d hL
    exact ⟨v, h1, Post.use (R := RD C) h rp o h2⟩
  · exact False.elim h
theorem se_c {d : D} {v : V} (h : PE X e (tC v)) (hr : ∀ F m, Rel C.K F m d v) : PE X e (tE C W (.cst d)) := by
  refine PE.imp h fun σ H Q h => ?_
  obtain ⟨F, m, S, L, rp, o, rl, h⟩ := h
  simp only [evE] at h
  exact Post.use (R := RD C) h rp o (hr F m)
theorem se_glob {x : Str} {v : V} {u : Value} (hg : Gl X x) (hm : X.mg x = some u) (r : RelV v u) (hd : (x == ("__debug__" : Str)) = false) (hr : ∀ d, C.V.con x = some d → ∀ F m, Rel C.K F m d v) : PE X (.Name x pos) (tE C W (.glob x)) := by
  refine PE.imp (pe_glob hg hm r hd) fun σ H Q h => ?_
  obtain ⟨F, m, S, L, rp, o, rl, h⟩ := h
  simp only [evE] at h
  cases e : C.V.con x with
  | none =>
    rw [e] at h
    exact False.elim h
  | some d =>
    rw [e] at h
    exact Post.use (R := RD C) h rp o (hr d e F m)

/-! ### argument lists, displays -/
theorem sa_nil : PA X [] (tEs C W .nil) := by
  refine PA.imp pa_nil fun σ H Q h => ?_
  obtain ⟨F, m, S, L, rp, o, rl, h⟩ := h
  simp only [evEs] at h
  exact Post.use (R := RDs C) h rp o .nil
theorem sa_cons (ha : PE X e (tE C W ie)) (hr : PA X es (tEs C W ies)) (hs : starEach (e :: es) X.env = (false, eval e X.env) :: starEach es X.env) : PA X (e :: es) (tEs C W (.cons ie ies)) := by
  refine PA.imp (pa_cons ha hr hs) fun σ H Q h => ?_
  obtain ⟨F, m, S, L, rp, o, rl, h⟩ := h
  simp only [evEs] at h
  exact ⟨F, m, S, L, rp, o, rl, h.unbind fun x S1 F1 m1 H1 v s p rp1 o1 r1 h1 => ⟨F1, m1, S1, L, rp1, o1, rl.mono s p, h1.unbind fun y S2 F2 m2 H2 w s2 p2 rp2 o2 r2 h2 =>
    Post.use (R := RDs C) h2 rp2 o2 (.cons (r1.mono s2 p2) r2)⟩⟩
theorem se_tup {k : Nat} (h : PA X es (tEs C W ies)) : PE X (.Tuple es k pos) (tE C W (.tup ies)) := by
  refine PE.imp (pe_tup h) fun σ H Q h => ?_
  obtain ⟨F, m, S, L, rp, o, rl, h⟩ := h
  simp only [evE] at h
  refine ⟨F, m, S, L, rp, o, rl, h.unbind fun x S1 F1 m1 H1 v s p rp1 o1 r1 h1 => ?_⟩
  split at h1
  · rename_i hz
    exact ⟨by rw [← r1.length]; exact big_sz hz, Post.tup h1 rp1 o1 r1⟩
  · exact False.elim h1
theorem se_lst {fl : Bool} (h : PA X es (tEs C W ies)) : PE X (.List es pos) (tE C W (.lst fl ies)) := by
  refine PE.imp (pe_lst h) fun σ H Q h => ?_
  obtain ⟨F, m, S, L, rp, o, rl, h⟩ := h
  simp only [evE] at h
  refine ⟨F, m, S, L, rp, o, rl, h.unbind fun x S1 F1 m1 H1 v s p rp1 o1 r1 h1 => ?_⟩
  split at h1
  · rename_i hz
    exact ⟨by rw [← r1.length]; exact big_sz hz, Post.lst h1 rp1 o1 r1⟩
  · exact False.elim h1

/-! ### items, slices -/
theorem se_idx (hK : C.K = X.K) (ha : PE X a (tE C W ia)) (hb : PE X b (tE C W ib)) (hs : PlainIx b) : PE X (.Subscript a b pos) (tE C W (.idx ia ib)) := by
  refine PE.imp (t := fun σ H Q => tOp (r2 C (fun c d H => W c d σ H) fun a b S => ofO (ixD S a b) S) (tE C W ia) (tE C W ib) σ H Q) ⟨fun pins s σ H Q I h => (pe_ix (ix_D hK) ha hb hs).run pins s σ H Q I h⟩ fun σ H Q h => ?_
  obtain ⟨F, m, S, L, rp, o, rl, h⟩ := h
  simp only [evE] at h
  exact ⟨F, m, S, L, rp, o, rl, h.unbind fun x S1 F1 m1 H1 v s p rp1 o1 r1 h1 => ⟨F1, m1, S1, L, rp1, o1, rl.mono s p, h1.unbind fun y S2 F2 m2 H2 w s2 p2 rp2 o2 r2 h2 => ⟨F2, m2, S2, x, y, rp2, o2, r1.mono s2 p2, r2, h2⟩⟩⟩
abbrev RO : Hp → Mw → Option Int → Option Int → Prop := fun _ _ a b => a = b
/-- a slice's part -/
abbrev tO (C : Ct) (W : WX) (e : E) : TO := tI C W RO fun L S => (evE C.V L e S).bind (asI (isCN e))
theorem so_none : PO X none (tO C W (.cst .non)) := by
  refine PO.imp po_none fun σ H Q h => ?_
  obtain ⟨F, m, S, L, rp, o, rl, h⟩ := h
  simp only [evE, Res.bind_ok, isCN, asI] at h
  exact Post.use (R := RO) h rp o rfl
theorem so_some (h : PE X e (tE C W ie)) (hn : isCN ie = false) : PO X (some e) (tO C W ie) := by
  refine PO.imp (po_some h) fun σ H Q h => ?_
  obtain ⟨F, m, S, L, rp, o, rl, h⟩ := h
  simp only [hn] at h
  refine ⟨F, m, S, L, rp, o, rl, h.unbind fun x S1 F1 m1 H1 v s p rp1 o1 r1 h1 => ?_⟩
  cases r1 with
  | int i => exact ⟨i, rfl, Post.use (R := RO) h1 rp1 o1 rfl⟩
  | _ => exact False.elim h1
theorem se_slice {fl : Bool} {lo hi : Option Expr} {p2 : Pos} (hK : C.K = X.K) (ha : PE X a (tE C W ia)) (hl : PO X lo (tO C W ib)) (hh : PO X hi (tO C W ic)) : PE X (.Subscript a (.Slice lo hi none p2) pos) (tE C W (.slice fl ia ib ic)) := by
  refine PE.imp (t := fun σ H Q => tSl (r3 C (fun c d H => W c d σ H) fun a lo hi S => finO fl (slX S a lo hi) S) (tE C W ia) (tO C W ib) (tO C W ic) σ H Q) ⟨fun pins s σ H Q I h => (pe_slice (sl_D hK) ha hl hh).run pins s σ H Q I h⟩ fun σ H Q h => ?_
  obtain ⟨F, m, S, L, rp, o, rl, h⟩ := h
  simp only [evE] at h
  refine ⟨F, m, S, L, rp, o, rl, h.unbind fun x S1 F1 m1 H1 v s p rp1 o1 r1 h1 => ⟨F1, m1, S1, L, rp1, o1, rl.mono s p, ?_⟩⟩
  rw [← Res.bind_assoc] at h1
  refine h1.unbind fun y S2 F2 m2 H2 w s2 p2 rp2 o2 r2 h2 => ⟨F2, m2, S2, L, rp2, o2, rl.mono (s.trans s2) (p.trans p2), ?_⟩
  rw [← Res.bind_assoc] at h2
  refine h2.unbind fun z S3 F3 m3 H3 u s3 p3 rp3 o3 r3 h3 => ?_
  have e2 : y = w := r2
  have e3 : z = u := r3
  subst e2 e3
  exact ⟨F3, m3, S3, x, rp3, o3, (r1.mono s2 p2).mono s3 p3, h3⟩

/-! ### built-in functions -/
theorem se_bi {fl : Bool} {f : Bi} {x : Str} {p : Pos} (hK : C.K = X.K) (hc : X.calm = true) (hg : X.A.guards = some []) (hu : X.A.units + 100 < cLine) (hf : ∀ t, f ≠ .isI t) (hG : Gl X x) (hm : X.mg x = none) (hv : bootBuiltins x = some (biV f)) (ha : PA X (e :: es) (tEs C W ies))
    (hn : x ≠ "__name__") (hd : (x == ("__debug__" : Str)) = false) (he : starEach (e :: es) X.env = (false, eval e X.env) :: starEach es X.env) (hpl : (backTo pos (starEach es X.env)).any (·.1) = false) :
    PE X (.Call (.Name x p) (e :: es) [] pos) (tE C W (.bi fl f ies)) := by
  refine PE.imp (t := fun σ H Q => tCB (rn C (fun c d H => W c d σ H) fun as S => finO fl (bifn S f as) S) (tEs C W ies) σ H Q) ⟨fun pins s σ H Q I h => ?_⟩ fun σ H Q h => ?_
  · have k := call_bi (X := X) (C := C) (WE := fun c d H => W c d σ H) (fl := fl) (b := f) hK hc hg hu hf
    cases f with
    | isI t => exact absurd rfl (hf t)
    | int => exact (pe_callTy k hG hm hv ha hn hd he hpl).run pins s σ H Q I h
    | str => exact (pe_callTy k hG hm hv ha hn hd he hpl).run pins s σ H Q I h
    | list => exact (pe_callTy k hG hm hv ha hn hd he hpl).run pins s σ H Q I h
    | tuple => exact (pe_callTy k hG hm hv ha hn hd he hpl).run pins s σ H Q I h
    | _ => exact (pe_callB k hG hm hv ha hn hd he hpl).run pins s σ H Q I h
  · obtain ⟨F, m, S, L, rp, o, rl, h⟩ := h
    simp only [evE] at h
    exact ⟨F, m, S, L, rp, o, rl, h.unbind fun x S1 F1 m1 H1 v s p rp1 o1 r1 h1 => ⟨F1, m1, S1, x, rp1, o1, r1, h1⟩⟩
theorem se_isI {t : Ty} {x y : Str} {p p2 : Pos} (hK : C.K = X.K) (hG : Gl X x) (hm : X.mg x = none) (hx : x = "isinstance") (hGy : Gl X y) (hmy : X.mg y = none) (hvy : bootBuiltins y = some (.type (tyN t))) (hny : y ≠ "__name__") (hdy : (y == ("__debug__" : Str)) = false)
    (ha : PE X e (tE C W ie)) (he : starEach (e :: [.Name y p2]) X.env = (false, eval e X.env) :: starEach [.Name y p2] X.env) :
    PE X (.Call (.Name x p) [e, .Name y p2] [] pos) (tE C W (.bi false (.isI t) (.cons ie .nil))) := by
  subst hx
  refine PE.imp (t := fun σ H Q => tCB (fun vs H Q => ∃ v, vs = [v, .ty (tyN t)] ∧ rn C (fun c d H => W c d σ H) (fun as S => finO false (bifn S (.isI t) as) S) [v] H Q) (tCons (tE C W ie) (tCons (tC (.ty (tyN t))) tNil)) σ H Q) ⟨fun pins s σ H Q I h => ?_⟩ fun σ H Q h => ?_
  · exact (pe_callB (call_isD hK) hG hm boot_isinstance (pa_cons ha (pa_cons (pe_bltn (v := .ty (tyN t)) hGy hmy hvy rfl hny hdy) pa_nil) he) (by decide) (by decide) he (by rfl)).run pins s σ H Q I h
  · obtain ⟨F, m, S, L, rp, o, rl, h⟩ := h
    simp only [evE, evEs, Res.bind_assoc] at h
    exact ⟨F, m, S, L, rp, o, rl, h.unbind fun x S1 F1 m1 H1 v s p rp1 o1 r1 h1 => ⟨v, rfl, F1, m1, S1, [x], rp1, o1, .cons r1 .nil, h1⟩⟩
end
end KI
namespace KI
open PySem PySem.Spec
open PyProof.Rows L2
section
variable {X : Cx} {C : Ct} {W : WX} {a b c e : Expr} {es : List Expr} {ia ib ic ie : E} {ies : Es} {pos : Pos}
/-! ### methods of lists -/
def bmN : Bm → Str
  | .append => "append" | .pop0 => "pop" | .pop1 => "pop" | .insert => "insert" | .extend => "extend" | .clear => "clear" | .index => "index" | .count => "count"
/-- a method's call on values -/
def rm (C : Ct) (WE : Value → Option Addr → Hp → Prop) (b : Bm) : V → List V → Hp → VK → Prop := fun v vs H Q =>
  ∃ (F : Hp) (m : Mw) (S : Store) (x : D) (as : List D), Rep C.K C.cl F m S H ∧ OldC C S ∧ Rel C.K F m x v ∧ Rels C.K F m as vs ∧ Post C WE F m (RD C) (ofP (bmf C.V.n S b x as)) Q
/-- the object at the place i is written, d is told -/
theorem post_wr {F : Hp} {m : Mw} {S : Store} {H : Hp} {i : Nat} {p : Addr} {o : Ob} {ho : HO} {d : D} {v : V} {Q : VK} {WE : Value → Option Addr → Hp → Prop} {r : D × Store} (e : (wr C.V.n S i o).map (fun S' => (d, S')) = some r)
    (h : Post C WE F m (RD C) (Res.ok r.1 r.2) Q) (rp : Rep C.K C.cl F m S H) (od : OldC C S) (hi : m.ms[i]? = some p) (rel : RelO C.K C.cl F m o ho) (rv : Rel C.K F m d v) : Q v (upd H p ho) := by
  rw [Option.map_eq_some_iff] at e
  obtain ⟨S', hw, e⟩ := e
  subst e
  obtain ⟨rp', od'⟩ := wr_sound hw rp od hi rel
  exact Post.use (R := RD C) h rp' od' rv
/-- what a method finds -/
theorem bm_at {F : Hp} {m : Mw} {S : Store} {H : Hp} {f : Bm} {x : D} {v : V} {as : List D} {Q : VK} {WE : Value → Option Addr → Hp → Prop} (rp : Rep C.K C.cl F m S H) (rx : Rel C.K F m x v) (h : Post C WE F m (RD C) (ofP (bmf C.V.n S f x as)) Q) :
    ∃ i xs p vs r, bmL C.V.n S i xs f as = some r ∧ Post C WE F m (RD C) (Res.ok r.1 r.2) Q ∧ v = .ref p ∧ m.ms[i]? = some p ∧ H p = some (.lst vs) ∧ Rels C.K F m xs vs := by
  unfold bmf at h
  cases rx with
  | ref hm =>
    rename_i i p
    simp only at h
    split at h
    · rename_i xs hi
      obtain ⟨b, ho, h1, h2, h3, h4⟩ := rp.at hi
      rw [hm] at h1
      cases h1
      cases h4 with
      | lst rs =>
        cases hb : bmL C.V.n S i xs f as with
        | none =>
          rw [hb] at h
          exact False.elim h
        | some r =>
          rw [hb] at h
          exact ⟨i, xs, p, _, r, hb, h, rfl, hm, h3, rs⟩
    · exact False.elim h
  | _ => exact False.elim h
theorem rels0 {K : PySem.W.Frag} {F : Hp} {m : Mw} {as : List D} (r : Rels K F m as []) : as = [] := by
  cases r
  rfl
variable {WE : Value → Option Addr → Hp → Prop}
theorem mt_pop0 : MtR X "list.pop" (fun v vs H Q => vs = [] ∧ rm C WE .pop0 v vs H Q) := by
  intro pins s σ H x xs v us Q I rx rv q
  obtain ⟨rfl, F, m, S, d, as, rp, o, r1, r2, hp⟩ := q
  obtain rfl := rels0 r2
  obtain ⟨i, ys, p, vs, r, hb, hq, rfl, h1, h2, h3⟩ := bm_at rp r1 hp
  simp only [bmL] at hb
  split at hb
  · rename_i d hl
    have e1 : ys[ys.length - 1]? = some d := by rw [← List.getLast?_eq_getElem?]; exact hl
    obtain ⟨w, e2, rw'⟩ := h3.get e1
    rw [h3.length] at e2
    exact mt_pop pins s σ H _ _ v us Q I rx rv ⟨_, _, _, rfl, rfl, h2, e2, post_wr hb hq rp o h1 (.lst h3.dropLast) rw'⟩
  · cases hb
theorem mt_clr : MtR X "list.clear" (fun v vs H Q => vs = [] ∧ rm C WE .clear v vs H Q) := by
  intro pins s σ H x xs v us Q I rx rv q
  obtain ⟨rfl, F, m, S, d, as, rp, o, r1, r2, hp⟩ := q
  obtain rfl := rels0 r2
  obtain ⟨i, ys, p, vs, r, hb, hq, rfl, h1, h2, h3⟩ := bm_at rp r1 hp
  exact mt_clear pins s σ H _ _ v us Q I rx rv ⟨_, _, rfl, rfl, h2, post_wr hb hq rp o h1 (.lst .nil) .non⟩
theorem mt_app : MtR X "list.append" (rm C WE .append) := by
  intro pins s σ H x xs v us Q I rx rv q
  obtain ⟨F, m, S, d, as, rp, o, r1, r2, hp⟩ := q
  obtain ⟨i, ys, p, vs, r, hb, hq, rfl, h1, h2, h3⟩ := bm_at rp r1 hp
  unfold bmL at hb
  split at hb
  · rename_i d' ha
    obtain ⟨w, rfl, rw'⟩ := vals1 r2
    split at hb
    · rename_i hz
      exact mt_append pins s σ H _ _ v us Q I rx rv ⟨_, _, _, rfl, rfl, h2, by rw [← h3.length]; exact big_lt hz, post_wr hb hq rp o h1 (.lst (h3.append (.cons rw' .nil))) .non⟩
    · cases hb
  all_goals first | (rename_i e1; cases e1) | (rename_i e1 _; cases e1) | cases hb
theorem mt_popk : MtR X "list.pop" (rm C WE .pop1) := by
  intro pins s σ H x xs v us Q I rx rv q
  obtain ⟨F, m, S, d, as, rp, o, r1, r2, hp⟩ := q
  obtain ⟨i, ys, p, vs, r, hb, hq, rfl, h1, h2, h3⟩ := bm_at rp r1 hp
  unfold bmL at hb
  split at hb
  · rename_i e1; cases e1
  · rename_i e1; cases e1
  · rename_i k
    obtain ⟨w, rfl, rw'⟩ := vals1 r2
    cases rw'
    split at hb
    · rename_i hc
      (simp only [Bool.and_eq_true, decide_eq_true_eq] at hc)
      split at hb
      · rename_i j hj
        split at hb
        · rename_i d' hd
          obtain ⟨w, e2, rw'⟩ := h3.get hd
          rw [h3.length] at hj
          exact mt_popAt pins s σ H _ _ v us Q I rx rv ⟨_, _, _, _, _, rfl, rfl, h2, hc.1, hc.2, hj, e2, post_wr hb hq rp o h1 (.lst (h3.eraseIdx j)) rw'⟩
        · cases hb
      · cases hb
    · cases hb
  · rename_i e1; cases e1
  · cases hb
/-- o.m(..) -/
theorem se_bm {fl : Bool} {f : Bm} {o : Expr} {name : Str} {id : String} {apos : Pos} (slot : Slot "list" name id) (hty : typeOf (.builtin id) = pure (.type "method_descriptor")) (hm : ∀ WE, MtR X id (rm C WE f)) (ho : PE X o (tE C W ia)) (ha : PA X (e :: es) (tEs C W ies))
    (hK : C.K = X.K)
    (hbase : attributeBase o name X.env (eval o X.env) = eval o X.env)
    (hfew : ((backTo pos (starEach (e :: es) X.env)).all (fun x => !x.1) && (backToKw pos (keywordEach [] X.env)).all (fun x => x.1.isSome)
      && decide ((e :: es).length + ([] : List Keyword).length + (if ([] : List Keyword).isEmpty then 0 else 1) < 30)) = true)
    (hline : (apos.endLine == pos.line) = true) (hs : starEach (e :: es) X.env = (false, eval e X.env) :: starEach es X.env) (hplain : (backTo pos (starEach es X.env)).any (·.1) = false) :
    PE X (.Call (.Attribute o name apos) (e :: es) [] pos) (tE C W (.bm fl f ia ies)) := by
  refine PE.imp (t := fun σ H Q => tBM X.K "list" (rm C (fun c d H => W c d σ H) f) (tE C W ia) (tEs C W ies) σ H Q) ⟨fun pins s σ H Q I h => (pe_bm PySem.F.plainAttrs_list slot hty (hm _) ho ha hbase hfew hline hs hplain).run pins s σ H Q I h⟩ fun σ H Q h => ?_
  obtain ⟨F, m, S, L, rp, od, rl, h⟩ := h
  simp only [evE] at h
  refine ⟨F, m, S, L, rp, od, rl, h.unbind fun x S1 F1 m1 H1 v s p rp1 o1 r1 h1 => ?_⟩
  cases hl : litems S1 x with
  | none =>
    rw [hl] at h1
    exact False.elim h1
  | some ys =>
    rw [hl] at h1
    simp only [ofO, Res.bind_ok] at h1
    obtain ⟨p1, w1, rfl, g1, _⟩ := lit_sq rp1 r1 hl
    exact ⟨.inl ⟨rfl, _, .inl (.inl g1)⟩, F1, m1, S1, L, rp1, o1, rl.mono s p, h1.unbind fun xs S2 F2 m2 H2 vs s2 p2 rp2 o2 r2 h2 => ⟨F2, m2, S2, x, xs, rp2, o2, r1.mono s2 p2, r2, h2⟩⟩
theorem se_bm0 {fl : Bool} {f : Bm} {o : Expr} {name : Str} {id : String} {apos : Pos} (slot : Slot "list" name id) (hty : typeOf (.builtin id) = pure (.type "method_descriptor")) (hm : ∀ WE, MtR X id (fun v vs H Q => vs = [] ∧ rm C WE f v vs H Q)) (ho : PE X o (tE C W ia))
    (hbase : attributeBase o name X.env (eval o X.env) = eval o X.env) (hline : (apos.endLine == pos.line) = true) :
    PE X (.Call (.Attribute o name apos) [] [] pos) (tE C W (.bm fl f ia .nil)) := by
  refine PE.imp (t := fun σ H Q => tBM0 X.K "list" (fun v vs H Q => vs = [] ∧ rm C (fun c d H => W c d σ H) f v vs H Q) (tE C W ia) σ H Q) ⟨fun pins s σ H Q I h => (pe_bm0 PySem.F.plainAttrs_list slot hty (hm _) ho hbase hline).run pins s σ H Q I h⟩ fun σ H Q h => ?_
  obtain ⟨F, m, S, L, rp, od, rl, h⟩ := h
  simp only [evE] at h
  refine ⟨F, m, S, L, rp, od, rl, h.unbind fun x S1 F1 m1 H1 v s p rp1 o1 r1 h1 => ?_⟩
  cases hl : litems S1 x with
  | none =>
    rw [hl] at h1
    exact False.elim h1
  | some ys =>
    rw [hl] at h1
    simp only [ofO, evEs, Res.bind_ok] at h1
    obtain ⟨p1, w1, rfl, g1, _⟩ := lit_sq rp1 r1 hl
    exact ⟨.inl ⟨rfl, _, .inl (.inl g1)⟩, rfl, F1, m1, S1, x, [], rp1, o1, r1, .nil, h1⟩
end
end KI

/-! KZ: what is walked; comprehensions. -/
namespace KI
open PySem PySem.Spec
open PyProof.Rows L2
/-- the walk J goes over the items p.1, while the guards p.2 stand -/
structure ItR (C : Ct) (F : Hp) (m : Mw) (p : List D × Gd) (J : L2.It) : Prop where
  go : ∀ (i : Nat) (F1 : Hp) (m1 : Mw) (S : Store) (H : Hp), Same F F1 → m.ms <+: m1.ms → Rep C.K C.cl F1 m1 S H → GdOk p.2 S → i < p.1.length → J.go i H
  yld : ∀ (i : Nat) (F1 : Hp) (m1 : Mw) (S : Store) (H : Hp) (v : V) (H' : Hp), Same F F1 → m.ms <+: m1.ms → Rep C.K C.cl F1 m1 S H → GdOk p.2 S → i < p.1.length → J.yld i H v H' →
    ∃ (F2 : Hp) (d : D), Same F1 F2 ∧ Rep C.K C.cl F2 m1 S H' ∧ p.1[i]? = some d ∧ Rel C.K F2 m1 d v
  stop : ∀ (F1 : Hp) (m1 : Mw) (S : Store) (H : Hp), Same F F1 → m.ms <+: m1.ms → Rep C.K C.cl F1 m1 S H → GdOk p.2 S → J.stop p.1.length H
abbrev tIt (C : Ct) (W : WX) (it : It) : TI := tI C W (fun F m p J => ItR C F m p J) fun L S => evIt C.V L it S
theorem PI.imp {X : Cx} {tg e : Expr} {t t' : TI} (h : PI X tg e t) (k : ∀ σ H R, t' σ H R → t σ H R) : PI X tg e t' := ⟨fun pins s σ H R I q => h.run pins s σ H R I (k σ H R q)⟩
section
variable {X : Cx} {C : Ct} {W : WX} {a b c e tg : Expr} {es : List Expr} {ia ib ic ie : E} {ies : Es} {pos p : Pos}
def sqB (K : PySem.W.Frag) (t : Bool) (H : Hp) (a : Addr) (vs : List V) : Prop := if t = true then SqT K H a vs else SqL K H a vs
theorem seq_later {F : Hp} {m : Mw} {S : Store} {H : Hp} {x : D} {v : V} {xs : List D} (rp : Rep C.K C.cl F m S H) (r : Rel C.K F m x v) (e : items S x = some xs) : ∃ a, v = .ref a ∧ GdOk (gdOf x xs) S ∧
    ∀ (F1 : Hp) (m1 : Mw) (S1 : Store) (H1 : Hp), Same F F1 → m.ms <+: m1.ms → Rep C.K C.cl F1 m1 S1 H1 → GdOk (gdOf x xs) S1 → ∃ vs, Rels C.K F1 m1 xs vs ∧ sqB C.K (isT x) H1 a vs := by
  cases r with
  | tup h rs =>
    simp only [items, Option.some.injEq] at e
    subst e
    exact ⟨_, rfl, fun _ hp => absurd hp (by simp [gdOf]), fun F1 m1 S1 H1 s p rp1 _ => ⟨_, rs.mono2 s p, seqT_mono (s.trans rp1.fz) h⟩⟩
  | scr h =>
    simp only [items, Option.some.injEq] at e
    subst e
    exact ⟨_, rfl, fun _ hp => absurd hp (by simp [gdOf]), fun F1 m1 S1 H1 s p rp1 _ => ⟨_, Rels.of_ints _, (s.trans rp1.fz).seq h⟩⟩
  | lst h rs =>
    simp only [items, Option.some.injEq] at e
    subst e
    exact ⟨_, rfl, fun _ hp => absurd hp (by simp [gdOf]), fun F1 m1 S1 H1 s p rp1 _ => ⟨_, rs.mono2 s p, .inl (.inl (rp1.fz _ _ (s _ _ h)))⟩⟩
  | ref h =>
    rename_i i a
    simp only [items] at e
    split at e
    · rename_i ys hs
      cases e
      refine ⟨_, rfl, fun q hq => ?_, fun F1 m1 S1 H1 s p rp1 g => ?_⟩
      · have e : q = (i, xs) := by simpa [gdOf] using hq
        subst e
        exact hs
      · have g1 : S1[i]? = some (.lst xs) := g (i, xs) (by simp [gdOf])
        obtain ⟨b, ho, h1, h2, h3, h4⟩ := rp1.at g1
        rw [pre_get2 p h] at h1
        cases h1
        cases h4 with
        | lst rs => exact ⟨_, rs, .inl (.inl h3)⟩
    · cases e
  | _ => simp [items] at e

/-- a list or a tuple walked -/
theorem pi_seq {tl : TE} (hl : PE X a tl) : PI X tg a (fun σ H R => tl σ H fun x H1 => ∃ q, x = .ref q ∧ (((∃ xs, SqL X.K H1 q xs) ∧ R (Itl X.K q) H1) ∨ ((∃ xs, SqT X.K H1 q xs) ∧ R (Itt X.K q) H1))) := by
  refine ⟨fun pins s σ H R I h => thn (hl.run pins s σ H _ I h) fun v s1 ⟨x, H1, I1, r1, q, ex, k⟩ => ?_⟩
  subst ex
  cases r1
  have fp : ∀ b ∈ [s1.heap.objs.size], FpOk X pins H1 b := fun b hb => by
    rw [List.mem_singleton.mp hb]
    (exact I1.fpOk (Nat.le_refl _) (I1.hok.fresh (Nat.le_refl _)))
  have I2 : ∀ o, Inv X pins σ H1 { s1 with heap := s1.heap.push o } := fun o => I1.kept (t' := s1.toks) fun b u e => Heap.get?_push_of_some _ e
  rcases k with ⟨⟨xs, hq⟩, k⟩ | ⟨⟨xs, hq⟩, k⟩
  · obtain ⟨its, rv, pl, _⟩ := I1.list hq
    exact wpAny_pyIter_list pl.isList ⟨_, _, _, _, H1, rfl, I2 _, turn_list q _, ⟨_, Heap.get?_push_size _ rfl, rfl, rfl⟩, fp, k⟩
  · obtain ⟨its, rv, pl, _⟩ := I1.tuple hq
    exact wpAny_pyIter_tuple (show s1.heap.IsTuple q its.toArray from pl) ⟨_, _, _, _, H1, rfl, I2 _, turn_tuple q _, ⟨_, Heap.get?_push_size _ rfl, rfl, rfl⟩, fp, k⟩
theorem si_seq (hK : C.K = X.K) (ha : PE X a (tE C W ia)) : PI X tg a (tIt C W (.seq ia)) := by
  refine PI.imp (pi_seq ha) fun σ H R h => ?_
  obtain ⟨F, m, S, L, rp, o, rl, h⟩ := h
  simp only [evIt] at h
  refine ⟨F, m, S, L, rp, o, rl, h.unbind fun x S1 F1 m1 H1 v s p rp1 o1 r1 h1 => ?_⟩
  cases e : items S1 x with
  | none =>
    rw [e] at h1
    exact False.elim h1
  | some xs =>
    rw [e] at h1
    obtain ⟨q, rfl, g0, lat⟩ := seq_later rp1 r1 e
    obtain ⟨vs0, rs0, sq0⟩ := lat F1 m1 S1 H1 (Same.refl _) (List.prefix_refl _) rp1 g0
    refine ⟨q, rfl, ?_⟩
    cases ht : isT x with
    | false =>
      refine .inl ⟨⟨vs0, ?_⟩, ?_⟩
      · rw [ht] at sq0
        rw [← hK]
        exact sq0
      · refine Post.use (R := fun F m p J => ItR C F m p J) h1 rp1 o1 ⟨fun i F2 m2 S2 H2 s2 p2 rp2 g hi => ?_, fun i F2 m2 S2 H2 w H3 s2 p2 rp2 g hi hy => ?_, fun F2 m2 S2 H2 s2 p2 rp2 g => ?_⟩
        · obtain ⟨vs, rs, sq⟩ := lat F2 m2 S2 H2 s2 p2 rp2 g
          rw [ht, hK] at sq
          exact ⟨vs, _, sq, List.getElem?_eq_getElem (by rw [← rs.length]; exact hi)⟩
        · obtain ⟨vs, rs, sq⟩ := lat F2 m2 S2 H2 s2 p2 rp2 g
          rw [ht, hK] at sq
          obtain ⟨rfl, hw⟩ := hy
          obtain ⟨d, h3, h4⟩ := rs.get' (hw vs sq)
          exact ⟨F2, d, Same.refl _, rp2, h3, h4⟩
        · obtain ⟨vs, rs, sq⟩ := lat F2 m2 S2 H2 s2 p2 rp2 g
          rw [ht, hK] at sq
          exact ⟨vs, sq, by rw [← rs.length]; exact Nat.le_refl _⟩
    | true =>
      refine .inr ⟨⟨vs0, ?_⟩, ?_⟩
      · rw [ht] at sq0
        rw [← hK]
        exact sq0
      · refine Post.use (R := fun F m p J => ItR C F m p J) h1 rp1 o1 ⟨fun i F2 m2 S2 H2 s2 p2 rp2 g hi => ?_, fun i F2 m2 S2 H2 w H3 s2 p2 rp2 g hi hy => ?_, fun F2 m2 S2 H2 s2 p2 rp2 g => ?_⟩
        · obtain ⟨vs, rs, sq⟩ := lat F2 m2 S2 H2 s2 p2 rp2 g
          rw [ht, hK] at sq
          exact ⟨vs, _, sq, List.getElem?_eq_getElem (by rw [← rs.length]; exact hi)⟩
        · obtain ⟨vs, rs, sq⟩ := lat F2 m2 S2 H2 s2 p2 rp2 g
          rw [ht, hK] at sq
          obtain ⟨rfl, hw⟩ := hy
          obtain ⟨d, h3, h4⟩ := rs.get' (hw vs sq)
          exact ⟨F2, d, Same.refl _, rp2, h3, h4⟩
        · obtain ⟨vs, rs, sq⟩ := lat F2 m2 S2 H2 s2 p2 rp2 g
          rw [ht, hK] at sq
          exact ⟨vs, sq, by rw [← rs.length]; exact Nat.le_refl _⟩
/-- range -/
theorem rng_it {F : Hp} {m : Mw} {lo hi : Int} {xs : List D} (e : rngD lo hi = some xs) : (-(2 ^ 62) ≤ lo ∧ lo < 2 ^ 62 ∧ -(2 ^ 62) ≤ hi ∧ hi < 2 ^ 62) ∧ ItR C F m (xs, []) (Itr lo (hi - lo).toNat) := by
  unfold rngD at e
  obtain ⟨hc, e⟩ := ite_some e
  (simp only [Bool.and_eq_true, decide_eq_true_eq] at hc)
  subst e
  refine ⟨⟨hc.1.1.1, hc.1.1.2, hc.1.2, hc.2⟩, ⟨fun i F1 m1 S1 H1 s p rp1 g h => ?_, fun i F1 m1 S1 H1 v H' s p rp1 g h hy => ?_, fun F1 m1 S1 H1 s p rp1 g => ?_⟩⟩
  · rw [List.length_map, List.length_range] at h
    exact h
  · rw [List.length_map, List.length_range] at h
    obtain ⟨rfl, rfl⟩ := hy
    refine ⟨F1, .int (lo + (i : Int)), Same.refl _, rp1, ?_, .int _⟩
    rw [List.getElem?_map, List.getElem?_range h]
    rfl
  · show _ ≤ _
    (rw [List.length_map, List.length_range])
    exact Nat.le_refl _
theorem si_rng1 (hG : Gl X "range") (hm : X.mg "range" = none) (ha : PE X a (tE C W ia)) (hs : starEach [a] X.env = [(false, eval a X.env)]) : PI X tg (.Call (.Name "range" p) [a] [] pos) (tIt C W (.rng1 ia)) := by
  refine PI.imp (pi_range1 hG hm (pa_cons ha pa_nil hs) hs) fun σ H R h => ?_
  obtain ⟨F, m, S, L, rp, o, rl, h⟩ := h
  simp only [evIt] at h
  refine ⟨F, m, S, L, rp, o, rl, h.unbind fun x S1 F1 m1 H1 v s p rp1 o1 r1 h1 => ?_⟩
  cases r1 with
  | int n =>
    simp only at h1
    cases e : rngD 0 n with
    | none =>
      rw [e] at h1
      exact False.elim h1
    | some xs =>
      rw [e] at h1
      obtain ⟨hb, J⟩ := rng_it (C := C) (F := F1) (m := m1) e
      rw [show n - 0 = n from Int.sub_zero n] at J
      exact ⟨n, rfl, hb.2.2.1, hb.2.2.2, Post.use (R := fun F m p J => ItR C F m p J) h1 rp1 o1 J⟩
  | _ => exact False.elim h1
theorem si_rng2 (hG : Gl X "range") (hm : X.mg "range" = none) (ha : PE X a (tE C W ia)) (hb : PE X b (tE C W ib)) (hs : starEach [a, b] X.env = [(false, eval a X.env), (false, eval b X.env)]) (hs2 : starEach [b] X.env = [(false, eval b X.env)]) :
    PI X tg (.Call (.Name "range" p) [a, b] [] pos) (tIt C W (.rng2 ia ib)) := by
  refine PI.imp (pi_range2 hG hm (pa_cons ha (pa_cons hb pa_nil hs2) (by rw [hs, hs2])) hs hs2) fun σ H R h => ?_
  obtain ⟨F, m, S, L, rp, o, rl, h⟩ := h
  simp only [evIt] at h
  refine ⟨F, m, S, L, rp, o, rl, h.unbind fun x S1 F1 m1 H1 v s p rp1 o1 r1 h1 => ⟨F1, m1, S1, L, rp1, o1, rl.mono s p, h1.unbind fun y S2 F2 m2 H2 w s2 p2 rp2 o2 r2 h2 => ?_⟩⟩
  cases r1 with
  | int lo =>
    cases r2 with
    | int hi =>
      simp only at h2
      cases e : rngD lo hi with
      | none =>
        rw [e] at h2
        exact False.elim h2
      | some xs =>
        rw [e] at h2
        obtain ⟨hb, J⟩ := rng_it (C := C) (F := F2) (m := m2) e
        exact ⟨lo, hi, rfl, hb, Post.use (R := fun F m p J => ItR C F m p J) h2 rp2 o2 J⟩
    | _ => exact False.elim h2
  | _ => exact False.elim h2
/-- two in step -/
theorem si_zip {elts : List Expr} {kk : Nat} {tpos : Pos} (hK : C.K = X.K) (hG : Gl X "zip") (hm : X.mg "zip" = none) (ha : PE X a (tE C W ia)) (hb : PE X b (tE C W ib)) (hs : starEach [a, b] X.env = (false, eval a X.env) :: starEach [b] X.env) (hs2 : starEach [b] X.env = (false, eval b X.env) :: starEach [] X.env)
    (hpl : (backTo pos (starEach [b] X.env)).any (·.1) = false) : PI X (.Tuple elts kk tpos) (.Call (.Name "zip" p) [a, b] [] pos) (tIt C W (.zip ia ib)) := by
  refine PI.imp (RZ.pi_zipA hG hm (pa_cons ha (pa_cons hb pa_nil hs2) hs) hs hpl) fun σ H R h => ?_
  obtain ⟨F, m, S, L, rp, o, rl, h⟩ := h
  simp only [evIt] at h
  refine ⟨F, m, S, L, rp, o, rl, h.unbind fun x S1 F1 m1 H1 v s p rp1 o1 r1 h1 => ⟨F1, m1, S1, L, rp1, o1, rl.mono s p, h1.unbind fun y S2 F2 m2 H2 w s2 p2 rp2 o2 r2 h2 => ?_⟩⟩
  have r1' := r1.mono s2 p2
  cases e1 : items S2 x with
  | none =>
    rw [e1] at h2
    exact False.elim h2
  | some xs =>
    cases e2 : items S2 y with
    | none =>
      rw [e1, e2] at h2
      exact False.elim h2
    | some ys =>
      rw [e1, e2] at h2
      simp only at h2
      split at h2
      · rename_i ht
        obtain ⟨q1, rfl, g1, lat1⟩ := seq_later rp2 r1' e1
        obtain ⟨q2, rfl, g2, lat2⟩ := seq_later rp2 r2 e2
        obtain ⟨vs0, rs0, sq0⟩ := lat1 F2 m2 S2 H2 (Same.refl _) (List.prefix_refl _) rp2 g1
        obtain ⟨ws0, rs0', sq0'⟩ := lat2 F2 m2 S2 H2 (Same.refl _) (List.prefix_refl _) rp2 g2
        have gl : ∀ {S : Store}, GdOk (gdOf x xs ++ gdOf y ys) S → GdOk (gdOf x xs) S := fun g z hz => g z (List.mem_append_left _ hz)
        have gr : ∀ {S : Store}, GdOk (gdOf x xs ++ gdOf y ys) S → GdOk (gdOf y ys) S := fun g z hz => g z (List.mem_append_right _ hz)
        have hl : ∀ {i}, i < (List.zipWith (fun u w => D.tup [u, w]) xs ys).length → i < xs.length ∧ i < ys.length := fun h => by
          rw [List.length_zipWith] at h
          omega
        have pair : ∀ {F3 : Hp} {m3 : Mw} {S3 : Store} {H3 : Hp} {T : Addr} {i : Nat} {u z : V} {vs ws : List V}, Rep C.K C.cl F3 m3 S3 H3 → H3 T = none → Rels C.K F3 m3 xs vs → Rels C.K F3 m3 ys ws → vs[i]? = some u → ws[i]? = some z →
            ∃ (F4 : Hp) (d : D), Same F3 F4 ∧ Rep C.K C.cl F4 m3 S3 (upd H3 T (.tup [u, z])) ∧ (List.zipWith (fun u w => D.tup [u, w]) xs ys)[i]? = some d ∧ Rel C.K F4 m3 d (.ref T) := fun {F3 m3 S3 H3 T i u z vs ws} rp3 nT rs rs' hu hz => by
          obtain ⟨d1, h5, h6⟩ := rs.get' hu
          obtain ⟨d2, h7, h8⟩ := rs'.get' hz
          obtain ⟨sF, rp4⟩ := rp3.fresh nT (.tup [u, z])
          refine ⟨_, .tup [d1, d2], sF, rp4, ?_, .tup (.inl (.inl upd_same)) (.cons (h6.mono sF (Pre.refl _)) (.cons (h8.mono sF (Pre.refl _)) .nil))⟩
          rw [List.getElem?_zipWith, h5, h7]
        refine ⟨q1, q2, vs0, ws0, rfl, ?_⟩
        cases hx : isT x with
        | false =>
          have hy : isT y = false := by rw [← ht, hx]
          rw [hx] at sq0
          rw [hy] at sq0'
          refine .inl ⟨by rw [← hK]; exact sq0, by rw [← hK]; exact sq0', ?_⟩
          refine Post.use (R := fun F m p J => ItR C F m p J) h2 rp2 o2 ⟨fun i F3 m3 S3 H3 s3 p3 rp3 g hi => ?_, fun i F3 m3 S3 H3 w H4 s3 p3 rp3 g hi hyl => ?_, fun F3 m3 S3 H3 s3 p3 rp3 g => ?_⟩
          · obtain ⟨vs, rs, sq⟩ := lat1 F3 m3 S3 H3 s3 p3 rp3 (gl g)
            obtain ⟨ws, rs', sq'⟩ := lat2 F3 m3 S3 H3 s3 p3 rp3 (gr g)
            rw [hx, hK] at sq
            rw [hy, hK] at sq'
            obtain ⟨h5, h6⟩ := hl hi
            exact ⟨vs, ws, _, _, sq, sq', List.getElem?_eq_getElem (by rw [← rs.length]; exact h5), List.getElem?_eq_getElem (by rw [← rs'.length]; exact h6)⟩
          · obtain ⟨vs, rs, sq⟩ := lat1 F3 m3 S3 H3 s3 p3 rp3 (gl g)
            obtain ⟨ws, rs', sq'⟩ := lat2 F3 m3 S3 H3 s3 p3 rp3 (gr g)
            rw [hx, hK] at sq
            rw [hy, hK] at sq'
            obtain ⟨T, u, z, rfl, nT, rfl, hu, hz⟩ := hyl
            exact pair rp3 nT rs rs' (hu vs sq) (hz ws sq')
          · obtain ⟨vs, rs, sq⟩ := lat1 F3 m3 S3 H3 s3 p3 rp3 (gl g)
            obtain ⟨ws, rs', sq'⟩ := lat2 F3 m3 S3 H3 s3 p3 rp3 (gr g)
            rw [hx, hK] at sq
            rw [hy, hK] at sq'
            refine ⟨vs, ws, sq, sq', ?_⟩
            simp only [List.length_zipWith, ← rs.length, ← rs'.length]
            omega
        | true =>
          have hy : isT y = true := by rw [← ht, hx]
          rw [hx] at sq0
          rw [hy] at sq0'
          refine .inr ⟨by rw [← hK]; exact sq0, by rw [← hK]; exact sq0', ?_⟩
          refine Post.use (R := fun F m p J => ItR C F m p J) h2 rp2 o2 ⟨fun i F3 m3 S3 H3 s3 p3 rp3 g hi => ?_, fun i F3 m3 S3 H3 w H4 s3 p3 rp3 g hi hyl => ?_, fun F3 m3 S3 H3 s3 p3 rp3 g => ?_⟩
          · obtain ⟨vs, rs, sq⟩ := lat1 F3 m3 S3 H3 s3 p3 rp3 (gl g)
            obtain ⟨ws, rs', sq'⟩ := lat2 F3 m3 S3 H3 s3 p3 rp3 (gr g)
            rw [hx, hK] at sq
            rw [hy, hK] at sq'
            obtain ⟨h5, h6⟩ := hl hi
            exact ⟨vs, ws, _, _, sq, sq', List.getElem?_eq_getElem (by rw [← rs.length]; exact h5), List.getElem?_eq_getElem (by rw [← rs'.length]; exact h6)⟩
          · obtain ⟨vs, rs, sq⟩ := lat1 F3 m3 S3 H3 s3 p3 rp3 (gl g)
            obtain ⟨ws, rs', sq'⟩ := lat2 F3 m3 S3 H3 s3 p3 rp3 (gr g)
            rw [hx, hK] at sq
            rw [hy, hK] at sq'
            obtain ⟨T, u, z, rfl, nT, rfl, hu, hz⟩ := hyl
            exact pair rp3 nT rs rs' (hu vs sq) (hz ws sq')
          · obtain ⟨vs, rs, sq⟩ := lat1 F3 m3 S3 H3 s3 p3 rp3 (gl g)
            obtain ⟨ws, rs', sq'⟩ := lat2 F3 m3 S3 H3 s3 p3 rp3 (gr g)
            rw [hx, hK] at sq
            rw [hy, hK] at sq'
            refine ⟨vs, ws, sq, sq', ?_⟩
            simp only [List.length_zipWith, ← rs.length, ← rs'.length]
            omega
      · exact False.elim h2
/-- numbered -/
theorem si_enum {elts : List Expr} {kk : Nat} {tpos : Pos} (hK : C.K = X.K) (hG : Gl X "enumerate") (hm : X.mg "enumerate" = none) (ha : PE X a (tE C W ia)) (hs : starEach [a] X.env = [(false, eval a X.env)]) : PI X (.Tuple elts kk tpos) (.Call (.Name "enumerate" p) [a] [] pos) (tIt C W (.enum ia)) := by
  refine PI.imp (pi_enum hG hm (pa_cons ha pa_nil hs) hs) fun σ H R h => ?_
  obtain ⟨F, m, S, L, rp, o, rl, h⟩ := h
  simp only [evIt] at h
  refine ⟨F, m, S, L, rp, o, rl, h.unbind fun x S1 F1 m1 H1 v s p rp1 o1 r1 h1 => ?_⟩
  cases e1 : items S1 x with
  | none =>
    rw [e1] at h1
    exact False.elim h1
  | some xs =>
    rw [e1] at h1
    simp only at h1
    split at h1
    · exact False.elim h1
    · rename_i hx
      have hx : isT x = false := by simpa using hx
      obtain ⟨q1, rfl, g1, lat1⟩ := seq_later rp1 r1 e1
      obtain ⟨vs0, rs0, sq0⟩ := lat1 F1 m1 S1 H1 (Same.refl _) (List.prefix_refl _) rp1 g1
      rw [hx] at sq0
      refine ⟨q1, vs0, rfl, by rw [← hK]; exact sq0, ?_⟩
      refine Post.use (R := fun F m p J => ItR C F m p J) h1 rp1 o1 ⟨fun i F3 m3 S3 H3 s3 p3 rp3 g hi => ?_, fun i F3 m3 S3 H3 w H4 s3 p3 rp3 g hi hyl => ?_, fun F3 m3 S3 H3 s3 p3 rp3 g => ?_⟩
      · obtain ⟨vs, rs, sq⟩ := lat1 F3 m3 S3 H3 s3 p3 rp3 g
        rw [hx, hK] at sq
        rw [List.length_map, List.length_zipIdx] at hi
        exact ⟨vs, _, sq, List.getElem?_eq_getElem (by rw [← rs.length]; exact hi)⟩
      · obtain ⟨vs, rs, sq⟩ := lat1 F3 m3 S3 H3 s3 p3 rp3 g
        rw [hx, hK] at sq
        obtain ⟨T, u, rfl, nT, rfl, hu⟩ := hyl
        obtain ⟨d1, h5, h6⟩ := rs.get' (hu vs sq)
        obtain ⟨sF, rp4⟩ := rp3.fresh nT (.tup [.int (i : Nat), u])
        refine ⟨_, .tup [.int (i : Int), d1], sF, rp4, ?_, .tup (.inl (.inl upd_same)) (.cons (.int _) (.cons (h6.mono sF (Pre.refl _)) .nil))⟩
        simp only [List.getElem?_map, List.getElem?_zipIdx, h5]
        simp
      · obtain ⟨vs, rs, sq⟩ := lat1 F3 m3 S3 H3 s3 p3 rp3 g
        rw [hx, hK] at sq
        refine ⟨vs, sq, ?_⟩
        simp only [List.length_map, List.length_zipIdx, ← rs.length]
        exact Nat.le_refl _
end
end KI

/-! KL: comprehensions. -/
namespace KI
open PySem PySem.Spec
open PyProof.Rows L2
theorem wipe_get (σ : L2.St) (j : Nat) : ∀ vs : List Nat, (wipe σ vs)[j]? = if j ∈ vs ∧ j < σ.length then some none else σ[j]?
  | [] => by simp [wipe]
  | v :: vs => by
    unfold wipe
    by_cases h : v = j
    · subst h
      by_cases hl : v < σ.length
      · rw [List.getElem?_set_self (by rw [wipe_length]; exact hl), if_pos ⟨List.mem_cons_self, hl⟩]
      · rw [List.getElem?_eq_none (by rw [List.length_set, wipe_length]; omega), if_neg (fun z => hl z.2), List.getElem?_eq_none (by omega)]
    · rw [List.getElem?_set_ne h, wipe_get σ j vs]
      have e : (j ∈ v :: vs ∧ j < σ.length) ↔ (j ∈ vs ∧ j < σ.length) := by
        simp only [List.mem_cons]
        constructor
        · rintro ⟨h1 | h1, h2⟩
          · exact absurd h1.symm h
          · exact ⟨h1, h2⟩
        · rintro ⟨h1, h2⟩
          exact ⟨.inr h1, h2⟩
      simp only [e]
theorem wipe_set {σ : L2.St} {i : Nat} {x : Option V} {vs : List Nat} (h : i ∈ vs) : wipe (σ.set i x) vs = wipe σ vs := by
  apply List.ext_getElem?
  intro j
  rw [wipe_get, wipe_get, List.length_set]
  by_cases hj : j ∈ vs ∧ j < σ.length
  · rw [if_pos hj, if_pos hj]
  · rw [if_neg hj, if_neg hj]
    by_cases e : i = j
    · subst e
      have hl : ¬ i < σ.length := fun z => hj ⟨h, z⟩
      rw [List.getElem?_eq_none (by rw [List.length_set]; omega), List.getElem?_eq_none (by omega)]
    · rw [List.getElem?_set_ne e]
theorem wipe_wipe {σ : L2.St} {vs : List Nat} : wipe (wipe σ vs) vs = wipe σ vs := by
  apply List.ext_getElem?
  intro j
  rw [wipe_get, wipe_get, wipe_length]
  by_cases hj : j ∈ vs ∧ j < σ.length
  · rw [if_pos hj, if_pos hj]
  · rw [if_neg hj, if_neg hj]

/-- a target that stores what is walked into names -/
def TgL (C : Ct) (g : TG) (ts : List Nat) : Prop := ∀ (F : Hp) (m : Mw) (S : Store) (H : Hp) (L : Lc) (σ : L2.St) (d : D) (v : V) (Lx : Lc) (Q : L2.St → Hp → Prop), Rep C.K C.cl F m S H → RelL C.K F m L σ → Rel C.K F m d v → setT L ts d = some Lx →
  (∀ σ2, RelL C.K F m Lx σ2 → wipe σ2 ts = wipe σ ts → Q σ2 H) → g v σ H Q
section
variable {C : Ct}
theorem tg_one (i : Nat) : TgL C (gName i) [i] := fun F m S H L σ d v Lx Q rp rl r e k => by
  simp only [setT, Option.some.injEq] at e
  subst e
  exact k _ (rl.set r i) (wipe_set (by simp))
theorem tg_two {K : PySem.W.Frag} (hK : C.K = K) (i j : Nat) : TgL C (gTup K 2 (gCons (gName i) (gCons (gName j) gNil))) [i, j] := fun F m S H L σ d v Lx Q rp rl r e k => by
  cases r with
  | tup h rs =>
    cases rs with
    | nil => simp [setT] at e
    | cons r1 rs => cases rs with
      | nil => simp [setT] at e
      | cons r2 rs => cases rs with
        | cons _ _ => simp [setT] at e
        | nil =>
          simp only [setT, Option.some.injEq] at e
          subst e
          have h' := seqT_mono rp.fz h
          rw [hK] at h'
          exact ⟨_, _, rfl, h', rfl, _, _, rfl, _, _, rfl, rfl, k _ ((rl.set r1 i).set r2 j) (by rw [wipe_set (by simp), wipe_set (by simp)])⟩
  | _ => simp [setT] at e
theorem tg_three {K : PySem.W.Frag} (hK : C.K = K) (i j l : Nat) : TgL C (gTup K 3 (gCons (gName i) (gCons (gName j) (gCons (gName l) gNil)))) [i, j, l] := fun F m S H L σ d v Lx Q rp rl r e k => by
  cases r with
  | tup h rs =>
    cases rs with
    | nil => simp [setT] at e
    | cons r1 rs => cases rs with
      | nil => simp [setT] at e
      | cons r2 rs => cases rs with
        | nil => simp [setT] at e
        | cons r3 rs => cases rs with
          | cons _ _ => simp [setT] at e
          | nil =>
            simp only [setT, Option.some.injEq] at e
            subst e
            have h' := seqT_mono rp.fz h
            rw [hK] at h'
            exact ⟨_, _, rfl, h', rfl, _, _, rfl, _, _, rfl, _, _, rfl, rfl, k _ (((rl.set r1 i).set r2 j).set r3 l) (by rw [wipe_set (by simp), wipe_set (by simp), wipe_set (by simp)])⟩
  | _ => simp [setT] at e
end

theorem Post.unbindX {C : Ct} {WE WE' : Value → Option Addr → Hp → Prop} {α β γ δ : Type} {F : Hp} {m : Mw} {R : Hp → Mw → α → β → Prop} {R2 : Hp → Mw → γ → δ → Prop} {r : Res α} {f : α → Store → Res γ} {Q : δ → Hp → Prop} {Q' : β → Hp → Prop} (h : Post C WE F m R2 ((noX r).bind f) Q)
    (k : ∀ (a : α) (S1 : Store) (F1 : Hp) (m1 : Mw) (H1 : Hp) (b : β), Same F F1 → Pre m m1 → Rep C.K C.cl F1 m1 S1 H1 → OldC C S1 → R F1 m1 a b → Post C WE F1 m1 R2 (f a S1) Q → Q' b H1) : Post C WE' F m R r Q' := by
  cases r with
  | ok a S => exact fun F1 m1 H1 b e p rp o r => k a S F1 m1 H1 b e p rp o r (Post.mono e p h)
  | exc c fs S => exact False.elim h
  | bad => exact h
abbrev W0 : WX := fun _ _ _ _ => False
section
variable {X : Cx} {C : Ct} {W : WX} {elt tg iter : Expr} {ifs : List Expr} {scope : Scope} {own : List (Str × Nat)} {ic ie : E} {it : It} {ts : List Nat} {pos : Pos} {g : TG}
theorem GdOk.mono' {g : Gd} {S : Store} (h : GdOk g S) : GdOk g S := h
theorem Rels.snoc {K : PySem.W.Frag} {F : Hp} {m : Mw} {a : List D} {v : List V} {d : D} {w : V} (r : Rels K F m a v) (q : Rel K F m d w) : Rels K F m (a ++ [d]) (v ++ [w]) := r.append (.cons q .nil)
/-- what a comprehension's turn does -/
noncomputable def lcTurn (V : Env) (L : Lc) (ts : List Nat) (c e : E) : D → Store → Res (Option D) := fun x S2 => match setT (wipeL L ts) ts x with
  | some L2 => (noX (evE V L2 c S2)).bind fun k S3 => (asB k S3).bind fun b S4 => if b then (noX (evE V L2 e S4)).bind fun y S5 => .ok (some y) S5 else .ok none S4
  | none => .bad
theorem lc_imp {fl : Bool} (hK : C.K = X.K) (htg : TgL C g ts) (σ : L2.St) (H : Hp) (Q : VK) (h : tE C W (.lc fl ts it ic ie) σ H Q) : tLc (tIt C W it) g (tTst C W0 ic) (tE C W0 ie) ts σ H Q := by
  obtain ⟨F, m, S, L, rp, o, rl, h⟩ := h
  simp only [evE] at h
  refine ⟨F, m, S, L, rp, o, rl, h.unbind fun xs S1 F1 m1 H1 J s p rp1 o1 r1 h1 => ?_⟩
  intro D0 nD
  split at h1
  case isFalse => exact False.elim h1
  rename_i hbig
  have rl1 := rl.mono s p
  have nG : m1.G D0 = none := none_of rp1.gz nD
  have h1' : Post C (fun c d H => W c d σ H) F1 m1 (RD C) ((lcLoop xs.2 (lcTurn C.V L ts ic ie) xs.1 S1).bind fun ys S2 => fin fl (.l ys) S2) Q := h1
  -- the word of the turns
  refine ⟨fun i k H' => k = xs.1.length - i ∧ i ≤ xs.1.length ∧ ∃ (F2 : Hp) (ms : List Addr) (S2 : Store) (acc : List D) (vacc : List V), Same F1 F2 ∧ Pre m1 ⟨ms, m1.G⟩ ∧ Rep C.K C.cl F2 ⟨ms, upd m1.G D0 (.lst vacc)⟩ S2 H' ∧ OldC C S2 ∧ Rels C.K F2 ⟨ms, m1.G⟩ acc vacc ∧
      acc.length ≤ i ∧ Post C (fun c d H => W c d σ H) F2 ⟨ms, m1.G⟩ (RD C) ((lcLoop xs.2 (lcTurn C.V L ts ic ie) (xs.1.drop i) S2).bind fun ys S2 => fin fl (.l (acc ++ ys)) S2) Q,
    ⟨xs.1.length, by simp, Nat.zero_le _, F1, m1.ms, S1, [], [], Same.refl _, ⟨List.prefix_refl _, rfl⟩, rp1.aside nD _, o1, .nil, Nat.le_refl _, h1'⟩, ?_⟩
  rintro i k H2 ⟨rfl, hi, F2, ms, S2, acc, vacc, s2, p2, rp2, o2, ra, hz, hp⟩
  have pG : Pre m1 ⟨ms, m1.G⟩ := p2
  have rpx : Rep C.K C.cl F2 ⟨ms, m1.G⟩ S2 H2 := by
    refine ⟨rp2.fz, fun b u e => ?_, fun b u e => ?_, rp2.len, rp2.nd, fun j ob a h1 h2 => ?_⟩
    · have e : m1.G b = some u := e
      exact rp2.gz b u (show upd m1.G D0 (.lst vacc) b = some u by rw [upd_ne (ne_of_none e nG)]; exact e)
    · have e : m1.G b = some u := e
      exact rp2.gd b u (show upd m1.G D0 (.lst vacc) b = some u by rw [upd_ne (ne_of_none e nG)]; exact e)
    · obtain ⟨h3, ho, h4, h5⟩ := rp2.ob j ob a h1 h2
      exact ⟨h3, ho, h4, h5.side m1.G⟩
  by_cases hlt : i < xs.1.length
  · right
    have hd : xs.1.drop i = xs.1[i] :: xs.1.drop (i + 1) := List.drop_eq_getElem_cons hlt
    rw [hd] at hp
    simp only [lcLoop] at hp
    split at hp
    · rename_i hg
      refine ⟨r1.go i F2 ⟨ms, m1.G⟩ S2 H2 s2 pG.1 rpx hg hlt, fun H3 => ∃ (F3 : Hp) (ms : List Addr) (S3 : Store) (acc : List D) (vacc : List V), Same F1 F3 ∧ Pre m1 ⟨ms, m1.G⟩ ∧ Rep C.K C.cl F3 ⟨ms, upd m1.G D0 (.lst vacc)⟩ S3 H3 ∧ OldC C S3 ∧ Rels C.K F3 ⟨ms, m1.G⟩ acc vacc ∧
        acc.length ≤ i + 1 ∧ Post C (fun c d H => W c d σ H) F3 ⟨ms, m1.G⟩ (RD C) ((lcLoop xs.2 (lcTurn C.V L ts ic ie) (xs.1.drop (i + 1)) S3).bind fun ys S2 => fin fl (.l (acc ++ ys)) S2) Q,
        fun H3 hn => ⟨xs.1.length - (i + 1), by omega, rfl, hlt, hn⟩, fun x H3 hy => ?_⟩
      obtain ⟨F3, d, s3, rp3, hd3, rd3⟩ := r1.yld i F2 ⟨ms, upd m1.G D0 (.lst vacc)⟩ S2 H2 x H3 s2 pG.1 rp2 hg hlt hy
      have ed : xs.1[i] = d := by
        rw [List.getElem?_eq_getElem hlt] at hd3
        exact Option.some.inj hd3
      rw [ed] at hp
      have hp3 := Post.mono s3 (Pre.refl _) hp
      rw [Res.bind_assoc] at hp3
      obtain ⟨T, hT, hp3⟩ : ∃ T : Option D → Store → Res D, (∀ o S1, T o S1 = ((lcLoop xs.2 (lcTurn C.V L ts ic ie) (xs.1.drop (i + 1)) S1).bind fun ys S2 => Res.ok (match o with | some y => y :: ys | none => ys) S2).bind fun ys S2 => fin fl (.l (acc ++ ys)) S2) ∧
        Post C (fun c d H => W c d σ H) F3 ⟨ms, m1.G⟩ (RD C) ((lcTurn C.V L ts ic ie d S2).bind T) Q := ⟨_, fun _ _ => rfl, hp3⟩
      unfold lcTurn at hp3
      cases hs : setT (wipeL L ts) ts d with
      | none =>
        rw [hs] at hp3
        exact False.elim hp3
      | some Lx =>
        rw [hs] at hp3
        have mid : Pre m1 ⟨ms, m1.G⟩ := pG
        have rl3 : RelL C.K F3 ⟨ms, upd m1.G D0 (.lst vacc)⟩ (wipeL L ts) (wipe σ ts) := ((rl1.mono (s2.trans s3) mid).side _).wipe ts
        refine htg F3 _ S2 H3 _ _ d x Lx _ rp3 rl3 rd3 hs fun σ2 rl4 hw => ⟨by rw [hw, wipe_wipe], ?_⟩
        -- the test, then the item
        simp only [Res.bind_assoc] at hp3
        have pre4 : ∀ {F4 : Hp} {ms4 : List Addr}, Same F3 F4 → ms <+: ms4 → Same F1 F4 ∧ Pre m1 ⟨ms4, m1.G⟩ ∧ Rels C.K F4 ⟨ms4, m1.G⟩ acc vacc := fun {F4 ms4} s4 p4 =>
          ⟨(s2.trans s3).trans s4, ⟨pG.1.trans p4, rfl⟩, Rels.mono (m := ⟨ms, m1.G⟩) (m' := ⟨ms4, m1.G⟩) (s3.trans s4) ⟨p4, rfl⟩ ra⟩
        cases e1 : evE C.V Lx ic S2 with
        | bad =>
          rw [e1] at hp3
          exact False.elim hp3
        | exc c fs S3 =>
          rw [e1] at hp3
          exact False.elim hp3
        | ok k S3 =>
          rw [e1] at hp3
          refine ⟨F3, _, S2, Lx, rp3, o2, rl4, ?_⟩
          show Post C _ F3 _ RB ((evE C.V Lx ic S2).bind asB) _
          rw [e1]
          cases k with
          | bl b =>
            intro F4 m4 H4 b4 s4 p4 rp4 o4 r4
            cases r4
            obtain ⟨ms4, G4⟩ := m4
            obtain ⟨p4a, p4b⟩ := p4
            have p4b : G4 = upd m1.G D0 (.lst vacc) := p4b
            subst p4b
            have hp4 := Post.mono (m := ⟨ms, m1.G⟩) (m' := ⟨ms4, m1.G⟩) s4 ⟨p4a, rfl⟩ hp3
            cases b with
            | true =>
              refine ⟨F4, _, S3, Lx, rp4, o4, rl4.mono s4 ⟨p4a, rfl⟩, ?_⟩
              show Post C _ F4 _ (RD C) (evE C.V Lx ie S3) _
              cases e2 : evE C.V Lx ie S3 with
              | bad =>
                simp only [asB, noX, Res.bind_ok, if_true, e2] at hp4
                exact False.elim hp4
              | exc c fs S4 =>
                simp only [asB, noX, Res.bind_ok, if_true, e2] at hp4
                exact False.elim hp4
              | ok y S4 =>
                simp only [asB, noX, Res.bind_ok, if_true, e2] at hp4
                intro F5 m5 H5 w s5 p5 rp5 o5 r5
                obtain ⟨ms5, G5⟩ := m5
                obtain ⟨p5a, p5b⟩ := p5
                have p5b : G5 = upd m1.G D0 (.lst vacc) := p5b
                subst p5b
                obtain ⟨q1, q2, q3⟩ := pre4 (s4.trans s5) (p4a.trans p5a)
                have hp5 := Post.mono (m := ⟨ms4, m1.G⟩) (m' := ⟨ms5, m1.G⟩) s5 ⟨p5a, rfl⟩ hp4
                have hsz : acc.length < big := by omega
                refine ⟨vacc, rp5.gz _ _ (show upd m1.G D0 (.lst vacc) D0 = _ from upd_same), by rw [← q3.length]; exact big_lt hsz, F5, ms5, S4, acc ++ [y], vacc ++ [w], q1, q2, rp5.again, o5, q3.snoc (r5.side _), by rw [List.length_append]; simp; exact hz, ?_⟩
                have e3 : ∀ ys : List D, acc ++ y :: ys = acc ++ [y] ++ ys := fun ys => by simp
                have e4 : T (some y) S4 = (lcLoop xs.2 (lcTurn C.V L ts ic ie) (xs.1.drop (i + 1)) S4).bind fun ys S2 => fin fl (.l (acc ++ [y] ++ ys)) S2 := by
                  rw [hT, Res.bind_assoc]
                  exact congrArg _ (funext fun ys => funext fun S2 => by rw [Res.bind_ok, e3])
                rw [← e4]
                exact hp5
            | false =>
              simp only [asB, noX, Res.bind_ok] at hp4
              obtain ⟨q1, q2, q3⟩ := pre4 s4 p4a
              have e4 : T none S3 = (lcLoop xs.2 (lcTurn C.V L ts ic ie) (xs.1.drop (i + 1)) S3).bind fun ys S2 => fin fl (.l (acc ++ ys)) S2 := by
                rw [hT, Res.bind_assoc]
                exact congrArg _ (funext fun ys => funext fun S2 => by rw [Res.bind_ok])
              replace hp4 : Post C (fun c d H => W c d σ H) F4 ⟨ms4, m1.G⟩ (RD C) (T none S3) Q := hp4
              rw [e4] at hp4
              exact ⟨F4, ms4, S3, acc, vacc, q1, q2, rp4, o4, q3, Nat.le_succ_of_le hz, hp4⟩
          | _ => exact False.elim hp3
    · exact False.elim hp
  · left
    have ei : i = xs.1.length := by omega
    subst ei
    rw [List.drop_eq_nil_of_le (Nat.le_refl _)] at hp
    simp only [lcLoop] at hp
    split at hp
    · rename_i hg
      refine ⟨r1.stop F2 ⟨ms, m1.G⟩ S2 H2 s2 pG.1 rpx hg, ?_⟩
      simp only [Res.bind_ok, List.append_nil] at hp
      cases fl with
      | false =>
        obtain ⟨s3, rp3⟩ := rp2.into nG
        exact hp _ _ _ _ s3 (Pre.refl _) rp3 o2 (.lst upd_same (ra.mono s3 (Pre.refl _)))
      | true =>
        have rp3 := rp2.join (o := .lst acc) nG (.lst (ra.side _))
        exact hp F2 ⟨ms ++ [D0], m1.G⟩ _ _ (Same.refl _) ⟨List.prefix_append _ _, rfl⟩ rp3 o2.push (.ref (by
          show (ms ++ [D0])[S2.length]? = some D0
          have hl : ms.length = S2.length := rp2.len
          rw [← hl, List.getElem?_append_right (Nat.le_refl _)]
          simp))
    · exact False.elim hp
/-- a comprehension -/
theorem se_lc {fl : Bool} (hK : C.K = X.K) (hc : X.calm = true) (hN : X.N.Nodup) (hi : PI X tg iter (tIt C W it)) (ok : BlkOk X.N X.env.scope scope own) (hown : own.map (·.2) = ts)
    (hg : ∀ (s : Shared) (H : Hp) (A : Addr) (cl : List (Str × Addr)) (fp : List Addr), PG (X.blk s H scope (compEnvC scope cl A X.env) fp) tg g) (ht : ∀ (s : Shared) (H : Hp) (A : Addr) (cl : List (Str × Addr)) (fp : List Addr), PTs (X.blk s H scope (compEnvC scope cl A X.env) fp) ifs (tTst C W0 ic))
    (he : ∀ (s : Shared) (H : Hp) (A : Addr) (cl : List (Str × Addr)) (fp : List Addr), PE (X.blk s H scope (compEnvC scope cl A X.env) fp) elt (tE C W0 ie)) (hs : ∀ x, foldedSetIterable iter X.env x = pure x) (htg : TgL C g ts) :
    PE X (.ListComp elt [⟨tg, iter, ifs, 0⟩] scope pos) (tE C W (.lc fl ts it ic ie)) := by
  subst hown
  exact PE.imp (pe_lc hc hN hi ok hg ht he hs) fun σ H Q h => lc_imp hK htg σ H Q h
theorem PTs.imp {X : Cx} {es : List Expr} {t t' : TT} (h : PTs X es t) (k : ∀ σ H Q, t' σ H Q → t σ H Q) : PTs X es t' := ⟨fun pins s σ H Q I q => h.run pins s σ H Q I (k σ H Q q)⟩
theorem sts_nil {X : Cx} : PTs X [] (tTst C W (.cst (.bl true))) := PTs.imp pts_nil fun σ H Q h => by
  obtain ⟨F, m, S, L, rp, o, rl, h⟩ := h
  simp only [evE, Res.bind_ok, asB] at h
  exact Post.use (R := RB) h rp o rfl
end
end KI

/-! KS: statements. -/
namespace KI
open PySem PySem.Spec
open PyProof.Rows L2
inductive OV where
  | nx (σ : L2.St)
  | rt (v : V)
  | bk (σ : L2.St)
  | ct (σ : L2.St)
def ROV (C : Ct) : Hp → Mw → Out → OV → Prop := fun F m o w => match o, w with
  | .nx L, .nx σ => RelL C.K F m L σ
  | .rt d, .rt v => Rel C.K F m d v
  | .bk L, .bk σ => RelL C.K F m L σ
  | .ct L, .ct σ => RelL C.K F m L σ
  | _, _ => False
def ends (D : Ends) : OV → Hp → Prop
  | .nx σ, H => D.nx σ H
  | .rt v, H => D.rt v H
  | .bk σ, H => D.bk σ H
  | .ct σ, H => D.ct σ H
abbrev wa (W : WX) : Value → Option Addr → Hp → Prop := fun c d H => ∀ σ, W c d σ H
def tS (C : Ct) (W : WX) (f : Lc → Store → Res Out) : TS := fun D σ H => ∃ (F : Hp) (m : Mw) (S : Store) (L : Lc), Rep C.K C.cl F m S H ∧ OldC C S ∧ RelL C.K F m L σ ∧ Post C (wa W) F m (ROV C) (f L S) (ends D)
theorem PS.imp {X : Cx} {e : Stmt} {t t' : TS} (h : PS X e t) (k : ∀ D σ H, t' D σ H → t D σ H) : PS X e t' := ⟨fun pins s σ H D I q => h.run pins s σ H D I (k D σ H q)⟩
theorem PSs.imp {X : Cx} {e : List Stmt} {t t' : TS} (h : PSs X e t) (k : ∀ D σ H, t' D σ H → t D σ H) : PSs X e t' := ⟨fun pins s σ H D I q => h.run pins s σ H D I (k D σ H q)⟩
section
variable {C : Ct} {WE WE' : Value → Option Addr → Hp → Prop} {α β γ δ : Type} {F : Hp} {m : Mw} {R : Hp → Mw → α → β → Prop} {R2 : Hp → Mw → γ → δ → Prop}
theorem Post.unbindW {r : Res α} {f : α → Store → Res γ} {Q : δ → Hp → Prop} {Q' : β → Hp → Prop} (h : Post C WE F m R2 (r.bind f) Q) (hw : ∀ c d H, WE c d H → WE' c d H)
    (k : ∀ (a : α) (S1 : Store) (F1 : Hp) (m1 : Mw) (H1 : Hp) (b : β), Same F F1 → Pre m m1 → Rep C.K C.cl F1 m1 S1 H1 → OldC C S1 → R F1 m1 a b → Post C WE F1 m1 R2 (f a S1) Q → Q' b H1) : Post C WE' F m R r Q' := by
  cases r with
  | ok a S => exact fun F1 m1 H1 b e p rp o r => k a S F1 m1 H1 b e p rp o r (Post.mono e p h)
  | exc c fs S => exact fun F1 m1 H1 d e p rp o r => hw _ _ _ (h F1 m1 H1 d e p rp o r)
  | bad => exact h
end
section
variable {X : Cx} {C : Ct} {W : WX} {st : Stmt} {rest : List Stmt} {e c : Expr} {es : List Expr} {ie ic : E} {ies : Es} {s : Sm} {ss sa sb : Sms} {pos : Pos}
theorem wa_at (σ : L2.St) : ∀ c d H, wa W c d H → W c d σ H := fun c d H h => h σ
theorem ss_nil : PSs X [] (tS C W (exB C.V .nil)) := PSs.imp pss_nil fun D σ H h => by
  obtain ⟨F, m, S, L, rp, o, rl, h⟩ := h
  simp only [exB] at h
  exact Post.use (R := ROV C) (Q := ends D) (b := .nx σ) h rp o rl
theorem ss_cons (h1 : PS X st (tS C W (exS C.V s))) (h2 : PSs X rest (tS C W (exB C.V ss))) : PSs X (st :: rest) (tS C W (exB C.V (.cons s ss))) := PSs.imp (pss_cons h1 h2) fun D σ H h => by
  obtain ⟨F, m, S, L, rp, o, rl, h⟩ := h
  simp only [exB] at h
  refine ⟨F, m, S, L, rp, o, rl, h.unbind fun a S1 F1 m1 H1 b e p rp1 o1 r1 h1 => ?_⟩
  cases a with
  | nx L1 =>
    cases b with
    | nx σ1 => exact ⟨F1, m1, S1, L1, rp1, o1, r1, h1⟩
    | _ => exact False.elim r1
  | rt d =>
    cases b with
    | rt v => exact Post.use (R := ROV C) (Q := ends D) (b := .rt v) h1 rp1 o1 r1
    | _ => exact False.elim r1
  | bk L1 =>
    cases b with
    | bk v => exact Post.use (R := ROV C) (Q := ends D) (b := .bk v) h1 rp1 o1 r1
    | _ => exact False.elim r1
  | ct L1 =>
    cases b with
    | ct v => exact Post.use (R := ROV C) (Q := ends D) (b := .ct v) h1 rp1 o1 r1
    | _ => exact False.elim r1
theorem ss_pass : PS X (.Pass pos) (tS C W (exS C.V .pass)) := PS.imp ps_pass fun D σ H h => by
  obtain ⟨F, m, S, L, rp, o, rl, h⟩ := h
  simp only [exS] at h
  exact Post.use (R := ROV C) (Q := ends D) (b := .nx σ) h rp o rl
theorem ss_ex (he : PE X e (tE C W ie)) (hs : swapsWith e none pos.line X.env = pure false) : PS X (.Expr e pos) (tS C W (exS C.V (.ex ie))) := PS.imp (ps_expr he hs) fun D σ H h => by
  obtain ⟨F, m, S, L, rp, o, rl, h⟩ := h
  simp only [exS] at h
  exact ⟨F, m, S, L, rp, o, rl, h.unbindW (wa_at σ) fun a S1 F1 m1 H1 b e p rp1 o1 r1 h1 => Post.use (R := ROV C) (Q := ends D) (b := .nx σ) h1 rp1 o1 (rl.mono e p)⟩
theorem asg_imp {i : Nat} {t : TE} (k : ∀ σ H Q, tE C W ie σ H Q → t σ H Q) (D : Ends) (σ : L2.St) (H : Hp) (h : tS C W (exS C.V (.asg i ie)) D σ H) : tAsg t (gName i) D σ H := by
  obtain ⟨F, m, S, L, rp, o, rl, h⟩ := h
  simp only [exS] at h
  exact k _ _ _ ⟨F, m, S, L, rp, o, rl, h.unbindW (wa_at σ) fun a S1 F1 m1 H1 b e p rp1 o1 r1 h1 => Post.use (R := ROV C) (Q := ends D) (b := .nx _) h1 rp1 o1 ((rl.mono e p).set r1 i)⟩
theorem ss_asg {i : Nat} {x : Str} {pos' : Pos} (hN : X.N.Nodup) (hi : X.N[i]? = some x) (hx : Loc X.env.scope x) (he : PE X e (tE C W ie)) (hs : swapsWith e (some (.Name x pos')) pos.line X.env = pure false) (hf : X.fn x = true ∨ X.env.scope.names.lookup x = some .local) :
    PS X (.Assign [.Name x pos'] e pos) (tS C W (exS C.V (.asg i ie))) := PS.imp (ps_set hN hi hx he hs hf) fun D σ H h => asg_imp (fun _ _ _ q => q) D σ H h
theorem ss_ret (he : PE X e (tE C W ie)) : PS X (.Return (some e) pos) (tS C W (exS C.V (.ret ie))) := PS.imp (ps_ret he) fun D σ H h => by
  obtain ⟨F, m, S, L, rp, o, rl, h⟩ := h
  simp only [exS] at h
  exact ⟨F, m, S, L, rp, o, rl, h.unbindW (wa_at σ) fun a S1 F1 m1 H1 b e p rp1 o1 r1 h1 => Post.use (R := ROV C) (Q := ends D) (b := .rt _) h1 rp1 o1 r1⟩
theorem Post.splitW {r : Res D} {γ δ : Type} {WE WE' : Value → Option Addr → Hp → Prop} {F : Hp} {m : Mw} {R2 : Hp → Mw → γ → δ → Prop} {f : Bool → Store → Res γ} {Q : δ → Hp → Prop} {Q' : Bool → Hp → Prop}
    (h : Post C WE F m R2 (r.bind fun x S1 => (asB x S1).bind f) Q) (hw : ∀ c d H, WE c d H → WE' c d H)
    (k : ∀ (b : Bool) (S1 : Store) (F1 : Hp) (m1 : Mw) (H1 : Hp), Same F F1 → Pre m m1 → Rep C.K C.cl F1 m1 S1 H1 → OldC C S1 → Post C WE F1 m1 R2 (f b S1) Q → Q' b H1) : Post C WE' F m RB (r.bind asB) Q' := by
  rw [← Res.bind_assoc] at h
  exact h.unbindW hw fun a S1 F1 m1 H1 b e p rp o r1 h1 => by
    have r1 : a = b := r1
    subst r1
    exact k _ S1 F1 m1 H1 e p rp o h1
theorem ss_ite {a b : List Stmt} (hc : PT X c (tTst C W ic)) (ha : PSs X a (tS C W (exB C.V sa))) (hb : PSs X b (tS C W (exB C.V sb))) : PS X (.If c a b pos) (tS C W (exS C.V (.ite ic sa sb))) := PS.imp (ps_if hc ha hb) fun D σ H h => by
  obtain ⟨F, m, S, L, rp, o, rl, h⟩ := h
  simp only [exS] at h
  refine ⟨F, m, S, L, rp, o, rl, h.splitW (wa_at σ) fun k S1 F1 m1 H1 e1 p1 rp1 o1 h1 => ?_⟩
  cases k with
  | true => exact ⟨F1, m1, S1, L, rp1, o1, rl.mono e1 p1, h1⟩
  | false => exact ⟨F1, m1, S1, L, rp1, o1, rl.mono e1 p1, h1⟩

/-! ### loops -/
theorem ss_while {b : List Stmt} (hp : PassesOwn (model X.prog X.w) X.A X.env X.xe) (hc : PT X c (tTst C W ic)) (hb : PSs X b (tS C W (exB C.V sb))) : PS X (.While c b [] pos) (tS C W (exS C.V (.whil ic sb))) := PS.imp (ps_while hp hc hb) fun D σ H h => by
  obtain ⟨F, m, S, L, rp, o, rl, h⟩ := h
  simp only [exS] at h
  refine ⟨fun k σ H => ∃ (F : Hp) (m : Mw) (S : Store) (L : Lc), Rep C.K C.cl F m S H ∧ OldC C S ∧ RelL C.K F m L σ ∧ Post C (wa W) F m (ROV C) (whLoop (fun L S => (evE C.V L ic S).bind fun x S1 => asB x S1) (fun L S => exB C.V sb L S) k L S) (ends D), ⟨C.V.wf, F, m, S, L, rp, o, rl, h⟩, ?_⟩
  rintro k σ1 H1 ⟨F1, m1, S1, L1, rp1, o1, rl1, h1⟩
  cases k with
  | zero => exact False.elim h1
  | succ k =>
    simp only [whLoop] at h1
    refine ⟨F1, m1, S1, L1, rp1, o1, rl1, h1.unbindW (wa_at σ1) fun b S2 F2 m2 H2 b2 e2 p2 rp2 o2 r2 h2 => ?_⟩
    have r2 : b = b2 := r2
    subst r2
    cases b with
    | false => exact Post.use (R := ROV C) (Q := ends D) (b := .nx σ1) h2 rp2 o2 (rl1.mono e2 p2)
    | true =>
      refine ⟨fun σ' H' => ∃ (F : Hp) (m : Mw) (S : Store) (L : Lc), Rep C.K C.cl F m S H' ∧ OldC C S ∧ RelL C.K F m L σ' ∧ Post C (wa W) F m (ROV C) (whLoop (fun L S => (evE C.V L ic S).bind fun x S1 => asB x S1) (fun L S => exB C.V sb L S) k L S) (ends D), fun σ' H' q => ⟨k, Nat.lt_succ_self k, q⟩, ?_⟩
      refine ⟨F2, m2, S2, L1, rp2, o2, rl1.mono e2 p2, h2.unbind fun a S3 F3 m3 H3 w e3 p3 rp3 o3 r3 h3 => ?_⟩
      cases a with
      | nx L3 =>
        cases w with
        | nx σ3 => exact ⟨F3, m3, S3, L3, rp3, o3, r3, h3⟩
        | _ => exact False.elim r3
      | ct L3 =>
        cases w with
        | ct σ3 => exact ⟨F3, m3, S3, L3, rp3, o3, r3, h3⟩
        | _ => exact False.elim r3
      | bk L3 =>
        cases w with
        | bk σ3 => exact Post.use (R := ROV C) (Q := ends D) (b := .nx σ3) h3 rp3 o3 r3
        | _ => exact False.elim r3
      | rt d =>
        cases w with
        | rt v => exact Post.use (R := ROV C) (Q := ends D) (b := .rt v) h3 rp3 o3 r3
        | _ => exact False.elim r3
/-- what a for's turn does -/
theorem ss_for {tg iter : Expr} {b : List Stmt} {it : It} {g : TG} {ts : List Nat} (hp : PassesOwn (model X.prog X.w) X.A X.env X.xe) (hc : X.calm = true) (hi : PI X tg iter (tIt C W it)) (hg : PG X tg g) (hb : PSs X b (tS C W (exB C.V sb)))
    (hs : ∀ x, foldedSetIterable iter X.env x = pure x) (htg : TgL C g ts) : PS X (.For tg iter b [] pos) (tS C W (exS C.V (.fo ts it sb))) := PS.imp (ps_for hp hc hi hg hb hs) fun D σ H h => by
  obtain ⟨F, m, S, L, rp, o, rl, h⟩ := h
  simp only [exS] at h
  refine ⟨F, m, S, L, rp, o, rl, h.unbindW (wa_at σ) fun xs S1 F1 m1 H1 J e1 p1 rp1 o1 r1 h1 => ?_⟩
  obtain ⟨T, hT, h1⟩ : ∃ T : Lc → KI.D → Store → Res Out, (∀ L x S, T L x S = match setT L ts x with | some L1 => exB C.V sb L1 S | none => .bad) ∧ Post C (wa W) F1 m1 (ROV C) (foLoop xs.2 T xs.1 L S1) (ends D) := ⟨_, fun _ _ _ => rfl, h1⟩
  refine ⟨fun i k σ' H' => k = xs.1.length - i ∧ i ≤ xs.1.length ∧ ∃ (F2 : Hp) (m2 : Mw) (S2 : Store) (L2 : Lc), Same F1 F2 ∧ Pre m1 m2 ∧ Rep C.K C.cl F2 m2 S2 H' ∧ OldC C S2 ∧ RelL C.K F2 m2 L2 σ' ∧ Post C (wa W) F2 m2 (ROV C) (foLoop xs.2 T (xs.1.drop i) L2 S2) (ends D),
    ⟨xs.1.length, by simp, Nat.zero_le _, F1, m1, S1, L, Same.refl _, Pre.refl _, rp1, o1, rl.mono e1 p1, h1⟩, ?_⟩
  rintro i k σ2 H2 ⟨rfl, hi, F2, m2, S2, L2, e2, p2, rp2, o2, rl2, h2⟩
  by_cases hlt : i < xs.1.length
  · right
    have hd : xs.1.drop i = xs.1[i] :: xs.1.drop (i + 1) := List.drop_eq_getElem_cons hlt
    rw [hd] at h2
    simp only [foLoop] at h2
    split at h2
    · rename_i hgd
      refine ⟨r1.go i F2 m2 S2 H2 e2 p2.1 rp2 hgd hlt, fun σ' H' => ∃ (F2 : Hp) (m2 : Mw) (S2 : Store) (L2 : Lc), Same F1 F2 ∧ Pre m1 m2 ∧ Rep C.K C.cl F2 m2 S2 H' ∧ OldC C S2 ∧ RelL C.K F2 m2 L2 σ' ∧ Post C (wa W) F2 m2 (ROV C) (foLoop xs.2 T (xs.1.drop (i + 1)) L2 S2) (ends D),
        fun σ' H' q => ⟨xs.1.length - (i + 1), by omega, rfl, hlt, q⟩, fun x H3 hy => ?_⟩
      obtain ⟨F3, d, e3, rp3, hd3, rd3⟩ := r1.yld i F2 m2 S2 H2 x H3 e2 p2.1 rp2 hgd hlt hy
      have ed : xs.1[i] = d := by
        rw [List.getElem?_eq_getElem hlt] at hd3
        exact Option.some.inj hd3
      rw [ed, hT] at h2
      cases hst : setT L2 ts d with
      | none =>
        rw [hst] at h2
        exact False.elim h2
      | some Lx =>
        rw [hst] at h2
        refine htg F3 m2 S2 H3 L2 σ2 d x Lx _ rp3 (rl2.mono e3 (Pre.refl _)) rd3 hst fun σ4 rl4 _ => ?_
        refine ⟨F3, m2, S2, Lx, rp3, o2, rl4, (Post.mono e3 (Pre.refl _) h2).unbind fun a S5 F5 m5 H5 w e5 p5 rp5 o5 r5 h5 => ?_⟩
        cases a with
        | nx L5 =>
          cases w with
          | nx σ5 => exact ⟨F5, m5, S5, L5, (e2.trans e3).trans e5, p2.trans p5, rp5, o5, r5, h5⟩
          | _ => exact False.elim r5
        | ct L5 =>
          cases w with
          | ct σ5 => exact ⟨F5, m5, S5, L5, (e2.trans e3).trans e5, p2.trans p5, rp5, o5, r5, h5⟩
          | _ => exact False.elim r5
        | bk L5 =>
          cases w with
          | bk σ5 => exact Post.use (R := ROV C) (Q := ends D) (b := .nx σ5) h5 rp5 o5 r5
          | _ => exact False.elim r5
        | rt d5 =>
          cases w with
          | rt v => exact Post.use (R := ROV C) (Q := ends D) (b := .rt v) h5 rp5 o5 r5
          | _ => exact False.elim r5
    · exact False.elim h2
  · left
    have ei : i = xs.1.length := by omega
    subst ei
    rw [List.drop_eq_nil_of_le (Nat.le_refl _)] at h2
    simp only [foLoop] at h2
    split at h2
    · rename_i hgd
      exact ⟨r1.stop F2 m2 S2 H2 e2 p2.1 rp2 hgd, Post.use (R := ROV C) (Q := ends D) (b := .nx σ2) h2 rp2 o2 rl2⟩
    · exact False.elim h2
end
end KI

/-! KT: targets, raise, calls of own defs. -/
namespace KI
open PySem PySem.Spec
open PyProof.Rows L2
abbrev RLL (C : Ct) : Hp → Mw → Lc → L2.St → Prop := fun F m L σ => RelL C.K F m L σ
/-- a target of an assignment -/
def TgS (C : Ct) (W : WX) (g : TG) (t : Tg) : Prop := ∀ (F : Hp) (m : Mw) (S : Store) (H : Hp) (L : Lc) (σ : L2.St) (d : D) (v : V) (Q : L2.St → Hp → Prop), Rep C.K C.cl F m S H → OldC C S → RelL C.K F m L σ → Rel C.K F m d v →
  Post C (wa W) F m (RLL C) (stT C.V L t d S) Q → g v σ H Q
def TgsS (C : Ct) (W : WX) (g : TGs) (ts : List Tg) : Prop := ∀ (F : Hp) (m : Mw) (S : Store) (H : Hp) (L : Lc) (σ : L2.St) (ds : List D) (vs : List V) (Q : L2.St → Hp → Prop), Rep C.K C.cl F m S H → OldC C S → RelL C.K F m L σ → Rels C.K F m ds vs →
  Post C (wa W) F m (RLL C) (stTs C.V L ts ds S) Q → g vs σ H Q
section
variable {X : Cx} {C : Ct} {W : WX} {o i e : Expr} {io ii ie : E} {pos : Pos}
theorem tgs_name (i : Nat) : TgS C W (gName i) (.nm i) := fun F m S H L σ d v Q rp od rl r h => by
  simp only [stT] at h
  exact Post.use (R := RLL C) h rp od (rl.set r i)
theorem tgs_sub : TgS C W (gSub (tE C W io) (tE C W ii) rSetL) (.sub io ii) := fun F m S H L σ d v Q rp od rl r h => by
  simp only [stT] at h
  refine ⟨F, m, S, L, rp, od, rl, h.unbindW (wa_at σ) fun x S1 F1 m1 H1 vx s1 p1 rp1 o1 r1 h1 => ⟨F1, m1, S1, L, rp1, o1, rl.mono s1 p1, h1.unbindW (wa_at σ) fun y S2 F2 m2 H2 vy s2 p2 rp2 o2 r2 h2 => ?_⟩⟩
  have r1' := r1.mono s2 p2
  have r' := (r.mono s1 p1).mono s2 p2
  cases r1' with
  | ref hm =>
    rename_i j p
    cases r2 with
    | int k =>
      simp only at h2
      split at h2
      · rename_i xs hj
        split at h2
        · rename_i q hq
          obtain ⟨b, ho, g1, g2, g3, g4⟩ := rp2.at hj
          rw [hm] at g1
          cases g1
          cases g4 with
          | lst rs =>
            cases hw : wr C.V.n S2 j (.lst (xs.set q d)) with
            | none =>
              rw [hw] at h2
              exact False.elim h2
            | some S3 =>
              rw [hw] at h2
              obtain ⟨rp3, o3⟩ := wr_sound hw rp2 o2 hm (.lst (rs.set r' q))
              exact ⟨_, _, _, _, rfl, rfl, g3, by rw [← rs.length]; exact hq, Post.use (R := RLL C) h2 rp3 o3 ((rl.mono s1 p1).mono s2 p2)⟩
        · exact False.elim h2
      · exact False.elim h2
    | _ => exact False.elim h2
  | _ => exact False.elim h2
theorem tgs_nil : TgsS C W gNil [] := fun F m S H L σ ds vs Q rp od rl r h => by
  cases r with
  | nil =>
    simp only [stTs] at h
    exact ⟨rfl, Post.use (R := RLL C) h rp od rl⟩
  | cons _ _ => exact False.elim h
theorem tgs_cons {g : TG} {gs : TGs} {t : Tg} {ts : List Tg} (h1 : TgS C W g t) (h2 : TgsS C W gs ts) : TgsS C W (gCons g gs) (t :: ts) := fun F m S H L σ ds vs Q rp od rl r h => by
  cases r with
  | nil => exact False.elim h
  | cons r rs =>
    simp only [stTs] at h
    refine ⟨_, _, rfl, h1 F m S H L σ _ _ _ rp od rl r (h.unbind fun L1 S1 F1 m1 H1 σ1 s1 p1 rp1 o1 r1 h1' => h2 F1 m1 S1 H1 L1 σ1 _ _ Q rp1 o1 r1 (rs.mono s1 p1) h1')⟩
theorem ss_asgG {tg : Expr} {g : TG} {t : Tg} (he : PE X e (tE C W ie)) (hg : PG X tg g) (htg : TgS C W g t) (hs : swapsWithSole [tg] e pos.line X.env = pure false) (hw : swappedStores [tg] e X.env = pure none) (h1 : (assignEach [tg] X.env).map (·.2) = [assign tg X.env]) :
    PS X (.Assign [tg] e pos) (tS C W (exS C.V (.asgG t ie))) := PS.imp (ps_asg he hg hs hw h1) fun D σ H h => by
  obtain ⟨F, m, S, L, rp, od, rl, h⟩ := h
  simp only [exS] at h
  exact ⟨F, m, S, L, rp, od, rl, h.unbindW (wa_at σ) fun d S1 F1 m1 H1 v s1 p1 rp1 o1 r1 h1 => htg F1 m1 S1 H1 L σ d v _ rp1 o1 (rl.mono s1 p1) r1 (h1.unbind fun L2 S2 F2 m2 H2 σ2 s2 p2 rp2 o2 r2 h2 => Post.use (R := ROV C) (Q := ends D) (b := .nx σ2) h2 rp2 o2 r2)⟩
theorem ss_asgT {es : List Expr} {kk n : Nat} {tpos : Pos} {gs : TGs} {ts : List Tg} (hK : C.K = X.K) (hc : X.calm = true) (he : PE X e (tE C W ie)) (hg : PGs X es gs) (htg : TgsS C W gs ts) (hn : (assignEach es X.env).length = n) (hst : (assignEach es X.env).findIdx? (·.1) = none)
    (hl : ts.length = n) (hs : swapsWithSole [.Tuple es kk tpos] e pos.line X.env = pure false) (hw : swappedStores [.Tuple es kk tpos] e X.env = pure none) : PS X (.Assign [.Tuple es kk tpos] e pos) (tS C W (exS C.V (.asgT ts ie))) :=
  PS.imp (ps_asg he (pg_tup hc hg hn hst) hs hw (by rfl)) fun D σ H h => by
    obtain ⟨F, m, S, L, rp, od, rl, h⟩ := h
    simp only [exS] at h
    refine ⟨F, m, S, L, rp, od, rl, h.unbindW (wa_at σ) fun d S1 F1 m1 H1 v s1 p1 rp1 o1 r1 h1 => ?_⟩
    cases r1 with
    | tup hq rs =>
      simp only [titems] at h1
      split at h1
      · rename_i hlen
        have hq' := seqT_mono rp1.fz hq
        rw [hK] at hq'
        exact ⟨_, _, rfl, hq', by rw [← rs.length, ← hl]; exact hlen, htg F1 m1 S1 H1 L σ _ _ _ rp1 o1 (rl.mono s1 p1) rs (h1.unbind fun L2 S2 F2 m2 H2 σ2 s2 p2 rp2 o2 r2 h2 => Post.use (R := ROV C) (Q := ends D) (b := .nx σ2) h2 rp2 o2 r2)⟩
      · exact False.elim h1
    | _ => exact False.elim h1
/-- a, b = x, y -/
theorem ss_par {i j : Nat} {x y : Str} {a b : Expr} {ia ib : E} {px py pt : Pos} {kt k2 : Nat} {pt2 : Pos} (hc : X.calm = true) (hN : X.N.Nodup) (hi : X.N[i]? = some x) (hj : X.N[j]? = some y) (hij : i ≠ j)
    (hx : X.env.scope.names.lookup x = some .local) (hy : X.env.scope.names.lookup y = some .local) (ha : PA X [a, b] (tEs C W (.cons ia (.cons ib .nil))))
    (hpar : swappedStores [.Tuple [.Name x px, .Name y py] kt pt] (.Tuple [a, b] k2 pt2) X.env = pure (some [x, y]))
    (hs : swapsWithSole [.Tuple [.Name x px, .Name y py] kt pt] (.Tuple [a, b] k2 pt2) pos.line X.env = pure false) :
    PS X (.Assign [.Tuple [.Name x px, .Name y py] kt pt] (.Tuple [a, b] k2 pt2) pos) (tS C W (exS C.V (.asgT [.nm i, .nm j] (.tup (.cons ia (.cons ib .nil)))))) :=
  PS.imp (ps_par hc hN hi hj hij hx hy ha hpar hs) fun D σ H h => by
    obtain ⟨F, m, S, L, rp, od, rl, h⟩ := h
    simp only [exS] at h
    have h' : Post C (wa W) F m (ROV C) ((evEs C.V L (.cons ia (.cons ib .nil)) S).bind fun xs S1 => (if xs.length ≤ big then Res.ok (KI.D.tup xs) S1 else .bad).bind fun d S1 => match titems d with
      | some ds => if ds.length = 2 then (stTs C.V L [.nm i, .nm j] ds S1).bind fun L1 S2 => .ok (.nx L1) S2 else .bad
      | none => .bad) (ends D) := by
      rw [← Res.bind_assoc]
      exact h
    refine ⟨F, m, S, L, rp, od, rl, h'.unbindW (wa_at σ) fun xs S1 F1 m1 H1 vs s1 p1 rp1 o1 r1 h1 => ?_⟩
    split at h1
    · simp only [Res.bind_ok, titems] at h1
      split at h1
      · rename_i hl
        cases r1 with
        | nil => cases hl
        | cons q1 r1 => cases r1 with
          | nil => cases hl
          | cons q2 r1 => cases r1 with
            | cons _ _ => simp at hl
            | nil =>
              simp only [stTs, stT, Res.bind_ok] at h1
              exact ⟨_, _, rfl, Post.use (R := ROV C) (Q := ends D) (b := .nx _) h1 rp1 o1 (((rl.mono s1 p1).set q1 i).set q2 j)⟩
      · exact False.elim h1
    · exact False.elim h1
/-- raise X('m') -/
theorem ss_rais {x m : Str} {j : Nat} {p p2 pos2 : Pos} {bmB : List Value} {B newId initId : String} (hc : X.calm = true) (tk : Takes X W) (F : ExcBaseFacts B newId initId bmB) (q : PySem.W.excIn X.K (C.cl x) bmB newId = true) (gC : X.mg x = some (.ref (C.cl x)))
    (kC : PySem.W.keepIn X.K (.ref (C.cl x)) = true) (r : Raises X (.ref (C.cl x))) (hg : Gl X x) (hdb : (x == ("__debug__" : Str)) = false) :
    PS X (.Raise (some (.Call (.Name x p) [.Constant (.str m) j p2] [] pos)) none pos2) (tS C W (exS C.V (.rais x (.cons (.cst (.str m)) .nil)))) := PS.imp (ps_raise hc tk (pmk_own F q gC kC r hg hdb)) fun D σ H h => by
  obtain ⟨F, m, S, L, rp, od, rl, h⟩ := h
  simp only [exS, evEs, evE, Res.bind_ok] at h
  exact h F m H none (Same.refl _) (Pre.refl _) rp od (.inl ⟨rfl, rfl⟩) σ
end
end KI

/-! KF: a frame is left; own defs called. -/
namespace KI
open PySem PySem.Spec
open PyProof.Rows L2
section
variable {K : PySem.W.Frag} {F : Hp} {m : Mw}
theorem take_get {α : Type} {l : List α} {n i : Nat} (h : i < n) : (l.take n)[i]? = l[i]? := by
  rw [List.getElem?_take, if_pos h]
/- what speaks of places below n alone -/
mutual
theorem Rel.cut (n : Nat) : ∀ {d : D} {v : V}, top d ≤ n → Rel K F m d v → Rel K F ⟨m.ms.take n, m.G⟩ d v
  | _, _, _, .non => .non
  | _, _, _, .bl b => .bl b
  | _, _, _, .int i => .int i
  | _, _, _, .str x => .str x
  | _, _, h, .tup q r => .tup q (Rels.cutn n (by simpa [top] using h) r)
  | _, _, h, .lst q r => .lst q (Rels.cutn n (by simpa [top] using h) r)
  | _, _, _, .scr q => .scr q
  | _, _, h, .dct q r => .dct q (Relk.cut n (by simpa [top] using h) r)
  | .ref i, _, h, .ref q => .ref ((take_get (by simp only [top] at h; omega)).trans q)
theorem Rels.cutn (n : Nat) : ∀ {d : List D} {v : List V}, tops d ≤ n → Rels K F m d v → Rels K F ⟨m.ms.take n, m.G⟩ d v
  | _, _, _, .nil => .nil
  | _, _, h, .cons q r => .cons (Rel.cut n (by simp only [tops] at h; omega) q) (Rels.cutn n (by simp only [tops] at h; omega) r)
theorem Relk.cut (n : Nat) : ∀ {d : List (Key × D)} {v : List (Key × V)}, topk d ≤ n → Relk K F m d v → Relk K F ⟨m.ms.take n, m.G⟩ d v
  | _, _, _, .nil => .nil
  | _, _, h, .cons q r => .cons (Rel.cut n (by simp only [topk] at h; omega) q) (Relk.cut n (by simp only [topk] at h; omega) r)
end
theorem Relf.cut (n : Nat) : ∀ {d : List (Str × D)} {v : List (Str × V)}, topf d ≤ n → Relf K F m d v → Relf K F ⟨m.ms.take n, m.G⟩ d v
  | _, _, _, .nil => .nil
  | _, _, h, .cons q r => .cons (Rel.cut n (by simp only [topf] at h; omega) q) (Relf.cut n (by simp only [topf] at h; omega) r)
/- what is spoken of stands in the store -/
mutual
theorem Rel.tp : ∀ {d : D} {v : V}, Rel K F m d v → top d ≤ m.ms.length
  | _, _, .non => by simp [top]
  | _, _, .bl b => by simp [top]
  | _, _, .int i => by simp [top]
  | _, _, .str x => by simp [top]
  | _, _, .tup q r => by simpa [top] using Rels.tp r
  | _, _, .lst q r => by simpa [top] using Rels.tp r
  | _, _, .scr q => by simp [top]
  | _, _, .dct q r => by simpa [top] using Relk.tp r
  | _, _, .ref q => by
    have := (List.getElem?_eq_some_iff.mp q).1
    simp only [top]
    omega
theorem Rels.tp : ∀ {d : List D} {v : List V}, Rels K F m d v → tops d ≤ m.ms.length
  | _, _, .nil => by simp [tops]
  | _, _, .cons q r => by
    have h1 := Rel.tp q
    have h2 := Rels.tp r
    simp only [tops]
    omega
theorem Relk.tp : ∀ {d : List (Key × D)} {v : List (Key × V)}, Relk K F m d v → topk d ≤ m.ms.length
  | _, _, .nil => by simp [topk]
  | _, _, .cons q r => by
    have h1 := Rel.tp q
    have h2 := Relk.tp r
    simp only [topk]
    omega
end
theorem Relf.tp : ∀ {d : List (Str × D)} {v : List (Str × V)}, Relf K F m d v → topf d ≤ m.ms.length
  | _, _, .nil => by simp [topf]
  | _, _, .cons q r => by
    have h1 := Rel.tp q
    have h2 := Relf.tp r
    simp only [topf]
    omega
theorem Rep.old {cl : Str → Addr} {S : Store} {H : Hp} (R : Rep K cl F m S H) : Old S.length S := ⟨Nat.le_refl _, fun i o hi e => by
  obtain ⟨a, ho, h1, h2, h3, h4⟩ := R.at e
  rw [← R.len]
  cases h4 with
  | lst r => exact r.tp
  | dct r => exact r.tp
  | ins r => exact r.tp⟩

/-! ### a frame is left -/
/-- what the frame made stays as it is from now on -/
def frzF (F H : Hp) (l : List Addr) : Hp := fun a => if a ∈ l then H a else F a
variable {cl : Str → Addr} {S : Store} {H : Hp} {n : Nat}
theorem Rep.leave (R : Rep K cl F m S H) (o : Old n S) : Same F (frzF F H (m.ms.drop n)) ∧ Rep K cl (frzF F H (m.ms.drop n)) ⟨m.ms.take n, m.G⟩ (S.take n) H := by
  have nd : ∀ a, a ∈ m.ms.take n → a ∉ m.ms.drop n := fun a h1 h2 => by
    have z := R.nd
    rw [← List.take_append_drop n m.ms, List.nodup_append] at z
    exact z.2.2 a h1 a h2 rfl
  have sF : Same F (frzF F H (m.ms.drop n)) := fun a u e => by
    unfold frzF
    split
    · exact R.fz _ _ e
    · exact e
  refine ⟨sF, ⟨fun a u e => ?_, R.gz, fun a u e => ?_, ?_, ?_, fun i ob a h1 h2 => ?_⟩⟩
  · unfold frzF at e
    split at e
    · exact e
    · exact R.fz _ _ e
  · obtain ⟨h1, h2⟩ := R.gd a u e
    refine ⟨?_, fun hm => h2 (List.mem_of_mem_take hm)⟩
    unfold frzF
    rw [if_neg (fun hm => h2 (List.mem_of_mem_drop hm))]
    exact h1
  · show (m.ms.take n).length = (S.take n).length
    rw [List.length_take, List.length_take, R.len]
  · exact R.nd.sublist (List.take_sublist _ _)
  · replace h2 : (m.ms.take n)[i]? = some a := h2
    have hi : i < n := by
      have := (List.getElem?_eq_some_iff.mp h2).1
      rw [List.length_take] at this
      omega
    rw [take_get hi] at h1
    have h2' := h2
    rw [take_get hi] at h2
    obtain ⟨h3, ho, h4, h5⟩ := R.ob i ob a h1 h2
    refine ⟨?_, ho, h4, ?_⟩
    · unfold frzF
      rw [if_neg (nd a (List.mem_of_getElem? h2'))]
      exact h3
    · have ht := o.2 i ob hi h1
      have h6 := h5.mono sF (Pre.refl m)
      cases h6 with
      | lst r => exact .lst (r.cutn n ht)
      | dct r => exact .dct (Relk.cut n ht r)
      | ins r => exact .ins (r.cut n ht)
mutual
theorem res_rel (R : Rep K cl F m S H) : ∀ {d d' : D} {v : V}, Rel K F m d v → resD n S d = some d' → Rel K (frzF F H (m.ms.drop n)) ⟨m.ms.take n, m.G⟩ d' v
  | .non, _, _, r, e => by
    cases r
    simp only [resD, Option.some.injEq] at e
    subst e
    exact .non
  | .bl b, _, _, r, e => by
    cases r
    simp only [resD, Option.some.injEq] at e
    subst e
    exact .bl b
  | .int b, _, _, r, e => by
    cases r
    simp only [resD, Option.some.injEq] at e
    subst e
    exact .int b
  | .str b, _, _, r, e => by
    cases r
    simp only [resD, Option.some.injEq] at e
    subst e
    exact .str b
  | .scr b, _, _, r, e => by
    simp only [resD, Option.some.injEq] at e
    subst e
    exact Rel.cut n (by simp [top]) (r.mono (frz_same R) (Pre.refl m))
  | .lst xs, _, _, r, e => by
    simp only [resD] at e
    obtain ⟨h, e⟩ := ite_some e
    subst e
    exact Rel.cut n (by simpa [top] using h) (r.mono (frz_same R) (Pre.refl m))
  | .dct xs, _, _, r, e => by
    simp only [resD] at e
    obtain ⟨h, e⟩ := ite_some e
    subst e
    exact Rel.cut n (by simpa [top] using h) (r.mono (frz_same R) (Pre.refl m))
  | .tup xs, _, _, r, e => by
    cases r with
    | tup q rs =>
      simp only [resD, Option.map_eq_some_iff] at e
      obtain ⟨ys, e1, e2⟩ := e
      subst e2
      exact .tup (seqT_mono (frz_same R) q) (ress_rel R rs e1)
  | .ref i, _, _, r, e => by
    simp only [resD] at e
    split at e
    · rename_i h
      cases e
      exact Rel.cut n (by simp only [top]; omega) (r.mono (frz_same R) (Pre.refl m))
    · rename_i h
      cases r with
      | ref hm =>
        rename_i a
        have hmem : a ∈ m.ms.drop n := by
          have : (m.ms.drop n)[i - n]? = some a := by
            rw [List.getElem?_drop]
            rw [show n + (i - n) = i by omega]
            exact hm
          exact List.mem_of_getElem? this
        split at e
        · rename_i xs hs
          obtain ⟨ht, e⟩ := ite_some e
          subst e
          obtain ⟨b, ho, h1, h2, h3, h4⟩ := R.at hs
          rw [hm] at h1
          cases h1
          cases h4 with
          | lst rs => exact .lst (by unfold frzF; rw [if_pos hmem]; exact h3) ((rs.mono (frz_same R) (Pre.refl m)).cutn n ht)
        · rename_i xs hs
          obtain ⟨ht, e⟩ := ite_some e
          subst e
          obtain ⟨b, ho, h1, h2, h3, h4⟩ := R.at hs
          rw [hm] at h1
          cases h1
          cases h4 with
          | dct rs => exact .dct (by unfold frzF; rw [if_pos hmem]; exact h3) (Relk.cut n ht (rs.mono (frz_same R) (Pre.refl m)))
        · cases e
theorem ress_rel (R : Rep K cl F m S H) : ∀ {d d' : List D} {v : List V}, Rels K F m d v → resDs n S d = some d' → Rels K (frzF F H (m.ms.drop n)) ⟨m.ms.take n, m.G⟩ d' v
  | [], _, _, r, e => by
    cases r
    simp only [resDs, Option.some.injEq] at e
    subst e
    exact .nil
  | x :: xs, _, _, r, e => by
    cases r with
    | cons r rs =>
      simp only [resDs] at e
      split at e
      · rename_i a b h1 h2
        cases e
        exact .cons (res_rel R r h1) (ress_rel R rs h2)
      · cases e
theorem frz_same (R : Rep K cl F m S H) : Same F (frzF F H (m.ms.drop n)) := fun a u e => by
  unfold frzF
  split
  · exact R.fz _ _ e
  · exact e
end
end
end KI

/-! KG: own defs: what they promise, how they are called. -/
namespace KI
open PySem PySem.Spec
open PyProof.Rows L2

/-- a def's promise, where no guard stands around -/
structure FnG (P : Program) (w : World) (K : PySem.W.Frag) (mg : Str → Option Value) (base : Heap) (k : Nat) (f : Addr) (fd : FuncData) (ps : List Str) (sp : Sp) : Prop where
  len : ∀ (vs : List V) H Q E, sp vs H Q E → vs.length = ps.length
  run : ∀ (A : Around) (outer : List PySem.Env) (s : Shared) (H : Hp) (args : Args) (us : List Value) (vs : List V) (Q : VK) (E : XK), Room k A → A.guards = some [] → Env0 P w K mg base A outer s H → BindsTo s fd args (ps.zip us) → Vals vs us → sp vs H Q E →
    codeAny (model P w) A (.call (.ref f) args) (CR (L2.CX P w) outer P w H s Q E) s
/-- x by the interpreter -/
def spF (K : PySem.W.Frag) (cl : Str → Addr) (call : CallF) (x : Str) : Sp := fun vs H Q E => ∃ C : Ct, C.K = K ∧ C.cl = cl ∧ C.V.call = call ∧ rn C E (fun as S => call x as C.V.n S) vs H Q

section
variable {X : Cx} {C : Ct} {W : WX} {k : Nat} {f : Addr} {fd : FuncData} {ps : List Str} {sp : Sp} {x : Str} {p pos : Pos} {e : Expr} {es : List Expr} {ies : Es}
theorem run_fnG {pins : List (Addr × Obj)} {σ : L2.St} {H : Hp} {s : Shared} {Q : VK} {us : List Value} {vs : List V} {E : XK} (G : FnG X.prog X.w X.K X.mg X.base k f fd ps sp) (hr : Room k X.A) (hg : X.A.guards = some []) (hb : Binds X.K fd ps []) (hx : PassesAt (L2.CX X.prog X.w) X σ E)
    (I : Inv X pins σ H s) (r : Vals vs us) (h : sp vs H Q E) : wpAny (model X.prog X.w) X.A (PySem.call (.ref f) us) (EP X pins σ Q) X.xe s := by
  have hl : us.length = ps.length := by rw [← r.length]; exact G.len _ _ _ _ h
  (have b := hb s us I.kIn (by rw [List.append_nil]; exact hl))
  rw [List.append_nil] at b
  refine wpAny_call (codeAny_mono (G.run X.A X.stack s H ⟨us, []⟩ us vs Q E hr hg I.env0 b r h) fun r s' hq => ?_)
  cases r with
  | error ex => exact hx pins H s ex s' I hq
  | ok fl =>
    cases fl with
    | ret u => exact I.after hq
    | next => exact False.elim hq
    | brk => exact False.elim hq
    | cont => exact False.elim hq
def tCallG (sp : Sp) (W : WX) (t : TA) : TE := fun σ H Q => t σ H fun vs H1 => sp vs H1 Q (WE W σ)
theorem pe_callG {t : TA} (G : FnG X.prog X.w X.K X.mg X.base k f fd ps sp) (hr : Room k X.A) (hgd : X.A.guards = some []) (hg : Gl X x) (hm : X.mg x = some (.ref f)) (hk : PySem.W.keepIn X.K (.ref f) = true) (hb : Binds X.K fd ps []) (tk : Takes X W)
    (ha : PA X (e :: es) t) (hdb : (x == ("__debug__" : Str)) = false) (he : starEach (e :: es) X.env = (false, eval e X.env) :: starEach es X.env) (hpl : (backTo pos (starEach es X.env)).any (·.1) = false) :
    PE X (.Call (.Name x p) (e :: es) [] pos) (tCallG sp W t) := by
  (refine ⟨fun pins s σ H Q I h => ?_⟩)
  (refine wpAny_Call_Name_kw (ld_glob I hg hm ?_ hdb))
  (refine PySem.W.callWith_K (h₀ := X.base) I.ok.mod.kin hk (thn (ha.run pos pins s σ H _ I h) fun us s1 ⟨vs, H1, I1, r, q⟩ => ⟨I1.kIn, ?_⟩) he hpl)
  exact run_fnG G hr hgd hb (passAt tk σ) I1 r q
theorem pe_callG0 (G : FnG X.prog X.w X.K X.mg X.base k f fd ps sp) (hr : Room k X.A) (hgd : X.A.guards = some []) (hg : Gl X x) (hm : X.mg x = some (.ref f)) (hk : PySem.W.keepIn X.K (.ref f) = true) (hb : Binds X.K fd ps []) (tk : Takes X W)
    (hdb : (x == ("__debug__" : Str)) = false) : PE X (.Call (.Name x p) [] [] pos) (tCallG sp W tNil) := by
  (refine ⟨fun pins s σ H Q I h => ?_⟩)
  (refine wpAny_Call_Name_kw (ld_glob I hg hm ?_ hdb))
  exact PySem.W.callWith_K0 I.kIn hk (run_fnG (us := []) G hr hgd hb (passAt tk σ) I .nil h)
theorem call_imp {σ : L2.St} {H : Hp} {Q : VK} (h : tE C W (.call x ies) σ H Q) : tCallG (spF C.K C.cl C.V.call x) W (tEs C W ies) σ H Q := by
  obtain ⟨F, m, S, L, rp, o, rl, h⟩ := h
  simp only [evE] at h
  exact ⟨F, m, S, L, rp, o, rl, h.unbind fun as S1 F1 m1 H1 vs s p rp1 o1 r1 h1 => ⟨C, rfl, rfl, rfl, F1, m1, S1, as, rp1, o1, r1, h1⟩⟩
theorem se_call (hK : C.K = X.K) (G : FnG X.prog X.w X.K X.mg X.base k f fd ps (spF X.K C.cl C.V.call x)) (hr : Room k X.A) (hgd : X.A.guards = some []) (hg : Gl X x) (hm : X.mg x = some (.ref f)) (hk : PySem.W.keepIn X.K (.ref f) = true) (hb : Binds X.K fd ps []) (tk : Takes X W)
    (ha : PA X (e :: es) (tEs C W ies)) (hdb : (x == ("__debug__" : Str)) = false) (he : starEach (e :: es) X.env = (false, eval e X.env) :: starEach es X.env) (hpl : (backTo pos (starEach es X.env)).any (·.1) = false) :
    PE X (.Call (.Name x p) (e :: es) [] pos) (tE C W (.call x ies)) := PE.imp (pe_callG (W := W) G hr hgd hg hm hk hb tk ha hdb he hpl) fun σ H Q h => by
  rw [← hK]
  exact call_imp h
theorem se_call0 (hK : C.K = X.K) (G : FnG X.prog X.w X.K X.mg X.base k f fd ps (spF X.K C.cl C.V.call x)) (hr : Room k X.A) (hgd : X.A.guards = some []) (hg : Gl X x) (hm : X.mg x = some (.ref f)) (hk : PySem.W.keepIn X.K (.ref f) = true) (hb : Binds X.K fd ps []) (tk : Takes X W)
    (hdb : (x == ("__debug__" : Str)) = false) : PE X (.Call (.Name x p) [] [] pos) (tE C W (.call x .nil)) := PE.imp (pe_callG0 (W := W) G hr hgd hg hm hk hb tk hdb) fun σ H Q h => by
  obtain ⟨F, m, S, L, rp, o, rl, h⟩ := call_imp h
  rw [← hK]
  simp only [evEs] at h
  exact Post.use (R := RDs C) (b := []) h rp o .nil
end

/-! ### own defs: what a body computes is what the def promises -/
theorem fnG_of {P : Program} {w : World} {K : PySem.W.Frag} {mg : Str → Option Value} {base : Heap} {k : Nat} {f : Addr} {name qual : Str} {params : Arguments} {body : List Stmt} {scope : Scope} {dV kV doc pm cdv ct oc : Value} {an od : Option Addr}
    {osl : Array (Option Value)} {N ps : List Str} {sp : Sp} (lk : K.lookup f = some ⟨oc, od, .func (PySem.W.fnOf name qual params body scope dV kV doc pm an cdv ct), osl⟩) (hcd : PySem.W.codeIn K cdv qual = true) (Sc : FnScope N ps scope)
    (len : ∀ (vs : List V) H Q E, sp vs H Q E → vs.length = ps.length)
    (hbody : ∀ (A : Around) (outer : List PySem.Env) (s : Shared) (H : Hp) (vs : List V) (Q : VK) (E : XK), Room k (A.deeper (envOfC qual scope s.heap.objs.size f cdv)) → (A.deeper (envOfC qual scope s.heap.objs.size f cdv)).guards = some [] → sp vs H Q E →
      ∃ t, PSs (cxOf (L2.CX P w) P w K mg base N qual scope f cdv A outer s H E) body t ∧ t { nx := fun _ H' => Q .non H', rt := Q } (L2.start N vs) H) :
    FnG P w K mg base (k + 1) f (PySem.W.fnOf name qual params body scope dV kV doc pm an cdv ct) ps sp := by
  refine ⟨len, fun A outer s H args us vs Q E hr hgd e0 hb r hsp => ?_⟩
  have hl := len _ _ _ _ hsp
  (have KX : K.In s.heap := e0.mod.kin.keeps fun b o e => (e0.bs b o e).1)
  (have lim : s.heap.NoLimit := e0.mod.nolimit.keeps fun b o e => (e0.bs b o e).1)
  have hkind : ∀ z ∈ ps.zip us, scope.names.lookup z.1 = some .local ∨ (scope.names.lookup z.1 = some .cell ∧ ((cellsFrom (s.heap.objs.size + 1) scope.names []).lookup z.1).isSome = true) := fun ⟨n, v⟩ hy => by
    rcases Sc.par n (List.of_mem_zip hy).1 with q | q
    · exact .inl q
    · (exact .inr ⟨q, PySem.W.cellsFrom_some _ _ _ (.inl q)⟩)
  refine codeAny_call_function hr.depth (KX _ _ lk) rfl Sc.co Sc.gen rfl (PySem.W.codeRec_of KX hcd) (hb _ _ _ _ ?_)
  refine wpAny_newFunctionEnv_cells Sc.kind hkind fun env he s1 x => ?_
  subst he
  (refine ⟨lim.keeps x.toInCall.keep, codeAny_func ?_⟩)
  obtain ⟨t, ht, hq⟩ := hbody A outer s H vs Q E (hr.deeper _) hgd hsp
  have I : Inv (cxOf (L2.CX P w) P w K mg base N qual scope f cdv A outer s H E) [] (L2.start N vs) H s1 := inv_start Sc hr.hd e0 hl r x
  (refine wpAny_mono (ht.run [] s1 (L2.start N vs) H _ I hq) (fun fl s' hs => ?_) fun e s' hs => hs)
  have fin : ∀ {σ' : L2.St} {H' : Hp} {v : V} {u : Value}, Inv (cxOf (L2.CX P w) P w K mg base N qual scope f cdv A outer s H E) [] σ' H' s' → RelV v u → Q v H' → CE outer P w H s Q u s' :=
    fun {_ H' v _} J rv hq => ⟨v, H', J.os, J.bare, J.base, J.hok, rv, hq⟩
  cases fl with
  | ret u =>
    (obtain ⟨v, σ', H', J, rv, q⟩ := hs)
    exact fin J rv q
  | next =>
    obtain ⟨σ', H', J, q⟩ := hs
    (exact fin (v := V.non) (u := Value.none) J rfl q)
  | brk =>
    obtain ⟨_, _, _, q⟩ := hs
    exact False.elim q
  | cont =>
    obtain ⟨_, _, _, q⟩ := hs
    exact False.elim q

/-! ### the interpreter's call and its body -/
theorem start_rel {K : PySem.W.Frag} {F : Hp} {m : Mw} {as : List D} {vs : List V} {N : List Str} {n ns : Nat} (r : Rels K F m as vs) (hn : as.length = n) (hN : N.length = ns) : RelL K F m (as.map some ++ List.replicate (ns - n) none) (L2.start N vs) := by
  subst hn hN
  refine ⟨?_, fun i d hd => ?_⟩
  · unfold L2.start
    rw [List.length_append, List.length_append, List.length_map, List.length_map, List.length_replicate, List.length_replicate, r.length]
  · have hi : i < as.length := by
      by_cases hi : i < as.length
      · exact hi
      · rw [List.getElem?_append_right (by simpa using hi), List.getElem?_replicate] at hd
        split at hd <;> cases hd
    rw [List.getElem?_append_left (by simpa using hi), List.getElem?_map] at hd
    cases e : as[i]? with
    | none => rw [e] at hd; cases hd
    | some a =>
      rw [e] at hd
      cases hd
      obtain ⟨v, h1, h2⟩ := r.get e
      refine ⟨v, ?_, h2⟩
      have hv : i < vs.length := by rw [← r.length]; exact hi
      unfold L2.start
      rw [List.getElem?_append_left (by simpa using hv), List.getElem?_map, h1]
      rfl
/-- what a body's ends are for the call -/
theorem ends_of {C : Ct} {E : XK} {F : Hp} {m : Mw} {Q : VK} {r : Res Out} (h : Post C E F m (RD C) (endK r) Q) : Post C (wa fun c d _ H => E c d H) F m (ROV C) r (ends { nx := fun _ H' => Q .non H', rt := Q }) := by
  cases r with
  | bad => exact h
  | exc c fs S => exact fun F' m' H' d s p rp od x _ => h F' m' H' d s p rp od x
  | ok o S =>
    cases o with
    | nx L =>
      intro F' m' H' b s p rp od r
      cases b with
      | nx σ => exact h F' m' H' .non s p rp od .non
      | _ => exact False.elim r
    | rt d =>
      intro F' m' H' b s p rp od r
      cases b with
      | rt v => exact h F' m' H' v s p rp od r
      | _ => exact False.elim r
    | bk L => exact False.elim h
    | ct L => exact False.elim h
/-- the callee's own base -/
def Ct.sub (C : Ct) (V : Env) : Ct := ⟨C.K, C.cl, V, fun n0 => (C.b n0 ∧ n0 ≤ V.n) ∨ n0 = V.n, fun n0 h => by
  rcases h with h | h
  · exact h.2
  · exact Nat.le_of_eq h⟩
theorem exc_res {K : PySem.W.Frag} {cl : Str → Addr} {F : Hp} {m : Mw} {S : Store} {H : Hp} {n : Nat} (R : Rep K cl F m S H) : ∀ {fs fs' : List (Str × D)} {vs : List (Str × V)}, Relf K F m fs vs → resF n S fs = some fs' → Relf K (frzF F H (m.ms.drop n)) ⟨m.ms.take n, m.G⟩ fs' vs
  | _, _, _, .nil, e => by
    simp only [resF, Option.some.injEq] at e
    subst e
    exact .nil
  | _, _, _, .cons q r, e => by
    simp only [resF] at e
    split at e
    · rename_i a b h1 h2
      cases e
      exact .cons (res_rel R q h1) (exc_res R r h2)
    · cases e
theorem Old.cut {n n0 : Nat} {S : Store} (h : Old n0 S) (hn : n0 ≤ n) : Old n0 (S.take n) := ⟨by
  have := h.1
  rw [List.length_take]
  omega, fun i o hi e => h.2 i o hi (by rw [take_get (by omega)] at e; exact e)⟩
theorem drop_of {C : Ct} {V : Env} {E : XK} {F : Hp} {m : Mw} {S : Store} {H : Hp} {Q : VK} {r : Res D} (rp : Rep C.K C.cl F m S H) (od : OldC C S) (hn : V.n = S.length) (h : Post C E F m (RD C) (dropR S.length r) Q) : Post (C.sub V) E F m (RD (C.sub V)) r Q := by
  have hms : m.ms.length = S.length := rp.len
  have pre : ∀ {m' : Mw}, Pre m m' → Pre m ⟨m'.ms.take S.length, m'.G⟩ := fun {m'} p => by
    obtain ⟨⟨t, ht⟩, h2⟩ := p
    refine ⟨⟨[], ?_⟩, h2⟩
    show m.ms ++ [] = m'.ms.take S.length
    rw [← ht, ← hms, List.take_left, List.append_nil]
  have old : ∀ {S' : Store}, OldC (C.sub V) S' → Old S.length S' ∧ OldC C (S'.take S.length) := fun {S'} o => by
    refine ⟨by rw [← hn]; exact o V.n (.inr rfl), fun n0 h0 => ?_⟩
    have hl : n0 ≤ S.length := (od n0 h0).1
    exact Old.cut (o n0 (.inl ⟨h0, by rw [hn]; exact hl⟩)) hl
  cases r with
  | bad => exact h
  | exc c fs S' =>
    intro F' m' H' d s p rp' o' x
    obtain ⟨o1, o2⟩ := old o'
    have L := Rep.leave rp' o1
    simp only [dropR] at h
    split at h
    · rename_i fs' hf
      refine h _ _ H' d (s.trans L.1) (pre p) L.2 o2 ?_
      rcases x with ⟨rfl, rfl⟩ | ⟨dd, vs, rfl, h1, h2⟩
      · simp only [resF, Option.some.injEq] at hf
        subst hf
        exact .inl ⟨rfl, rfl⟩
      · exact .inr ⟨dd, vs, rfl, L.1 _ _ h1, exc_res rp' h2 hf⟩
    · exact False.elim h
  | ok d S' =>
    intro F' m' H' v s p rp' o' q
    obtain ⟨o1, o2⟩ := old o'
    have L := Rep.leave rp' o1
    simp only [dropR] at h
    split at h
    · rename_i d' hd
      exact h _ _ H' v (s.trans L.1) (pre p) L.2 o2 (res_rel rp' q hd)
    · exact False.elim h

/-- one def: what is to be shown of its body -/
structure DefOk (P : Program) (w : World) (K : PySem.W.Frag) (mg : Str → Option Value) (base : Heap) (T : Tbl) (cl : Str → Addr) (Fn : Fn) (ps N : List Str) (body : List Stmt) (X0 : Nat → Cx → Prop) : Prop where
  np : ps.length = Fn.np
  ns : N.length = Fn.ns
  ok : ∀ (C : Ct) (W : WX) (k : Nat) (X : Cx), C.K = K → C.cl = cl → C.V.call = callI T k → C.V.con = T.con → Takes X W → PassesOwn (model X.prog X.w) X.A X.env X.xe → X0 k X → PSs X body (tS C W (exB C.V Fn.body))

theorem def_sound {P : Program} {w : World} {K : PySem.W.Frag} {mg : Str → Option Value} {base : Heap} {k : Nat} {f : Addr} {x name qual : Str} {params : Arguments} {body : List Stmt} {scope : Scope} {dV kV doc pm cdv ct oc : Value} {an od : Option Addr}
    {osl : Array (Option Value)} {N ps : List Str} {T : Tbl} {cl : Str → Addr} {Fd : Fn} {X0 : Nat → Cx → Prop} (lk : K.lookup f = some ⟨oc, od, .func (PySem.W.fnOf name qual params body scope dV kV doc pm an cdv ct), osl⟩) (hcd : PySem.W.codeIn K cdv qual = true) (Sc : FnScope N ps scope)
    (hT : T.fn x = some Fd) (D : DefOk P w K mg base T cl Fd ps N body X0)
    (hX : ∀ (A : Around) (outer : List PySem.Env) (s : Shared) (H : Hp) (E : XK), Room k (A.deeper (envOfC qual scope s.heap.objs.size f cdv)) → (A.deeper (envOfC qual scope s.heap.objs.size f cdv)).guards = some [] → X0 k (cxOf (L2.CX P w) P w K mg base N qual scope f cdv A outer s H E)) :
    FnG P w K mg base (k + 1) f (PySem.W.fnOf name qual params body scope dV kV doc pm an cdv ct) ps (spF K cl (callI T (k + 1)) x) := by
  have step : ∀ as n S, callI T (k + 1) x as n S = if as.length = Fd.np then
        if Fd.keep then endK (exB ⟨callI T k, T.con, n, T.wf⟩ Fd.body (as.map some ++ List.replicate (Fd.ns - Fd.np) none) S)
        else dropR S.length (endK (exB ⟨callI T k, T.con, S.length, T.wf⟩ Fd.body (as.map some ++ List.replicate (Fd.ns - Fd.np) none) S))
      else .bad := fun as n S => by simp only [callI, hT]
  refine fnG_of lk hcd Sc (fun vs H Q E h => ?_) fun A outer s H vs Q E hr hgd h => ?_
  · obtain ⟨C, _, _, _, F, m, S, as, rp, o, r, h⟩ := h
    simp only [step] at h
    split at h
    · rename_i hl
      rw [← r.length, hl, D.np]
    · exact False.elim h
  · obtain ⟨C, hK, hcl, _, F, m, S, as, rp, o, r, h⟩ := h
    simp only [step] at h
    split at h
    · rename_i hl
      have tk := takes_of (X := cxOf (L2.CX P w) P w K mg base N qual scope f cdv A outer s H E) (E := E) rfl rfl rfl rfl
      have hp := passes_of (X := cxOf (L2.CX P w) P w K mg base N qual scope f cdv A outer s H E) rfl
      have rl := start_rel (N := N) r hl D.ns
      split at h
      · refine ⟨_, D.ok ⟨C.K, C.cl, ⟨callI T k, T.con, C.V.n, T.wf⟩, C.b, C.hb⟩ _ k _ hK hcl rfl rfl tk hp (hX A outer s H E hr hgd), F, m, S, _, rp, o, rl, ?_⟩
        exact ends_of (C := ⟨C.K, C.cl, ⟨callI T k, T.con, C.V.n, T.wf⟩, C.b, C.hb⟩) h
      · refine ⟨_, D.ok (C.sub ⟨callI T k, T.con, S.length, T.wf⟩) _ k _ hK hcl rfl rfl tk hp (hX A outer s H E hr hgd), F, m, S, _, rp, fun n0 hn => ?_, rl, ?_⟩
        · rcases hn with hn | hn
          · exact o n0 hn.1
          · have e : n0 = S.length := hn
            rw [e]
            exact rp.old
        · exact ends_of (C := C.sub ⟨callI T k, T.con, S.length, T.wf⟩) (drop_of rp o rfl h)
    · exact False.elim h
end KI

/-! KC: the little language from the text: expressions. -/
namespace KI
open PySem PySem.Spec
open PyProof.Rows L2

/-- what the text's reading hangs on: the names' slots, the names of own defs, of built-ins, of constants, of own exceptions; the lists that are made in the store -/
structure CC where
  N : List Str
  own : List Str
  free : List Str
  cons : List Str
  exc : List Str
  fl : Pos → Bool

structure XOk (cc : CC) (sc : Scope) (C : Ct) (W : WX) (X : Cx) : Prop where
  hK : C.K = X.K
  scp : X.env.scope = sc
  N : X.N = cc.N
  nd : cc.N.Nodup
  calm : X.calm = true
  gds : X.A.guards = some []
  un : X.A.units + 100 < cLine
  fr : ∀ x ∈ cc.free, X.mg x = none
  own : ∀ x ∈ cc.own, ∃ k f fd ps, FnG X.prog X.w X.K X.mg X.base k f fd ps (spF X.K C.cl C.V.call x) ∧ Room k X.A ∧ X.mg x = some (.ref f) ∧ PySem.W.keepIn X.K (.ref f) = true ∧ Binds X.K fd ps []
  tk : Takes X W
  con : ∀ x ∈ cc.cons, ∃ v u, X.mg x = some u ∧ RelV v u ∧ ∀ d, C.V.con x = some d → ∀ F m, Rel C.K F m d v

def gd {α : Type} (b : Bool) (o : Option α) : Option α := match b with
  | true => o
  | false => none
theorem gd_some {α : Type} {b : Bool} {o : Option α} {x : α} (h : gd b o = some x) : b = true ∧ o = some x := by
  cases b with
  | true => exact ⟨rfl, h⟩
  | false => cases h
theorem bnd {α β : Type} {o : Option α} {f : α → Option β} {y : β} (h : o.bind f = some y) : ∃ a, o = some a ∧ f a = some y := Option.bind_eq_some_iff.mp h

abbrev RE := Scope → Expr → Option E
def nst : Expr → Bool
  | .Starred _ _ => false
  | _ => true
theorem star_cons {e : Expr} {es : List Expr} {env : PySem.Env} (h : nst e = true) : starEach (e :: es) env = (false, eval e env) :: starEach es env := by
  cases e with
  | Starred _ _ => cases h
  | _ => rfl
def nsts : List Expr → Bool
  | [] => true
  | e :: es => nst e && nsts es
theorem star_pl {pos : Pos} {env : PySem.Env} : ∀ {es : List Expr}, nsts es = true → (backTo pos (starEach es env)).any (·.1) = false
  | [], _ => rfl
  | e :: es, h => by
    simp only [nsts, Bool.and_eq_true] at h
    rw [star_cons h.1]
    have := star_pl (pos := pos) (env := env) h.2
    simp only [backTo, List.map_cons, List.any_cons, Bool.false_or] at this ⊢
    exact this
def cEs (r : RE) (sc : Scope) : List Expr → Option Es
  | [] => some .nil
  | e :: es => gd (nst e) ((r sc e).bind fun ie => (cEs r sc es).bind fun ies => some (.cons ie ies))
def isG (sc : Scope) (x : Str) : Bool := decide (sc.names.lookup x = some .globalImplicit) && !(x == ("__debug__" : Str))
def visB (sc : Scope) (x : Str) : Bool := match sc.names.lookup x with
  | some .local => true
  | some .cell => true
  | some .free => true
  | _ => false
def ixN? (N : List Str) (x : Str) : Option Nat := match N.findIdx? (fun y => decide (y = x)) with
  | some i => if N[i]? = some x then some i else none
  | none => none
theorem ixN_ok {N : List Str} {x : Str} {i : Nat} (h : ixN? N x = some i) : N[i]? = some x := by
  unfold ixN? at h
  split at h
  · obtain ⟨h1, h2⟩ := ite_some h
    subst h2
    exact h1
  · cases h
def cName (cc : CC) (sc : Scope) (x : Str) : Option E := match visB sc x with
  | true => gd (!(x == ("__debug__" : Str)) && !(x == ("__classdict__" : Str))) ((ixN? cc.N x).map .var)
  | false => gd (isG sc x && decide (x ∈ cc.cons)) (some (.glob x))
def cConst : Const → Option E
  | .none => some (.cst .non)
  | .bool b => some (.cst (.bl b))
  | .int i => some (.cst (.int i))
  | .str x => some (.cst (.str x))
  | _ => none
def bopOf : Operator → Option Bop
  | .Add => some .add | .Sub => some .sub | .Mult => some .mul | .FloorDiv => some .fdiv | .Mod => some .mod | .Pow => some .pow
  | _ => none
def cBool (r : RE) (sc : Scope) : BoolOp → List Expr → Option E
  | _, [] => none
  | _, [a] => r sc a
  | .And, a :: b :: rest => (r sc a).bind fun ia => (cBool r sc .And (b :: rest)).bind fun ib => some (.and ia ib)
  | .Or, a :: b :: rest => (r sc a).bind fun ia => (cBool r sc .Or (b :: rest)).bind fun ib => some (.or ia ib)
def cCmp : CmpOp → Expr → Option Cop
  | .Eq, _ => some .eq
  | .NotEq, _ => some .ne
  | .Lt, _ => some .lt
  | .LtE, _ => some .le
  | .Gt, _ => some .gt
  | .GtE, _ => some .ge
  | .Is, .Constant .none _ _ => some .isN
  | .IsNot, .Constant .none _ _ => some .notN
  | .Is, .Constant (.bool _) _ _ => some .isB
  | .IsNot, .Constant (.bool _) _ _ => some .notB
  | _, _ => none
theorem cCmp_ok {op : CmpOp} {e : Expr} {c : Cop} (h : cCmp op e = some c) : copOf c = op := by
  unfold cCmp at h
  split at h <;> first | (cases h; rfl) | cases h
def plainIx : Expr → Bool
  | .Slice _ _ _ _ => false
  | _ => true
theorem plainIx_ok {b : Expr} (h : plainIx b = true) : PlainIx b := by
  cases b with
  | Slice _ _ _ _ => cases h
  | _ => exact fun _ _ => rfl
def cOpt (r : RE) (sc : Scope) : Option Expr → Option E
  | none => some (.cst .non)
  | some e => (r sc e).bind fun ie => gd (!isCN ie) (some ie)
def biOf (x : Str) (n : Nat) : Option Bi :=
  if x = ("len" : Str) ∧ n = 1 then some .len else if x = ("sum" : Str) ∧ n = 1 then some .sum else if x = ("all" : Str) ∧ n = 1 then some .all else if x = ("any" : Str) ∧ n = 1 then some .any
  else if x = ("abs" : Str) ∧ n = 1 then some .abs else if x = ("max" : Str) ∧ n = 2 then some .max2 else if x = ("min" : Str) ∧ n = 2 then some .min2
  else if x = ("int" : Str) ∧ n = 1 then some .int else if x = ("repr" : Str) ∧ n = 1 then some .repr else if x = ("list" : Str) ∧ n = 1 then some .list else if x = ("tuple" : Str) ∧ n = 1 then some .tuple else none
theorem ite_some' {α : Type} {c : Prop} [Decidable c] {a : α} {o : Option α} {b : α} (h : (if c then some a else o) = some b) : (c ∧ a = b) ∨ o = some b := by
  split at h
  · rename_i hc
    exact .inl ⟨hc, Option.some.inj h⟩
  · exact .inr h
theorem biOf_ok {x : Str} {n : Nat} {b : Bi} (h : biOf x n = some b) : bootBuiltins x = some (biV b) ∧ x ≠ "__name__" ∧ ∀ t, b ≠ .isI t := by
  unfold biOf at h
  repeat' (rcases ite_some' h with ⟨⟨rfl, _⟩, rfl⟩ | h; exact ⟨by decide +kernel, by decide +kernel, fun _ => by simp⟩)
  cases h
def tyOf (y : Str) : Option Ty := if y = ("int" : Str) then some .int else if y = ("bool" : Str) then some .bool else if y = ("str" : Str) then some .str else if y = ("tuple" : Str) then some .tuple else if y = ("list" : Str) then some .list else none
theorem tyOf_ok {x : Str} {b : Ty} (h : tyOf x = some b) : bootBuiltins x = some (.type (tyN b)) ∧ x ≠ "__name__" := by
  unfold tyOf at h
  repeat' (rcases ite_some' h with ⟨rfl, rfl⟩ | h; exact ⟨by decide +kernel, by decide +kernel⟩)
  cases h
def isFree (cc : CC) (sc : Scope) (x : Str) : Bool := isG sc x && decide (x ∈ cc.free)
def cInst (cc : CC) (r : RE) (sc : Scope) : List Expr → Option E
  | [e, .Name y _] => gd (nst e && isFree cc sc y) ((r sc e).bind fun ie => (tyOf y).bind fun t => some (.bi false (.isI t) (.cons ie .nil)))
  | _ => none
def cBi (cc : CC) (r : RE) (sc : Scope) (x : Str) (pos : Pos) : List Expr → Option E
  | [] => none
  | e :: es => gd (nst e && nsts es) ((cEs r sc (e :: es)).bind fun ies => (biOf x (e :: es).length).bind fun b => some (.bi (cc.fl pos) b ies))
def cCall (cc : CC) (r : RE) (sc : Scope) (x : Str) (es : List Expr) (pos : Pos) : Option E := match isG sc x with
  | true => match decide (x ∈ cc.own) with
    | true => gd (nsts es) ((cEs r sc es).bind fun ies => some (.call x ies))
    | false => gd (decide (x ∈ cc.free)) (match decide (x = ("isinstance" : Str)) with
      | true => cInst cc r sc es
      | false => cBi cc r sc x pos es)
  | false => none
def notCall : Expr → Bool
  | .Call _ _ _ _ => false
  | _ => true
theorem notCall_ok {o : Expr} {name : Str} {env : PySem.Env} (h : notCall o = true) : attributeBase o name env (eval o env) = eval o env := by
  cases o with
  | Call _ _ _ _ => cases h
  | _ => rfl
def cMeth (cc : CC) (r : RE) (sc : Scope) (o : Expr) (m : Str) (apos pos : Pos) (es : List Expr) : Option E := gd (notCall o && (apos.endLine == pos.line)) ((r sc o).bind fun io => match es with
  | [] => if m = ("pop" : Str) then some (.bm (cc.fl pos) .pop0 io .nil) else if m = ("clear" : Str) then some (.bm (cc.fl pos) .clear io .nil) else none
  | [e] => gd (nst e) ((r sc e).bind fun ie => if m = ("append" : Str) then some (.bm (cc.fl pos) .append io (.cons ie .nil)) else if m = ("pop" : Str) then some (.bm (cc.fl pos) .pop1 io (.cons ie .nil)) else none)
  | _ => none)

/-! ### comprehensions -/
def rlS (scope sc : Scope) : Scope := { scope with names := scope.names.map fun (n, k) => if (k == .free && sc.kind == .function && sc.names.lookup n == some .cell) then (n, .cell) else (n, k) }
def tgNames : Expr → Option (List Str)
  | .Name x _ => some [x]
  | .Tuple [.Name x _, .Name y _] _ _ => some [x, y]
  | .Tuple [.Name x _, .Name y _, .Name z _] _ _ => some [x, y, z]
  | _ => none
def ixs (N : List Str) : List Str → Option (List Nat)
  | [] => some []
  | x :: xs => (ixN? N x).bind fun i => (ixs N xs).bind fun is => some (i :: is)
def isTup : Expr → Bool
  | .Tuple _ _ _ => true
  | _ => false
def notSet : Expr → Bool
  | .Set _ _ _ => false
  | _ => true
theorem notSet_ok {e : Expr} {env : PySem.Env} (h : notSet e = true) : ∀ x, foldedSetIterable e env x = pure x := by
  cases e with
  | Set _ _ _ => cases h
  | _ => exact fun _ => rfl
def cItC (cc : CC) (r : RE) (sc : Scope) (tg : Expr) (f : Str) (es : List Expr) : Option It := match es with
  | [a] => gd (nst a) (if f = ("range" : Str) then (r sc a).bind fun ia => some (.rng1 ia) else if f = ("enumerate" : Str) then gd (isTup tg) ((r sc a).bind fun ia => some (.enum ia)) else none)
  | [a, b] => gd (nst a && nst b) (if f = ("range" : Str) then (r sc a).bind fun ia => (r sc b).bind fun ib => some (.rng2 ia ib) else if f = ("zip" : Str) then gd (isTup tg) ((r sc a).bind fun ia => (r sc b).bind fun ib => some (.zip ia ib)) else none)
  | _ => none
def cIt (cc : CC) (r : RE) (sc : Scope) (tg : Expr) (e : Expr) : Option It := match e with
  | .Call (.Name f p) es [] pos => (match isFree cc sc f && decide (f ∈ [("range" : Str), ("enumerate" : Str), ("zip" : Str)]) with
    | true => cItC cc r sc tg f es
    | false => (r sc (.Call (.Name f p) es [] pos)).map .seq)
  | e => gd (notSet e) ((r sc e).map .seq)
def locB (sc : Scope) (x : Str) : Bool := match sc.names.lookup x with
  | some .local => true
  | some .cell => true
  | _ => false
def cIfs (r : RE) (sc : Scope) : List Expr → Option E
  | [] => some (.cst (.bl true))
  | [c] => r sc c
  | _ => none
def isIf : Expr → Bool
  | .IfExp _ _ _ _ => true
  | _ => false
def cLc (cc : CC) (r : RE) (sc : Scope) (elt tg iter : Expr) (ifs : List Expr) (scope : Scope) (pos : Pos) : Option E := (tgNames tg).bind fun xs => (ixs cc.N xs).bind fun is =>
  gd (blkC cc.N sc scope (xs.zip is) && (xs.all (fun x => locB (rlS scope sc) x && locB scope x) && (decide (xs.length = is.length) && ifs.all fun c => !isIf c)))
    ((cIt cc r sc tg iter).bind fun it => (cIfs r (rlS scope sc) ifs).bind fun ic => (r (rlS scope sc) elt).bind fun ie => some (.lc (cc.fl pos) is it ic ie))

/-! ### one step -/
def cSub (cc : CC) (r : RE) (sc : Scope) (a b : Expr) (pos : Pos) : Option E := match b with
  | .Slice lo hi none _ => (r sc a).bind fun ia => (cOpt r sc lo).bind fun il => (cOpt r sc hi).bind fun ih => some (.slice (cc.fl pos) ia il ih)
  | b => gd (plainIx b) ((r sc a).bind fun ia => (r sc b).bind fun ib => some (.idx ia ib))
def cCompare (r : RE) (sc : Scope) (a : Expr) : List CmpOp → List Expr → Option E
  | [op], [b] => gd (!behindInMarks op b) ((r sc a).bind fun ia => (r sc b).bind fun ib => (cCmp op b).bind fun c => some (.cmp c ia ib))
  | [op, op2], [b, d] => gd (!lastMarks [op, op2] [b, d]) ((r sc a).bind fun ia => (r sc b).bind fun ib => (r sc d).bind fun id => (cCmp op b).bind fun c => (cCmp op2 d).bind fun c2 => some (.chain c c2 ia ib id))
  | _, _ => none
def cUn (r : RE) (sc : Scope) (op : UnaryOp) (a : Expr) : Option E := match op with
  | .Not => gd (!isIf a) ((r sc a).bind fun ia => some (.un .not ia))
  | .USub => (r sc a).bind fun ia => some (.un .neg ia)
  | .Invert => (r sc a).bind fun ia => some (.un .inv ia)
  | _ => none
def cGens (cc : CC) (r : RE) (sc : Scope) (elt : Expr) (gs : List Comprehension) (scope : Scope) (pos : Pos) : Option E := match gs with
  | [⟨tg, iter, ifs, k⟩] => gd (decide (k = 0)) (cLc cc r sc elt tg iter ifs scope pos)
  | _ => none
def cCalls (cc : CC) (r : RE) (sc : Scope) (f : Expr) (es : List Expr) (kws : List Keyword) (pos : Pos) : Option E := match kws with
  | [] => (match f with
    | .Name x _ => cCall cc r sc x es pos
    | .Attribute o m apos => cMeth cc r sc o m apos pos es
    | _ => none)
  | _ => none
def stepE (cc : CC) (r : RE) (sc : Scope) : Expr → Option E
  | .Name x _ => cName cc sc x
  | .Constant c _ _ => cConst c
  | .BinOp a op b pos => (bopOf op).bind fun o => (r sc a).bind fun ia => (r sc b).bind fun ib => some (.bin (cc.fl pos) o ia ib)
  | .UnaryOp op a _ => cUn r sc op a
  | .BoolOp op es _ => gd (es.all fun c => !isIf c) (cBool r sc op es)
  | .Compare a ops bs _ => cCompare r sc a ops bs
  | .IfExp c a b _ => gd (!isIf c) ((r sc c).bind fun ic => (r sc a).bind fun ia => (r sc b).bind fun ib => some (.ife ic ia ib))
  | .Tuple es _ _ => (cEs r sc es).map .tup
  | .List es pos => (cEs r sc es).map (.lst (cc.fl pos))
  | .Subscript a b pos => cSub cc r sc a b pos
  | .Call f es kws pos => cCalls cc r sc f es kws pos
  | .ListComp elt gs scope pos => cGens cc r sc elt gs scope pos
  | _ => none
def cE (cc : CC) : Nat → RE
  | 0 => fun _ _ => none
  | n + 1 => stepE cc (cE cc n)

/-! ### it is the text's meaning -/
def GoodE (cc : CC) (r : RE) : Prop := ∀ sc e ie, r sc e = some ie → ∀ C W X, XOk cc sc C W X → PE X e (tE C W ie) ∧ (isIf e = false → PT X e (tTst C W ie))

section
variable {cc : CC} {r : RE} {sc : Scope} {C : Ct} {W : WX} {X : Cx}
theorem XOk.gl (x : XOk cc sc C W X) {y : Str} (h : isG sc y = true) : Gl X y ∧ (y == ("__debug__" : Str)) = false := by
  unfold isG at h
  simp only [Bool.and_eq_true, decide_eq_true_eq, Bool.not_eq_true'] at h
  refine ⟨?_, h.2⟩
  show X.env.scope.names.lookup y = _
  rw [x.scp]
  exact h.1
theorem XOk.vis (x : XOk cc sc C W X) {y : Str} (h : visB sc y = true) : Vis X.env.scope y := by
  unfold visB at h
  rw [x.scp]
  split at h
  · exact .inl (by assumption)
  · exact .inr (.inl (by assumption))
  · exact .inr (.inr (by assumption))
  · cases h
theorem XOk.loc (x : XOk cc sc C W X) {y : Str} (h : locB sc y = true) : Loc X.env.scope y := by
  unfold locB at h
  rw [x.scp]
  split at h
  · exact .inl (by assumption)
  · exact .inr (by assumption)
  · cases h
theorem XOk.fre (x : XOk cc sc C W X) {y : Str} (h : isFree cc sc y = true) : Gl X y ∧ (y == ("__debug__" : Str)) = false ∧ X.mg y = none := by
  unfold isFree at h
  (simp only [Bool.and_eq_true, decide_eq_true_eq] at h)
  exact ⟨(x.gl h.1).1, (x.gl h.1).2, x.fr y h.2⟩
theorem sound_es (g : GoodE cc r) (x : XOk cc sc C W X) : ∀ {es : List Expr} {ies : Es}, cEs r sc es = some ies → PA X es (tEs C W ies)
  | [], ies, h => by
    cases h
    exact sa_nil
  | e :: es, ies, h => by
    unfold cEs at h
    obtain ⟨h1, h⟩ := gd_some h
    obtain ⟨ie, h2, h⟩ := bnd h
    obtain ⟨ies', h3, h⟩ := bnd h
    cases h
    exact sa_cons (g sc e ie h2 C W X x).1 (sound_es g x h3) (star_cons h1)
theorem sound_name {y : Str} {ie : E} {p : Pos} (x : XOk cc sc C W X) (h : cName cc sc y = some ie) : PE X (.Name y p) (tE C W ie) := by
  unfold cName at h
  split at h
  · rename_i hv
    obtain ⟨h1, h⟩ := gd_some h
    simp only [Bool.and_eq_true, Bool.not_eq_true'] at h1
    rw [Option.map_eq_some_iff] at h
    obtain ⟨i, hi, rfl⟩ := h
    exact se_var (by rw [x.N]; exact ixN_ok hi) (x.vis hv) h1.1 h1.2
  · obtain ⟨h1, h⟩ := gd_some h
    (simp only [Bool.and_eq_true, decide_eq_true_eq] at h1)
    cases h
    obtain ⟨v, u, e1, e2, e3⟩ := x.con y h1.2
    exact se_glob (x.gl h1.1).1 e1 e2 (x.gl h1.1).2 e3
theorem sound_const {c : Const} {ie : E} {k : Nat} {p : Pos} (h : cConst c = some ie) : PE X (.Constant c k p) (tE C W ie) := by
  unfold cConst at h
  split at h
  · cases h
    exact se_c pe_non fun _ _ => .non
  · cases h
    exact se_c pe_bl fun _ _ => .bl _
  · cases h
    exact se_c pe_int fun _ _ => .int _
  · cases h
    exact se_c pe_str fun _ _ => .str _
  · cases h
theorem sound_bool (g : GoodE cc r) (x : XOk cc sc C W X) {p : Pos} : ∀ {op : BoolOp} {es : List Expr} {ie : E}, cBool r sc op es = some ie → (es.all fun c => !isIf c) = true → PE X (.BoolOp op es p) (tE C W ie) ∧ PW X (.BoolOp op es p) (tTst C W ie)
  | _, [], _, h, _ => by unfold cBool at h; cases h
  | .And, [a], ie, h, hi => by
    unfold cBool at h
    simp only [List.all_cons, List.all_nil, Bool.and_true, Bool.not_eq_true'] at hi
    exact ⟨pe_one (g sc a ie h C W X x).1, pw_and1 ((g sc a ie h C W X x).2 hi)⟩
  | .Or, [a], ie, h, hi => by
    unfold cBool at h
    simp only [List.all_cons, List.all_nil, Bool.and_true, Bool.not_eq_true'] at hi
    exact ⟨pe_one (g sc a ie h C W X x).1, pw_or1 ((g sc a ie h C W X x).2 hi)⟩
  | .And, a :: b :: rest, ie, h, hi => by
    unfold cBool at h
    rw [List.all_cons, Bool.and_eq_true, Bool.not_eq_true'] at hi
    obtain ⟨ia, h1, h⟩ := bnd h
    obtain ⟨ib, h2, h⟩ := bnd h
    cases h
    have k := sound_bool g x (p := p) h2 hi.2
    exact ⟨se_and (g sc a ia h1 C W X x).1 k.1, sw_and ((g sc a ia h1 C W X x).2 hi.1) k.2⟩
  | .Or, a :: b :: rest, ie, h, hi => by
    unfold cBool at h
    rw [List.all_cons, Bool.and_eq_true, Bool.not_eq_true'] at hi
    obtain ⟨ia, h1, h⟩ := bnd h
    obtain ⟨ib, h2, h⟩ := bnd h
    cases h
    have k := sound_bool g x (p := p) h2 hi.2
    exact ⟨se_or (g sc a ia h1 C W X x).1 k.1, sw_or ((g sc a ia h1 C W X x).2 hi.1) k.2⟩
theorem sound_opt (g : GoodE cc r) (x : XOk cc sc C W X) {o : Option Expr} {ie : E} (h : cOpt r sc o = some ie) : PO X o (tO C W ie) := by
  cases o with
  | none =>
    cases h
    exact so_none
  | some e =>
    unfold cOpt at h
    obtain ⟨ie', h1, h⟩ := bnd h
    obtain ⟨h2, h⟩ := gd_some h
    cases h
    simp only [Bool.not_eq_true'] at h2
    exact so_some (g sc e _ h1 C W X x).1 h2
theorem sound_sub (g : GoodE cc r) (x : XOk cc sc C W X) {a b : Expr} {p : Pos} {ie : E} (h : cSub cc r sc a b p = some ie) : PE X (.Subscript a b p) (tE C W ie) := by
  unfold cSub at h
  split at h
  · obtain ⟨ia, h1, h⟩ := bnd h
    obtain ⟨il, h2, h⟩ := bnd h
    obtain ⟨ih, h3, h⟩ := bnd h
    cases h
    exact se_slice x.hK (g sc a ia h1 C W X x).1 (sound_opt g x h2) (sound_opt g x h3)
  · obtain ⟨h0, h⟩ := gd_some h
    obtain ⟨ia, h1, h⟩ := bnd h
    obtain ⟨ib, h2, h⟩ := bnd h
    cases h
    exact se_idx x.hK (g sc a ia h1 C W X x).1 (g sc _ ib h2 C W X x).1 (plainIx_ok h0)
theorem sound_cmp (g : GoodE cc r) (x : XOk cc sc C W X) {a : Expr} {ops : List CmpOp} {bs : List Expr} {p : Pos} {ie : E} (h : cCompare r sc a ops bs = some ie) : PE X (.Compare a ops bs p) (tE C W ie) ∧ PT X (.Compare a ops bs p) (tTst C W ie) := by
  have hu : X.A.units + 64 < cLine := by have := x.un; omega
  unfold cCompare at h
  split at h
  · obtain ⟨h0, h⟩ := gd_some h
    obtain ⟨ia, h1, h⟩ := bnd h
    obtain ⟨ib, h2, h⟩ := bnd h
    obtain ⟨c, h3, h⟩ := bnd h
    cases h
    have e := cCmp_ok h3
    subst e
    simp only [Bool.not_eq_true'] at h0
    exact ⟨se_cmp x.hK hu (g sc _ _ h1 C W X x).1 (g sc _ _ h2 C W X x).1 h0, st_cmp x.hK hu (g sc _ _ h1 C W X x).1 (g sc _ _ h2 C W X x).1 h0⟩
  · obtain ⟨h0, h⟩ := gd_some h
    obtain ⟨ia, h1, h⟩ := bnd h
    obtain ⟨ib, h2, h⟩ := bnd h
    obtain ⟨id, h3, h⟩ := bnd h
    obtain ⟨c, h4, h⟩ := bnd h
    obtain ⟨c2, h5, h⟩ := bnd h
    cases h
    have e := cCmp_ok h4
    have e2 := cCmp_ok h5
    subst e e2
    simp only [Bool.not_eq_true'] at h0
    exact ⟨se_chain x.hK hu (g sc _ _ h1 C W X x).1 (g sc _ _ h2 C W X x).1 (g sc _ _ h3 C W X x).1 h0, st_chain x.hK hu (g sc _ _ h1 C W X x).1 (g sc _ _ h2 C W X x).1 (g sc _ _ h3 C W X x).1 h0⟩
  · cases h
theorem sound_un (g : GoodE cc r) (x : XOk cc sc C W X) {op : UnaryOp} {a : Expr} {p : Pos} {ie : E} (h : cUn r sc op a = some ie) : PE X (.UnaryOp op a p) (tE C W ie) ∧ PT X (.UnaryOp op a p) (tTst C W ie) := by
  unfold cUn at h
  split at h
  · obtain ⟨h0, h⟩ := gd_some h
    obtain ⟨ia, h1, h⟩ := bnd h
    cases h
    simp only [Bool.not_eq_true'] at h0
    exact ⟨se_not (g sc _ _ h1 C W X x).1, st_not ((g sc _ _ h1 C W X x).2 h0)⟩
  · obtain ⟨ia, h1, h⟩ := bnd h
    cases h
    exact ⟨se_neg (g sc _ _ h1 C W X x).1, st_val (se_neg (g sc _ _ h1 C W X x).1) fun _ => rfl⟩
  · obtain ⟨ia, h1, h⟩ := bnd h
    cases h
    exact ⟨se_inv (g sc _ _ h1 C W X x).1, st_val (se_inv (g sc _ _ h1 C W X x).1) fun _ => rfl⟩
  · cases h
theorem sound_call (g : GoodE cc r) (x : XOk cc sc C W X) {f : Str} {es : List Expr} {p pos : Pos} {ie : E} (h : cCall cc r sc f es pos = some ie) : PE X (.Call (.Name f p) es [] pos) (tE C W ie) := by
  unfold cCall at h
  split at h
  · rename_i hG
    obtain ⟨G, dbg⟩ := x.gl hG
    split at h
    · rename_i ho
      obtain ⟨h0, h⟩ := gd_some h
      obtain ⟨ies, h1, h⟩ := bnd h
      cases h
      obtain ⟨k, fa, fd, ps, F, hr, hm, hk, hb⟩ := x.own f (of_decide_eq_true ho)
      cases es with
      | nil =>
        cases h1
        exact se_call0 x.hK F hr x.gds G hm hk hb x.tk dbg
      | cons e es =>
        simp only [nsts, Bool.and_eq_true] at h0
        exact se_call x.hK F hr x.gds G hm hk hb x.tk (sound_es g x h1) dbg (star_cons h0.1) (star_pl h0.2)
    · obtain ⟨hf, h⟩ := gd_some h
      have hm := x.fr f (of_decide_eq_true hf)
      split at h
      · rename_i hi
        unfold cInst at h
        split at h
        · obtain ⟨h0, h⟩ := gd_some h
          obtain ⟨ia, h1, h⟩ := bnd h
          obtain ⟨t, h2, h⟩ := bnd h
          cases h
          (simp only [Bool.and_eq_true] at h0)
          obtain ⟨Gy, dy, my⟩ := x.fre h0.2
          obtain ⟨b1, b2⟩ := tyOf_ok h2
          exact se_isI x.hK G hm (of_decide_eq_true hi) Gy my b1 b2 dy (g sc _ _ h1 C W X x).1 (star_cons h0.1)
        · cases h
      · unfold cBi at h
        split at h
        · cases h
        · obtain ⟨h0, h⟩ := gd_some h
          obtain ⟨ies, h1, h⟩ := bnd h
          obtain ⟨b, h2, h⟩ := bnd h
          cases h
          (simp only [Bool.and_eq_true] at h0)
          obtain ⟨b1, b2, b3⟩ := biOf_ok h2
          exact se_bi x.hK x.calm x.gds x.un b3 G hm b1 (sound_es g x h1) b2 dbg (star_cons h0.1) (star_pl h0.2)
  · cases h
theorem few1 {e : Expr} {pos : Pos} {env : PySem.Env} (h : nst e = true) : ((backTo pos (starEach [e] env)).all (fun x => !x.1) && (backToKw pos (keywordEach [] env)).all (fun x => x.1.isSome)
      && decide (([e] : List Expr).length + ([] : List Keyword).length + (if ([] : List Keyword).isEmpty then 0 else 1) < 30)) = true := by
  rw [star_cons h]
  rfl
theorem sound_meth (g : GoodE cc r) (x : XOk cc sc C W X) {o : Expr} {m : Str} {es : List Expr} {apos pos : Pos} {ie : E} (h : cMeth cc r sc o m apos pos es = some ie) : PE X (.Call (.Attribute o m apos) es [] pos) (tE C W ie) := by
  unfold cMeth at h
  obtain ⟨h0, h⟩ := gd_some h
  obtain ⟨io, h1, h⟩ := bnd h
  rw [Bool.and_eq_true] at h0
  have ho := (g sc _ _ h1 C W X x).1
  split at h
  · rcases ite_some' h with ⟨rfl, rfl⟩ | h
    · exact se_bm0 (id := "list.pop") PySem.F.slot_list_pop rfl (fun _ => mt_pop0) ho (notCall_ok h0.1) h0.2
    · obtain ⟨rfl, rfl⟩ := ite_some h
      exact se_bm0 (id := "list.clear") PySem.F.slot_list_clear rfl (fun _ => mt_clr) ho (notCall_ok h0.1) h0.2
  · obtain ⟨h2, h⟩ := gd_some h
    obtain ⟨ia, h3, h⟩ := bnd h
    have ha := sa_cons (g sc _ _ h3 C W X x).1 (sa_nil (X := X) (C := C) (W := W)) (star_cons h2)
    rcases ite_some' h with ⟨rfl, rfl⟩ | h
    · exact se_bm (id := "list.append") slot_list_append rfl (fun _ => mt_app) ho ha x.hK (notCall_ok h0.1) (few1 h2) h0.2 (star_cons h2) rfl
    · obtain ⟨rfl, rfl⟩ := ite_some h
      exact se_bm (id := "list.pop") PySem.F.slot_list_pop rfl (fun _ => mt_popk) ho ha x.hK (notCall_ok h0.1) (few1 h2) h0.2 (star_cons h2) rfl
  · cases h
end
end KI

/-! KD: the little language from the text: comprehensions, statements. -/
namespace KI
open PySem PySem.Spec
open PyProof.Rows L2
section
variable {cc : CC} {r : RE} {sc : Scope} {C : Ct} {W : WX} {X : Cx}
theorem rlS_eq {scope : Scope} {env : PySem.Env} (h : env.scope = sc) : relabel scope env = rlS scope sc := by
  subst h
  rfl
theorem XOk.blk (x : XOk cc sc C W X) {s : Shared} {H : Hp} {scope : Scope} {cl : List (Str × Addr)} {A : Addr} {fp : List Addr} : XOk cc (rlS scope sc) C W0 (X.blk s H scope (compEnvC scope cl A X.env) fp) :=
  ⟨x.hK, rlS_eq x.scp, x.N, x.nd, x.calm, x.gds, x.un, x.fr, x.own, fun u s' q => by
    obtain ⟨a, B, sI, pins, σ, H, cls, d, _, _, _, _, _, _, _, _, w⟩ := q
    exact w, x.con⟩
theorem sound_tg (x : XOk cc sc C W X) (hn : X.N.Nodup) {tg : Expr} {xs : List Str} {is : List Nat} (h1 : tgNames tg = some xs) (h2 : ixs cc.N xs = some is) (hl : ∀ y ∈ xs, locB sc y = true) (hf : ∀ y ∈ xs, X.fn y = true ∨ X.env.scope.names.lookup y = some .local) :
    ∃ g, PG X tg g ∧ TgL C g is := by
  unfold tgNames at h1
  split at h1
  · cases h1
    unfold ixs at h2
    obtain ⟨i, e1, h2⟩ := bnd h2
    obtain ⟨js, e2, h2⟩ := bnd h2
    cases e2
    cases h2
    exact ⟨_, pg_name hn (by rw [x.N]; exact ixN_ok e1) (x.loc (hl _ (by simp))) (hf _ (by simp)), tg_one i⟩
  · cases h1
    unfold ixs ixs at h2
    obtain ⟨i, e1, h2⟩ := bnd h2
    obtain ⟨js, e2, h2⟩ := bnd h2
    obtain ⟨j, e3, e2⟩ := bnd e2
    obtain ⟨ks, e4, e2⟩ := bnd e2
    cases e4
    cases e2
    cases h2
    exact ⟨_, pg_tup x.calm (pgs_cons (pg_name hn (by rw [x.N]; exact ixN_ok e1) (x.loc (hl _ (by simp))) (hf _ (by simp))) (pgs_cons (pg_name hn (by rw [x.N]; exact ixN_ok e3) (x.loc (hl _ (by simp))) (hf _ (by simp))) pgs_nil)), tg_two x.hK i j⟩
  · cases h1
    unfold ixs ixs ixs at h2
    obtain ⟨i, e1, h2⟩ := bnd h2
    obtain ⟨js, e2, h2⟩ := bnd h2
    obtain ⟨j, e3, e2⟩ := bnd e2
    obtain ⟨ks, e4, e2⟩ := bnd e2
    obtain ⟨k, e5, e4⟩ := bnd e4
    obtain ⟨ls, e6, e4⟩ := bnd e4
    cases e6
    cases e4
    cases e2
    cases h2
    exact ⟨_, pg_tup x.calm (pgs_cons (pg_name hn (by rw [x.N]; exact ixN_ok e1) (x.loc (hl _ (by simp))) (hf _ (by simp))) (pgs_cons (pg_name hn (by rw [x.N]; exact ixN_ok e3) (x.loc (hl _ (by simp))) (hf _ (by simp)))
      (pgs_cons (pg_name hn (by rw [x.N]; exact ixN_ok e5) (x.loc (hl _ (by simp))) (hf _ (by simp))) pgs_nil))), tg_three x.hK i j k⟩
  · cases h1
theorem ite_someO {α : Type} {c : Prop} [Decidable c] {o : Option α} {b : α} (h : (if c then o else none) = some b) : c ∧ o = some b := by
  split at h
  · rename_i hc
    exact ⟨hc, h⟩
  · cases h
theorem star1 {e : Expr} {env : PySem.Env} (h : nst e = true) : starEach [e] env = [(false, eval e env)] := star_cons h
theorem star2 {e e' : Expr} {env : PySem.Env} (h : nst e = true) (h' : nst e' = true) : starEach [e, e'] env = [(false, eval e env), (false, eval e' env)] := by
  rw [star_cons h, star1 h']
theorem sound_seq (g : GoodE cc r) (x : XOk cc sc C W X) {tg e : Expr} {it : It} (h : (r sc e).map It.seq = some it) : PI X tg e (tIt C W it) := by
  rw [Option.map_eq_some_iff] at h
  obtain ⟨ie, h1, rfl⟩ := h
  exact si_seq x.hK (g sc _ _ h1 C W X x).1
theorem isTup_ok {tg : Expr} (h : isTup tg = true) : ∃ es k p, tg = .Tuple es k p := by
  cases tg with
  | Tuple es k p => exact ⟨es, k, p, rfl⟩
  | _ => cases h
theorem sound_itC (g : GoodE cc r) (x : XOk cc sc C W X) {tg : Expr} {f : Str} {p pos : Pos} {es : List Expr} {it : It} (G : Gl X f) (hm : X.mg f = none) (h : cItC cc r sc tg f es = some it) : PI X tg (.Call (.Name f p) es [] pos) (tIt C W it) := by
  unfold cItC at h
  split at h
  · have hh := gd_some h
    clear h
    obtain ⟨h0, h⟩ := hh
    split at h
    · rename_i e
      subst e
      obtain ⟨ia, h1, h⟩ := bnd h
      cases h
      exact si_rng1 G hm (g sc _ _ h1 C W X x).1 (star1 h0)
    · obtain ⟨rfl, h⟩ := ite_someO h
      obtain ⟨ht, h⟩ := gd_some h
      obtain ⟨ia, h1, h⟩ := bnd h
      cases h
      obtain ⟨es, k, q, rfl⟩ := isTup_ok ht
      exact si_enum x.hK G hm (g sc _ _ h1 C W X x).1 (star1 h0)
  · have hh := gd_some h
    clear h
    obtain ⟨h0, h⟩ := hh
    rw [Bool.and_eq_true] at h0
    split at h
    · rename_i e
      subst e
      obtain ⟨ia, h1, h⟩ := bnd h
      obtain ⟨ib, h2, h⟩ := bnd h
      cases h
      exact si_rng2 G hm (g sc _ _ h1 C W X x).1 (g sc _ _ h2 C W X x).1 (star2 h0.1 h0.2) (star1 h0.2)
    · obtain ⟨rfl, h⟩ := ite_someO h
      obtain ⟨ht, h⟩ := gd_some h
      obtain ⟨ia, h1, h⟩ := bnd h
      obtain ⟨ib, h2, h⟩ := bnd h
      cases h
      obtain ⟨es, k, q, rfl⟩ := isTup_ok ht
      exact si_zip x.hK G hm (g sc _ _ h1 C W X x).1 (g sc _ _ h2 C W X x).1 (star_cons h0.1) (star_cons h0.2) (star_pl (by simp [nsts, h0.2]))
  · cases h
theorem sound_it (g : GoodE cc r) (x : XOk cc sc C W X) {tg e : Expr} {it : It} (h : cIt cc r sc tg e = some it) : PI X tg e (tIt C W it) ∧ ∀ v, foldedSetIterable e X.env v = pure v := by
  unfold cIt at h
  split at h
  · refine ⟨?_, fun _ => rfl⟩
    split at h
    · rename_i hf
      rw [Bool.and_eq_true] at hf
      obtain ⟨G, _, hm⟩ := x.fre hf.1
      exact sound_itC g x G hm h
    · exact sound_seq g x h
  · obtain ⟨h0, h⟩ := gd_some h
    exact ⟨sound_seq g x h, notSet_ok h0⟩
theorem ixs_len {N : List Str} : ∀ {xs : List Str} {is : List Nat}, ixs N xs = some is → xs.length = is.length
  | [], _, h => by
    cases h
    rfl
  | y :: ys, _, h => by
    unfold ixs at h
    obtain ⟨i, e1, h⟩ := bnd h
    obtain ⟨js, e2, h⟩ := bnd h
    cases h
    rw [List.length_cons, List.length_cons, ixs_len e2]
theorem sound_ifs (g : GoodE cc r) {cs : List Expr} {ic : E} (x : XOk cc sc C W X) (h : cIfs r sc cs = some ic) (hi : (cs.all fun c => !isIf c) = true) : PTs X cs (tTst C W ic) := by
  unfold cIfs at h
  split at h
  · cases h
    exact sts_nil
  · simp only [List.all_cons, List.all_nil, Bool.and_true, Bool.not_eq_true'] at hi
    exact pts_one ((g sc _ _ h C W X x).2 hi)
  · cases h
/-- a comprehension's parts -/
structure LcOk (cc : CC) (sc : Scope) (C : Ct) (W : WX) (X : Cx) (elt tg iter : Expr) (ifs : List Expr) (scope : Scope) (is : List Nat) (it : It) (ic ie : E) (own : List (Str × Nat)) (g : TG) : Prop where
  hi : PI X tg iter (tIt C W it)
  hs : ∀ v, foldedSetIterable iter X.env v = pure v
  ok : BlkOk X.N X.env.scope scope own
  own : own.map (·.2) = is
  hg : ∀ (s : Shared) (H : Hp) (A : Addr) (cl : List (Str × Addr)) (fp : List Addr), PG (X.blk s H scope (compEnvC scope cl A X.env) fp) tg g
  ht : ∀ (s : Shared) (H : Hp) (A : Addr) (cl : List (Str × Addr)) (fp : List Addr), PTs (X.blk s H scope (compEnvC scope cl A X.env) fp) ifs (tTst C W0 ic)
  he : ∀ (s : Shared) (H : Hp) (A : Addr) (cl : List (Str × Addr)) (fp : List Addr), PE (X.blk s H scope (compEnvC scope cl A X.env) fp) elt (tE C W0 ie)
  htg : TgL C g is
theorem tg_same {is : List Nat} {g1 g2 : TG} (h : TgL C g1 is) : TgL C g1 is := h
theorem tg_g (K : PySem.W.Frag) (hK : X.K = K) (hc : X.calm = true) {tg : Expr} {xs : List Str} {is : List Nat} (h1 : tgNames tg = some xs) (h2 : ixs cc.N xs = some is) :
    ∃ g, (C.K = K → TgL C g is) ∧ ∀ X' : Cx, X'.K = K → X'.calm = true → X'.N = cc.N → X'.N.Nodup → (∀ y ∈ xs, Loc X'.env.scope y) → (∀ y ∈ xs, X'.fn y = true ∨ X'.env.scope.names.lookup y = some .local) → PG X' tg g := by
  unfold tgNames at h1
  split at h1
  · cases h1
    unfold ixs at h2
    obtain ⟨i, e1, h2⟩ := bnd h2
    obtain ⟨js, e2, h2⟩ := bnd h2
    cases e2
    cases h2
    exact ⟨_, fun _ => tg_one i, fun X' _ _ hN hn hl hf => pg_name hn (by rw [hN]; exact ixN_ok e1) (hl _ (by simp)) (hf _ (by simp))⟩
  · cases h1
    unfold ixs ixs at h2
    obtain ⟨i, e1, h2⟩ := bnd h2
    obtain ⟨js, e2, h2⟩ := bnd h2
    obtain ⟨j, e3, e2⟩ := bnd e2
    obtain ⟨ks, e4, e2⟩ := bnd e2
    cases e4
    cases e2
    cases h2
    exact ⟨_, fun hK => tg_two hK i j, fun X' hK hc hN hn hl hf => by
      subst hK
      exact pg_tup hc (pgs_cons (pg_name hn (by rw [hN]; exact ixN_ok e1) (hl _ (by simp)) (hf _ (by simp))) (pgs_cons (pg_name hn (by rw [hN]; exact ixN_ok e3) (hl _ (by simp)) (hf _ (by simp))) pgs_nil))⟩
  · cases h1
    unfold ixs ixs ixs at h2
    obtain ⟨i, e1, h2⟩ := bnd h2
    obtain ⟨js, e2, h2⟩ := bnd h2
    obtain ⟨j, e3, e2⟩ := bnd e2
    obtain ⟨ks, e4, e2⟩ := bnd e2
    obtain ⟨k, e5, e4⟩ := bnd e4
    obtain ⟨ls, e6, e4⟩ := bnd e4
    cases e6
    cases e4
    cases e2
    cases h2
    exact ⟨_, fun hK => tg_three hK i j k, fun X' hK hc hN hn hl hf => by
      subst hK
      exact pg_tup hc (pgs_cons (pg_name hn (by rw [hN]; exact ixN_ok e1) (hl _ (by simp)) (hf _ (by simp))) (pgs_cons (pg_name hn (by rw [hN]; exact ixN_ok e3) (hl _ (by simp)) (hf _ (by simp)))
        (pgs_cons (pg_name hn (by rw [hN]; exact ixN_ok e5) (hl _ (by simp)) (hf _ (by simp))) pgs_nil)))⟩
  · cases h1
theorem locB_fn {scope : Scope} {y : Str} (h : locB scope y = true) : (scope.names.lookup y == some .cell) = true ∨ scope.names.lookup y = some .local := by
  unfold locB at h
  split at h
  · exact .inr (by assumption)
  · rename_i e
    exact .inl (by rw [e]; rfl)
  · cases h
theorem sound_lcParts (g : GoodE cc r) (x : XOk cc sc C W X) {elt tg iter : Expr} {ifs : List Expr} {scope : Scope} {pos : Pos} {ie : E} (h : cLc cc r sc elt tg iter ifs scope pos = some ie) :
    ∃ is it ic ie' own g, ie = .lc (cc.fl pos) is it ic ie' ∧ LcOk cc sc C W X elt tg iter ifs scope is it ic ie' own g := by
  unfold cLc at h
  obtain ⟨xs, h1, h⟩ := bnd h
  obtain ⟨is, h2, h⟩ := bnd h
  obtain ⟨h0, h⟩ := gd_some h
  obtain ⟨it, h3, h⟩ := bnd h
  obtain ⟨ic, h4, h⟩ := bnd h
  obtain ⟨ie', h5, h⟩ := bnd h
  cases h
  simp only [Bool.and_eq_true, decide_eq_true_eq] at h0
  obtain ⟨hb, hl, hlen, hif⟩ := h0
  rw [List.all_eq_true] at hl
  obtain ⟨gg, t1, t2⟩ := tg_g (C := C) (cc := cc) X.K rfl x.calm h1 h2
  refine ⟨is, it, ic, ie', xs.zip is, gg, rfl, (sound_it g x h3).1, (sound_it g x h3).2, ?_, ?_, fun s H A cl fp => ?_, fun s H A cl fp => ?_, fun s H A cl fp => ?_, t1 x.hK⟩
  · rw [x.N, x.scp]
    exact blkOk_by hb
  · exact List.map_snd_zip (Nat.le_of_eq hlen.symm)
  · have xb := x.blk (s := s) (H := H) (scope := scope) (cl := cl) (A := A) (fp := fp)
    refine t2 _ rfl x.calm x.N (by show X.N.Nodup; rw [x.N]; exact x.nd) (fun y hy => ?_) fun y hy => ?_
    · have q := hl y hy
      rw [Bool.and_eq_true] at q
      exact xb.loc q.1
    · have q := hl y hy
      rw [Bool.and_eq_true] at q
      rcases locB_fn q.2 with z | z
      · exact .inl z
      · refine .inr ?_
        rw [xb.scp, ← rlS_eq x.scp]
        exact lookup_relabel_local (env := X.env) z
  · exact sound_ifs g x.blk h4 hif
  · exact (g _ _ _ h5 C W0 _ x.blk).1
theorem step_good (g : GoodE cc r) : GoodE cc (stepE cc r) := by
  intro sc e ie h C W X x
  cases e with
  | Name y p => exact ⟨sound_name x h, fun _ => st_val (sound_name x h) fun _ => rfl⟩
  | Constant c k p => exact ⟨sound_const h, fun _ => st_val (sound_const h) fun _ => rfl⟩
  | BinOp a op b p =>
    have h' : ((bopOf op).bind fun o => (r sc a).bind fun ia => (r sc b).bind fun ib => some (.bin (cc.fl p) o ia ib)) = some ie := h
    obtain ⟨o, h1, h'⟩ := bnd h'
    obtain ⟨ia, h2, h'⟩ := bnd h'
    obtain ⟨ib, h3, h'⟩ := bnd h'
    cases h'
    have e : opOf o = op := by
      unfold bopOf at h1
      split at h1 <;> first | (cases h1; rfl) | cases h1
    subst e
    have k := se_bin (fl := cc.fl p) (op := o) (pos := p) x.hK (g _ _ _ h2 C W X x).1 (g _ _ _ h3 C W X x).1
    exact ⟨k, fun _ => st_val k fun _ => rfl⟩
  | UnaryOp op a p => exact ⟨(sound_un g x h).1, fun _ => (sound_un g x h).2⟩
  | BoolOp op es p =>
    have h' : gd (es.all fun c => !isIf c) (cBool r sc op es) = some ie := h
    obtain ⟨h0, h'⟩ := gd_some h'
    have k := sound_bool g x (p := p) h' h0
    exact ⟨k.1, fun _ => k.2.pt⟩
  | Compare a ops bs p => exact ⟨(sound_cmp g x h).1, fun _ => (sound_cmp g x h).2⟩
  | IfExp c a b p =>
    have h' : gd (!isIf c) ((r sc c).bind fun ic => (r sc a).bind fun ia => (r sc b).bind fun ib => some (.ife ic ia ib)) = some ie := h
    obtain ⟨h0, h'⟩ := gd_some h'
    obtain ⟨ic, h1, h'⟩ := bnd h'
    obtain ⟨ia, h2, h'⟩ := bnd h'
    obtain ⟨ib, h3, h'⟩ := bnd h'
    cases h'
    simp only [Bool.not_eq_true'] at h0
    exact ⟨se_ife ((g _ _ _ h1 C W X x).2 h0) (g _ _ _ h2 C W X x).1 (g _ _ _ h3 C W X x).1, fun z => by cases z⟩
  | Tuple es k p =>
    have h' : (cEs r sc es).map E.tup = some ie := h
    rw [Option.map_eq_some_iff] at h'
    obtain ⟨ies, h1, rfl⟩ := h'
    have q := se_tup (k := k) (pos := p) (sound_es g x h1)
    exact ⟨q, fun _ => st_val q fun _ => rfl⟩
  | List es p =>
    have h' : (cEs r sc es).map (E.lst (cc.fl p)) = some ie := h
    rw [Option.map_eq_some_iff] at h'
    obtain ⟨ies, h1, rfl⟩ := h'
    have q := se_lst (fl := cc.fl p) (pos := p) (sound_es g x h1)
    exact ⟨q, fun _ => st_val q fun _ => rfl⟩
  | Subscript a b p =>
    have q := sound_sub g x (p := p) h
    exact ⟨q, fun _ => st_val q fun _ => rfl⟩
  | Call f es kws p =>
    have h' : cCalls cc r sc f es kws p = some ie := h
    unfold cCalls at h'
    split at h'
    · split at h'
      · have q := sound_call g x (p := by assumption) h'
        exact ⟨q, fun _ => st_val q fun _ => rfl⟩
      · have q := sound_meth g x h'
        exact ⟨q, fun _ => st_val q fun _ => rfl⟩
      · cases h'
    · cases h'
  | ListComp elt gs scope p =>
    have h' : cGens cc r sc elt gs scope p = some ie := h
    unfold cGens at h'
    split at h'
    · obtain ⟨h0, h'⟩ := gd_some h'
      have h0 := of_decide_eq_true h0
      subst h0
      obtain ⟨is, it, ic, ie', own, gg, rfl, P⟩ := sound_lcParts g x h'
      have q := se_lc (fl := cc.fl p) (pos := p) x.hK x.calm (by rw [x.N]; exact x.nd) P.hi P.ok P.own P.hg P.ht P.he P.hs P.htg
      exact ⟨q, fun _ => st_val q fun _ => rfl⟩
    · cases h'
  | _ => cases h
theorem cE_good (cc : CC) : ∀ n, GoodE cc (cE cc n)
  | 0 => fun _ _ _ h => by cases h
  | n + 1 => step_good (cE_good cc n)
end
end KI

/-! KM: the little language from the text: statements, bodies. -/
namespace KI
open PySem PySem.Spec
open PyProof.Rows L2

structure SOk (cc : CC) (sc : Scope) (C : Ct) (W : WX) (X : Cx) : Prop where
  x : XOk cc sc C W X
  hp : PassesOwn (model X.prog X.w) X.A X.env X.xe
  fn : ∀ y, X.fn y = true
  kind : sc.kind = .function
  exc : ∀ y ∈ cc.exc, ∃ bmB B newId initId, ExcBaseFacts B newId initId bmB ∧ PySem.W.excIn X.K (C.cl y) bmB newId = true ∧ X.mg y = some (.ref (C.cl y)) ∧ PySem.W.keepIn X.K (.ref (C.cl y)) = true ∧ Raises X (.ref (C.cl y))

/-- an assignment of a comprehension to a name that has its slot at once -/
def swB (sc : Scope) (y : Str) (py : Pos) (s : Scope) (p : Pos) : Bool := sc.names.lookup y == some .local && py.line == p.line && !(s.names.any fun (n, k) => n == y && (k == .local || k == .cell))
theorem swB_ok {env : PySem.Env} {sc : Scope} (h : env.scope = sc) (hk : sc.kind = .function) {y : Str} {py p : Pos} {elt : Expr} {gs : List Comprehension} {s : Scope} {line : Nat} : swapsWith (.ListComp elt gs s p) (some (.Name y py)) line env = pure (swB sc y py s p) := by
  subst h
  show (pure (env.blockKind == .function && env.kindOf y == some .local && py.line == p.line && !(s.names.any fun (n, k) => n == y && (k == .local || k == .cell))) : Sem Bool) = _
  have hb : (env.blockKind == .function) = true := by
    unfold Env.blockKind
    rw [hk]
    rfl
  rw [hb, Bool.true_and]
  rfl
def isLc : Expr → Bool
  | .ListComp _ _ _ _ => true
  | .SetComp _ _ _ _ => true
  | .DictComp _ _ _ _ _ => true
  | _ => false
theorem noLc {e : Expr} {t : Option Expr} {line : Nat} {env : PySem.Env} (h : isLc e = false) : swapsWith e t line env = pure false := by
  cases e with
  | ListComp _ _ _ _ => cases h
  | SetComp _ _ _ _ => cases h
  | DictComp _ _ _ _ _ => cases h
  | _ => rfl
def cAsgN (cc : CC) (r : RE) (sc : Scope) (y : Str) (py : Pos) (e : Expr) : Option Sm := gd (locB sc y) ((ixN? cc.N y).bind fun i => match e with
  | .ListComp elt gs s p => (match swB sc y py s p with
    | true => gd (decide (sc.names.lookup y = some .local)) ((cGens cc r sc elt gs s p).bind fun ie => some (.asg i ie))
    | false => (r sc (.ListComp elt gs s p)).bind fun ie => some (.asg i ie))
  | e => gd (!isLc e) ((r sc e).bind fun ie => some (.asg i ie)))
def cTg (cc : CC) (r : RE) (sc : Scope) : Expr → Option Tg
  | .Name y _ => gd (locB sc y) ((ixN? cc.N y).map .nm)
  | .Subscript o i _ => gd (plainIx i) ((r sc o).bind fun io => (r sc i).bind fun ii => some (.sub io ii))
  | _ => none
def cTgs (cc : CC) (r : RE) (sc : Scope) : List Expr → Option (List Tg)
  | [] => some []
  | e :: es => (cTg cc r sc e).bind fun t => (cTgs cc r sc es).bind fun ts => some (t :: ts)
def parB (sc : Scope) (x : Str) (px : Pos) (y : Str) (py : Pos) (a b : Expr) : Bool :=
  nst a && nst b && decide (sc.names.lookup x = some .local) && decide (sc.names.lookup y = some .local) && decide (py.line = px.line) && decide (x ≠ y) && !([a, b].all (foldedForSure 8)) && !([a, b].all (constantsAlone 8))
def cAsgT (cc : CC) (r : RE) (sc : Scope) (ts : List Expr) (e : Expr) : Option Sm := match e with
  | .Tuple vs _ _ => (match ts, vs with
    | [.Name x px, .Name y py], [a, b] => gd (parB sc x px y py a b) ((ixN? cc.N x).bind fun i => (ixN? cc.N y).bind fun j => (r sc a).bind fun ia => (r sc b).bind fun ib => some (.asgT [.nm i, .nm j] (.tup (.cons ia (.cons ib .nil)))))
    | _, _ => none)
  | e => (cTgs cc r sc ts).bind fun is => (r sc e).bind fun ie => some (.asgT is ie)
def cAsg (cc : CC) (r : RE) (sc : Scope) (t e : Expr) : Option Sm := match t with
  | .Name y py => cAsgN cc r sc y py e
  | .Tuple ts _ _ => cAsgT cc r sc ts e
  | .Subscript o i p => (cTg cc r sc (.Subscript o i p)).bind fun t => (r sc e).bind fun ie => some (.asgG t ie)
  | _ => none
def cRais (cc : CC) (sc : Scope) : Expr → Option Sm
  | .Call (.Name x _) [.Constant (.str m) _ _] [] _ => gd (isG sc x && decide (x ∈ cc.exc)) (some (.rais x (.cons (.cst (.str m)) .nil)))
  | _ => none
abbrev RB' := List Stmt → Option Sms
def cFor (cc : CC) (r : RE) (sc : Scope) (rb : RB') (tg iter : Expr) (b : List Stmt) : Option Sm := (tgNames tg).bind fun xs => (ixs cc.N xs).bind fun is => gd (xs.all fun y => locB sc y) ((cIt cc r sc tg iter).bind fun it => (rb b).bind fun ib => some (.fo is it ib))
def cS (cc : CC) (r : RE) (sc : Scope) (rb : RB') : Stmt → Option Sm
  | .Pass _ => some .pass
  | .Expr e _ => gd (!isLc e) ((r sc e).map .ex)
  | .Assign [t] e _ => cAsg cc r sc t e
  | .If c a b _ => gd (!isIf c) ((r sc c).bind fun ic => (rb a).bind fun ia => (rb b).bind fun ib => some (.ite ic ia ib))
  | .While c b [] _ => gd (!isIf c) ((r sc c).bind fun ic => (rb b).bind fun ib => some (.whil ic ib))
  | .For tg iter b [] _ => cFor cc r sc rb tg iter b
  | .Return (some e) _ => (r sc e).map .ret
  | .Raise (some e) none _ => cRais cc sc e
  | _ => none
def cB (cc : CC) (r : RE) (sc : Scope) : Nat → RB'
  | 0, _ => none
  | _ + 1, [] => some .nil
  | n + 1, st :: rest => (cS cc r sc (cB cc r sc n) st).bind fun s => (cB cc r sc n rest).bind fun ss => some (.cons s ss)

section
variable {cc : CC} {r : RE} {sc : Scope} {C : Ct} {W : WX} {X : Cx}
theorem SOk.nd (s : SOk cc sc C W X) : X.N.Nodup := by rw [s.x.N]; exact s.x.nd
theorem sound_asgN (g : GoodE cc r) (s : SOk cc sc C W X) {y : Str} {py pos : Pos} {e : Expr} {m : Sm} (h : cAsgN cc r sc y py e = some m) : PS X (.Assign [.Name y py] e pos) (tS C W (exS C.V m)) := by
  unfold cAsgN at h
  obtain ⟨h0, h⟩ := gd_some h
  obtain ⟨i, h1, h⟩ := bnd h
  have hi : X.N[i]? = some y := by rw [s.x.N]; exact ixN_ok h1
  split at h
  · split at h
    · rename_i hs
      obtain ⟨hl, h⟩ := gd_some h
      obtain ⟨ie, h2, h⟩ := bnd h
      cases h
      unfold cGens at h2
      split at h2
      · obtain ⟨h3, h2⟩ := gd_some h2
        have h3 := of_decide_eq_true h3
        subst h3
        obtain ⟨is, it, ic, ie', own, gg, rfl, P⟩ := sound_lcParts g s.x h2
        obtain ⟨hi1, hi2, ok, hown, hg, ht, he, htg⟩ := P
        subst hown
        refine PS.imp (ps_setLc s.x.calm s.nd hi (by rw [s.x.scp]; exact of_decide_eq_true hl) (by rw [swB_ok s.x.scp s.kind, hs]) hi1 ok hg ht he hi2) fun D σ H q => asg_imp (fun σ H Q z => lc_imp s.x.hK htg σ H Q z) D σ H q
      · cases h2
    · rename_i hs
      obtain ⟨ie, h2, h⟩ := bnd h
      cases h
      exact ss_asg s.nd hi (s.x.loc h0) (g _ _ _ h2 C W X s.x).1 (by rw [swB_ok s.x.scp s.kind, hs]) (.inl (s.fn _))
  · obtain ⟨h3, h⟩ := gd_some h
    obtain ⟨ie, h2, h⟩ := bnd h
    cases h
    simp only [Bool.not_eq_true'] at h3
    exact ss_asg s.nd hi (s.x.loc h0) (g _ _ _ h2 C W X s.x).1 (noLc h3) (.inl (s.fn _))
theorem asg_sub {o i : Expr} {p : Pos} {env : PySem.Env} (h : plainIx i = true) (v : Value) : assign (.Subscript o i p) env v = (do
      let x ← holding [v] (eval o env)
      let y ← holding [v, x] (eval i env)
      standAt p
      holding [v, x, y] (setItem x y v)
      release [v, x, y] []) := by
  cases i with
  | Slice _ _ _ _ => cases h
  | _ => rfl
theorem sound_tgt (g : GoodE cc r) (s : SOk cc sc C W X) {e : Expr} {t : Tg} (h : cTg cc r sc e = some t) : nst e = true ∧ ∃ gg, PG X e gg ∧ TgS C W gg t := by
  unfold cTg at h
  split at h
  · obtain ⟨h0, h⟩ := gd_some h
    rw [Option.map_eq_some_iff] at h
    obtain ⟨i, h1, rfl⟩ := h
    exact ⟨rfl, _, pg_name s.nd (by rw [s.x.N]; exact ixN_ok h1) (s.x.loc h0) (.inl (s.fn _)), tgs_name i⟩
  · obtain ⟨h0, h⟩ := gd_some h
    obtain ⟨io, h1, h⟩ := bnd h
    obtain ⟨ii, h2, h⟩ := bnd h
    cases h
    exact ⟨rfl, _, pg_sub (g _ _ _ h1 C W X s.x).1 (g _ _ _ h2 C W X s.x).1 set_list (asg_sub h0), tgs_sub⟩
  · cases h
theorem asgEach {e : Expr} {es : List Expr} {env : PySem.Env} (h : nst e = true) : assignEach (e :: es) env = (false, assign e env) :: assignEach es env := by
  cases e with
  | Starred _ _ => cases h
  | _ => rfl
theorem sound_tgts (g : GoodE cc r) (s : SOk cc sc C W X) : ∀ {es : List Expr} {ts : List Tg}, cTgs cc r sc es = some ts → (∃ gs, PGs X es gs ∧ TgsS C W gs ts) ∧ (assignEach es X.env).length = es.length ∧ (assignEach es X.env).findIdx? (·.1) = none ∧ ts.length = es.length
  | [], ts, h => by
    cases h
    exact ⟨⟨_, pgs_nil, tgs_nil⟩, rfl, rfl, rfl⟩
  | e :: es, ts, h => by
    unfold cTgs at h
    obtain ⟨t, h1, h⟩ := bnd h
    obtain ⟨ts', h2, h⟩ := bnd h
    cases h
    obtain ⟨n1, gg, p1, t1⟩ := sound_tgt g s h1
    obtain ⟨⟨gs, p2, t2⟩, l1, f1, l2⟩ := sound_tgts g s h2
    refine ⟨⟨_, pgs_cons p1 p2 (by rw [asgEach n1]; rfl), tgs_cons t1 t2⟩, ?_, ?_, ?_⟩
    · rw [asgEach n1, List.length_cons, l1, List.length_cons]
    · rw [asgEach n1, List.findIdx?_cons, f1]
      rfl
    · rw [List.length_cons, l2, List.length_cons]
theorem par_sw {env : PySem.Env} {sc : Scope} (hE : env.scope = sc) (hk : sc.kind = .function) {x y : Str} {px py pt pt2 : Pos} {kt k2 : Nat} {a b : Expr} (h : parB sc x px y py a b = true) :
    swappedStores [.Tuple [.Name x px, .Name y py] kt pt] (.Tuple [a, b] k2 pt2) env = pure (some [x, y]) := by
  subst hE
  unfold parB at h
  simp only [Bool.and_eq_true, decide_eq_true_eq, Bool.not_eq_true'] at h
  (obtain ⟨⟨⟨⟨⟨⟨⟨h1, h2⟩, h3⟩, h4⟩, h5⟩, h6⟩, h7⟩, h8⟩ := h)
  have hb : (env.blockKind != .function) = false := by
    unfold Env.blockKind
    rw [hk]
    rfl
  have k1 : env.kindOf x = some .local := h3
  have k2' : env.kindOf y = some .local := h4
  have he : [x, y].eraseDups.length = 2 := by
    have : (y == x) = false := by simpa using fun e => h6 e.symm
    simp [List.eraseDups_cons, this]
  unfold swappedStores
  simp only [hb, h7, h8]
  have hl : ((([Expr.Name x px, Expr.Name y py] : List Expr).head?.map (·.pos.line)).getD 0) = px.line := rfl
  rw [hl]
  rw [if_neg (by simp)]
  rw [if_neg (by
    rw [Bool.not_eq_true]
    simp only [List.any_cons, List.any_nil, Bool.or_false, Bool.or_eq_false_iff]
    refine ⟨?_, ?_⟩
    · cases a <;> first | (cases h1; done) | rfl
    · cases b <;> first | (cases h2; done) | rfl)]
  simp only [List.filterMap_cons, List.filterMap_nil, k1, k2', h5, beq_self_eq_true, Bool.and_self, if_true]
  rw [he]
  rfl
theorem sole_false {t e : Expr} {line : Nat} {env : PySem.Env} (h : ∀ y p, t ≠ .Name y p) : swapsWithSole [t] e line env = pure false := by
  show swapsWith e (some t) line env = _
  cases e with
  | ListComp _ _ _ _ => cases t <;> first | rfl | exact absurd rfl (h _ _)
  | SetComp _ _ _ _ => cases t <;> first | rfl | exact absurd rfl (h _ _)
  | DictComp _ _ _ _ _ => cases t <;> first | rfl | exact absurd rfl (h _ _)
  | _ => rfl
theorem stores_none {ts : List Expr} {k : Nat} {p : Pos} {e : Expr} {env : PySem.Env} (h : isTup e = false) : swappedStores [.Tuple ts k p] e env = pure none := by
  cases e with
  | Tuple _ _ _ => cases h
  | _ => rfl
theorem sound_asgT (g : GoodE cc r) (s : SOk cc sc C W X) {ts : List Expr} {k : Nat} {tp pos : Pos} {e : Expr} {m : Sm} (h : cAsgT cc r sc ts e = some m) : PS X (.Assign [.Tuple ts k tp] e pos) (tS C W (exS C.V m)) := by
  unfold cAsgT at h
  split at h
  · split at h
    · obtain ⟨h0, h⟩ := gd_some h
      obtain ⟨i, h1, h⟩ := bnd h
      obtain ⟨j, h2, h⟩ := bnd h
      obtain ⟨ia, h3, h⟩ := bnd h
      obtain ⟨ib, h4, h⟩ := bnd h
      cases h
      have h0' := h0
      unfold parB at h0
      simp only [Bool.and_eq_true, decide_eq_true_eq, Bool.not_eq_true'] at h0
      obtain ⟨⟨⟨⟨⟨⟨⟨q1, q2⟩, q3⟩, q4⟩, q5⟩, q6⟩, q7⟩, q8⟩ := h0
      have e1 := ixN_ok h1
      have e2 := ixN_ok h2
      refine ss_par s.x.calm s.nd (by rw [s.x.N]; exact e1) (by rw [s.x.N]; exact e2) (fun z => ?_) (by rw [s.x.scp]; exact q3) (by rw [s.x.scp]; exact q4) (sa_cons (g _ _ _ h3 C W X s.x).1 (sa_cons (g _ _ _ h4 C W X s.x).1 sa_nil (star_cons q2)) (star_cons q1)) (par_sw s.x.scp s.kind h0') (sole_false fun _ _ z => by cases z)
      rw [z, e2] at e1
      cases e1
      exact q6 rfl
    · cases h
  · rename_i hne
    obtain ⟨is, h1, h⟩ := bnd h
    obtain ⟨ie, h2, h⟩ := bnd h
    cases h
    obtain ⟨⟨gs, p1, t1⟩, l1, f1, l2⟩ := sound_tgts g s h1
    refine ss_asgT s.x.hK s.x.calm (g _ _ _ h2 C W X s.x).1 p1 t1 l1 f1 l2 (sole_false fun _ _ z => by cases z) (stores_none ?_)
    cases e with
    | Tuple a b c => exact absurd rfl (hne a b c)
    | _ => rfl
theorem sound_asg (g : GoodE cc r) (s : SOk cc sc C W X) {t e : Expr} {pos : Pos} {m : Sm} (h : cAsg cc r sc t e = some m) : PS X (.Assign [t] e pos) (tS C W (exS C.V m)) := by
  unfold cAsg at h
  split at h
  · exact sound_asgN g s h
  · exact sound_asgT g s h
  · obtain ⟨t, h1, h⟩ := bnd h
    obtain ⟨ie, h2, h⟩ := bnd h
    cases h
    obtain ⟨n1, gg, p1, t1⟩ := sound_tgt g s h1
    refine ss_asgG (g _ _ _ h2 C W X s.x).1 p1 t1 (sole_false fun _ _ z => by cases z) ?_ rfl
    cases e <;> rfl
  · cases h
theorem sound_rais (s : SOk cc sc C W X) {e : Expr} {pos : Pos} {m : Sm} (h : cRais cc sc e = some m) : PS X (.Raise (some e) none pos) (tS C W (exS C.V m)) := by
  unfold cRais at h
  split at h
  · obtain ⟨h0, h⟩ := gd_some h
    cases h
    simp only [Bool.and_eq_true, decide_eq_true_eq] at h0
    obtain ⟨bmB, B, n1, n2, F, q, gC, kC, rr⟩ := s.exc _ h0.2
    exact ss_rais s.x.calm s.x.tk F q gC kC rr (s.x.gl h0.1).1 (s.x.gl h0.1).2
  · cases h
theorem sound_stmt (g : GoodE cc r) {rb : RB'} (s : SOk cc sc C W X) (gb : ∀ b ib, rb b = some ib → PSs X b (tS C W (exB C.V ib))) {st : Stmt} {m : Sm} (h : cS cc r sc rb st = some m) : PS X st (tS C W (exS C.V m)) := by
  unfold cS at h
  split at h
  · cases h
    exact ss_pass
  · obtain ⟨h0, h⟩ := gd_some h
    rw [Option.map_eq_some_iff] at h
    obtain ⟨ie, h1, rfl⟩ := h
    simp only [Bool.not_eq_true'] at h0
    exact ss_ex (g _ _ _ h1 C W X s.x).1 (noLc h0)
  · exact sound_asg g s h
  · obtain ⟨h0, h⟩ := gd_some h
    obtain ⟨ic, h1, h⟩ := bnd h
    obtain ⟨ia, h2, h⟩ := bnd h
    obtain ⟨ib, h3, h⟩ := bnd h
    cases h
    simp only [Bool.not_eq_true'] at h0
    exact ss_ite ((g _ _ _ h1 C W X s.x).2 h0) (gb _ _ h2) (gb _ _ h3)
  · obtain ⟨h0, h⟩ := gd_some h
    obtain ⟨ic, h1, h⟩ := bnd h
    obtain ⟨ib, h2, h⟩ := bnd h
    cases h
    simp only [Bool.not_eq_true'] at h0
    exact ss_while s.hp ((g _ _ _ h1 C W X s.x).2 h0) (gb _ _ h2)
  · unfold cFor at h
    obtain ⟨xs, h1, h⟩ := bnd h
    obtain ⟨is, h2, h⟩ := bnd h
    obtain ⟨h0, h⟩ := gd_some h
    obtain ⟨it, h3, h⟩ := bnd h
    obtain ⟨ib, h4, h⟩ := bnd h
    cases h
    rw [List.all_eq_true] at h0
    obtain ⟨gg, t1, t2⟩ := tg_g (C := C) (cc := cc) X.K rfl s.x.calm h1 h2
    exact ss_for s.hp s.x.calm (sound_it g s.x h3).1 (t2 X rfl s.x.calm s.x.N s.nd (fun y hy => s.x.loc (h0 y hy)) fun y _ => .inl (s.fn y)) (gb _ _ h4) (sound_it g s.x h3).2 (t1 s.x.hK)
  · rw [Option.map_eq_some_iff] at h
    obtain ⟨ie, h1, rfl⟩ := h
    exact ss_ret (g _ _ _ h1 C W X s.x).1
  · exact sound_rais s h
  · cases h
theorem sound_body (g : GoodE cc r) (s : SOk cc sc C W X) : ∀ (n : Nat) {b : List Stmt} {ib : Sms}, cB cc r sc n b = some ib → PSs X b (tS C W (exB C.V ib))
  | 0, b, ib, h => by cases h
  | n + 1, [], ib, h => by
    cases h
    exact ss_nil
  | n + 1, st :: rest, ib, h => by
    unfold cB at h
    obtain ⟨m, h1, h⟩ := bnd h
    obtain ⟨ms, h2, h⟩ := bnd h
    cases h
    exact ss_cons (sound_stmt g s (fun b ib hb => sound_body g s n hb) h1) (sound_body g s n h2)
end
end KI

/-! KN: a module's defs, from the head's facts; a law's end. -/
namespace KI
open PySem PySem.Spec
open PyProof.Rows L2

structure Dd where
  name : Str
  st : Stmt
  N : List Str
  ps : List Str
  F : Fn
def Dd.defD (d : Dd) : He.DefD := ⟨(d.name, none), d.name, d.name, defArgs d.st, defBody d.st, defScope d.st, [], []⟩
/-- what a law's text is read by -/
structure Lm where
  defs : List Dd
  free : List Str
  ics : List (Str × Int)
  exc : List Str
  fl : Pos → Bool
  wf : Nat
def Lm.cc (M : Lm) (N : List Str) : CC := ⟨N, M.defs.map (·.name), M.free, M.ics.map (·.1), M.exc, M.fl⟩
def Lm.tbl (M : Lm) : Tbl := ⟨fun x => (M.defs.find? (fun d => decide (d.name = x))).map (·.F), fun x => (M.ics.lookup x).map D.int, M.wf⟩
def Lm.fa (M : Lm) : List He.Fa := M.defs.map (fun d => .glo d.name) ++ (M.free.map .free ++ (M.ics.map (fun p => .int p.1 p.2) ++ (M.exc.map .glo ++ M.exc.map .exc)))
def Lm.fn (M : Lm) : List He.DefD := M.defs.map Dd.defD
structure DOk (M : Lm) (d : Dd) : Prop where
  sc : FnScope d.N d.ps (defScope d.st)
  np : d.ps.length = d.F.np
  ns : d.N.length = d.F.ns
  comp : cB (M.cc d.N) (cE (M.cc d.N) 40) (defScope d.st) 80 (defBody d.st) = some d.F.body
  bnd : ∀ (kV doc pm : Value) (an : Option Addr) (cdv ct : Value) (us : List Value), us.length = d.ps.length → bindArgs (PySem.W.fnOf d.name d.name (defArgs d.st) (defBody d.st) (defScope d.st) .none kV doc pm an cdv ct) ⟨us, []⟩ = pure (d.ps.zip us)
  fnd : M.tbl.fn d.name = some d.F

section
variable {M : Lm} {K : PySem.W.Frag} {mg : Str → Option Value} {base : Heap} {P : Program} {w : World}
abbrev FnO (K : PySem.W.Frag) (d : Dd) (fd : FuncData) : Prop := FunD K d.name d.name (defArgs d.st) (defBody d.st) (defScope d.st) [] [] (He.ga K d.name) fd
theorem fact_of (c : He.SaysD M.fa M.fn K) {f : He.Fa} (h : f ∈ M.fa) : f.ok K = true := by
  obtain ⟨i, hi⟩ := List.getElem?_of_mem h
  exact c.fact i hi
theorem fd_of (c : He.SaysD M.fa M.fn K) {d : Dd} (h : d ∈ M.defs) : ∃ fd, FnO K d fd := by
  have h2 : d.defD ∈ M.fn := List.mem_map_of_mem h
  obtain ⟨i, hi⟩ := List.getElem?_of_mem h2
  exact c.def_ i hi
theorem glo_of (c : He.SaysD M.fa M.fn K) (X : K.In base) (G : base.Ns mainGlobals mg) {d : Dd} (h : d ∈ M.defs) : mg d.name = some (.ref (He.ga K d.name)) :=
  He.glo_ok X G (fact_of c (List.mem_append_left _ (List.mem_map.mpr ⟨d, h, rfl⟩)))
theorem free_of (c : He.SaysD M.fa M.fn K) (X : K.In base) (G : base.Ns mainGlobals mg) {x : Str} (h : x ∈ M.free) : mg x = none :=
  He.free_ok X G (fact_of c (List.mem_append_right _ (List.mem_append_left _ (List.mem_map.mpr ⟨x, h, rfl⟩))))
theorem int_of (c : He.SaysD M.fa M.fn K) (X : K.In base) (G : base.Ns mainGlobals mg) {x : Str} {i : Int} (h : (x, i) ∈ M.ics) : ∃ t, mg x = some (.int i t) :=
  He.int_ok X G (fact_of c (List.mem_append_right _ (List.mem_append_right _ (List.mem_append_left _ (List.mem_map.mpr ⟨(x, i), h, rfl⟩)))))
theorem excg_of (c : He.SaysD M.fa M.fn K) (X : K.In base) (G : base.Ns mainGlobals mg) {x : Str} (h : x ∈ M.exc) : mg x = some (.ref (He.ga K x)) :=
  He.glo_ok X G (fact_of c (List.mem_append_right _ (List.mem_append_right _ (List.mem_append_right _ (List.mem_append_left _ (List.mem_map.mpr ⟨x, h, rfl⟩))))))
theorem exc_of (c : He.SaysD M.fa M.fn K) {x : Str} (h : x ∈ M.exc) : (He.Fa.exc x).ok K = true :=
  fact_of c (List.mem_append_right _ (List.mem_append_right _ (List.mem_append_right _ (List.mem_append_right _ (List.mem_map.mpr ⟨x, h, rfl⟩)))))
theorem lookup_in {α : Type} {x : Str} {v : α} : ∀ {l : List (Str × α)}, l.lookup x = some v → (x, v) ∈ l
  | [], h => by simp at h
  | (y, u) :: r, h => by
    rw [List.lookup_cons] at h
    split at h
    · rename_i e
      cases h
      rw [beq_iff_eq.mp e]
      exact List.mem_cons_self
    · exact List.mem_cons_of_mem _ (lookup_in h)

/-- a def's body's context -/
def X0 (P : Program) (w : World) (K : PySem.W.Frag) (mg : Str → Option Value) (base : Heap) (d : Dd) (k0 k : Nat) (X : Cx) : Prop :=
  k = k0 ∧ X.prog = P ∧ X.w = w ∧ X.K = K ∧ X.mg = mg ∧ X.base = base ∧ X.env.scope = defScope d.st ∧ X.N = d.N ∧ X.calm = true ∧ X.A.guards = some [] ∧ Room k X.A ∧ ∀ y, X.fn y = true
theorem all_sound (ok : ∀ d ∈ M.defs, DOk M d) (KX : K.In base) (G : base.Ns mainGlobals mg) (c : He.SaysD M.fa M.fn K) : ∀ k, ∀ d ∈ M.defs, ∀ fd, FnO K d fd → FnG P w K mg base k (He.ga K d.name) fd d.ps (spF K (He.ga K) (callI M.tbl k) d.name) := by
  intro k
  induction k with
  | zero =>
    intro d hd fd F
    refine ⟨fun vs H Q E h => ?_, fun A outer s H args us vs Q E _ _ _ _ _ h => ?_⟩
    · obtain ⟨C, _, _, _, F, m, S, as, rp, o, r, h⟩ := h
      exact False.elim h
    · obtain ⟨C, _, _, _, F, m, S, as, rp, o, r, h⟩ := h
      exact False.elim h
  | succ k ih =>
    intro d hd fd F
    have D := ok d hd
    (obtain ⟨oc, od, dV, kV, doc, pm, an, cdv, ct, osl, rfl, lk, hcd, _, _⟩ := F.ex)
    refine def_sound (X0 := X0 P w K mg base d k) lk hcd D.sc D.fnd ⟨D.np, D.ns, fun C W k2 X hK hcl hcall hcon tk hp hx => ?_⟩ fun A outer s H E hr hg => ⟨rfl, rfl, rfl, rfl, rfl, rfl, rfl, rfl, rfl, hg, hr, fun _ => rfl⟩
    obtain ⟨e0, e1, e2, e3, e4, e5, hsc, hN, hc, hg, hr, hf⟩ := hx
    subst e0 e1 e2 e3 e4 e5
    refine sound_body (cE_good (M.cc d.N) 40) ⟨⟨hK, hsc, hN, D.sc.nd, hc, hg, by have := hr.un; omega, fun x hx => free_of c KX G hx, fun x hx => ?_, tk, fun x hx => ?_⟩, hp, hf, D.sc.kind, fun x hx => ?_⟩ 80 D.comp
    · obtain ⟨d2, hd2, e⟩ := List.mem_map.mp hx
      subst e
      obtain ⟨fd2, F2⟩ := fd_of c hd2
      refine ⟨k2, _, fd2, d2.ps, ?_, hr, glo_of c KX G hd2, F2.kp, FunD.bindsN F2 (ok d2 hd2).bnd⟩
      rw [hcl, hcall]
      exact ih d2 hd2 fd2 F2
    · obtain ⟨⟨y, i⟩, hm, e⟩ := List.mem_map.mp hx
      subst e
      obtain ⟨t, ht⟩ := int_of c KX G hm
      refine ⟨.int i, _, ht, ⟨t, rfl⟩, fun d' hd' F' m' => ?_⟩
      rw [hcon] at hd'
      have hd2 : (M.ics.lookup y).map KI.D.int = some d' := hd'
      rw [Option.map_eq_some_iff] at hd2
      obtain ⟨j, hj, rfl⟩ := hd2
      obtain ⟨t2, ht2⟩ := int_of c KX G (lookup_in hj)
      rw [ht] at ht2
      cases ht2
      exact .int _
    · obtain ⟨q1, q2, q3, q4⟩ := He.exc_ok (exc_of c hx)
      rw [hcl]
      exact ⟨He.veBase, _, _, _, PySem.F.excBase_ValueError, q1, excg_of c KX G hx, q2, raises_own q3 q4⟩
end

/-! ### a law's end -/
theorem law_callG {P : Program} {w : World} {K : PySem.W.Frag} {mg mb : Str → Option Value} {k : Nat} {fa a : Addr} {fd : FuncData} {x : Str} {sp : Sp} {s₁ : Shared} {vs : List Value} {ns : List Int}
    (KX : K.In s₁.heap) (hns : s₁.heap.Ns mainGlobals mg) (hb : s₁.heap.Ns builtinsNs mb)
    (hbb : ∀ y : Str, y ≠ "__name__" → mb y = bootBuiltins y) (hlim : s₁.heap.NoLimit) (hg : s₁.gens = #[])
    (ha : s₁.heap.get? a = some { cls := .type "list", data := .seq vs.toArray })
    (hi : IntsAre vs ns) (hl : ns.length ≤ sizeLine) (hr : Room k callerA)
    (F : ∀ base : Heap, K.In base → base.Ns mainGlobals mg → FnG P w K mg base k fa fd [x] sp) (hbind : ∀ (s : Shared) (u : Value), BindsTo s fd ⟨[u], []⟩ [(x, u)])
    (hsp : ∀ H : Hp, Only H → SqL K H a (ns.map V.int) → sp [.ref a] H (fun v _ => v = .bl true) fun _ _ _ => False) :
    codeAny (model P w) callerA (.call (.ref fa) ⟨[.ref a], []⟩)
      (fun r s2 => r = .ok (.ret (.bool true)) ∧ OldK s₁.heap s2.heap ∧ s2.os = s₁.os ∧ AllBare s2.gens) s₁ := by
  have rv := vals_ints hi
  have core : ∀ H : Hp, Only H → SqL K H a (ns.map V.int) → HOk P w H s₁.heap →
      (∀ b, H b ≠ none → b = a) → (H a ≠ none → K.lookup a = none) →
      codeAny (model P w) callerA (.call (.ref fa) ⟨[.ref a], []⟩) (fun r s' => r = .ok (.ret (.bool true)) ∧ OldK s₁.heap s'.heap ∧ s'.os = s₁.os ∧ AllBare s'.gens) s₁ := fun H hO hS hok hA hK => by
    have kept : ∀ {b : Addr} {o : Obj}, s₁.heap.get? b = some o → H b = none → (hidT s₁.heap H).get? b = some o := fun e1 e2 => hidT_get e1 e2
    have dictF : ∀ {b : Addr} {o : Obj} {es : Array DictEntry} {ep : Nat}, s₁.heap.get? b = some o → o.data = .dict es ep → H b = none := fun {b o es ep} e1 e2 => by
      cases q : H b with
      | none => rfl
      | some u =>
        have z : b = a := hA b (by rw [q]; exact Option.some_ne_none u)
        subst z
        rw [ha] at e1
        cases e1
        have e3 : Data.seq vs.toArray _ = Data.dict es ep := e2
        cases e3
    have nsF : ∀ {b : Addr} {m : Str → Option Value}, s₁.heap.Ns b m → (hidT s₁.heap H).Ns b m := fun {b m} ⟨o, es, ep, e1, e2, r⟩ => ⟨o, es, ep, kept e1 (dictF e1 e2), e2, r⟩
    have KF : K.In (hidT s₁.heap H) := fun b o e1 => kept (KX b o e1) (by
      cases q : H b with
      | none => rfl
      | some u =>
        have z : b = a := hA b (by rw [q]; exact Option.some_ne_none u)
        subst z
        rw [hK (by rw [q]; exact Option.some_ne_none u)] at e1
        cases e1)
    have md : Mod K mg (hidT s₁.heap H) := ⟨KF, nsF hns, ⟨mb, nsF hb, hbb⟩, by
      obtain ⟨mc, q1, q2⟩ := hlim
      exact ⟨mc, nsF q1, q2⟩⟩
    have start0 : Env0 P w K mg (hidT s₁.heap H) callerA [] s₁ H := ⟨rfl, md, fun b o e1 => of_hidT e1, Nat.le_of_eq (hidT_size _ _), trivial, fun b hb => absurd hb (List.not_mem_nil), hok, AllBare.of_eq hg⟩
    refine codeAny_mono ((F _ KF (nsF hns)).run callerA [] s₁ H ⟨[.ref a], []⟩ [.ref a] [.ref a] _ _ hr rfl start0 (hbind s₁ (.ref a)) (.cons rfl .nil) (hsp H hO hS)) fun r s' h => ?_
    cases r with
    | error e =>
      obtain ⟨a', B, H', cls, d, _, _, _, _, _, _, _, hE⟩ := h
      exact hE.elim
    | ok fl =>
      cases fl with
      | ret u =>
        (obtain ⟨v, H', os, bare, un, hok', r', q⟩ := h)
        have q' : v = .bl true := q
        subst q'
        have r'' : u = Value.bool true := r'
        subst r''
        refine ⟨rfl, OldK.of_keep fun b o e1 => ?_, os, bare⟩
        cases q : H b with
        | none => exact un.keep b o e1 q (fun z => by cases z) (fun z => by cases z)
        | some u =>
          (rcases hO b with z | ⟨ob, xs, z⟩)
          · rw [q] at z
            cases z
          · obtain ⟨e2, _⟩ := hok b _ z
            obtain ⟨e3, _⟩ := hok' b _ (un.frzs b ob _ z)
            rw [e1] at e2
            cases e2
            exact e3
      | _ => exact False.elim h
  cases hk : K.lookup a with
  | some o =>
    have e1 := KX a o hk
    rw [ha] at e1
    cases e1
    exact core (fun _ => none) (fun _ => .inl rfl) (.inr ⟨_, vs.toArray, _, hk, rfl, rfl, rfl, by rw [List.size_toArray, hi.length]; exact hl, by simpa using rv⟩) (fun b u z => by cases z) (fun b z => absurd rfl z) fun z => absurd rfl z
  | none =>
    have lb : ∀ b u, (fun b => if b = a then some (HO.frz { cls := .type "list", data := .seq vs.toArray } (.lst (ns.map V.int))) else none) b = some u → b = a ∧ HO.frz { cls := .type "list", data := .seq vs.toArray } (.lst (ns.map V.int)) = u := fun b u z => ite_some z
    (refine core (fun b => if b = a then some (.frz { cls := .type "list", data := .seq vs.toArray } (.lst (ns.map V.int))) else none) (fun b => ?_) (.inl (.inr ⟨{ cls := .type "list", data := .seq vs.toArray }, if_pos rfl⟩)) (fun b u z => ?_) (fun b z => ?_) fun _ => hk)
    · by_cases hb : b = a
      · (exact .inr ⟨_, _, if_pos hb⟩)
      · exact .inl (if_neg hb)
    · obtain ⟨z1, z2⟩ := lb b u z
      subst z1 z2
      (exact ⟨ha, by rw [List.length_map]; exact hl, vs, _, rv, ha⟩)
    · by_cases hb : b = a
      · exact hb
      · exact absurd (if_neg hb) z
/-- the law, from what its def computes -/
theorem law_end {l : PySem.W.OpenLaw} {n k : Nat} {q : Program} {loose : List Str} {XP : (Str → Option Value) → Heap → Prop} {d : DefRec} {M : Lm} {dl : Dd} {x : Str} {g : Nat}
    (hn : l.most = some n) (hn2 : n ≤ sizeLine) (hdf : d.params.defaults = []) (hr : Room k callerA) (hname : d.name = dl.name) (hps : dl.ps = [x]) (hdl : dl ∈ M.defs) (ok : ∀ d ∈ M.defs, DOk M d)
    (pure : ∀ ns : List Int, ns.length ≤ n → ∃ S', callI M.tbl k dl.name [.scr ns] 0 [] = .ok (.bl true) S') :
    PySem.W.WalkO q loose XP (He.hookD g M.fa M.fn).says l.row.toRowW d [] (fun f vs => PySem.call f vs) := by
  (refine Att.attach_call hn hdf fun w s₀ s₁ mg mb fa o pm cd doc a vs ns G Y ho hd hcd hmg hobj hints hlen hg => ?_)
  obtain ⟨K, KX, c⟩ := Y
  obtain ⟨fd, F⟩ := fd_of c hdl
  have e : mg d.name = some (.ref (He.ga K dl.name)) := by
    rw [hname]
    exact glo_of c KX G.T.g hdl
  have e2 := hmg.symm.trans e
  cases e2
  have b := FunD.bindsA F (ok dl hdl).bnd
  have snd := fun (base : Heap) (KB : K.In base) (GB : base.Ns mainGlobals mg) => all_sound (P := l.prog) (w := w) ok (base := base) KB GB c k dl hdl fd F
  rw [hps] at b snd
  refine law_callG (x := x) KX G.T.g G.T.b G.T.builtins G.T.nolimit hg hobj hints (Nat.le_trans hlen hn2) hr snd (fun s u => b s [u] rfl) fun H hO hS => ?_
  obtain ⟨S', hS'⟩ := pure ns hlen
  refine ⟨⟨K, He.ga K, ⟨callI M.tbl k, M.tbl.con, 0, M.wf⟩, fun _ => False, fun _ z => z.elim⟩, rfl, rfl, rfl, H, ⟨[], fun _ => none⟩, [], [.scr ns], ⟨Same.refl _, (fun _ _ z => nomatch z), (fun _ _ z => nomatch z), rfl, .nil, fun i o a z => (by simp at z)⟩, fun _ z => z.elim, .cons (.scr hS) .nil, ?_⟩
  show Post _ _ _ _ _ (callI M.tbl k dl.name [.scr ns] 0 []) _
  rw [hS']
  intro F' m' H' v _ _ _ _ r
  cases r
  rfl
end KI

/-! KQ: the interpreter by equations; how long a repr is. -/
namespace KI
open PySem L2

/-! ### equations -/
section
variable {V : Env} {L : Lc} {S : Store}
@[simp] theorem evE_cst (d : D) : evE V L (.cst d) S = .ok d S := by simp only [evE]
@[simp] theorem evE_var (i : Nat) : evE V L (.var i) S = match L[i]? with | some (some d) => .ok d S | _ => .bad := by simp only [evE] <;> rfl
@[simp] theorem evE_glob (x : Str) : evE V L (.glob x) S = ofO (V.con x) S := by simp only [evE]
@[simp] theorem evE_bin (fl : Bool) (op : Bop) (a b : E) : evE V L (.bin fl op a b) S = (evE V L a S).bind fun x S1 => (evE V L b S1).bind fun y S2 => finO fl (binop S2 op x y) S2 := by simp only [evE]
@[simp] theorem evE_un (op : Uop) (a : E) : evE V L (.un op a) S = (evE V L a S).bind fun x S1 => ofO (unop op x) S1 := by simp only [evE]
@[simp] theorem evE_cmp (op : Cop) (a b : E) : evE V L (.cmp op a b) S = (evE V L a S).bind fun x S1 => (evE V L b S1).bind fun y S2 => ofO ((cmpop S2 op x y).map D.bl) S2 := by simp only [evE]
@[simp] theorem evE_chain (op op' : Cop) (a b c : E) : evE V L (.chain op op' a b c) S = (evE V L a S).bind fun x S1 => (evE V L b S1).bind fun y S2 => (ofO (cmpop S2 op x y) S2).bind fun k S3 =>
      if k then (evE V L c S3).bind fun z S4 => ofO ((cmpop S4 op' y z).map D.bl) S4 else .ok (.bl false) S3 := by simp only [evE]
@[simp] theorem evE_and (a b : E) : evE V L (.and a b) S = (evE V L a S).bind fun x S1 => (asB x S1).bind fun k S2 => if k then evE V L b S2 else .ok (.bl false) S2 := by simp only [evE]
@[simp] theorem evE_or (a b : E) : evE V L (.or a b) S = (evE V L a S).bind fun x S1 => (asB x S1).bind fun k S2 => if k then .ok (.bl true) S2 else evE V L b S2 := by simp only [evE]
@[simp] theorem evE_ife (c a b : E) : evE V L (.ife c a b) S = (evE V L c S).bind fun x S1 => (asB x S1).bind fun k S2 => if k then evE V L a S2 else evE V L b S2 := by simp only [evE]
@[simp] theorem evE_tup (es : Es) : evE V L (.tup es) S = (evEs V L es S).bind fun xs S1 => if xs.length ≤ big then .ok (.tup xs) S1 else .bad := by simp only [evE]
@[simp] theorem evE_lst (fl : Bool) (es : Es) : evE V L (.lst fl es) S = (evEs V L es S).bind fun xs S1 => if xs.length ≤ big then fin fl (.l xs) S1 else .bad := by simp only [evE]
@[simp] theorem evE_idx (a i : E) : evE V L (.idx a i) S = (evE V L a S).bind fun x S1 => (evE V L i S1).bind fun y S2 => ofO (ixD S2 x y) S2 := by simp only [evE]
@[simp] theorem evE_slice (fl : Bool) (a lo hi : E) : evE V L (.slice fl a lo hi) S = (evE V L a S).bind fun x S1 => (evE V L lo S1).bind fun l0 S2 => (asI (isCN lo) l0 S2).bind fun l S2 => (evE V L hi S2).bind fun h0 S3 => (asI (isCN hi) h0 S3).bind fun h S3 => finO fl (slX S3 x l h) S3 := by simp only [evE]
@[simp] theorem evE_call (f : Str) (es : Es) : evE V L (.call f es) S = (evEs V L es S).bind fun xs S1 => V.call f xs V.n S1 := by simp only [evE]
@[simp] theorem evE_bi (fl : Bool) (b : Bi) (es : Es) : evE V L (.bi fl b es) S = (evEs V L es S).bind fun xs S1 => finO fl (bifn S1 b xs) S1 := by simp only [evE]
@[simp] theorem evE_bm (fl : Bool) (b : Bm) (o : E) (es : Es) : evE V L (.bm fl b o es) S = (evE V L o S).bind fun x S1 => (ofO (litems S1 x) S1).bind fun _ S1 => (evEs V L es S1).bind fun xs S2 => ofP (bmf V.n S2 b x xs) := by simp only [evE]
@[simp] theorem evEs_nil : evEs V L .nil S = .ok [] S := by simp only [evEs]
@[simp] theorem evEs_cons (e : E) (es : Es) : evEs V L (.cons e es) S = (evE V L e S).bind fun x S1 => (evEs V L es S1).bind fun xs S2 => .ok (x :: xs) S2 := by simp only [evEs]
/-- a turn of a comprehension -/
noncomputable def lcTrn (V : Env) (L : Lc) (tg : List Nat) (c e : E) (x : D) (S2 : Store) : Res (Option D) := match setT (wipeL L tg) tg x with
      | some L2 => (noX (evE V L2 c S2)).bind fun k S3 => (asB k S3).bind fun b S4 => if b then (noX (evE V L2 e S4)).bind fun y S5 => .ok (some y) S5 else .ok none S4
      | none => .bad
@[simp] theorem evE_lc (fl : Bool) (tg : List Nat) (it : It) (c e : E) : evE V L (.lc fl tg it c e) S = (evIt V L it S).bind fun xs S1 => if xs.1.length < big then (lcLoop xs.2 (lcTrn V L tg c e) xs.1 S1).bind (fun ys S2 => fin fl (.l ys) S2) else .bad := by
  simp only [evE]
  rfl
@[simp] theorem evIt_seq (e : E) : evIt V L (.seq e) S = (evE V L e S).bind fun x S1 => ofO ((items S1 x).map fun xs => (xs, gdOf x xs)) S1 := by simp only [evIt]
@[simp] theorem evIt_rng1 (a : E) : evIt V L (.rng1 a) S = (evE V L a S).bind fun x S1 => match x with
    | .int hi => ofO ((rngD 0 hi).map fun xs => (xs, [])) S1
    | _ => .bad := by simp only [evIt] <;> rfl
@[simp] theorem evIt_rng2 (a b : E) : evIt V L (.rng2 a b) S = (evE V L a S).bind fun x S1 => (evE V L b S1).bind fun y S2 => match x, y with
    | .int lo, .int hi => ofO ((rngD lo hi).map fun xs => (xs, [])) S2
    | _, _ => .bad := by simp only [evIt] <;> rfl
@[simp] theorem exB_nil : exB V .nil L S = .ok (.nx L) S := by simp only [exB]
/-- behind a statement -/
noncomputable def thenB (V : Env) (ss : Sms) (o : Out) (S1 : Store) : Res Out := match o with
    | .nx L1 => exB V ss L1 S1
    | o => .ok o S1
@[simp] theorem exB_cons (s : Sm) (ss : Sms) : exB V (.cons s ss) L S = (exS V s L S).bind (thenB V ss) := by
  simp only [exB]
  rfl
@[simp] theorem thenB_nx (ss : Sms) (L1 : Lc) : thenB V ss (.nx L1) S = exB V ss L1 S := rfl
@[simp] theorem thenB_rt (ss : Sms) (d : D) : thenB V ss (.rt d) S = .ok (.rt d) S := rfl
@[simp] theorem exS_ex (e : E) : exS V (.ex e) L S = (evE V L e S).bind fun _ S1 => .ok (.nx L) S1 := by simp only [exS]
@[simp] theorem exS_asg (i : Nat) (e : E) : exS V (.asg i e) L S = (evE V L e S).bind fun d S1 => .ok (.nx (L.set i (some d))) S1 := by simp only [exS]
@[simp] theorem exS_asgG (t : Tg) (e : E) : exS V (.asgG t e) L S = (evE V L e S).bind fun d S1 => (stT V L t d S1).bind fun L1 S2 => .ok (.nx L1) S2 := by simp only [exS]
@[simp] theorem exS_asgT (ts : List Tg) (e : E) : exS V (.asgT ts e) L S = (evE V L e S).bind fun d S1 => match titems d with
    | some ds => if ds.length = ts.length then (stTs V L ts ds S1).bind fun L1 S2 => .ok (.nx L1) S2 else .bad
    | none => .bad := by simp only [exS] <;> rfl
@[simp] theorem exS_ite (c : E) (a b : Sms) : exS V (.ite c a b) L S = (evE V L c S).bind fun x S1 => (asB x S1).bind fun k S2 => if k then exB V a L S2 else exB V b L S2 := by simp only [exS]
noncomputable def whT (V : Env) (c : E) (L : Lc) (S : Store) : Res Bool := (evE V L c S).bind fun x S1 => asB x S1
theorem exS_whil (c : E) (b : Sms) : exS V (.whil c b) L S = whLoop (whT V c) (fun L S => exB V b L S) V.wf L S := by
  simp only [exS]
  rfl
/-- a turn of a for -/
noncomputable def foTurn (V : Env) (tg : List Nat) (b : Sms) (L : Lc) (x : D) (S : Store) : Res Out := match setT L tg x with
    | some L1 => exB V b L1 S
    | none => .bad
@[simp] theorem exS_fo (tg : List Nat) (it : It) (b : Sms) : exS V (.fo tg it b) L S = (evIt V L it S).bind fun xs S1 => foLoop xs.2 (foTurn V tg b) xs.1 L S1 := by
  simp only [exS]
  rfl
@[simp] theorem exS_ret (e : E) : exS V (.ret e) L S = (evE V L e S).bind fun d S1 => .ok (.rt d) S1 := by simp only [exS]
@[simp] theorem exS_rais (c : Str) (es : Es) : exS V (.rais c es) L S = (evEs V L es S).bind fun _ S1 => .exc c [] S1 := by simp only [exS]
@[simp] theorem exS_pass : exS V .pass L S = .ok (.nx L) S := by simp only [exS]
@[simp] theorem ofO_some {α : Type} (a : α) : ofO (some a) S = .ok a S := rfl
@[simp] theorem finO_some (fl : Bool) (r : R1) : finO fl (some r) S = fin fl r S := rfl
@[simp] theorem fin_v (fl : Bool) (d : D) : fin fl (.v d) S = .ok d S := rfl
@[simp] theorem fin_t (xs : List D) : fin true (.l xs) S = .ok (.ref S.length) (S ++ [.lst xs]) := rfl
@[simp] theorem fin_f (xs : List D) : fin false (.l xs) S = .ok (.lst xs) S := rfl
@[simp] theorem asB_bl (b : Bool) : asB (.bl b) S = .ok b S := rfl
@[simp] theorem endK_rt (d : D) : endK (.ok (.rt d) S) = .ok d S := rfl
@[simp] theorem endK_nx : endK (.ok (.nx L) S) = .ok .non S := rfl
@[simp] theorem endK_exc (c : Str) (fs : List (Str × D)) : endK (.exc c fs S) = .exc c fs S := rfl
@[simp] theorem noX_ok {α : Type} (a : α) : noX (.ok a S) = .ok a S := rfl
end
theorem call_drop {T : Tbl} {F : Fn} {f : Str} (h : T.fn f = some F) (hk : F.keep = false) {as : List D} (hl : as.length = F.np) (k n : Nat) (S : Store) :
    callI T (k + 1) f as n S = dropR S.length (endK (exB ⟨callI T k, T.con, S.length, T.wf⟩ F.body (as.map some ++ List.replicate (F.ns - F.np) none) S)) := by
  simp only [callI, h, hk, if_pos hl, Bool.false_eq_true, if_false]
theorem call_keep {T : Tbl} {F : Fn} {f : Str} (h : T.fn f = some F) (hk : F.keep = true) {as : List D} (hl : as.length = F.np) (k n : Nat) (S : Store) :
    callI T (k + 1) f as n S = endK (exB ⟨callI T k, T.con, n, T.wf⟩ F.body (as.map some ++ List.replicate (F.ns - F.np) none) S) := by
  simp only [callI, h, hk, if_pos hl, if_true]
/-- a frame is left with a value that speaks of no place -/
theorem drop_ok {n : Nat} {S : Store} {d d' : D} (h : resD n S d = some d') : dropR n (.ok d S) = .ok d' (S.take n) := by simp only [dropR, h]

/-! ### ints -/
abbrev iD (ns : List Int) : List D := ns.map D.int
@[simp] theorem intsD_map : ∀ ns : List Int, intsD (ns.map D.int) = some ns
  | [] => rfl
  | n :: ns => by simp [intsD, intsD_map ns]
@[simp] theorem boolsD_map : ∀ ns : List Bool, boolsD (ns.map D.bl) = some ns
  | [] => rfl
  | n :: ns => by simp [boolsD, boolsD_map ns]
@[simp] theorem toPys_ints : ∀ ns : List Int, toPys (ns.map D.int) = some (ns.map PyData.int)
  | [] => rfl
  | n :: ns => by simp [toPys, toPy, toPys_ints ns]
@[simp] theorem resDs_ints (n : Nat) (S : Store) : ∀ ns : List Int, resDs n S (ns.map D.int) = some (ns.map D.int)
  | [] => rfl
  | i :: ns => by simp [resDs, resD, resDs_ints n S ns]
@[simp] theorem tops_ints : ∀ ns : List Int, tops (ns.map D.int) = 0
  | [] => rfl
  | n :: ns => by simp [tops, top, tops_ints ns]

@[simp] theorem eqD_int (S : Store) (i j : Int) : eqD S (.int i) (.int j) = some (i == j) := by
  simp [eqD, eqP, toPyS, toPy, SeqAt.shaped, PyData.canLay0, PyData.depth, PyData.eqv]
@[simp] theorem eqD_str (S : Store) (i j : Str) : eqD S (.str i) (.str j) = some (i == j) := rfl
/-! ### loops -/
@[simp] theorem gd_nil (S : Store) : GdOk [] S := fun _ h => by cases h
theorem lc_pure {g : Gd} {turn : D → Store → Res (Option D)} {S : Store} {f : D → D} {p : D → Bool} (hg : GdOk g S) : ∀ {xs : List D}, (∀ x ∈ xs, turn x S = .ok (if p x then some (f x) else none) S) → lcLoop g turn xs S = .ok ((xs.filter p).map f) S
  | [], _ => by
    unfold lcLoop
    rw [if_pos hg]
    rfl
  | x :: xs, h => by
    unfold lcLoop
    rw [if_pos hg, h x (by simp)]
    simp only [Res.bind_ok]
    rw [lc_pure hg fun y hy => h y (by simp [hy])]
    simp only [Res.bind_ok]
    cases hp : p x <;> simp [hp]
theorem lc_map {g : Gd} {turn : D → Store → Res (Option D)} {S : Store} {f : D → D} (hg : GdOk g S) {xs : List D} (h : ∀ x ∈ xs, turn x S = .ok (some (f x)) S) : lcLoop g turn xs S = .ok (xs.map f) S := by
  rw [lc_pure (p := fun _ => true) hg (fun x hx => by rw [h x hx]; rfl), List.filter_eq_self.mpr fun _ _ => rfl]
/-- a comprehension whose turns change the store, the rest told by an invariant -/
theorem lc_inv {turn : D → Store → Res (Option D)} {P : Store → Prop} {Q : D → Prop} : ∀ {xs : List D} {S : Store}, P S → (∀ x ∈ xs, ∀ S, P S → ∃ y S', turn x S = .ok (some y) S' ∧ P S' ∧ Q y) →
    ∃ ys S', lcLoop [] turn xs S = .ok ys S' ∧ P S' ∧ (∀ y ∈ ys, Q y) ∧ ys.length = xs.length
  | [], S, h0, _ => by
    refine ⟨[], S, ?_, h0, fun _ h => (by cases h), rfl⟩
    unfold lcLoop
    rw [if_pos (gd_nil S)]
  | x :: xs, S, h0, h => by
    obtain ⟨y, S1, e1, h1, q1⟩ := h x (by simp) S h0
    obtain ⟨ys, S2, e2, h2, q2, l2⟩ := lc_inv (xs := xs) h1 fun z hz => h z (by simp [hz])
    refine ⟨y :: ys, S2, ?_, h2, fun z hz => ?_, by simp [l2]⟩
    · unfold lcLoop
      rw [if_pos (gd_nil S), e1]
      simp only [Res.bind_ok]
      rw [e2]
      rfl
    · rcases List.mem_cons.mp hz with e | hz
      · rw [e]
        exact q1
      · exact q2 z hz
/-- a for that runs through -/
theorem fo_inv {turn : Lc → D → Store → Res Out} {P : Lc → Store → Prop} {g : Gd} (hG : ∀ L S, P L S → GdOk g S) : ∀ {xs : List D} {L : Lc} {S : Store}, P L S → (∀ x ∈ xs, ∀ L S, P L S → ∃ L' S', turn L x S = .ok (.nx L') S' ∧ P L' S') →
    ∃ L' S', foLoop g turn xs L S = .ok (.nx L') S' ∧ P L' S'
  | [], L, S, h0, _ => by
    refine ⟨L, S, ?_, h0⟩
    unfold foLoop
    rw [if_pos (hG L S h0)]
  | x :: xs, L, S, h0, h => by
    obtain ⟨L1, S1, e1, h1⟩ := h x (by simp) L S h0
    obtain ⟨L2, S2, e2, h2⟩ := fo_inv hG (xs := xs) h1 fun z hz => h z (by simp [hz])
    refine ⟨L2, S2, ?_, h2⟩
    unfold foLoop
    rw [if_pos (hG L S h0), e1]
    exact e2

/-! ### how long a repr is -/
mutual
def wid : PyData → Nat
  | .none => 4
  | .bool _ => 5
  | .int i => i.natAbs.log2 + 2
  | .str x => 10 * x.length + 2
  | .list xs => widAll xs + 3
  | .tuple xs => widAll xs + 3
  | .dict _ => 0
def widAll : List PyData → Nat
  | [] => 0
  | x :: xs => wid x + 2 + widAll xs
end
mutual
def fine : PyData → Bool
  | .none => true
  | .bool _ => true
  | .int n => decide (n.natAbs.log2 < 1920)
  | .str t => t.cps.toList.all fun u => decide (u < 16 ^ 8)
  | .list xs => fineAll xs
  | .tuple xs => fineAll xs
  | .dict _ => false
def fineAll : List PyData → Bool
  | [] => true
  | x :: xs => fine x && fineAll xs
end
theorem lenA (a b : Str) : (a ++ b).length = a.length + b.length := Str.length_append a b
theorem text_len : ∀ (ts : List Str) (k : Nat) (acc : Str), (textFrom k acc ts).length ≤ acc.length + (ts.map fun t => t.length + 2).sum
  | [], k, acc => by simp [textFrom]
  | t :: ts, k, acc => by
    have h := text_len ts (k + 1) (acc ++ (if k > 0 then ", " else "" : String) ++ t)
    have e : (acc ++ (if k > 0 then ", " else "" : String) ++ t).length ≤ acc.length + 2 + t.length := by
      rw [lenA, lenA]
      split
      · have : (Str.ofString ", ").length = 2 := by decide +kernel
        omega
      · have : (Str.ofString "").length = 0 := by decide +kernel
        omega
    simp only [textFrom, List.map_cons, List.sum_cons]
    omega
theorem join_len : ∀ ts : List Str, (Str.join ", " ts).length ≤ (ts.map fun t => t.length + 2).sum
  | [] => by simp [Str.join]; decide +kernel
  | [t] => by simp [Str.join]
  | t :: u :: ts => by
    have h := join_len (u :: ts)
    have e : Str.join ", " (t :: u :: ts) = t ++ Str.ofString ", " ++ Str.join ", " (u :: ts) := rfl
    rw [e, lenA, lenA]
    have : (Str.ofString ", ").length = 2 := by decide +kernel
    simp only [List.map_cons, List.sum_cons] at h ⊢
    omega
theorem int_len (i : Int) : (Str.ofString (toString i)).length ≤ i.natAbs.log2 + 2 := by
  (rw [PyProof.Rows.ofString_len])
  have hN : ∀ n : Nat, (Nat.repr n).length ≤ n.log2 + 1 := fun n => by
    refine (Nat.length_repr_le_iff (by omega)).mpr ?_
    have h1 : n < 2 ^ (n.log2 + 1) := Nat.lt_log2_self
    have h2 : 2 ^ (n.log2 + 1) ≤ 10 ^ (n.log2 + 1) := Nat.pow_le_pow_left (by omega) _
    omega
  cases i with
  | ofNat n =>
    have := hN n
    show (Nat.repr n).length ≤ n.log2 + 2
    omega
  | negSucc n =>
    have := hN (n + 1)
    show ("-" ++ Nat.repr (n + 1)).length ≤ (n + 1).log2 + 2
    rw [String.length_append]
    have : "-".length = 1 := by decide +kernel
    omega
mutual
theorem shown_wid : ∀ p : PyData, fine p = true → p.shown.length ≤ wid p ∧ p.showable = true ∧ p.hasDict = false
  | .none, _ => ⟨by simp only [PyData.shown]; decide +kernel, by simp only [PyData.showable], by simp only [PyData.hasDict]⟩
  | .bool b, _ => ⟨by cases b <;> simp only [PyData.shown] <;> decide +kernel, by simp only [PyData.showable], by simp only [PyData.hasDict]⟩
  | .int i, h => ⟨by simp only [PyData.shown, wid]; exact int_len i, by simpa only [PyData.showable, fine] using h, by simp only [PyData.hasDict]⟩
  | .str x, h => ⟨by
      simp only [PyData.shown, wid]
      refine PySem.StrLaws.reprText_len x fun c hc => ?_
      simp only [fine, List.all_eq_true] at h
      exact of_decide_eq_true (h c hc), by simp only [PyData.showable], by simp only [PyData.hasDict]⟩
  | .list xs, h => by
    obtain ⟨h1, h2, h3⟩ := shown_widAll xs (by simpa only [fine] using h)
    refine ⟨?_, by simpa only [PyData.showable] using h2, by simpa only [PyData.hasDict] using h3⟩
    simp only [PyData.shown, wid, listText]
    rw [lenA]
    have e := text_len (PyData.shownAll xs) 0 "["
    have e1 : (Str.ofString "[").length = 1 := by decide +kernel
    have e2 : (Str.ofString "]").length = 1 := by decide +kernel
    omega
  | .tuple xs, h => by
    obtain ⟨h1, h2, h3⟩ := shown_widAll xs (by simpa only [fine] using h)
    refine ⟨?_, by simpa only [PyData.showable] using h2, by simpa only [PyData.hasDict] using h3⟩
    simp only [PyData.shown, wid, tupleText]
    rw [lenA, lenA]
    have e := join_len (PyData.shownAll xs)
    have e1 : (Str.ofString "(").length = 1 := by decide +kernel
    have e2 : (Str.ofString ",)").length = 2 := by decide +kernel
    have e3 : (Str.ofString ")").length = 1 := by decide +kernel
    split <;> omega
  | .dict kvs, h => by simp [fine] at h
theorem shown_widAll : ∀ xs : List PyData, fineAll xs = true → ((PyData.shownAll xs).map fun t => t.length + 2).sum ≤ widAll xs ∧ PyData.showableAll xs = true ∧ PyData.hasDictAll xs = false
  | [], _ => ⟨by simp [PyData.shownAll, widAll], by simp only [PyData.showableAll], by simp only [PyData.hasDictAll]⟩
  | x :: xs, h => by
    simp only [fineAll, Bool.and_eq_true] at h
    obtain ⟨h1, h2, h3⟩ := shown_wid x h.1
    obtain ⟨g1, g2, g3⟩ := shown_widAll xs h.2
    refine ⟨?_, by simp only [PyData.showableAll, h2, g2, Bool.and_self], by simp only [PyData.hasDictAll, h3, g3, Bool.or_self]⟩
    simp only [PyData.shownAll, List.map_cons, List.sum_cons, widAll]
    omega
end
theorem show_ok {p : PyData} (h1 : fine p = true) (h2 : p.depth ≤ 64) (h3 : wid p ≤ 2 ^ 24) : showOk p = true := by
  obtain ⟨a, b, c⟩ := shown_wid p h1
  unfold showOk
  have : p.shown.length ≤ sizeLine := Nat.le_trans a h3
  simp [b, c, h2, this]
theorem fine_ints : ∀ ns : List Int, (∀ n ∈ ns, n.natAbs.log2 < 1920) → fineAll (ns.map PyData.int) = true
  | [], _ => by simp [fineAll]
  | n :: ns, h => by
    simp only [List.map_cons, fineAll, fine, Bool.and_eq_true, decide_eq_true_eq]
    exact ⟨h n (by simp), fine_ints ns fun m hm => h m (by simp [hm])⟩
theorem wid_ints : ∀ ns : List Int, (∀ n ∈ ns, n.natAbs.log2 < 1920) → widAll (ns.map PyData.int) ≤ 2000 * ns.length
  | [], _ => by simp [widAll]
  | n :: ns, h => by
    have h1 := h n (by simp)
    have h2 := wid_ints ns fun m hm => h m (by simp [hm])
    simp only [List.map_cons, widAll, wid, List.length_cons]
    omega
end KI

/-! KH: what the laws' common helpers compute. -/
namespace KI
open PySem L2
@[simp] theorem take_setS (S : Store) (j : Nat) (o : Ob) : (S.set j o).take S.length = S.set j o := List.take_of_length_le (by rw [List.length_set]; exact Nat.le_refl _)
theorem get_setS {S : Store} {j : Nat} {o o' : Ob} (h : S[j]? = some o) : (S.set j o')[j]? = some o' := List.getElem?_set_self (List.getElem?_eq_some_iff.mp h).1
theorem lt_getS {S : Store} {j : Nat} {o : Ob} (h : S[j]? = some o) : j < S.length := (List.getElem?_eq_some_iff.mp h).1
@[simp] theorem ixN3_0 : ixN 3 0 = some 0 := by decide
@[simp] theorem ixN3_1 : ixN 3 1 = some 1 := by decide
@[simp] theorem ixN3_2 : ixN 3 2 = some 2 := by decide
/-- three ints in the store -/
abbrev st3 (a b c : Int) : Ob := .lst [.int a, .int b, .int c]
theorem wr3 {S : Store} {j n : Nat} {o : Ob} {a b c : Int} (h : S[j]? = some o) : wr n S j (st3 a b c) = some (S.set j (st3 a b c)) := by
  have e : topo (st3 a b c) = 0 := by simp [topo, tops, top]
  unfold wr
  rw [if_pos ⟨lt_getS h, .inr (by rw [e]; exact Nat.zero_le _)⟩]
theorem ix3_0 {S : Store} {j : Nat} {a b c : Int} (h : S[j]? = some (st3 a b c)) : ixD S (.ref j) (.int 0) = some (.int a) := by
  simp [ixD, ixX, items, h, atI]
theorem ix3_1 {S : Store} {j : Nat} {a b c : Int} (h : S[j]? = some (st3 a b c)) : ixD S (.ref j) (.int 1) = some (.int b) := by
  simp [ixD, ixX, items, h, atI]
theorem ix3_2 {S : Store} {j : Nat} {a b c : Int} (h : S[j]? = some (st3 a b c)) : ixD S (.ref j) (.int 2) = some (.int c) := by
  simp [ixD, ixX, items, h, atI]
theorem log_lt {i : Int} {k : Nat} (h0 : 0 ≤ i) (h1 : i < 2 ^ k) (hk : 0 < k) : i.natAbs.log2 < k := by
  by_cases h : i.natAbs = 0
  · rw [h]
    simpa using hk
  · exact (Nat.log2_lt h).mpr (by
      have : (i.natAbs : Int) < 2 ^ k := by rw [Int.natAbs_of_nonneg h0]; exact h1
      exact_mod_cast this)

def HB_cell : Sms :=
  (.cons (.ite (.cmp .lt (.var 1) (.bi false .len (.cons (.var 0) .nil))) (.cons (.ret (.idx (.var 0) (.var 1))) .nil) .nil) (.cons (.ret (.cst (.int 0))) .nil))
def HB_state : Sms :=
  (.cons (.asg 2 (.call ("_law_cell_at" : Str) (.cons (.var 0) (.cons (.var 1) .nil)))) (.cons (.ret (.lst true (.cons (.bi false .max2 (.cons (.cst (.int 0)) (.cons (.bin false .sub (.var 2) (.bin false .pow (.cst (.int 10)) (.cst (.int 18)))) .nil))) (.cons (.bin false .add (.bin false .mod (.var 2) (.cst (.int 2147483629))) (.cst (.int 1))) (.cons (.cst (.int 0)) .nil))))) .nil))
def HB_choice : Sms :=
  (.cons (.ite (.cmp .gt (.idx (.var 0) (.cst (.int 0))) (.cst (.int 0))) (.cons (.asg 3 (.bin false .mod (.idx (.var 0) (.cst (.int 0))) (.var 1))) (.cons (.asgG (.sub (.var 0) (.cst (.int 0))) (.bin false .fdiv (.idx (.var 0) (.cst (.int 0))) (.var 1))) (.cons (.ret (.var 3)) .nil))) .nil) (.cons (.asgG (.sub (.var 0) (.cst (.int 2))) (.bin false .add (.idx (.var 0) (.cst (.int 2))) (.cst (.int 1)))) (.cons (.asgG (.sub (.var 0) (.cst (.int 1))) (.bin false .mod (.bin false .add (.bin false .add (.bin false .mul (.idx (.var 0) (.cst (.int 1))) (.cst (.int 48271))) (.cst (.int 29))) (.idx (.var 0) (.cst (.int 2)))) (.cst (.int 2147483647)))) (.cons (.asg 2 (.bin false .mod (.bin false .add (.bin false .add (.bin false .mul (.idx (.var 0) (.cst (.int 1))) (.idx (.var 0) (.cst (.int 1)))) (.bin false .mul (.cst (.int 39373)) (.idx (.var 0) (.cst (.int 1))))) (.cst (.int 7))) (.cst (.int 2147483629)))) (.cons (.asg 2 (.bin false .mod (.bin false .add (.bin false .mul (.var 2) (.var 2)) (.bin false .mul (.cst (.int 50021)) (.var 2))) (.cst (.int 2147483587)))) (.cons (.ret (.bin false .mod (.bin false .fdiv (.var 2) (.cst (.int 8))) (.var 1))) .nil))))))
def HB_same : Sms :=
  (.cons (.ret (.cmp .eq (.bi false .repr (.cons (.var 0) .nil)) (.bi false .repr (.cons (.var 1) .nil)))) .nil)

section
variable {T : Tbl}
theorem h_cell (t : T.fn ("_law_cell_at" : Str) = some ⟨2, 2, HB_cell, false⟩) (k n : Nat) (S : Store) (ns : List Int) (i : Int) (h0 : 0 ≤ i) : ∃ v, callI T (k + 1) ("_law_cell_at" : Str) [.scr ns, .int i] n S = .ok (.int v) S := by
  rw [call_drop t rfl rfl]
  by_cases h : i < ns.length
  · have hj : i.toNat < ns.length := by omega
    refine ⟨ns[i.toNat], ?_⟩
    have e : ixD S (.scr ns) (.int i) = some (.int ns[i.toNat]) := by
      have e1 : ixN (ns.map D.int).length i = some i.toNat := by
        unfold ixN
        rw [if_pos h0, if_pos (by rw [List.length_map]; exact h)]
      simp only [ixD, ixX, items, atI, e1, Option.bind_some, List.getElem?_map, List.getElem?_eq_getElem hj, Option.map_some]
    simp [HB_cell, cmpop, bifn, items, h, e, resD, dropR]
  · refine ⟨0, ?_⟩
    simp [HB_cell, cmpop, bifn, items, h, resD, dropR]
theorem h_state (t1 : T.fn ("_law_cell_at" : Str) = some ⟨2, 2, HB_cell, false⟩) (t : T.fn ("_law_state" : Str) = some ⟨2, 3, HB_state, true⟩) (k n : Nat) (S : Store) (ns : List Int) (i : Int) (h0 : 0 ≤ i) :
    ∃ a b, callI T (k + 2) ("_law_state" : Str) [.scr ns, .int i] n S = .ok (.ref S.length) (S ++ [st3 a b 0]) ∧ 0 ≤ b ∧ b < 2147483647 := by
  obtain ⟨v, e⟩ := h_cell t1 k n S ns i h0
  rw [call_keep t rfl rfl]
  have hp : powOk 10 18 = true := by decide +kernel
  have hm : (0 : Int) < 2147483629 := by decide
  refine ⟨if v - 10 ^ 18 > 0 then v - 10 ^ 18 else 0, v % 2147483629 + 1, ?_, by omega, by omega⟩
  simp [HB_state, e, bifn, binop, addop, intD, intop, hp, hm, big]
theorem h_choice (t : T.fn ("_law_choice" : Str) = some ⟨2, 4, HB_choice, false⟩) (k n : Nat) {S : Store} {j : Nat} {a b c m : Int} (h : S[j]? = some (st3 a b c)) (hm : 0 < m) (hm2 : m < 2 ^ 200) (hb : 0 ≤ b) (hb2 : b < 2147483647) :
    ∃ v a' b' c', callI T (k + 1) ("_law_choice" : Str) [.ref j, .int m] n S = .ok (.int v) (S.set j (st3 a' b' c')) ∧ 0 ≤ v ∧ v < m ∧ 0 ≤ b' ∧ b' < 2147483647 := by
  rw [call_drop t rfl rfl]
  have hd : divOk m = true := by
    unfold divOk
    (rw [Bool.and_eq_true, decide_eq_true_eq, decide_eq_true_eq])
    exact ⟨hm, Nat.lt_of_lt_of_le (log_lt (Int.le_of_lt hm) hm2 (by omega)) (by omega)⟩
  have hd8 : divOk 8 = true := by decide +kernel
  by_cases ha : 0 < a
  · refine ⟨a % m, a / m, b, c, ?_, Int.emod_nonneg _ (by omega), Int.emod_lt_of_pos _ hm, hb, hb2⟩
    have w := wr3 (n := S.length) (a := a / m) (b := b) (c := c) h
    simp [HB_choice, ix3_0 h, cmpop, ha, binop, intD, intop, hm, hd, stT, h, w, resD, dropR]
  · have h1 := get_setS (o' := st3 a b (c + 1)) h
    have w1 := wr3 (n := S.length) (a := a) (b := b) (c := c + 1) h
    obtain ⟨b', eb⟩ : ∃ b', b' = (b * 48271 + 29 + (c + 1)) % 2147483647 := ⟨_, rfl⟩
    have b0 : 0 ≤ b' := by omega
    have b1 : b' < 2147483647 := by omega
    have w2 := wr3 (n := S.length) (a := a) (b := b') (c := c + 1) h1
    have h2 := get_setS (o' := st3 a b' (c + 1)) h
    have lb : ∀ x : Int, 0 ≤ x → x < 2147483647 → x.natAbs.log2 < 31 := fun x h0 h1 => log_lt h0 (by omega) (by omega)
    have mk : ∀ x y : Int, 0 ≤ x → x < 2147483647 → 0 ≤ y → y < 2147483647 → mulOk x y = true := fun x y h0 h1 h2 h3 => by
      unfold mulOk
      rw [decide_eq_true_eq]
      have := lb x h0 h1
      have := lb y h2 h3
      omega
    have m1 : mulOk b 48271 = true := mk _ _ hb hb2 (by omega) (by omega)
    have m2 : mulOk b' b' = true := mk _ _ b0 b1 b0 b1
    have m3 : mulOk 39373 b' = true := mk _ _ (by omega) (by omega) b0 b1
    obtain ⟨x, ex⟩ : ∃ x, x = (b' * b' + 39373 * b' + 7) % 2147483629 := ⟨_, rfl⟩
    have x0 : 0 ≤ x := by omega
    have x1 : x < 2147483647 := by omega
    have m4 : mulOk x x = true := mk _ _ x0 x1 x0 x1
    have m5 : mulOk 50021 x = true := mk _ _ (by omega) (by omega) x0 x1
    refine ⟨(x * x + 50021 * x) % 2147483587 / 8 % m, a, b', c + 1, ?_, Int.emod_nonneg _ (by omega), Int.emod_lt_of_pos _ hm, b0, b1⟩
    simp [HB_choice, ix3_0 h, ix3_1 h1, ix3_1 h2, ix3_2 h, ix3_2 h1, cmpop, ha, binop, addop, mulop, intD, intop, hm, hd, hd8, stT, h, h1, h2, w1, m1, ← eb, w2, m2, m3, ← ex, m4, m5, resD, dropR, List.set_set]
/-- two plain values are told alike -/
theorem h_same (t : T.fn ("_law_same" : Str) = some ⟨2, 2, HB_same, false⟩) (k n : Nat) {S : Store} {x : D} {p : PyData} (hp : toPyS S x = some p) (hs : showOk p = true) :
    callI T (k + 1) ("_law_same" : Str) [x, x] n S = .ok (.bl true) S := by
  rw [call_drop t rfl rfl]
  have e : eqD S (.str p.shown) (.str p.shown) = some true := by simp [eqD]
  simp [HB_same, bifn, hp, hs, cmpop, e, resD, dropR]
end
end KI

namespace KI
open PySem L2
/-! the defs of kilnshares_k10_pence_parted -/
abbrev prg : PySem.Program := PySem.Challenge.pw_kilnshares_k10_pence_parted
def stm (i : Nat) : Stmt := prg.main.body.getD i (.Pass ⟨0, 0, 0, 0⟩)
def frees : List Str := [("all" : Str), ("bool" : Str), ("int" : Str), ("isinstance" : Str), ("len" : Str), ("max" : Str), ("min" : Str), ("range" : Str), ("repr" : Str), ("sum" : Str), ("tuple" : Str)]
def icons : List (Str × Int) := [(("PARTNERS" : Str), 8)]
def excs : List Str := [("NoPence" : Str), ("NoTurn" : Str), ("NoWeights" : Str)]
def alls : List Str := [("is_whole" : Str), ("is_between" : Str), ("are_counts" : Str), ("need_parting" : Str), ("parted_by" : Str), ("parted" : Str), ("_law_cell_at" : Str), ("_law_state" : Str), ("_law_choice" : Str), ("_law_same" : Str), ("_law_parted" : Str), ("_law_loads" : Str), ("law" : Str)]
def flags (p : Pos) : Bool := decide ((p.line, p.col) ∈ ([(27, 12), (45, 11), (60, 17), (68, 17)] : List (Nat × Nat)))
def N_is_whole : List Str := [("thing" : Str)]
def N_is_between : List Str := [("thing" : Str), ("low" : Str), ("high" : Str)]
def N_are_counts : List Str := [("thing" : Str), ("one" : Str)]
def N_need_parting : List Str := [("weights" : Str), ("pence" : Str), ("turn" : Str)]
def N_parted_by : List Str := [("weights" : Str), ("pence" : Str), ("turn" : Str), ("total" : Str), ("parts" : Str), ("odd" : Str), ("here" : Str), ("weight" : Str)]
def N_parted : List Str := [("weights" : Str), ("pence" : Str), ("turn" : Str)]
def N__law_cell_at : List Str := [("_law_script" : Str), ("_law_k" : Str)]
def N__law_state : List Str := [("_law_script" : Str), ("_law_k" : Str), ("_law_cell" : Str)]
def N__law_choice : List Str := [("_law_state_here" : Str), ("_law_many" : Str), ("_law_mixed" : Str), ("_law_found" : Str)]
def N__law_same : List Str := [("_law_found" : Str), ("_law_due" : Str)]
def N__law_parted : List Str := [("_law_weights" : Str), ("_law_pence" : Str), ("_law_turn" : Str), ("_law_total" : Str), ("_law_parts" : Str), ("_law_odd" : Str), ("_law_order" : Str), ("_law_spot" : Str), ("_law_one" : Str), ("_law_far" : Str)]
def N__law_loads : List Str := [("_law_state_here" : Str), ("_law_most" : Str), ("_law_found" : Str), ("_law_turn" : Str)]
def N_law : List Str := [("_law_script" : Str), ("_law_k" : Str), ("_law_state_here" : Str), ("_law_weights" : Str), ("_law_turn" : Str), ("_law_pence" : Str), ("_law_due" : Str), ("_law_again" : Str)]
def B_is_whole : Sms :=
  (.cons (.ret (.and (.bi false (.isI .int) (.cons (.var 0) .nil)) (.un .not (.bi false (.isI .bool) (.cons (.var 0) .nil))))) .nil)
def F_is_whole : Fn := ⟨1, 1, B_is_whole, false⟩
def d_is_whole : Dd := ⟨"is_whole", stm 7, N_is_whole, [("thing" : Str)], F_is_whole⟩
def B_is_between : Sms :=
  (.cons (.ret (.and (.call ("is_whole" : Str) (.cons (.var 0) .nil)) (.chain .le .le (.var 1) (.var 0) (.var 2)))) .nil)
def F_is_between : Fn := ⟨3, 3, B_is_between, false⟩
def d_is_between : Dd := ⟨"is_between", stm 8, N_is_between, [("thing" : Str), ("low" : Str), ("high" : Str)], F_is_between⟩
def B_are_counts : Sms :=
  (.cons (.ret (.and (.bi false (.isI .tuple) (.cons (.var 0) .nil)) (.and (.cmp .eq (.bi false .len (.cons (.var 0) .nil)) (.glob ("PARTNERS" : Str))) (.bi false .all (.cons (.lc false [1] (.seq (.var 0)) (.cst (.bl true)) (.and (.call ("is_whole" : Str) (.cons (.var 1) .nil)) (.cmp .ge (.var 1) (.cst (.int 0))))) .nil))))) .nil)
def F_are_counts : Fn := ⟨1, 2, B_are_counts, false⟩
def d_are_counts : Dd := ⟨"are_counts", stm 9, N_are_counts, [("thing" : Str)], F_are_counts⟩
def B_need_parting : Sms :=
  (.cons (.ite (.or (.un .not (.call ("are_counts" : Str) (.cons (.var 0) .nil))) (.cmp .eq (.bi false .sum (.cons (.var 0) .nil)) (.cst (.int 0)))) (.cons (.rais ("NoWeights" : Str) (.cons (.cst (.str "no weights")) .nil)) .nil) .nil) (.cons (.ite (.or (.un .not (.call ("is_whole" : Str) (.cons (.var 1) .nil))) (.cmp .lt (.var 1) (.cst (.int 0)))) (.cons (.rais ("NoPence" : Str) (.cons (.cst (.str "no pence")) .nil)) .nil) .nil) (.cons (.ite (.un .not (.call ("is_between" : Str) (.cons (.var 2) (.cons (.cst (.int 0)) (.cons (.bin false .sub (.glob ("PARTNERS" : Str)) (.cst (.int 1))) .nil))))) (.cons (.rais ("NoTurn" : Str) (.cons (.cst (.str "no turn")) .nil)) .nil) .nil) .nil)))
def F_need_parting : Fn := ⟨3, 3, B_need_parting, false⟩
def d_need_parting : Dd := ⟨"need_parting", stm 10, N_need_parting, [("weights" : Str), ("pence" : Str), ("turn" : Str)], F_need_parting⟩
def B_parted_by : Sms :=
  (.cons (.asg 3 (.bi false .sum (.cons (.var 0) .nil))) (.cons (.asg 4 (.lc true [7] (.seq (.var 0)) (.cst (.bl true)) (.bin false .fdiv (.bin false .mul (.var 1) (.var 7)) (.var 3)))) (.cons (.asgT [.nm 5, .nm 6] (.tup (.cons (.bin false .sub (.var 1) (.bi false .sum (.cons (.var 4) .nil))) (.cons (.var 2) .nil)))) (.cons (.whil (.cmp .gt (.var 5) (.cst (.int 0))) (.cons (.ite (.cmp .gt (.idx (.var 0) (.var 6)) (.cst (.int 0))) (.cons (.asgG (.sub (.var 4) (.var 6)) (.bin false .add (.idx (.var 4) (.var 6)) (.cst (.int 1)))) (.cons (.asg 5 (.bin false .sub (.var 5) (.cst (.int 1)))) .nil)) .nil) (.cons (.asg 6 (.bin false .mod (.bin false .add (.var 6) (.cst (.int 1))) (.glob ("PARTNERS" : Str)))) .nil))) (.cons (.ret (.tup (.cons (.bi false .tuple (.cons (.var 4) .nil)) (.cons (.var 6) .nil)))) .nil)))))
def F_parted_by : Fn := ⟨3, 8, B_parted_by, false⟩
def d_parted_by : Dd := ⟨"parted_by", stm 11, N_parted_by, [("weights" : Str), ("pence" : Str), ("turn" : Str)], F_parted_by⟩
def B_parted : Sms :=
  (.cons (.ex (.call ("need_parting" : Str) (.cons (.var 0) (.cons (.var 1) (.cons (.var 2) .nil))))) (.cons (.ret (.call ("parted_by" : Str) (.cons (.var 0) (.cons (.var 1) (.cons (.var 2) .nil))))) .nil))
def F_parted : Fn := ⟨3, 3, B_parted, false⟩
def d_parted : Dd := ⟨"parted", stm 12, N_parted, [("weights" : Str), ("pence" : Str), ("turn" : Str)], F_parted⟩
def B__law_cell_at : Sms :=
  (.cons (.ite (.cmp .lt (.var 1) (.bi false .len (.cons (.var 0) .nil))) (.cons (.ret (.idx (.var 0) (.var 1))) .nil) .nil) (.cons (.ret (.cst (.int 0))) .nil))
def F__law_cell_at : Fn := ⟨2, 2, B__law_cell_at, false⟩
def d__law_cell_at : Dd := ⟨"_law_cell_at", stm 14, N__law_cell_at, [("_law_script" : Str), ("_law_k" : Str)], F__law_cell_at⟩
def B__law_state : Sms :=
  (.cons (.asg 2 (.call ("_law_cell_at" : Str) (.cons (.var 0) (.cons (.var 1) .nil)))) (.cons (.ret (.lst true (.cons (.bi false .max2 (.cons (.cst (.int 0)) (.cons (.bin false .sub (.var 2) (.bin false .pow (.cst (.int 10)) (.cst (.int 18)))) .nil))) (.cons (.bin false .add (.bin false .mod (.var 2) (.cst (.int 2147483629))) (.cst (.int 1))) (.cons (.cst (.int 0)) .nil))))) .nil))
def F__law_state : Fn := ⟨2, 3, B__law_state, true⟩
def d__law_state : Dd := ⟨"_law_state", stm 15, N__law_state, [("_law_script" : Str), ("_law_k" : Str)], F__law_state⟩
def B__law_choice : Sms :=
  (.cons (.ite (.cmp .gt (.idx (.var 0) (.cst (.int 0))) (.cst (.int 0))) (.cons (.asg 3 (.bin false .mod (.idx (.var 0) (.cst (.int 0))) (.var 1))) (.cons (.asgG (.sub (.var 0) (.cst (.int 0))) (.bin false .fdiv (.idx (.var 0) (.cst (.int 0))) (.var 1))) (.cons (.ret (.var 3)) .nil))) .nil) (.cons (.asgG (.sub (.var 0) (.cst (.int 2))) (.bin false .add (.idx (.var 0) (.cst (.int 2))) (.cst (.int 1)))) (.cons (.asgG (.sub (.var 0) (.cst (.int 1))) (.bin false .mod (.bin false .add (.bin false .add (.bin false .mul (.idx (.var 0) (.cst (.int 1))) (.cst (.int 48271))) (.cst (.int 29))) (.idx (.var 0) (.cst (.int 2)))) (.cst (.int 2147483647)))) (.cons (.asg 2 (.bin false .mod (.bin false .add (.bin false .add (.bin false .mul (.idx (.var 0) (.cst (.int 1))) (.idx (.var 0) (.cst (.int 1)))) (.bin false .mul (.cst (.int 39373)) (.idx (.var 0) (.cst (.int 1))))) (.cst (.int 7))) (.cst (.int 2147483629)))) (.cons (.asg 2 (.bin false .mod (.bin false .add (.bin false .mul (.var 2) (.var 2)) (.bin false .mul (.cst (.int 50021)) (.var 2))) (.cst (.int 2147483587)))) (.cons (.ret (.bin false .mod (.bin false .fdiv (.var 2) (.cst (.int 8))) (.var 1))) .nil))))))
def F__law_choice : Fn := ⟨2, 4, B__law_choice, false⟩
def d__law_choice : Dd := ⟨"_law_choice", stm 16, N__law_choice, [("_law_state_here" : Str), ("_law_many" : Str)], F__law_choice⟩
def B__law_same : Sms :=
  (.cons (.ret (.cmp .eq (.bi false .repr (.cons (.var 0) .nil)) (.bi false .repr (.cons (.var 1) .nil)))) .nil)
def F__law_same : Fn := ⟨2, 2, B__law_same, false⟩
def d__law_same : Dd := ⟨"_law_same", stm 17, N__law_same, [("_law_found" : Str), ("_law_due" : Str)], F__law_same⟩
def B__law_parted : Sms :=
  (.cons (.asg 3 (.bi false .sum (.cons (.var 0) .nil))) (.cons (.asg 4 (.lc true [8] (.seq (.var 0)) (.cst (.bl true)) (.bin false .fdiv (.bin false .mul (.var 1) (.var 8)) (.var 3)))) (.cons (.asg 5 (.bin false .sub (.var 1) (.bi false .sum (.cons (.var 4) .nil)))) (.cons (.asg 6 (.lc false [9] (.rng1 (.cst (.int 8))) (.cmp .gt (.idx (.var 0) (.bin false .mod (.bin false .add (.var 2) (.var 9)) (.cst (.int 8)))) (.cst (.int 0))) (.bin false .mod (.bin false .add (.var 2) (.var 9)) (.cst (.int 8))))) (.cons (.fo [7] (.seq (.slice false (.var 6) (.cst .non) (.var 5))) (.cons (.asgG (.sub (.var 4) (.var 7)) (.bin false .add (.idx (.var 4) (.var 7)) (.cst (.int 1)))) .nil)) (.cons (.ret (.tup (.cons (.bi false .tuple (.cons (.var 4) .nil)) (.cons (.ife (.cmp .gt (.var 5) (.cst (.int 0))) (.bin false .mod (.bin false .add (.idx (.var 6) (.bin false .sub (.var 5) (.cst (.int 1)))) (.cst (.int 1))) (.cst (.int 8))) (.var 2)) .nil)))) .nil))))))
def F__law_parted : Fn := ⟨3, 10, B__law_parted, false⟩
def d__law_parted : Dd := ⟨"_law_parted", stm 18, N__law_parted, [("_law_weights" : Str), ("_law_pence" : Str), ("_law_turn" : Str)], F__law_parted⟩
def B__law_loads : Sms :=
  (.cons (.asg 1 (.idx (.lst false (.cons (.cst (.int 2)) (.cons (.cst (.int 6)) (.cons (.cst (.int 61)) (.cons (.bin false .pow (.cst (.int 10)) (.cst (.int 28))) .nil))))) (.call ("_law_choice" : Str) (.cons (.var 0) (.cons (.cst (.int 4)) .nil))))) (.cons (.asg 2 (.lc true [3] (.rng1 (.cst (.int 8))) (.cst (.bl true)) (.call ("_law_choice" : Str) (.cons (.var 0) (.cons (.var 1) .nil))))) (.cons (.ite (.cmp .eq (.bi false .sum (.cons (.var 2) .nil)) (.cst (.int 0))) (.cons (.asgG (.sub (.var 2) (.call ("_law_choice" : Str) (.cons (.var 0) (.cons (.cst (.int 8)) .nil)))) (.bin false .add (.cst (.int 1)) (.call ("_law_choice" : Str) (.cons (.var 0) (.cons (.cst (.int 60)) .nil))))) .nil) .nil) (.cons (.ret (.bi false .tuple (.cons (.var 2) .nil))) .nil))))
def F__law_loads : Fn := ⟨1, 4, B__law_loads, false⟩
def d__law_loads : Dd := ⟨"_law_loads", stm 19, N__law_loads, [("_law_state_here" : Str)], F__law_loads⟩
def B_law : Sms :=
  (.cons (.fo [1] (.rng1 (.bi false .max2 (.cons (.cst (.int 1)) (.cons (.bi false .min2 (.cons (.bi false .len (.cons (.var 0) .nil)) (.cons (.cst (.int 8)) .nil))) .nil)))) (.cons (.asg 2 (.call ("_law_state" : Str) (.cons (.var 0) (.cons (.var 1) .nil)))) (.cons (.asg 3 (.call ("_law_loads" : Str) (.cons (.var 2) .nil))) (.cons (.fo [4] (.rng1 (.cst (.int 8))) (.cons (.asg 5 (.call ("_law_choice" : Str) (.cons (.var 2) (.cons (.idx (.lst false (.cons (.cst (.int 1)) (.cons (.cst (.int 9)) (.cons (.cst (.int 60)) (.cons (.bin false .pow (.cst (.int 10)) (.cst (.int 4))) (.cons (.bin false .pow (.cst (.int 10)) (.cst (.int 30))) .nil)))))) (.call ("_law_choice" : Str) (.cons (.var 2) (.cons (.cst (.int 5)) .nil)))) .nil)))) (.cons (.asg 6 (.call ("_law_parted" : Str) (.cons (.var 3) (.cons (.var 5) (.cons (.var 4) .nil))))) (.cons (.fo [7] (.rng1 (.cst (.int 2))) (.cons (.ite (.un .not (.call ("_law_same" : Str) (.cons (.call ("parted" : Str) (.cons (.var 3) (.cons (.var 5) (.cons (.var 4) .nil)))) (.cons (.var 6) .nil)))) (.cons (.ret (.cst (.bl false))) .nil) .nil) .nil)) .nil)))) .nil)))) (.cons (.ret (.cst (.bl true))) .nil))
def F_law : Fn := ⟨1, 8, B_law, false⟩
def d_law : Dd := ⟨"law", stm 20, N_law, [("_law_script" : Str)], F_law⟩
def dds : List Dd := [d_is_whole, d_is_between, d_are_counts, d_need_parting, d_parted_by, d_parted, d__law_cell_at, d__law_state, d__law_choice, d__law_same, d__law_parted, d__law_loads, d_law]
def lm : Lm := ⟨dds, frees, icons, excs, flags, 100000⟩
theorem ok_is_whole : DOk lm d_is_whole := ⟨⟨rfl, rfl, rfl, by decide +kernel, rfl, by decide +kernel, by decide +kernel⟩, rfl, rfl, by kernel_rfl, fun _ _ _ _ _ _ us hl => match us, hl with | [_], _ => rfl, by kernel_rfl⟩
theorem ok_is_between : DOk lm d_is_between := ⟨⟨rfl, rfl, rfl, by decide +kernel, rfl, by decide +kernel, by decide +kernel⟩, rfl, rfl, by kernel_rfl, fun _ _ _ _ _ _ us hl => match us, hl with | [_, _, _], _ => rfl, by kernel_rfl⟩
theorem ok_are_counts : DOk lm d_are_counts := ⟨⟨rfl, rfl, rfl, by decide +kernel, rfl, by decide +kernel, by decide +kernel⟩, rfl, rfl, by kernel_rfl, fun _ _ _ _ _ _ us hl => match us, hl with | [_], _ => rfl, by kernel_rfl⟩
theorem ok_need_parting : DOk lm d_need_parting := ⟨⟨rfl, rfl, rfl, by decide +kernel, rfl, by decide +kernel, by decide +kernel⟩, rfl, rfl, by kernel_rfl, fun _ _ _ _ _ _ us hl => match us, hl with | [_, _, _], _ => rfl, by kernel_rfl⟩
theorem ok_parted_by : DOk lm d_parted_by := ⟨⟨rfl, rfl, rfl, by decide +kernel, rfl, by decide +kernel, by decide +kernel⟩, rfl, rfl, by kernel_rfl, fun _ _ _ _ _ _ us hl => match us, hl with | [_, _, _], _ => rfl, by kernel_rfl⟩
theorem ok_parted : DOk lm d_parted := ⟨⟨rfl, rfl, rfl, by decide +kernel, rfl, by decide +kernel, by decide +kernel⟩, rfl, rfl, by kernel_rfl, fun _ _ _ _ _ _ us hl => match us, hl with | [_, _, _], _ => rfl, by kernel_rfl⟩
theorem ok__law_cell_at : DOk lm d__law_cell_at := ⟨⟨rfl, rfl, rfl, by decide +kernel, rfl, by decide +kernel, by decide +kernel⟩, rfl, rfl, by kernel_rfl, fun _ _ _ _ _ _ us hl => match us, hl with | [_, _], _ => rfl, by kernel_rfl⟩
theorem ok__law_state : DOk lm d__law_state := ⟨⟨rfl, rfl, rfl, by decide +kernel, rfl, by decide +kernel, by decide +kernel⟩, rfl, rfl, by kernel_rfl, fun _ _ _ _ _ _ us hl => match us, hl with | [_, _], _ => rfl, by kernel_rfl⟩
theorem ok__law_choice : DOk lm d__law_choice := ⟨⟨rfl, rfl, rfl, by decide +kernel, rfl, by decide +kernel, by decide +kernel⟩, rfl, rfl, by kernel_rfl, fun _ _ _ _ _ _ us hl => match us, hl with | [_, _], _ => rfl, by kernel_rfl⟩
theorem ok__law_same : DOk lm d__law_same := ⟨⟨rfl, rfl, rfl, by decide +kernel, rfl, by decide +kernel, by decide +kernel⟩, rfl, rfl, by kernel_rfl, fun _ _ _ _ _ _ us hl => match us, hl with | [_, _], _ => rfl, by kernel_rfl⟩
theorem ok__law_parted : DOk lm d__law_parted := ⟨⟨rfl, rfl, rfl, by decide +kernel, rfl, by decide +kernel, by decide +kernel⟩, rfl, rfl, by kernel_rfl, fun _ _ _ _ _ _ us hl => match us, hl with | [_, _, _], _ => rfl, by kernel_rfl⟩
theorem ok__law_loads : DOk lm d__law_loads := ⟨⟨rfl, rfl, rfl, by decide +kernel, rfl, by decide +kernel, by decide +kernel⟩, rfl, rfl, by kernel_rfl, fun _ _ _ _ _ _ us hl => match us, hl with | [_], _ => rfl, by kernel_rfl⟩
theorem ok_law : DOk lm d_law := ⟨⟨rfl, rfl, rfl, by decide +kernel, rfl, by decide +kernel, by decide +kernel⟩, rfl, rfl, by kernel_rfl, fun _ _ _ _ _ _ us hl => match us, hl with | [_], _ => rfl, by kernel_rfl⟩
theorem t_is_whole : lm.tbl.fn ("is_whole" : Str) = some F_is_whole := ok_is_whole.fnd
theorem t_is_between : lm.tbl.fn ("is_between" : Str) = some F_is_between := ok_is_between.fnd
theorem t_are_counts : lm.tbl.fn ("are_counts" : Str) = some F_are_counts := ok_are_counts.fnd
theorem t_need_parting : lm.tbl.fn ("need_parting" : Str) = some F_need_parting := ok_need_parting.fnd
theorem t_parted_by : lm.tbl.fn ("parted_by" : Str) = some F_parted_by := ok_parted_by.fnd
theorem t_parted : lm.tbl.fn ("parted" : Str) = some F_parted := ok_parted.fnd
theorem t__law_cell_at : lm.tbl.fn ("_law_cell_at" : Str) = some F__law_cell_at := ok__law_cell_at.fnd
theorem t__law_state : lm.tbl.fn ("_law_state" : Str) = some F__law_state := ok__law_state.fnd
theorem t__law_choice : lm.tbl.fn ("_law_choice" : Str) = some F__law_choice := ok__law_choice.fnd
theorem t__law_same : lm.tbl.fn ("_law_same" : Str) = some F__law_same := ok__law_same.fnd
theorem t__law_parted : lm.tbl.fn ("_law_parted" : Str) = some F__law_parted := ok__law_parted.fnd
theorem t__law_loads : lm.tbl.fn ("_law_loads" : Str) = some F__law_loads := ok__law_loads.fnd
theorem t_law : lm.tbl.fn ("law" : Str) = some F_law := ok_law.fnd
theorem oks : ∀ d ∈ lm.defs, DOk lm d := fun d h => by
  have h : d ∈ dds := h
  simp only [dds, List.mem_cons, List.not_mem_nil, or_false] at h
  rcases h with rfl | rfl | rfl | rfl | rfl | rfl | rfl | rfl | rfl | rfl | rfl | rfl | rfl
  · exact ok_is_whole
  · exact ok_is_between
  · exact ok_are_counts
  · exact ok_need_parting
  · exact ok_parted_by
  · exact ok_parted
  · exact ok__law_cell_at
  · exact ok__law_state
  · exact ok__law_choice
  · exact ok__law_same
  · exact ok__law_parted
  · exact ok__law_loads
  · exact ok_law
def names : List Str := [("BookError" : Str), ("NoWeights" : Str), ("NoPence" : Str), ("NoTurn" : Str), ("PARTNERS" : Str), ("is_whole" : Str), ("is_between" : Str), ("are_counts" : Str), ("need_parting" : Str), ("parted_by" : Str), ("parted" : Str), ("_law_cell_at" : Str), ("_law_state" : Str), ("_law_choice" : Str), ("_law_same" : Str), ("_law_parted" : Str), ("_law_loads" : Str)]
abbrev R : PySem.W.OpenRow := PySem.W.OpenLaw.row PySem.Challenge.rw_kilnshares_k10_pence_parted
abbrev hk : PySem.W.Hook := He.hookD 5 lm.fa lm.fn
def ob (s : PySem.W.SharedT) : He.AlD := He.obsDG 5 lm.fa lm.fn (HandSHeadRun.getT s)
theorem ob_eq (z : PySem.W.SharedT) : ob z = hk.obs z.abs := He.obsDG_eq (HandSHeadRun.getT_eq z)
theorem run (w : World) : HandSHeadRun.RunEq R (PySem.W.view R.prog [20]) hk ob 6000 names w := by
  intro os
  kernel_rfl

/-! k10: the plain part. -/
def wAt (ws : List Int) (h : Int) : Int := ws[h.toNat]?.getD 0
def bump (l : List Int) (h : Int) : List Int := l.set h.toNat (wAt l h + 1)
theorem bump_len (l : List Int) (h : Int) : (bump l h).length = l.length := by simp [bump]
def spots : Int → Nat → List Int
  | _, 0 => []
  | h, n + 1 => h :: spots ((h + 1) % 8) n
def posn (ws : List Int) (h : Int) (n : Nat) : List Int := (spots h n).filter fun i => decide (0 < wAt ws i)
def go (ws : List Int) : Nat → List Int → Int → Int → List Int × Int
  | 0, l, h, _ => (l, h)
  | n + 1, l, h, odd => if 0 < odd then (if 0 < wAt ws h then go ws n (bump l h) ((h + 1) % 8) (odd - 1) else go ws n l ((h + 1) % 8) odd) else (l, h)
def endH (ps : List Int) (odd h : Int) : Int := if 0 < odd then (wAt ps (odd - 1) + 1) % 8 else h
theorem go_eq (ws : List Int) : ∀ (n : Nat) (l : List Int) (h odd : Int), 0 ≤ odd → odd ≤ (posn ws h n).length → go ws n l h odd = (((posn ws h n).take odd.toNat).foldl bump l, endH (posn ws h n) odd h)
  | 0, l, h, odd, h0, h1 => by
    have e : odd = 0 := by
      simp [posn, spots] at h1
      omega
    subst e
    simp [go, endH]
  | n + 1, l, h, odd, h0, h1 => by
    by_cases hp : 0 < odd
    · by_cases hw : 0 < wAt ws h
      · have e : posn ws h (n + 1) = h :: posn ws ((h + 1) % 8) n := by simp [posn, spots, hw]
        rw [e] at h1 ⊢
        rw [List.length_cons] at h1
        simp only [go, if_pos hp, if_pos hw]
        rw [go_eq ws n _ _ _ (by omega) (by omega)]
        have et : odd.toNat = (odd - 1).toNat + 1 := by omega
        rw [et, List.take_succ_cons, List.foldl_cons]
        refine Prod.ext rfl ?_
        show endH _ _ _ = endH _ _ _
        unfold endH
        rw [if_pos hp]
        by_cases h2 : 0 < odd - 1
        · rw [if_pos h2]
          have : (odd - 1).toNat = (odd - 1 - 1).toNat + 1 := by omega
          simp only [wAt, this, List.getElem?_cons_succ]
        · rw [if_neg h2]
          have : (odd - 1).toNat = 0 := by omega
          simp only [wAt, this, List.getElem?_cons_zero, Option.getD_some]
      · have e : posn ws h (n + 1) = posn ws ((h + 1) % 8) n := by simp [posn, spots, hw]
        rw [e] at h1 ⊢
        simp only [go, if_pos hp, if_neg hw]
        rw [go_eq ws n _ _ _ h0 h1]
        simp only [endH, if_pos hp]
    · have e : odd = 0 := by omega
      subst e
      simp [go, endH]

theorem con8 : lm.tbl.con ("PARTNERS" : Str) = some (.int 8) := by kernel_rfl
theorem ixT {S : Store} {ws : List Int} {h : Int} (hl : ws.length = 8) (h0 : 0 ≤ h) (h1 : h < 8) : ixD S (.tup (iD ws)) (.int h) = some (.int (wAt ws h)) := by
  have hj : h.toNat < ws.length := by omega
  have e1 : ixN (ws.map D.int).length h = some h.toNat := by
    unfold ixN
    rw [if_pos h0, if_pos (by rw [List.length_map, hl]; exact h1)]
  simp only [ixD, ixX, items, atI, e1, Option.bind_some, List.getElem?_map, wAt]
  simp [List.getElem?_eq_getElem hj]
theorem getL {S : Store} {o : Ob} : (S ++ [o])[S.length]? = some o := by simp
theorem setL {S : Store} {o o' : Ob} : (S ++ [o]).set S.length o' = S ++ [o'] := by simp
theorem wrL {S : Store} {o o' : Ob} : wr S.length (S ++ [o]) S.length o' = some (S ++ [o']) := by
  unfold wr
  rw [if_pos ⟨by simp, .inl (Nat.le_refl _)⟩, setL]
theorem ixL {S : Store} {l : List Int} {h : Int} (hl : l.length = 8) (h0 : 0 ≤ h) (h1 : h < 8) : ixD (S ++ [.lst (iD l)]) (.ref S.length) (.int h) = some (.int (wAt l h)) := by
  have hj : h.toNat < l.length := by omega
  have e1 : ixN (l.map D.int).length h = some h.toNat := by
    unfold ixN
    rw [if_pos h0, if_pos (by rw [List.length_map, hl]; exact h1)]
  simp only [ixD, ixX, items, getL, atI, e1, Option.bind_some, List.getElem?_map, wAt]
  simp [List.getElem?_eq_getElem hj]
theorem ixN8 {l : List Int} {h : Int} (hl : l.length = 8) (h0 : 0 ≤ h) (h1 : h < 8) : ixN (iD l).length h = some h.toNat := by
  unfold ixN
  rw [if_pos h0, if_pos (by rw [List.length_map, hl]; exact h1)]
theorem setD (l : List Int) (h : Int) : (iD l).set h.toNat (.int (wAt l h + 1)) = iD (bump l h) := by simp [iD, bump, List.map_set]

theorem s_whole (k n : Nat) (S : Store) (i : Int) : callI lm.tbl (k + 1) ("is_whole" : Str) [.int i] n S = .ok (.bl true) S := by
  rw [call_drop t_is_whole rfl rfl]
  simp [F_is_whole, B_is_whole, bifn, hasTy, unop, resD, dropR]
theorem s_counts (k n : Nat) (S : Store) {ws : List Int} (hl : ws.length = 8) (h0 : ∀ w ∈ ws, 0 ≤ w) : callI lm.tbl (k + 2) ("are_counts" : Str) [.tup (iD ws)] n S = .ok (.bl true) S := by
  rw [call_drop t_are_counts rfl rfl]
  have e : ∀ V : Env, V.call = callI lm.tbl (k + 1) → lcLoop [] (lcTrn V [some (.tup (iD ws)), none] [1] (.cst (.bl true)) (.and (.call ("is_whole" : Str) (.cons (.var 1) .nil)) (.cmp .ge (.var 1) (.cst (.int 0))))) (iD ws) S = .ok ((iD ws).map fun _ => .bl true) S := fun V hV => by
    refine lc_map (gd_nil S) fun x hx => ?_
    obtain ⟨w, hw, rfl⟩ := List.mem_map.mp hx
    simp [lcTrn, setT, wipeL, hV, s_whole, cmpop, h0 w hw]
  obtain ⟨bs, e2, hbs⟩ : ∃ bs : List Bool, (iD ws).map (fun _ => D.bl true) = bs.map D.bl ∧ bs.all id = true := ⟨ws.map fun _ => true, by simp [iD], by simp⟩
  rw [e2] at e
  have e3 : (iD ws).length = 8 := by simp [hl]
  have e4 : eqD S (.int 8) (.int 8) = some true := by
    simp [eqD, eqP, toPyS, toPy, SeqAt.shaped, PyData.canLay0, PyData.depth, PyData.eqv]
  simp [F_are_counts, B_are_counts, bifn, hasTy, items, hl, con8, cmpop, e4, gdOf, big, litems, resD, dropR]
  rw [e _ rfl]
  simp [litems, resD, dropR, hbs]
theorem s_need (k n : Nat) (S : Store) {ws : List Int} (hl : ws.length = 8) (h0 : ∀ w ∈ ws, 0 ≤ w) (hs : 0 < ws.sum) {p t : Int} (hp : 0 ≤ p) (ht : 0 ≤ t) (ht2 : t < 8) : callI lm.tbl (k + 3) ("need_parting" : Str) [.tup (iD ws), .int p, .int t] n S = .ok .non S := by
  rw [call_drop t_need_parting rfl rfl]
  have e4 : ¬ ws.sum = 0 := by omega
  have hb : callI lm.tbl (k + 2) ("is_between" : Str) [.int t, .int 0, .int 7] S.length S = .ok (.bl true) S := by
    rw [call_drop t_is_between rfl rfl]
    have : t ≤ 7 := by omega
    simp [F_is_between, B_is_between, s_whole, cmpop, ht, this, resD, dropR]
  have hp' : ¬ p < 0 := by omega
  simp [F_need_parting, B_need_parting, s_counts k _ S hl h0, unop, bifn, cmpop, e4, s_whole (k + 1), hp', con8, binop, intD, intop, hb, resD, dropR]

/-! ### parted_by -/
section
variable {ws : List Int} {S : Store} {p t tot : Int} {k : Nat}
noncomputable abbrev Vk (k n : Nat) : Env := ⟨callI lm.tbl k, lm.tbl.con, n, lm.tbl.wf⟩
def Lw (ws : List Int) (p t tot : Int) (n : Nat) (h odd : Int) : Lc := [some (.tup (iD ws)), some (.int p), some (.int t), some (.int tot), some (.ref n), some (.int odd), some (.int h), none]
def whC : E := .cmp .gt (.var 5) (.cst (.int 0))
def whB : Sms := (.cons (.ite (.cmp .gt (.idx (.var 0) (.var 6)) (.cst (.int 0))) (.cons (.asgG (.sub (.var 4) (.var 6)) (.bin false .add (.idx (.var 4) (.var 6)) (.cst (.int 1)))) (.cons (.asg 5 (.bin false .sub (.var 5) (.cst (.int 1)))) .nil)) .nil) (.cons (.asg 6 (.bin false .mod (.bin false .add (.var 6) (.cst (.int 1))) (.glob ("PARTNERS" : Str)))) .nil))
theorem w_test (h odd : Int) (S' : Store) : whT (Vk k S.length) whC (Lw ws p t tot S.length h odd) S' = .ok (decide (0 < odd)) S' := by
  simp [whT, whC, Lw, cmpop]
theorem w_hit {l : List Int} {h odd : Int} (hl : ws.length = 8) (h0 : 0 ≤ h) (h1 : h < 8) (ll : l.length = 8) (hw : 0 < wAt ws h) :
    exB (Vk k S.length) whB (Lw ws p t tot S.length h odd) (S ++ [.lst (iD l)]) = .ok (.nx (Lw ws p t tot S.length ((h + 1) % 8) (odd - 1))) (S ++ [.lst (iD (bump l h))]) := by
  have e := ixN8 ll h0 h1
  rw [List.length_map] at e
  simp [whB, Lw, ixT hl h0 h1, cmpop, hw, ixL ll h0 h1, binop, addop, stT, e, setD, wrL, intD, intop, con8]
theorem w_miss {l : List Int} {h odd : Int} (hl : ws.length = 8) (h0 : 0 ≤ h) (h1 : h < 8) (hw : ¬ 0 < wAt ws h) :
    exB (Vk k S.length) whB (Lw ws p t tot S.length h odd) (S ++ [.lst (iD l)]) = .ok (.nx (Lw ws p t tot S.length ((h + 1) % 8) odd)) (S ++ [.lst (iD l)]) := by
  simp [whB, Lw, ixT hl h0 h1, cmpop, hw, binop, addop, intD, intop, con8]
theorem w_loop (hl : ws.length = 8) : ∀ (n K : Nat) (l : List Int) (h odd : Int), n < K → l.length = 8 → 0 ≤ h → h < 8 → 0 ≤ odd → odd ≤ (posn ws h n).length →
    ∃ odd', whLoop (whT (Vk k S.length) whC) (fun L S' => exB (Vk k S.length) whB L S') K (Lw ws p t tot S.length h odd) (S ++ [.lst (iD l)]) = .ok (.nx (Lw ws p t tot S.length (go ws n l h odd).2 odd')) (S ++ [.lst (iD (go ws n l h odd).1)])
  | n, 0, l, h, odd, hK, ll, h0, h1, o0, o1 => by omega
  | 0, K + 1, l, h, odd, hK, ll, h0, h1, o0, o1 => by
    have e : odd = 0 := by
      simp [posn, spots] at o1
      omega
    subst e
    refine ⟨0, ?_⟩
    unfold whLoop
    rw [w_test]
    simp [go]
  | n + 1, K + 1, l, h, odd, hK, ll, h0, h1, o0, o1 => by
    unfold whLoop
    rw [w_test]
    by_cases hp : 0 < odd
    · simp only [decide_eq_true hp, Res.bind_ok]
      by_cases hw : 0 < wAt ws h
      · have e : posn ws h (n + 1) = h :: posn ws ((h + 1) % 8) n := by simp [posn, spots, hw]
        rw [e, List.length_cons] at o1
        rw [w_hit hl h0 h1 ll hw]
        simp only [Res.bind_ok, go, if_pos hp, if_pos hw]
        exact w_loop hl n K _ _ _ (by omega) (by rw [bump_len]; exact ll) (by omega) (by omega) (by omega) (by omega)
      · have e : posn ws h (n + 1) = posn ws ((h + 1) % 8) n := by simp [posn, spots, hw]
        rw [e] at o1
        rw [w_miss hl h0 h1 hw]
        simp only [Res.bind_ok, go, if_pos hp, if_neg hw]
        exact w_loop hl n K _ _ _ (by omega) ll (by omega) (by omega) o0 o1
    · refine ⟨odd, ?_⟩
      simp [decide_eq_false hp, go, if_neg hp]
end

/-! ### the sums -/
def q0 (ws : List Int) (p : Int) : List Int := ws.map fun w => p * w / ws.sum
structure Wok (ws : List Int) : Prop where
  len : ws.length = 8
  lo : ∀ w ∈ ws, 0 ≤ w
  hi : ∀ w ∈ ws, w < 2 ^ 100
  pos : 0 < ws.sum
theorem sum_hi : ∀ {l : List Int} {b : Int}, (∀ w ∈ l, w < b) → 0 ≤ b → l.sum ≤ b * l.length
  | [], b, _, _ => by simp
  | x :: l, b, h, hb => by
    have h1 := h x (by simp)
    have h2 := sum_hi (l := l) (b := b) (fun w hw => h w (by simp [hw])) hb
    rw [List.sum_cons, List.length_cons, Int.natCast_add, Int.mul_add]
    have : b * ((1 : Nat) : Int) = b := by simp
    omega
theorem Wok.dv {ws : List Int} (W : Wok ws) : divOk ws.sum = true := by
  have h := sum_hi (l := ws) W.hi (by decide)
  rw [W.len] at h
  unfold divOk
  (rw [Bool.and_eq_true, decide_eq_true_eq, decide_eq_true_eq])
  exact ⟨W.pos, Nat.lt_of_lt_of_le (log_lt (k := 110) (Int.le_of_lt W.pos) (by omega) (by omega)) (by omega)⟩
theorem mul_small {x y : Int} (h0 : 0 ≤ x) (h1 : x < 2 ^ 110) (h2 : 0 ≤ y) (h3 : y < 2 ^ 110) : mulOk x y = true := by
  unfold mulOk
  rw [decide_eq_true_eq]
  have := log_lt h0 h1 (by omega)
  have := log_lt h2 h3 (by omega)
  omega
def npos (ws : List Int) : Nat := (ws.filter fun w => decide (0 < w)).length
/-- what is left is less than one for each that weighs -/
theorem left_le {T p : Int} (hT : 0 < T) (hp : 0 ≤ p) : ∀ {ws : List Int}, (∀ w ∈ ws, 0 ≤ w) → T * (ws.map fun w => p * w / T).sum ≤ p * ws.sum ∧ p * ws.sum ≤ T * (ws.map fun w => p * w / T).sum + (T - 1) * (npos ws : Int)
  | [], _ => by simp [npos]
  | w :: ws, h => by
    obtain ⟨h1, h2⟩ := left_le hT hp (ws := ws) fun x hx => h x (by simp [hx])
    have hw := h w (by simp)
    have e1 : T * (p * w / T) + p * w % T = p * w := Int.mul_ediv_add_emod (p * w) T
    have e2 := Int.emod_nonneg (p * w) (show T ≠ 0 by omega)
    have e3 := Int.emod_lt_of_pos (p * w) hT
    simp only [List.map_cons, List.sum_cons, Int.mul_add]
    by_cases h0 : 0 < w
    · have e : (npos (w :: ws) : Int) = npos ws + 1 := by simp [npos, h0]
      rw [e, Int.mul_add, Int.mul_one]
      omega
    · have ew : w = 0 := by omega
      subst ew
      have e : (npos (0 :: ws) : Int) = npos ws := by simp [npos]
      rw [e]
      simp
      omega
theorem odd_ok {ws : List Int} (W : Wok ws) {p : Int} (hp : 0 ≤ p) : 0 ≤ p - (q0 ws p).sum ∧ p - (q0 ws p).sum ≤ npos ws := by
  obtain ⟨h1, h2⟩ := left_le W.pos hp W.lo
  have e : (q0 ws p).sum = (ws.map fun w => p * w / ws.sum).sum := rfl
  rw [← e] at h1 h2
  obtain ⟨Q, hQ⟩ : ∃ Q, Q = (q0 ws p).sum := ⟨_, rfl⟩
  obtain ⟨T, hT⟩ : ∃ T, T = ws.sum := ⟨_, rfl⟩
  obtain ⟨N, hN⟩ : ∃ N : Int, N = npos ws := ⟨_, rfl⟩
  have T0 : 0 < T := hT ▸ W.pos
  rw [← hQ, ← hT] at h1 h2
  rw [← hN] at h2
  rw [← hQ, ← hN]
  have N0 : 0 ≤ N := by omega
  have e1 : T * (p - Q) = p * T - T * Q := by rw [Int.mul_sub, Int.mul_comm T p]
  refine ⟨?_, ?_⟩
  · have h3 : 0 ≤ T * (p - Q) := by omega
    exact Int.nonneg_of_mul_nonneg_right h3 T0
  · have h4 : T * (p - Q) ≤ T * N := by
      have : (T - 1) * N = T * N - N := by rw [Int.sub_mul, Int.one_mul]
      omega
    exact Int.le_of_mul_le_mul_left h4 T0
theorem eight {ws : List Int} (h : ws.length = 8) : ∃ a b c d e f g i, ws = [a, b, c, d, e, f, g, i] := by
  match ws, h with
  | [a, b, c, d, e, f, g, i], _ => exact ⟨a, b, c, d, e, f, g, i, rfl⟩
theorem tcases {t : Int} (h0 : 0 ≤ t) (h1 : t < 8) : t = 0 ∨ t = 1 ∨ t = 2 ∨ t = 3 ∨ t = 4 ∨ t = 5 ∨ t = 6 ∨ t = 7 := by omega
theorem pos_len {ws : List Int} (hl : ws.length = 8) {t : Int} (h0 : 0 ≤ t) (h1 : t < 8) : (posn ws t 8).length = npos ws := by
  obtain ⟨a, b, c, d, e, f, g, i, rfl⟩ := eight hl
  unfold posn npos
  rw [← List.countP_eq_length_filter, ← List.countP_eq_length_filter]
  rcases tcases h0 h1 with rfl | rfl | rfl | rfl | rfl | rfl | rfl | rfl <;> simp [spots, List.countP_cons, wAt] <;> omega
theorem spots_in : ∀ (n : Nat) (t : Int), 0 ≤ t → t < 8 → ∀ x ∈ spots t n, 0 ≤ x ∧ x < 8
  | 0, _, _, _, x, hx => by cases hx
  | n + 1, t, h0, h1, x, hx => by
    (rcases List.mem_cons.mp hx with e | hx)
    · subst e
      exact ⟨h0, h1⟩
    · exact spots_in n _ (by omega) (by omega) x hx
theorem pos_in {ws : List Int} {t : Int} (h0 : 0 ≤ t) (h1 : t < 8) : ∀ x ∈ posn ws t 8, 0 ≤ x ∧ x < 8 := fun x hx => spots_in 8 t h0 h1 x (List.mem_filter.mp hx).1

/-! ### both ways to part -/
def ans (ws : List Int) (p t : Int) : List Int := ((posn ws t 8).take (p - (q0 ws p).sum).toNat).foldl bump (q0 ws p)
def turn (ws : List Int) (p t : Int) : Int := endH (posn ws t 8) (p - (q0 ws p).sum) t
def due (ws : List Int) (p t : Int) : D := .tup [.tup (iD (ans ws p t)), .int (turn ws p t)]
theorem q0_len {ws : List Int} {p : Int} : (q0 ws p).length = ws.length := by simp [q0]
theorem lc_q {ws : List Int} (W : Wok ws) {p : Int} (hp : 0 ≤ p) (hp2 : p < 2 ^ 110) (S : Store) (V : Env) (L : Lc) (i : Nat) (hi : i < L.length) (h1 : ∀ d, ((wipeL L [i]).set i d)[1]? = some (some (.int p))) (h3 : ∀ d, ((wipeL L [i]).set i d)[3]? = some (some (.int ws.sum))) :
    lcLoop [] (lcTrn V L [i] (.cst (.bl true)) (.bin false .fdiv (.bin false .mul (.var 1) (.var i)) (.var 3))) (iD ws) S = .ok (iD (q0 ws p)) S := by
  have e := lc_map (turn := lcTrn V L [i] (.cst (.bl true)) (.bin false .fdiv (.bin false .mul (.var 1) (.var i)) (.var 3))) (gd_nil S) (xs := iD ws) (f := fun x => match x with | .int w => .int (p * w / ws.sum) | d => d) fun x hx => ?_
  · rw [e]
    simp [iD, q0, Function.comp_def]
  · obtain ⟨w, hw, rfl⟩ := List.mem_map.mp hx
    have m := mul_small hp hp2 (W.lo w hw) (by have := W.hi w hw; omega)
    have hii : ((wipeL L [i]).set i (some (D.int w)))[i]? = some (some (.int w)) := List.getElem?_set_self (by simp [wipeL, hi])
    simp only [lcTrn, setT, evE_cst, noX_ok, Res.bind_ok, asB_bl, if_true, evE_bin, evE_var, h1, h3, hii, binop, mulop, m, finO_some, fin_v, intD, intop, W.dv]
theorem s_parted_by {ws : List Int} (W : Wok ws) {p t : Int} (hp : 0 ≤ p) (hp2 : p < 2 ^ 110) (ht : 0 ≤ t) (ht2 : t < 8) (k n : Nat) (S : Store) : callI lm.tbl (k + 1) ("parted_by" : Str) [.tup (iD ws), .int p, .int t] n S = .ok (due ws p t) S := by
  rw [call_drop t_parted_by rfl rfl]
  obtain ⟨o0, o1⟩ := odd_ok W hp
  have pl := pos_len W.len ht ht2
  have lc := lc_q W hp hp2 S (Vk k S.length) [some (.tup (iD ws)), some (.int p), some (.int t), some (.int ws.sum), none, none, none, none] 7 (by simp) (fun _ => rfl) (fun _ => rfl)
  obtain ⟨o', lp⟩ := w_loop (S := S) (p := p) (t := t) (tot := ws.sum) (k := k) W.len 8 100000 (q0 ws p) t (p - (q0 ws p).sum) (by omega) (q0_len.trans W.len) ht ht2 o0 (by rw [pl]; exact o1)
  rw [go_eq ws 8 _ _ _ o0 (by rw [pl]; exact o1)] at lp
  have hw : lm.tbl.wf = 100000 := rfl
  have lp' : exS (Vk k S.length) (.whil whC whB) (Lw ws p t ws.sum S.length t (p - (q0 ws p).sum)) (S ++ [.lst (iD (q0 ws p))]) = _ := (exS_whil _ _).trans lp
  unfold Lw whC whB Vk at lp'
  unfold Vk at lc
  have lt := W.len
  simp [F_parted_by, B_parted_by, bifn, items, gdOf, big, lt, lc, binop, intD, intop, litems, titems, stTs, stT, lp', resD, resDs, dropR, due, ans, turn]
/-! ### the law's own way -/
theorem ixF {S : Store} {l : List Int} {h : Int} (h0 : 0 ≤ h) (h1 : h < l.length) : ixD S (.lst (iD l)) (.int h) = some (.int (wAt l h)) := by
  have hj : h.toNat < l.length := by omega
  have e1 : ixN (l.map D.int).length h = some h.toNat := by
    unfold ixN
    rw [if_pos h0, if_pos (by rw [List.length_map]; exact h1)]
  simp only [ixD, ixX, items, atI, e1, Option.bind_some, List.getElem?_map, wAt]
  simp [List.getElem?_eq_getElem hj]
theorem rng8 : rngD 0 8 = some (iD [0, 1, 2, 3, 4, 5, 6, 7]) := by rfl
theorem spots8 {t : Int} (h0 : 0 ≤ t) (h1 : t < 8) : ([0, 1, 2, 3, 4, 5, 6, 7] : List Int).map (fun f => (t + f) % 8) = spots t 8 := by
  rcases tcases h0 h1 with rfl | rfl | rfl | rfl | rfl | rfl | rfl | rfl <;> rfl
theorem lc_order {ws : List Int} (hl : ws.length = 8) {t : Int} (h0 : 0 ≤ t) (h1 : t < 8) (S : Store) (V : Env) (p tot odd : Int) (r : D) :
    lcLoop [] (lcTrn V [some (.tup (iD ws)), some (.int p), some (.int t), some (.int tot), some r, some (.int odd), none, none, none, none] [9] (.cmp .gt (.idx (.var 0) (.bin false .mod (.bin false .add (.var 2) (.var 9)) (.cst (.int 8)))) (.cst (.int 0))) (.bin false .mod (.bin false .add (.var 2) (.var 9)) (.cst (.int 8)))) (iD [0, 1, 2, 3, 4, 5, 6, 7]) S = .ok (iD (posn ws t 8)) S := by
  rw [lc_pure (p := fun x => match x with | .int f => decide (0 < wAt ws ((t + f) % 8)) | _ => false) (f := fun x => match x with | .int f => .int ((t + f) % 8) | d => d) (gd_nil S) fun x hx => ?_]
  · rw [posn, ← spots8 h0 h1, iD, iD, List.filter_map, List.filter_map, List.map_map, List.map_map]
    rfl
  · obtain ⟨f, hf, rfl⟩ := List.mem_map.mp hx
    have a0 : 0 ≤ (t + f) % 8 := by omega
    have a1 : (t + f) % 8 < 8 := by omega
    by_cases hw : 0 < wAt ws ((t + f) % 8) <;> simp [lcTrn, setT, wipeL, binop, addop, intD, intop, ixT hl a0 a1, cmpop, hw]
def Lp (ws : List Int) (p t tot : Int) (n : Nat) (odd : Int) (ps : List Int) (sp : Option D) : Lc := [some (.tup (iD ws)), some (.int p), some (.int t), some (.int tot), some (.ref n), some (.int odd), some (.lst (iD ps)), sp, none, none]
def foB : Sms := (.cons (.asgG (.sub (.var 4) (.var 7)) (.bin false .add (.idx (.var 4) (.var 7)) (.cst (.int 1)))) .nil)
theorem f_loop {ws ps : List Int} {p t tot odd : Int} {S : Store} {V : Env} (hV : V.n = S.length) : ∀ (xs l : List Int) (sp : Option D), l.length = 8 → (∀ x ∈ xs, 0 ≤ x ∧ x < 8) →
    ∃ sp', foLoop [] (foTurn V [7] foB) (iD xs) (Lp ws p t tot S.length odd ps sp) (S ++ [.lst (iD l)]) = .ok (.nx (Lp ws p t tot S.length odd ps sp')) (S ++ [.lst (iD (xs.foldl bump l))])
  | [], l, sp, ll, _ => by
    refine ⟨sp, ?_⟩
    show foLoop [] _ [] _ _ = _
    unfold foLoop
    rw [if_pos (gd_nil _)]
    rfl
  | x :: xs, l, sp, ll, h => by
    obtain ⟨h0, h1⟩ := h x (by simp)
    obtain ⟨sp', e⟩ := f_loop hV xs (bump l x) (some (.int x)) (by rw [bump_len]; exact ll) fun y hy => h y (by simp [hy])
    refine ⟨sp', ?_⟩
    show foLoop [] _ (.int x :: iD xs) _ _ = _
    unfold foLoop
    rw [if_pos (gd_nil _)]
    have t1 : foTurn V [7] foB (Lp ws p t tot S.length odd ps sp) (.int x) (S ++ [.lst (iD l)]) = .ok (.nx (Lp ws p t tot S.length odd ps (some (.int x)))) (S ++ [.lst (iD (bump l x))]) := by
      have e2 := ixN8 ll h0 h1
      rw [List.length_map] at e2
      simp [foTurn, setT, Lp, foB, ixL ll h0 h1, binop, addop, stT, e2, setD, hV, wrL]
    rw [t1]
    simp only [Res.bind_ok, List.foldl_cons]
    exact e
theorem s_due {ws : List Int} (W : Wok ws) {p t : Int} (hp : 0 ≤ p) (hp2 : p < 2 ^ 110) (ht : 0 ≤ t) (ht2 : t < 8) (k n : Nat) (S : Store) : callI lm.tbl (k + 1) ("_law_parted" : Str) [.tup (iD ws), .int p, .int t] n S = .ok (due ws p t) S := by
  rw [call_drop t__law_parted rfl rfl]
  obtain ⟨o0, o1⟩ := odd_ok W hp
  have pl := pos_len W.len ht ht2
  obtain ⟨odd, eo⟩ : ∃ odd, odd = p - (q0 ws p).sum := ⟨_, rfl⟩
  rw [← eo] at o0 o1
  have lc := lc_q W hp hp2 S (Vk k S.length) [some (.tup (iD ws)), some (.int p), some (.int t), some (.int ws.sum), none, none, none, none, none, none] 8 (by simp) (fun _ => rfl) (fun _ => rfl)
  have lo := lc_order W.len ht ht2 (S ++ [.lst (iD (q0 ws p))]) (Vk k S.length) p ws.sum odd (.ref S.length)
  obtain ⟨sp, lf⟩ := f_loop (ws := ws) (ps := posn ws t 8) (p := p) (t := t) (tot := ws.sum) (odd := odd) (S := S) (V := Vk k S.length) rfl ((posn ws t 8).take odd.toNat) (q0 ws p) none (q0_len.trans W.len) fun x hx => pos_in ht ht2 x (List.mem_of_mem_take hx)
  replace lo : lcLoop [] (lcTrn _ _ _ _ _) [.int 0, .int 1, .int 2, .int 3, .int 4, .int 5, .int 6, .int 7] _ = _ := lo
  unfold Vk at lc lo lf
  unfold Lp foB at lf
  have lt := W.len
  have cut : cutD (iD (posn ws t 8)) none (some odd) = iD ((posn ws t 8).take odd.toNat) := by
    unfold cutD
    have h1 : HT.sIx (iD (posn ws t 8)).length 0 none = 0 := rfl
    have h2 : HT.sIx (iD (posn ws t 8)).length (iD (posn ws t 8)).length (some odd) = odd.toNat := by
      have e : odd = (odd.toNat : Int) := by omega
      rw [e, HT.sIx_nat, List.length_map]
      omega
    rw [h1, h2, List.drop_zero, Nat.sub_zero, iD, iD, List.map_take]
  have pl8 : (posn ws t 8).length < 100000 := by
    have : npos ws ≤ ws.length := List.length_filter_le _ _
    omega
  obtain ⟨xs, hx⟩ : ∃ xs, (posn ws t 8).take odd.toNat = xs := ⟨_, rfl⟩
  rw [hx] at lf cut
  by_cases h0 : 0 < odd
  · have e := ixF (S := S ++ [.lst (iD (xs.foldl bump (q0 ws p)))]) (l := posn ws t 8) (h := odd - 1) (by omega) (by omega)
    simp [F__law_parted, B__law_parted, bifn, items, gdOf, big, lt, lc, binop, intD, intop, litems, ← eo, rng8, lo, pl8, isCN, asI, slX, slL, cut, lf, cmpop, h0, e, addop, resD, resDs, dropR, due, ans, turn, endH, hx]
  · simp [F__law_parted, B__law_parted, bifn, items, gdOf, big, lt, lc, binop, intD, intop, litems, ← eo, rng8, lo, pl8, isCN, asI, slX, slL, cut, lf, cmpop, h0, addop, resD, resDs, dropR, due, ans, turn, endH, hx]

/-! ### the law's draws -/
theorem ch (k n : Nat) {S : Store} {j : Nat} {a b c m : Int} (l : Store) (hj : j < S.length) (hm : 0 < m) (hm2 : m < 2 ^ 200) (hb : 0 ≤ b ∧ b < 2147483647) :
    ∃ v a' b' c', callI lm.tbl (k + 1) ("_law_choice" : Str) [.ref j, .int m] n (S.set j (st3 a b c) ++ l) = .ok (.int v) (S.set j (st3 a' b' c') ++ l) ∧ 0 ≤ v ∧ v < m ∧ 0 ≤ b' ∧ b' < 2147483647 := by
  have hj' : j < (S.set j (st3 a b c)).length := by rw [List.length_set]; exact hj
  have g : (S.set j (st3 a b c) ++ l)[j]? = some (st3 a b c) := by
    rw [List.getElem?_append_left hj', List.getElem?_set_self hj]
  obtain ⟨v, a', b', c', e, q⟩ := h_choice t__law_choice k n g hm hm2 hb.1 hb.2
  refine ⟨v, a', b', c', ?_, q⟩
  rw [e, List.set_append_left _ _ hj', List.set_set]
theorem set_same {S : Store} {j : Nat} {o : Ob} (h : S[j]? = some o) : S.set j o = S := by
  obtain ⟨h1, h2⟩ := List.getElem?_eq_some_iff.mp h
  rw [← h2]
  exact List.set_getElem_self h1
theorem ints_of {P : Int → Prop} : ∀ {ys : List D}, (∀ y ∈ ys, ∃ i, y = .int i ∧ P i) → ∃ is, ys = iD is ∧ ∀ i ∈ is, P i
  | [], _ => ⟨[], rfl, fun _ h => by cases h⟩
  | y :: ys, h => by
    obtain ⟨i, e, p⟩ := h y (by simp)
    obtain ⟨is, e2, p2⟩ := ints_of (ys := ys) fun z hz => h z (by simp [hz])
    refine ⟨i :: is, by rw [e, e2]; rfl, fun z hz => ?_⟩
    rcases List.mem_cons.mp hz with q | hz
    · rw [q]
      exact p
    · exact p2 z hz
theorem sum_nn : ∀ {l : List Int}, (∀ w ∈ l, 0 ≤ w) → 0 ≤ l.sum
  | [], _ => by simp
  | x :: l, h => by
    have h1 := h x (by simp)
    have h2 := sum_nn (l := l) fun w hw => h w (by simp [hw])
    rw [List.sum_cons]
    omega
theorem sum_pos : ∀ {l : List Int} {x : Int}, (∀ w ∈ l, 0 ≤ w) → x ∈ l → 0 < x → 0 < l.sum
  | y :: l, x, h, hx, h0 => by
    have h1 := h y (by simp)
    have h2 := sum_nn (l := l) fun w hw => h w (by simp [hw])
    rw [List.sum_cons]
    (rcases List.mem_cons.mp hx with e | hx)
    · omega
    · have := sum_pos (l := l) (fun w hw => h w (by simp [hw])) hx h0
      omega
theorem wrS {S S' : Store} {o o' : Ob} (h : S'.length = S.length) : wr S.length (S' ++ [o]) S.length o' = some (S' ++ [o']) := by
  rw [← h]
  exact wrL
theorem getS {S S' : Store} {o : Ob} (h : S'.length = S.length) : (S' ++ [o])[S.length]? = some o := by
  rw [← h]
  exact getL
theorem most_ok {v : Int} (h0 : 0 ≤ v) (h1 : v < 4) : 0 < wAt [2, 6, 61, 10000000000000000000000000000] v ∧ wAt [2, 6, 61, 10000000000000000000000000000] v < 2 ^ 99 := by
  have : v = 0 ∨ v = 1 ∨ v = 2 ∨ v = 3 := by omega
  rcases this with rfl | rfl | rfl | rfl <;> decide
theorem s_loads (k n : Nat) {S : Store} {j : Nat} {a b c : Int} (h : S[j]? = some (st3 a b c)) (hb : 0 ≤ b ∧ b < 2147483647) :
    ∃ ws a' b' c', callI lm.tbl (k + 2) ("_law_loads" : Str) [.ref j] n S = .ok (.tup (iD ws)) (S.set j (st3 a' b' c')) ∧ Wok ws ∧ 0 ≤ b' ∧ b' < 2147483647 := by
  rw [call_drop t__law_loads rfl rfl]
  have hj := lt_getS h
  obtain ⟨v, a1, b1, c1, e1, v0, v1, hb1⟩ := ch k S.length (S := S) (a := a) (b := b) (c := c) (m := 4) [] hj (by omega) (by omega) hb
  rw [List.append_nil, List.append_nil, set_same h] at e1
  obtain ⟨m0, m1⟩ := most_ok v0 v1
  obtain ⟨m, em⟩ : ∃ m, m = wAt [2, 6, 61, 10000000000000000000000000000] v := ⟨_, rfl⟩
  have ix := ixF (S := S.set j (st3 a1 b1 c1)) (l := [2, 6, 61, 10000000000000000000000000000]) (h := v) v0 v1
  rw [← em] at m0 m1 ix
  have hp : powOk 10 28 = true := by decide +kernel
  obtain ⟨ys, S2, e2, ⟨a2, b2, c2, eS2, hb2⟩, q2, l2⟩ := lc_inv (turn := lcTrn (Vk (k + 1) S.length) [some (.ref j), some (.int m), none, none] [3] (.cst (.bl true)) (.call ("_law_choice" : Str) (.cons (.var 0) (.cons (.var 1) .nil)))) (xs := iD [0, 1, 2, 3, 4, 5, 6, 7])
    (P := fun S' => ∃ a b c, S' = S.set j (st3 a b c) ∧ 0 ≤ b ∧ b < 2147483647) (Q := fun y => ∃ i, y = .int i ∧ 0 ≤ i ∧ i < m) (S := S.set j (st3 a1 b1 c1)) ⟨a1, b1, c1, rfl, hb1⟩ fun x hx S' ⟨a, b, c, eS, hb⟩ => by
      obtain ⟨u, a', b', c', e, u0, u1, hb'⟩ := ch k S.length (S := S) (a := a) (b := b) (c := c) (m := m) [] hj m0 (by omega) hb
      rw [List.append_nil, List.append_nil] at e
      refine ⟨.int u, S.set j (st3 a' b' c'), ?_, ⟨a', b', c', rfl, hb'⟩, u, rfl, u0, u1⟩
      subst eS
      simp [lcTrn, setT, wipeL, e]
  subst eS2
  obtain ⟨ws, rfl, hws⟩ := ints_of q2
  have wl : ws.length = 8 := by simpa using l2
  replace e2 : lcLoop [] (lcTrn _ _ _ _ _) [.int 0, .int 1, .int 2, .int 3, .int 4, .int 5, .int 6, .int 7] _ = _ := e2
  unfold Vk at e2
  have len2 : ∀ a b c, (S.set j (st3 a b c)).length = S.length := fun _ _ _ => List.length_set
  replace ix : ixD _ (.lst [.int 2, .int 6, .int 61, .int 10000000000000000000000000000]) _ = _ := ix
  have rng : rngD 0 8 = some [.int 0, .int 1, .int 2, .int 3, .int 4, .int 5, .int 6, .int 7] := rng8
  have tk : ∀ a b c (o : Ob), (S.set j (st3 a b c) ++ [o]).take S.length = S.set j (st3 a b c) := fun a b c o => by
    rw [← len2 a b c]
    exact List.take_left
  have gS := fun a b c o => getS (S := S) (S' := S.set j (st3 a b c)) (o := o) (len2 a b c)
  by_cases hs : ws.sum = 0
  · obtain ⟨u, a3, b3, c3, e3, u0, u1, hb3⟩ := ch k S.length (S := S) (a := a2) (b := b2) (c := c2) (m := 60) [.lst (iD ws)] hj (by omega) (by omega) hb2
    obtain ⟨x, a4, b4, c4, e4, x0, x1, hb4⟩ := ch k S.length (S := S) (a := a3) (b := b3) (c := c3) (m := 8) [.lst (iD ws)] hj (by omega) (by omega) hb3
    have hx : x.toNat < ws.length := by omega
    have hin : 1 + u ∈ ws.set x.toNat (1 + u) := List.mem_iff_getElem?.mpr ⟨x.toNat, List.getElem?_set_self hx⟩
    have nn : ∀ w ∈ ws.set x.toNat (1 + u), 0 ≤ w ∧ w < 2 ^ 100 := fun w hw => by
      rcases List.mem_or_eq_of_mem_set hw with hw | e
      · have := hws w hw
        omega
      · omega
    refine ⟨ws.set x.toNat (1 + u), a4, b4, c4, ?_, ⟨by simp [wl], fun w hw => (nn w hw).1, fun w hw => (nn w hw).2, sum_pos (fun w hw => (nn w hw).1) hin (by omega)⟩, hb4⟩
    have i8 := ixN8 wl x0 x1
    rw [List.length_map] at i8
    have sD : (iD ws).set x.toNat (.int (1 + u)) = iD (ws.set x.toNat (1 + u)) := by simp [iD, List.map_set]
    have w4 := wrS (S := S) (S' := S.set j (st3 a4 b4 c4)) (o := .lst (iD ws)) (o' := .lst (iD (ws.set x.toNat (1 + u)))) (len2 a4 b4 c4)
    obtain ⟨ws', ew⟩ : ∃ ws', ws.set x.toNat (1 + u) = ws' := ⟨_, rfl⟩
    rw [ew] at sD w4 ⊢
    simp [F__law_loads, B__law_loads, big, binop, intD, intop, hp, e1, ix, rng, e2, bifn, litems, gS, hs, cmpop, e3, addop, e4, stT, i8, sD, w4, resD, dropR, tk]
  · have s0 := sum_nn fun w hw => (hws w hw).1
    refine ⟨ws, a2, b2, c2, ?_, ⟨wl, fun w hw => (hws w hw).1, fun w hw => by have := (hws w hw).2; omega, by omega⟩, hb2⟩
    simp [F__law_loads, B__law_loads, big, binop, intD, intop, hp, e1, ix, rng, e2, bifn, litems, gS, hs, cmpop, resD, dropR, tk]

/-! ### told alike -/
theorem bump_in {B : Int} : ∀ {xs l : List Int} , (∀ x ∈ l, 0 ≤ x ∧ x < B) → 0 < B → ∀ x ∈ xs.foldl bump l, 0 ≤ x ∧ x < B + xs.length
  | [], l, h, hB, x, hx => by
    have := h x hx
    simp
    omega
  | y :: xs, l, h, hB, x, hx => by
    have h2 : ∀ z ∈ bump l y, 0 ≤ z ∧ z < B + 1 := fun z hz => by
      rcases List.mem_or_eq_of_mem_set hz with hz | e
      · have := h z hz
        omega
      · have : 0 ≤ wAt l y ∧ wAt l y < B := by
          unfold wAt
          cases e2 : l[y.toNat]? with
          | none => simp; omega
          | some v => exact h v (List.mem_of_getElem? e2)
        omega
    have := bump_in (xs := xs) h2 (by omega) x hx
    rw [List.length_cons]
    omega
theorem le_sum : ∀ {l : List Int}, (∀ w ∈ l, 0 ≤ w) → ∀ w ∈ l, w ≤ l.sum
  | y :: l, h, w, hw => by
    have h1 := h y (by simp)
    have h2 := sum_nn (l := l) fun w hw => h w (by simp [hw])
    rw [List.sum_cons]
    rcases List.mem_cons.mp hw with e | hw
    · omega
    · have := le_sum (l := l) (fun w hw => h w (by simp [hw])) w hw
      omega
theorem ans_in {ws : List Int} (W : Wok ws) {p t : Int} (hp : 0 ≤ p) (hp2 : p < 2 ^ 110) (ht : 0 ≤ t) (ht2 : t < 8) : ∀ x ∈ ans ws p t, 0 ≤ x ∧ x < 2 ^ 220 := fun x hx => by
  have hq : ∀ y ∈ q0 ws p, 0 ≤ y ∧ y < 2 ^ 111 := fun y hy => by
    obtain ⟨w, hw, rfl⟩ := List.mem_map.mp hy
    have h1 := W.lo w hw
    have h2 := le_sum W.lo w hw
    have h3 : 0 ≤ p * w := Int.mul_nonneg hp h1
    have h4 : p * w ≤ p * ws.sum := Int.mul_le_mul_of_nonneg_left h2 hp
    have h5 : p * w / ws.sum ≤ p := Int.ediv_le_of_le_mul W.pos h4
    have h6 : 0 ≤ p * w / ws.sum := Int.ediv_nonneg h3 (Int.le_of_lt W.pos)
    omega
  have h := bump_in hq (by omega) x hx
  have hl : ((posn ws t 8).take (p - (q0 ws p).sum).toNat).length ≤ 8 := by
    have h1 : npos ws ≤ ws.length := List.length_filter_le _ _
    have h2 := pos_len W.len ht ht2
    rw [List.length_take, h2]
    have := W.len
    omega
  omega
theorem depth_ints : ∀ ns : List Int, PyData.depthAll (ns.map PyData.int) ≤ 1
  | [] => (by simp [PyData.depthAll])
  | n :: ns => by
    have := depth_ints ns
    (simp only [List.map_cons, PyData.depthAll, PyData.depth])
    omega
theorem bump_lens : ∀ (xs l : List Int), (xs.foldl bump l).length = l.length
  | [], _ => rfl
  | x :: xs, l => by rw [List.foldl_cons, bump_lens xs, bump_len]
theorem due_show {ws : List Int} (W : Wok ws) {p t : Int} (hp : 0 ≤ p) (hp2 : p < 2 ^ 110) (ht : 0 ≤ t) (ht2 : t < 8) (S : Store) : ∃ P, toPyS S (due ws p t) = some P ∧ showOk P = true := by
  have hin := ans_in W hp hp2 ht ht2
  have lg : ∀ n ∈ ans ws p t, n.natAbs.log2 < 1920 := fun n hn => Nat.lt_trans (log_lt (k := 220) (hin n hn).1 (hin n hn).2 (by omega)) (by omega)
  have al : (ans ws p t).length = 8 := by
    unfold ans
    rw [bump_lens, q0_len]
    exact W.len
  have tn : 0 ≤ turn ws p t ∧ turn ws p t < 8 := by
    unfold turn endH
    split <;> omega
  have tl : (turn ws p t).natAbs.log2 < 1920 := Nat.lt_trans (log_lt (k := 4) tn.1 (by omega) (by omega)) (by omega)
  refine ⟨.tuple [.tuple ((ans ws p t).map .int), .int (turn ws p t)], by simp [due, toPyS, toPy, toPys], show_ok ?_ ?_ ?_⟩
  · simp [fine, fineAll, fine_ints _ lg, tl]
  · have := depth_ints (ans ws p t)
    (simp only [PyData.depth, PyData.depthAll])
    omega
  · have := wid_ints _ lg
    rw [al] at this
    simp only [wid, widAll]
    omega
theorem res_due {ws : List Int} {p t : Int} (n : Nat) (S : Store) : resD n S (due ws p t) = some (due ws p t) := by simp [due, resD, resDs]
theorem s_parted {ws : List Int} (W : Wok ws) {p t : Int} (hp : 0 ≤ p) (hp2 : p < 2 ^ 110) (ht : 0 ≤ t) (ht2 : t < 8) (k n : Nat) (S : Store) : callI lm.tbl (k + 4) ("parted" : Str) [.tup (iD ws), .int p, .int t] n S = .ok (due ws p t) S := by
  rw [call_drop t_parted rfl rfl]
  simp [F_parted, B_parted, s_need k S.length S W.len W.lo W.pos hp ht ht2, s_parted_by W hp hp2 ht ht2 (k + 2), res_due, dropR]
/-! ### the law -/
theorem chA (k n : Nat) {S : Store} {a b c m : Int} (hm : 0 < m) (hm2 : m < 2 ^ 200) (hb : 0 ≤ b ∧ b < 2147483647) :
    ∃ v a' b' c', callI lm.tbl (k + 1) ("_law_choice" : Str) [.ref S.length, .int m] n (S ++ [st3 a b c]) = .ok (.int v) (S ++ [st3 a' b' c']) ∧ 0 ≤ v ∧ v < m ∧ 0 ≤ b' ∧ b' < 2147483647 := by
  obtain ⟨v, a', b', c', e, q⟩ := h_choice t__law_choice k n (S := S ++ [st3 a b c]) (j := S.length) getL hm hm2 hb.1 hb.2
  exact ⟨v, a', b', c', by rw [e, setL], q⟩
theorem pence_ok {v : Int} (h0 : 0 ≤ v) (h1 : v < 5) : 0 < wAt [1, 9, 60, 10000, 1000000000000000000000000000000] v ∧ wAt [1, 9, 60, 10000, 1000000000000000000000000000000] v < 2 ^ 110 := by
  have : v = 0 ∨ v = 1 ∨ v = 2 ∨ v = 3 ∨ v = 4 := by omega
  rcases this with rfl | rfl | rfl | rfl | rfl <;> decide
theorem rng2 : rngD 0 2 = some [.int 0, .int 1] := by rfl
theorem rng_of {r : Int} (h0 : 0 ≤ r) (h1 : r < 1000) : ∃ xs : List Int, rngD 0 r = some (iD xs) ∧ ∀ x ∈ xs, 0 ≤ x := by
  refine ⟨(List.range r.toNat).map fun (i : Nat) => (i : Int), ?_, fun x hx => ?_⟩
  · unfold rngD
    have : (decide (-(2 ^ 62 : Int) ≤ 0) && decide ((0 : Int) < 2 ^ 62) && decide (-(2 ^ 62) ≤ r) && decide (r < 2 ^ 62)) = true := by
      (simp only [Bool.and_eq_true, decide_eq_true_eq])
      omega
    rw [if_pos this]
    simp [iD, Function.comp_def]
  · obtain ⟨i, _, rfl⟩ := List.mem_map.mp hx
    omega
noncomputable abbrev Vl : Env := ⟨callI lm.tbl 39, lm.tbl.con, 0, lm.tbl.wf⟩
def C3 : Sms := (.cons (.ite (.un .not (.call ("_law_same" : Str) (.cons (.call ("parted" : Str) (.cons (.var 3) (.cons (.var 5) (.cons (.var 4) .nil)))) (.cons (.var 6) .nil)))) (.cons (.ret (.cst (.bl false))) .nil) .nil) .nil)
def C2 : Sms := (.cons (.asg 5 (.call ("_law_choice" : Str) (.cons (.var 2) (.cons (.idx (.lst false (.cons (.cst (.int 1)) (.cons (.cst (.int 9)) (.cons (.cst (.int 60)) (.cons (.bin false .pow (.cst (.int 10)) (.cst (.int 4))) (.cons (.bin false .pow (.cst (.int 10)) (.cst (.int 30))) .nil)))))) (.call ("_law_choice" : Str) (.cons (.var 2) (.cons (.cst (.int 5)) .nil)))) .nil)))) (.cons (.asg 6 (.call ("_law_parted" : Str) (.cons (.var 3) (.cons (.var 5) (.cons (.var 4) .nil))))) (.cons (.fo [7] (.rng1 (.cst (.int 2))) C3) .nil)))
def C1 : Sms := (.cons (.asg 2 (.call ("_law_state" : Str) (.cons (.var 0) (.cons (.var 1) .nil)))) (.cons (.asg 3 (.call ("_law_loads" : Str) (.cons (.var 2) .nil))) (.cons (.fo [4] (.rng1 (.cst (.int 8))) C2) .nil)))
def Ll (ns : List Int) (i : Int) (j : Nat) (ws : List Int) (o4 o5 o6 o7 : Option D) : Lc := [some (.scr ns), some (.int i), some (.ref j), some (.tup (iD ws)), o4, o5, o6, o7]
theorem l_in {ns ws : List Int} (W : Wok ws) {i p t : Int} {j : Nat} (hp : 0 ≤ p) (hp2 : p < 2 ^ 110) (ht : 0 ≤ t) (ht2 : t < 8) (S : Store) (o7 : Option D) :
    ∃ o7', foLoop [] (foTurn Vl [7] C3) [.int 0, .int 1] (Ll ns i j ws (some (.int t)) (some (.int p)) (some (due ws p t)) o7) S = .ok (.nx (Ll ns i j ws (some (.int t)) (some (.int p)) (some (due ws p t)) o7')) S := by
  obtain ⟨P, h1, h2⟩ := due_show W hp hp2 ht ht2 S
  have e1 : callI lm.tbl 39 ("parted" : Str) [.tup (iD ws), .int p, .int t] 0 S = _ := s_parted W hp hp2 ht ht2 35 0 S
  have e2 : callI lm.tbl 39 ("_law_same" : Str) [due ws p t, due ws p t] 0 S = _ := h_same t__law_same 38 0 h1 h2
  obtain ⟨L', S', e, o, rfl, rfl⟩ := fo_inv (turn := foTurn Vl [7] C3) (g := []) (P := fun L S' => ∃ o, L = Ll ns i j ws (some (.int t)) (some (.int p)) (some (due ws p t)) o ∧ S' = S) (fun _ S' _ => gd_nil S') (xs := [.int 0, .int 1]) ⟨o7, rfl, rfl⟩ fun x hx L S' ⟨o, eL, eS⟩ => by
    refine ⟨Ll ns i j ws (some (.int t)) (some (.int p)) (some (due ws p t)) (some x), S, ?_, some x, rfl, rfl⟩
    subst eL eS
    simp [foTurn, setT, Ll, C3, e1, e2, unop]
  exact ⟨o, e⟩
theorem l_mid {ns ws : List Int} (W : Wok ws) {i t a b c : Int} (ht : 0 ≤ t) (ht2 : t < 8) (S : Store) (o4 o5 o6 o7 : Option D) (hb : 0 ≤ b ∧ b < 2147483647) :
    ∃ a' b' c' q5 q6 q7, foTurn Vl [4] C2 (Ll ns i S.length ws o4 o5 o6 o7) (.int t) (S ++ [st3 a b c]) = .ok (.nx (Ll ns i S.length ws (some (.int t)) q5 q6 q7)) (S ++ [st3 a' b' c']) ∧ 0 ≤ b' ∧ b' < 2147483647 := by
  obtain ⟨v, a1, b1, c1, e1, v0, v1, hb1⟩ := chA 38 0 (S := S) (a := a) (b := b) (c := c) (m := 5) (by omega) (by omega) hb
  obtain ⟨m0, m1⟩ := pence_ok v0 v1
  obtain ⟨m, em⟩ : ∃ m, m = wAt [1, 9, 60, 10000, 1000000000000000000000000000000] v := ⟨_, rfl⟩
  have ix : ixD (S ++ [st3 a1 b1 c1]) (.lst [.int 1, .int 9, .int 60, .int 10000, .int 1000000000000000000000000000000]) (.int v) = _ := ixF (l := [1, 9, 60, 10000, 1000000000000000000000000000000]) (h := v) v0 v1
  rw [← em] at m0 m1 ix
  obtain ⟨p, a2, b2, c2, e2, p0, p1, hb2⟩ := chA 38 0 (S := S) (a := a1) (b := b1) (c := c1) (m := m) m0 (by omega) hb1
  have p2 : p < 2 ^ 110 := by omega
  have e3 : callI lm.tbl 39 ("_law_parted" : Str) [.tup (iD ws), .int p, .int t] 0 (S ++ [st3 a2 b2 c2]) = _ := s_due W p0 p2 ht ht2 38 0 _
  obtain ⟨o7', e4⟩ := l_in (ns := ns) (i := i) (j := S.length) W p0 p2 ht ht2 (S ++ [st3 a2 b2 c2]) o7
  have hp4 : powOk 10 4 = true := by decide +kernel
  have hp30 : powOk 10 30 = true := by decide +kernel
  refine ⟨a2, b2, c2, some (.int p), some (due ws p t), o7', ?_, hb2⟩
  unfold Ll at e4 ⊢
  simp [foTurn, setT, C2, binop, intD, intop, hp4, hp30, big, e1, ix, e2, e3, rng2, e4]
theorem l_out {ns : List Int} {i : Int} (hi : 0 ≤ i) (S : Store) (o1 o2 o3 o4 o5 o6 o7 : Option D) :
    ∃ S' q1 q2 q3 q4 q5 q6 q7, foTurn Vl [1] C1 [some (.scr ns), o1, o2, o3, o4, o5, o6, o7] (.int i) S = .ok (.nx [some (.scr ns), q1, q2, q3, q4, q5, q6, q7]) S' := by
  obtain ⟨a, b, e1, hb⟩ := h_state t__law_cell_at t__law_state 37 0 S ns i hi
  replace e1 : callI lm.tbl 39 ("_law_state" : Str) [.scr ns, .int i] 0 S = _ := e1
  obtain ⟨ws, a1, b1, c1, e2, W, hb1⟩ := s_loads 37 0 (S := S ++ [st3 a b 0]) (j := S.length) getL hb
  rw [setL] at e2
  replace e2 : callI lm.tbl 39 ("_law_loads" : Str) [.ref S.length] 0 (S ++ [st3 a b 0]) = _ := e2
  obtain ⟨L', S', e3, a', b', c', q4, q5, q6, q7, rfl, rfl, hb'⟩ := fo_inv (turn := foTurn Vl [4] C2) (g := []) (P := fun L S' => ∃ a b c q4 q5 q6 q7, L = Ll ns i S.length ws q4 q5 q6 q7 ∧ S' = S ++ [st3 a b c] ∧ 0 ≤ b ∧ b < 2147483647) (fun _ S' _ => gd_nil S') (xs := iD [0, 1, 2, 3, 4, 5, 6, 7]) (L := Ll ns i S.length ws o4 o5 o6 o7) (S := S ++ [st3 a1 b1 c1]) ⟨a1, b1, c1, o4, o5, o6, o7, rfl, rfl, hb1⟩ fun x hx L S' ⟨a, b, c, q4, q5, q6, q7, eL, eS, hb⟩ => by
    obtain ⟨t, hx, rfl⟩ := List.mem_map.mp hx
    have ht : 0 ≤ t ∧ t < 8 := by
      simp at hx
      omega
    subst eL eS
    obtain ⟨a', b', c', r5, r6, r7, e, hb'⟩ := l_mid (ns := ns) (i := i) W ht.1 ht.2 S q4 q5 q6 q7 (a := a) (c := c) hb
    exact ⟨_, _, e, a', b', c', _, r5, r6, r7, rfl, rfl, hb'⟩
  replace e3 : foLoop [] _ [.int 0, .int 1, .int 2, .int 3, .int 4, .int 5, .int 6, .int 7] _ _ = _ := e3
  have rng : rngD 0 8 = some [.int 0, .int 1, .int 2, .int 3, .int 4, .int 5, .int 6, .int 7] := rng8
  unfold Ll at e3
  refine ⟨S ++ [st3 a' b' c'], some (.int i), some (.ref S.length), some (.tup (iD ws)), q4, q5, q6, q7, ?_⟩
  simp [foTurn, setT, C1, e1, e2, rng, e3]
theorem l_rng (ns : List Int) (L : Lc) (h : L[0]? = some (some (.scr ns))) : ∃ xs : List Int, evIt Vl L (.rng1 (.bi false .max2 (.cons (.cst (.int 1)) (.cons (.bi false .min2 (.cons (.bi false .len (.cons (.var 0) .nil)) (.cons (.cst (.int 8)) .nil))) .nil)))) [] = .ok (iD xs, []) [] ∧ ∀ x ∈ xs, 0 ≤ x := by
  have go : ∀ r : Int, 0 ≤ r → r < 1000 → evE Vl L (.bi false .max2 (.cons (.cst (.int 1)) (.cons (.bi false .min2 (.cons (.bi false .len (.cons (.var 0) .nil)) (.cons (.cst (.int 8)) .nil))) .nil))) [] = .ok (.int r) [] → ∃ xs : List Int, evIt Vl L (.rng1 (.bi false .max2 (.cons (.cst (.int 1)) (.cons (.bi false .min2 (.cons (.bi false .len (.cons (.var 0) .nil)) (.cons (.cst (.int 8)) .nil))) .nil)))) [] = .ok (iD xs, []) [] ∧ ∀ x ∈ xs, 0 ≤ x := fun r h0 h1 e => by
    obtain ⟨xs, q1, q2⟩ := rng_of h0 h1
    refine ⟨xs, ?_, q2⟩
    rw [evIt_rng1, e]
    simp [q1]
  by_cases h8 : (8 : Int) < (ns.length : Int)
  · exact go 8 (by omega) (by omega) (by simp [h, bifn, items, h8])
  · by_cases h1 : (1 : Int) < (ns.length : Int)
    · exact go ns.length (by omega) (by omega) (by simp [h, bifn, items, h8, h1])
    · exact go 1 (by omega) (by omega) (by simp [h, bifn, items, h8, h1])
theorem pure_law : ∀ ns : List Int, ns.length ≤ 63 → ∃ S', callI lm.tbl 40 d_law.name [.scr ns] 0 [] = .ok (.bl true) S' := fun ns _ => by
  show ∃ S', callI lm.tbl (39 + 1) ("law" : Str) [.scr ns] 0 [] = .ok (.bl true) S'
  rw [call_drop t_law rfl rfl]
  obtain ⟨xs, e1, hx⟩ := l_rng ns [some (.scr ns), none, none, none, none, none, none, none] rfl
  obtain ⟨L', S', e2, q1, q2, q3, q4, q5, q6, q7, rfl⟩ := fo_inv (turn := foTurn Vl [1] C1) (g := []) (P := fun L S' => ∃ q1 q2 q3 q4 q5 q6 q7, L = [some (.scr ns), q1, q2, q3, q4, q5, q6, q7]) (fun _ S' _ => gd_nil S') (xs := iD xs) (L := [some (.scr ns), none, none, none, none, none, none, none]) (S := []) ⟨_, _, _, _, _, _, _, rfl⟩ fun x hxm L S' ⟨q1, q2, q3, q4, q5, q6, q7, eL⟩ => by
    obtain ⟨i, him, rfl⟩ := List.mem_map.mp hxm
    subst eL
    obtain ⟨S2, r1, r2, r3, r4, r5, r6, r7, e⟩ := l_out (ns := ns) (hx i him) S' q1 q2 q3 q4 q5 q6 q7
    exact ⟨_, S2, e, r1, r2, r3, r4, r5, r6, r7, rfl⟩
  refine ⟨[], ?_⟩
  have eb : exB Vl B_law [some (.scr ns), none, none, none, none, none, none, none] [] = .ok (.rt (.bl true)) S' := by
    show exB Vl (.cons (.fo [1] _ C1) (.cons (.ret (.cst (.bl true))) .nil)) _ _ = _
    rw [exB_cons, exS_fo, e1]
    simp only [Res.bind_ok]
    rw [e2]
    simp
  show dropR 0 (endK (exB Vl B_law [some (.scr ns), none, none, none, none, none, none, none] [])) = _
  rw [eb]
  simp [dropR, resD]

end KI
open PySem PySem.W
open PySem.Calls PyProof.Rows
theorem PySem.Challenge.cw_kilnshares_k10_pence_parted_holds : PySem.Challenge.rw_kilnshares_k10_pence_parted.Holds := by
  w_on; o_law
  refine HandSHeadRun.head_any (r := OpenLaw.row PySem.Challenge.rw_kilnshares_k10_pence_parted) (q := view (OpenLaw.row PySem.Challenge.rw_kilnshares_k10_pence_parted).prog [20]) (H := KI.hk) (ob := KI.ob) (M := 6000) (loose := KI.names) (d := HandSHeadRun.topDef (OpenLaw.row PySem.Challenge.rw_kilnshares_k10_pence_parted).prog 20) (kwd := []) KI.ob_eq
    (by kernel_rfl) (fun s => by kernel_rfl) KI.run (by kernel_rfl) (by kernel_rfl) (by kernel_rfl) (by rfl) (by first | assumption | decide +kernel) (by decide +kernel) ⟨rfl, rfl, rfl, rfl, rfl, by decide +kernel⟩ ?hw ?hc
  case hw => w_witness2
  case hc =>
    exact KI.law_end (l := PySem.Challenge.rw_kilnshares_k10_pence_parted) (n := 63) (k := 40) (M := KI.lm) (dl := KI.d_law) (x := "_law_script") rfl (by decide) (by kernel_rfl) ⟨rfl, by decide, by decide⟩ (by kernel_rfl) rfl (by simp [KI.lm, KI.dds]) KI.oks KI.pure_law
