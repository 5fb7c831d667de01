import PyProof.Rows.All
import HandS.ForMost
import HandS.Deep
import KE.LtData
import HandS.Flow
import HandS.TupAny
import HandS.TupLen
import HandS.Wide
import HandS.IsInst
import HandS.Walk
import HandS.Zip
import HandS.Rev
import KE.GoesEnum
import HandS.NoneIn
import HandS.Style
import KE.DataMinMax
import KE.SortData
import HandS.HeadHook2
import HandS.HeadEnd
import HandS.WideBits
import HandS.Conv
import HandS.SetFor
import HandS.Strs
import KE.GoesZip
import KE.GoesMore
import Wide.All
import OpenK.AllK
import Wide.FinOn
import KE.KStateDown
import HandS.Head0
import HandS.Head1
import HandS.Head2
import HandS.HeadHook1
import PySem.Challenge.RW_changeforall_k80_whole_parts_of_best_pay
section
set_option Elab.async false
set_option linter.all false
/-! RxCore: plain data, expressions and statements of the small Python that the program uses, and what they yield. -/
namespace Rx

inductive D where
  | non | bl (b : Bool) | int (i : Int) | tup (xs : List D) | lst (xs : List D) | dic (t : Bool) (kvs : List (D × D)) | rng (lo hi : Int)
  /-- the script -/
  | scr (ns : List Int)

instance : Inhabited D := ⟨.non⟩

/-- the longest list -/
abbrev line : Nat := 16777216

inductive BO where | add | sub | mul | fdiv | mod | pow
inductive CO where | lt | le | gt | ge | eq | ne | is | isnt | isin | notin
inductive B1 where | len | sum | min | max | all | any | tuple | list | sorted | sset | int | isInt | isBool | isTup | isStr | bitlen | rev | rng
inductive B2 where | max | min | get
inductive IK where | seq | r1 | r2 | r3 | enum | zip2 | zip3 | rev | keys

inductive T where | name (i : Nat) | tup (ts : List T)

mutual
inductive E where
  | var (i : Nat) | int (n : Int) | bl (b : Bool) | non
  | bin (o : BO) (a b : E) | neg (a : E)
  | not (a : E) | and (a b : E) | or (a b : E)
  | cmp (o : CO) (a b : E) | chn (o p : CO) (a b c : E)
  | ife (c : C) (a b : E)
  | tup (es : List E) | lst (es : List E) | dic0 (t : Bool) | dic1 (t : Bool) (k v : E)
  | sub (a i : E) | slo (a i : E) | shi (a i : E) | stp (a i : E)
  | b1 (f : B1) (a : E) | b2 (f : B2) (a b : E) | get2 (a b c : E)
  | ofw (l : Bool) (k : IK) (es : List E)
  | call (f : Nat) (es : List E) | callB (f : Nat) (es : List E)
  | minK (f : Nat) (a : E) | sortLen (a : E)
  | comp (e : E) (t : T) (k : IK) (es : List E) (ifs : List C) (own : List Nat)
  | comp2 (e : E) (t : T) (k : IK) (es : List E) (ifs : List C) (t2 : T) (k2 : IK) (es2 : List E) (ifs2 : List C) (own : List Nat) (own2 : List Nat)
  | dcomp (tk : Bool) (e v : E) (t : T) (k : IK) (es : List E) (ifs : List C) (own : List Nat)
/-- a test -/
inductive C where
  | val (e : E) | not (a : C) | and (a b : C) | or (a b : C)
end

inductive S where
  | asg (i : Nat) (e : E) | asgO (i : Nat) (e : E) | move (i j : Nat) | frz (i : Nat) | kill (is : List Nat)
  | asgT (t : T) (e : E) | asgP (ts : List (Nat × Bool)) (es : List E)
  | aug (i : Nat) (o : BO) (e : E)
  | sset (i : Nat) (k e : E) | saug (i : Nat) (k : E) (o : BO) (e : E)
  | app (i : Nat) (e : E) | ext (i : Nat) (e : E)
  | ret (e : E)
  | ifs (c : C) (a b : List S)
  | whl (c : C) (b : List S) (kl : List Nat)
  | for_ (t : T) (k : IK) (es : List E) (b : List S) (kl : List Nat)
  | brk
  | callIO (f : Nat) (i : Nat) (es : List E)

/-! ### data -/
mutual
/-- equal, as Python says (a truth value is 0 or 1) -/
def D.eqb : D → D → Bool
  | .non, .non => true
  | .bl a, .bl b => a == b
  | .int a, .int b => decide (a = b)
  | .bl a, .int b => decide ((if a then 1 else 0) = b)
  | .int a, .bl b => decide (a = (if b then 1 else 0))
  | .tup xs, .tup ys => D.eqbL xs ys
  | .lst xs, .lst ys => D.eqbL xs ys
  | _, _ => false
def D.eqbL : List D → List D → Bool
  | [], [] => true
  | x :: xs, y :: ys => D.eqb x y && D.eqbL xs ys
  | _, _ => false
end
mutual
/-- may be compared by == -/
def D.plain : D → Bool
  | .non => true | .bl _ => true | .int _ => true
  | .tup xs => D.plainL xs
  | .lst xs => D.plainL xs
  | _ => false
def D.plainL : List D → Bool
  | [] => true
  | x :: xs => D.plain x && D.plainL xs
end
mutual
/-- no lists, no dicts: may be told of what was lent -/
def D.flat : D → Bool
  | .non => true | .bl _ => true | .int _ => true
  | .tup xs => D.flatL xs
  | _ => false
def D.flatL : List D → Bool
  | [] => true
  | x :: xs => D.flat x && D.flatL xs
end
mutual
def D.depth : D → Nat
  | .tup xs => D.depthL xs + 1
  | .lst xs => D.depthL xs + 1
  | _ => 0
def D.depthL : List D → Nat
  | [] => 0
  | x :: xs => max (D.depth x) (D.depthL xs)
end
mutual
/-- of one kind: both ints, or both tuples of as many things of one kind -/
def D.alike : D → D → Bool
  | .int _, .int _ => true
  | .tup xs, .tup ys => D.alikeL xs ys
  | _, _ => false
def D.alikeL : List D → List D → Bool
  | x :: xs, y :: ys => D.alike x y && D.alikeL xs ys
  | _, _ => true
end
mutual
/-- a < b of ints and of tuples -/
def D.ltb : D → D → Bool
  | .int a, .int b => decide (a < b)
  | .tup xs, .tup ys => D.ltbL xs ys
  | _, _ => false
def D.ltbL : List D → List D → Bool
  | [], [] => false
  | [], _ :: _ => true
  | _ :: _, [] => false
  | x :: xs, y :: ys => if D.eqb x y then D.ltbL xs ys else D.ltb x y
end

def D.int? : D → Option Int | .int i => some i | _ => none
def D.bool? : D → Option Bool | .bl b => some b | _ => none
def D.seq? : D → Option (List D) | .tup xs => some xs | .lst xs => some xs | _ => none
def D.ints : List D → Option (List Int)
  | [] => some []
  | x :: xs => match x with | .int i => (D.ints xs).map (i :: ·) | _ => none
def D.bools : List D → Option (List Bool)
  | [] => some []
  | x :: xs => match x with | .bl b => (D.bools xs).map (b :: ·) | _ => none

/-- the place that an index means -/
def ixN (n : Nat) (i : Int) : Option Nat := if 0 ≤ i then (if i < n then some i.toNat else none) else if -(n : Int) ≤ i then some (i + n).toNat else none
def atI (xs : List D) (i : Int) : Option D := (ixN xs.length i).bind fun j => xs[j]?
/-- how far a cut's end reaches -/
def cutN (n : Nat) (i : Int) : Nat := if i < 0 then (i + n).toNat else min i.toNat n

def mulOk (i j : Int) : Bool := decide (i.natAbs < 2 ^ 64) || decide (j.natAbs < 2 ^ 64) || (decide (i.natAbs < 2 ^ 8192) && decide (j.natAbs < 2 ^ 8192))
def divOk (j : Int) : Bool := (decide (j ≠ 0) && decide (j.natAbs < 2 ^ 30)) || (decide (0 < j) && decide (j.natAbs < 2 ^ 8192))
def isKey (t : Bool) : D → Bool
  | .int _ => !t
  | .tup xs => t && (D.ints xs).isSome
  | _ => false

def opB (o : BO) (x y : D) : Option D := match o, x, y with
  | .add, .int i, .int j => some (.int (i + j))
  | .add, .tup xs, .tup ys => if xs.length + ys.length ≤ line then some (.tup (xs ++ ys)) else none
  | .add, .lst xs, .lst ys => if xs.length + ys.length ≤ line then some (.lst (xs ++ ys)) else none
  | .sub, .int i, .int j => some (.int (i - j))
  | .mul, .int i, .int j => if mulOk i j then some (.int (i * j)) else none
  | .mul, .lst xs, .int j => if -(2 ^ 62) < j ∧ j < 2 ^ 62 ∧ xs.length * j.toNat ≤ line then some (.lst (List.replicate j.toNat xs).flatten) else none
  | .fdiv, .int i, .int j => if divOk j then some (.int (i.fdiv j)) else none
  | .mod, .int i, .int j => if j = 0 then none else some (.int (i.fmod j))
  | .pow, .int i, .int j => if 0 ≤ j ∧ j ≤ 100 ∧ i.natAbs < 2 ^ 64 then some (.int (i ^ j.toNat)) else none
  | _, _, _ => none

/-- x op= y, of ints -/
def opA (o : BO) (x y : D) : Option D := match o, x, y with
  | .add, .int i, .int j => some (.int (i + j))
  | .sub, .int i, .int j => some (.int (i - j))
  | .mod, .int i, .int j => if 0 < j then some (.int (i % j)) else none
  | _, _, _ => none

def D.get (kvs : List (D × D)) (k : D) : Option D := (kvs.find? fun kv => D.eqb kv.1 k).map (·.2)
def D.put (kvs : List (D × D)) (k v : D) : List (D × D) :=
  if (kvs.any fun kv => D.eqb kv.1 k) = true then kvs.map (fun kv => if D.eqb kv.1 k = true then (kv.1, v) else kv) else kvs ++ [(k, v)]

def D.isIn (x y : D) : Option Bool := match y with
  | .tup ys => if D.plain x && D.plainL ys && decide (D.depth x < 60) && decide (D.depthL ys < 60) then some (ys.any fun z => D.eqb z x) else none
  | .lst ys => if D.plain x && D.plainL ys && decide (D.depth x < 60) && decide (D.depthL ys < 60) then some (ys.any fun z => D.eqb z x) else none
  | .dic t kvs => if isKey t x then some (D.get kvs x).isSome else none
  | _ => none
def D.isNon : D → Bool | .non => true | _ => false

def opC (o : CO) (x y : D) : Option Bool := match o with
  | .lt => if D.plain x && D.plain y && D.alike x y && decide (D.depth x < 60) then some (D.ltb x y) else none
  | .gt => match x, y with | .int i, .int j => some (decide (j < i)) | _, _ => none
  | .le => match x, y with | .int i, .int j => some (decide (i ≤ j)) | _, _ => none
  | .ge => match x, y with | .int i, .int j => some (decide (j ≤ i)) | _, _ => none
  | .eq => if D.plain x && D.plain y && decide (D.depth x < 60) && decide (D.depth y < 60) then some (D.eqb x y) else none
  | .ne => if D.plain x && D.plain y && decide (D.depth x < 60) && decide (D.depth y < 60) then some (!D.eqb x y) else none
  | .is => match y with | .non => some (D.isNon x) | _ => none
  | .isnt => match y with | .non => some (!D.isNon x) | _ => none
  | .isin => D.isIn x y
  | .notin => (D.isIn x y).map not

def D.truth : D → Option Bool
  | .non => some false
  | .bl b => some b
  | .int i => some (i != 0)
  | .tup xs => some !xs.isEmpty
  | .lst xs => some !xs.isEmpty
  | _ => none

/-- the first least one -/
def leastD (m : D) : List D → D
  | [] => m
  | x :: xs => leastD (if D.ltb x m then x else m) xs
def mostD (m : D) : List D → D
  | [] => m
  | x :: xs => mostD (if D.ltb m x then x else m) xs
/-- all of one kind -/
def alikeAll (xs : List D) : Bool := xs.all fun x => xs.all fun y => D.alike x y
/-- all ints, or tuples with an item at least -/
def sortable (xs : List D) : Bool := (xs.all fun x => match x with | .int _ => true | _ => false) || xs.all fun x => match x with | .tup (_ :: _) => true | _ => false
def sortD (xs : List D) : List D := xs.mergeSort fun a b => !D.ltb b a
def dedup : List Int → List Int
  | [] => []
  | x :: xs => if xs.contains x then dedup xs else x :: dedup xs
/-- the different ints, ascending -/
def setSort (xs : List Int) : List Int := (dedup xs).mergeSort fun a b => decide (a ≤ b)

def bitlen (i : Int) : Nat := if i = 0 then 0 else i.natAbs.log2 + 1

def opU (f : B1) (x : D) : Option D := match f with
  | .len => match x with
    | .tup xs => some (.int xs.length)
    | .lst xs => some (.int xs.length)
    | .scr ns => some (.int ns.length)
    | _ => none
  | .sum => x.seq?.bind fun xs => (D.ints xs).map fun ns => .int ns.sum
  | .min => x.seq?.bind fun xs => match xs with | [] => none | y :: ys => if alikeAll (y :: ys) && D.plainL (y :: ys) && decide (D.depthL (y :: ys) < 60) then some (leastD y ys) else none
  | .max => x.seq?.bind fun xs => (D.ints xs).bind fun ns => match ns with | [] => none | n :: ns => some (.int (ns.foldl (fun m x => if m < x then x else m) n))
  | .all => match x with | .lst xs => (D.bools xs).map fun bs => .bl (bs.all id) | _ => none
  | .any => match x with | .lst xs => (D.bools xs).map fun bs => .bl (bs.any id) | _ => none
  | .tuple => x.seq?.map .tup
  | .list => x.seq?.map .lst
  | .sorted => x.seq?.bind fun xs => if alikeAll xs && sortable xs && D.plainL xs && decide (D.depthL xs < 60) then some (.lst (sortD xs)) else none
  | .sset => x.seq?.bind fun xs => (D.ints xs).bind fun ns => if ns.length < 64 then some (.lst ((setSort ns).map .int)) else none
  | .int => match x with | .int i => some (.int i) | .bl b => some (.int (if b then 1 else 0)) | _ => none
  | .isInt => match x with | .int _ => some (.bl true) | .bl _ => some (.bl true) | .rng _ _ => none | .scr _ => none | .dic _ _ => none | _ => some (.bl false)
  | .isBool => match x with | .bl _ => some (.bl true) | .rng _ _ => none | .scr _ => none | .dic _ _ => none | _ => some (.bl false)
  | .isTup => match x with | .tup _ => some (.bl true) | .rng _ _ => none | .scr _ => none | .dic _ _ => none | _ => some (.bl false)
  | .isStr => match x with | .rng _ _ => none | .scr _ => none | .dic _ _ => none | _ => some (.bl false)
  | .bitlen => match x with | .int i => if 0 ≤ i then some (.int (bitlen i)) else none | _ => none
  | .rng => match x with | .int n => some (.rng 0 n) | _ => none
  | .rev => match x with | .tup xs => some (.tup xs.reverse) | .lst xs => some (.lst xs.reverse) | _ => none

def opU2 (f : B2) (x y : D) : Option D := match f with
  | .max => match x, y with | .int i, .int j => some (.int (if j > i then j else i)) | _, _ => none
  | .min => match x, y with | .int i, .int j => some (.int (if j < i then j else i)) | _, _ => none
  | .get => match x with | .dic t kvs => if isKey t y then some ((D.get kvs y).getD .non) else none | _ => none

def opGet2 (x k v : D) : Option D := match x with | .dic t kvs => if isKey t k then some ((D.get kvs k).getD v) else none | _ => none

def opSub (x i : D) : Option D := match x, i with
  | .tup xs, .int i => atI xs i
  | .lst xs, .int i => atI xs i
  | .scr ns, .int i => atI (ns.map .int) i
  | .dic t kvs, k => if isKey t k then D.get kvs k else none
  | _, _ => none
def opLo (x i : D) : Option D := match x, i with
  | .tup xs, .int i => some (.tup (xs.drop (cutN xs.length i)))
  | .lst xs, .int i => some (.lst (xs.drop (cutN xs.length i)))
  | _, _ => none
def opHi (x i : D) : Option D := match x, i with
  | .tup xs, .int i => some (.tup (xs.take (cutN xs.length i)))
  | .lst xs, .int i => some (.lst (xs.take (cutN xs.length i)))
  | _, _ => none
/-- every g-th one -/
def everyN (g : Nat) : Nat → List D → List D
  | _, [] => []
  | 0, x :: xs => x :: everyN g (g - 1) xs
  | k + 1, _ :: xs => everyN g k xs
def opStp (x i : D) : Option D := match x, i with
  | .lst xs, .int i => if 0 < i ∧ i < 2 ^ 62 then some (.lst (everyN i.toNat 0 xs)) else none
  | _, _ => none

def rgD (lo : Int) (n : Nat) : List D := (List.range n).map fun (k : Nat) => .int (lo + k)
/-- how many turns range(lo, hi, c) has -/
def rsize (lo hi c : Int) : Nat := if 0 < c then (hi - lo + c - 1).toNat / c.toNat else (lo - hi - c - 1).toNat / (-c).toNat
/-- what is walked -/
def walk (k : IK) (vs : List D) : Option (List D) := match k, vs with
  | .seq, [.tup xs] => some xs
  | .seq, [.lst xs] => some xs
  | .seq, [.rng lo hi] => if -(2 ^ 62) ≤ lo ∧ lo < 2 ^ 62 ∧ -(2 ^ 62) ≤ hi ∧ hi < 2 ^ 62 then some (rgD lo (hi - lo).toNat) else none
  | .r1, [.int n] => if -(2 ^ 62) ≤ n ∧ n < 2 ^ 62 then some (rgD 0 n.toNat) else none
  | .r2, [.int lo, .int hi] => if -(2 ^ 62) ≤ lo ∧ lo < 2 ^ 62 ∧ -(2 ^ 62) ≤ hi ∧ hi < 2 ^ 62 then some (rgD lo (hi - lo).toNat) else none
  | .r3, [.int lo, .int hi, .int c] => if -(2 ^ 61) ≤ lo ∧ lo < 2 ^ 61 ∧ -(2 ^ 61) ≤ hi ∧ hi < 2 ^ 61 ∧ c ≠ 0 ∧ c.natAbs < 2 ^ 30 then some ((List.range (rsize lo hi c)).map fun (k : Nat) => .int (lo + k * c)) else none
  | .enum, [.tup xs] => some ((List.range xs.length).map fun (k : Nat) => .tup [.int k, xs.getD k .non])
  | .enum, [.lst xs] => some ((List.range xs.length).map fun (k : Nat) => .tup [.int k, xs.getD k .non])
  | .zip2, [x, y] => x.seq?.bind fun xs => y.seq?.map fun ys => (xs.zip ys).map fun p => .tup [p.1, p.2]
  | .zip3, [x, y, z] => x.seq?.bind fun xs => y.seq?.bind fun ys => z.seq?.map fun zs => (xs.zip (ys.zip zs)).map fun p => .tup [p.1, p.2.1, p.2.2]
  | .rev, [x] => x.seq?.map List.reverse
  | .keys, [.dic _ kvs] => some (kvs.map (·.1))
  | _, _ => none

/-- what list(..) and tuple(..) make of an iterator -/
def walkO (k : IK) (vs : List D) : Option (List D) := match k, vs with
  | .rev, [.lst xs] => some xs.reverse
  | .rev, _ => none
  | .seq, _ => none
  | .enum, _ => none
  | .keys, _ => none
  | k, vs => walk k vs
/-! ### names -/
inductive Cell where | unk | val (d : D) | own (d : D)
abbrev Env := List Cell
def Env.val (env : Env) (i : Nat) : Option D := match env[i]? with | some (.val d) => some d | _ => none
def Env.bor (env : Env) (i : Nat) : Option D := match env[i]? with | some (.val d) => some d | some (.own d) => some d | _ => none
def Env.ow (env : Env) (i : Nat) : Option D := match env[i]? with | some (.own d) => some d | _ => none
def Env.kill (env : Env) : List Nat → Env
  | [] => env
  | i :: is => Env.kill (env.set i .unk) is
mutual
def bind : T → D → Env → Option Env
  | .name i, d, env => some (env.set i (.val d))
  | .tup ts, d, env => match d with
    | .tup ds => bindL ts ds env
    | .lst ds => bindL ts ds env
    | _ => none
def bindL : List T → List D → Env → Option Env
  | [], [], env => some env
  | t :: ts, d :: ds, env => (bind t d env).bind fun e => bindL ts ds e
  | _, _, _ => none
end
/-- a name that owns its list may be read where the list itself isn't kept -/
def bo (env : Env) (e : E) (r : Option D) : Option D := match e with | .var i => env.bor i | _ => r

/-! ### comprehensions over what is walked -/
def compL (f : D → Option (Option D)) : List D → Option (List D)
  | [] => some []
  | x :: xs => (f x).bind fun r => (compL f xs).map fun ys => match r with | some y => y :: ys | none => ys
def compLL (f : D → Option (List D)) : List D → Option (List D)
  | [] => some []
  | x :: xs => (f x).bind fun r => (compLL f xs).map fun ys => r ++ ys
def compD (f : D → Option (Option (D × D))) : List D → List (D × D) → Option (List (D × D))
  | [], acc => some acc
  | x :: xs, acc => (f x).bind fun r => match r with | some (k, v) => compD f xs (D.put acc k v) | none => compD f xs acc
/-- the tests of a comprehension -/
def leastK (f : D → Option D) (m k : D) : List D → Option D
  | [] => some m
  | x :: xs => (f x).bind fun j => if D.alike j k then (if D.ltb j k then leastK f x j xs else leastK f m k xs) else none

def fits (xs : List D) : Option D := if xs.length ≤ line then some (.lst xs) else none

section
variable (G : Nat → List D → Option D)
mutual
def ev (env : Env) : E → Option D
  | .var i => env.val i
  | .int n => some (.int n)
  | .bl b => some (.bl b)
  | .non => some .non
  | .bin o a b => (bo env a (ev env a)).bind fun x => (bo env b (ev env b)).bind fun y => opB o x y
  | .neg a => (ev env a).bind fun x => match x with | .int i => some (.int (-i)) | _ => none
  | .not a => (bo env a (ev env a)).bind fun x => (D.truth x).map fun c => .bl (!c)
  | .and a b => (ev env a).bind fun x => match x with | .bl c => if c then ev env b else some (.bl false) | _ => none
  | .or a b => (ev env a).bind fun x => match x with | .bl c => if c then some (.bl true) else ev env b | _ => none
  | .cmp o a b => (bo env a (ev env a)).bind fun x => (bo env b (ev env b)).bind fun y => (opC o x y).map .bl
  | .chn o p a b c => (ev env a).bind fun x => (ev env b).bind fun y => (opC o x y).bind fun r => if r then (ev env c).bind fun z => (opC p y z).map .bl else some (.bl false)
  | .ife c a b => (ts env c).bind fun r => if r then ev env a else ev env b
  | .tup es => (evL env es).bind fun xs => if xs.length ≤ line then some (.tup xs) else none
  | .lst es => (evL env es).bind fits
  | .dic0 t => some (.dic t [])
  | .dic1 t k v => (ev env k).bind fun x => (ev env v).bind fun y => if isKey t x then some (.dic t [(x, y)]) else none
  | .sub a i => (bo env a (ev env a)).bind fun x => (ev env i).bind fun y => opSub x y
  | .slo a i => (bo env a (ev env a)).bind fun x => (ev env i).bind fun y => opLo x y
  | .shi a i => (bo env a (ev env a)).bind fun x => (ev env i).bind fun y => opHi x y
  | .stp a i => (bo env a (ev env a)).bind fun x => (ev env i).bind fun y => opStp x y
  | .b1 f a => (bo env a (ev env a)).bind fun x => opU f x
  | .b2 f a b => (bo env a (ev env a)).bind fun x => (ev env b).bind fun y => opU2 f x y
  | .get2 a b c => (bo env a (ev env a)).bind fun x => (ev env b).bind fun y => (ev env c).bind fun z => opGet2 x y z
  | .ofw l k es => (evB env es).bind fun vs => (walkO k vs).bind fun xs => if xs.length ≤ line then some (if l then .lst xs else .tup xs) else none
  | .call f es => (evL env es).bind fun xs => G f xs
  | .callB f es => (evB env es).bind fun xs => (G f xs).bind fun d => if D.flat d = true then some d else none
  | .minK f a => (bo env a (ev env a)).bind fun x => match x with
    | .lst (y :: ys) => (G f [y]).bind fun k => leastK (fun z => G f [z]) y k ys
    | _ => none
  | .sortLen a => (ev env a).bind fun x => match x with
    | .lst xs => if xs.all (fun y => match y with | .tup _ => true | _ => false) then some (.lst (xs.mergeSort fun a b => decide ((a.seq?.getD []).length ≤ (b.seq?.getD []).length))) else none
    | _ => none
  | .comp e t k es fs own => (evB env es).bind fun vs => (walk k vs).bind fun xs =>
      (compL (fun x => (bind t x (env.kill own)).bind fun env' => (tsL env' fs).bind fun c => if c then (ev env' e).map some else some none) xs).bind fits
  | .comp2 e t k es fs t2 k2 es2 fs2 own own2 => (evB env es).bind fun vs => (walk k vs).bind fun xs =>
      (compLL (fun x => (bind t x (env.kill own)).bind fun env' => (tsL env' fs).bind fun c => if c then
        (evB env' es2).bind fun ws => (walk k2 ws).bind fun ys =>
          compL (fun y => (bind t2 y (env'.kill own2)).bind fun env2 => (tsL env2 fs2).bind fun c2 => if c2 then (ev env2 e).map some else some none) ys
        else some []) xs).bind fits
  | .dcomp tk e v t k es fs own => (evB env es).bind fun vs => (walk k vs).bind fun xs =>
      (compD (fun x => (bind t x (env.kill own)).bind fun env' => (tsL env' fs).bind fun c => if c then (ev env' e).bind fun a => (ev env' v).bind fun b => if isKey tk a then some (some (a, b)) else none else some none) xs []).map (.dic tk)
def ts (env : Env) : C → Option Bool
  | .not a => (ts env a).map not
  | .and a b => (ts env a).bind fun c => if c then ts env b else some false
  | .or a b => (ts env a).bind fun c => if c then some true else ts env b
  | .val e => (bo env e (ev env e)).bind D.truth
def evL (env : Env) : List E → Option (List D)
  | [] => some []
  | e :: es => (ev env e).bind fun x => (evL env es).map (x :: ·)
def evB (env : Env) : List E → Option (List D)
  | [] => some []
  | e :: es => (bo env e (ev env e)).bind fun x => (evB env es).map (x :: ·)
def tsL (env : Env) : List C → Option Bool
  | [] => some true
  | e :: es => (ts env e).bind fun c => if c then tsL env es else some false
end

inductive Fl where | nx | brk | rt (d : D)

def forL (step : D → Env → Option (Fl × Env)) (kl : List Nat) : List D → Env → Option (Fl × Env)
  | [], env => some (.nx, env.kill kl)
  | x :: xs, env => (step x env).bind fun r => match r.1 with
    | .nx => forL step kl xs (r.2.kill kl)
    | .brk => some (.nx, r.2.kill kl)
    | .rt d => some (.rt d, r.2)
def whlL (test : Env → Option Bool) (step : Env → Option (Fl × Env)) (kl : List Nat) : Nat → Env → Option (Fl × Env)
  | 0, _ => none
  | n + 1, env => (test env).bind fun c => if c then (step env).bind fun r => match r.1 with
    | .nx => whlL test step kl n (r.2.kill kl)
    | .brk => some (.nx, r.2.kill kl)
    | .rt d => some (.rt d, r.2)
    else some (.nx, env.kill kl)
def seqS (r : Option (Fl × Env)) (f : Env → Option (Fl × Env)) : Option (Fl × Env) := r.bind fun r => match r.1 with
  | .nx => f r.2
  | _ => some r
def stores : List (Nat × Bool) → List D → Env → Option Env
  | [], [], env => some env
  | (i, o) :: ts, d :: ds, env => stores ts ds (env.set i (if o then .own d else .val d))
  | _, _, _ => none
/-- as a list or dict just made -/
def isNew : E → Bool
  | .lst _ => true | .dic0 _ => true | .dic1 _ _ _ => true | .comp _ _ _ _ _ _ => true | .comp2 _ _ _ _ _ _ _ _ _ _ _ => true | .dcomp _ _ _ _ _ _ _ _ => true
  | .bin .add a _ => isNew a | .bin .mul a _ => isNew a
  | .b1 .list _ => true | .b1 .sorted _ => true | .ofw true _ _ => true
  | _ => false
def putAt (x k v : D) : Option D := match x, k with
  | .lst xs, .int i => (ixN xs.length i).map fun j => .lst (xs.set j v)
  | .dic t kvs, k => if isKey t k ∧ kvs.length < line then some (.dic t (D.put kvs k v)) else none
  | _, _ => none

variable (GI : Nat → List D → Option D)
mutual
def ex (env : Env) : S → Option (Fl × Env)
  | .asg i e => (ev G env e).map fun d => (.nx, env.set i (.val d))
  | .asgO i e => if isNew e then (ev G env e).map fun d => (.nx, env.set i (.own d)) else none
  | .move i j => (env.ow j).map fun d => (.nx, (env.set j .unk).set i (.own d))
  | .frz i => (env.bor i).map fun d => (.nx, env.set i (.val d))
  | .kill is => some (.nx, env.kill is)
  | .asgT t e => (ev G env e).bind fun d => (bind t d env).map fun env' => (.nx, env')
  | .asgP is es => (evL G env es).bind fun ds => (stores is ds env).map fun env' => (.nx, env')
  | .aug i o e => (env.val i).bind fun x => (ev G env e).bind fun y => (opA o x y).map fun z => (.nx, env.set i (.val z))
  | .sset i k e => (ev G env e).bind fun v => (env.ow i).bind fun x => (ev G env k).bind fun k => (putAt x k v).map fun d => (.nx, env.set i (.own d))
  | .saug i k o e => (env.ow i).bind fun x => (ev G env k).bind fun k => (opSub x k).bind fun y => (ev G env e).bind fun v => (opA o y v).bind fun z => (putAt x k z).map fun d => (.nx, env.set i (.own d))
  | .app i e => (env.ow i).bind fun x => (ev G env e).bind fun v => match x with
    | .lst xs => if xs.length < line then some (.nx, env.set i (.own (.lst (xs ++ [v])))) else none
    | _ => none
  | .ext i e => (env.ow i).bind fun x => (ev G env e).bind fun v => match x, v with
    | .lst xs, .lst ys => if xs.length + ys.length ≤ line then some (.nx, env.set i (.own (.lst (xs ++ ys)))) else none
    | _, _ => none
  | .ret e => (ev G env e).map fun d => (.rt d, env)
  | .ifs c a b => (ts G env c).bind fun r => if r then exs env a else exs env b
  | .whl c b kl => whlL (fun e => ts G e c) (fun e => exs e b) kl 1000000 env
  | .for_ t k es b kl => (evL G env es).bind fun vs => (walk k vs).bind fun xs => forL (fun x e => (bind t x e).bind fun e' => exs e' b) kl xs env
  | .brk => some (.brk, env)
  | .callIO f i es => (env.ow i).bind fun x => (evL G env es).bind fun ds => (GI f (x :: ds)).map fun d => (.nx, env.set i (.own d))
def exs (env : Env) : List S → Option (Fl × Env)
  | [] => some (.nx, env)
  | s :: ss => seqS (ex env s) fun e => exs e ss
end
end

/-- a def: how many parameters, how many names, the first one lent to be changed (io), its body -/
structure Fn where
  ps : Nat
  ns : Nat
  io : Bool
  body : List S
def Fn.start (f : Fn) (ds : List D) : Env := (match f.io, ds with | true, d :: r => .own d :: r.map Cell.val | _, ds => ds.map Cell.val) ++ List.replicate (f.ns - f.ps) .unk
def retD : Option (Fl × Env) → Option D
  | some (.rt d, _) => some d
  | some (.nx, _) => some .non
  | _ => none
def retI : Option (Fl × Env) → Option D
  | some (.nx, .own d :: _) => some d
  | _ => none
section
variable (defs : Nat → Option Fn)
mutual
def run : Nat → Nat → List D → Option D
  | 0, _, _ => none
  | k + 1, f, ds => (defs f).bind fun fn => if fn.io = false ∧ ds.length = fn.ps then retD (exs (run k) (runI k) (fn.start ds) fn.body) else none
def runI : Nat → Nat → List D → Option D
  | 0, _, _ => none
  | k + 1, f, ds => (defs f).bind fun fn => if fn.io = true ∧ ds.length = fn.ps then retI (exs (run k) (runI k) (fn.start ds) fn.body) else none
end
end
end Rx
end

section
set_option Elab.async false
set_option linter.all false
set_option maxRecDepth 100000
/-! RxRep: how plain data lie in the heap; what a name's cell says; heaps that only grow. -/
namespace Rx
open PySem PySem.Spec PyProof.Rows L2
set_option autoImplicit false
abbrev St := L2.St

theorem line_eq : (sizeLine : Nat) = line := by rw [sizeLine_eq]

/-- the key that a number is; that a tuple of numbers is -/
def KeyI (d : D) (k : Key) : Prop := ∃ i, d = .int i ∧ k = Sum.inl i
def KeyT (d : D) (k : List Key) : Prop := ∃ ns : List Int, d = .tup (ns.map .int) ∧ k = ns.map Sum.inl ∧ ns.length ≤ line

mutual
def Rep (K : PySem.W.Frag) (F : Hp) : D → V → Prop
  | .non, v => v = .non
  | .bl b, v => v = .bl b
  | .int i, v => v = .int i
  | .tup ds, v => ∃ a vs, v = .ref a ∧ F a = some (.tup vs) ∧ RepL K F ds vs ∧ ds.length ≤ line
  | .lst ds, v => ∃ a vs, v = .ref a ∧ F a = some (.lst vs) ∧ RepL K F ds vs ∧ ds.length ≤ line
  | .scr ns, v => ∃ a, v = .ref a ∧ SqL K F a (ns.map V.int) ∧ ns.length ≤ line
  | .dic false kvs, v => ∃ a ws, v = .ref a ∧ F a = some (.dK ws) ∧ RepK K F kvs ws
  | .dic true kvs, v => ∃ a ws, v = .ref a ∧ F a = some (.dT ws) ∧ RepT K F kvs ws
  | .rng lo hi, v => ∃ a, v = .ref a ∧ F a = some (.rng lo hi)
def RepL (K : PySem.W.Frag) (F : Hp) : List D → List V → Prop
  | [], vs => vs = []
  | d :: ds, vs => ∃ v r, vs = v :: r ∧ Rep K F d v ∧ RepL K F ds r
def RepK (K : PySem.W.Frag) (F : Hp) : List (D × D) → List (Key × V) → Prop
  | [], ws => ws = []
  | (k, d) :: r, ws => ∃ k' v r', ws = (k', v) :: r' ∧ KeyI k k' ∧ Rep K F d v ∧ RepK K F r r'
def RepT (K : PySem.W.Frag) (F : Hp) : List (D × D) → List (List Key × V) → Prop
  | [], ws => ws = []
  | (k, d) :: r, ws => ∃ k' v r', ws = (k', v) :: r' ∧ KeyT k k' ∧ Rep K F d v ∧ RepT K F r r'
end

def FMono (F F' : Hp) : Prop := ∀ a u, F a = some u → F' a = some u
theorem FMono.refl (F : Hp) : FMono F F := fun _ _ h => h
theorem FMono.trans {F F1 F2 : Hp} (a : FMono F F1) (b : FMono F1 F2) : FMono F F2 := fun c u h => b c u (a c u h)
theorem FMono.sqL {K : PySem.W.Frag} {F F' : Hp} {a : Addr} {vs : List V} (m : FMono F F') (h : SqL K F a vs) : SqL K F' a vs := by
  rcases h with (h | ⟨o, h⟩) | h
  · exact .inl (.inl (m _ _ h))
  · exact .inl (.inr ⟨o, m _ _ h⟩)
  · exact .inr h
section
variable {K : PySem.W.Frag} {F F' : Hp}
mutual
theorem Rep.mono (m : FMono F F') : ∀ (d : D) {v : V}, Rep K F d v → Rep K F' d v
  | .non, _, h => h
  | .bl _, _, h => h
  | .int _, _, h => h
  | .tup ds, _, h => let ⟨a, vs, e, f, r, l⟩ := h; ⟨a, vs, e, m _ _ f, RepL.mono m ds r, l⟩
  | .lst ds, _, h => let ⟨a, vs, e, f, r, l⟩ := h; ⟨a, vs, e, m _ _ f, RepL.mono m ds r, l⟩
  | .scr ns, _, h => let ⟨a, e, f, l⟩ := h; ⟨a, e, m.sqL f, l⟩
  | .dic false kvs, _, h => let ⟨a, ws, e, f, r⟩ := h; ⟨a, ws, e, m _ _ f, RepK.mono m kvs r⟩
  | .dic true kvs, _, h => let ⟨a, ws, e, f, r⟩ := h; ⟨a, ws, e, m _ _ f, RepT.mono m kvs r⟩
  | .rng _ _, _, h => let ⟨a, e, f⟩ := h; ⟨a, e, m _ _ f⟩
theorem RepL.mono (m : FMono F F') : ∀ (ds : List D) {vs : List V}, RepL K F ds vs → RepL K F' ds vs
  | [], _, h => h
  | d :: ds, _, h => let ⟨v, r, e, h1, h2⟩ := h; ⟨v, r, e, Rep.mono m d h1, RepL.mono m ds h2⟩
theorem RepK.mono (m : FMono F F') : ∀ (kvs : List (D × D)) {ws : List (Key × V)}, RepK K F kvs ws → RepK K F' kvs ws
  | [], _, h => h
  | (k, d) :: r, _, h => let ⟨k', v, r', e, hk, h1, h2⟩ := h; ⟨k', v, r', e, hk, Rep.mono m d h1, RepK.mono m r h2⟩
theorem RepT.mono (m : FMono F F') : ∀ (kvs : List (D × D)) {ws : List (List Key × V)}, RepT K F kvs ws → RepT K F' kvs ws
  | [], _, h => h
  | (k, d) :: r, _, h => let ⟨k', v, r', e, hk, h1, h2⟩ := h; ⟨k', v, r', e, hk, Rep.mono m d h1, RepT.mono m r h2⟩
end
end

/-! ### lists of values -/
section
variable {K : PySem.W.Frag} {F F' : Hp}
theorem RepL.length : ∀ {ds : List D} {vs : List V}, RepL K F ds vs → vs.length = ds.length
  | [], _, h => by cases h; rfl
  | d :: ds, _, h => by
    obtain ⟨v, r, rfl, _, h2⟩ := h
    simp [RepL.length h2]
theorem RepL.get : ∀ {ds : List D} {vs : List V} {i : Nat} {d : D}, RepL K F ds vs → ds[i]? = some d → ∃ v, vs[i]? = some v ∧ Rep K F d v
  | d :: ds, _, 0, x, h, e => by
    obtain ⟨v, r, rfl, h1, h2⟩ := h
    simp at e; subst e
    exact ⟨v, rfl, h1⟩
  | d :: ds, _, i + 1, x, h, e => by
    obtain ⟨v, r, rfl, h1, h2⟩ := h
    simp at e
    obtain ⟨w, e1, e2⟩ := RepL.get (i := i) h2 e
    exact ⟨w, by simpa using e1, e2⟩
theorem RepL.get' : ∀ {ds : List D} {vs : List V} {i : Nat} {v : V}, RepL K F ds vs → vs[i]? = some v → ∃ d, ds[i]? = some d ∧ Rep K F d v
  | [], _, i, x, h, e => by cases h; simp at e
  | d :: ds, _, 0, x, h, e => by
    obtain ⟨v, r, rfl, h1, h2⟩ := h
    simp at e; subst e
    exact ⟨d, rfl, h1⟩
  | d :: ds, _, i + 1, x, h, e => by
    obtain ⟨v, r, rfl, h1, h2⟩ := h
    simp at e
    obtain ⟨w, e1, e2⟩ := RepL.get' (i := i) h2 e
    exact ⟨w, by simpa using e1, e2⟩
theorem RepL.append : ∀ {ds es : List D} {vs ws : List V}, RepL K F ds vs → RepL K F es ws → RepL K F (ds ++ es) (vs ++ ws)
  | [], _, _, _, h, g => by cases h; exact g
  | d :: ds, _, _, _, h, g => by
    obtain ⟨v, r, rfl, h1, h2⟩ := h
    exact ⟨v, r ++ _, rfl, h1, RepL.append h2 g⟩
theorem RepL.one {d : D} {v : V} (h : Rep K F d v) : RepL K F [d] [v] := ⟨v, [], rfl, h, rfl⟩
theorem RepL.set : ∀ {ds : List D} {vs : List V} {d : D} {v : V} (i : Nat), RepL K F ds vs → Rep K F d v → RepL K F (ds.set i d) (vs.set i v)
  | [], _, _, _, _, h, _ => by cases h; rfl
  | d :: ds, _, _, _, 0, h, g => by
    obtain ⟨v, r, rfl, h1, h2⟩ := h
    exact ⟨_, r, rfl, g, h2⟩
  | d :: ds, _, _, _, i + 1, h, g => by
    obtain ⟨v, r, rfl, h1, h2⟩ := h
    exact ⟨v, r.set i _, rfl, h1, RepL.set i h2 g⟩
theorem RepL.take : ∀ {ds : List D} {vs : List V} (i : Nat), RepL K F ds vs → RepL K F (ds.take i) (vs.take i)
  | _, _, 0, _ => rfl
  | [], _, _ + 1, h => by cases h; rfl
  | d :: ds, _, i + 1, h => by
    obtain ⟨v, r, rfl, h1, h2⟩ := h
    exact ⟨v, r.take i, rfl, h1, RepL.take i h2⟩
theorem RepL.drop : ∀ {ds : List D} {vs : List V} (i : Nat), RepL K F ds vs → RepL K F (ds.drop i) (vs.drop i)
  | _, _, 0, h => h
  | [], _, _ + 1, h => by cases h; rfl
  | d :: ds, _, i + 1, h => by
    obtain ⟨v, r, rfl, h1, h2⟩ := h
    exact RepL.drop i h2
theorem RepL.reverse : ∀ {ds : List D} {vs : List V}, RepL K F ds vs → RepL K F ds.reverse vs.reverse
  | [], _, h => by cases h; rfl
  | d :: ds, _, h => by
    obtain ⟨v, r, rfl, h1, h2⟩ := h
    rw [List.reverse_cons, List.reverse_cons]
    exact (RepL.reverse h2).append (.one h1)
theorem RepL.rep {ds : List D} {vs : List V} (h : RepL K F ds vs) : ∀ k : Nat, RepL K F (List.replicate k ds).flatten (List.replicate k vs).flatten
  | 0 => rfl
  | k + 1 => by
    simp only [List.replicate_succ, List.flatten_cons]
    exact h.append (RepL.rep h k)
/-- built by place -/
theorem RepL.of_get : ∀ {ds : List D} {vs : List V}, vs.length = ds.length → (∀ (i : Nat) d v, ds[i]? = some d → vs[i]? = some v → Rep K F d v) → RepL K F ds vs
  | [], vs, hl, _ => by cases vs with | nil => rfl | cons => simp at hl
  | d :: ds, vs, hl, h => by
    cases vs with
    | nil => simp at hl
    | cons v r => exact ⟨v, r, rfl, h 0 d v rfl rfl, RepL.of_get (by simpa using hl) fun i x y e1 e2 => h (i + 1) x y (by simpa using e1) (by simpa using e2)⟩
theorem RepL.ints : ∀ {ns : List Int} {vs : List V}, RepL K F (ns.map .int) vs → vs = ns.map V.int
  | [], _, h => h
  | n :: ns, _, h => by
    obtain ⟨v, r, rfl, h1, h2⟩ := h
    rw [RepL.ints h2]; cases h1; rfl
theorem RepL.ofInts : ∀ (ns : List Int), RepL K F (ns.map .int) (ns.map V.int)
  | [] => rfl
  | n :: ns => ⟨_, _, rfl, rfl, RepL.ofInts ns⟩
theorem RepL.bls : ∀ {ns : List Bool} {vs : List V}, RepL K F (ns.map .bl) vs → vs = ns.map V.bl
  | [], _, h => h
  | n :: ns, _, h => by
    obtain ⟨v, r, rfl, h1, h2⟩ := h
    rw [RepL.bls h2]; cases h1; rfl
theorem ints_eq : ∀ {ds : List D} {ns : List Int}, D.ints ds = some ns → ds = ns.map .int
  | [], ns, h => by cases h; rfl
  | d :: ds, ns, h => by
    cases d <;> simp only [D.ints] at h <;> try cases h
    obtain ⟨ms, e, rfl⟩ := Option.map_eq_some_iff.mp h
    rw [ints_eq e]; rfl
theorem ints_map : ∀ (ns : List Int), D.ints (ns.map .int) = some ns
  | [] => rfl
  | n :: ns => by simp [D.ints, ints_map ns]
theorem bools_eq : ∀ {ds : List D} {ns : List Bool}, D.bools ds = some ns → ds = ns.map .bl
  | [], ns, h => by cases h; rfl
  | d :: ds, ns, h => by
    cases d <;> simp only [D.bools] at h <;> try cases h
    obtain ⟨ms, e, rfl⟩ := Option.map_eq_some_iff.mp h
    rw [bools_eq e]; rfl
theorem bools_map : ∀ (ns : List Bool), D.bools (ns.map .bl) = some ns
  | [] => rfl
  | n :: ns => by simp [D.bools, bools_map ns]
end

/-! ### frozen heaps -/
def isDic : HO → Bool
  | .dK _ => true | .dT _ => true | _ => false
/-- what is frozen stands in the heap (a dict perhaps locked by a walk) -/
def FLe (F H : Hp) : Prop := ∀ a u, F a = some u → H a = some u ∨ (isDic u = true ∧ ∃ o, H a = some (.frz o u))
theorem FLe.tup {F H : Hp} {a : Addr} {vs : List V} (h : FLe F H) (e : F a = some (.tup vs)) : H a = some (.tup vs) := by
  rcases h a _ e with q | ⟨q, _⟩
  · exact q
  · cases q
theorem FLe.lst {F H : Hp} {a : Addr} {vs : List V} (h : FLe F H) (e : F a = some (.lst vs)) : H a = some (.lst vs) := by
  rcases h a _ e with q | ⟨q, _⟩
  · exact q
  · cases q
theorem FLe.rng {F H : Hp} {a : Addr} {lo hi : Int} (h : FLe F H) (e : F a = some (.rng lo hi)) : H a = some (.rng lo hi) := by
  rcases h a _ e with q | ⟨q, _⟩
  · exact q
  · cases q
theorem FLe.sqL {K : PySem.W.Frag} {F H : Hp} {a : Addr} {vs : List V} (h : FLe F H) (e : SqL K F a vs) : SqL K H a vs := by
  rcases e with (e | ⟨o, e⟩) | e
  · rcases h a _ e with q | ⟨q, _⟩
    · exact .inl (.inl q)
    · cases q
  · rcases h a _ e with q | ⟨q, _⟩
    · exact .inl (.inr ⟨o, q⟩)
    · cases q
  · exact .inr e
theorem FLe.rd {F H : Hp} {a : Addr} {u : HO} (h : FLe F H) (e : F a = some u) : Rd H a u := by
  rcases h a _ e with q | ⟨_, o, q⟩
  · exact .inl q
  · exact .inr ⟨o, q⟩

/-- a tuple -/
def isTupO : HO → Bool
  | .tup _ => true | _ => false
/-- the heap has grown: what was there and what was frozen is as it was; nothing that was there, but tuples, has been frozen meanwhile -/
structure Ext (F H F' H' : Hp) : Prop where
  f : FMono F F'
  h : ∀ a u, H a = some u → H' a = some u
  n : ∀ a u, H a = some u → isTupO u = false → F' a = F a
theorem Ext.refl (F H : Hp) : Ext F H F H := ⟨.refl F, fun _ _ h => h, fun _ _ _ _ => rfl⟩
theorem Ext.trans {F H F1 H1 F2 H2 : Hp} (a : Ext F H F1 H1) (b : Ext F1 H1 F2 H2) : Ext F H F2 H2 :=
  ⟨a.f.trans b.f, fun c u h => b.h c u (a.h c u h), fun c u h z => (b.n c u (a.h c u h) z).trans (a.n c u h z)⟩
/-- a new object, frozen -/
theorem Ext.new {F H : Hp} {a : Addr} {o : HO} (hf : FLe F H) (hn : H a = none) : Ext F H (upd F a o) (upd H a o) := by
  have fn : F a = none := by
    cases q : F a with
    | none => rfl
    | some u => rcases hf a u q with z | ⟨_, _, z⟩ <;> (rw [hn] at z; cases z)
  refine ⟨fun b u e => ?_, fun b u e => ?_, fun b u e _ => ?_⟩
  · rw [upd_ne (ne_of_none e fn)]; exact e
  · rw [upd_ne (ne_of_none e hn)]; exact e
  · rw [upd_ne (ne_of_none e hn)]
theorem FLe.free {F H : Hp} {a : Addr} (hf : FLe F H) (hn : H a = none) : F a = none := by
  cases q : F a with
  | none => rfl
  | some u => rcases hf a u q with z | ⟨_, _, z⟩ <;> (rw [hn] at z; cases z)
theorem FLe.new {F H : Hp} {a : Addr} {o : HO} (hf : FLe F H) (hn : H a = none) : FLe (upd F a o) (upd H a o) := fun b u e => by
  by_cases hb : b = a
  · subst hb; rw [upd_same] at e ⊢; exact .inl e
  · rw [upd_ne hb] at e ⊢; exact hf b u e
/-- a new object, not frozen -/
theorem Ext.made {F H : Hp} {a : Addr} {o : HO} (hn : H a = none) : Ext F H F (upd H a o) :=
  ⟨.refl F, fun b u e => by rw [upd_ne (ne_of_none e hn)]; exact e, fun _ _ _ _ => rfl⟩
theorem FLe.made {F H : Hp} {a : Addr} {o : HO} (hf : FLe F H) (hn : H a = none) : FLe F (upd H a o) := fun b u e => by
  rw [upd_ne (ne_of_none e (hf.free hn))]; exact hf b u e
/-- an object that nobody has is frozen -/
theorem Ext.freeze {F H F' H' : Hp} {a : Addr} {o : HO} (x : Ext F H F' H') (hn : H a = none) (hf : F' a = none) : Ext F H (upd F' a o) H' :=
  ⟨fun b u e => by
    have := x.f b u e
    rw [upd_ne (ne_of_none this hf)]; exact this, x.h, fun b u e z => by rw [upd_ne (ne_of_none e hn)]; exact x.n b u e z⟩
theorem FLe.freeze {F H : Hp} {a : Addr} {o : HO} (hf : FLe F H) (ho : H a = some o) : FLe (upd F a o) H := fun b u e => by
  by_cases hb : b = a
  · subst hb; rw [upd_same] at e; cases e; exact .inl ho
  · rw [upd_ne hb] at e; exact hf b u e
theorem FMono.upd {F : Hp} {a : Addr} {o : HO} (hf : F a = none) : FMono F (upd F a o) := fun b u e => by rw [upd_ne (ne_of_none e hf)]; exact e

/-! ### owned objects, cells -/
/-- at a stands d, its parts frozen -/
def OwnAt (K : PySem.W.Frag) (F H : Hp) (a : Addr) : D → Prop
  | .lst ds => ∃ vs, H a = some (.lst vs) ∧ RepL K F ds vs ∧ ds.length ≤ line
  | .dic false kvs => ∃ ws, H a = some (.dK ws) ∧ RepK K F kvs ws
  | .dic true kvs => ∃ ws, H a = some (.dT ws) ∧ RepT K F kvs ws
  | _ => False
theorem OwnAt.there {K : PySem.W.Frag} {F H : Hp} {a : Addr} {d : D} (h : OwnAt K F H a d) : ∃ u, H a = some u ∧ isTupO u = false := by
  cases d with
  | lst ds => obtain ⟨vs, e, _⟩ := h; exact ⟨_, e, rfl⟩
  | dic t kvs => cases t <;> (obtain ⟨vs, e, _⟩ := h; exact ⟨_, e, rfl⟩)
  | _ => exact False.elim h
theorem OwnAt.mono {K : PySem.W.Frag} {F H F' H' : Hp} {a : Addr} {d : D} (h : OwnAt K F H a d) (m : FMono F F') (e : ∀ u, H a = some u → H' a = some u) : OwnAt K F' H' a d := by
  cases d with
  | lst ds => obtain ⟨vs, q, r, l⟩ := h; exact ⟨vs, e _ q, r.mono m, l⟩
  | dic t kvs => cases t <;> (obtain ⟨vs, q, r⟩ := h; exact ⟨vs, e _ q, r.mono m⟩)
  | _ => exact False.elim h
/-- frozen -/
theorem OwnAt.rep {K : PySem.W.Frag} {F H : Hp} {a : Addr} {d : D} (h : OwnAt K F H a d) (hf : F a = none) : ∃ o, H a = some o ∧ Rep K (upd F a o) d (.ref a) := by
  cases d with
  | lst ds => obtain ⟨vs, q, r, l⟩ := h; exact ⟨_, q, a, vs, rfl, upd_same, r.mono (.upd hf), l⟩
  | dic t kvs => cases t <;> (obtain ⟨vs, q, r⟩ := h; exact ⟨_, q, a, vs, rfl, upd_same, r.mono (.upd hf)⟩)
  | _ => exact False.elim h

structure EnvOk (K : PySem.W.Frag) (F H : Hp) (σ : St) (env : Env) : Prop where
  len : env.length = σ.length
  val : ∀ (i : Nat) (d : D), env[i]? = some (.val d) → ∃ v, σ[i]? = some (some v) ∧ Rep K F d v
  own : ∀ (i : Nat) (d : D), env[i]? = some (.own d) → ∃ a, σ[i]? = some (some (.ref a)) ∧ F a = none ∧ OwnAt K F H a d
  sep : ∀ (i j : Nat) (d e : D) (a : Addr), i ≠ j → env[i]? = some (.own d) → env[j]? = some (.own e) → σ[i]? = some (some (.ref a)) → σ[j]? ≠ some (some (.ref a))
theorem EnvOk.ext {K : PySem.W.Frag} {F H F' H' : Hp} {σ : St} {env : Env} (E : EnvOk K F H σ env) (x : Ext F H F' H') : EnvOk K F' H' σ env where
  len := E.len
  val := fun i d e => let ⟨v, h1, h2⟩ := E.val i d e; ⟨v, h1, h2.mono x.f⟩
  own := fun i d e => by
    obtain ⟨a, h1, h2, h3⟩ := E.own i d e
    obtain ⟨u, hu, nt⟩ := h3.there
    exact ⟨a, h1, (x.n a u hu nt).trans h2, h3.mono x.f fun u => x.h a u⟩
  sep := E.sep

/-- d is to be read at v: frozen, or an owned object -/
def RepB (K : PySem.W.Frag) (F H : Hp) (d : D) (v : V) : Prop := Rep K F d v ∨ ∃ a, v = .ref a ∧ F a = none ∧ OwnAt K F H a d
theorem RepB.ext {K : PySem.W.Frag} {F H F' H' : Hp} {d : D} {v : V} (h : RepB K F H d v) (x : Ext F H F' H') : RepB K F' H' d v := by
  rcases h with h | ⟨a, e, hf, h⟩
  · exact .inl (h.mono x.f)
  · obtain ⟨u, hu, nt⟩ := h.there
    exact .inr ⟨a, e, (x.n a u hu nt).trans hf, h.mono x.f fun u => x.h a u⟩
theorem RepB.int {K : PySem.W.Frag} {F H : Hp} {i : Int} {v : V} (h : RepB K F H (.int i) v) : v = .int i := by
  rcases h with h | ⟨_, _, _, h⟩
  · exact h
  · exact False.elim h
theorem RepB.bl {K : PySem.W.Frag} {F H : Hp} {i : Bool} {v : V} (h : RepB K F H (.bl i) v) : v = .bl i := by
  rcases h with h | ⟨_, _, _, h⟩
  · exact h
  · exact False.elim h
theorem RepB.non {K : PySem.W.Frag} {F H : Hp} {v : V} (h : RepB K F H .non v) : v = .non := by
  rcases h with h | ⟨_, _, _, h⟩
  · exact h
  · exact False.elim h
theorem RepB.tup {K : PySem.W.Frag} {F H : Hp} {ds : List D} {v : V} (h : RepB K F H (.tup ds) v) : ∃ a vs, v = .ref a ∧ F a = some (.tup vs) ∧ RepL K F ds vs ∧ ds.length ≤ line := by
  rcases h with h | ⟨_, _, _, h⟩
  · exact h
  · exact False.elim h
theorem RepB.lst {K : PySem.W.Frag} {F H : Hp} {ds : List D} {v : V} (h : RepB K F H (.lst ds) v) (hf : FLe F H) : ∃ a vs, v = .ref a ∧ H a = some (.lst vs) ∧ RepL K F ds vs ∧ ds.length ≤ line := by
  rcases h with ⟨a, vs, e, q, r, l⟩ | ⟨a, e, _, vs, q, r, l⟩
  · exact ⟨a, vs, e, hf.lst q, r, l⟩
  · exact ⟨a, vs, e, q, r, l⟩
theorem RepB.scr {K : PySem.W.Frag} {F H : Hp} {ns : List Int} {v : V} (h : RepB K F H (.scr ns) v) (hf : FLe F H) : ∃ a, v = .ref a ∧ SqL K H a (ns.map V.int) ∧ ns.length ≤ line := by
  rcases h with ⟨a, e, q, l⟩ | ⟨_, _, _, h⟩
  · exact ⟨a, e, hf.sqL q, l⟩
  · exact False.elim h
theorem RepB.dicK {K : PySem.W.Frag} {F H : Hp} {kvs : List (D × D)} {v : V} (h : RepB K F H (.dic false kvs) v) (hf : FLe F H) : ∃ a ws, v = .ref a ∧ Rd H a (.dK ws) ∧ RepK K F kvs ws := by
  rcases h with ⟨a, vs, e, q, r⟩ | ⟨a, e, _, vs, q, r⟩
  · exact ⟨a, vs, e, hf.rd q, r⟩
  · exact ⟨a, vs, e, .inl q, r⟩
theorem RepB.dicT {K : PySem.W.Frag} {F H : Hp} {kvs : List (D × D)} {v : V} (h : RepB K F H (.dic true kvs) v) (hf : FLe F H) : ∃ a ws, v = .ref a ∧ Rd H a (.dT ws) ∧ RepT K F kvs ws := by
  rcases h with ⟨a, vs, e, q, r⟩ | ⟨a, e, _, vs, q, r⟩
  · exact ⟨a, vs, e, hf.rd q, r⟩
  · exact ⟨a, vs, e, .inl q, r⟩
theorem RepB.rng {K : PySem.W.Frag} {F H : Hp} {lo hi : Int} {v : V} (h : RepB K F H (.rng lo hi) v) (hf : FLe F H) : ∃ a, v = .ref a ∧ H a = some (.rng lo hi) := by
  rcases h with ⟨a, e, q⟩ | ⟨_, _, _, h⟩
  · exact ⟨a, e, hf.rng q⟩
  · exact False.elim h
end Rx
end

section
set_option Elab.async false
set_option linter.all false
set_option maxRecDepth 100000
set_option maxHeartbeats 1000000
set_option autoImplicit false
/-! RxData: plain data as the library's data. -/
namespace Rx
open PySem PySem.Spec PySem.W PyProof.Rows L2

mutual
def D.toPy : D → PyData
  | .non => .none | .bl b => .bool b | .int i => .int i
  | .tup xs => .tuple (D.toPyL xs)
  | .lst xs => .list (D.toPyL xs)
  | _ => .none
def D.toPyL : List D → List PyData
  | [] => []
  | x :: xs => D.toPy x :: D.toPyL xs
end
theorem toPyL_eq : ∀ xs : List D, D.toPyL xs = xs.map D.toPy
  | [] => rfl
  | x :: xs => by rw [D.toPyL, toPyL_eq xs]; rfl
section
variable {K : PySem.W.Frag} {F H : Hp}
mutual
theorem rep_dp (l : FLe F H) : ∀ (d : D) {v : V}, D.plain d = true → Rep K F d v → Dp K H v (D.toPy d)
  | .non, _, _, r => by cases r; exact .non
  | .bl _, _, _, r => by cases r; exact .bl _
  | .int _, _, _, r => by cases r; exact .int _
  | .tup xs, _, p, r => by
    obtain ⟨a, vs, rfl, e, r, _⟩ := r
    exact .tup (.of (l.tup e)) (repL_dp l xs (by simpa [D.plain] using p) r)
  | .lst xs, _, p, r => by
    obtain ⟨a, vs, rfl, e, r, _⟩ := r
    exact .lst (.of (l.lst e)) (repL_dp l xs (by simpa [D.plain] using p) r)
  | .dic _ _, _, p, _ => by simp [D.plain] at p
  | .rng _ _, _, p, _ => by simp [D.plain] at p
  | .scr _, _, p, _ => by simp [D.plain] at p
theorem repL_dp (l : FLe F H) : ∀ (ds : List D) {vs : List V}, D.plainL ds = true → RepL K F ds vs → DpAll K H vs (D.toPyL ds)
  | [], _, _, r => by cases r; exact .nil
  | d :: ds, _, p, r => by
    obtain ⟨v, r', rfl, h1, h2⟩ := r
    simp only [D.plainL, Bool.and_eq_true] at p
    exact .cons (rep_dp l d p.1 h1) (repL_dp l ds p.2 h2)
end
theorem repB_dp (l : FLe F H) {d : D} {v : V} (p : D.plain d = true) (r : RepB K F H d v) : Dp K H v (D.toPy d) := by
  rcases r with r | ⟨a, rfl, f, r⟩
  · exact rep_dp l d p r
  · cases d with
    | lst xs =>
      obtain ⟨vs, e, r, _⟩ := r
      exact .lst (.of e) (repL_dp l xs (by simpa [D.plain] using p) r)
    | dic t kvs => simp [D.plain] at p
    | _ => exact False.elim r
end
mutual
theorem toPy_lay : ∀ d : D, (D.toPy d).canLay0 = true
  | .non => rfl | .bl _ => rfl | .int _ => rfl
  | .tup xs => by rw [D.toPy, PyData.canLay0]; exact toPyL_lay xs
  | .lst xs => by rw [D.toPy, PyData.canLay0]; exact toPyL_lay xs
  | .dic _ _ => rfl | .rng _ _ => rfl | .scr _ => rfl
theorem toPyL_lay : ∀ ds : List D, PyData.canLayAll0 (D.toPyL ds) = true
  | [] => rfl
  | d :: ds => by rw [D.toPyL, PyData.canLayAll0, toPy_lay d, toPyL_lay ds]; rfl
end
mutual
theorem toPy_depth : ∀ d : D, (D.toPy d).depth ≤ D.depth d
  | .non => Nat.le_of_eq rfl | .bl _ => Nat.le_of_eq rfl | .int _ => Nat.le_of_eq rfl
  | .tup xs => by have := toPyL_depth xs; rw [D.toPy, PyData.depth, D.depth]; omega
  | .lst xs => by have := toPyL_depth xs; rw [D.toPy, PyData.depth, D.depth]; omega
  | .dic _ _ => Nat.zero_le _ | .rng _ _ => Nat.zero_le _ | .scr _ => Nat.zero_le _
theorem toPyL_depth : ∀ ds : List D, PyData.depthAll (D.toPyL ds) ≤ D.depthL ds
  | [] => Nat.le_of_eq rfl
  | d :: ds => by have h1 := toPy_depth d; have h2 := toPyL_depth ds; rw [D.toPyL, PyData.depthAll, D.depthL]; omega
end
theorem toPy_shaped {d : D} (h : D.depth d < 60) : SeqAt.shaped (D.toPy d) = true := by
  have := toPy_depth d
  unfold SeqAt.shaped
  rw [toPy_lay d, Bool.true_and, decide_eq_true_eq]
  omega
mutual
theorem toPy_eqv : ∀ a b : D, D.plain a = true → D.plain b = true → PyData.eqv (D.toPy a) (D.toPy b) = D.eqb a b
  | .non, b, _, q => by cases b <;> first | rfl | simp [D.plain] at q
  | .bl _, b, _, q => by
    cases b <;> first | rfl | simp [D.plain] at q
  | .int _, b, _, q => by
    cases b <;> first | rfl | simp [D.plain] at q
  | .tup xs, b, p, q => by
    cases b <;> first | rfl | simp [D.plain] at q
    simp only [D.plain] at p
    rw [D.toPy, D.toPy, PyData.eqv, D.eqb]; exact toPyL_eqv xs _ p q
  | .lst xs, b, p, q => by
    cases b <;> first | rfl | simp [D.plain] at q
    simp only [D.plain] at p
    rw [D.toPy, D.toPy, PyData.eqv, D.eqb]; exact toPyL_eqv xs _ p q
  | .dic _ _, _, p, _ => by simp [D.plain] at p
  | .rng _ _, _, p, _ => by simp [D.plain] at p
  | .scr _, _, p, _ => by simp [D.plain] at p
theorem toPyL_eqv : ∀ a b : List D, D.plainL a = true → D.plainL b = true → PyData.eqvAll (D.toPyL a) (D.toPyL b) = D.eqbL a b
  | [], [], _, _ => rfl
  | [], _ :: _, _, _ => rfl
  | _ :: _, [], _, _ => rfl
  | x :: xs, y :: ys, p, q => by
    simp only [D.plainL, Bool.and_eq_true] at p q
    rw [D.toPyL, D.toPyL, PyData.eqvAll, D.eqbL, toPy_eqv x y p.1 q.1, toPyL_eqv xs ys p.2 q.2]
end
mutual
theorem alike_plain : ∀ a b : D, D.alike a b = true → PySem.W.alike (D.toPy a) (D.toPy b) = true
  | .int _, b, h => by cases b <;> first | rfl | simp [D.alike] at h
  | .tup xs, b, h => by
    cases b <;> try (simp [D.alike] at h; done)
    simp only [D.alike] at h
    rw [D.toPy, D.toPy, PySem.W.alike]; exact alikeL_plain xs _ h
  | .non, _, h => by simp [D.alike] at h
  | .bl _, _, h => by simp [D.alike] at h
  | .lst _, _, h => by simp [D.alike] at h
  | .dic _ _, _, h => by simp [D.alike] at h
  | .rng _ _, _, h => by simp [D.alike] at h
  | .scr _, _, h => by simp [D.alike] at h
theorem alikeL_plain : ∀ a b : List D, D.alikeL a b = true → PySem.W.alikeAll (D.toPyL a) (D.toPyL b) = true
  | [], b, _ => by rw [D.toPyL, PySem.W.alikeAll]
  | _ :: _, [], _ => by rw [D.toPyL, D.toPyL, PySem.W.alikeAll]
  | x :: xs, y :: ys, h => by
    simp only [D.alikeL, Bool.and_eq_true] at h
    rw [D.toPyL, D.toPyL, PySem.W.alikeAll, alike_plain x y h.1, alikeL_plain xs ys h.2]; rfl
end
mutual
/-- equal as the library says, for alike ones -/
theorem alike_eqv : ∀ a b : D, D.alike a b = true → PyData.eqv (D.toPy a) (D.toPy b) = D.eqb a b
  | .int i, b, h => by cases b <;> first | exact toPy_eqv _ _ rfl rfl | simp [D.alike] at h
  | .tup xs, b, h => by
    cases b <;> try (simp [D.alike] at h; done)
    simp only [D.alike] at h
    rw [D.toPy, D.toPy, PyData.eqv, D.eqb]; exact alikeL_eqv xs _ h
  | .non, _, h => by simp [D.alike] at h
  | .bl _, _, h => by simp [D.alike] at h
  | .lst _, _, h => by simp [D.alike] at h
  | .dic _ _, _, h => by simp [D.alike] at h
  | .rng _ _, _, h => by simp [D.alike] at h
  | .scr _, _, h => by simp [D.alike] at h
theorem alikeL_eqv : ∀ a b : List D, D.alikeL a b = true → PyData.eqvAll (D.toPyL a) (D.toPyL b) = D.eqbL a b
  | [], [], _ => rfl
  | [], _ :: _, _ => rfl
  | _ :: _, [], _ => rfl
  | x :: xs, y :: ys, h => by
    simp only [D.alikeL, Bool.and_eq_true] at h
    rw [D.toPyL, D.toPyL, PyData.eqvAll, D.eqbL, alike_eqv x y h.1, alikeL_eqv xs ys h.2]
end
mutual
theorem toPy_lt : ∀ a b : D, D.alike a b = true → PySem.W.dataLt (D.toPy a) (D.toPy b) = D.ltb a b
  | .int i, b, h => by
    cases b <;> try (simp [D.alike] at h; done)
    rw [D.toPy, D.toPy, PySem.W.dataLt_int, D.ltb]
  | .tup xs, b, h => by
    cases b <;> try (simp [D.alike] at h; done)
    simp only [D.alike] at h
    rw [D.toPy, D.toPy, PySem.W.dataLt_tuple, D.ltb]; exact toPyL_lt xs _ h
  | .non, _, h => by simp [D.alike] at h
  | .bl _, _, h => by simp [D.alike] at h
  | .lst _, _, h => by simp [D.alike] at h
  | .dic _ _, _, h => by simp [D.alike] at h
  | .rng _ _, _, h => by simp [D.alike] at h
  | .scr _, _, h => by simp [D.alike] at h
theorem toPyL_lt : ∀ a b : List D, D.alikeL a b = true → PyProof.Rows.lexLt itemOrd (PySem.W.keyToksAll (D.toPyL a)) (PySem.W.keyToksAll (D.toPyL b)) = D.ltbL a b
  | [], [], _ => rfl
  | [], y :: ys, _ => by
    rw [D.toPyL, D.toPyL, PySem.W.toks_all_cons, D.ltbL, PySem.W.keyToksAll, PySem.W.lex_atom (by decide)]; rfl
  | x :: xs, [], _ => by
    rw [D.toPyL, D.toPyL, PySem.W.toks_all_cons, D.ltbL, PySem.W.keyToksAll, PySem.W.lex_atom (by decide)]; rfl
  | x :: xs, y :: ys, h => by
    simp only [D.alikeL, Bool.and_eq_true] at h
    have ha := alike_plain x y h.1
    have he := alike_eqv x y h.1
    rw [D.toPyL, D.toPyL, D.ltbL]
    cases e : D.eqb x y with
    | true => rw [PySem.W.dataLt_all_yes ha (he.trans e), toPyL_lt xs ys h.2]; rfl
    | false => rw [PySem.W.dataLt_all_no ha (he.trans e), toPy_lt x y h.1]; rfl
end
end Rx
end

section
set_option Elab.async false
set_option linter.all false
set_option maxRecDepth 100000
set_option maxHeartbeats 1000000
set_option autoImplicit false
/-! RxSound1: an expression's reading by what ev says of it. -/
namespace Rx
open PySem PySem.Spec PyProof.Rows L2

abbrev Gm := Nat → List D → Option D
structure Ok (K : PySem.W.Frag) (F H : Hp) (σ : St) (env : Env) : Prop where
  le : FLe F H
  en : EnvOk K F H σ env
theorem Ok.ext {K : PySem.W.Frag} {F H F' H' : Hp} {σ : St} {env : Env} (o : Ok K F H σ env) (x : Ext F H F' H') (l : FLe F' H') : Ok K F' H' σ env := ⟨l, o.en.ext x⟩

def tD (K : PySem.W.Frag) (G : Gm) (e : E) : TE := fun σ H Q => ∃ F env d, Ok K F H σ env ∧ ev G env e = some d ∧ ∀ F' H' v, Ext F H F' H' → FLe F' H' → Rep K F' d v → Q v H'
def tB (K : PySem.W.Frag) (G : Gm) (e : E) : TE := fun σ H Q => ∃ F env d, Ok K F H σ env ∧ bo env e (ev G env e) = some d ∧ ∀ F' H' v, Ext F H F' H' → FLe F' H' → RepB K F' H' d v → Q v H'
def tT (K : PySem.W.Frag) (G : Gm) (e : C) : TT := fun σ H Q => ∃ F env c, Ok K F H σ env ∧ ts G env e = some c ∧ ∀ F' H', Ext F H F' H' → FLe F' H' → Q c H'
def tL (K : PySem.W.Frag) (G : Gm) (es : List E) : TA := fun σ H Q => ∃ F env ds, Ok K F H σ env ∧ evL G env es = some ds ∧ ∀ F' H' vs, Ext F H F' H' → FLe F' H' → RepL K F' ds vs → Q vs H'
def RepBL (K : PySem.W.Frag) (F H : Hp) : List D → List V → Prop
  | [], vs => vs = []
  | d :: ds, vs => ∃ v r, vs = v :: r ∧ RepB K F H d v ∧ RepBL K F H ds r
theorem RepBL.ext {K : PySem.W.Frag} {F H F' H' : Hp} (x : Ext F H F' H') : ∀ {ds : List D} {vs : List V}, RepBL K F H ds vs → RepBL K F' H' ds vs
  | [], _, h => h
  | d :: ds, _, h => let ⟨v, r, e, h1, h2⟩ := h; ⟨v, r, e, h1.ext x, RepBL.ext x h2⟩
def tLB (K : PySem.W.Frag) (G : Gm) (es : List E) : TA := fun σ H Q => ∃ F env ds, Ok K F H σ env ∧ evB G env es = some ds ∧ ∀ F' H' vs, Ext F H F' H' → FLe F' H' → RepBL K F' H' ds vs → Q vs H'

theorem _root_.L2.PE.imp {X : Cx} {e : Expr} {t t' : TE} (h : PE X e t) (m : ∀ σ H Q, t' σ H Q → t σ H Q) : PE X e t' := ⟨fun pins s σ H Q I q => h.run pins s σ H Q I (m σ H Q q)⟩
theorem _root_.L2.PT.imp {X : Cx} {e : Expr} {t t' : TT} (h : PT X e t) (m : ∀ σ H Q, t' σ H Q → t σ H Q) : PT X e t' := ⟨fun pins s σ H Q I q => h.run pins s σ H Q I (m σ H Q q)⟩
theorem _root_.L2.PW.imp {X : Cx} {e : Expr} {t t' : TT} (h : PW X e t) (m : ∀ σ H Q, t' σ H Q → t σ H Q) : PW X e t' := ⟨fun wh pins s σ H Q I q => h.run wh pins s σ H Q I (m σ H Q q)⟩
theorem _root_.L2.PA.imp {X : Cx} {e : List Expr} {t t' : TA} (h : PA X e t) (m : ∀ σ H Q, t' σ H Q → t σ H Q) : PA X e t' := ⟨fun pos pins s σ H Q I q => h.run pos pins s σ H Q I (m σ H Q q)⟩
theorem _root_.L2.PE.or {X : Cx} {e : Expr} {t t' : TE} (h : PE X e t) (h' : PE X e t') : PE X e (fun σ H Q => t σ H Q ∨ t' σ H Q) := ⟨fun pins s σ H Q I q => q.elim (h.run pins s σ H Q I) (h'.run pins s σ H Q I)⟩

section
variable {X : Cx} {G : Gm} {K : PySem.W.Frag} {F H : Hp} {σ : St} {env : Env} {Q : VK} {e a b c : E} {me ma mb mc : Expr} {pos : Pos}
theorem runD {d : D} (o : Ok K F H σ env) (h : ev G env e = some d) (k : ∀ F' H' v, Ext F H F' H' → Ok K F' H' σ env → Rep K F' d v → Q v H') : tD K G e σ H Q :=
  ⟨F, env, d, o, h, fun F' H' v x l r => k F' H' v x (o.ext x l) r⟩
theorem runB {d : D} (o : Ok K F H σ env) (h : bo env e (ev G env e) = some d) (k : ∀ F' H' v, Ext F H F' H' → Ok K F' H' σ env → RepB K F' H' d v → Q v H') : tB K G e σ H Q :=
  ⟨F, env, d, o, h, fun F' H' v x l r => k F' H' v x (o.ext x l) r⟩
theorem tB_of (hne : ∀ i, e ≠ .var i) (h : PE X me (tD K G e)) : PE X me (tB K G e) := h.imp fun σ H Q ⟨F, env, d, o, hd, k⟩ =>
  ⟨F, env, d, o, by cases e <;> first | exact hd | exact absurd rfl (hne _), fun F' H' v x l r => k F' H' v x l (.inl r)⟩

/-! ### what is made -/
/-- what is wanted of a value d -/
abbrev Want (K : PySem.W.Frag) (F H : Hp) (d : D) (Q : VK) : Prop := ∀ F' H' v, Ext F H F' H' → FLe F' H' → Rep K F' d v → Q v H'
theorem Want.flat {d : D} {v : V} (q : Want K F H d Q) (l : FLe F H) (r : Rep K F d v) : Q v H := q F H v (.refl F H) l r
theorem Want.tup {ds : List D} {vs : List V} {p : Addr} (q : Want K F H (.tup ds) Q) (l : FLe F H) (r : RepL K F ds vs) (z : ds.length ≤ line) (n : H p = none) : Q (.ref p) (upd H p (.tup vs)) :=
  q _ _ _ (.new l n) (l.new n) ⟨p, vs, rfl, upd_same, r.mono (.upd (l.free n)), z⟩
theorem Want.lst {ds : List D} {vs : List V} {p : Addr} (q : Want K F H (.lst ds) Q) (l : FLe F H) (r : RepL K F ds vs) (z : ds.length ≤ line) (n : H p = none) : Q (.ref p) (upd H p (.lst vs)) :=
  q _ _ _ (.new l n) (l.new n) ⟨p, vs, rfl, upd_same, r.mono (.upd (l.free n)), z⟩

/-! ### names, constants -/
theorem r_varD {i : Nat} {x : Str} (h : PE X (.Name x pos) (L2.tVar i)) : PE X (.Name x pos) (tD K G (.var i)) := h.imp fun σ H Q ⟨F, env, d, o, hd, k⟩ => by
  have hd' : env.val i = some d := hd
  unfold Env.val at hd'
  split at hd'
  · rename_i z hz
    cases hd'
    obtain ⟨v, e1, r⟩ := o.en.val i d hz
    exact ⟨v, e1, k F H v (.refl F H) o.le r⟩
  · cases hd'
theorem r_varB {i : Nat} {x : Str} (h : PE X (.Name x pos) (L2.tVar i)) : PE X (.Name x pos) (tB K G (.var i)) := h.imp fun σ H Q ⟨F, env, d, o, hd, k⟩ => by
  have hd' : env.bor i = some d := hd
  unfold Env.bor at hd'
  split at hd'
  · rename_i z hz
    cases hd'
    obtain ⟨v, e1, r⟩ := o.en.val i d hz
    exact ⟨v, e1, k F H v (.refl F H) o.le (.inl r)⟩
  · rename_i z hz
    cases hd'
    obtain ⟨a, e1, f, r⟩ := o.en.own i d hz
    exact ⟨.ref a, e1, k F H _ (.refl F H) o.le (.inr ⟨a, rfl, f, r⟩)⟩
  · cases hd'
theorem r_int {i : Int} {j : Nat} : PE X (.Constant (.int i) j pos) (tD K G (.int i)) := pe_int.imp fun σ H Q ⟨F, env, d, o, hd, k⟩ => by
  cases hd; exact k F H _ (.refl F H) o.le rfl
theorem r_bl {i : Bool} {j : Nat} : PE X (.Constant (.bool i) j pos) (tD K G (.bl i)) := pe_bl.imp fun σ H Q ⟨F, env, d, o, hd, k⟩ => by
  cases hd; exact k F H _ (.refl F H) o.le rfl
theorem r_non {j : Nat} : PE X (.Constant .none j pos) (tD K G .non) := pe_non.imp fun σ H Q ⟨F, env, d, o, hd, k⟩ => by
  cases hd; exact k F H _ (.refl F H) o.le rfl

/-! ### operators -/
/-- r asks of the values what f says of the data -/
def R2ok (K : PySem.W.Frag) (f : D → D → Option D) (r : R2) : Prop := ∀ (x y z : D) (F H : Hp) (v u : V) (Q : VK), f x y = some z → FLe F H → RepB K F H x v → RepB K F H y u → Want K F H z Q → r v u H Q
theorem r_op2 {f : D → D → Option D} {r : R2} (hr : R2ok K f r) {σ : St} {H : Hp} {Q : VK} {F : Hp} {env : Env} {x y z : D} (o : Ok K F H σ env) (hx : bo env a (ev G env a) = some x) (hy : bo env b (ev G env b) = some y) (hz : f x y = some z) (k : Want K F H z Q) :
    L2.tOp r (tB K G a) (tB K G b) σ H Q :=
  runB o hx fun F1 H1 v x1 o1 r1 => runB o1 hy fun F2 H2 u x2 o2 r2 => hr x y z F2 H2 v u Q hz o2.le (r1.ext x2) r2 fun F' H' w x3 l3 r3 => k F' H' w ((x1.trans x2).trans x3) l3 r3
theorem r_bin {o : BO} {op : Operator} {r : R2} (ho : OpR X (binaryOp op) r) (hr : R2ok K (opB o) r) (ha : PE X ma (tB K G a)) (hb : PE X mb (tB K G b)) : PE X (.BinOp ma op mb pos) (tD K G (.bin o a b)) :=
  (pe_op ho ha hb).imp fun σ H Q ⟨F, env, d, ok, hd, k⟩ => by
    obtain ⟨x, hx, hd⟩ := Option.bind_eq_some_iff.mp (show (bo env a (ev G env a)).bind _ = some d from hd)
    obtain ⟨y, hy, hd⟩ := Option.bind_eq_some_iff.mp hd
    exact r_op2 hr ok hx hy hd k

theorem add_ok : R2ok K (opB .add) (fun x y H Q => rI0 (fun i j => V.int (i + j)) x y H Q ∨ rCatA K x y H Q ∨ rCat x y H Q) := by
  intro x y z F H v u Q hz l rx ry k
  cases x <;> cases y <;> simp only [opB] at hz <;> try cases hz
  · exact .inl ⟨_, _, rx.int, ry.int, k.flat l rfl⟩
  · rename_i xs ys
    split at hz <;> cases hz
    rename_i hl
    obtain ⟨a, vs, rfl, ea, ra, la⟩ := rx.tup
    obtain ⟨b, us, rfl, eb, rb, lb⟩ := ry.tup
    have hv := ra.length
    have hu := rb.length
    refine .inr (.inl ⟨a, b, vs, us, rfl, rfl, .of (l.tup ea), .of (l.tup eb), by rw [line_eq]; omega, fun e => ?_, fun n e => ?_, fun _ _ p n => k.tup l (ra.append rb) (by simpa using hl) n⟩)
    · subst e
      obtain rfl : xs = [] := List.eq_nil_of_length_eq_zero hv.symm
      exact k.flat l ⟨b, us, rfl, eb, rb, lb⟩
    · subst e
      obtain rfl : ys = [] := List.eq_nil_of_length_eq_zero hu.symm
      rw [List.append_nil] at k
      exact k.flat l ⟨a, vs, rfl, ea, ra, la⟩
  · rename_i xs ys
    split at hz <;> cases hz
    rename_i hl
    obtain ⟨a, vs, rfl, ea, ra, la⟩ := rx.lst l
    obtain ⟨b, us, rfl, eb, rb, lb⟩ := ry.lst l
    have hv := ra.length
    have hu := rb.length
    exact .inr (.inr ⟨a, b, vs, us, rfl, rfl, ea, eb, by rw [line_eq]; omega, fun p n => k.lst l (ra.append rb) (by simpa using hl) n⟩)
theorem op_addA : OpR X (binaryOp .Add) (fun x y H Q => rI0 (fun i j => V.int (i + j)) x y H Q ∨ rCatA X.K x y H Q ∨ rCat x y H Q) := op_add.or (op_catA.or op_cat)
theorem sub_ok : R2ok K (opB .sub) (rI0 fun i j => .int (i - j)) := by
  intro x y z F H v u Q hz l rx ry k
  cases x <;> cases y <;> simp only [opB] at hz <;> try cases hz
  exact ⟨_, _, rx.int, ry.int, k.flat l rfl⟩
theorem mulOk_of {i j : Int} (h : mulOk i j = true) : CMul i j ∨ CMulW i j := by
  unfold mulOk at h
  simp only [Bool.or_eq_true, Bool.and_eq_true, decide_eq_true_eq] at h
  rcases h with (h | h) | ⟨h, h'⟩
  · exact .inl (.inl ⟨by omega, by omega⟩)
  · exact .inl (.inr ⟨by omega, by omega⟩)
  · exact .inr (wide_mul h h' (by decide) (by decide) (by decide))
theorem mul_ok : R2ok K (opB .mul) (fun x y H Q => (rI CMul (fun i j => V.int (i * j)) x y H Q ∨ rI CMulW (fun i j => V.int (i * j)) x y H Q) ∨ rRep x y H Q) := by
  intro x y z F H v u Q hz l rx ry k
  cases x <;> cases y <;> simp only [opB] at hz <;> try cases hz
  · split at hz <;> cases hz
    rename_i hm
    rcases mulOk_of hm with c | c
    · exact .inl (.inl ⟨_, _, rx.int, ry.int, c, k.flat l rfl⟩)
    · exact .inl (.inr ⟨_, _, rx.int, ry.int, c, k.flat l rfl⟩)
  · rename_i xs j
    split at hz <;> cases hz
    rename_i hm
    obtain ⟨a, vs, rfl, ea, ra, la⟩ := rx.lst l
    have hv := ra.length
    refine .inr ⟨a, j, vs, rfl, ry.int, ea, by omega, by omega, ?_, fun p n => k.lst l (ra.rep _) ?_ n⟩
    · rw [line_eq, hv]; exact hm.2.2
    · rw [List.length_flatten, List.map_replicate, List.sum_replicate_nat]
      rw [Nat.mul_comm]; exact hm.2.2
theorem op_mulA : OpR X (binaryOp .Mult) (fun x y H Q => (rI CMul (fun i j => V.int (i * j)) x y H Q ∨ rI CMulW (fun i j => V.int (i * j)) x y H Q) ∨ rRep x y H Q) := (op_mul.or op_mulW).or op_rep
theorem fdiv_ok : R2ok K (opB .fdiv) (fun x y H Q => rI CDivN (fun i j => V.int (i.fdiv j)) x y H Q ∨ rI CDivW (fun i j => V.int (i / j)) x y H Q) := by
  intro x y z F H v u Q hz l rx ry k
  cases x <;> cases y <;> simp only [opB] at hz <;> try cases hz
  split at hz <;> cases hz
  rename_i i j hm
  unfold divOk at hm
  simp only [Bool.or_eq_true, Bool.and_eq_true, decide_eq_true_eq] at hm
  rcases hm with ⟨h1, h2⟩ | ⟨h1, h2⟩
  · exact .inl ⟨_, _, rx.int, ry.int, ⟨h1, h2⟩, k.flat l rfl⟩
  · refine .inr ⟨_, _, rx.int, ry.int, wide_div h1 h2 (by decide) (by decide), k.flat l ?_⟩
    rw [Int.fdiv_eq_ediv_of_nonneg _ (by omega)]; rfl
theorem op_fdivA : OpR X (binaryOp .FloorDiv) (fun x y H Q => rI CDivN (fun i j => V.int (i.fdiv j)) x y H Q ∨ rI CDivW (fun i j => V.int (i / j)) x y H Q) := op_fdivN.or op_fdivW
theorem mod_ok : R2ok K (opB .mod) (rI (fun _ j => j ≠ 0) fun i j => .int (i.fmod j)) := by
  intro x y z F H v u Q hz l rx ry k
  cases x <;> cases y <;> simp only [opB] at hz <;> try cases hz
  split at hz <;> cases hz
  rename_i hm
  exact ⟨_, _, rx.int, ry.int, hm, k.flat l rfl⟩
theorem pow_ok : R2ok K (opB .pow) (rI CPow fun i j => .int (i ^ j.toNat)) := by
  intro x y z F H v u Q hz l rx ry k
  cases x <;> cases y <;> simp only [opB] at hz <;> try cases hz
  split at hz <;> cases hz
  rename_i hm
  exact ⟨_, _, rx.int, ry.int, ⟨hm.1, by omega, hm.2.2⟩, k.flat l rfl⟩
theorem r_neg (ha : PE X ma (tD K G a)) : PE X (.UnaryOp .USub ma pos) (tD K G (.neg a)) := (pe_un un_neg ha).imp fun σ H Q ⟨F, env, d, o, hd, k⟩ => by
  obtain ⟨x, hx, hd⟩ := Option.bind_eq_some_iff.mp (show (ev G env a).bind _ = some d from hd)
  cases x <;> simp only at hd <;> try cases hd
  exact runD o hx fun F1 H1 v x1 o1 r1 => ⟨_, r1, k _ _ _ x1 o1.le rfl⟩

/-! ### truth -/
theorem em_len {α β : Type} {xs : List α} {ys : List β} (h : ys.length = xs.length) : (!xs.isEmpty) = (!ys.isEmpty) := by
  cases xs <;> cases ys <;> first | rfl | simp at h
theorem tru_of {x : D} {v : V} {c : Bool} (h : D.truth x = some c) (l : FLe F H) (r : RepB K F H x v) : TruV K v H c := by
  cases x <;> simp only [D.truth] at h <;> try cases h
  · rw [r.non]; rfl
  · rw [r.bl]; rfl
  · rw [r.int]; rfl
  · obtain ⟨a, vs, rfl, ea, ra, la⟩ := r.tup
    exact .inr (.inl ⟨vs, .of (l.tup ea), em_len ra.length⟩)
  · obtain ⟨a, vs, rfl, ea, ra, la⟩ := r.lst l
    exact .inl ⟨vs, .of ea, em_len ra.length⟩
theorem r_not (ha : PE X ma (tB X.K G a)) : PE X (.UnaryOp .Not ma pos) (tD X.K G (.not a)) := (pe_notT ha).imp fun σ H Q ⟨F, env, d, o, hd, k⟩ => by
  obtain ⟨x, hx, hd⟩ := Option.bind_eq_some_iff.mp (show (bo env a (ev G env a)).bind _ = some d from hd)
  obtain ⟨c, hc, rfl⟩ := Option.map_eq_some_iff.mp hd
  exact runB o hx fun F1 H1 v x1 o1 r1 => ⟨c, tru_of hc o1.le r1, k _ _ _ x1 o1.le rfl⟩
theorem r_and {rest : List Expr} (ha : PE X ma (tD K G a)) (hb : PE X (.BoolOp .And (mb :: rest) pos) (tD K G b)) : PE X (.BoolOp .And (ma :: mb :: rest) pos) (tD K G (.and a b)) := (pe_and ha hb).imp fun σ H Q ⟨F, env, d, o, hd, k⟩ => by
  obtain ⟨x, hx, hd⟩ := Option.bind_eq_some_iff.mp (show (ev G env a).bind _ = some d from hd)
  cases x <;> simp only at hd <;> try cases hd
  rename_i c
  refine runD o hx fun F1 H1 v x1 o1 r1 => ⟨c, r1, ?_⟩
  cases c with
  | true => exact runD o1 hd fun F2 H2 u x2 o2 r2 => k _ _ _ (x1.trans x2) o2.le r2
  | false => cases hd; exact k _ _ _ x1 o1.le rfl
theorem r_or {rest : List Expr} (ha : PE X ma (tD K G a)) (hb : PE X (.BoolOp .Or (mb :: rest) pos) (tD K G b)) : PE X (.BoolOp .Or (ma :: mb :: rest) pos) (tD K G (.or a b)) := (pe_or ha hb).imp fun σ H Q ⟨F, env, d, o, hd, k⟩ => by
  obtain ⟨x, hx, hd⟩ := Option.bind_eq_some_iff.mp (show (ev G env a).bind _ = some d from hd)
  cases x <;> simp only at hd <;> try cases hd
  rename_i c
  refine runD o hx fun F1 H1 v x1 o1 r1 => ⟨c, r1, ?_⟩
  cases c with
  | false => exact runD o1 hd fun F2 H2 u x2 o2 r2 => k _ _ _ (x1.trans x2) o2.le r2
  | true => cases hd; exact k _ _ _ x1 o1.le rfl

/-! ### tests -/
variable {p q : C}
theorem runT {c : Bool} {Q : Bool → Hp → Prop} (o : Ok K F H σ env) (h : ts G env p = some c) (k : ∀ F' H', Ext F H F' H' → Ok K F' H' σ env → Q c H') : tT K G p σ H Q :=
  ⟨F, env, c, o, h, fun F' H' x l => k F' H' x (o.ext x l)⟩
theorem t_val (ha : PE X ma (tB X.K G a)) (he : ∀ whole, isTrue ma X.env whole = (do let v ← whole; standAt ma.pos; holding [v] (truthy v))) : PT X ma (tT X.K G (.val a)) := (pt_truth ha he).imp fun σ H Q ⟨F, env, c, o, hd, k⟩ => by
  obtain ⟨x, hx, hd⟩ := Option.bind_eq_some_iff.mp (show (bo env a (ev G env a)).bind _ = some c from hd)
  exact runB o hx fun F1 H1 v x1 o1 r1 => ⟨c, tru_of hd o1.le r1, k _ _ x1 o1.le⟩
theorem t_not (ha : PT X ma (tT K G p)) : PT X (.UnaryOp .Not ma pos) (tT K G (.not p)) := (pt_not ha).imp fun σ H Q ⟨F, env, c, o, hd, k⟩ => by
  obtain ⟨c, hc, rfl⟩ := Option.map_eq_some_iff.mp (show (ts G env p).map not = some c from hd)
  exact runT o hc fun F1 H1 x1 o1 => k _ _ x1 o1.le
theorem t_and {rest : List Expr} (ha : PT X ma (tT K G p)) (hb : PW X (.BoolOp .And (mb :: rest) pos) (tT K G q)) : PW X (.BoolOp .And (ma :: mb :: rest) pos) (tT K G (.and p q)) := (pw_and ha hb).imp fun σ H Q ⟨F, env, c, o, hd, k⟩ => by
  obtain ⟨x, hx, hd⟩ := Option.bind_eq_some_iff.mp (show (ts G env p).bind _ = some c from hd)
  refine runT o hx fun F1 H1 x1 o1 => ?_
  cases x with
  | true => exact runT o1 hd fun F2 H2 x2 o2 => k _ _ (x1.trans x2) o2.le
  | false => cases hd; exact k _ _ x1 o1.le
theorem t_or {rest : List Expr} (ha : PT X ma (tT K G p)) (hb : PW X (.BoolOp .Or (mb :: rest) pos) (tT K G q)) : PW X (.BoolOp .Or (ma :: mb :: rest) pos) (tT K G (.or p q)) := (pw_or ha hb).imp fun σ H Q ⟨F, env, c, o, hd, k⟩ => by
  obtain ⟨x, hx, hd⟩ := Option.bind_eq_some_iff.mp (show (ts G env p).bind _ = some c from hd)
  refine runT o hx fun F1 H1 x1 o1 => ?_
  cases x with
  | false => exact runT o1 hd fun F2 H2 x2 o2 => k _ _ (x1.trans x2) o2.le
  | true => cases hd; exact k _ _ x1 o1.le

/-! ### comparisons -/
/-- what a comparison gives, as a value -/
abbrev cmpD (o : CO) (x y : D) : Option D := (opC o x y).map .bl
theorem _root_.L2.PC.imp {X : Cx} {op : CmpOp} {a b : Expr} {t t' : TE} (h : PC X op a b t) (m : ∀ σ H Q, t' σ H Q → t σ H Q) : PC X op a b t' := ⟨fun pins s σ H Q I q => h.run pins s σ H Q I (m σ H Q q)⟩
theorem _root_.L2.PC.or {X : Cx} {op : CmpOp} {a b : Expr} {t t' : TE} (h : PC X op a b t) (h' : PC X op a b t') : PC X op a b (fun σ H Q => t σ H Q ∨ t' σ H Q) := ⟨fun pins s σ H Q I q => q.elim (h.run pins s σ H Q I) (h'.run pins s σ H Q I)⟩
theorem pc_of {op : CmpOp} {r : R2} (ho : OpR X (compareOp op) r) {ta tb : TE} (ha : PE X ma ta) (hb : PE X mb tb) : PC X op ma mb (L2.tOp r ta tb) := ⟨fun pins s σ H Q I h => by
  refine thn (ha.run pins s σ H _ I h) fun v s1 ⟨x, H1, I1, r1, q1⟩ => ?_
  refine thn (hb.run pins s1 σ H1 _ I1 q1) fun u s2 ⟨y, H2, I2, r2, q2⟩ => ?_
  exact ho pins s2 σ H2 x y v u _ I2 r1 r2 q2⟩
/-- the two operands' comparison -/
def tC2 (K : PySem.W.Frag) (G : Gm) (o : CO) (a b : E) : TE := tD K G (.cmp o a b)
theorem pc_op {o : CO} {op : CmpOp} {r : R2} (ho : OpR X (compareOp op) r) (hr : R2ok K (cmpD o) r) (ha : PE X ma (tB K G a)) (hb : PE X mb (tB K G b)) : PC X op ma mb (tC2 K G o a b) :=
  (pc_of ho ha hb).imp fun σ H Q ⟨F, env, d, ok, hd, k⟩ => by
    obtain ⟨x, hx, hd⟩ := Option.bind_eq_some_iff.mp (show (bo env a (ev G env a)).bind _ = some d from hd)
    obtain ⟨y, hy, hd⟩ := Option.bind_eq_some_iff.mp hd
    exact r_op2 hr ok hx hy hd k
theorem r_cmp {o : CO} {op : CmpOp} (h : PC X op ma mb (tC2 K G o a b)) (hm : behindInMarks op mb = false) : PE X (.Compare ma [op] [mb] pos) (tD K G (.cmp o a b)) := pe_cmp h hm
theorem t_cmp {o : CO} {op : CmpOp} (h : PC X op ma mb (tC2 K G o a b)) (hm : behindInMarks op mb = false) : PT X (.Compare ma [op] [mb] pos) (tT K G (.val (.cmp o a b))) := (pt_cmp h hm).imp fun σ H Q ⟨F, env, c, ok, hd, k⟩ => by
  obtain ⟨z, hz, hd⟩ := Option.bind_eq_some_iff.mp (show (ev G env (.cmp o a b)).bind _ = some c from hd)
  refine ⟨F, env, z, ok, hz, fun F' H' v x l r => ?_⟩
  obtain ⟨x', _, hz⟩ := Option.bind_eq_some_iff.mp (show (bo env a (ev G env a)).bind _ = some z from hz)
  obtain ⟨y', _, hz⟩ := Option.bind_eq_some_iff.mp hz
  obtain ⟨d, _, rfl⟩ := Option.map_eq_some_iff.mp hz
  cases hd
  exact ⟨_, r, k _ _ x l⟩
theorem cmp_ints {o : CO} {g : Int → Int → Bool} (hg : ∀ x y c, opC o x y = some c → ∃ i j, x = .int i ∧ y = .int j ∧ c = g i j) : R2ok K (cmpD o) (rI0 fun i j => .bl (g i j)) := by
  intro x y z F H v u Q hz l rx ry k
  obtain ⟨c, hc, rfl⟩ := Option.map_eq_some_iff.mp hz
  obtain ⟨i, j, rfl, rfl, rfl⟩ := hg x y c hc
  exact ⟨_, _, rx.int, ry.int, k.flat l rfl⟩
theorem le_ok : R2ok K (cmpD .le) (rI0 fun i j => .bl (decide (i ≤ j))) := cmp_ints fun x y c h => by
  cases x <;> cases y <;> simp only [opC] at h <;> cases h
  exact ⟨_, _, rfl, rfl, rfl⟩
theorem ge_ok : R2ok K (cmpD .ge) (rI0 fun i j => .bl (decide (j ≤ i))) := cmp_ints fun x y c h => by
  cases x <;> cases y <;> simp only [opC] at h <;> cases h
  exact ⟨_, _, rfl, rfl, rfl⟩
theorem gt_ok : R2ok K (cmpD .gt) (rI0 fun i j => .bl (decide (j < i))) := cmp_ints fun x y c h => by
  cases x <;> cases y <;> simp only [opC] at h <;> cases h
  exact ⟨_, _, rfl, rfl, rfl⟩
/-- a < b of alike data -/
def rLtA (K : PySem.W.Frag) : R2 := fun x y H Q => ∃ d e, D.alike d e = true ∧ D.depth d < 60 ∧ Dp K H x (D.toPy d) ∧ Dp K H y (D.toPy e) ∧ Q (.bl (D.ltb d e)) H
theorem op_ltA (hu : X.A.units + 64 < cLine) : OpR X (compareOp .Lt) (rLtA X.K) := by
  intro pins s σ H x y v u Q I rx ry ⟨d, e, al, dp, hd, he, q⟩
  obtain ⟨as, r1⟩ := Dp.reads I _ x v hd rx
  obtain ⟨bs, r2⟩ := Dp.reads I _ y u he ry
  have := toPy_depth d
  refine PySem.W.rcLt_alike _ _ X.A s v u as bs r1 r2 (alike_plain d e al) (fun z => ?_) (by omega) _ _ _ _ ⟨.bl (D.ltb d e), H, I, by rw [toPy_lt d e al]; rfl, q⟩
  cases d <;> first | (simp [D.toPy] at z; done) | (simp [D.alike] at al; done)
theorem lt_ok : R2ok K (cmpD .lt) (rLtA K) := by
  intro x y z F H v u Q hz l rx ry k
  obtain ⟨c, hc, rfl⟩ := Option.map_eq_some_iff.mp hz
  simp only [opC] at hc
  split at hc <;> cases hc
  rename_i h
  simp only [Bool.and_eq_true, decide_eq_true_eq] at h
  exact ⟨x, y, h.1.2, h.2, repB_dp l h.1.1.1 rx, repB_dp l h.1.1.2 ry, k.flat l rfl⟩
theorem eq_ok : R2ok K (cmpD .eq) (rEqD K) := by
  intro x y z F H v u Q hz l rx ry k
  obtain ⟨c, hc, rfl⟩ := Option.map_eq_some_iff.mp hz
  simp only [opC] at hc
  split at hc <;> cases hc
  rename_i h
  simp only [Bool.and_eq_true, decide_eq_true_eq] at h
  exact ⟨_, _, repB_dp l h.1.1.1 rx, repB_dp l h.1.1.2 ry, toPy_shaped h.1.2, toPy_shaped h.2, by rw [toPy_eqv x y h.1.1.1 h.1.1.2]; exact k.flat l rfl⟩
theorem ne_ok : R2ok K (cmpD .ne) (rNeD K) := by
  intro x y z F H v u Q hz l rx ry k
  obtain ⟨c, hc, rfl⟩ := Option.map_eq_some_iff.mp hz
  simp only [opC] at hc
  split at hc <;> cases hc
  rename_i h
  simp only [Bool.and_eq_true, decide_eq_true_eq] at h
  exact ⟨_, _, repB_dp l h.1.1.1 rx, repB_dp l h.1.1.2 ry, toPy_shaped h.1.2, toPy_shaped h.2, by rw [toPy_eqv x y h.1.1.1 h.1.1.2]; exact k.flat l rfl⟩
theorem isN_dec {x : D} {v : V} (r : RepB K F H x v) : decide (v = .non) = D.isNon x := by
  have f : ∀ {a : Addr}, decide (V.ref a = V.non) = false := fun {a} => decide_eq_false (fun h => nomatch h)
  rcases r with r | ⟨a, rfl, _, r⟩
  · cases x with
    | non => cases r; rfl
    | bl => cases r; exact decide_eq_false (fun h => nomatch h)
    | int => cases r; exact decide_eq_false (fun h => nomatch h)
    | tup => obtain ⟨a, vs, rfl, _⟩ := r; exact f
    | lst => obtain ⟨a, vs, rfl, _⟩ := r; exact f
    | dic t kvs => cases t <;> (obtain ⟨a, vs, rfl, _⟩ := r; exact f)
    | rng => obtain ⟨a, rfl, _⟩ := r; exact f
    | scr => obtain ⟨a, rfl, _⟩ := r; exact f
  · cases x <;> first | exact f | exact False.elim r
theorem is_ok : R2ok K (cmpD .is) (fun x y H Q => y = .non ∧ Q (.bl (decide (x = .non))) H) := by
  intro x y z F H v u Q hz l rx ry k
  obtain ⟨c, hc, rfl⟩ := Option.map_eq_some_iff.mp hz
  cases y <;> simp only [opC] at hc <;> cases hc
  exact ⟨ry.non, by rw [isN_dec rx]; exact k.flat l rfl⟩
theorem isnt_ok : R2ok K (cmpD .isnt) (fun x y H Q => y = .non ∧ Q (.bl (!decide (x = .non))) H) := by
  intro x y z F H v u Q hz l rx ry k
  obtain ⟨c, hc, rfl⟩ := Option.map_eq_some_iff.mp hz
  cases y <;> simp only [opC] at hc <;> cases hc
  exact ⟨ry.non, by rw [isN_dec rx]; exact k.flat l rfl⟩

/-! ### in -/
/-- x in a list or a tuple, of data -/
def rInA (K : PySem.W.Frag) (neg : Bool) : R2 := fun x y H Q => ∃ d ds, Dp K H x (D.toPy d) ∧ (Dp K H y (.list (D.toPyL ds)) ∨ Dp K H y (.tuple (D.toPyL ds))) ∧ D.plain d = true ∧ D.plainL ds = true ∧ D.depth d < 60 ∧ Q (.bl (if neg then !ds.any fun z => D.eqb z d else ds.any fun z => D.eqb z d)) H
theorem any_eqv {d : D} (hd : D.plain d = true) : ∀ {ds : List D}, D.plainL ds = true → ((D.toPyL ds).any fun y => PyData.eqv y (D.toPy d)) = ds.any fun z => D.eqb z d
  | [], _ => rfl
  | x :: xs, h => by
    simp only [D.plainL, Bool.and_eq_true] at h
    rw [D.toPyL, List.any_cons, List.any_cons, toPy_eqv x d h.1 hd, any_eqv hd h.2]
theorem op_inA (hu : X.A.units + 65 < cLine) : OpR X (compareOp .In) (rInA X.K false) := by
  intro pins s σ H x y v u Q I rx ry ⟨d, ds, hd, he, pd, pl, dp, q⟩
  obtain ⟨as, r1⟩ := Dp.reads I _ x v hd rx
  have h1 := toPy_depth d
  have fin : ∀ k, k = (ds.any fun z => D.eqb z d) → EP X pins σ Q (.bool k) s := fun k e => ⟨.bl _, H, I, by rw [e]; rfl, q⟩
  rcases he with he | he
  · obtain ⟨bs, r2⟩ := Dp.reads I _ y u he ry
    exact SeqAt.in_list_reads r2 r1 (toPyL_lay ds) (toPy_lay d) (by omega) (fin _ (any_eqv pd pl))
  · obtain ⟨bs, r2⟩ := Dp.reads I _ y u he ry
    exact SeqAt.in_tuple_reads r2 r1 (toPyL_lay ds) (toPy_lay d) (by omega) (fin _ (any_eqv pd pl))
theorem op_notinA (hu : X.A.units + 65 < cLine) : OpR X (compareOp .NotIn) (rInA X.K true) := by
  intro pins s σ H x y v u Q I rx ry ⟨d, ds, hd, he, pd, pl, dp, q⟩
  obtain ⟨as, r1⟩ := Dp.reads I _ x v hd rx
  have h1 := toPy_depth d
  have fin : ∀ k, k = (!ds.any fun z => D.eqb z d) → EP X pins σ Q (.bool k) s := fun k e => ⟨.bl _, H, I, by rw [e]; rfl, q⟩
  rcases he with he | he
  · obtain ⟨bs, r2⟩ := Dp.reads I _ y u he ry
    exact SeqAt.notIn_list_reads r2 r1 (toPyL_lay ds) (toPy_lay d) (by omega) (fin _ (by rw [any_eqv pd pl]))
  · obtain ⟨bs, r2⟩ := Dp.reads I _ y u he ry
    exact SeqAt.notIn_tuple_reads r2 r1 (toPyL_lay ds) (toPy_lay d) (by omega) (fin _ (by rw [any_eqv pd pl]))
/-! dicts: what a look-up gives -/
theorem ints_eqb : ∀ (ns ms : List Int), D.eqbL (ns.map .int) (ms.map .int) = decide (ns = ms)
  | [], [] => rfl
  | [], _ :: _ => by simp [D.eqbL]
  | _ :: _, [] => by simp [D.eqbL]
  | n :: ns, m :: ms => by
    simp only [List.map_cons, D.eqbL, D.eqb, ints_eqb ns ms]
    by_cases h : n = m <;> by_cases h' : ns = ms <;> simp [h, h']
theorem eqb_keyI {d e : D} {k k' : Key} (h : KeyI d k) (h' : KeyI e k') : D.eqb d e = decide (k = k') := by
  obtain ⟨i, rfl, rfl⟩ := h
  obtain ⟨j, rfl, rfl⟩ := h'
  simp [D.eqb]
theorem eqb_keyT {d e : D} {k k' : List Key} (h : KeyT d k) (h' : KeyT e k') : D.eqb d e = decide (k = k') := by
  obtain ⟨i, rfl, rfl, _⟩ := h
  obtain ⟨j, rfl, rfl, _⟩ := h'
  rw [D.eqb, ints_eqb]
  have inj : ∀ {a b : List Int}, a.map (Sum.inl : Int → Key) = b.map Sum.inl → a = b := fun {a b} h => List.map_inj_right (fun x y e => Sum.inl.inj e) |>.mp h
  by_cases e : i = j
  · subst e; simp
  · rw [decide_eq_false e, decide_eq_false fun z => e (inj z)]
/-- a look-up -/
def RelG (K : PySem.W.Frag) (F : Hp) : Option D → Option V → Prop
  | some d, some v => Rep K F d v
  | none, none => True
  | _, _ => False
theorem getK {k : D} {k' : Key} (hk : KeyI k k') : ∀ {kvs : List (D × D)} {ws : List (Key × V)}, RepK K F kvs ws → RelG K F (D.get kvs k) (valV ws k')
  | [], _, h => by cases h; trivial
  | (a, d) :: r, _, h => by
    obtain ⟨a', v, r', rfl, ha, hd, h⟩ := h
    have e := eqb_keyI ha hk
    unfold D.get valV
    rw [List.find?_cons, List.find?_cons]
    simp only [e]
    by_cases q : a' = k'
    · simp only [decide_eq_true q]; exact hd
    · simp only [decide_eq_false q]; exact getK hk h
theorem getT {k : D} {k' : List Key} (hk : KeyT k k') : ∀ {kvs : List (D × D)} {ws : List (List Key × V)}, RepT K F kvs ws → RelG K F (D.get kvs k) (valV ws k')
  | [], _, h => by cases h; trivial
  | (a, d) :: r, _, h => by
    obtain ⟨a', v, r', rfl, ha, hd, h⟩ := h
    have e := eqb_keyT ha hk
    unfold D.get valV
    rw [List.find?_cons, List.find?_cons]
    simp only [e]
    by_cases q : a' = k'
    · simp only [decide_eq_true q]; exact hd
    · simp only [decide_eq_false q]; exact getT hk h
theorem isKey_int {k : D} (h : isKey false k = true) : ∃ i, k = .int i := by
  cases k <;> simp [isKey] at h
  exact ⟨_, rfl⟩
theorem isKey_tup {k : D} (h : isKey true k = true) : ∃ ns : List Int, k = .tup (ns.map .int) := by
  cases k <;> simp [isKey] at h
  rename_i xs
  cases e : D.ints xs with
  | none => rw [e] at h; simp at h
  | some ns => exact ⟨ns, by rw [ints_eq e]⟩
/-- d[k], there or not -/
theorem dget_of {t : Bool} {kvs : List (D × D)} {k : D} {v u : V} (l : FLe F H) (hk : isKey t k = true) (rd : RepB K F H (.dic t kvs) v) (rk : RepB K F H k u) : ∃ a o, v = .ref a ∧ DGet H a u o ∧ RelG K F (D.get kvs k) o ∧ IsD H a := by
  cases t with
  | false =>
    obtain ⟨a, ws, rfl, e, r⟩ := rd.dicK l
    obtain ⟨i, rfl⟩ := isKey_int hk
    exact ⟨a, _, rfl, .inl ⟨ws, Sum.inl i, e, rk.int, rfl⟩, getK ⟨i, rfl, rfl⟩ r, .inl ⟨_, e⟩⟩
  | true =>
    obtain ⟨a, ws, rfl, e, r⟩ := rd.dicT l
    obtain ⟨ns, rfl⟩ := isKey_tup hk
    obtain ⟨b, vs, rfl, eb, rb, lz⟩ := rk.tup
    refine ⟨a, _, rfl, .inr ⟨ws, ns.map Sum.inl, b, e, rfl, ?_, rfl⟩, getT ⟨ns, rfl, rfl, by simpa using lz⟩ r, .inr ⟨_, e⟩⟩
    rw [l.tup eb, rb.ints, List.map_map]; rfl
theorem inA_of {x y : D} {c : Bool} {neg : Bool} {v u : V} (h : D.isIn x y = some c) (hy : ∀ t kvs, y ≠ .dic t kvs) (l : FLe F H) (rx : RepB K F H x v) (ry : RepB K F H y u) (k : Q (.bl (if neg then !c else c)) H) : rInA K neg v u H Q := by
  cases y <;> simp only [D.isIn] at h <;> try cases h
  · split at h <;> cases h
    rename_i ys hh
    simp only [Bool.and_eq_true, decide_eq_true_eq] at hh
    exact ⟨x, ys, repB_dp l hh.1.1.1 rx, .inr (repB_dp l (by simp [D.plain, hh.1.1.2]) ry), hh.1.1.1, hh.1.1.2, hh.1.2, k⟩
  · split at h <;> cases h
    rename_i ys hh
    simp only [Bool.and_eq_true, decide_eq_true_eq] at hh
    exact ⟨x, ys, repB_dp l hh.1.1.1 rx, .inl (repB_dp l (by simp [D.plain, hh.1.1.2]) ry), hh.1.1.1, hh.1.1.2, hh.1.2, k⟩
  · exact absurd rfl (hy _ _)
theorem pc_in (hu : X.A.units + 65 < cLine) (ha : PE X ma (tB X.K G a)) (hb : PE X mb (tB X.K G b)) : PC X .In ma mb (tC2 X.K G .isin a b) :=
  ((pc_of (op_inA hu) ha hb).or (pc_din (by omega) ha hb)).imp fun σ H Q ⟨F, env, d, ok, hd, k⟩ => by
    obtain ⟨x, hx, hd⟩ := Option.bind_eq_some_iff.mp (show (bo env a (ev G env a)).bind _ = some d from hd)
    obtain ⟨y, hy, hd⟩ := Option.bind_eq_some_iff.mp hd
    obtain ⟨c, hc, rfl⟩ := Option.map_eq_some_iff.mp hd
    have hc : D.isIn x y = some c := hc
    by_cases e : ∃ t kvs, y = .dic t kvs
    · obtain ⟨t, kvs, rfl⟩ := e
      simp only [D.isIn] at hc
      have hk : isKey t x = true := Decidable.byContradiction fun n => by rw [if_neg n] at hc; cases hc
      rw [if_pos hk] at hc
      cases hc
      refine .inr (runB ok hx fun F1 H1 v x1 o1 r1 => runB o1 hy fun F2 H2 u x2 o2 r2 => ?_)
      obtain ⟨a', o, rfl, g, rg, _⟩ := dget_of o2.le hk r2 (r1.ext x2)
      refine ⟨a', o, rfl, g, ?_⟩
      have : o.isSome = (D.get kvs x).isSome := by
        cases e1 : D.get kvs x <;> cases o <;> rw [e1] at rg <;> first | rfl | exact False.elim rg
      rw [this]
      exact k _ _ _ (x1.trans x2) o2.le rfl
    · refine .inl (runB ok hx fun F1 H1 v x1 o1 r1 => runB o1 hy fun F2 H2 u x2 o2 r2 => ?_)
      exact inA_of (neg := false) hc (fun t kvs z => e ⟨t, kvs, z⟩) o2.le (r1.ext x2) r2 (k _ _ _ (x1.trans x2) o2.le rfl)
theorem pc_notin (hu : X.A.units + 65 < cLine) (ha : PE X ma (tB X.K G a)) (hb : PE X mb (tB X.K G b)) : PC X .NotIn ma mb (tC2 X.K G .notin a b) :=
  ((pc_of (op_notinA hu) ha hb).or (pc_dnotin (by omega) ha hb)).imp fun σ H Q ⟨F, env, d, ok, hd, k⟩ => by
    obtain ⟨x, hx, hd⟩ := Option.bind_eq_some_iff.mp (show (bo env a (ev G env a)).bind _ = some d from hd)
    obtain ⟨y, hy, hd⟩ := Option.bind_eq_some_iff.mp hd
    obtain ⟨c0, hc0, rfl⟩ := Option.map_eq_some_iff.mp hd
    obtain ⟨c, hc, rfl⟩ := Option.map_eq_some_iff.mp (show (D.isIn x y).map not = some c0 from hc0)
    by_cases e : ∃ t kvs, y = .dic t kvs
    · obtain ⟨t, kvs, rfl⟩ := e
      simp only [D.isIn] at hc
      have hk : isKey t x = true := Decidable.byContradiction fun n => by rw [if_neg n] at hc; cases hc
      rw [if_pos hk] at hc
      cases hc
      refine .inr (runB ok hx fun F1 H1 v x1 o1 r1 => runB o1 hy fun F2 H2 u x2 o2 r2 => ?_)
      obtain ⟨a', o, rfl, g, rg, _⟩ := dget_of o2.le hk r2 (r1.ext x2)
      refine ⟨a', o, rfl, g, ?_⟩
      have : o.isSome = (D.get kvs x).isSome := by
        cases e1 : D.get kvs x <;> cases o <;> rw [e1] at rg <;> first | rfl | exact False.elim rg
      rw [this]
      exact k _ _ _ (x1.trans x2) o2.le rfl
    · refine .inl (runB ok hx fun F1 H1 v x1 o1 r1 => runB o1 hy fun F2 H2 u x2 o2 r2 => ?_)
      exact inA_of (neg := true) hc (fun t kvs z => e ⟨t, kvs, z⟩) o2.le (r1.ext x2) r2 (k _ _ _ (x1.trans x2) o2.le rfl)
end
end Rx
end

section
set_option Elab.async false
set_option linter.all false
set_option maxRecDepth 100000
set_option maxHeartbeats 1000000
set_option autoImplicit false
/-! RxSound2: chains, displays, subscripts, cuts, built-ins, calls. -/
namespace Rx
open PySem PySem.Spec PyProof.Rows L2

section
variable {X : Cx} {G : Gm} {K : PySem.W.Frag} {F H : Hp} {σ : St} {env : Env} {Q : VK} {e a b c : E} {me ma mb mc : Expr} {pos : Pos} {p q : C}
/-! ### a < b < c, a if p else b -/
theorem chain_run {o o' : CO} {r r' : R2} (hr : R2ok K (cmpD o) r) (hr' : R2ok K (cmpD o') r') {z : D} (ok : Ok K F H σ env) (hd : ev G env (.chn o o' a b c) = some z) (k : Want K F H z Q)
    (ha : ∀ {d}, ev G env a = some d → bo env a (ev G env a) = some d) (hb : ∀ {d}, ev G env b = some d → bo env b (ev G env b) = some d) (hc : ∀ {d}, ev G env c = some d → bo env c (ev G env c) = some d) :
    tChain r r' (tB K G a) (tB K G b) (tB K G c) σ H Q := by
  obtain ⟨x, hx, hd⟩ := Option.bind_eq_some_iff.mp (show (ev G env a).bind _ = some z from hd)
  obtain ⟨y, hy, hd⟩ := Option.bind_eq_some_iff.mp hd
  obtain ⟨g, hg, hd⟩ := Option.bind_eq_some_iff.mp hd
  refine runB ok (ha hx) fun F1 H1 v x1 o1 r1 => runB o1 (hb hy) fun F2 H2 u x2 o2 r2 => ?_
  refine hr x y (.bl g) F2 H2 v u _ (by show (opC o x y).map D.bl = _; rw [hg]; rfl) o2.le (r1.ext x2) r2 fun F3 H3 w x3 l3 r3 => ⟨g, r3, ?_⟩
  cases g with
  | true =>
    refine runB (o2.ext x3 l3) (hc (Option.bind_eq_some_iff.mp hd).choose_spec.1) fun F4 H4 t x4 o4 r4 => ?_
    refine hr' y _ z F4 H4 u t Q (Option.bind_eq_some_iff.mp hd).choose_spec.2 o4.le ((r2.ext x3).ext x4) r4 fun F' H' w' x5 l5 r5 => ?_
    exact k _ _ _ ((((x1.trans x2).trans x3).trans x4).trans x5) l5 r5
  | false => cases hd; exact k _ _ _ ((x1.trans x2).trans x3) l3 rfl
theorem bo_of {d : D} (h : ev G env a = some d) : bo env a (ev G env a) = some d := by
  cases a <;> try exact h
  rename_i i
  have h' : env.val i = some d := h
  show env.bor i = some d
  unfold Env.val at h'
  unfold Env.bor
  split at h'
  · rename_i z hz; rw [hz]; exact h'
  · cases h'
theorem r_chn {o o' : CO} {op op' : CmpOp} {r r' : R2} (ho : OpR X (compareOp op) r) (ho' : OpR X (compareOp op') r') (hr : R2ok K (cmpD o) r) (hr' : R2ok K (cmpD o') r') (ha : PE X ma (tB K G a)) (hb : PE X mb (tB K G b)) (hc : PE X mc (tB K G c))
    (hm : lastMarks [op, op'] [mb, mc] = false) : PE X (.Compare ma [op, op'] [mb, mc] pos) (tD K G (.chn o o' a b c)) :=
  (pe_chain ho ho' ha hb hc hm).imp fun σ H Q ⟨F, env, z, ok, hd, k⟩ => chain_run hr hr' ok hd k bo_of bo_of bo_of
theorem t_chn {o o' : CO} {op op' : CmpOp} {r r' : R2} (ho : OpR X (compareOp op) r) (ho' : OpR X (compareOp op') r') (hr : R2ok K (cmpD o) r) (hr' : R2ok K (cmpD o') r') (ha : PE X ma (tB K G a)) (hb : PE X mb (tB K G b)) (hc : PE X mc (tB K G c))
    (hm : lastMarks [op, op'] [mb, mc] = false) : PT X (.Compare ma [op, op'] [mb, mc] pos) (tT K G (.val (.chn o o' a b c))) :=
  (pt_chain ho ho' ha hb hc hm).imp fun σ H Q ⟨F, env, c', ok, hd, k⟩ => by
    obtain ⟨z, hz, hd⟩ := Option.bind_eq_some_iff.mp (show (ev G env (.chn o o' a b c)).bind _ = some c' from hd)
    refine chain_run hr hr' ok hz (fun F' H' v x l r => ?_) bo_of bo_of bo_of
    obtain ⟨x', _, hz⟩ := Option.bind_eq_some_iff.mp (show (ev G env a).bind _ = some z from hz)
    obtain ⟨y', _, hz⟩ := Option.bind_eq_some_iff.mp hz
    obtain ⟨g, _, hz⟩ := Option.bind_eq_some_iff.mp hz
    have : ∃ g', z = .bl g' := by
      cases g with
      | false => cases hz; exact ⟨_, rfl⟩
      | true =>
        obtain ⟨z', _, hz⟩ := Option.bind_eq_some_iff.mp hz
        obtain ⟨g', _, rfl⟩ := Option.map_eq_some_iff.mp hz
        exact ⟨_, rfl⟩
    obtain ⟨g', rfl⟩ := this
    cases hd
    exact ⟨_, r, k _ _ x l⟩
theorem r_ife (hp : PT X mc (tT K G p)) (ha : PE X ma (tD K G a)) (hb : PE X mb (tD K G b)) : PE X (.IfExp mc ma mb pos) (tD K G (.ife p a b)) := (pe_ifExp hp ha hb).imp fun σ H Q ⟨F, env, d, o, hd, k⟩ => by
  obtain ⟨x, hx, hd⟩ := Option.bind_eq_some_iff.mp (show (ts G env p).bind _ = some d from hd)
  refine runT o hx fun F1 H1 x1 o1 => ?_
  cases x with
  | true => exact runD o1 hd fun F2 H2 u x2 o2 r2 => k _ _ _ (x1.trans x2) o2.le r2
  | false => exact runD o1 hd fun F2 H2 u x2 o2 r2 => k _ _ _ (x1.trans x2) o2.le r2

/-! ### argument lists -/
variable {es : List E} {mes : List Expr}
theorem a_nil : PA X [] (tL K G []) := pa_nil.imp fun σ H Q ⟨F, env, d, o, hd, k⟩ => by
  cases hd; exact k _ _ _ (.refl F H) o.le rfl
theorem a_cons (ha : PE X ma (tD K G a)) (hr : PA X mes (tL K G es)) (hs : starEach (ma :: mes) X.env = (false, eval ma X.env) :: starEach mes X.env) : PA X (ma :: mes) (tL K G (a :: es)) := (pa_cons ha hr hs).imp fun σ H Q ⟨F, env, d, o, hd, k⟩ => by
  obtain ⟨x, hx, hd⟩ := Option.bind_eq_some_iff.mp (show (ev G env a).bind _ = some d from hd)
  obtain ⟨xs, hxs, rfl⟩ := Option.map_eq_some_iff.mp hd
  exact runD o hx fun F1 H1 v x1 o1 r1 => ⟨F1, env, xs, o1, hxs, fun F2 H2 vs x2 l2 r2 => k _ _ _ (x1.trans x2) l2 ⟨v, vs, rfl, r1.mono x2.f, r2⟩⟩
theorem b_nil : PA X [] (tLB K G []) := pa_nil.imp fun σ H Q ⟨F, env, d, o, hd, k⟩ => by
  cases hd; exact k _ _ _ (.refl F H) o.le rfl
theorem b_cons (ha : PE X ma (tB K G a)) (hr : PA X mes (tLB K G es)) (hs : starEach (ma :: mes) X.env = (false, eval ma X.env) :: starEach mes X.env) : PA X (ma :: mes) (tLB K G (a :: es)) := (pa_cons ha hr hs).imp fun σ H Q ⟨F, env, d, o, hd, k⟩ => by
  obtain ⟨x, hx, hd⟩ := Option.bind_eq_some_iff.mp (show (bo env a (ev G env a)).bind _ = some d from hd)
  obtain ⟨xs, hxs, rfl⟩ := Option.map_eq_some_iff.mp hd
  exact runB o hx fun F1 H1 v x1 o1 r1 => ⟨F1, env, xs, o1, hxs, fun F2 H2 vs x2 l2 r2 => k _ _ _ (x1.trans x2) l2 ⟨v, vs, rfl, r1.ext x2, r2⟩⟩
theorem runL {ds : List D} {Q : List V → Hp → Prop} (o : Ok K F H σ env) (h : evL G env es = some ds) (k : ∀ F' H' vs, Ext F H F' H' → Ok K F' H' σ env → RepL K F' ds vs → Q vs H') : tL K G es σ H Q :=
  ⟨F, env, ds, o, h, fun F' H' v x l r => k F' H' v x (o.ext x l) r⟩
theorem runLB {ds : List D} {Q : List V → Hp → Prop} (o : Ok K F H σ env) (h : evB G env es = some ds) (k : ∀ F' H' vs, Ext F H F' H' → Ok K F' H' σ env → RepBL K F' H' ds vs → Q vs H') : tLB K G es σ H Q :=
  ⟨F, env, ds, o, h, fun F' H' v x l r => k F' H' v x (o.ext x l) r⟩
/-- one argument -/
theorem b_one (ha : PE X ma (tB K G a)) (hs : starEach [ma] X.env = [(false, eval ma X.env)]) : PA X [ma] (tLB K G [a]) := b_cons ha b_nil hs

/-! ### displays -/
theorem r_tup {x1 : Nat} (h : PA X mes (tL K G es)) : PE X (.Tuple mes x1 pos) (tD K G (.tup es)) := (pe_tup h).imp fun σ H Q ⟨F, env, d, o, hd, k⟩ => by
  obtain ⟨x, hx, hd⟩ := Option.bind_eq_some_iff.mp (show (evL G env es).bind _ = some d from hd)
  split at hd <;> cases hd
  rename_i hl
  refine runL o hx fun F1 H1 vs x1 o1 r1 => ⟨by rw [r1.length, line_eq]; exact hl, fun p n => ?_⟩
  exact Want.tup (fun F' H' v x2 => k F' H' v (x1.trans x2)) o1.le r1 hl n
theorem r_lst (h : PA X mes (tL K G es)) : PE X (.List mes pos) (tD K G (.lst es)) := (pe_lst h).imp fun σ H Q ⟨F, env, d, o, hd, k⟩ => by
  obtain ⟨x, hx, hd⟩ := Option.bind_eq_some_iff.mp (show (evL G env es).bind _ = some d from hd)
  unfold fits at hd
  split at hd <;> cases hd
  rename_i hl
  refine runL o hx fun F1 H1 vs x1 o1 r1 => ⟨by rw [r1.length, line_eq]; exact hl, fun p n => ?_⟩
  exact Want.lst (fun F' H' v x2 => k F' H' v (x1.trans x2)) o1.le r1 hl n

/-! ### a[i] -/
theorem sub_dic {t : Bool} {kvs : List (D × D)} {y z : D} {v u : V} (hz : opSub (.dic t kvs) y = some z) (l : FLe F H) (rx : RepB K F H (.dic t kvs) v) (ry : RepB K F H y u) (k : Want K F H z Q) : ∃ a w, v = .ref a ∧ DGet H a u (some w) ∧ Q w H := by
  have hz : (if isKey t y = true then D.get kvs y else none) = some z := by cases y <;> exact hz
  have hk : isKey t y = true := Decidable.byContradiction fun n => by rw [if_neg n] at hz; cases hz
  rw [if_pos hk] at hz
  obtain ⟨a, o, rfl, g, rg, _⟩ := dget_of l hk rx ry
  rw [hz] at rg
  cases o with
  | none => exact False.elim rg
  | some w => exact ⟨a, w, rfl, g, k.flat l rg⟩
theorem at_of {ds : List D} {vs : List V} {i : Int} {z : D} (r : RepL K F ds vs) (h : Rx.atI ds i = some z) : ∃ w, L2.atI vs i = some w ∧ Rep K F z w := by
  obtain ⟨j, hj, hz⟩ := Option.bind_eq_some_iff.mp h
  obtain ⟨w, e, rw'⟩ := r.get hz
  exact ⟨w, Option.bind_eq_some_iff.mpr ⟨j, by rw [r.length]; exact hj, e⟩, rw'⟩
theorem sub_seq {x y z : D} {v u : V} (hz : opSub x y = some z) (hx : ∀ t kvs, x ≠ .dic t kvs) (l : FLe F H) (rx : RepB K F H x v) (ry : RepB K F H y u) (k : Want K F H z Q) : rIxL K v u H Q ∨ rIxT K v u H Q := by
  cases x <;> try (exact absurd rfl (hx _ _))
  all_goals (cases y <;> simp only [opSub] at hz <;> try cases hz)
  · obtain ⟨a, vs, rfl, ea, ra, la⟩ := rx.tup
    obtain ⟨w, hw, rw'⟩ := at_of ra hz
    exact .inr ⟨a, vs, _, w, rfl, ry.int, .of (l.tup ea), hw, k.flat l rw'⟩
  · obtain ⟨a, vs, rfl, ea, ra, la⟩ := rx.lst l
    obtain ⟨w, hw, rw'⟩ := at_of ra hz
    exact .inl ⟨a, vs, _, w, rfl, ry.int, .of ea, hw, k.flat l rw'⟩
  · obtain ⟨a, rfl, ea, la⟩ := rx.scr l
    obtain ⟨w, hw, rw'⟩ := at_of (RepL.ofInts _) hz
    exact .inl ⟨a, _, _, w, rfl, ry.int, ea, hw, k.flat l rw'⟩
theorem dic_or (x : D) : (∃ t kvs, x = .dic t kvs) ∨ ∀ t kvs, x ≠ .dic t kvs := by
  by_cases e : ∃ t kvs, x = .dic t kvs
  · exact .inl e
  · exact .inr fun t kvs z => e ⟨t, kvs, z⟩
theorem r_sub (hu : X.A.units + 1 < cLine) (ha : PE X ma (tB X.K G a)) (hb : PE X mb (tB X.K G b)) (hs : PlainIx mb) : PE X (.Subscript ma mb pos) (tD X.K G (.sub a b)) :=
  ((pe_ix (ix_list.or ix_tup) ha hb hs).or (pe_dget hu ha hb hs)).imp fun σ H Q ⟨F, env, z, ok, hd, k⟩ => by
    obtain ⟨x, hx, hd⟩ := Option.bind_eq_some_iff.mp (show (bo env a (ev G env a)).bind _ = some z from hd)
    obtain ⟨y, hy, hd⟩ := Option.bind_eq_some_iff.mp hd
    have hy := bo_of hy
    rcases dic_or x with ⟨t, kvs, rfl⟩ | e
    · exact .inr (runB ok hx fun F1 H1 v x1 o1 r1 => runB o1 hy fun F2 H2 u x2 o2 r2 => sub_dic hd o2.le (r1.ext x2) r2 fun F' H' w x3 => k F' H' w ((x1.trans x2).trans x3))
    · exact .inl (runB ok hx fun F1 H1 v x1 o1 r1 => runB o1 hy fun F2 H2 u x2 o2 r2 => sub_seq hd e o2.le (r1.ext x2) r2 fun F' H' w x3 => k F' H' w ((x1.trans x2).trans x3))

/-! ### cuts -/
theorem sIx_cut (n d : Nat) (i : Int) : HT.sIx n d (some i) = cutN n i := by
  have := HT.clip_eq i n d
  unfold cutN
  split
  · rename_i h; rw [if_pos h] at this; omega
  · rename_i h; rw [if_neg h] at this; omega
theorem cutN_le (n : Nat) (i : Int) (h : 0 ≤ i ∨ -(n : Int) ≤ 0) : cutN n i ≤ n := by
  unfold cutN; split <;> omega
theorem cut_lo (vs : List V) (i : Int) : cutV vs (some i) none = vs.drop (cutN vs.length i) := by
  unfold cutV
  rw [sIx_cut, HT.sIx_none, List.take_of_length_le (by simp)]
theorem cut_hi (vs : List V) (i : Int) : cutV vs none (some i) = vs.take (cutN vs.length i) := by
  unfold cutV
  rw [sIx_cut, HT.sIx_none, List.drop_zero, Nat.sub_zero]
abbrev rCut (K : PySem.W.Frag) : V → Option Int → Option Int → Hp → VK → Prop := fun x lo hi H Q => rSlL K x lo hi H Q ∨ rSlA K x lo hi H Q
theorem lo_ok {x : D} {i : Int} {z : D} {v : V} (hz : opLo x (.int i) = some z) (l : FLe F H) (rx : RepB K F H x v) (k : Want K F H z Q) : rCut K v (some i) none H Q := by
  cases x <;> simp only [opLo] at hz <;> try cases hz
  · rename_i xs
    obtain ⟨a, vs, rfl, ea, ra, la⟩ := rx.tup
    have hl := ra.length
    refine .inr ⟨a, vs, rfl, .of (l.tup ea), fun e => ?_, fun _ p n => ?_⟩
    · have e0 : cutN xs.length i = 0 := by have := e.1; rw [sIx_cut, hl] at this; exact this
      rw [e0, List.drop_zero] at k
      exact k.flat l ⟨a, vs, rfl, ea, ra, la⟩
    · rw [cut_lo, hl]
      exact k.tup l (ra.drop _) (by rw [List.length_drop]; omega) n
  · rename_i xs
    obtain ⟨a, vs, rfl, ea, ra, la⟩ := rx.lst l
    refine .inl ⟨a, vs, rfl, .of ea, fun p n => ?_⟩
    rw [cut_lo, ra.length]
    exact k.lst l (ra.drop _) (by rw [List.length_drop]; omega) n
theorem hi_ok {x : D} {i : Int} {z : D} {v : V} (hz : opHi x (.int i) = some z) (l : FLe F H) (rx : RepB K F H x v) (k : Want K F H z Q) : rCut K v none (some i) H Q := by
  cases x <;> simp only [opHi] at hz <;> try cases hz
  · rename_i xs
    obtain ⟨a, vs, rfl, ea, ra, la⟩ := rx.tup
    have hl := ra.length
    refine .inr ⟨a, vs, rfl, .of (l.tup ea), fun e => ?_, fun _ p n => ?_⟩
    · have e0 : cutN xs.length i = xs.length := by have := e.2; rw [sIx_cut, hl] at this; exact this
      rw [e0, List.take_length] at k
      exact k.flat l ⟨a, vs, rfl, ea, ra, la⟩
    · rw [cut_hi, hl]
      exact k.tup l (ra.take _) (by rw [List.length_take]; omega) n
  · rename_i xs
    obtain ⟨a, vs, rfl, ea, ra, la⟩ := rx.lst l
    refine .inl ⟨a, vs, rfl, .of ea, fun p n => ?_⟩
    rw [cut_hi, ra.length]
    exact k.lst l (ra.take _) (by rw [List.length_take]; omega) n
theorem r_slo {p2 : Pos} (ha : PE X ma (tB X.K G a)) (hb : PE X mb (tD X.K G b)) : PE X (.Subscript ma (.Slice (some mb) none none p2) pos) (tD X.K G (.slo a b)) :=
  (pe_slice (sl_list.or sl_tupA) ha (po_some hb) po_none).imp fun σ H Q ⟨F, env, z, ok, hd, k⟩ => by
    obtain ⟨x, hx, hd⟩ := Option.bind_eq_some_iff.mp (show (bo env a (ev G env a)).bind _ = some z from hd)
    obtain ⟨y, hy, hd⟩ := Option.bind_eq_some_iff.mp hd
    obtain ⟨i, rfl⟩ : ∃ i, y = .int i := by cases y <;> first | exact ⟨_, rfl⟩ | (cases x <;> cases hd)
    exact runB ok hx fun F1 H1 v x1 o1 r1 => runD o1 hy fun F2 H2 u x2 o2 r2 => ⟨i, r2, lo_ok hd o2.le (r1.ext x2) fun F' H' w x3 => k F' H' w ((x1.trans x2).trans x3)⟩
theorem r_shi {p2 : Pos} (ha : PE X ma (tB X.K G a)) (hb : PE X mb (tD X.K G b)) : PE X (.Subscript ma (.Slice none (some mb) none p2) pos) (tD X.K G (.shi a b)) :=
  (pe_slice (sl_list.or sl_tupA) ha po_none (po_some hb)).imp fun σ H Q ⟨F, env, z, ok, hd, k⟩ => by
    obtain ⟨x, hx, hd⟩ := Option.bind_eq_some_iff.mp (show (bo env a (ev G env a)).bind _ = some z from hd)
    obtain ⟨y, hy, hd⟩ := Option.bind_eq_some_iff.mp hd
    obtain ⟨i, rfl⟩ : ∃ i, y = .int i := by cases y <;> first | exact ⟨_, rfl⟩ | (cases x <;> cases hd)
    exact runB ok hx fun F1 H1 v x1 o1 r1 => runD o1 hy fun F2 H2 u x2 o2 r2 => ⟨i, r2, hi_ok hd o2.le (r1.ext x2) fun F' H' w x3 => k F' H' w ((x1.trans x2).trans x3)⟩

/-! ### built-ins -/
/-- r asks of the one argument what f says -/
def B1ok (K : PySem.W.Frag) (f : B1) (r : List V → Hp → VK → Prop) : Prop := ∀ (x z : D) (F H : Hp) (v : V) (Q : VK), opU f x = some z → FLe F H → RepB K F H x v → Want K F H z Q → r [v] H Q
theorem b1_run {f : B1} {r : List V → Hp → VK → Prop} (hr : B1ok K f r) {d : D} (ok : Ok K F H σ env) (hd : ev G env (.b1 f a) = some d) (k : Want K F H d Q) : tCB r (tLB K G [a]) σ H Q := by
  obtain ⟨x, hx, hd⟩ := Option.bind_eq_some_iff.mp (show (bo env a (ev G env a)).bind _ = some d from hd)
  refine runLB ok (show (bo env a (ev G env a)).bind _ = some [x] by rw [hx]; rfl) fun F1 H1 vs x1 o1 r1 => ?_
  obtain ⟨v, r', rfl, r1, e⟩ := r1
  cases e
  exact hr x d F1 H1 v Q hd o1.le r1 fun F' H' w x2 => k F' H' w (x1.trans x2)
theorem r_b1 {f : B1} {id : String} {x : Str} {r : List V → Hp → VK → Prop} {pp : Pos} (hc : CallR X (.builtin id) r) (hr : B1ok X.K f r) (hg : Gl X x) (hm : X.mg x = none) (hv : bootBuiltins x = some (.builtin id)) (ha : PE X ma (tB X.K G a))
    (hs : starEach [ma] X.env = [(false, eval ma X.env)]) (hn : x ≠ "__name__" := by decide) (hdb : (x == ("__debug__" : Str)) = false := by decide) : PE X (.Call (.Name x pp) [ma] [] pos) (tD X.K G (.b1 f a)) :=
  (pe_callB hc hg hm hv (b_one ha hs) hn hdb hs).imp fun σ H Q ⟨F, env, z, ok, hd, k⟩ => b1_run hr ok hd k
theorem r_b1T {f : B1} {id : String} {x : Str} {r : List V → Hp → VK → Prop} {pp : Pos} (hc : CallR X (.type id) r) (hr : B1ok X.K f r) (hg : Gl X x) (hm : X.mg x = none) (hv : bootBuiltins x = some (.type id)) (ha : PE X ma (tB X.K G a))
    (hs : starEach [ma] X.env = [(false, eval ma X.env)]) (hn : x ≠ "__name__" := by decide) (hdb : (x == ("__debug__" : Str)) = false := by decide) : PE X (.Call (.Name x pp) [ma] [] pos) (tD X.K G (.b1 f a)) :=
  (pe_callTy hc hg hm hv (b_one ha hs) hn hdb hs).imp fun σ H Q ⟨F, env, z, ok, hd, k⟩ => b1_run hr ok hd k
theorem len_ok : B1ok K .len (fun xs H Q => ∃ x n, xs = [x] ∧ LenV K x H n ∧ Q (.int n) H) := by
  intro x z F H v Q hz l rx k
  cases x <;> simp only [opU] at hz <;> try cases hz
  · obtain ⟨a, vs, rfl, ea, ra, la⟩ := rx.tup
    exact ⟨_, _, rfl, .inr ⟨vs, .of (l.tup ea), rfl⟩, by rw [ra.length]; exact k.flat l rfl⟩
  · obtain ⟨a, vs, rfl, ea, ra, la⟩ := rx.lst l
    exact ⟨_, _, rfl, .inl ⟨vs, .of ea, rfl⟩, by rw [ra.length]; exact k.flat l rfl⟩
  · obtain ⟨a, rfl, ea, la⟩ := rx.scr l
    exact ⟨_, _, rfl, .inl ⟨_, ea, rfl⟩, by rw [List.length_map]; exact k.flat l rfl⟩
theorem int_ok : B1ok K .int (fun xs H Q => (∃ i, xs = [.int i] ∧ Q (.int i) H) ∨ ∃ k, xs = [.bl k] ∧ Q (.int (if k then 1 else 0)) H) := by
  intro x z F H v Q hz l rx k
  cases x <;> simp only [opU] at hz <;> try cases hz
  · exact .inr ⟨_, by rw [rx.bl], k.flat l rfl⟩
  · exact .inl ⟨_, by rw [rx.int], k.flat l rfl⟩
theorem seq_some {x : D} {xs : List D} (h : x.seq? = some xs) : x = .tup xs ∨ x = .lst xs := by
  cases x <;> simp only [D.seq?] at h <;> cases h
  · exact .inl rfl
  · exact .inr rfl
theorem tuple_ok : B1ok K .tuple (fun xs H Q => ∃ p ys, xs = [.ref p] ∧ ((SqL K H p ys ∧ ∀ l, H l = none → Q (.ref l) (upd H l (.tup ys))) ∨ (SqT K H p ys ∧ Q (.ref p) H))) := by
  intro x z F H v Q hz l rx k
  obtain ⟨xs, hx, rfl⟩ := Option.map_eq_some_iff.mp hz
  rcases seq_some hx with rfl | rfl
  · obtain ⟨a, vs, rfl, ea, ra, la⟩ := rx.tup
    exact ⟨a, vs, rfl, .inr ⟨.of (l.tup ea), k.flat l ⟨a, vs, rfl, ea, ra, la⟩⟩⟩
  · obtain ⟨a, vs, rfl, ea, ra, la⟩ := rx.lst l
    exact ⟨a, vs, rfl, .inl ⟨.of ea, fun p n => k.tup l ra la n⟩⟩
theorem list_ok : B1ok K .list (fun xs H Q => ∃ p ys, xs = [.ref p] ∧ (SqL K H p ys ∨ SqT K H p ys) ∧ ∀ l, H l = none → Q (.ref l) (upd H l (.lst ys))) := by
  intro x z F H v Q hz l rx k
  obtain ⟨xs, hx, rfl⟩ := Option.map_eq_some_iff.mp hz
  rcases seq_some hx with rfl | rfl
  · obtain ⟨a, vs, rfl, ea, ra, la⟩ := rx.tup
    exact ⟨a, vs, rfl, .inr (.of (l.tup ea)), fun p n => k.lst l ra la n⟩
  · obtain ⟨a, vs, rfl, ea, ra, la⟩ := rx.lst l
    exact ⟨a, vs, rfl, .inl (.of ea), fun p n => k.lst l ra la n⟩
theorem all_ok : B1ok K .all (rAll K) := by
  intro x z F H v Q hz l rx k
  cases x <;> simp only [opU] at hz <;> try cases hz
  obtain ⟨bs, hb, rfl⟩ := Option.map_eq_some_iff.mp hz
  obtain rfl := bools_eq hb
  obtain ⟨a, vs, rfl, ea, ra, la⟩ := rx.lst l
  exact ⟨a, bs, rfl, by rw [← ra.bls]; exact .of ea, k.flat l rfl⟩
theorem any_ok : B1ok K .any (rAny K) := by
  intro x z F H v Q hz l rx k
  cases x <;> simp only [opU] at hz <;> try cases hz
  obtain ⟨bs, hb, rfl⟩ := Option.map_eq_some_iff.mp hz
  obtain rfl := bools_eq hb
  obtain ⟨a, vs, rfl, ea, ra, la⟩ := rx.lst l
  exact ⟨a, bs, rfl, by rw [← ra.bls]; exact .of ea, k.flat l rfl⟩
/-- two ints -/
theorem b2_run {f : B2} {g : Int → Int → Int} (hf : ∀ x y z, opU2 f x y = some z → ∃ i j, x = .int i ∧ y = .int j ∧ z = .int (g i j)) {d : D} (ok : Ok K F H σ env) (hd : ev G env (.b2 f a b) = some d) (k : Want K F H d Q) :
    tCB (fun xs H Q => ∃ i j, xs = [.int i, .int j] ∧ Q (.int (g i j)) H) (tLB K G [a, b]) σ H Q := by
  obtain ⟨x, hx, hd⟩ := Option.bind_eq_some_iff.mp (show (bo env a (ev G env a)).bind _ = some d from hd)
  obtain ⟨y, hy, hd⟩ := Option.bind_eq_some_iff.mp hd
  obtain ⟨i, j, rfl, rfl, rfl⟩ := hf x y d hd
  refine runLB ok (show (bo env a (ev G env a)).bind _ = some [.int i, .int j] by rw [hx]; show ((bo env b (ev G env b)).bind _).map _ = _; rw [bo_of hy]; rfl) fun F1 H1 vs x1 o1 r1 => ?_
  obtain ⟨v, r', rfl, r1, u, r'', rfl, r2, e⟩ := r1
  cases e
  exact ⟨i, j, by rw [r1.int, r2.int], k _ _ _ x1 o1.le rfl⟩
theorem r_max2 {pp : Pos} (hc : X.calm = true) (hg : Gl X "max") (hm : X.mg "max" = none) (ha : PE X ma (tB X.K G a)) (hb : PE X mb (tB X.K G b)) (hs : starEach [ma, mb] X.env = (false, eval ma X.env) :: starEach [mb] X.env) (hs2 : starEach [mb] X.env = [(false, eval mb X.env)]) :
    PE X (.Call (.Name "max" pp) [ma, mb] [] pos) (tD X.K G (.b2 .max a b)) :=
  (pe_callB (call_max2 hc) hg hm boot_max (b_cons ha (b_one hb hs2) hs) (by decide) (by decide) hs (by rw [hs2]; rfl)).imp fun σ H Q ⟨F, env, z, ok, hd, k⟩ =>
    b2_run (g := fun i j => if j > i then j else i) (fun x y z h => by cases x <;> cases y <;> simp only [opU2] at h <;> cases h; exact ⟨_, _, rfl, rfl, rfl⟩) ok hd k
theorem r_min2 {pp : Pos} (hc : X.calm = true) (hg : Gl X "min") (hm : X.mg "min" = none) (ha : PE X ma (tB X.K G a)) (hb : PE X mb (tB X.K G b)) (hs : starEach [ma, mb] X.env = (false, eval ma X.env) :: starEach [mb] X.env) (hs2 : starEach [mb] X.env = [(false, eval mb X.env)]) :
    PE X (.Call (.Name "min" pp) [ma, mb] [] pos) (tD X.K G (.b2 .min a b)) :=
  (pe_callB (call_min2 hc) hg hm boot_min (b_cons ha (b_one hb hs2) hs) (by decide) (by decide) hs (by rw [hs2]; rfl)).imp fun σ H Q ⟨F, env, z, ok, hd, k⟩ =>
    b2_run (g := fun i j => if j < i then j else i) (fun x y z h => by cases x <;> cases y <;> simp only [opU2] at h <;> cases h; exact ⟨_, _, rfl, rfl, rfl⟩) ok hd k
end
end Rx
end

section
set_option Elab.async false
set_option linter.all false
set_option maxRecDepth 100000
set_option maxHeartbeats 1000000
set_option autoImplicit false
/-! RxWalk: what a for or a comprehension walks. -/
namespace Rx
open PySem PySem.Spec PyProof.Rows L2

/-! ### enumerate(a tuple) -/
section
open Sem (wp)
open AutoSeq1 (wpAny_loadPart')
theorem new_enum1 {v : Value} {o : Obj} {P : Heap → Prop} (B : Begins v o P) :
    Meets (Builtin.«enumerate.__new__» ⟨[.type "enumerate", v], []⟩) (fun _ R s => P s.heap ∧
      R (.ok (.ret (.ref (s.heap.push o).objs.size))) { s with heap := (s.heap.push o).push { cls := .type "enumerate", data := .fields #[.none, .bool false, .ref s.heap.objs.size, rawInt 0, .none, .none] } }) :=
  .of_wp fun prog w A R s h => by
    obtain ⟨hp, g, d, tk, os⟩ := s; obtain ⟨h1, h⟩ := h
    have hsub := sub_enumerate
    have q1 : ∀ {A' : Around} {E : Value → Shared → Prop} {Q : Value → Shared → Prop}, Q (.ref hp.objs.size) ⟨hp.push o, g, d, tk, os⟩ → wpAny (model prog w) A' (pyIter v) Q E ⟨hp, g, d, tk, os⟩ :=
      fun q => B.iter prog w _ _ ⟨hp, g, d, tk, os⟩ _ h1 q
    wp_walk using q1
    refine wpAny_stack_any fun st => wpAny_pure ?_
    split
    · rename_i c _ _ _ _ _
      cases (c == Value.type "enumerate") <;> (wp_walk using q1; exact ⟨_, rfl, h⟩)
    · wp_walk using q1
      exact ⟨_, rfl, h⟩
theorem begin_enum1 {prog : Program} {w : World} {A : Around} {E : Value → Shared → Prop} {s : Shared} {v : Value} {o : Obj} {P : Heap → Prop} {Q : Value → Shared → Prop} (B : Begins v o P) (h1 : P s.heap)
    (h : ∀ h', IsEnum h' (s.heap.objs.size + 1) s.heap.objs.size 0 .none → h'.get? s.heap.objs.size = some o → h'.objs.size = s.heap.objs.size + 2 →
      (∀ b ob, s.heap.get? b = some ob → h'.get? b = some ob) → Q (.ref (s.heap.objs.size + 1)) { s with heap := h' }) :
    wpAny (model prog w) A (call (.type "enumerate") [v]) Q E s := by
  refine callType_new F.called_enumerate (by decide) (F.typeCall_enumerate_1 _) (F.newCall_enumerate_1 _) (fun obj => F.args_object_init_2 obj _) F.entry_enumerate_new (new_enum1 B) ⟨h1, ?_⟩
  have hz : (s.heap.push o).objs.size = s.heap.objs.size + 1 := Heap.size_push ..
  show _ ∧ _
  rw [hz]
  have he : IsEnum ((s.heap.push o).push { cls := .type "enumerate", data := .fields #[.none, .bool false, .ref s.heap.objs.size, rawInt 0, .none, .none] }) (s.heap.objs.size + 1) s.heap.objs.size 0 .none := by
    have := Heap.get?_push_size (s.heap.push o) (o := { cls := .type "enumerate", data := .fields #[.none, .bool false, .ref s.heap.objs.size, rawInt 0, .none, .none] }) rfl
    rw [hz] at this; exact this
  refine ⟨⟨_, he, rfl⟩, h _ he (Heap.get?_push_of_some _ (Heap.get?_push_size _ B.free)) (by rw [Heap.size_push, hz]) fun b ob x => Heap.get?_push_of_some _ (Heap.get?_push_of_some _ x)⟩
end
/-- the tuple at a, each item with its number -/
def IteT (K : PySem.W.Frag) (a : Addr) : It :=
  ⟨fun i H => ∃ (xs : List V) (x : V), SqT K H a xs ∧ xs[i]? = some x, fun i H v H' => ∃ T x, v = .ref T ∧ H T = none ∧ H' = upd H T (.tup [.int (i : Nat), x]) ∧ ∀ xs, SqT K H a xs → xs[i]? = some x, fun i H => ∃ xs : List V, SqT K H a xs ∧ xs.length = i⟩
theorem tupIter_ne {h : Heap} {it a : Addr} {i : Nat} {items : Array Value} (x : h.IsTupleIter it a i) (y : h.IsTuple a items) : a ≠ it := by
  intro e
  subst e
  obtain ⟨o, e1, _, d1⟩ := x
  obtain ⟨o', e2, _, n, d2⟩ := y
  rw [e1] at e2; cases e2
  rw [d1] at d2; cases d2
theorem turn_enumT {P : Program} {w : World} {K : PySem.W.Frag} {elts : List Expr} {kk : Nat} {tpos : Pos} (a e it : Addr) :
    Turn P w K (.Tuple elts kk tpos) (IteT K a) [e, it] e (fun i h => (∃ old, IsEnum h e it ((i : Nat) : Int) old) ∧ h.IsTupleIter it a i ∧ e ≠ it) where
  mem := by simp
  obj := fun i h st b hb => by
    obtain ⟨⟨old, he⟩, ⟨o, ho, hc, hd⟩, _⟩ := st
    rcases (by simpa using hb : b = e ∨ b = it) with z | z
    · rw [z]; exact ⟨_, he, fun v q => nomatch q⟩
    · rw [z]; exact ⟨o, ho, fun v q => by rw [hd] at q; cases q⟩
  keep := fun i h h' st k => let ⟨⟨old, he⟩, hi, hne⟩ := st; ⟨⟨old, k e (by simp) _ he⟩, hi.at fun o q => k it (by simp) o q, hne⟩
  item := by
    intro X hP hw hK hc i pins s σ H E I hf st hg
    subst hP hw hK
    obtain ⟨⟨old, he⟩, hit, hne⟩ := st
    obtain ⟨xs, x, hq, hx⟩ := hg
    obtain ⟨its, rv, p, hz⟩ := I.tuple hq
    obtain ⟨u, hu, ru⟩ := rv.get hx
    have hel : e < s.heap.objs.size := Heap.lt_size he
    have hil : it < s.heap.objs.size := by obtain ⟨_, q, _⟩ := hit; exact Heap.lt_size q
    have ht : s.heap.IsTuple a its.toArray := p
    have hai := tupIter_ne hit ht
    have hae : e ≠ a := fun z => by
      subst z
      obtain ⟨o', e2, _, n, d2⟩ := ht
      rw [he] at e2; cases e2
      cases d2
    have hlen : i < its.toArray.size := by
      rw [List.size_toArray]
      exact (List.getElem?_eq_some_iff.mp hu).1
    refine wpAny_pyNext_enum_itemC (Draws.tuple (A := X.A.in1) (I.ok.hd hc) it a hai its.toArray) he ⟨hit, ht⟩ hlen hne (by simp [hne, hae]) fun y h' tk hy ho hst hT hsz hk => ?_
    obtain rfl : y = u := by
      have : its.toArray[i]? = some u := by simpa using hu
      rw [this] at hy; exact (Option.some.inj hy).symm
    refine ⟨_, rfl, wpAny_letOwnedTupleGo_enum (s := { s with heap := h', toks := tk + 1 }) ho fun h'' he' sb => ?_⟩
    have hT2 : h''.get? s.heap.objs.size = some { cls := .type "tuple", data := .seq #[.int i tk, y] } := (sb.2 _ (Nat.ne_of_gt hel)).trans hT
    have new : ObjOk X.prog X.w (upd H s.heap.objs.size (.tup [.int (i : Nat), x])) h'' s.heap.objs.size (.tup [.int (i : Nat), x]) :=
      ⟨by show 2 ≤ sizeLine; decide, [.int i tk, y], .cons ⟨_, rfl⟩ (.cons ru .nil), ⟨_, hT2, rfl, _, rfl⟩⟩
    have I1 : Inv X pins σ (upd H s.heap.objs.size (.tup [.int (i : Nat), x])) { s with heap := h'', toks := tk + 1 } :=
      I.turnedNew (ch := [e, it]) (fun b ob hb q => (sb.2 b (fun z => hb (by simp [z]))).trans (hk b ob (fun z => hb (by simp [z])) (fun z => hb (by simp [z])) q)) hf (Nat.le_refl _) new
    refine ⟨.ref s.heap.objs.size, _, I1, rfl, ⟨_, x, rfl, I.hok.fresh (Nat.le_refl _), rfl, fun ys hy' => by rw [I.tuple_inj hy' hq]; exact hx⟩, ⟨⟨y, ?_⟩, hst.1.at fun o q => (sb.2 it (Ne.symm hne)).trans q, hne⟩, fun b hb => ?_⟩
    · have e1 : ((i + 1 : Nat) : Int) = (i : Int) + 1 := by omega
      rw [e1]; exact he'
    · have hb' : b < s.heap.objs.size := by
        rcases (by simpa using hb : b = e ∨ b = it) with z | z
        · rw [z]; exact hel
        · rw [z]; exact hil
      rw [upd_ne (Nat.ne_of_lt hb')]
      exact (hf b hb).1
  done := by
    intro X hP hw hK hc i pins s σ H E I hf st hg
    subst hP hw hK
    obtain ⟨⟨old, he⟩, hit, hne⟩ := st
    obtain ⟨xs, hq, hx⟩ := hg
    obtain ⟨its, rv, p, hz⟩ := I.tuple hq
    obtain ⟨f0, f1, f2, f3, f4, f5⟩ := hf it (by simp)
    have hl := rv.length
    have ht : s.heap.IsTuple a its.toArray := p
    have en : i = its.toArray.size := by rw [List.size_toArray]; omega
    refine wpAny_pyNext_enum_endD (Draws.tuple (A := X.A.in1) (I.ok.hd hc) it a (tupIter_ne hit ht) its.toArray) he ⟨en ▸ hit, ht⟩ fun h' eb => ⟨rfl, I.turned (t' := s.toks) (fun b o hb q => eb b o hb q) f0 f1 f3 f4 f5⟩
  self := fun A i s Q E st h => let ⟨⟨_, he⟩, _⟩ := st; wpAny_pyIter_enum he h
def iEnumT (K : PySem.W.Frag) (ta : TA) : TI := fun σ H R => ta σ H fun vs H1 => ∃ a xs, vs = [.ref a] ∧ SqT K H1 a xs ∧ R (IteT K a) H1
theorem pi_enumT {X : Cx} {e : Expr} {ta : TA} {p pos tpos : Pos} {elts : List Expr} {kk : Nat} (hg : Gl X "enumerate") (hm : X.mg "enumerate" = none) (ha : PA X [e] ta) (hs : starEach [e] X.env = [(false, eval e X.env)]) :
    PI X (.Tuple elts kk tpos) (.Call (.Name "enumerate" p) [e] [] pos) (iEnumT X.K ta) := by
  refine ⟨fun pins s σ H R I h => ?_⟩
  refine Call_ (ld_blt I hg hm boot_enumerate (PyProof.Rows.callWith_type1 (thn (ha.run pos pins s σ H _ I h) fun us s1 ⟨vs, H1, I1, r1, q1⟩ => ?_) hs rfl))
  obtain ⟨a, xs, ex, hq, q⟩ := q1
  subst ex
  obtain ⟨u, rfl, r⟩ := vals1 r1
  cases r
  obtain ⟨its, rv, p', hz⟩ := I1.tuple hq
  refine begin_enum1 (begins_tuple a its.toArray) (show s1.heap.IsTuple a its.toArray from p') fun h' he hit hsz hk => wpAny_pyIter_enum he ?_
  have I2 : Inv X pins σ H1 { s1 with heap := h' } := I1.kept (t' := s1.toks) hk
  refine ⟨s1.heap.objs.size + 1, [s1.heap.objs.size + 1, s1.heap.objs.size], _, _, H1, rfl, I2, turn_enumT a (s1.heap.objs.size + 1) s1.heap.objs.size, ⟨⟨.none, he⟩, ⟨_, hit, rfl, rfl⟩, Nat.succ_ne_self _⟩, fun b hb => ?_, q⟩
  have hle : s1.heap.objs.size ≤ b := by
    rcases (by simpa using hb : b = s1.heap.objs.size + 1 ∨ b = s1.heap.objs.size) with z | z
    · rw [z]; exact Nat.le_add_right _ _
    · rw [z]; exact Nat.le_refl _
  exact I1.fpOk hle (I1.hok.fresh hle)

/-! ### what is walked, as data -/
/-- J hands out xs, wherever S holds of what is frozen and of the heap -/
structure WalkD (K : PySem.W.Frag) (S : Hp → Hp → Prop) (xs : List D) (J : It) : Prop where
  go : ∀ i F H, S F H → i < xs.length → J.go i H
  stop : ∀ F H, S F H → J.stop xs.length H
  yld : ∀ i F H x H', S F H → i < xs.length → J.yld i H x H' → ∃ F' d, Ext F H F' H' ∧ FLe F' H' ∧ xs[i]? = some d ∧ Rep K F' d x
theorem _root_.L2.PI.imp {X : Cx} {tg iter : Expr} {t t' : TI} (h : PI X tg iter t) (m : ∀ σ H R, t' σ H R → t σ H R) : PI X tg iter t' := ⟨fun pins s σ H R I q => h.run pins s σ H R I (m σ H R q)⟩
theorem _root_.L2.PI.or {X : Cx} {tg iter : Expr} {t t' : TI} (h : PI X tg iter t) (h' : PI X tg iter t') : PI X tg iter (fun σ H R => t σ H R ∨ t' σ H R) := ⟨fun pins s σ H R I q => q.elim (h.run pins s σ H R I) (h'.run pins s σ H R I)⟩
/-- d is at v: frozen, or what a name owns -/
def RepV (K : PySem.W.Frag) (F : Hp) (σ : St) (env : Env) (d : D) (v : V) : Prop := Rep K F d v ∨ ∃ (i : Nat) (a : Addr), env[i]? = some (.own d) ∧ σ[i]? = some (some (.ref a)) ∧ v = .ref a
theorem RepV.repB {K : PySem.W.Frag} {F H : Hp} {σ : St} {env : Env} {d : D} {v : V} (r : RepV K F σ env d v) (o : Ok K F H σ env) : RepB K F H d v := by
  rcases r with r | ⟨i, a, h1, h2, rfl⟩
  · exact .inl r
  · obtain ⟨a', e, f, w⟩ := o.en.own i d h1
    rw [h2] at e; cases e
    exact .inr ⟨a, rfl, f, w⟩
theorem RepV.mono {K : PySem.W.Frag} {F F' : Hp} {σ : St} {env : Env} {d : D} {v : V} (r : RepV K F σ env d v) (m : FMono F F') : RepV K F' σ env d v := by
  rcases r with r | r
  · exact .inl (r.mono m)
  · exact .inr r
def RepVL (K : PySem.W.Frag) (F : Hp) (σ : St) (env : Env) : List D → List V → Prop
  | [], vs => vs = []
  | d :: ds, vs => ∃ v r, vs = v :: r ∧ RepV K F σ env d v ∧ RepVL K F σ env ds r
theorem RepVL.mono {K : PySem.W.Frag} {F F' : Hp} {σ : St} {env : Env} (m : FMono F F') : ∀ {ds : List D} {vs : List V}, RepVL K F σ env ds vs → RepVL K F' σ env ds vs
  | [], _, h => h
  | d :: ds, _, h => let ⟨v, r, e, h1, h2⟩ := h; ⟨v, r, e, h1.mono m, RepVL.mono m h2⟩
/-- fr: what is read must be frozen (ahead of a for); else a name that owns its list may be read, too (ahead of a comprehension) -/
def SM (fr : Bool) (K : PySem.W.Frag) (σ : St) (env : Env) (F : Hp) : Hp → Hp → Prop := fun F1 H1 => FMono F F1 ∧ FLe F1 H1 ∧ (fr = false → Ok K F1 H1 σ env)
def evX (fr : Bool) (G : Gm) (env : Env) (e : E) : Option D := if fr then ev G env e else bo env e (ev G env e)
def evM (fr : Bool) (G : Gm) (env : Env) (es : List E) : Option (List D) := if fr then evL G env es else evB G env es
def tW (K : PySem.W.Frag) (G : Gm) (e : E) : TE := fun σ H Q => ∃ F env d, Ok K F H σ env ∧ bo env e (ev G env e) = some d ∧ ∀ F' H' v, Ext F H F' H' → FLe F' H' → RepV K F' σ env d v → Q v H'
def tLW (K : PySem.W.Frag) (G : Gm) (es : List E) : TA := fun σ H Q => ∃ F env ds, Ok K F H σ env ∧ evB G env es = some ds ∧ ∀ F' H' vs, Ext F H F' H' → FLe F' H' → RepVL K F' σ env ds vs → Q vs H'
def tX (fr : Bool) (K : PySem.W.Frag) (G : Gm) (e : E) : TE := if fr then tD K G e else tW K G e
def tM (fr : Bool) (K : PySem.W.Frag) (G : Gm) (es : List E) : TA := if fr then tL K G es else tLW K G es
def tI (fr : Bool) (K : PySem.W.Frag) (G : Gm) (k : IK) (es : List E) : TI := fun σ H R => ∃ F env vs xs, Ok K F H σ env ∧ evM fr G env es = some vs ∧ walk k vs = some xs ∧ ∀ F' H' J, Ext F H F' H' → FLe F' H' → WalkD K (SM fr K σ env F') xs J → R J H'
section
variable {K : PySem.W.Frag} {S : Hp → Hp → Prop}
/-- the datum x is to be read at v wherever S holds -/
def Stays (K : PySem.W.Frag) (S : Hp → Hp → Prop) (x : D) (v : V) : Prop := ∀ F H, S F H → FLe F H ∧ RepB K F H x v
theorem Stays.grown {F : Hp} {σ : St} {env : Env} {x : D} {v : V} (r : RepV K F σ env x v) : Stays K (SM false K σ env F) x v := fun _ _ s => ⟨s.2.1, (r.mono s.1).repB (s.2.2 rfl)⟩
theorem Stays.froze {F : Hp} {σ : St} {env : Env} {x : D} {v : V} (r : Rep K F x v) : Stays K (SM true K σ env F) x v := fun _ _ s => ⟨s.2.1, .inl (r.mono s.1)⟩
theorem walk_tupD {xs : List D} {a : Addr} (h : Stays K S (.tup xs) (.ref a)) : WalkD K S xs (Itt K a) where
  go := fun i F H s hi => by
    obtain ⟨l, r⟩ := h F H s
    obtain ⟨_, vs, e, ea, ra, _⟩ := r.tup
    cases e
    have hl := ra.length
    exact ⟨vs, vs[i]'(by omega), .of (l.tup ea), by simp⟩
  stop := fun F H s => by
    obtain ⟨l, r⟩ := h F H s
    obtain ⟨_, vs, e, ea, ra, _⟩ := r.tup
    cases e
    exact ⟨vs, .of (l.tup ea), by rw [ra.length]; exact Nat.le_refl _⟩
  yld := fun i F H x H' s hi ⟨e1, y⟩ => by
    obtain ⟨l, r⟩ := h F H s
    obtain ⟨_, vs, e, ea, ra, _⟩ := r.tup
    cases e
    subst e1
    obtain ⟨d, hd, rd⟩ := ra.get' (y vs (.of (l.tup ea)))
    exact ⟨F, d, .refl _ _, l, hd, rd⟩
theorem walk_lstD {xs : List D} {a : Addr} (h : Stays K S (.lst xs) (.ref a)) : WalkD K S xs (Itl K a) where
  go := fun i F H s hi => by
    obtain ⟨l, r⟩ := h F H s
    obtain ⟨_, vs, e, ea, ra, _⟩ := r.lst l
    cases e
    have hl := ra.length
    exact ⟨vs, vs[i]'(by omega), .of ea, by simp⟩
  stop := fun F H s => by
    obtain ⟨l, r⟩ := h F H s
    obtain ⟨_, vs, e, ea, ra, _⟩ := r.lst l
    cases e
    exact ⟨vs, .of ea, by rw [ra.length]; exact Nat.le_refl _⟩
  yld := fun i F H x H' s hi ⟨e1, y⟩ => by
    obtain ⟨l, r⟩ := h F H s
    obtain ⟨_, vs, e, ea, ra, _⟩ := r.lst l
    cases e
    subst e1
    obtain ⟨d, hd, rd⟩ := ra.get' (y vs (.of ea))
    exact ⟨F, d, .refl _ _, l, hd, rd⟩
theorem walk_rngD {lo : Int} {n : Nat} (hS : ∀ F H, S F H → FLe F H) : WalkD K S (rgD lo n) (Itr lo n) where
  go := fun i F H s hi => by unfold rgD at hi; show i < n; simpa using hi
  stop := fun F H s => by unfold rgD; simp [Itr]
  yld := fun i F H x H' s hi ⟨e1, e2⟩ => by
    subst e1 e2
    unfold rgD at hi ⊢
    have hi : i < n := by simpa using hi
    exact ⟨F, .int (lo + i), .refl _ _, hS _ _ s, by simp [hi], rfl⟩
theorem walk_rngC {lo c : Int} {n : Nat} (hS : ∀ F H, S F H → FLe F H) : WalkD K S ((List.range n).map fun (k : Nat) => .int (lo + k * c)) (Itc lo c n) where
  go := fun i F H s hi => by show i < n; simpa using hi
  stop := fun F H s => by simp [Itc]
  yld := fun i F H x H' s hi ⟨e1, e2⟩ => by
    subst e1 e2
    have hi : i < n := by simpa using hi
    exact ⟨F, .int (lo + i * c), .refl _ _, hS _ _ s, by simp [hi], rfl⟩
theorem walk_revL {xs : List D} {a : Addr} {m : Nat} (h : Stays K S (.lst xs) (.ref a)) (hm : m = xs.length) : WalkD K S xs.reverse (Itv K a m) where
  go := fun i F H s hi => by
    obtain ⟨l, r⟩ := h F H s
    obtain ⟨_, vs, e, ea, ra, _⟩ := r.lst l
    cases e
    have hl := ra.length
    rw [List.length_reverse] at hi
    exact ⟨by omega, vs, vs[m - 1 - i]'(by omega), .of ea, by simp [show m - 1 - i < vs.length by omega]⟩
  stop := fun F H s => by rw [List.length_reverse, ← hm]; exact Nat.le_refl _
  yld := fun i F H x H' s hi ⟨e1, y⟩ => by
    obtain ⟨l, r⟩ := h F H s
    obtain ⟨_, vs, e, ea, ra, _⟩ := r.lst l
    cases e
    subst e1
    rw [List.length_reverse] at hi
    obtain ⟨d, hd, rd⟩ := ra.get' (y vs (.of ea))
    exact ⟨F, d, .refl _ _, l, by rw [List.getElem?_reverse hi, ← hm]; exact hd, rd⟩
theorem walk_revT {xs : List D} {a : Addr} {m : Nat} (h : Stays K S (.tup xs) (.ref a)) (hm : m = xs.length) : WalkD K S xs.reverse (RT.ItvT K a m) where
  go := fun i F H s hi => by
    obtain ⟨l, r⟩ := h F H s
    obtain ⟨_, vs, e, ea, ra, _⟩ := r.tup
    cases e
    have hl := ra.length
    rw [List.length_reverse] at hi
    exact ⟨by omega, vs, vs[m - 1 - i]'(by omega), .of (l.tup ea), by simp [show m - 1 - i < vs.length by omega]⟩
  stop := fun F H s => by rw [List.length_reverse, ← hm]; exact Nat.le_refl _
  yld := fun i F H x H' s hi ⟨e1, y⟩ => by
    obtain ⟨l, r⟩ := h F H s
    obtain ⟨_, vs, e, ea, ra, _⟩ := r.tup
    cases e
    subst e1
    rw [List.length_reverse] at hi
    obtain ⟨d, hd, rd⟩ := ra.get' (y vs (.of (l.tup ea)))
    exact ⟨F, d, .refl _ _, l, by rw [List.getElem?_reverse hi, ← hm]; exact hd, rd⟩
/-- a new pair -/
theorem yld_pair {F H : Hp} {T : Addr} {d e : D} {x y : V} (l : FLe F H) (n : H T = none) (r1 : Rep K F d x) (r2 : Rep K F e y) : ∃ F', Ext F H F' (upd H T (.tup [x, y])) ∧ FLe F' (upd H T (.tup [x, y])) ∧ Rep K F' (.tup [d, e]) (.ref T) :=
  ⟨upd F T (.tup [x, y]), .new l n, l.new n, T, [x, y], rfl, upd_same, ⟨x, _, rfl, r1.mono (.upd (l.free n)), y, _, rfl, r2.mono (.upd (l.free n)), rfl⟩, by show 2 ≤ line; decide⟩
theorem enum_at (xs : List D) (i : Nat) (d : D) (h : xs[i]? = some d) : ((List.range xs.length).map fun (k : Nat) => D.tup [.int k, xs.getD k .non])[i]? = some (.tup [.int i, d]) := by
  have hi := (List.getElem?_eq_some_iff.mp h).1
  rw [List.getElem?_map, List.getElem?_range hi]
  simp [List.getD_eq_getElem?_getD, h]
theorem walk_enumT {xs : List D} {a : Addr} (h : Stays K S (.tup xs) (.ref a)) : WalkD K S ((List.range xs.length).map fun (k : Nat) => .tup [.int k, xs.getD k .non]) (IteT K a) where
  go := fun i F H s hi => by
    obtain ⟨l, r⟩ := h F H s
    obtain ⟨_, vs, e, ea, ra, _⟩ := r.tup
    cases e
    have hl := ra.length
    simp only [List.length_map, List.length_range] at hi
    exact ⟨vs, vs[i]'(by omega), .of (l.tup ea), by simp⟩
  stop := fun F H s => by
    obtain ⟨l, r⟩ := h F H s
    obtain ⟨_, vs, e, ea, ra, _⟩ := r.tup
    cases e
    exact ⟨vs, .of (l.tup ea), by rw [ra.length]; simp⟩
  yld := fun i F H x H' s hi ⟨T, w, e1, n, e2, y⟩ => by
    obtain ⟨l, r⟩ := h F H s
    obtain ⟨_, vs, e, ea, ra, _⟩ := r.tup
    cases e
    subst e1 e2
    obtain ⟨d, hd, rd⟩ := ra.get' (y vs (.of (l.tup ea)))
    obtain ⟨F', x1, l1, r1⟩ := yld_pair l n (show Rep K F (.int i) (.int i) from rfl) rd
    exact ⟨F', _, x1, l1, enum_at xs i d hd, r1⟩
theorem walk_enumL {xs : List D} {a : Addr} (h : Stays K S (.lst xs) (.ref a)) : WalkD K S ((List.range xs.length).map fun (k : Nat) => .tup [.int k, xs.getD k .non]) (Ite K a) where
  go := fun i F H s hi => by
    obtain ⟨l, r⟩ := h F H s
    obtain ⟨_, vs, e, ea, ra, _⟩ := r.lst l
    cases e
    have hl := ra.length
    simp only [List.length_map, List.length_range] at hi
    exact ⟨vs, vs[i]'(by omega), .of ea, by simp⟩
  stop := fun F H s => by
    obtain ⟨l, r⟩ := h F H s
    obtain ⟨_, vs, e, ea, ra, _⟩ := r.lst l
    cases e
    exact ⟨vs, .of ea, by rw [ra.length]; simp⟩
  yld := fun i F H x H' s hi ⟨T, w, e1, n, e2, y⟩ => by
    obtain ⟨l, r⟩ := h F H s
    obtain ⟨_, vs, e, ea, ra, _⟩ := r.lst l
    cases e
    subst e1 e2
    obtain ⟨d, hd, rd⟩ := ra.get' (y vs (.of ea))
    obtain ⟨F', x1, l1, r1⟩ := yld_pair l n (show Rep K F (.int i) (.int i) from rfl) rd
    exact ⟨F', _, x1, l1, enum_at xs i d hd, r1⟩
end

/-! ### the walks' rules -/
section
variable {X : Cx} {G : Gm} {K : PySem.W.Frag} {F H : Hp} {σ : St} {env : Env} {fr : Bool} {e a b c : E} {me ma mb mc tg : Expr} {pos : Pos} {es : List E} {mes : List Expr}
theorem SM.le {F1 H1 : Hp} (s : SM fr K σ env F F1 H1) : FLe F1 H1 := s.2.1
theorem r_varW {i : Nat} {x : Str} (h : PE X (.Name x pos) (L2.tVar i)) : PE X (.Name x pos) (tW K G (.var i)) := h.imp fun σ H Q ⟨F, env, d, o, hd, k⟩ => by
  have hd' : env.bor i = some d := hd
  unfold Env.bor at hd'
  split at hd'
  · rename_i z hz
    cases hd'
    obtain ⟨v, e1, r⟩ := o.en.val i d hz
    exact ⟨v, e1, k F H v (.refl F H) o.le (.inl r)⟩
  · rename_i z hz
    cases hd'
    obtain ⟨a, e1, f, r⟩ := o.en.own i d hz
    exact ⟨.ref a, e1, k F H _ (.refl F H) o.le (.inr ⟨i, a, hz, e1, rfl⟩)⟩
  · cases hd'
theorem tW_of (hne : ∀ i, e ≠ .var i) (h : PE X me (tD K G e)) : PE X me (tW K G e) := h.imp fun σ H Q ⟨F, env, d, o, hd, k⟩ =>
  ⟨F, env, d, o, by cases e <;> first | exact hd | exact absurd rfl (hne _), fun F' H' v x l r => k F' H' v x l (.inl r)⟩
theorem runX {d : D} {Q : VK} (o : Ok K F H σ env) (h : evX fr G env e = some d) (k : ∀ F' H' v, Ext F H F' H' → Ok K F' H' σ env → Stays K (SM fr K σ env F') d v → RepB K F' H' d v → Q v H') : tX fr K G e σ H Q := by
  cases fr with
  | true => exact runD o h fun F' H' v x o1 r => k F' H' v x o1 (.froze r) (.inl r)
  | false => exact ⟨F, env, d, o, h, fun F' H' v x l r => k F' H' v x (o.ext x l) (.grown r) (r.repB (o.ext x l))⟩
/-- the arguments stay -/
def StaysL (K : PySem.W.Frag) (S : Hp → Hp → Prop) : List D → List V → Prop
  | [], vs => vs = []
  | d :: ds, vs => ∃ v r, vs = v :: r ∧ Stays K S d v ∧ StaysL K S ds r
theorem StaysL.froze : ∀ {ds : List D} {vs : List V}, RepL K F ds vs → StaysL K (SM true K σ env F) ds vs
  | [], _, h => h
  | d :: ds, _, h => let ⟨v, r, e, h1, h2⟩ := h; ⟨v, r, e, .froze h1, StaysL.froze h2⟩
theorem StaysL.grown : ∀ {ds : List D} {vs : List V}, RepVL K F σ env ds vs → StaysL K (SM false K σ env F) ds vs
  | [], _, h => h
  | d :: ds, _, h => let ⟨v, r, e, h1, h2⟩ := h; ⟨v, r, e, .grown h1, StaysL.grown h2⟩
theorem RepL.bor : ∀ {ds : List D} {vs : List V}, RepL K F ds vs → RepBL K F H ds vs
  | [], _, h => h
  | d :: ds, _, h => let ⟨v, r, e, h1, h2⟩ := h; ⟨v, r, e, .inl h1, RepL.bor h2⟩
theorem RepVL.bor (o : Ok K F H σ env) : ∀ {ds : List D} {vs : List V}, RepVL K F σ env ds vs → RepBL K F H ds vs
  | [], _, h => h
  | d :: ds, _, h => let ⟨v, r, e, h1, h2⟩ := h; ⟨v, r, e, h1.repB o, RepVL.bor o h2⟩
theorem runM {ds : List D} {Q : List V → Hp → Prop} (o : Ok K F H σ env) (h : evM fr G env es = some ds) (k : ∀ F' H' vs, Ext F H F' H' → Ok K F' H' σ env → StaysL K (SM fr K σ env F') ds vs → RepBL K F' H' ds vs → Q vs H') : tM fr K G es σ H Q := by
  cases fr with
  | true => exact runL o h fun F' H' v x o1 r => k F' H' v x o1 (.froze r) r.bor
  | false => exact ⟨F, env, ds, o, h, fun F' H' v x l r => k F' H' v x (o.ext x l) (.grown r) (r.bor (o.ext x l))⟩
theorem evM_one {vs : List D} (h : evM fr G env [e] = some vs) : ∃ x, evX fr G env e = some x ∧ vs = [x] := by
  cases fr with
  | true =>
    obtain ⟨x, hx, h⟩ := Option.bind_eq_some_iff.mp (show (ev G env e).bind _ = some vs from h)
    obtain ⟨xs, hxs, rfl⟩ := Option.map_eq_some_iff.mp h
    cases hxs
    exact ⟨x, hx, rfl⟩
  | false =>
    obtain ⟨x, hx, h⟩ := Option.bind_eq_some_iff.mp (show (bo env e (ev G env e)).bind _ = some vs from h)
    obtain ⟨xs, hxs, rfl⟩ := Option.map_eq_some_iff.mp h
    cases hxs
    exact ⟨x, hx, rfl⟩
theorem m_nil : PA X [] (tM fr K G []) := by
  cases fr
  · exact pa_nil.imp fun σ H Q ⟨F, env, d, o, hd, k⟩ => by
      cases hd; exact k _ _ _ (.refl F H) o.le rfl
  · exact a_nil
theorem m_cons (ha : PE X ma (tX fr K G a)) (hr : PA X mes (tM fr K G es)) (hs : starEach (ma :: mes) X.env = (false, eval ma X.env) :: starEach mes X.env) : PA X (ma :: mes) (tM fr K G (a :: es)) := by
  cases fr
  · exact (pa_cons ha hr hs).imp fun σ H Q ⟨F, env, d, o, hd, k⟩ => by
      obtain ⟨x, hx, hd⟩ := Option.bind_eq_some_iff.mp (show (bo env a (ev G env a)).bind _ = some d from hd)
      obtain ⟨xs, hxs, rfl⟩ := Option.map_eq_some_iff.mp hd
      exact ⟨F, env, x, o, hx, fun F1 H1 v x1 l1 r1 => ⟨F1, env, xs, o.ext x1 l1, hxs, fun F2 H2 vs x2 l2 r2 => k _ _ _ (x1.trans x2) l2 ⟨v, vs, rfl, r1.mono x2.f, r2⟩⟩⟩
  · exact a_cons ha hr hs
def iRngO (tl : TE) : TI := fun σ H R => tl σ H fun x H1 => ∃ (p : Addr) (lo hi : Int), x = .ref p ∧ H1 p = some (.rng lo hi) ∧ (-(2 ^ 62) ≤ lo ∧ lo < 2 ^ 62 ∧ -(2 ^ 62) ≤ hi ∧ hi < 2 ^ 62) ∧ R (Itr lo (hi - lo).toNat) H1
/-- a range that a name holds -/
theorem pi_rngO {l : Expr} {tl : TE} (hl : PE X l tl) : PI X tg l (iRngO tl) := by
  refine ⟨fun pins s σ H R I h => ?_⟩
  refine thn (hl.run pins s σ H _ I h) fun v s1 ⟨x, H1, I1, r1, p, lo, hi, ex, e1, hb, q⟩ => ?_
  subst ex
  obtain rfl : v = Value.ref p := r1
  obtain ⟨t, u, w, e2⟩ := I1.hok p _ e1
  have I2 : Inv X pins σ H1 { s1 with heap := s1.heap.push { cls := .type "range_iterator", data := .fields #[rawInt lo, rawInt (Builtin.Range.rangeSize lo hi 1), rawInt 1] } } := I1.kept (t' := s1.toks) fun b o e => Heap.get?_push_of_some _ e
  refine wpAny_pyIter_range (r := p) e2 (small_one hb.1 hb.2.1 hb.2.2.1 hb.2.2.2) ?_
  refine ⟨s1.heap.objs.size, [s1.heap.objs.size], _, _, H1, rfl, I2, turn_range _ lo (hi - lo).toNat, ?_, fun b hm => ?_, q⟩
  · have k1 : lo + ((0 : Nat) : Int) * 1 = lo := by simp
    have k2 : (((hi - lo).toNat : Nat) : Int) - ((0 : Nat) : Int) = Builtin.Range.rangeSize lo hi 1 := by rw [rangeSize_one]; split <;> omega
    rw [k1, k2]
    exact Heap.get?_push_size _ rfl
  · obtain rfl : b = s1.heap.objs.size := by simpa using hm
    exact I1.fpOk (Nat.le_refl _) (I1.hok.fresh (Nat.le_refl _))
theorem w_seq (he : PE X me (tX fr X.K G e)) : PI X tg me (tI fr X.K G .seq [e]) := (((pi_list he).or (pi_tup he)).or (pi_rngO he)).imp fun σ H R ⟨F, env, vs, xs, o, hv, hw, k⟩ => by
  obtain ⟨x, hx, rfl⟩ := evM_one hv
  cases x <;> simp only [walk] at hw <;> try cases hw
  · refine .inl (.inr (runX o hx fun F1 H1 v x1 o1 st r1 => ?_))
    obtain ⟨a, vs, rfl, ea, ra, la⟩ := r1.tup
    exact ⟨a, rfl, ⟨vs, .of (o1.le.tup ea)⟩, k _ _ _ x1 o1.le (walk_tupD st)⟩
  · refine .inl (.inl (runX o hx fun F1 H1 v x1 o1 st r1 => ?_))
    obtain ⟨a, vs, rfl, ea, ra, la⟩ := r1.lst o1.le
    exact ⟨a, rfl, ⟨vs, .of ea⟩, k _ _ _ x1 o1.le (walk_lstD st)⟩
  · split at hw <;> cases hw
    rename_i lo hi hb
    refine .inr (runX o hx fun F1 H1 v x1 o1 st r1 => ?_)
    obtain ⟨p, rfl, e⟩ := r1.rng o1.le
    exact ⟨p, lo, hi, rfl, e, hb, k _ _ _ x1 o1.le (walk_rngD fun _ _ => SM.le)⟩
theorem w_r1 {p : Pos} (hg : Gl X "range") (hm : X.mg "range" = none) (ha : PA X [ma] (tM fr X.K G [a])) (hs : starEach [ma] X.env = [(false, eval ma X.env)]) : PI X tg (.Call (.Name "range" p) [ma] [] pos) (tI fr X.K G .r1 [a]) :=
  (pi_range1 hg hm ha hs).imp fun σ H R ⟨F, env, vs, xs, o, hv, hw, k⟩ => by
    refine runM o hv fun F1 H1 ws x1 o1 st r1 => ?_
    rcases vs with _ | ⟨d, _ | ⟨d2, r⟩⟩ <;> (try simp only [walk] at hw) <;> try cases hw
    all_goals (cases d <;> (try simp only [walk] at hw) <;> try cases hw)
    split at hw <;> cases hw
    rename_i hb
    obtain ⟨v, r', rfl, r1, e⟩ := r1
    cases e
    exact ⟨_, by rw [r1.int], hb.1, hb.2, k _ _ _ x1 o1.le (walk_rngD fun _ _ => SM.le)⟩
theorem w_r2 {p : Pos} (hg : Gl X "range") (hm : X.mg "range" = none) (ha : PA X [ma, mb] (tM fr X.K G [a, b])) (hs : starEach [ma, mb] X.env = [(false, eval ma X.env), (false, eval mb X.env)]) (hs2 : starEach [mb] X.env = [(false, eval mb X.env)]) :
    PI X tg (.Call (.Name "range" p) [ma, mb] [] pos) (tI fr X.K G .r2 [a, b]) :=
  (pi_range2 hg hm ha hs hs2).imp fun σ H R ⟨F, env, vs, xs, o, hv, hw, k⟩ => by
    refine runM o hv fun F1 H1 ws x1 o1 st r1 => ?_
    rcases vs with _ | ⟨d, _ | ⟨d2, _ | ⟨d3, r⟩⟩⟩ <;> (try simp only [walk] at hw) <;> try cases hw
    all_goals (cases d <;> (try simp only [walk] at hw) <;> try cases hw)
    all_goals (cases d2 <;> (try simp only [walk] at hw) <;> try cases hw)
    split at hw <;> cases hw
    rename_i hb
    obtain ⟨v, r', rfl, r1, u, r'', rfl, r2, e⟩ := r1
    cases e
    exact ⟨_, _, by rw [r1.int, r2.int], hb, k _ _ _ x1 o1.le (walk_rngD fun _ _ => SM.le)⟩
theorem w_enum {elts : List Expr} {kk : Nat} {p tpos : Pos} (hg : Gl X "enumerate") (hm : X.mg "enumerate" = none) (ha : PA X [ma] (tM fr X.K G [a])) (hs : starEach [ma] X.env = [(false, eval ma X.env)]) :
    PI X (.Tuple elts kk tpos) (.Call (.Name "enumerate" p) [ma] [] pos) (tI fr X.K G .enum [a]) :=
  ((pi_enum hg hm ha hs).or (pi_enumT hg hm ha hs)).imp fun σ H R ⟨F, env, vs, xs, o, hv, hw, k⟩ => by
    obtain ⟨x, hx, rfl⟩ := evM_one hv
    cases x <;> simp only [walk] at hw <;> try cases hw
    · refine .inr (runM o hv fun F1 H1 ws x1 o1 st r1 => ?_)
      obtain ⟨v, r', rfl, r1, e⟩ := r1
      cases e
      obtain ⟨_, _, e, st, _⟩ := st
      cases e
      obtain ⟨a, vs, rfl, ea, ra, la⟩ := r1.tup
      exact ⟨a, vs, rfl, .of (o1.le.tup ea), k _ _ _ x1 o1.le (walk_enumT st)⟩
    · refine .inl (runM o hv fun F1 H1 ws x1 o1 st r1 => ?_)
      obtain ⟨v, r', rfl, r1, e⟩ := r1
      cases e
      obtain ⟨_, _, e, st, _⟩ := st
      cases e
      obtain ⟨a, vs, rfl, ea, ra, la⟩ := r1.lst o1.le
      exact ⟨a, vs, rfl, .of ea, k _ _ _ x1 o1.le (walk_enumL st)⟩
theorem w_rev {p : Pos} (hg : Gl X "reversed") (hm : X.mg "reversed" = none) (ha : PE X ma (tX fr X.K G a)) (hs : starEach [ma] X.env = (false, eval ma X.env) :: starEach [] X.env) : PI X tg (.Call (.Name "reversed" p) [ma] [] pos) (tI fr X.K G .rev [a]) :=
  (RT.pi_revA hg hm ha hs).imp fun σ H R ⟨F, env, vs, xs, o, hv, hw, k⟩ => by
    obtain ⟨x, hx, rfl⟩ := evM_one hv
    obtain ⟨ds, hd, rfl⟩ := Option.map_eq_some_iff.mp (show x.seq?.map List.reverse = some xs from hw)
    refine runX o hx fun F1 H1 v x1 o1 st r1 => ?_
    rcases seq_some hd with rfl | rfl
    · obtain ⟨a, vs, rfl, ea, ra, la⟩ := r1.tup
      exact ⟨a, vs, rfl, .inr ⟨.of (o1.le.tup ea), k _ _ _ x1 o1.le (walk_revT st ra.length)⟩⟩
    · obtain ⟨a, vs, rfl, ea, ra, la⟩ := r1.lst o1.le
      exact ⟨a, vs, rfl, .inl ⟨.of ea, k _ _ _ x1 o1.le (walk_revL st ra.length)⟩⟩
end
end Rx
end

section
set_option Elab.async false
set_option linter.all false
set_option maxRecDepth 100000
set_option maxHeartbeats 1000000
set_option autoImplicit false
/-! RxComp: targets, comprehensions, what is just made. -/
namespace Rx
open PySem PySem.Spec PyProof.Rows L2

/-! ### slots forgotten -/
theorem wipe_get (σ : St) (j : Nat) : ∀ vs : List Nat, (wipe σ vs)[j]? = if j ∈ vs then (σ[j]?).map (fun _ => none) else σ[j]?
  | [] => by simp [wipe]
  | v :: vs => by
    unfold wipe
    by_cases h : v = j
    · subst h
      by_cases hl : v < σ.length
      · rw [List.getElem?_set_self (by rw [wipe_length]; exact hl)]
        simp [hl]
      · rw [List.getElem?_eq_none (by rw [List.length_set, wipe_length]; omega)]
        simp [List.getElem?_eq_none (by omega : σ.length ≤ v)]
    · rw [List.getElem?_set_ne h, wipe_get σ j vs]
      have : j ≠ v := fun e => h e.symm
      simp [this]
theorem wipe_congr {σ τ : St} {vs : List Nat} (hl : σ.length = τ.length) (h : ∀ j, j ∉ vs → σ[j]? = τ[j]?) : wipe σ vs = wipe τ vs := by
  apply List.ext_getElem?
  intro j
  rw [wipe_get, wipe_get]
  split
  · by_cases hj : j < σ.length
    · rw [List.getElem?_eq_getElem hj, List.getElem?_eq_getElem (by omega : j < τ.length)]; rfl
    · rw [List.getElem?_eq_none (by omega), List.getElem?_eq_none (by omega)]
  · exact h j ‹_›
theorem kill_get (env : Env) (j : Nat) : ∀ vs : List Nat, (env.kill vs)[j]? = if j ∈ vs then (env[j]?).map (fun _ => Cell.unk) else env[j]?
  | [] => by simp [Env.kill]
  | v :: vs => by
    unfold Env.kill
    rw [kill_get _ j vs]
    by_cases h : v = j
    · subst h
      by_cases hl : v < env.length
      · simp [List.getElem?_set_self hl, hl]
      · rw [List.getElem?_eq_none (by simp; omega), List.getElem?_eq_none (by omega)]
        simp
    · rw [List.getElem?_set_ne h]
      have : j ≠ v := fun e => h e.symm
      simp [this]
theorem kill_length (env : Env) : ∀ vs : List Nat, (env.kill vs).length = env.length := by
  intro vs
  induction vs generalizing env with
  | nil => rfl
  | cons v vs ih => unfold Env.kill; rw [ih]; simp
section
variable {K : PySem.W.Frag} {F H : Hp} {σ : St} {env : Env}
/-- some names are forgotten -/
theorem EnvOk.kill (E : EnvOk K F H σ env) (vs : List Nat) : EnvOk K F H σ (env.kill vs) := by
  have key : ∀ {i : Nat} {c : Cell}, (env.kill vs)[i]? = some c → c ≠ .unk → env[i]? = some c := fun {i c} h n => by
    rw [kill_get] at h
    split at h
    · cases q : env[i]? with
      | none => rw [q] at h; cases h
      | some z => rw [q] at h; cases h; exact absurd rfl n
    · exact h
  refine ⟨by rw [kill_length]; exact E.len, fun i d e => E.val i d (key e (by simp)), fun i d e => E.own i d (key e (by simp)), fun i j d e a hij h1 h2 => E.sep i j d e a hij (key h1 (by simp)) (key h2 (by simp))⟩
theorem EnvOk.wipe (E : EnvOk K F H σ env) (vs : List Nat) : EnvOk K F H (wipe σ vs) (env.kill vs) := by
  have key : ∀ {i : Nat} {c : Cell}, (env.kill vs)[i]? = some c → c ≠ .unk → env[i]? = some c ∧ (L2.wipe σ vs)[i]? = σ[i]? := fun {i c} h n => by
    rw [kill_get] at h
    rw [wipe_get]
    split at h
    · cases q : env[i]? with
      | none => rw [q] at h; cases h
      | some z => rw [q] at h; cases h; exact absurd rfl n
    · rename_i hi
      exact ⟨h, by rw [if_neg hi]⟩
  refine ⟨by rw [kill_length, wipe_length]; exact E.len, fun i d e => ?_, fun i d e => ?_, fun i j d e a hij h1 h2 => ?_⟩
  · obtain ⟨e1, e2⟩ := key e (by simp)
    rw [e2]; exact E.val i d e1
  · obtain ⟨e1, e2⟩ := key e (by simp)
    rw [e2]; exact E.own i d e1
  · obtain ⟨e1, e2⟩ := key h1 (by simp)
    obtain ⟨e3, e4⟩ := key h2 (by simp)
    rw [e2, e4]; exact E.sep i j d e a hij e1 e3
theorem set_get {α : Type} {l : List α} {i j : Nat} {x y : α} (h : (l.set i x)[j]? = some y) : (j = i ∧ y = x ∧ i < l.length) ∨ (j ≠ i ∧ l[j]? = some y) := by
  by_cases e : i = j
  · subst e
    by_cases hl : i < l.length
    · rw [List.getElem?_set_self hl] at h
      exact .inl ⟨rfl, (Option.some.inj h).symm, hl⟩
    · rw [List.getElem?_eq_none (by simp; omega)] at h; cases h
  · rw [List.getElem?_set_ne e] at h
    exact .inr ⟨fun z => e z.symm, h⟩
/-- a name gets a frozen value -/
theorem EnvOk.set (E : EnvOk K F H σ env) {i : Nat} {d : D} {v : V} (r : Rep K F d v) : EnvOk K F H (σ.set i (some v)) (env.set i (.val d)) := by
  have ow : ∀ {j : Nat} {e : D}, (env.set i (.val d))[j]? = some (.own e) → j ≠ i ∧ env[j]? = some (.own e) := fun {j e} h => by
    rcases set_get h with ⟨_, h, _⟩ | h
    · cases h
    · exact h
  refine ⟨by rw [List.length_set, List.length_set]; exact E.len, fun j e h => ?_, fun j e h => ?_, fun j k e e' a hjk h1 h2 => ?_⟩
  · rcases set_get h with ⟨rfl, h, hl⟩ | ⟨hj, h⟩
    · cases h
      exact ⟨v, by rw [List.getElem?_set_self (by rw [← E.len]; exact hl)], r⟩
    · rw [List.getElem?_set_ne (Ne.symm hj)]; exact E.val j e h
  · obtain ⟨hj, h⟩ := ow h
    rw [List.getElem?_set_ne (Ne.symm hj)]; exact E.own j e h
  · obtain ⟨hj, h1⟩ := ow h1
    obtain ⟨hk, h2⟩ := ow h2
    rw [List.getElem?_set_ne (Ne.symm hj), List.getElem?_set_ne (Ne.symm hk)]
    exact E.sep j k e e' a hjk h1 h2
/-- a name gets an object of its own -/
theorem EnvOk.setO (E : EnvOk K F H σ env) {i : Nat} {d : D} {a : Addr} (hf : F a = none) (r : OwnAt K F H a d) (hn : ∀ (j : Nat) (e : D), j ≠ i → env[j]? = some (.own e) → σ[j]? ≠ some (some (.ref a))) :
    EnvOk K F H (σ.set i (some (.ref a))) (env.set i (.own d)) := by
  refine ⟨by rw [List.length_set, List.length_set]; exact E.len, fun j e h => ?_, fun j e h => ?_, fun j k e e' b hjk h1 h2 h3 => ?_⟩
  · rcases set_get h with ⟨_, h, hl⟩ | ⟨hj, h⟩
    · cases h
    · rw [List.getElem?_set_ne (Ne.symm hj)]; exact E.val j e h
  · rcases set_get h with ⟨rfl, h, hl⟩ | ⟨hj, h⟩
    · cases h
      exact ⟨a, by rw [List.getElem?_set_self (by rw [← E.len]; exact hl)], hf, r⟩
    · rw [List.getElem?_set_ne (Ne.symm hj)]; exact E.own j e h
  · rcases set_get h1 with ⟨rfl, _, hl⟩ | ⟨hj, g1⟩
    · rw [List.getElem?_set_self (by rw [← E.len]; exact hl)] at h3
      cases h3
      rcases set_get h2 with ⟨rfl, _, _⟩ | ⟨hk, h2⟩
      · exact absurd rfl hjk
      · rw [List.getElem?_set_ne (Ne.symm hk)]; exact hn k e' hk h2
    · rw [List.getElem?_set_ne (Ne.symm hj)] at h3
      rcases set_get h2 with ⟨rfl, _, hl⟩ | ⟨hk, h2⟩
      · rw [List.getElem?_set_self (by rw [← E.len]; exact hl)]
        intro z
        have z' : b = a := by injection z with z; injection z with z; injection z with z; exact z.symm
        subst z'
        exact hn j e hj g1 h3
      · rw [List.getElem?_set_ne (Ne.symm hk)]; exact E.sep j k e e' b hjk g1 h2 h3
end

/-! ### targets -/
mutual
def T.names : T → List Nat
  | .name i => [i]
  | .tup ts => T.namesL ts
def T.namesL : List T → List Nat
  | [] => []
  | t :: ts => T.names t ++ T.namesL ts
end
def tG (K : PySem.W.Frag) (t : T) : TG := fun v σ H Q => ∃ F env d env', Ok K F H σ env ∧ Rep K F d v ∧ bind t d env = some env' ∧
  ∀ σ', Ok K F H σ' env' → σ'.length = σ.length → (∀ j, j ∉ T.names t → σ'[j]? = σ[j]?) → Q σ' H
def tGs (K : PySem.W.Frag) (ts : List T) : TGs := fun vs σ H Q => ∃ F env ds env', Ok K F H σ env ∧ RepL K F ds vs ∧ bindL ts ds env = some env' ∧
  ∀ σ', Ok K F H σ' env' → σ'.length = σ.length → (∀ j, j ∉ T.namesL ts → σ'[j]? = σ[j]?) → Q σ' H
theorem _root_.L2.PG.imp {X : Cx} {tg : Expr} {t t' : TG} (h : PG X tg t) (m : ∀ v σ H Q, t' v σ H Q → t v σ H Q) : PG X tg t' := ⟨fun pins s σ H v u Q I r q => h.run pins s σ H v u Q I r (m v σ H Q q)⟩
theorem _root_.L2.PG.or {X : Cx} {tg : Expr} {t t' : TG} (h : PG X tg t) (h' : PG X tg t') : PG X tg (fun v σ H Q => t v σ H Q ∨ t' v σ H Q) := ⟨fun pins s σ H v u Q I r q => q.elim (h.run pins s σ H v u Q I r) (h'.run pins s σ H v u Q I r)⟩
theorem _root_.L2.PGs.imp {X : Cx} {tg : List Expr} {t t' : TGs} (h : PGs X tg t) (m : ∀ v σ H Q, t' v σ H Q → t v σ H Q) : PGs X tg t' := ⟨fun pins s σ H v u Q I r q => h.run pins s σ H v u Q I r (m v σ H Q q)⟩
section
variable {X : Cx} {K : PySem.W.Frag} {F H : Hp} {σ : St} {env : Env} {pos : Pos}
theorem g_name {i : Nat} {x : Str} (h : PG X (.Name x pos) (gName i)) : PG X (.Name x pos) (tG K (.name i)) := h.imp fun v σ H Q ⟨F, env, d, env', o, r, hb, k⟩ => by
  cases hb
  exact k _ ⟨o.le, o.en.set r⟩ (by simp) fun j hj => by
    rw [List.getElem?_set_ne]
    intro e; exact hj (by simp [T.names, e])
theorem g_nil : PGs X [] (tGs K []) := pgs_nil.imp fun vs σ H Q ⟨F, env, ds, env', o, r, hb, k⟩ => by
  cases ds with
  | cons => cases hb
  | nil => cases hb; exact ⟨r, k σ o rfl fun _ _ => rfl⟩
theorem g_cons {e : Expr} {es : List Expr} {t : T} {ts : List T} (h1 : PG X e (tG K t)) (h2 : PGs X es (tGs K ts)) (hs : (assignEach (e :: es) X.env).map (·.2) = assign e X.env :: (assignEach es X.env).map (·.2)) : PGs X (e :: es) (tGs K (t :: ts)) :=
  (pgs_cons h1 h2 hs).imp fun vs σ H Q ⟨F, env, ds, env', o, r, hb, k⟩ => by
    cases ds with
    | nil => cases hb
    | cons d ds =>
      obtain ⟨v, r', rfl, r1, r2⟩ := r
      obtain ⟨e1, h1, hb⟩ := Option.bind_eq_some_iff.mp (show (bind t d env).bind _ = some env' from hb)
      refine ⟨v, r', rfl, F, env, d, e1, o, r1, h1, fun σ1 o1 l1 s1 => ⟨F, e1, ds, env', o1, r2, hb, fun σ2 o2 l2 s2 => k σ2 o2 (l2.trans l1) fun j hj => ?_⟩⟩
      simp only [T.namesL, List.mem_append, not_or] at hj
      exact (s2 j hj.2).trans (s1 j hj.1)
theorem g_tup {es : List Expr} {kk n : Nat} {ts : List T} (hc : X.calm = true) (h : PGs X es (tGs X.K ts)) (hn : (assignEach es X.env).length = n) (hl : ts.length = n) (hst : (assignEach es X.env).findIdx? (·.1) = none) : PG X (.Tuple es kk pos) (tG X.K (.tup ts)) :=
  ((pg_tup hc h hn hst).or (pg_unl hc h hn hst)).imp fun v σ H Q ⟨F, env, d, env', o, r, hb, k⟩ => by
    have ln : ∀ {ts : List T} {ds : List D} {e e' : Env}, bindL ts ds e = some e' → ts.length = ds.length := by
      intro ts
      induction ts with
      | nil => intro ds e e' h; cases ds with | nil => rfl | cons => cases h
      | cons t ts ih =>
        intro ds e e' h
        cases ds with
        | nil => cases h
        | cons d ds =>
          obtain ⟨_, _, h⟩ := Option.bind_eq_some_iff.mp (show (bind t d e).bind _ = some e' from h)
          simp [ih h]
    cases d <;> (try simp only [bind] at hb) <;> try cases hb
    · obtain ⟨a, vs, rfl, ea, ra, la⟩ := r
      refine .inl ⟨a, vs, rfl, .of (o.le.tup ea), by rw [ra.length, ← ln hb, hl], F, env, _, env', o, ra, hb, fun σ' o' l' s' => k σ' o' l' s'⟩
    · obtain ⟨a, vs, rfl, ea, ra, la⟩ := r
      refine .inr ⟨a, vs, rfl, .of (o.le.lst ea), by rw [ra.length, ← ln hb, hl], F, env, _, env', o, ra, hb, fun σ' o' l' s' => k σ' o' l' s'⟩
end

/-! ### what is just made -/
/-- as tD, the list or dict at a new place, not frozen yet -/
def tN (K : PySem.W.Frag) (G : Gm) (e : E) : TE := fun σ H Q => ∃ F env d, Ok K F H σ env ∧ ev G env e = some d ∧ ∀ F' H' a, Ext F H F' H' → FLe F' H' → H a = none → F' a = none → OwnAt K F' H' a d → Q (.ref a) H'
theorem _root_.L2.PE.frz {X : Cx} {K : PySem.W.Frag} {G : Gm} {e : E} {me : Expr} (h : PE X me (tN K G e)) : PE X me (tD K G e) := h.imp fun σ H Q ⟨F, env, d, o, hd, k⟩ => ⟨F, env, d, o, hd, fun F' H' a x l n f w => by
  obtain ⟨ob, h1, r⟩ := w.rep f
  exact k _ _ _ (x.freeze n f) (l.freeze h1) r⟩

/-! ### the tests of a comprehension -/
def tTL (K : PySem.W.Frag) (G : Gm) (fs : List C) : TT := fun σ H Q => ∃ F env c, Ok K F H σ env ∧ tsL G env fs = some c ∧ ∀ F' H', Ext F H F' H' → FLe F' H' → Q c H'
theorem _root_.L2.PTs.imp {X : Cx} {e : List Expr} {t t' : TT} (h : PTs X e t) (m : ∀ σ H Q, t' σ H Q → t σ H Q) : PTs X e t' := ⟨fun pins s σ H Q I q => h.run pins s σ H Q I (m σ H Q q)⟩
theorem f_nil {X : Cx} {K : PySem.W.Frag} {G : Gm} : PTs X [] (tTL K G []) := pts_nil.imp fun σ H Q ⟨F, env, c, o, hc, k⟩ => by
  cases hc; exact k _ _ (.refl F H) o.le
theorem f_one {X : Cx} {K : PySem.W.Frag} {G : Gm} {p : C} {mp : Expr} (h : PT X mp (tT K G p)) : PTs X [mp] (tTL K G [p]) := (pts_one h).imp fun σ H Q ⟨F, env, c, o, hc, k⟩ => by
  obtain ⟨c', h1, h2⟩ := Option.bind_eq_some_iff.mp (show (ts G env p).bind _ = some c from hc)
  have : c' = c := by cases c' <;> cases h2 <;> rfl
  subst this
  exact ⟨F, env, _, o, h1, fun F' H' x l => k F' H' x l⟩

/-! ### [e for t in .. if ..] -/
theorem compL_some {f : D → Option (Option D)} : ∀ {xs ys : List D}, compL f xs = some ys → ∃ rs : List (Option D), rs.length = xs.length ∧ (∀ (i : Nat) (x : D), xs[i]? = some x → ∃ r, rs[i]? = some r ∧ f x = some r) ∧ ys = rs.filterMap id
  | [], ys, h => by cases h; exact ⟨[], rfl, fun i x h => by simp at h, rfl⟩
  | x :: xs, ys, h => by
    obtain ⟨r, hr, h⟩ := Option.bind_eq_some_iff.mp (show (f x).bind _ = some ys from h)
    obtain ⟨zs, hz, e⟩ := Option.map_eq_some_iff.mp h
    obtain ⟨rs, hl, ha, rfl⟩ := compL_some hz
    refine ⟨r :: rs, by simp [hl], fun i y hy => ?_, ?_⟩
    · cases i with
      | zero => simp at hy; subst hy; exact ⟨r, rfl, hr⟩
      | succ i => simpa using ha i y (by simpa using hy)
    · subst e
      cases r <;> rfl
theorem take_fm {rs : List (Option D)} {i : Nat} {r : Option D} (h : rs[i]? = some r) : (rs.take (i + 1)).filterMap id = (rs.take i).filterMap id ++ r.toList := by
  rw [List.take_add_one, h, List.filterMap_append]
  cases r <;> rfl
theorem fm_take_le (rs : List (Option D)) (i : Nat) : ((rs.take i).filterMap id).length ≤ (rs.filterMap id).length := by
  conv => rhs; rw [← List.take_append_drop i rs, List.filterMap_append, List.length_append]
  omega
/-- the state ahead of a turn: the new list at D holds rs -/
structure Acc (K : PySem.W.Frag) (F0 H0 : Hp) (σ : St) (env : Env) (τ : St) (ρ : Env) (A : Addr) (rs : List D) (F H : Hp) : Prop where
  ext : Ext F0 H0 F H
  ok : Ok K F H σ env
  ok2 : Ok K F H τ ρ
  df : F A = none
  it : ∃ acc, H A = some (.lst acc) ∧ RepL K F rs acc
section
variable {K : PySem.W.Frag} {F0 H0 F H F' H' : Hp} {σ τ : St} {env ρ : Env} {A : Addr} {rs : List D}
/-- A is no name's own -/
def NoOwn (σ : St) (env : Env) (A : Addr) : Prop := ∀ (i : Nat) (d : D), env[i]? = some (.own d) → σ[i]? ≠ some (some (.ref A))
theorem Acc.ext' (a : Acc K F0 H0 σ env τ ρ A rs F H) (x : Ext F H F' H') (l : FLe F' H') : Acc K F0 H0 σ env τ ρ A rs F' H' := by
  obtain ⟨acc, h1, r⟩ := a.it
  exact ⟨a.ext.trans x, a.ok.ext x l, a.ok2.ext x l, (x.n A _ h1 rfl).trans a.df, acc, x.h A _ h1, r.mono x.f⟩
theorem Ok.write (o : Ok K F H σ env) (hn : NoOwn σ env A) (hf : F A = none) {u : HO} : Ok K F (upd H A u) σ env :=
  ⟨fun b w e => by rw [upd_ne (ne_of_none e hf)]; exact o.le b w e, o.en.len, o.en.val, fun i e h => by
    obtain ⟨b, e1, e2, w⟩ := o.en.own i e h
    have : b ≠ A := fun z => hn i e h (by rw [← z]; exact e1)
    exact ⟨b, e1, e2, w.mono (.refl F) fun u q => by rw [upd_ne this]; exact q⟩, o.en.sep⟩
/-- the list gets one more -/
theorem Acc.push (a : Acc K F0 H0 σ env τ ρ A rs F H) (hD : H0 A = none) (hno : NoOwn σ env A) (hn2 : NoOwn τ ρ A) {acc : List V} {d : D} {v : V} (h1 : H A = some (.lst acc)) (r : RepL K F rs acc) (rd : Rep K F d v) :
    Acc K F0 H0 σ env τ ρ A (rs ++ [d]) F (upd H A (.lst (acc ++ [v]))) := by
  refine ⟨⟨a.ext.f, fun b u e => ?_, a.ext.n⟩, a.ok.write hno a.df, a.ok2.write hn2 a.df, a.df, _, upd_same, r.append (.one rd)⟩
  rw [upd_ne (ne_of_none e hD)]; exact a.ext.h b u e
end
theorem own_ne {K : PySem.W.Frag} {F H : Hp} {σ : St} {env : Env} {A : Addr} (o : Ok K F H σ env) (n : H A = none) : NoOwn σ env A := fun i d h e => by
  obtain ⟨a, e1, _, w⟩ := o.en.own i d h
  rw [e] at e1; cases e1
  obtain ⟨u, hu, _⟩ := w.there
  rw [n] at hu; cases hu
/-- a target of the comprehension's own names -/
theorem own_tgt {σ σ2 : St} {t : T} {own : List Nat} (hn : ∀ j ∈ T.names t, j ∈ own) (hl : σ2.length = (wipe σ own).length) (hs : ∀ j, j ∉ T.names t → σ2[j]? = (wipe σ own)[j]?) : wipe σ2 own = wipe σ own :=
  wipe_congr (by rw [hl, wipe_length]) fun j hj => by
    rw [hs j fun z => hj (hn j z), wipe_get, if_neg hj]
/-- one clause's turns -/
theorem lc_turns {K : PySem.W.Frag} {G : Gm} {F0 H0 F1 : Hp} {σ τ : St} {env ρ : Env} {A : Addr} {Qd : Hp → Prop} {J : It} {xs : List D} {rs : List (Option D)} {e : E} {t : T} {fs : List C} {own : List Nat} {base : List D}
    (W : WalkD K (SM false K σ env F1) xs J) (hD : H0 A = none) (hno : NoOwn σ env A) (hn2 : NoOwn τ ρ A)
    (hnm : ∀ j ∈ T.names t, j ∈ own) (hl : rs.length = xs.length) (hr : ∀ (i : Nat) (x : D), xs[i]? = some x → ∃ r, rs[i]? = some r ∧ ((bind t x (env.kill own)).bind fun env' => (tsL G env' fs).bind fun c => if c then (ev G env' e).map some else some none) = some r)
    (hsz : base.length + (rs.filterMap id).length ≤ line) {H2 : Hp} (start : Acc K F0 H0 σ env τ ρ A base F1 H2) (fin : ∀ F H, Acc K F0 H0 σ env τ ρ A (base ++ rs.filterMap id) F H → FMono F1 F → Qd H) :
    ∃ W : Nat → Nat → Hp → Prop, (∃ m, W 0 m H2) ∧ ∀ i m H, W i m H →
      (J.stop i H ∧ Qd H) ∨ (J.go i H ∧ ∃ Nx : Hp → Prop, (∀ H', Nx H' → ∃ m', m' < m ∧ W (i + 1) m' H') ∧ ∀ x H', J.yld i H x H' → tG K t x (wipe σ own) H' fun σ2 H2 => wipe σ2 own = wipe σ own ∧ tTL K G fs σ2 H2 fun b H3 =>
        if b = true then tD K G e σ2 H3 fun y H4 => ∃ acc, H4 A = some (.lst acc) ∧ acc.length < sizeLine ∧ Nx (upd H4 A (.lst (acc ++ [y]))) else Nx H3) := by
  refine ⟨fun i m H => m = xs.length - i ∧ i ≤ xs.length ∧ ∃ F, FMono F1 F ∧ Acc K F0 H0 σ env τ ρ A (base ++ (rs.take i).filterMap id) F H, ⟨xs.length, by simp, Nat.zero_le _, F1, .refl _, by simpa using start⟩, ?_⟩
  rintro i m H ⟨rfl, hi, F, hm, a⟩
  have hS : SM false K σ env F1 F H := ⟨hm, a.ok.le, fun _ => a.ok⟩
  by_cases hlt : i < xs.length
  · refine .inr ⟨W.go i F H hS hlt, fun H => ∃ F, FMono F1 F ∧ Acc K F0 H0 σ env τ ρ A (base ++ (rs.take (i + 1)).filterMap id) F H, fun H' n => ⟨xs.length - (i + 1), by omega, rfl, hlt, n⟩, fun x H' y => ?_⟩
    obtain ⟨F3, d, x3, l3, hd, rd⟩ := W.yld i F H x H' hS hlt y
    obtain ⟨r, hri, hf⟩ := hr i d hd
    obtain ⟨env2, hb, hf⟩ := Option.bind_eq_some_iff.mp hf
    obtain ⟨c, hc, hf⟩ := Option.bind_eq_some_iff.mp hf
    have a3 := a.ext' x3 l3
    refine ⟨F3, _, d, env2, ⟨l3, a3.ok.en.wipe own⟩, rd, hb, fun σ2 o2 ln2 sm2 => ⟨own_tgt hnm ln2 sm2, F3, env2, c, o2, hc, fun F4 H4 x4 l4 => ?_⟩⟩
    have a4 := a3.ext' x4 l4
    cases c with
    | false =>
      cases hf
      refine iteF ?_
      exact ⟨F4, (hm.trans x3.f).trans x4.f, by rw [take_fm hri]; simpa using a4⟩
    | true =>
      obtain ⟨z, hz, rfl⟩ := Option.map_eq_some_iff.mp (show (ev G env2 e).map some = some r from hf)
      refine iteT ?_
      refine ⟨F4, env2, z, o2.ext x4 l4, hz, fun F5 H5 v x5 l5 r5 => ?_⟩
      have a5 := a4.ext' x5 l5
      obtain ⟨acc, h1, racc⟩ := a5.it
      refine ⟨acc, h1, ?_, F5, ((hm.trans x3.f).trans x4.f).trans x5.f, ?_⟩
      · have e1 := racc.length
        have e2 := fm_take_le rs (i + 1)
        rw [take_fm hri] at e2
        simp only [List.length_append, Option.toList_some, List.length_cons, List.length_nil] at e1 e2
        rw [line_eq]; omega
      · rw [take_fm hri, ← List.append_assoc]
        exact a5.push hD hno hn2 h1 racc r5
  · have e : i = xs.length := by omega
    subst e
    refine .inl ⟨W.stop F H hS, fin F H ?_ hm⟩
    rw [List.take_of_length_le (by omega)] at a
    exact a
section
variable {X : Cx} {G : Gm} {k : IK} {es : List E} {e : E} {t : T} {fs : List C} {elt tg iter : Expr} {ifs : List Expr} {scope : Scope} {own : List (Str × Nat)} {pos : Pos}
theorem lc_reads (hnm : ∀ j ∈ T.names t, j ∈ own.map (·.2)) {σ : St} {H : Hp} {Q : VK} (h : tN X.K G (.comp e t k es fs (own.map (·.2))) σ H Q) : tLc (tI false X.K G k es) (tG X.K t) (tTL X.K G fs) (tD X.K G e) (own.map (·.2)) σ H Q := by
  obtain ⟨F, env, d, o, hd, q⟩ := h
  obtain ⟨vs, hv, hd⟩ := Option.bind_eq_some_iff.mp (show (evB G env es).bind _ = some d from hd)
  obtain ⟨xs, hx, hd⟩ := Option.bind_eq_some_iff.mp hd
  obtain ⟨ys, hy, hd⟩ := Option.bind_eq_some_iff.mp hd
  obtain ⟨rs, hl, hr, rfl⟩ := compL_some hy
  have hz : (rs.filterMap id).length ≤ line := Decidable.byContradiction fun n => by unfold fits at hd; rw [if_neg n] at hd; cases hd
  unfold fits at hd
  rw [if_pos hz] at hd
  cases hd
  refine ⟨F, env, vs, xs, o, hv, hx, fun F1 H1 J x1 l1 W A nA => ?_⟩
  have o1 := o.ext x1 l1
  have nA0 : H A = none := by
    cases e : H A with
    | none => rfl
    | some u => rw [x1.h A u e] at nA; cases nA
  have nf := l1.free nA
  have st : Acc X.K F H σ env σ env A [] F1 (upd H1 A (.lst [])) := ⟨x1.trans (.made nA), o1.ext (.made nA) (l1.made nA), o1.ext (.made nA) (l1.made nA), nf, [], upd_same, rfl⟩
  refine lc_turns W nA0 (own_ne o1 nA) (own_ne o1 nA) hnm hl hr (by simpa using hz) st fun F2 H2 a _ => ?_
  obtain ⟨acc, h1, racc⟩ := a.it
  exact q F2 H2 A a.ext a.ok.le nA0 a.df ⟨acc, h1, racc, hz⟩
end
/-! ### [e for t in .. if .. for t2 in .. if ..] -/
mutual
theorem bind_own : ∀ (t : T) (d : D) {env env' : Env} {i : Nat} {e : D}, bind t d env = some env' → env'[i]? = some (.own e) → env[i]? = some (.own e) ∧ i ∉ T.names t
  | .name j, d, env, env', i, e, h, q => by
    cases h
    rcases set_get q with ⟨_, q, _⟩ | ⟨hj, q⟩
    · cases q
    · exact ⟨q, by simp [T.names, hj]⟩
  | .tup ts, d, env, env', i, e, h, q => by
    cases d <;> (try simp only [bind] at h) <;> try cases h
    · exact bindL_own ts _ h q
    · exact bindL_own ts _ h q
theorem bindL_own : ∀ (ts : List T) (ds : List D) {env env' : Env} {i : Nat} {e : D}, bindL ts ds env = some env' → env'[i]? = some (.own e) → env[i]? = some (.own e) ∧ i ∉ T.namesL ts
  | [], [], env, env', i, e, h, q => by cases h; exact ⟨q, by simp [T.namesL]⟩
  | [], _ :: _, env, env', i, e, h, q => by cases h
  | _ :: _, [], env, env', i, e, h, q => by cases h
  | t :: ts, d :: ds, env, env', i, e, h, q => by
    obtain ⟨e1, h1, h2⟩ := Option.bind_eq_some_iff.mp (show (bind t d env).bind _ = some env' from h)
    obtain ⟨q1, n1⟩ := bindL_own ts ds h2 q
    obtain ⟨q2, n2⟩ := bind_own t d h1 q1
    exact ⟨q2, by simp [T.namesL, n1, n2]⟩
end
theorem kill_own {env : Env} {vs : List Nat} {i : Nat} {e : D} (h : (env.kill vs)[i]? = some (.own e)) : env[i]? = some (.own e) ∧ i ∉ vs := by
  rw [kill_get] at h
  split at h
  · cases q : env[i]? with
    | none => rw [q] at h; cases h
    | some z => rw [q] at h; cases h
  · exact ⟨h, ‹_›⟩
theorem NoOwn.bound {σ σ2 : St} {env env2 : Env} {A : Addr} {t : T} {d : D} {own : List Nat} (h : NoOwn σ env A) (hb : bind t d (env.kill own) = some env2) (hs : ∀ j, j ∉ T.names t → σ2[j]? = (wipe σ own)[j]?) : NoOwn σ2 env2 A := fun i e q => by
  obtain ⟨q1, n1⟩ := bind_own t d hb q
  obtain ⟨q2, n2⟩ := kill_own q1
  rw [hs i n1, wipe_get, if_neg n2]
  exact h i e q2
theorem compLL_some {f : D → Option (List D)} : ∀ {xs ys : List D}, compLL f xs = some ys → ∃ rs : List (List D), rs.length = xs.length ∧ (∀ (i : Nat) (x : D), xs[i]? = some x → ∃ r, rs[i]? = some r ∧ f x = some r) ∧ ys = rs.flatten
  | [], ys, h => by cases h; exact ⟨[], rfl, fun i x h => by simp at h, rfl⟩
  | x :: xs, ys, h => by
    obtain ⟨r, hr, h⟩ := Option.bind_eq_some_iff.mp (show (f x).bind _ = some ys from h)
    obtain ⟨zs, hz, e⟩ := Option.map_eq_some_iff.mp h
    obtain ⟨rs, hl, ha, rfl⟩ := compLL_some hz
    refine ⟨r :: rs, by simp [hl], fun i y hy => ?_, by simp [← e]⟩
    cases i with
    | zero => simp at hy; subst hy; exact ⟨r, rfl, hr⟩
    | succ i => simpa using ha i y (by simpa using hy)
theorem take_fl {rs : List (List D)} {i : Nat} {r : List D} (h : rs[i]? = some r) : (rs.take (i + 1)).flatten = (rs.take i).flatten ++ r := by
  rw [List.take_add_one, h]
  simp
theorem fl_take_le (rs : List (List D)) (i : Nat) : (rs.take i).flatten.length ≤ rs.flatten.length := by
  conv => rhs; rw [← List.take_append_drop i rs, List.flatten_append, List.length_append]
  omega
section
variable {X : Cx} {G : Gm} {k k2 : IK} {es es2 : List E} {e : E} {t t2 : T} {fs fs2 : List C} {own : List (Str × Nat)} {vs1 : List Nat}
theorem lc2_reads (hnm : ∀ j ∈ T.names t, j ∈ own.map (·.2)) (hnm2 : ∀ j ∈ T.names t2, j ∈ vs1) {σ : St} {H : Hp} {Q : VK} (h : tN X.K G (.comp2 e t k es fs t2 k2 es2 fs2 (own.map (·.2)) vs1) σ H Q) :
    tLc2 (tI false X.K G k es) (tG X.K t) (tTL X.K G fs) (tI false X.K G k2 es2) (tG X.K t2) (tTL X.K G fs2) (tD X.K G e) (own.map (·.2)) vs1 σ H Q := by
  obtain ⟨F, env, d, o, hd, q⟩ := h
  obtain ⟨vs, hv, hd⟩ := Option.bind_eq_some_iff.mp (show (evB G env es).bind _ = some d from hd)
  obtain ⟨xs, hx, hd⟩ := Option.bind_eq_some_iff.mp hd
  obtain ⟨ys, hy, hd⟩ := Option.bind_eq_some_iff.mp hd
  obtain ⟨rs, hl, hr, rfl⟩ := compLL_some hy
  have hz : rs.flatten.length ≤ line := Decidable.byContradiction fun n => by unfold fits at hd; rw [if_neg n] at hd; cases hd
  unfold fits at hd
  rw [if_pos hz] at hd
  cases hd
  refine ⟨F, env, vs, xs, o, hv, hx, fun F1 H1 J x1 l1 W A nA => ?_⟩
  have o1 := o.ext x1 l1
  have nA0 : H A = none := by
    cases e : H A with
    | none => rfl
    | some u => rw [x1.h A u e] at nA; cases nA
  have nf := l1.free nA
  have no := own_ne o1 nA
  have st : Acc X.K F H σ env σ env A [] F1 (upd H1 A (.lst [])) := ⟨x1.trans (.made nA), o1.ext (.made nA) (l1.made nA), o1.ext (.made nA) (l1.made nA), nf, [], upd_same, rfl⟩
  refine ⟨fun i m H' => m = xs.length - i ∧ i ≤ xs.length ∧ ∃ F', FMono F1 F' ∧ Acc X.K F H σ env σ env A (rs.take i).flatten F' H', ⟨xs.length, by simp, Nat.zero_le _, F1, .refl _, by simpa using st⟩, ?_⟩
  rintro i m H2 ⟨rfl, hi, F2, hm, a⟩
  have hS : SM false X.K σ env F1 F2 H2 := ⟨hm, a.ok.le, fun _ => a.ok⟩
  by_cases hlt : i < xs.length
  · refine .inr ⟨W.go i F2 H2 hS hlt, fun H' => ∃ F', FMono F1 F' ∧ Acc X.K F H σ env σ env A (rs.take (i + 1)).flatten F' H', fun H' n => ⟨xs.length - (i + 1), by omega, rfl, hlt, n⟩, fun x H' y => ?_⟩
    obtain ⟨F3, d, x3, l3, hd, rd⟩ := W.yld i F2 H2 x H' hS hlt y
    obtain ⟨r, hri, hf⟩ := hr i d hd
    obtain ⟨env2, hb, hf⟩ := Option.bind_eq_some_iff.mp hf
    obtain ⟨c, hc, hf⟩ := Option.bind_eq_some_iff.mp hf
    have a3 := a.ext' x3 l3
    refine ⟨F3, _, d, env2, ⟨l3, a3.ok.en.wipe _⟩, rd, hb, fun σ2 o2 ln2 sm2 => ⟨own_tgt hnm ln2 sm2, F3, env2, c, o2, hc, fun F4 H4 x4 l4 => ?_⟩⟩
    have a4 := a3.ext' x4 l4
    have hm4 := (hm.trans x3.f).trans x4.f
    cases c with
    | false =>
      cases hf
      refine iteF ?_
      exact ⟨F4, hm4, by rw [take_fl hri]; simpa using a4⟩
    | true =>
      refine iteT ?_
      obtain ⟨ws, hws, hf⟩ := Option.bind_eq_some_iff.mp (show (evB G env2 es2).bind _ = some r from hf)
      obtain ⟨zs, hzs, hf⟩ := Option.bind_eq_some_iff.mp hf
      obtain ⟨qs, hql, hqr, rfl⟩ := compL_some hf
      have o4 := o2.ext x4 l4
      refine ⟨F4, env2, ws, zs, o4, hws, hzs, fun F5 H5 J1 x5 l5 W1 => ?_⟩
      have a5 := a4.ext' x5 l5
      have sz : (rs.take i).flatten.length + (qs.filterMap id).length ≤ line := by
        have := fl_take_le rs (i + 1)
        rw [take_fl hri, List.length_append] at this
        omega
      obtain ⟨acc5, h5, r5⟩ := a5.it
      refine lc_turns W1 nA0 (no.bound hb sm2) no hnm2 hql hqr sz ⟨a5.ext, o4.ext x5 l5, a5.ok2, a5.df, acc5, h5, r5⟩ fun F6 H6 a6 m6 => ?_
      exact ⟨F6, (hm4.trans x5.f).trans m6, by rw [take_fl hri]; exact ⟨a6.ext, a6.ok2, a6.ok2, a6.df, a6.it⟩⟩
  · have e : i = xs.length := by omega
    subst e
    rw [List.take_of_length_le (by omega)] at a
    obtain ⟨acc, h1, racc⟩ := a.it
    exact .inl ⟨W.stop F2 H2 hS, q F2 H2 A a.ext a.ok.le nA0 a.df ⟨acc, h1, racc, hz⟩⟩
end
end Rx
end

section
set_option Elab.async false
set_option linter.all false
set_option maxRecDepth 100000
set_option maxHeartbeats 1000000
set_option autoImplicit false
/-! RxStmt: statements. -/
namespace Rx
open PySem PySem.Spec PyProof.Rows L2

theorem r_comp {X : Cx} {G : Gm} {k : IK} {es : List E} {e : E} {t : T} {fs : List C} {elt tg iter : Expr} {ifs : List Expr} {scope : Scope} {own : List (Str × Nat)} {pos : Pos}
    (hnm : ∀ j ∈ T.names t, j ∈ own.map (·.2)) (hc : X.calm = true) (hN : X.N.Nodup) (hi : PI X tg iter (tI false X.K G k es)) (ok : BlkOk X.N X.env.scope scope own)
    (hg : ∀ (s : Shared) (H : Hp) (C : Addr) (cl : List (Str × Addr)) (fp : List Addr), PG (X.blk s H scope (compEnvC scope cl C X.env) fp) tg (tG X.K t)) (ht : ∀ (s : Shared) (H : Hp) (C : Addr) (cl : List (Str × Addr)) (fp : List Addr), PTs (X.blk s H scope (compEnvC scope cl C X.env) fp) ifs (tTL X.K G fs))
    (he : ∀ (s : Shared) (H : Hp) (C : Addr) (cl : List (Str × Addr)) (fp : List Addr), PE (X.blk s H scope (compEnvC scope cl C X.env) fp) elt (tD X.K G e)) (hs : ∀ x, foldedSetIterable iter X.env x = pure x) :
    PE X (.ListComp elt [⟨tg, iter, ifs, 0⟩] scope pos) (tN X.K G (.comp e t k es fs (own.map (·.2)))) := (pe_lc hc hN hi ok hg ht he hs).imp fun _ _ _ h => lc_reads hnm h
theorem r_comp2 {X : Cx} {G : Gm} {k k2 : IK} {es es2 : List E} {e : E} {t t2 : T} {fs fs2 : List C} {elt tg iter tg1 iter1 : Expr} {ifs ifs1 : List Expr} {scope : Scope} {own : List (Str × Nat)} {vs1 : List Nat} {pos : Pos}
    (hnm : ∀ j ∈ T.names t, j ∈ own.map (·.2)) (hnm2 : ∀ j ∈ T.names t2, j ∈ vs1) (hc : X.calm = true) (hN : X.N.Nodup) (hi : PI X tg iter (tI false X.K G k es)) (ok : BlkOk X.N X.env.scope scope own) (hv : ∀ i ∈ vs1, i ∈ own.map (·.2))
    (hg : ∀ (s : Shared) (H : Hp) (C : Addr) (cl : List (Str × Addr)) (fp : List Addr), PG (X.blk s H scope (compEnvC scope cl C X.env) fp) tg (tG X.K t)) (ht : ∀ (s : Shared) (H : Hp) (C : Addr) (cl : List (Str × Addr)) (fp : List Addr), PTs (X.blk s H scope (compEnvC scope cl C X.env) fp) ifs (tTL X.K G fs))
    (hi1 : ∀ (s : Shared) (H : Hp) (C : Addr) (cl : List (Str × Addr)) (fp : List Addr), PI (X.blk s H scope (compEnvC scope cl C X.env) fp) tg1 iter1 (tI false X.K G k2 es2))
    (hg1 : ∀ (s : Shared) (H : Hp) (C : Addr) (cl : List (Str × Addr)) (fp : List Addr), PG (X.blk s H scope (compEnvC scope cl C X.env) fp) tg1 (tG X.K t2)) (ht1 : ∀ (s : Shared) (H : Hp) (C : Addr) (cl : List (Str × Addr)) (fp : List Addr), PTs (X.blk s H scope (compEnvC scope cl C X.env) fp) ifs1 (tTL X.K G fs2))
    (he : ∀ (s : Shared) (H : Hp) (C : Addr) (cl : List (Str × Addr)) (fp : List Addr), PE (X.blk s H scope (compEnvC scope cl C X.env) fp) elt (tD X.K G e)) (hs : ∀ x, foldedSetIterable iter X.env x = pure x) (hs1 : ∀ env x, foldedSetIterable iter1 env x = pure x) :
    PE X (.ListComp elt [⟨tg, iter, ifs, 0⟩, ⟨tg1, iter1, ifs1, 0⟩] scope pos) (tN X.K G (.comp2 e t k es fs t2 k2 es2 fs2 (own.map (·.2)) vs1)) := (pe_lc2 hc hN hi ok hv hg ht hi1 hg1 ht1 he hs hs1).imp fun _ _ _ h => lc2_reads hnm hnm2 h

/-! ### where a statement leads -/
/-- an address that some name owns -/
def Own (σ : St) (env : Env) (a : Addr) : Prop := ∃ (i : Nat) (d : D), env[i]? = some (.own d) ∧ σ[i]? = some (some (.ref a))
structure Reach (F H : Hp) (σ : St) (env : Env) (F' H' : Hp) : Prop where
  f : FMono F F'
  h : ∀ a u, H a = some u → ¬ Own σ env a → H' a = some u
  n : ∀ a u, H a = some u → isTupO u = false → ¬ Own σ env a → F' a = F a
  le : FLe F' H'
structure Step (mk : Prop) (K : PySem.W.Frag) (F H : Hp) (σ : St) (env : Env) (F' H' : Hp) (σ' : St) (env' : Env) : Prop where
  re : Reach F H σ env F' H'
  ok : Ok K F' H' σ' env'
  ow : ∀ a, Own σ' env' a → Own σ env a ∨ (H a = none ∧ mk)
section
variable {mk mk2 : Prop} {K : PySem.W.Frag} {F H F1 H1 F2 H2 : Hp} {σ σ1 σ2 : St} {env env1 env2 : Env}
theorem Reach.refl (l : FLe F H) : Reach F H σ env F H := ⟨.refl F, fun _ _ e _ => e, fun _ _ _ _ _ => rfl, l⟩
theorem Step.refl (o : Ok K F H σ env) : Step mk K F H σ env F H σ env := ⟨.refl o.le, o, fun _ h => .inl h⟩
theorem Step.reach (a : Step mk K F H σ env F1 H1 σ1 env1) (b : Reach F1 H1 σ1 env1 F2 H2) : Reach F H σ env F2 H2 := by
  have key : ∀ c u, H c = some u → ¬ Own σ env c → ¬ Own σ1 env1 c := fun c u e n z => by
    rcases a.ow c z with q | ⟨q, _⟩
    · exact n q
    · rw [e] at q; cases q
  exact ⟨a.re.f.trans b.f, fun c u e n => b.h c u (a.re.h c u e n) (key c u e n), fun c u e z n => (b.n c u (a.re.h c u e n) z (key c u e n)).trans (a.re.n c u e z n), b.le⟩
theorem Step.trans (a : Step mk K F H σ env F1 H1 σ1 env1) (b : Step mk K F1 H1 σ1 env1 F2 H2 σ2 env2) : Step mk K F H σ env F2 H2 σ2 env2 := by
  refine ⟨a.reach b.re, b.ok, fun c z => ?_⟩
  rcases b.ow c z with q | ⟨q, m⟩
  · exact a.ow c q
  · by_cases n : Own σ env c
    · exact .inl n
    · right
      refine ⟨?_, m⟩
      cases e : H c with
      | none => rfl
      | some u => rw [a.re.h c u e n] at q; cases q
theorem Step.mono (h : mk → mk2) (a : Step mk K F H σ env F1 H1 σ1 env1) : Step mk2 K F H σ env F1 H1 σ1 env1 := ⟨a.re, a.ok, fun b z => (a.ow b z).imp id fun q => ⟨q.1, h q.2⟩⟩
theorem Reach.of_ext (x : Ext F H F1 H1) (l : FLe F1 H1) : Reach F H σ env F1 H1 := ⟨x.f, fun a u e _ => x.h a u e, fun a u e z _ => x.n a u e z, l⟩
theorem own_set {i : Nat} {d : D} {v : Option V} {a : Addr} (h : Own (σ.set i v) (env.set i (.val d)) a) : Own σ env a := by
  obtain ⟨j, e, h1, h2⟩ := h
  rcases set_get h1 with ⟨_, h, _⟩ | ⟨hj, h1⟩
  · cases h
  · rw [List.getElem?_set_ne (Ne.symm hj)] at h2
    exact ⟨j, e, h1, h2⟩
/-- a name gets a frozen value -/
theorem Step.set (o : Ok K F H σ env) (x : Ext F H F1 H1) (l : FLe F1 H1) {i : Nat} {d : D} {v : V} (r : Rep K F1 d v) : Step mk K F H σ env F1 H1 (σ.set i (some v)) (env.set i (.val d)) :=
  ⟨.of_ext x l, ⟨l, (o.en.ext x).set r⟩, fun a h => .inl (own_set h)⟩
theorem own_setO {i : Nat} {d : D} {b a : Addr} (h : Own (σ.set i (some (.ref b))) (env.set i (.own d)) a) : Own σ env a ∨ a = b := by
  obtain ⟨j, e, h1, h2⟩ := h
  rcases set_get h1 with ⟨rfl, h, hl⟩ | ⟨hj, h1⟩
  · right
    rcases set_get h2 with ⟨_, h, _⟩ | ⟨h, _⟩
    · injection h with h; injection h
    · exact absurd rfl h
  · rw [List.getElem?_set_ne (Ne.symm hj)] at h2
    exact .inl ⟨j, e, h1, h2⟩
/-- a name gets a new object of its own -/
theorem Step.setO (hm : mk) (o : Ok K F H σ env) (x : Ext F H F1 H1) (l : FLe F1 H1) {i : Nat} {d : D} {a : Addr} (n : H a = none) (f : F1 a = none) (w : OwnAt K F1 H1 a d) : Step mk K F H σ env F1 H1 (σ.set i (some (.ref a))) (env.set i (.own d)) :=
  ⟨.of_ext x l, ⟨l, (o.en.ext x).setO f w fun j e _ h => own_ne o n j e h⟩, fun b h => by
    rcases own_setO h with h | rfl
    · exact .inl h
    · exact .inr ⟨n, hm⟩⟩
/-- what a name owns is changed -/
theorem Step.upd (o : Ok K F H σ env) {i : Nat} {d d' : D} {a : Addr} (hi : env[i]? = some (.own d)) (ha : σ[i]? = some (some (.ref a))) {u : HO} (w : OwnAt K F (upd H a u) a d') : Step mk K F H σ env F (upd H a u) σ (env.set i (.own d')) := by
  obtain ⟨a', e1, f, w0⟩ := o.en.own i d hi
  rw [ha] at e1; cases e1
  have lf : FLe F (L2.upd H a u) := fun b z e => by rw [upd_ne (ne_of_none e f)]; exact o.le b z e
  have ow : ∀ {b : Addr}, Own σ (env.set i (.own d')) b → Own σ env b := fun {b} ⟨j, e, h1, h2⟩ => by
    rcases set_get h1 with ⟨rfl, _, _⟩ | ⟨hj, h1⟩
    · exact ⟨j, d, hi, h2⟩
    · exact ⟨j, e, h1, h2⟩
  refine ⟨⟨.refl F, fun b z e n => ?_, fun _ _ _ _ _ => rfl, lf⟩, ⟨lf, by rw [List.length_set]; exact o.en.len, fun j e h => ?_, fun j e h => ?_, fun j k e e' b hjk h1 h2 h3 => ?_⟩, fun b h => .inl (ow h)⟩
  · have : b ≠ a := fun q => n ⟨i, d, hi, by rw [q]; exact ha⟩
    rw [upd_ne this]; exact e
  · rcases set_get h with ⟨_, h, _⟩ | ⟨_, h⟩
    · cases h
    · exact o.en.val j e h
  · rcases set_get h with ⟨rfl, h, _⟩ | ⟨hj, h⟩
    · cases h
      exact ⟨a, ha, f, w⟩
    · obtain ⟨b, e1, e2, wb⟩ := o.en.own j e h
      have : b ≠ a := fun q => o.en.sep i j d e a (Ne.symm hj) hi h ha (by rw [← q]; exact e1)
      exact ⟨b, e1, e2, wb.mono (.refl F) fun z q => by rw [upd_ne this]; exact q⟩
  · have g1 : ∃ e0, env[j]? = some (.own e0) := by
      rcases set_get h1 with ⟨rfl, _, _⟩ | ⟨_, h⟩
      · exact ⟨d, hi⟩
      · exact ⟨e, h⟩
    have g2 : ∃ e0, env[k]? = some (.own e0) := by
      rcases set_get h2 with ⟨rfl, _, _⟩ | ⟨_, h⟩
      · exact ⟨d, hi⟩
      · exact ⟨e', h⟩
    obtain ⟨e0, g1⟩ := g1
    obtain ⟨e1, g2⟩ := g2
    exact o.en.sep j k e0 e1 b hjk g1 g2 h3
theorem Step.kill (o : Ok K F H σ env) (vs : List Nat) : Step mk K F H σ env F H σ (env.kill vs) :=
  ⟨.refl o.le, ⟨o.le, o.en.kill vs⟩, fun a ⟨j, e, h1, h2⟩ => .inl ⟨j, e, (kill_own h1).1, h2⟩⟩
/-- what a name owns is frozen -/
theorem Step.frz (o : Ok K F H σ env) {i : Nat} {d : D} (h : env.bor i = some d) : ∃ F', Step mk K F H σ env F' H σ (env.set i (.val d)) := by
  unfold Env.bor at h
  split at h
  · rename_i z hz
    cases h
    refine ⟨F, .refl o.le, ⟨o.le, ?_⟩, fun a ⟨j, e, h1, h2⟩ => ?_⟩
    · have : env.set i (.val d) = env := by
        apply List.ext_getElem?
        intro j
        by_cases hj : i = j
        · subst hj; rw [List.getElem?_set_self (List.getElem?_eq_some_iff.mp hz).1, hz]
        · rw [List.getElem?_set_ne hj]
      rw [this]; exact o.en
    · rcases set_get h1 with ⟨_, h, _⟩ | ⟨_, h1⟩
      · cases h
      · exact .inl ⟨j, e, h1, h2⟩
  · rename_i z hz
    cases h
    obtain ⟨a, ha, f, w⟩ := o.en.own i d hz
    obtain ⟨ob, hob, r⟩ := w.rep f
    have fm : FMono F (L2.upd F a ob) := .upd f
    have lf : FLe (L2.upd F a ob) H := o.le.freeze hob
    have ow : ∀ {j : Nat} {e : D}, (env.set i (.val d))[j]? = some (.own e) → j ≠ i ∧ env[j]? = some (.own e) := fun {j e} h => by
      rcases set_get h with ⟨_, h, _⟩ | h
      · cases h
      · exact h
    refine ⟨L2.upd F a ob, ⟨fm, fun b u e _ => e, fun b u e _ n => ?_, lf⟩, ⟨lf, by rw [List.length_set]; exact o.en.len, fun j e h => ?_, fun j e h => ?_, fun j k e e' b hjk h1 h2 => o.en.sep j k e e' b hjk (ow h1).2 (ow h2).2⟩, fun b ⟨j, e, h1, h2⟩ => .inl ⟨j, e, (ow h1).2, h2⟩⟩
    · have : b ≠ a := fun q => n ⟨i, d, hz, by rw [q]; exact ha⟩
      rw [upd_ne this]
    · rcases set_get h with ⟨rfl, h, _⟩ | ⟨_, h⟩
      · cases h; exact ⟨_, ha, r⟩
      · obtain ⟨v, h1, h2⟩ := o.en.val j e h
        exact ⟨v, h1, h2.mono fm⟩
    · obtain ⟨hj, h⟩ := ow h
      obtain ⟨b, e1, e2, wb⟩ := o.en.own j e h
      have : b ≠ a := fun q => o.en.sep i j d e a (Ne.symm hj) hz h ha (by rw [← q]; exact e1)
      exact ⟨b, e1, by rw [upd_ne this]; exact e2, wb.mono fm fun _ q => q⟩
  · cases h
/-- x = y, y's own object going to x -/
theorem Step.move (o : Ok K F H σ env) {i j : Nat} {d : D} {a : Addr} (hij : i ≠ j) (hj : env[j]? = some (.own d)) (ha : σ[j]? = some (some (.ref a))) : Step mk K F H σ env F H (σ.set i (some (.ref a))) ((env.set j .unk).set i (.own d)) := by
  obtain ⟨a', e1, f, w⟩ := o.en.own j d hj
  rw [ha] at e1; cases e1
  have ek : EnvOk K F H σ (env.set j .unk) := (Step.kill (mk := True) o [j]).ok.en
  refine ⟨.refl o.le, ⟨o.le, ek.setO f w fun k e _ h => ?_⟩, fun b h => .inl ?_⟩
  · rcases set_get h with ⟨_, h, _⟩ | ⟨hk, h⟩
    · cases h
    · exact o.en.sep j k d e a (Ne.symm hk) hj h ha
  · rcases own_setO h with ⟨k, e, h1, h2⟩ | rfl
    · rcases set_get h1 with ⟨_, h, _⟩ | ⟨_, h1⟩
      · cases h
      · exact ⟨k, e, h1, h2⟩
    · exact ⟨j, d, hj, ha⟩
end
/-! ### statements -/
mutual
/-- whether a name may come to own something new -/
def mkS : S → Bool
  | .asgO _ _ => true
  | .asgP _ _ => true
  | .ifs _ a b => mkSs a || mkSs b
  | .whl _ b _ => mkSs b
  | .for_ _ _ _ b _ => mkSs b
  | _ => false
def mkSs : List S → Bool
  | [] => false
  | s :: ss => mkS s || mkSs ss
end
/-- what is wanted behind -/
def Post (mk : Prop) (K : PySem.W.Frag) (F H : Hp) (σ : St) (env : Env) (r : Fl × Env) (D : Ends) : Prop := match r.1 with
  | .nx => ∀ F' H' σ', Step mk K F H σ env F' H' σ' r.2 → D.nx σ' H'
  | .brk => ∀ F' H' σ', Step mk K F H σ env F' H' σ' r.2 → D.bk σ' H'
  | .rt d => ∀ F' H' v, Reach F H σ env F' H' → Rep K F' d v → D.rt v H'
def tS (K : PySem.W.Frag) (G GI : Gm) (s : S) : TS := fun D σ H => ∃ F env r, Ok K F H σ env ∧ ex G GI env s = some r ∧ Post (mkS s = true) K F H σ env r D
def tSs (K : PySem.W.Frag) (G GI : Gm) (ss : List S) : TS := fun D σ H => ∃ F env r, Ok K F H σ env ∧ exs G GI env ss = some r ∧ Post (mkSs ss = true) K F H σ env r D
theorem _root_.L2.PS.imp {X : Cx} {st : Stmt} {t t' : TS} (h : PS X st t) (m : ∀ D σ H, t' D σ H → t D σ H) : PS X st t' := ⟨fun pins s σ H D I q => h.run pins s σ H D I (m D σ H q)⟩
theorem _root_.L2.PS.or {X : Cx} {st : Stmt} {t t' : TS} (h : PS X st t) (h' : PS X st t') : PS X st (fun D σ H => t D σ H ∨ t' D σ H) := ⟨fun pins s σ H D I q => q.elim (h.run pins s σ H D I) (h'.run pins s σ H D I)⟩
theorem _root_.L2.PSs.imp {X : Cx} {st : List Stmt} {t t' : TS} (h : PSs X st t) (m : ∀ D σ H, t' D σ H → t D σ H) : PSs X st t' := ⟨fun pins s σ H D I q => h.run pins s σ H D I (m D σ H q)⟩
section
variable {mk mk2 : Prop} {X : Cx} {G GI : Gm} {K : PySem.W.Frag} {F H F1 H1 : Hp} {σ σ1 : St} {env env1 : Env} {e : E} {me : Expr} {mst : Stmt} {msts : List Stmt} {st : S} {sts : List S} {pos : Pos} {En : Ends}
theorem Post.after {r : Fl × Env} (p : Post mk K F H σ env r En) (s : Step mk K F H σ env F1 H1 σ1 env1) : Post mk K F1 H1 σ1 env1 r En := by
  obtain ⟨f, e'⟩ := r
  cases f with
  | nx => exact fun F' H' σ' q => p F' H' σ' (s.trans q)
  | brk => exact fun F' H' σ' q => p F' H' σ' (s.trans q)
  | rt d => exact fun F' H' v q r => p F' H' v (s.reach q) r
theorem Post.mono {r : Fl × Env} (h : mk → mk2) (p : Post mk2 K F H σ env r En) : Post mk K F H σ env r En := by
  obtain ⟨f, e'⟩ := r
  cases f with
  | nx => exact fun F' H' σ' q => p F' H' σ' (q.mono h)
  | brk => exact fun F' H' σ' q => p F' H' σ' (q.mono h)
  | rt d => exact p
theorem orT1 {a b : Bool} (h : a = true) : (a || b) = true := by rw [h]; rfl
theorem orT2 {a b : Bool} (h : b = true) : (a || b) = true := by rw [h, Bool.or_true]
/-- behind a statement the others -/
theorem Post.seq {r r' : Fl × Env} (p : Post (mkSs (st :: sts) = true) K F H σ env r En) (h : seqS (some r') (fun e => exs G GI e sts) = some r) : Post (mkS st = true) K F H σ env r' { En with nx := tSs K G GI sts En } := by
  obtain ⟨f, e'⟩ := r'
  cases f with
  | nx => exact fun F' H' σ' q => ⟨F', e', r, q.ok, h, Post.mono (fun z => orT2 z) (p.after (q.mono fun z => orT1 z))⟩
  | brk => cases h; exact fun F' H' σ' q => p F' H' σ' (q.mono fun z => orT1 z)
  | rt d => cases h; exact p
theorem s_nil : PSs X [] (tSs K G GI []) := pss_nil.imp fun D σ H ⟨F, env, r, o, h, p⟩ => by
  cases h; exact p F H σ (.refl o)
theorem s_cons (h1 : PS X mst (tS K G GI st)) (h2 : PSs X msts (tSs K G GI sts)) : PSs X (mst :: msts) (tSs K G GI (st :: sts)) := (pss_cons h1 h2).imp fun D σ H ⟨F, env, r, o, h, p⟩ => by
  obtain ⟨r', h', _⟩ := Option.bind_eq_some_iff.mp (show (ex G GI env st).bind _ = some r from h)
  have h'' : seqS (some r') (fun e => exs G GI e sts) = some r := by
    have : seqS (ex G GI env st) (fun e => exs G GI e sts) = some r := h
    rwa [h'] at this
  exact ⟨F, env, r', o, h', p.seq h''⟩
theorem s_frz {i : Nat} (h : PSs X msts (tSs K G GI sts)) : PSs X msts (tSs K G GI (.frz i :: sts)) := h.imp fun D σ H ⟨F, env, r, o, hx, p⟩ => by
  obtain ⟨d, hd, hx⟩ := Option.bind_eq_some_iff.mp (show (((env.bor i).map fun d => (Fl.nx, env.set i (.val d))).bind fun r => match r.1 with | .nx => exs G GI r.2 sts | _ => some r) = some r from hx)
  obtain ⟨d', hd', rfl⟩ := Option.map_eq_some_iff.mp hd
  obtain ⟨F', s⟩ := Step.frz (mk := mkSs sts = true) o hd'
  exact ⟨F', _, r, s.ok, hx, p.after s⟩
theorem s_kill {is : List Nat} (h : PSs X msts (tSs K G GI sts)) : PSs X msts (tSs K G GI (.kill is :: sts)) := h.imp fun D σ H ⟨F, env, r, o, hx, p⟩ => ⟨F, _, r, (Step.kill (mk := True) o is).ok, hx, p.after (Step.kill o is)⟩

/-! assignments -/
theorem s_asg {i : Nat} (h : PS X mst (tAsg (tD K G e) (gName i))) : PS X mst (tS K G GI (.asg i e)) := h.imp fun D σ H ⟨F, env, r, o, hx, p⟩ => by
  obtain ⟨d, hd, rfl⟩ := Option.map_eq_some_iff.mp (show (ev G env e).map _ = some r from hx)
  exact ⟨F, env, d, o, hd, fun F' H' v x l r => p F' H' _ (.set o x l r)⟩
theorem s_asgO {i : Nat} (h : PS X mst (tAsg (tN K G e) (gName i))) : PS X mst (tS K G GI (.asgO i e)) := h.imp fun D σ H ⟨F, env, r, o, hx, p⟩ => by
  have hn : isNew e = true := Decidable.byContradiction fun n => by
    have : (if isNew e = true then (ev G env e).map fun d => (Fl.nx, env.set i (.own d)) else none) = some r := hx
    rw [if_neg n] at this; cases this
  have hx : (if isNew e = true then (ev G env e).map fun d => (Fl.nx, env.set i (.own d)) else none) = some r := hx
  rw [if_pos hn] at hx
  obtain ⟨d, hd, rfl⟩ := Option.map_eq_some_iff.mp hx
  exact ⟨F, env, d, o, hd, fun F' H' a x l n f w => p F' H' _ (.setO rfl o x l n f w)⟩
theorem tAsg_frz {i : Nat} {D : Ends} (h : tAsg (tD K G e) (gName i) D σ H) : tAsg (tN K G e) (gName i) D σ H := by
  obtain ⟨F, env, d, o, hd, k⟩ := h
  refine ⟨F, env, d, o, hd, fun F' H' a x l n f w => ?_⟩
  obtain ⟨ob, h1, r⟩ := w.rep f
  exact k _ _ _ (x.freeze n f) (l.freeze h1) r
theorem s_move {i j : Nat} (hij : i ≠ j) (h : PS X mst (tAsg (L2.tVar j) (gName i))) : PS X mst (tS K G GI (.move i j)) := h.imp fun D σ H ⟨F, env, r, o, hx, p⟩ => by
  obtain ⟨d, hd, rfl⟩ := Option.map_eq_some_iff.mp (show (env.ow j).map _ = some r from hx)
  unfold Env.ow at hd
  split at hd
  · rename_i z hz
    cases hd
    obtain ⟨a, ha, _, _⟩ := o.en.own j d hz
    exact ⟨_, ha, p F H _ (.move o hij hz ha)⟩
  · cases hd
theorem ow_some {i : Nat} {d : D} (h : env.ow i = some d) : env[i]? = some (.own d) := by
  unfold Env.ow at h
  split at h
  · rename_i z hz; cases h; exact hz
  · cases h
/-- a, (b, c) = e -/
theorem s_asgT {t : T} (h : PS X mst (tAsg (tD K G e) (tG K t))) : PS X mst (tS K G GI (.asgT t e)) := h.imp fun D σ H ⟨F, env, r, o, hx, p⟩ => by
  obtain ⟨d, hd, hx⟩ := Option.bind_eq_some_iff.mp (show (ev G env e).bind _ = some r from hx)
  obtain ⟨env', hb, rfl⟩ := Option.map_eq_some_iff.mp hx
  refine ⟨F, env, d, o, hd, fun F' H' v x l r => ⟨F', env, d, env', o.ext x l, r, hb, fun σ' o' _ sm => p F' H' σ' ⟨.of_ext x l, o', fun a ⟨j, e, h1, h2⟩ => ?_⟩⟩⟩
  obtain ⟨q1, n1⟩ := bind_own t d hb h1
  rw [sm j n1] at h2
  exact .inl ⟨j, e, q1, h2⟩
theorem s_ret (h : PE X me (tD K G e)) : PS X (.Return (some me) pos) (tS K G GI (.ret e)) := (ps_ret h).imp fun D σ H ⟨F, env, r, o, hx, p⟩ => by
  obtain ⟨d, hd, rfl⟩ := Option.map_eq_some_iff.mp (show (ev G env e).map _ = some r from hx)
  exact ⟨F, env, d, o, hd, fun F' H' v x l r => p F' H' v (.of_ext x l) r⟩
theorem s_brk : PS X (.Break pos) (tS K G GI .brk) := ps_break.imp fun D σ H ⟨F, env, r, o, hx, p⟩ => by
  cases hx; exact p F H σ (.refl o)
theorem s_if {mc : Expr} {c : C} {as bs : List S} {mas mbs : List Stmt} (hc : PT X mc (tT K G c)) (ha : PSs X mas (tSs K G GI as)) (hb : PSs X mbs (tSs K G GI bs)) : PS X (.If mc mas mbs pos) (tS K G GI (.ifs c as bs)) := (ps_if hc ha hb).imp fun D σ H ⟨F, env, r, o, hx, p⟩ => by
  obtain ⟨b, hb, hx⟩ := Option.bind_eq_some_iff.mp (show (ts G env c).bind _ = some r from hx)
  refine ⟨F, env, b, o, hb, fun F' H' x l => ?_⟩
  have s : Step (mkS (.ifs c as bs) = true) K F H σ env F' H' σ env := ⟨.of_ext x l, o.ext x l, fun _ h => .inl h⟩
  cases b with
  | true => exact iteT ⟨F', env, r, o.ext x l, hx, Post.mono (fun z => orT1 z) (p.after s)⟩
  | false => exact iteF ⟨F', env, r, o.ext x l, hx, Post.mono (fun z => orT2 z) (p.after s)⟩
/-- while -/
theorem s_whl {mc : Expr} {c : C} {bs : List S} {mbs : List Stmt} {kl : List Nat} (hp : PassesOwn (model X.prog X.w) X.A X.env X.xe) (hc : PT X mc (tT K G c)) (hb : PSs X mbs (tSs K G GI bs)) : PS X (.While mc mbs [] pos) (tS K G GI (.whl c bs kl)) := (ps_while hp hc hb).imp fun D σ H ⟨F, env, r, o, hx, p⟩ => by
  refine ⟨fun m σ1 H1 => ∃ F1 env1, Step (mkSs bs = true) K F H σ env F1 H1 σ1 env1 ∧ whlL (fun e => ts G e c) (fun e => exs G GI e bs) kl m env1 = some r, ⟨1000000, F, env, .refl o, hx⟩, ?_⟩
  rintro m σ1 H1 ⟨F1, env1, s1, h1⟩
  cases m with
  | zero => cases h1
  | succ m =>
    obtain ⟨b, hb, h1⟩ := Option.bind_eq_some_iff.mp (show (ts G env1 c).bind _ = some r from h1)
    refine ⟨F1, env1, b, s1.ok, hb, fun F2 H2 x l => ?_⟩
    have s2 : Step (mkSs bs = true) K F H σ env F2 H2 σ1 env1 := s1.trans ⟨.of_ext x l, s1.ok.ext x l, fun _ h => .inl h⟩
    cases b with
    | false =>
      cases h1
      exact iteF (p F2 H2 σ1 (s2.trans (.kill s2.ok kl)))
    | true =>
      refine iteT ⟨fun σ' H' => ∃ F' env', Step (mkSs bs = true) K F H σ env F' H' σ' env' ∧ whlL (fun e => ts G e c) (fun e => exs G GI e bs) kl m env' = some r, fun σ' H' n => ⟨m, Nat.lt_succ_self m, n⟩, ?_⟩
      obtain ⟨r1, hr1, h1⟩ := Option.bind_eq_some_iff.mp (show (exs G GI env1 bs).bind _ = some r from h1)
      refine ⟨F2, env1, r1, s2.ok, hr1, ?_⟩
      obtain ⟨f, e1⟩ := r1
      cases f with
      | nx => exact fun F' H' σ' s => ⟨F', _, (s2.trans s).trans (.kill s.ok kl), h1⟩
      | brk => cases h1; exact fun F' H' σ' s => p F' H' σ' ((s2.trans s).trans (.kill s.ok kl))
      | rt d => cases h1; exact fun F' H' v q w => p F' H' v (s2.reach q) w
/-- for -/
theorem s_for {tg iter : Expr} {t : T} {k : IK} {es : List E} {bs : List S} {mbs : List Stmt} {kl : List Nat} (hp : PassesOwn (model X.prog X.w) X.A X.env X.xe) (hc : X.calm = true) (hi : PI X tg iter (tI true K G k es)) (hg : PG X tg (tG K t)) (hb : PSs X mbs (tSs K G GI bs))
    (hs : ∀ x, foldedSetIterable iter X.env x = pure x) : PS X (.For tg iter mbs [] pos) (tS K G GI (.for_ t k es bs kl)) := (ps_for hp hc hi hg hb hs).imp fun D σ H ⟨F, env, r, o, hx, p⟩ => by
  obtain ⟨vs, hv, hx⟩ := Option.bind_eq_some_iff.mp (show (evL G env es).bind _ = some r from hx)
  obtain ⟨xs, hw, hx⟩ := Option.bind_eq_some_iff.mp hx
  refine ⟨F, env, vs, xs, o, hv, hw, fun F1 H1 J x1 l1 W => ?_⟩
  have s0 : Step (mkSs bs = true) K F H σ env F1 H1 σ env := ⟨.of_ext x1 l1, o.ext x1 l1, fun _ h => .inl h⟩
  refine ⟨fun i m σ2 H2 => m = xs.length - i ∧ i ≤ xs.length ∧ ∃ F2 env2, FMono F1 F2 ∧ Step (mkSs bs = true) K F H σ env F2 H2 σ2 env2 ∧ forL (fun x e => (bind t x e).bind fun e' => exs G GI e' bs) kl (xs.drop i) env2 = some r,
    ⟨xs.length, by simp, Nat.zero_le _, F1, env, .refl _, s0, hx⟩, ?_⟩
  rintro i m σ2 H2 ⟨rfl, hi, F2, env2, hm, s2, h2⟩
  have hS : SM true K σ env F1 F2 H2 := ⟨hm, s2.ok.le, fun z => by cases z⟩
  by_cases hlt : i < xs.length
  · refine .inr ⟨W.go i F2 H2 hS hlt, fun σ' H' => ∃ F' env', FMono F1 F' ∧ Step (mkSs bs = true) K F H σ env F' H' σ' env' ∧ forL (fun x e => (bind t x e).bind fun e' => exs G GI e' bs) kl (xs.drop (i + 1)) env' = some r, fun σ' H' n => ⟨xs.length - (i + 1), by omega, rfl, hlt, n⟩, fun x H' y => ?_⟩
    obtain ⟨F3, d, x3, l3, hd, rd⟩ := W.yld i F2 H2 x H' hS hlt y
    have s3 : Step (mkSs bs = true) K F H σ env F3 H' σ2 env2 := s2.trans ⟨.of_ext x3 l3, s2.ok.ext x3 l3, fun _ h => .inl h⟩
    have e1 : xs.drop i = d :: xs.drop (i + 1) := by
      have hd' := hd
      rw [List.getElem?_eq_getElem hlt] at hd'
      cases hd'
      exact List.drop_eq_getElem_cons hlt
    rw [e1] at h2
    obtain ⟨r1, hr1, h2⟩ := Option.bind_eq_some_iff.mp (show ((bind t d env2).bind fun e' => exs G GI e' bs).bind _ = some r from h2)
    obtain ⟨env3, hb3, hr1⟩ := Option.bind_eq_some_iff.mp hr1
    refine ⟨F3, env2, d, env3, s3.ok, rd, hb3, fun σ3 o3 _ sm => ?_⟩
    have s4 : Step (mkSs bs = true) K F H σ env F3 H' σ3 env3 := s3.trans ⟨.refl l3, o3, fun a ⟨j, e, q1, q2⟩ => by
      obtain ⟨q3, n1⟩ := bind_own t d hb3 q1
      rw [sm j n1] at q2
      exact .inl ⟨j, e, q3, q2⟩⟩
    refine ⟨F3, env3, r1, o3, hr1, ?_⟩
    obtain ⟨f, e1⟩ := r1
    cases f with
    | nx => exact fun F' H' σ' s => ⟨F', _, (hm.trans x3.f).trans s.re.f, (s4.trans s).trans (.kill s.ok kl), h2⟩
    | brk => cases h2; exact fun F' H' σ' s => p F' H' σ' ((s4.trans s).trans (.kill s.ok kl))
    | rt d => cases h2; exact fun F' H' v q w => p F' H' v (s4.reach q) w
  · have e : i = xs.length := by omega
    subst e
    rw [List.drop_of_length_le (Nat.le_refl _)] at h2
    cases h2
    exact .inl ⟨W.stop F2 H2 hS, p F2 H2 σ2 (s2.trans (.kill s2.ok kl))⟩
end
end Rx
end

section
set_option Elab.async false
set_option linter.all false
set_option maxRecDepth 100000
set_option maxHeartbeats 1000000
set_option autoImplicit false
/-! RxStmt2: what is just made; stores; calls. -/
namespace Rx
open PySem PySem.Spec PyProof.Rows L2

section
variable {X : Cx} {G GI : Gm} {K : PySem.W.Frag} {F H F1 H1 : Hp} {σ σ1 : St} {env env1 : Env} {e a b : E} {me ma mb : Expr} {mst : Stmt} {msts : List Stmt} {st : S} {sts : List S} {pos : Pos} {Q : VK} {es : List E} {mes : List Expr}
/-! ### just made -/
/-- what is wanted of a new one -/
abbrev WantN (K : PySem.W.Frag) (F H : Hp) (d : D) (Q : VK) : Prop := ∀ F' H' a, Ext F H F' H' → FLe F' H' → H a = none → F' a = none → OwnAt K F' H' a d → Q (.ref a) H'
theorem WantN.lst {ds : List D} {vs : List V} {p : Addr} (q : WantN K F H (.lst ds) Q) (l : FLe F H) (r : RepL K F ds vs) (z : ds.length ≤ line) (n : H p = none) : Q (.ref p) (upd H p (.lst vs)) :=
  q F _ p (.made n) (l.made n) n (l.free n) ⟨vs, upd_same, r, z⟩
/-- behind a growth -/
theorem wantN_ext {d : D} (x : Ext F H F1 H1) (q : WantN K F H d Q) : WantN K F1 H1 d Q := fun F' H' a x' l n f w => q F' H' a (x.trans x') l (by
  cases e : H a with
  | none => rfl
  | some u => rw [x.h a u e] at n; cases n) f w
theorem n_lst (h : PA X mes (tL K G es)) : PE X (.List mes pos) (tN K G (.lst es)) := (pe_lst h).imp fun σ H Q ⟨F, env, d, o, hd, k⟩ => by
  obtain ⟨x, hx, hd⟩ := Option.bind_eq_some_iff.mp (show (evL G env es).bind _ = some d from hd)
  unfold fits at hd
  split at hd <;> cases hd
  rename_i hl
  exact runL o hx fun F1 H1 vs x1 o1 r1 => ⟨by rw [r1.length, line_eq]; exact hl, fun p n => WantN.lst (wantN_ext x1 k) o1.le r1 hl n⟩
theorem n_dic0 : PE X (.Dict [] [] pos) (tN K G (.dic0 false)) := pe_dnewK.imp fun σ H Q ⟨F, env, d, o, hd, k⟩ p n => by
  cases hd; exact k F _ p (.made n) (o.le.made n) n (o.le.free n) ⟨[], upd_same, rfl⟩
theorem n_dic0T : PE X (.Dict [] [] pos) (tN K G (.dic0 true)) := pe_dnewT.imp fun σ H Q ⟨F, env, d, o, hd, k⟩ p n => by
  cases hd; exact k F _ p (.made n) (o.le.made n) n (o.le.free n) ⟨[], upd_same, rfl⟩
/-- lists only -/
def R2new (K : PySem.W.Frag) (f : D → D → Option D) (r : R2) : Prop := ∀ (x y : D) (zs : List D) (F H : Hp) (v u : V) (Q : VK), f x y = some (.lst zs) → FLe F H → RepB K F H x v → RepB K F H y u → WantN K F H (.lst zs) Q → r v u H Q
theorem n_bin {o : BO} {op : Operator} {r : R2} (ho : OpR X (binaryOp op) r) (hr : R2new K (opB o) r) (ha : PE X ma (tB K G a)) (hb : PE X mb (tB K G b)) : PE X (.BinOp ma op mb pos) (fun σ H Q => tN K G (.bin o a b) σ H Q ∧ ∀ F env d, Ok K F H σ env → ev G env (.bin o a b) = some d → ∃ zs, d = .lst zs) :=
  (pe_op ho ha hb).imp fun σ H Q ⟨⟨F, env, d, ok, hd, k⟩, hl⟩ => by
    obtain ⟨zs, rfl⟩ := hl F env d ok hd
    obtain ⟨x, hx, hd⟩ := Option.bind_eq_some_iff.mp (show (bo env a (ev G env a)).bind _ = some _ from hd)
    obtain ⟨y, hy, hd⟩ := Option.bind_eq_some_iff.mp hd
    exact runB ok hx fun F1 H1 v x1 o1 r1 => runB o1 hy fun F2 H2 u x2 o2 r2 => hr x y zs F2 H2 v u Q hd o2.le (r1.ext x2) r2 (wantN_ext (x1.trans x2) k)
theorem add_new : R2new K (opB .add) rCat := by
  intro x y zs F H v u Q hz l rx ry k
  cases x <;> cases y <;> simp only [opB] at hz <;> try cases hz
  · split at hz <;> cases hz
  · rename_i xs ys
    split at hz <;> cases hz
    rename_i hl
    obtain ⟨a, vs, rfl, ea, ra, la⟩ := rx.lst l
    obtain ⟨b, us, rfl, eb, rb, lb⟩ := ry.lst l
    have hv := ra.length
    have hu := rb.length
    exact ⟨a, b, vs, us, rfl, rfl, ea, eb, by rw [line_eq]; omega, fun p n => k.lst l (ra.append rb) (by simpa using hl) n⟩
theorem mul_new : R2new K (opB .mul) rRep := by
  intro x y zs F H v u Q hz l rx ry k
  cases x <;> cases y <;> simp only [opB] at hz <;> try cases hz
  · split at hz <;> cases hz
  · rename_i xs j
    split at hz <;> cases hz
    rename_i hm
    obtain ⟨a, vs, rfl, ea, ra, la⟩ := rx.lst l
    have hv := ra.length
    refine ⟨a, j, vs, rfl, ry.int, ea, by omega, by omega, by rw [line_eq, hv]; exact hm.2.2, fun p n => k.lst l (ra.rep _) ?_ n⟩
    rw [List.length_flatten, List.map_replicate, List.sum_replicate_nat, Nat.mul_comm]; exact hm.2.2
/-- a new thing is a list -/
theorem new_add {zs : List D} {x y d : D} (h : opB .add x y = some d) (hx : x = .lst zs) : ∃ zs, d = .lst zs := by
  subst hx
  cases y <;> simp only [opB] at h <;> try cases h
  split at h <;> cases h
  exact ⟨_, rfl⟩
theorem n_list {pp : Pos} (hg : Gl X "list") (hm : X.mg "list" = none) (ha : PE X ma (tB X.K G a)) (hs : starEach [ma] X.env = [(false, eval ma X.env)]) : PE X (.Call (.Name "list" pp) [ma] [] pos) (tN X.K G (.b1 .list a)) :=
  (pe_callTy call_list_of hg hm (by decide +kernel) (b_one ha hs) (by decide) (by decide) hs).imp fun σ H Q ⟨F, env, z, ok, hd, k⟩ => by
    obtain ⟨x, hx, hd⟩ := Option.bind_eq_some_iff.mp (show (bo env a (ev G env a)).bind _ = some z from hd)
    refine runLB ok (show (bo env a (ev G env a)).bind _ = some [x] by rw [hx]; rfl) fun F1 H1 vs x1 o1 r1 => ?_
    obtain ⟨v, r', rfl, r1, e⟩ := r1
    cases e
    obtain ⟨xs, hxs, rfl⟩ := Option.map_eq_some_iff.mp (show x.seq?.map .lst = some z from hd)
    rcases seq_some hxs with rfl | rfl
    · obtain ⟨a, vs, rfl, ea, ra, la⟩ := r1.tup
      exact ⟨a, vs, rfl, .inr (.of (o1.le.tup ea)), fun p n => (wantN_ext x1 k).lst o1.le ra la n⟩
    · obtain ⟨a, vs, rfl, ea, ra, la⟩ := r1.lst o1.le
      exact ⟨a, vs, rfl, .inl (.of ea), fun p n => (wantN_ext x1 k).lst o1.le ra la n⟩

/-! ### x op= e, stores by place -/
def P2ok (K : PySem.W.Frag) (f : D → D → Option D) (t : TIp) : Prop := ∀ (x y z : D) (F H : Hp) (v u : V) (Q : VK), f x y = some z → Rep K F x v → Rep K F y u → FLe F H → Want K F H z Q → t v u H Q
theorem ipadd_ok : P2ok K (opA .add) (ipI fun i j => i + j) := by
  intro x y z F H v u Q hz rx ry l k
  cases x <;> cases y <;> simp only [opA] at hz <;> try cases hz
  exact ⟨_, _, rx, ry, k.flat l rfl⟩
theorem ipsub_ok : P2ok K (opA .sub) (ipI fun i j => i - j) := by
  intro x y z F H v u Q hz rx ry l k
  cases x <;> cases y <;> simp only [opA] at hz <;> try cases hz
  exact ⟨_, _, rx, ry, k.flat l rfl⟩
theorem ip_mod : PIp X .Mod (rI (fun _ j => 0 < j) fun i j => .int (i % j)) := fun pins s σ H x y v u Q I r1 r2 h => iop_mod pins s σ H x y v u Q I r1 r2 h
theorem ipmod_ok : P2ok K (opA .mod) (rI (fun _ j => 0 < j) fun i j => .int (i % j)) := by
  intro x y z F H v u Q hz rx ry l k
  cases x <;> cases y <;> simp only [opA] at hz <;> try cases hz
  split at hz <;> cases hz
  exact ⟨_, _, rx, ry, ‹_›, k.flat l rfl⟩
theorem val_some {i : Nat} {d : D} (h : env.val i = some d) : env[i]? = some (.val d) := by
  unfold Env.val at h
  split at h
  · rename_i z hz; cases h; exact hz
  · cases h
theorem s_aug {i : Nat} {o : BO} {t : TIp} (ho : P2ok K (opA o) t) (h : PS X mst (tAug i (tD K G e) t)) : PS X mst (tS K G GI (.aug i o e)) := h.imp fun D σ H ⟨F, env, r, ok, hx, p⟩ => by
  obtain ⟨x, hxv, hx⟩ := Option.bind_eq_some_iff.mp (show (env.val i).bind _ = some r from hx)
  obtain ⟨y, hy, hx⟩ := Option.bind_eq_some_iff.mp hx
  obtain ⟨z, hz, rfl⟩ := Option.map_eq_some_iff.mp hx
  obtain ⟨v, e1, rv⟩ := ok.en.val i x (val_some hxv)
  exact ⟨v, e1, runD ok hy fun F1 H1 u x1 o1 r1 => ho x y z F1 H1 v u _ hz (rv.mono x1.f) r1 o1.le fun F2 H2 w x2 l2 r2 => p F2 H2 _ (.set ok (x1.trans x2) l2 r2)⟩
/-- a list's place -/
theorem ixN_eq (n : Nat) (i : Int) : L2.ixN n i = Rx.ixN n i := rfl
/-- a dict's pairs behind a store -/
theorem putK_rep {k : D} {k' : Key} (hk : KeyI k k') {d : D} {v : V} (rd : Rep K F d v) : ∀ {kvs : List (D × D)} {ws : List (Key × V)}, RepK K F kvs ws →
    ((kvs.any fun kv => D.eqb kv.1 k) = ws.any fun kv => decide (kv.1 = k')) ∧ RepK K F (kvs.map fun kv => if D.eqb kv.1 k = true then (kv.1, d) else kv) (ws.map fun kv => if kv.1 = k' then (kv.1, v) else kv) ∧ RepK K F (kvs ++ [(k, d)]) (ws ++ [(k', v)])
  | [], _, h => by cases h; exact ⟨rfl, rfl, k', v, [], rfl, hk, rd, rfl⟩
  | (a, c) :: r, _, h => by
    obtain ⟨a', u, r', rfl, ha, hc, h⟩ := h
    obtain ⟨h1, h2, h3⟩ := putK_rep hk rd h
    have e := eqb_keyI ha hk
    refine ⟨by simp only [List.any_cons, h1, e], ?_, a', u, r' ++ [(k', v)], rfl, ha, hc, h3⟩
    simp only [List.map_cons, e]
    by_cases q : a' = k'
    · simp only [q, decide_true, if_true]
      exact ⟨_, _, _, rfl, q ▸ ha, rd, h2⟩
    · simp only [q, decide_false, if_false, Bool.false_eq_true]
      exact ⟨_, _, _, rfl, ha, hc, h2⟩
theorem putT_rep {k : D} {k' : List Key} (hk : KeyT k k') {d : D} {v : V} (rd : Rep K F d v) : ∀ {kvs : List (D × D)} {ws : List (List Key × V)}, RepT K F kvs ws →
    ((kvs.any fun kv => D.eqb kv.1 k) = ws.any fun kv => decide (kv.1 = k')) ∧ RepT K F (kvs.map fun kv => if D.eqb kv.1 k = true then (kv.1, d) else kv) (ws.map fun kv => if kv.1 = k' then (kv.1, v) else kv) ∧ RepT K F (kvs ++ [(k, d)]) (ws ++ [(k', v)])
  | [], _, h => by cases h; exact ⟨rfl, rfl, k', v, [], rfl, hk, rd, rfl⟩
  | (a, c) :: r, _, h => by
    obtain ⟨a', u, r', rfl, ha, hc, h⟩ := h
    obtain ⟨h1, h2, h3⟩ := putT_rep hk rd h
    have e := eqb_keyT ha hk
    refine ⟨by simp only [List.any_cons, h1, e], ?_, a', u, r' ++ [(k', v)], rfl, ha, hc, h3⟩
    simp only [List.map_cons, e]
    by_cases q : a' = k'
    · simp only [q, decide_true, if_true]
      exact ⟨_, _, _, rfl, q ▸ ha, rd, h2⟩
    · simp only [q, decide_false, if_false, Bool.false_eq_true]
      exact ⟨_, _, _, rfl, ha, hc, h2⟩
theorem RepK.len : ∀ {kvs : List (D × D)} {ws : List (Key × V)}, RepK K F kvs ws → ws.length = kvs.length
  | [], _, h => by cases h; rfl
  | (a, c) :: r, _, h => by obtain ⟨a', u, r', rfl, ha, hc, h⟩ := h; simp [RepK.len h]
theorem RepT.len : ∀ {kvs : List (D × D)} {ws : List (List Key × V)}, RepT K F kvs ws → ws.length = kvs.length
  | [], _, h => by cases h; rfl
  | (a, c) :: r, _, h => by obtain ⟨a', u, r', rfl, ha, hc, h⟩ := h; simp [RepT.len h]
/-- behind a[k] = v -/
theorem put_at {x k d d' : D} {p : Addr} {u w : V} (hp : putAt x k d = some d') (l : FLe F H) (ow : OwnAt K F H p x) (rk : Rep K F k u) (rd : Rep K F d w) :
    (∃ xs i j, u = .int i ∧ H p = some (.lst xs) ∧ L2.ixN xs.length i = some j ∧ OwnAt K F (upd H p (.lst (xs.set j w))) p d') ∨ (∃ t kvs, x = .dic t kvs) ∧ ∃ o, DPut H p u w (upd H p o) ∧ OwnAt K F (upd H p o) p d' := by
  cases x with
  | lst ds =>
    obtain ⟨vs, e, r, z⟩ := ow
    cases k <;> simp only [putAt] at hp <;> try cases hp
    obtain ⟨j, hj, rfl⟩ := Option.map_eq_some_iff.mp hp
    exact .inl ⟨vs, _, j, rk, e, by rw [r.length]; exact hj, _, upd_same, r.set j rd, by rw [List.length_set]; exact z⟩
  | dic t kvs =>
    have hp : (if isKey t k = true ∧ kvs.length < line then some (D.dic t (D.put kvs k d)) else none) = some d' := by cases k <;> exact hp
    have hk : isKey t k = true ∧ kvs.length < line := Decidable.byContradiction fun n => by rw [if_neg n] at hp; cases hp
    rw [if_pos hk] at hp
    cases hp
    refine .inr ⟨⟨t, kvs, rfl⟩, ?_⟩
    cases t with
    | false =>
      obtain ⟨ws, e, r⟩ := ow
      obtain ⟨i, rfl⟩ := isKey_int hk.1
      obtain ⟨h1, h2, h3⟩ := putK_rep (k := .int i) (k' := Sum.inl i) ⟨i, rfl, rfl⟩ rd r
      refine ⟨.dK (putK ws (Sum.inl i) w), .inl ⟨ws, Sum.inl i, e, rk, by rw [line_eq, r.len]; exact hk.2, rfl⟩, _, upd_same, ?_⟩
      unfold D.put putK
      rw [h1]
      split <;> assumption
    | true =>
      obtain ⟨ws, e, r⟩ := ow
      obtain ⟨ns, rfl⟩ := isKey_tup hk.1
      obtain ⟨b, vs, rfl, eb, rb, lz⟩ := rk
      obtain ⟨h1, h2, h3⟩ := putT_rep (k := .tup (ns.map .int)) (k' := ns.map Sum.inl) ⟨ns, rfl, rfl, by simpa using lz⟩ rd r
      refine ⟨.dT (putK ws (ns.map Sum.inl) w), .inr ⟨ws, ns.map Sum.inl, b, e, rfl, by rw [l.tup eb, rb.ints, List.map_map]; rfl, by rw [line_eq, r.len]; exact hk.2, rfl⟩, _, upd_same, ?_⟩
      unfold D.put putK
      rw [h1]
      split <;> assumption
  | _ => exact False.elim ow
theorem s_sset {i : Nat} (hl : PS X mst (tAsg (tD K G e) (gSub (L2.tVar i) (tD K G a) rSetL))) (hd : PS X mst (sDPut (L2.tVar i) (tD K G a) (tD K G e))) : PS X mst (tS K G GI (.sset i a e)) := (hl.or hd).imp fun D σ H ⟨F, env, r, ok, hx, p⟩ => by
  obtain ⟨d, he, hx⟩ := Option.bind_eq_some_iff.mp (show (ev G env e).bind _ = some r from hx)
  obtain ⟨x, hxo, hx⟩ := Option.bind_eq_some_iff.mp hx
  obtain ⟨k, hk, hx⟩ := Option.bind_eq_some_iff.mp hx
  obtain ⟨d', hp, rfl⟩ := Option.map_eq_some_iff.mp hx
  have hi := ow_some hxo
  obtain ⟨pa, ha, _, ow0⟩ := ok.en.own i x hi
  have fin : ∀ {F2 H2 u w}, Ext F H F2 H2 → FLe F2 H2 → Rep K F2 k u → Rep K F2 d w → _ := fun {F2 H2 u w} x2 l2 rk rd => put_at hp l2 (ow0.mono x2.f fun z => x2.h pa z) rk rd
  rcases dic_or x with ⟨t, kvs, rfl⟩ | hnd
  · refine .inr (runD ok he fun F1 H1 w x1 o1 r1 => ⟨.ref pa, ha, runD o1 hk fun F2 H2 u x2 o2 r2 => ?_⟩)
    rcases fin (x1.trans x2) o2.le r2 (r1.mono x2.f) with ⟨xs, i', j, _, e1, _⟩ | ⟨_, ob, dp, ow⟩
    · obtain ⟨_, e0, _⟩ := o2.en.own i _ hi
      rw [ha] at e0
      have := (ow0.mono (x1.trans x2).f fun z => (x1.trans x2).h pa z)
      cases t <;> (obtain ⟨ws, e2, _⟩ := this; rw [e1] at e2; cases e2)
    · exact ⟨pa, _, rfl, dp, p F2 _ σ ((Step.trans ⟨.of_ext (x1.trans x2) o2.le, o2, fun _ h => .inl h⟩ (Step.upd o2 hi ha ow)))⟩
  · refine .inl (runD ok he fun F1 H1 w x1 o1 r1 => ⟨.ref pa, ha, runD o1 hk fun F2 H2 u x2 o2 r2 => ?_⟩)
    rcases fin (x1.trans x2) o2.le r2 (r1.mono x2.f) with ⟨xs, i', j, rfl, e1, hj, ow⟩ | ⟨⟨t, kvs, e⟩, _⟩
    · exact ⟨pa, xs, i', j, rfl, rfl, e1, hj, p F2 _ σ ((Step.trans ⟨.of_ext (x1.trans x2) o2.le, o2, fun _ h => .inl h⟩ (Step.upd o2 hi ha ow)))⟩
    · exact absurd e (hnd t kvs)

/-! ### x[k] op= e -/
theorem get_list : PGet X (rIxL X.K) := by
  intro pins s σ H x y v u Q I rx ry h
  obtain ⟨p, xs, i, z, rfl, rfl, hq, he, q⟩ := h
  cases rx
  obtain ⟨t, rfl⟩ := ry
  obtain ⟨its, r, pl, hz⟩ := I.list hq
  obtain ⟨j, h1, h2, h3, h4, h5⟩ := atI_get he
  obtain ⟨w, ew, rw'⟩ := r.get h2
  have hl := r.length
  have hn := line63
  by_cases h0 : 0 ≤ i
  · have hj : i.toNat = j := by
      rw [seqIndex_of h0 h5] at h1
      exact Option.some.inj h1
    exact wpAny_getItem_list pl.isList h0 (by omega) (by rw [hj]; simpa using ew) ⟨z, H, I, rw', q⟩
  · have hj : (i + (its.toArray.size : Int)).toNat = j := by
      rw [seqIndex_neg (by omega) h4] at h1
      rw [List.size_toArray, ← hl]
      exact Option.some.inj h1
    exact wpAny_getItem_list_neg pl.isList (by omega) (by rw [List.size_toArray] <;> omega) (by omega) (by rw [hj]; simpa using ew) ⟨z, H, I, rw', q⟩
theorem dic_sub {t : Bool} {kvs : List (D × D)} {y z : D} {v u : V} (hz : opSub (.dic t kvs) y = some z) (l : FLe F H) (rx : RepB K F H (.dic t kvs) v) (ry : RepB K F H y u) : ∃ a w, v = .ref a ∧ DGet H a u (some w) ∧ Rep K F z w := by
  have hz : (if isKey t y = true then D.get kvs y else none) = some z := by cases y <;> exact hz
  have hk : isKey t y = true := Decidable.byContradiction fun n => by rw [if_neg n] at hz; cases hz
  rw [if_pos hk] at hz
  obtain ⟨a, o, rfl, g, rg, _⟩ := dget_of l hk rx ry
  rw [hz] at rg
  cases o with
  | none => exact False.elim rg
  | some w => exact ⟨a, w, rfl, g, rg⟩
theorem s_saug {i : Nat} {o : BO} {t : TIp} (ho : P2ok K (opA o) t) (hl : PS X mst (tAugS (L2.tVar i) (tD K G a) (tD K G e) (rIxL K) t rSetL)) (hd : PS X mst (sDAug (L2.tVar i) (tD K G a) (tD K G e) t)) : PS X mst (tS K G GI (.saug i a o e)) := (hl.or hd).imp fun D σ H ⟨F, env, r, ok, hx, p⟩ => by
  obtain ⟨x, hxo, hx⟩ := Option.bind_eq_some_iff.mp (show (env.ow i).bind _ = some r from hx)
  obtain ⟨k, hk, hx⟩ := Option.bind_eq_some_iff.mp hx
  obtain ⟨y, hy, hx⟩ := Option.bind_eq_some_iff.mp hx
  obtain ⟨d, he, hx⟩ := Option.bind_eq_some_iff.mp hx
  obtain ⟨z, hz, hx⟩ := Option.bind_eq_some_iff.mp hx
  obtain ⟨d', hp, rfl⟩ := Option.map_eq_some_iff.mp hx
  have hi := ow_some hxo
  obtain ⟨pa, ha, hf, ow0⟩ := ok.en.own i x hi
  have rx : RepB K F H x (.ref pa) := .inr ⟨pa, rfl, hf, ow0⟩
  rcases dic_or x with ⟨tt, kvs, rfl⟩ | hnd
  · refine .inr ⟨.ref pa, ha, runD ok hk fun F1 H1 u x1 o1 r1 => ?_⟩
    obtain ⟨a', w, ea, g, rw'⟩ := dic_sub hy o1.le (rx.ext x1) (.inl r1)
    cases ea
    refine ⟨pa, w, rfl, g, runD o1 he fun F2 H2 v2 x2 o2 r2 => ho y d z F2 H2 w v2 _ hz (rw'.mono x2.f) r2 o2.le fun F3 H3 w3 x3 l3 r3 => ?_⟩
    have x13 := (x1.trans x2).trans x3
    rcases put_at hp l3 (ow0.mono x13.f fun z => x13.h pa z) (r1.mono (x2.trans x3).f) r3 with ⟨xs, i', j, _, e1, _⟩ | ⟨_, ob, dp, ow⟩
    · have := ow0.mono x13.f fun z => x13.h pa z
      cases tt <;> (obtain ⟨ws, e2, _⟩ := this; rw [e1] at e2; cases e2)
    · exact ⟨_, dp, p F3 _ σ (Step.trans ⟨.of_ext x13 l3, ok.ext x13 l3, fun _ h => .inl h⟩ (Step.upd (ok.ext x13 l3) hi ha ow))⟩
  · refine .inl ⟨.ref pa, ha, runD ok hk fun F1 H1 u x1 o1 r1 => ?_⟩
    cases x with
    | lst ds =>
      obtain ⟨vs, ev1, rvs, _⟩ := ow0.mono x1.f fun z => x1.h pa z
      cases k <;> simp only [opSub] at hy <;> try cases hy
      obtain ⟨w, hw, rw'⟩ := at_of rvs hy
      refine ⟨pa, vs, _, w, rfl, r1, .of ev1, hw, runD o1 he fun F2 H2 v2 x2 o2 r2 => ho y d z F2 H2 w v2 _ hz (rw'.mono x2.f) r2 o2.le fun F3 H3 w3 x3 l3 r3 => ?_⟩
      have x13 := (x1.trans x2).trans x3
      rcases put_at hp l3 (ow0.mono x13.f fun z => x13.h pa z) (r1.mono (x2.trans x3).f) r3 with ⟨xs, i', j, rfl, e1, hj, ow⟩ | ⟨⟨t, kvs, e⟩, _⟩
      · exact ⟨pa, xs, i', j, rfl, rfl, e1, hj, p F3 _ σ (Step.trans ⟨.of_ext x13 l3, ok.ext x13 l3, fun _ h => .inl h⟩ (Step.upd (ok.ext x13 l3) hi ha ow))⟩
      · cases e
    | dic t kvs => exact absurd rfl (hnd t kvs)
    | _ => exact False.elim ow0
/-! ### append, extend -/
theorem s_app {i : Nat} (h : PS X mst (tDrop (tBM K "list" rAppend (L2.tVar i) (tL K G [e])))) : PS X mst (tS K G GI (.app i e)) := h.imp fun D σ H ⟨F, env, r, ok, hx, p⟩ => by
  obtain ⟨x, hxo, hx⟩ := Option.bind_eq_some_iff.mp (show (env.ow i).bind _ = some r from hx)
  obtain ⟨v, hv, hx⟩ := Option.bind_eq_some_iff.mp hx
  have hi := ow_some hxo
  obtain ⟨pa, ha, hf, ow0⟩ := ok.en.own i x hi
  cases x <;> simp only at hx <;> try cases hx
  rename_i xs
  split at hx <;> cases hx
  rename_i hlt
  obtain ⟨vs, e0, _, _⟩ := id ow0
  refine ⟨.ref pa, ha, .inl ⟨rfl, _, .inl (.inl e0)⟩, runL ok (show (ev G env e).bind _ = some [v] by rw [hv]; rfl) fun F1 H1 ws x1 o1 r1 => ?_⟩
  obtain ⟨w, r', rfl, r1, e1⟩ := r1
  cases e1
  obtain ⟨vs, e2, rv, lv⟩ := ow0.mono x1.f fun z => x1.h pa z
  refine ⟨pa, vs, w, rfl, rfl, e2, by rw [rv.length, line_eq]; exact hlt, p F1 _ σ (Step.trans ⟨.of_ext x1 o1.le, o1, fun _ h => .inl h⟩ (Step.upd o1 hi ha ?_))⟩
  exact ⟨_, upd_same, rv.append (.one r1), by simp; omega⟩
theorem s_ext {i : Nat} (h : PS X mst (tDrop (tBM K "list" rExtend (L2.tVar i) (tL K G [e])))) : PS X mst (tS K G GI (.ext i e)) := h.imp fun D σ H ⟨F, env, r, ok, hx, p⟩ => by
  obtain ⟨x, hxo, hx⟩ := Option.bind_eq_some_iff.mp (show (env.ow i).bind _ = some r from hx)
  obtain ⟨v, hv, hx⟩ := Option.bind_eq_some_iff.mp hx
  have hi := ow_some hxo
  obtain ⟨pa, ha, hf, ow0⟩ := ok.en.own i x hi
  cases x <;> try (simp only at hx; cases hx; done)
  cases v <;> try (simp only at hx; cases hx; done)
  rename_i xs _ ys
  have hx : (if xs.length + ys.length ≤ line then some (Fl.nx, env.set i (.own (.lst (xs ++ ys)))) else none) = some r := hx
  have hlt : xs.length + ys.length ≤ line := Decidable.byContradiction fun n => by rw [if_neg n] at hx; cases hx
  rw [if_pos hlt] at hx
  cases hx
  obtain ⟨vs, e0, _, _⟩ := id ow0
  refine ⟨.ref pa, ha, .inl ⟨rfl, _, .inl (.inl e0)⟩, runL ok (show (ev G env e).bind _ = some [_] by rw [hv]; rfl) fun F1 H1 ws x1 o1 r1 => ?_⟩
  obtain ⟨w, r', rfl, r1, e1⟩ := r1
  cases e1
  obtain ⟨b, us, rfl, eb, rb, lb⟩ := r1
  obtain ⟨vs, e2, rv, lv⟩ := ow0.mono x1.f fun z => x1.h pa z
  refine ⟨pa, b, vs, us, rfl, rfl, e2, o1.le.lst eb, by rw [rv.length, rb.length, line_eq]; exact hlt, p F1 _ σ (Step.trans ⟨.of_ext x1 o1.le, o1, fun _ h => .inl h⟩ (Step.upd o1 hi ha ?_))⟩
  exact ⟨_, upd_same, rv.append rb, by simpa using hlt⟩
end
end Rx
end

section
set_option Elab.async false
set_option linter.all false
set_option maxRecDepth 100000
set_option maxHeartbeats 1000000
set_option autoImplicit false
/-! RxCall: calls, parallel assignments. -/
namespace Rx
open PySem PySem.Spec PyProof.Rows L2

/-- a def's promise: it gives back what g says of its arguments' data -/
def spD (K : PySem.W.Frag) (n : Nat) (g : List D → Option D) : Sp := fun vs H Q _ => vs.length = n ∧ ∃ F ds d, FLe F H ∧ RepL K F ds vs ∧ g ds = some d ∧ Want K F H d Q
/-- .. of a def that changes the list that its first argument is -/
def spI (K : PySem.W.Frag) (n : Nat) (g : List D → Option D) : Sp := fun vs H Q _ => vs.length = n ∧ ∃ F a x ds ws d, vs = .ref a :: ws ∧ FLe F H ∧ F a = none ∧ OwnAt K F H a x ∧ RepL K F ds ws ∧ g (x :: ds) = some d ∧
  ∀ F' H', FMono F F' → (∀ b u, H b = some u → b ≠ a → H' b = some u ∧ (isTupO u = false → F' b = F b)) → FLe F' H' → F' a = none → OwnAt K F' H' a d → Q .non H'
/-- x may be called, and does as sp says -/
structure CallC (P : Program) (w : World) (K : PySem.W.Frag) (mg : Str → Option Value) (base : Heap) (A : Around) (x : Str) (n : Nat) (sp : Sp) : Prop where
  ex : ∃ (k : Nat) (fa : Addr) (fd : FuncData) (ps : List Str), ps.length = n ∧ FnOk P w K mg base CX0 k fa fd ps sp ∧ Room k A ∧ mg x = some (.ref fa) ∧ PySem.W.keepIn K (.ref fa) = true ∧ Binds K fd ps []
abbrev CallOk (X : Cx) (x : Str) (n : Nat) (sp : Sp) : Prop := CallC X.prog X.w X.K X.mg X.base X.A x n sp
section
variable {X : Cx} {G GI : Gm} {K : PySem.W.Frag} {F H F1 H1 : Hp} {σ σ1 : St} {env env1 : Env} {e a b : E} {me ma mb : Expr} {mst : Stmt} {msts : List Stmt} {st : S} {sts : List S} {pos : Pos} {Q : VK} {es : List E} {mes : List Expr}
theorem r_call {f n : Nat} {x : Str} {pp : Pos} (c : CallOk X x n (spD X.K n (G f))) (hn : ∀ ds d, G f ds = some d → ds.length = n) (hg : Gl X x) (ha : PA X (me :: mes) (tL X.K G es)) (hdb : (x == ("__debug__" : Str)) = false)
    (he : starEach (me :: mes) X.env = (false, eval me X.env) :: starEach mes X.env) (hpl : (backTo pos (starEach mes X.env)).any (·.1) = false) : PE X (.Call (.Name x pp) (me :: mes) [] pos) (tD X.K G (.call f es)) := by
  obtain ⟨k, fa, fd, ps, hps, F0, hr, hm, hk, hb⟩ := c.ex
  refine (pe_call F0 hr hg hm hk hb .nil (E := E0) pass0 ha hdb he hpl).imp fun σ H Q ⟨F, env, d, o, hd, q⟩ => ?_
  obtain ⟨ds, hds, hd⟩ := Option.bind_eq_some_iff.mp (show (evL G env es).bind _ = some d from hd)
  refine runL o hds fun F1 H1 vs x1 o1 r1 => ?_
  rw [List.append_nil]
  exact ⟨by rw [r1.length, hn ds d hd], F1, ds, d, o1.le, r1, hd, fun F' H' v x2 l2 r2 => q F' H' v (x1.trans x2) l2 r2⟩
/-- f(x, ..) where f changes x -/
theorem s_callIO {f i n : Nat} {x : Str} {pp pos' : Pos} {y : Str} {py : Pos} (c : CallOk X x n (spI X.K n (GI f))) (hn : ∀ ds d, GI f ds = some d → ds.length = n) (hg : Gl X x) (hv : PE X (.Name y py) (L2.tVar i)) (ha : PA X mes (tL X.K G es)) (hdb : (x == ("__debug__" : Str)) = false)
    (hs : starEach (.Name y py :: mes) X.env = (false, eval (.Name y py) X.env) :: starEach mes X.env) (hpl : (backTo pos (starEach mes X.env)).any (·.1) = false) (hsw : swapsWith (.Call (.Name x pp) (.Name y py :: mes) [] pos) none pos'.line X.env = pure false) :
    PS X (.Expr (.Call (.Name x pp) (.Name y py :: mes) [] pos) pos') (tS X.K G GI (.callIO f i es)) := by
  obtain ⟨k, fa, fd, ps, hps, F0, hr, hm, hk, hb⟩ := c.ex
  refine (ps_expr (pe_call F0 hr hg hm hk hb .nil (E := E0) pass0 (pa_cons hv ha hs) hdb hs hpl) hsw).imp fun D σ H ⟨F, env, r, ok, hx, p⟩ => ?_
  obtain ⟨x, hxo, hx⟩ := Option.bind_eq_some_iff.mp (show (env.ow i).bind _ = some r from hx)
  obtain ⟨ds, hds, hx⟩ := Option.bind_eq_some_iff.mp hx
  obtain ⟨d, hd, rfl⟩ := Option.map_eq_some_iff.mp hx
  have hi := ow_some hxo
  obtain ⟨pa, ha', hf, ow0⟩ := ok.en.own i x hi
  refine ⟨.ref pa, ha', runL ok hds fun F1 H1 ws x1 o1 r1 => ?_⟩
  show spI X.K n (GI f) ((.ref pa :: ws) ++ []) H1 _ _
  rw [List.append_nil]
  obtain ⟨pa', e1, hf1, ow1⟩ := o1.en.own i x hi
  rw [ha'] at e1; cases e1
  have hl := hn _ _ hd
  refine ⟨by simp at hl ⊢; rw [r1.length]; exact hl, F1, pa, x, ds, ws, d, rfl, o1.le, hf1, ow1, r1, hd, fun F' H' fm kp l' f' w' => ?_⟩
  have s1 : Step (mkS (.callIO f i es) = true) X.K F H σ env F1 H1 σ env := ⟨.of_ext x1 o1.le, o1, fun _ h => .inl h⟩
  refine p F' H' σ (s1.trans ⟨⟨fm, fun b u e nn => ?_, fun b u e nt nn => ?_, l'⟩, ⟨l', by rw [List.length_set]; exact o1.en.len, fun j e h => ?_, fun j e h => ?_, fun j k' e e' b hjk h1 h2 h3 => ?_⟩, fun b ⟨j, e, h1, h2⟩ => .inl ?_⟩)
  · exact (kp b u e fun z => nn ⟨i, x, hi, by rw [z]; exact ha'⟩).1
  · exact (kp b u e fun z => nn ⟨i, x, hi, by rw [z]; exact ha'⟩).2 nt
  · rcases set_get h with ⟨_, h, _⟩ | ⟨_, h⟩
    · cases h
    · obtain ⟨v, q1, q2⟩ := o1.en.val j e h
      exact ⟨v, q1, q2.mono fm⟩
  · rcases set_get h with ⟨rfl, h, _⟩ | ⟨hj, h⟩
    · cases h; exact ⟨pa, ha', f', w'⟩
    · obtain ⟨b, e1, e2, wb⟩ := o1.en.own j e h
      have hb : b ≠ pa := fun q => o1.en.sep i j x e pa (Ne.symm hj) hi h ha' (by rw [← q]; exact e1)
      obtain ⟨u, hu, nt⟩ := wb.there
      exact ⟨b, e1, ((kp b u hu hb).2 nt).trans e2, wb.mono fm fun z q => (kp b z q hb).1⟩
  · have g1 : ∃ e0, env[j]? = some (.own e0) := by
      rcases set_get h1 with ⟨rfl, _, _⟩ | ⟨_, h⟩
      · exact ⟨x, hi⟩
      · exact ⟨e, h⟩
    have g2 : ∃ e0, env[k']? = some (.own e0) := by
      rcases set_get h2 with ⟨rfl, _, _⟩ | ⟨_, h⟩
      · exact ⟨x, hi⟩
      · exact ⟨e', h⟩
    obtain ⟨e0, g1⟩ := g1
    obtain ⟨e1, g2⟩ := g2
    exact o1.en.sep j k' e0 e1 b hjk g1 g2 h3
  · rcases set_get h1 with ⟨rfl, _, _⟩ | ⟨_, h1⟩
    · exact ⟨j, x, hi, h2⟩
    · exact ⟨j, e, h1, h2⟩

/-! ### a, b = x, y -/
/-- what is stored: frozen, or new -/
def RepP (K : PySem.W.Frag) (H F' H' : Hp) : List (Nat × Bool) → List D → List V → List Addr → Prop
  | [], [], vs, as => vs = [] ∧ as = []
  | (_, o) :: ts, d :: ds, vs, as => ∃ v r, vs = v :: r ∧ if o then ∃ a as', as = a :: as' ∧ v = .ref a ∧ H a = none ∧ F' a = none ∧ OwnAt K F' H' a d ∧ a ∉ as' ∧ RepP K H F' H' ts ds r as' else Rep K F' d v ∧ RepP K H F' H' ts ds r as
  | _, _, _, _ => False
theorem RepP.fresh {H F' H' : Hp} : ∀ {ts : List (Nat × Bool)} {ds : List D} {vs : List V} {as : List Addr}, RepP K H F' H' ts ds vs as → ∀ a ∈ as, H a = none
  | [], [], _, _, h, a, ha => by obtain ⟨_, rfl⟩ := h; cases ha
  | (_, true) :: ts, d :: ds, _, _, h, a, ha => by
    obtain ⟨v, r, rfl, b, as', rfl, rfl, n, _, _, _, h⟩ := h
    rcases List.mem_cons.mp ha with rfl | ha
    · exact n
    · exact RepP.fresh h a ha
  | (_, false) :: ts, d :: ds, _, _, h, a, ha => by
    obtain ⟨v, r, rfl, _, h⟩ := h
    exact RepP.fresh h a ha
  | [], _ :: _, _, _, h, _, _ => False.elim h
  | (_, _) :: _, [], _, _, h, _, _ => False.elim h
/-- the base may be older -/
theorem RepP.old {H0 H F' H' : Hp} (k : ∀ a, H a = none → H0 a = none) : ∀ {ts : List (Nat × Bool)} {ds : List D} {vs : List V} {as : List Addr}, RepP K H F' H' ts ds vs as → RepP K H0 F' H' ts ds vs as
  | [], [], _, _, h => h
  | (_, true) :: ts, d :: ds, _, _, h => by
    obtain ⟨v, r, rfl, b, as', rfl, rfl, n, h1, h2, h3, h⟩ := h
    exact ⟨_, r, rfl, b, as', rfl, rfl, k b n, h1, h2, h3, RepP.old k h⟩
  | (_, false) :: ts, d :: ds, _, _, h => by
    obtain ⟨v, r, rfl, h1, h⟩ := h
    exact ⟨v, r, rfl, h1, RepP.old k h⟩
  | [], _ :: _, _, _, h => False.elim h
  | (_, _) :: _, [], _, _, h => False.elim h
/-- the heap may grow -/
theorem RepP.ext {H F' H' F2 H2 : Hp} (x : Ext F' H' F2 H2) : ∀ {ts : List (Nat × Bool)} {ds : List D} {vs : List V} {as : List Addr}, RepP K H F' H' ts ds vs as → RepP K H F2 H2 ts ds vs as
  | [], [], _, _, h => h
  | (_, true) :: ts, d :: ds, _, _, h => by
    obtain ⟨v, r, rfl, b, as', rfl, rfl, n, h1, h2, h3, h⟩ := h
    obtain ⟨u, hu, nt⟩ := h2.there
    exact ⟨_, r, rfl, b, as', rfl, rfl, n, (x.n b u hu nt).trans h1, h2.mono x.f fun u => x.h b u, h3, RepP.ext x h⟩
  | (_, false) :: ts, d :: ds, _, _, h => by
    obtain ⟨v, r, rfl, h1, h⟩ := h
    exact ⟨v, r, rfl, h1.mono x.f, RepP.ext x h⟩
  | [], _ :: _, _, _, h => False.elim h
  | (_, _) :: _, [], _, _, h => False.elim h
def tP (K : PySem.W.Frag) (G : Gm) (ts : List (Nat × Bool)) (es : List E) : TA := fun σ H Q => ∃ F env ds, Ok K F H σ env ∧ evL G env es = some ds ∧ ∀ F' H' vs as, Ext F H F' H' → FLe F' H' → RepP K H F' H' ts ds vs as → Q vs H'
theorem p_nil : PA X [] (tP K G [] []) := pa_nil.imp fun σ H Q ⟨F, env, d, o, hd, k⟩ => by
  cases hd; exact k _ _ _ _ (.refl F H) o.le ⟨rfl, rfl⟩
theorem none_of {a : Addr} (x : Ext F H F1 H1) (n : H1 a = none) : H a = none := by
  cases e : H a with
  | none => rfl
  | some u => rw [x.h a u e] at n; cases n
theorem p_val {i : Nat} {ts : List (Nat × Bool)} (ha : PE X ma (tD K G a)) (hr : PA X mes (tP K G ts es)) (hs : starEach (ma :: mes) X.env = (false, eval ma X.env) :: starEach mes X.env) : PA X (ma :: mes) (tP K G ((i, false) :: ts) (a :: es)) := (pa_cons ha hr hs).imp fun σ H Q ⟨F, env, d, o, hd, k⟩ => by
  obtain ⟨x, hx, hd⟩ := Option.bind_eq_some_iff.mp (show (ev G env a).bind _ = some d from hd)
  obtain ⟨xs, hxs, rfl⟩ := Option.map_eq_some_iff.mp hd
  exact runD o hx fun F1 H1 v x1 o1 r1 => ⟨F1, env, xs, o1, hxs, fun F2 H2 vs as x2 l2 r2 => k _ _ _ as (x1.trans x2) l2 ⟨v, vs, rfl, r1.mono x2.f, r2.old fun a => none_of x1⟩⟩
theorem p_new {i : Nat} {ts : List (Nat × Bool)} (ha : PE X ma (tN K G a)) (hr : PA X mes (tP K G ts es)) (hs : starEach (ma :: mes) X.env = (false, eval ma X.env) :: starEach mes X.env) : PA X (ma :: mes) (tP K G ((i, true) :: ts) (a :: es)) := (pa_cons ha hr hs).imp fun σ H Q ⟨F, env, d, o, hd, k⟩ => by
  obtain ⟨x, hx, hd⟩ := Option.bind_eq_some_iff.mp (show (ev G env a).bind _ = some d from hd)
  obtain ⟨xs, hxs, rfl⟩ := Option.map_eq_some_iff.mp hd
  refine ⟨F, env, x, o, hx, fun F1 H1 b x1 l1 n f w => ⟨F1, env, xs, o.ext x1 l1, hxs, fun F2 H2 vs as x2 l2 r2 => ?_⟩⟩
  obtain ⟨u, hu, nt⟩ := w.there
  refine k _ _ _ (b :: as) (x1.trans x2) l2 ⟨.ref b, vs, rfl, b, as, rfl, rfl, n, (x2.n b u hu nt).trans f, w.mono x2.f fun u => x2.h b u, fun hm => ?_, r2.old fun a => none_of x1⟩
  have := r2.fresh b hm
  rw [hu] at this; cases this
/-- stored one after another -/
theorem stores_ok : ∀ {ts : List (Nat × Bool)} {ds : List D} {vs : List V} {as : List Addr} {σ : St} {env env' : Env}, Ok K F1 H1 σ env → RepP K H F1 H1 ts ds vs as → stores ts ds env = some env' → (∀ a ∈ as, NoOwn σ env a) →
    Ok K F1 H1 (((ts.map (·.1)).zip vs).foldl (fun s p => s.set p.1 (some p.2)) σ) env' ∧ ∀ b, Own (((ts.map (·.1)).zip vs).foldl (fun s p => s.set p.1 (some p.2)) σ) env' b → Own σ env b ∨ H b = none
  | [], [], _, _, σ, env, env', o, h, hs, _ => by cases hs; exact ⟨o, fun b h => .inl h⟩
  | (i, true) :: ts, d :: ds, _, _, σ, env, env', o, h, hs, hno => by
    obtain ⟨v, r, rfl, a, as', rfl, rfl, n, f, w, na, h⟩ := h
    have o2 : Ok K F1 H1 (σ.set i (some (.ref a))) (env.set i (.own d)) := ⟨o.le, o.en.setO f w fun j e _ q => hno a List.mem_cons_self j e q⟩
    have hno2 : ∀ b ∈ as', NoOwn (σ.set i (some (.ref a))) (env.set i (.own d)) b := fun b hb j e h1 h2 => by
      rcases own_setO ⟨j, e, h1, h2⟩ with ⟨j', e', q1, q2⟩ | q
      · exact hno b (List.mem_cons_of_mem _ hb) j' e' q1 q2
      · exact na (by rw [← q]; exact hb)
    obtain ⟨o3, ow3⟩ := stores_ok o2 h hs hno2
    refine ⟨o3, fun b hb => ?_⟩
    rcases ow3 b hb with q | q
    · rcases own_setO q with q | rfl
      · exact .inl q
      · exact .inr n
    · exact .inr q
  | (i, false) :: ts, d :: ds, _, _, σ, env, env', o, h, hs, hno => by
    obtain ⟨v, r, rfl, rv, h⟩ := h
    have o2 : Ok K F1 H1 (σ.set i (some v)) (env.set i (.val d)) := ⟨o.le, o.en.set rv⟩
    have hno2 : ∀ b ∈ _, NoOwn (σ.set i (some v)) (env.set i (.val d)) b := fun b hb j e h1 h2 => by
      obtain ⟨j', e', q1, q2⟩ := own_set ⟨j, e, h1, h2⟩
      exact hno b hb j' e' q1 q2
    obtain ⟨o3, ow3⟩ := stores_ok o2 h hs hno2
    refine ⟨o3, fun b hb => ?_⟩
    rcases ow3 b hb with q | q
    · exact .inl (own_set q)
    · exact .inr q
  | [], _ :: _, _, _, _, _, _, _, h, _, _ => False.elim h
  | (_, _) :: _, [], _, _, _, _, _, _, h, _, _ => False.elim h
/-- what a parallel assignment wants -/
def tPar (is : List Nat) (ta : TA) : TS := fun Dn σ H => ta σ H fun vs H1 => vs.length = is.length ∧ Dn.nx ((is.zip vs).foldl (fun s p => s.set p.1 (some p.2)) σ) H1
theorem RepP.length {H F' H' : Hp} : ∀ {ts : List (Nat × Bool)} {ds : List D} {vs : List V} {as : List Addr}, RepP K H F' H' ts ds vs as → vs.length = ts.length
  | [], [], _, _, h => by obtain ⟨rfl, _⟩ := h; rfl
  | (_, true) :: ts, d :: ds, _, _, h => by
    obtain ⟨v, r, rfl, b, as', rfl, rfl, n, h1, h2, h3, h⟩ := h
    simp [RepP.length h]
  | (_, false) :: ts, d :: ds, _, _, h => by
    obtain ⟨v, r, rfl, h1, h⟩ := h
    simp [RepP.length h]
  | [], _ :: _, _, _, h => False.elim h
  | (_, _) :: _, [], _, _, h => False.elim h
theorem s_asgP {ts : List (Nat × Bool)} (h : PS X mst (tPar (ts.map (·.1)) (tP K G ts es))) : PS X mst (tS K G GI (.asgP ts es)) := h.imp fun Dn σ H ⟨F, env, r, ok, hx, p⟩ => by
  obtain ⟨ds, hds, hx⟩ := Option.bind_eq_some_iff.mp (show (evL G env es).bind _ = some r from hx)
  obtain ⟨env', hs, rfl⟩ := Option.map_eq_some_iff.mp hx
  refine ⟨F, env, ds, ok, hds, fun F' H' vs as x l rp => ⟨by rw [rp.length, List.length_map], ?_⟩⟩
  obtain ⟨o2, ow2⟩ := stores_ok (ok.ext x l) rp hs fun a ha => own_ne ok (rp.fresh a ha)
  exact p F' H' _ ⟨.of_ext x l, o2, fun b h => (ow2 b h).imp id fun n => ⟨n, rfl⟩⟩
theorem tP_mono {ts : List (Nat × Bool)} {Q Q' : List V → Hp → Prop} (h : tP K G ts es σ H Q) (m : ∀ vs H', Q vs H' → Q' vs H') : tP K G ts es σ H Q' :=
  let ⟨F, env, ds, o, hd, k⟩ := h; ⟨F, env, ds, o, hd, fun F' H' vs as x l r => m vs H' (k F' H' vs as x l r)⟩
/-- by the library's rules -/
theorem par2 {i j : Nat} {ts : List (Nat × Bool)} (h : PS X mst (L2.tPar i j (tP K G ts es))) : PS X mst (tPar [i, j] (tP K G ts es)) := h.imp fun Dn σ H q => tP_mono q fun vs H' ⟨hl, hn⟩ => by
  match vs, hl with
  | [v, w], _ => exact ⟨v, w, rfl, hn⟩
theorem par3 {i j l : Nat} {ts : List (Nat × Bool)} (h : PS X mst (L2.tPar3 i j l (tP K G ts es))) : PS X mst (tPar [i, j, l] (tP K G ts es)) := h.imp fun Dn σ H q => tP_mono q fun vs H' ⟨hl, hn⟩ => by
  match vs, hl with
  | [u, v, w], _ => exact ⟨u, v, w, rfl, hn⟩
/-- names stored one after another -/
def gNames : List Nat → TGs
  | [] => gNil
  | i :: is => gCons (gName i) (gNames is)
theorem gNames_run : ∀ (is : List Nat) (vs : List V) {σ : St} {H : Hp} {Q : St → Hp → Prop}, vs.length = is.length → Q ((is.zip vs).foldl (fun s p => s.set p.1 (some p.2)) σ) H → gNames is vs σ H Q
  | [], [], _, _, _, _, q => ⟨rfl, q⟩
  | i :: is, v :: vs, _, _, _, hl, q => ⟨v, vs, rfl, gNames_run is vs (by simpa using hl) q⟩
  | [], _ :: _, _, _, _, hl, _ => by simp at hl
  | _ :: _, [], _, _, _, hl, _ => by simp at hl
theorem s_asgPN {ts : List (Nat × Bool)} (hl : ts.length ≤ sizeLine) (h : PS X mst (tAsg (tTup (tP K G ts es)) (gTup K ts.length (gNames (ts.map (·.1)))))) : PS X mst (tS K G GI (.asgP ts es)) := h.imp fun Dn σ H ⟨F, env, r, ok, hx, p⟩ => by
  obtain ⟨ds, hds, hx⟩ := Option.bind_eq_some_iff.mp (show (evL G env es).bind _ = some r from hx)
  obtain ⟨env', hs, rfl⟩ := Option.map_eq_some_iff.mp hx
  refine ⟨F, env, ds, ok, hds, fun F' H' vs as x l rp => ⟨by rw [rp.length]; exact hl, fun q n => ⟨q, vs, rfl, .of upd_same, rp.length, gNames_run _ vs (by rw [rp.length, List.length_map]) ?_⟩⟩⟩
  have x2 : Ext F H F' (upd H' q (.tup vs)) := x.trans (.made n)
  have rp2 := rp.ext (Ext.made (F := F') (o := .tup vs) n)
  obtain ⟨o2, ow2⟩ := stores_ok (ok.ext x2 (l.made n)) rp2 hs fun a ha => own_ne ok (rp.fresh a ha)
  exact p F' _ _ ⟨.of_ext x2 (l.made n), o2, fun b h => (ow2 b h).imp id fun n => ⟨n, rfl⟩⟩
end
end Rx
end

section
set_option Elab.async false
set_option linter.all false
set_option maxRecDepth 100000
set_option maxHeartbeats 1000000
set_option autoImplicit false
/-! RxBlt: isinstance; sum, min, max of lists and tuples. -/
namespace Rx
open PySem PySem.Spec PyProof.Rows L2

section
variable {X : Cx} {G : Gm} {K : PySem.W.Frag} {F H : Hp} {σ : St} {env : Env} {Q : VK} {e a : E} {me ma : Expr} {pos : Pos} {pins : List (Addr × Obj)} {s : Shared}
/-! ### isinstance -/
def tyN : D → Option String
  | .non => some "NoneType" | .bl _ => some "bool" | .int _ => some "int" | .tup _ => some "tuple" | .lst _ => some "list" | _ => none
theorem ty_of {x : D} {v : V} {n : String} (h : tyN x = some n) (l : FLe F H) (r : RepB K F H x v) : TyX K H v (.type n) := by
  cases x <;> simp only [tyN] at h <;> cases h
  · rw [r.non]; exact .base .non
  · rw [r.bl]; exact .base (.bl _)
  · rw [r.int]; exact .base (.int _)
  · obtain ⟨a, vs, rfl, e, _⟩ := r.tup
    exact .base (.tup (l.tup e))
  · obtain ⟨a, vs, rfl, e, _⟩ := r.lst l
    exact .base (.lst e)
/-- the class that a test asks for -/
def isaN : B1 → Option String
  | .isInt => some "int" | .isBool => some "bool" | .isTup => some "tuple" | .isStr => some "str" | _ => none
theorem isa_ok {f : B1} {T : String} (hf : isaN f = some T) {x z : D} {v : V} (hz : opU f x = some z) (l : FLe F H) (r : RepB K F H x v) (k : Want K F H z Q) : rIsi K [v, .ty T] H Q := by
  have key : ∃ n b, tyN x = some n ∧ z = .bl b ∧ kitB n T = some b := by
    cases f <;> simp only [isaN] at hf <;> cases hf <;> cases x <;> simp only [opU] at hz <;> cases hz <;> exact ⟨_, _, rfl, rfl, by decide +kernel⟩
  obtain ⟨n, b, hn, rfl, hk⟩ := key
  exact ⟨v, .ty T, .type n, .type T, b, rfl, .ty T, ty_of hn l r, kit_ty hk, k.flat l rfl⟩
theorem r_isa {f : B1} {T : String} {pp pT : Pos} {u : Value} (hf : isaN f = some T) (hg : Gl X "isinstance") (hm : X.mg "isinstance" = none) (ha : PE X ma (tB X.K G a)) (hT : PE X (.Name T pT) (tC (.ty T))) (hs : starEach [ma, .Name T pT] X.env = (false, eval ma X.env) :: starEach [.Name T pT] X.env) :
    PE X (.Call (.Name "isinstance" pp) [ma, .Name T pT] [] pos) (tD X.K G (.b1 f a)) :=
  (pe_callB call_isi hg hm (by decide +kernel) (pa_cons ha (pa_cons hT pa_nil rfl) hs) (by decide) (by decide) hs rfl).imp fun σ H Q ⟨F, env, z, ok, hd, k⟩ => by
    obtain ⟨x, hx, hd⟩ := Option.bind_eq_some_iff.mp (show (bo env a (ev G env a)).bind _ = some z from hd)
    exact runB ok hx fun F1 H1 v x1 o1 r1 => isa_ok hf hd o1.le r1 fun F' H' w x2 => k F' H' w (x1.trans x2)

/-! ### an iterator over a list or a tuple -/
theorem inv_moved {ob : Obj} {s' : Shared} (I : Inv X pins σ H s) (m : Moved [s.heap.objs.size] (fun a b => b = a) { s with heap := s.heap.push ob } s') : Inv X pins σ H s' := by
  obtain ⟨h', g', d', t', os'⟩ := s'
  have e1 : g' = s.gens := m.gens
  have e2 : d' = s.drawn := m.drawn
  have e3 : os' = s.os := m.os
  subst e1 e2 e3
  refine I.kept (t' := t') fun b o e => m.heap b o (fun hm => ?_) (Heap.get?_push_of_some _ e)
  have : b = s.heap.objs.size := by simpa using hm
  exact absurd (Heap.lt_size e) (by rw [this]; exact Nat.lt_irrefl _)
theorem seq_iter (I : Inv X pins σ H s) {a : Addr} {vs : List V} (h : H a = some (.lst vs) ∨ H a = some (.tup vs)) {A' : Around} {E : Value → Shared → Prop} {R : Value → Shared → Prop}
    (k : ∀ (its : List Value) (ob : Obj), Vals vs its → (∀ A'' : Around, A''.handled = none → ∃ fp St, WalksS X.prog X.w A'' s.heap.objs.size fp [s.heap.objs.size] (fun a b => b = a) its.length (fun i v => its[i]? = some v) St ∧ St 0 { s with heap := s.heap.push ob } ∧ (∀ b ∈ fp, b < (s.heap.push ob).objs.size)) →
      R (.ref s.heap.objs.size) { s with heap := s.heap.push ob }) : wpAny (model X.prog X.w) A' (pyIter (.ref a)) R E s := by
  rcases h with h | h
  · obtain ⟨its, rv, p, hz⟩ := I.list (SqL.of h)
    have hl := p.isList
    have hlt : a < s.heap.objs.size := by obtain ⟨o, e, _⟩ := hl; exact Heap.lt_size e
    refine wpAny_pyIter_list hl (k its _ rv fun A'' hh => ?_)
    have W := (Walks.list (prog := X.prog) (w := X.w) hh s.heap.objs.size a (Nat.ne_of_lt hlt) its.toArray).toS
    simp only [List.size_toArray, List.getElem?_toArray] at W
    refine ⟨[s.heap.objs.size, a], _, W, ⟨⟨_, Heap.get?_push_size _ rfl, rfl, rfl⟩, hl.at fun o e => Heap.get?_push_of_some _ e⟩, fun b hb => ?_⟩
    have e : ∀ o, (s.heap.push o).objs.size = s.heap.objs.size + 1 := Heap.size_push _
    rw [e]
    rcases (by simpa using hb : b = s.heap.objs.size ∨ b = a) with z | z
    · rw [z]; exact Nat.lt_succ_self _
    · rw [z]; exact Nat.lt_succ_of_lt hlt
  · obtain ⟨its, rv, p, hz⟩ := I.tuple (SqT.of h)
    have hl : s.heap.IsTuple a its.toArray := p
    have hlt : a < s.heap.objs.size := p.lt
    refine wpAny_pyIter_tuple hl (k its _ rv fun A'' hh => ?_)
    have W := (Walks.tuple (prog := X.prog) (w := X.w) hh s.heap.objs.size a (Nat.ne_of_lt hlt) its.toArray).toS
    simp only [List.size_toArray, List.getElem?_toArray] at W
    refine ⟨[s.heap.objs.size, a], _, W, ⟨⟨_, Heap.get?_push_size _ rfl, rfl, rfl⟩, hl.at fun o e => Heap.get?_push_of_some _ e⟩, fun b hb => ?_⟩
    have e : ∀ o, (s.heap.push o).objs.size = s.heap.objs.size + 1 := Heap.size_push _
    rw [e]
    rcases (by simpa using hb : b = s.heap.objs.size ∨ b = a) with z | z
    · rw [z]; exact Nat.lt_succ_self _
    · rw [z]; exact Nat.lt_succ_of_lt hlt
/-- the values of a list or a tuple -/
def SeqV (H : Hp) (v : V) (vs : List V) : Prop := ∃ a, v = .ref a ∧ (H a = some (.lst vs) ∨ H a = some (.tup vs))
theorem seqV_of {x : D} {xs : List D} {v : V} (h : x.seq? = some xs) (l : FLe F H) (r : RepB K F H x v) : ∃ vs, SeqV H v vs ∧ RepL K F xs vs ∧ xs.length ≤ line := by
  rcases seq_some h with rfl | rfl
  · obtain ⟨a, vs, rfl, e, r, z⟩ := r.tup
    exact ⟨vs, ⟨a, rfl, .inr (l.tup e)⟩, r, z⟩
  · obtain ⟨a, vs, rfl, e, r, z⟩ := r.lst l
    exact ⟨vs, ⟨a, rfl, .inl e⟩, r, z⟩

/-! ### sum -/
def rSumA : List V → Hp → VK → Prop := fun vs H Q => ∃ (v : V) (ns : List Int), vs = [v] ∧ SeqV H v (ns.map V.int) ∧ Q (.int ns.sum) H
theorem preSum_of (ns : List Int) : ∀ k, k ≤ ns.length → preSum (fun i => ns.getD i 0) k = (ns.take k).sum
  | 0, _ => rfl
  | k + 1, h => by
    have hk : k < ns.length := h
    rw [preSum, preSum_of ns k (by omega), List.take_add_one, List.getElem?_eq_getElem hk, List.sum_append]
    simp [List.getD_eq_getElem?_getD, hk]
theorem call_sumA (hc : X.calm = true) : CallR X (.builtin "sum") rSumA := by
  intro pins s σ H xs us Q I r ⟨v, ns, e, ⟨a, e2, h⟩, q⟩
  subst e e2
  obtain ⟨u, rfl, ru⟩ := vals1 r
  cases ru
  have hh : X.A.in1.in1.handled = none := I.ok.hd hc
  refine call_sum_walkAnyS (seq_iter I h fun its ob rv w => ?_)
  obtain ⟨fp, St, W, h0, hb⟩ := w X.A.in1 (I.ok.hd hc)
  have hl : its.length = ns.length := by have := rv.length; simp at this; omega
  refine ⟨_, fp, _, _, its.length, _, St, fun i => ns.getD i 0, rfl, W, h0, hb, fun i v hv => ?_, fun s' t' m => ⟨.int ns.sum, H, inv_moved I m, ⟨t', ?_⟩, q⟩⟩
  · have hi : i < ns.length := by rw [← hl]; exact (List.getElem?_eq_some_iff.mp hv).1
    obtain ⟨u, hu, ru⟩ := rv.get (i := i) (x := .int ns[i]) (by simp [hi])
    rw [hv] at hu; cases hu
    obtain ⟨t, rfl⟩ := ru
    exact ⟨t, by simp [List.getD_eq_getElem?_getD, hi]⟩
  · rw [hl, preSum_of ns _ (Nat.le_refl _), List.take_length]
theorem sum_ok : B1ok K .sum rSumA := by
  intro x z F H v Q hz l rx k
  obtain ⟨xs, hxs, hz⟩ := Option.bind_eq_some_iff.mp (show x.seq?.bind _ = some z from hz)
  obtain ⟨ns, hns, rfl⟩ := Option.map_eq_some_iff.mp hz
  obtain rfl := ints_eq hns
  obtain ⟨vs, sv, r, _⟩ := seqV_of hxs l rx
  obtain rfl := r.ints
  exact ⟨v, ns, rfl, sv, k.flat l rfl⟩

/-! ### min, max -/
/-- the least one by its place -/
theorem least_at (ms : List D) : ∀ (m : D) (xs pre : List D) (j : Nat), ms = pre ++ xs → ms[j]? = some m → j < pre.length → argBest (fun i j => D.ltb (ms.getD i .non) (ms.getD j .non)) (pre.length - 1) = j →
    ms[argBest (fun i j => D.ltb (ms.getD i .non) (ms.getD j .non)) (ms.length - 1)]? = some (leastD m xs)
  | m, [], pre, j, e0, h, hj, e => by
    rw [List.append_nil] at e0
    subst e0
    rw [e, h]; rfl
  | m, x :: xs, pre, j, e0, h, hj, e => by
    have e1 : ms = (pre ++ [x]) ++ xs := by simp [e0]
    have hx : ms[pre.length]? = some x := by simp [e0]
    have hx' : ms.getD pre.length .non = x := by rw [List.getD_eq_getElem?_getD, hx]; rfl
    have hm' : ms.getD j .non = m := by rw [List.getD_eq_getElem?_getD, h]; rfl
    have step : argBest (fun i j => D.ltb (ms.getD i .non) (ms.getD j .non)) pre.length = if D.ltb x m then pre.length else j := by
      have hp : pre.length = (pre.length - 1) + 1 := by omega
      rw [hp, argBest, e, ← hp, hx', hm']
    unfold leastD
    cases hlt : D.ltb x m with
    | true =>
      rw [hlt] at step
      exact least_at ms x xs (pre ++ [x]) pre.length e1 hx (by simp) (by simpa using step)
    | false =>
      rw [hlt] at step
      exact least_at ms m xs (pre ++ [x]) j e1 h (by simp; omega) (by simpa using step)
theorem least_place (y : D) (ys : List D) : (y :: ys)[argBest (fun i j => D.ltb ((y :: ys).getD i .non) ((y :: ys).getD j .non)) ((y :: ys).length - 1)]? = some (leastD y ys) :=
  least_at (y :: ys) y ys [y] 0 rfl rfl (by simp) rfl
theorem reads_get {h : Heap} : ∀ {its : List Value} {ds : List PyData} {as : List Addr} {i : Nat} {v : Value}, ReadsAll h its ds as → its[i]? = some v → ∃ d bs, ds[i]? = some d ∧ Reads h v d bs
  | _, _, _, i, v, .nil, e => by simp at e
  | _, _, _, 0, v, .cons r _, e => by simp at e; subst e; exact ⟨_, _, rfl, r⟩
  | _, _, _, i + 1, v, .cons _ t, e => by
    obtain ⟨d, bs, h1, h2⟩ := reads_get (i := i) t (by simpa using e)
    exact ⟨d, bs, by simpa using h1, h2⟩
def rMinA (K : PySem.W.Frag) : List V → Hp → VK → Prop := fun vs H Q => ∃ (v : V) (ws : List V) (y : D) (ys : List D), vs = [v] ∧ SeqV H v ws ∧ DpAll K H ws (D.toPyL (y :: ys)) ∧ alikeAll (y :: ys) = true ∧ D.depthL (y :: ys) < 60 ∧
  ∀ (i : Nat) w, ws[i]? = some w → (y :: ys)[i]? = some (leastD y ys) → Q w H
theorem depth_at {xs : List D} {d : D} (h : d ∈ xs) : D.depth d ≤ D.depthL xs := by
  induction xs with
  | nil => cases h
  | cons x xs ih =>
    rw [D.depthL]
    rcases List.mem_cons.mp h with rfl | h
    · omega
    · have := ih h; omega
theorem alike_all {xs : List D} (h : alikeAll xs = true) {x y : D} (hx : x ∈ xs) (hy : y ∈ xs) : D.alike x y = true := by
  unfold alikeAll at h
  rw [List.all_eq_true] at h
  exact List.all_eq_true.mp (h x hx) y hy
theorem call_minA (hc : X.calm = true) (hu : X.A.units + 65 < cLine) : CallR X (.builtin "min") (rMinA X.K) := by
  intro pins s σ H xs us Q I r ⟨v, ws, y, ys, e, ⟨a, e2, h⟩, dp, al, dep, q⟩
  subst e e2
  obtain ⟨u, rfl, ru⟩ := vals1 r
  cases ru
  refine call_min_walkH (seq_iter I h fun its ob rv w => ?_)
  obtain ⟨fp, St, W, h0, hb⟩ := w X.A.in1 (I.ok.hd hc)
  obtain ⟨as, ra⟩ := Dp.readsAll I _ _ _ dp rv
  have hl : its.length = (y :: ys).length := by
    have h1 := rv.length
    have : ∀ {vs : List V} {ds : List PyData}, DpAll X.K H vs ds → vs.length = ds.length := by
      intro vs
      induction vs with
      | nil => intro ds h; cases h; rfl
      | cons v vs ih => intro ds h; cases h with | cons _ h => simp [ih h]
    have h2 := this dp
    rw [toPyL_eq, List.length_map] at h2
    omega
  have item : ∀ {i : Nat} {v : Value}, its[i]? = some v → ∃ d bs, (y :: ys)[i]? = some d ∧ Reads s.heap v (D.toPy d) bs := fun {i v} e => by
    obtain ⟨d, bs, h1, h2⟩ := reads_get ra e
    rw [toPyL_eq, List.getElem?_map] at h1
    obtain ⟨d', h3, rfl⟩ := Option.map_eq_some_iff.mp h1
    exact ⟨d', bs, h3, h2⟩
  refine ⟨_, fp, _, _, its.length, _, St, s.heap, fun i j => D.ltb ((y :: ys).getD i .non) ((y :: ys).getD j .non), rfl, W, h0, hb, by rw [hl]; simp, fun b o e => ?_, fun b o e => Heap.get?_push_of_some _ e, fun i j vi vj s' Q' E' keep h1 h2 hQ => ?_, fun v' s' hv m => ?_⟩
  · intro hm
    have : b = s.heap.objs.size := by simpa using hm
    exact absurd (Heap.lt_size e) (by rw [this]; exact Nat.lt_irrefl _)
  · obtain ⟨d, bs, e1, r1⟩ := item h1
    obtain ⟨d', bs', e2, r2⟩ := item h2
    have m1 := List.mem_of_getElem? e1
    have m2 := List.mem_of_getElem? e2
    have hal := alike_all al m1 m2
    have hq : Q' (.bool (D.ltb d d')) s' := by
      have g1 : (y :: ys).getD i .non = d := by rw [List.getD_eq_getElem?_getD, e1]; rfl
      have g2 : (y :: ys).getD j .non = d' := by rw [List.getD_eq_getElem?_getD, e2]; rfl
      have hQ' : Q' (.bool (D.ltb ((y :: ys).getD i .non) ((y :: ys).getD j .non))) s' := hQ
      rw [g1, g2] at hQ'; exact hQ'
    have hd := toPy_depth d
    have hd2 := depth_at m1
    refine PySem.W.rcLt_alike _ _ X.A.in1 s' vi vj bs bs' (Reads.keeps keep r1) (Reads.keeps keep r2) (alike_plain d d' hal) (fun z => ?_) ?_ _ _ _ _ (by rw [toPy_lt d d' hal]; exact hq)
    · cases d <;> first | (simp [D.toPy] at z; done) | (simp [D.alike] at hal; done)
    · show X.A.units + 1 + _ < _
      omega
  · have hp := least_place y ys
    rw [hl] at hv
    obtain ⟨d, bs, e1, r1⟩ := item hv
    have hi : argBest (fun i j => D.ltb ((y :: ys).getD i .non) ((y :: ys).getD j .non)) ((y :: ys).length - 1) < ws.length := by
      rw [rv.length]; exact (List.getElem?_eq_some_iff.mp hv).1
    obtain ⟨u, hu', ru⟩ := rv.get (List.getElem?_eq_getElem hi)
    rw [hv] at hu'; cases hu'
    exact ⟨_, H, inv_moved I m, ru, q _ _ (List.getElem?_eq_getElem hi) hp⟩
theorem min_ok : B1ok K .min (rMinA K) := by
  intro x z F H v Q hz l rx k
  obtain ⟨xs, hxs, hz⟩ := Option.bind_eq_some_iff.mp (show x.seq?.bind _ = some z from hz)
  cases xs with
  | nil => cases hz
  | cons y ys =>
    have hz : (if alikeAll (y :: ys) && D.plainL (y :: ys) && decide (D.depthL (y :: ys) < 60) then some (leastD y ys) else none) = some z := hz
    have hh : (alikeAll (y :: ys) && D.plainL (y :: ys) && decide (D.depthL (y :: ys) < 60)) = true := Decidable.byContradiction fun n => by rw [if_neg n] at hz; cases hz
    rw [if_pos hh] at hz
    cases hz
    simp only [Bool.and_eq_true, decide_eq_true_eq] at hh
    obtain ⟨vs, sv, r, _⟩ := seqV_of hxs l rx
    exact ⟨v, vs, y, ys, rfl, sv, repL_dp l _ hh.1.2 r, hh.1.1, hh.2, fun i w hw hi => by
      obtain ⟨d, hd, rd⟩ := r.get' hw
      rw [hi] at hd; cases hd
      exact k.flat l rd⟩
/-- max, of ints -/
def rMaxA : List V → Hp → VK → Prop := fun vs H Q => ∃ (v : V) (n : Int) (ns : List Int), vs = [v] ∧ SeqV H v ((n :: ns).map V.int) ∧ Q (.int (ns.foldl (fun m x => if m < x then x else m) n)) H
theorem most_ints : ∀ (n : Int) (ns : List Int), mostD (.int n) (ns.map .int) = .int (ns.foldl (fun m x => if m < x then x else m) n)
  | n, [] => rfl
  | n, x :: xs => by
    rw [List.map_cons, mostD, D.ltb]
    by_cases h : n < x
    · simp only [h, decide_true, if_true, List.foldl_cons]; exact most_ints x xs
    · simp only [h, decide_false, if_false, List.foldl_cons, Bool.false_eq_true]; exact most_ints n xs
theorem most_at (ms : List Int) : ∀ (m : Int) (xs pre : List Int) (j : Nat), ms = pre ++ xs → ms[j]? = some m → j < pre.length → argBest (fun i j => decide (ms.getD j 0 < ms.getD i 0)) (pre.length - 1) = j →
    ms[argBest (fun i j => decide (ms.getD j 0 < ms.getD i 0)) (ms.length - 1)]? = some (xs.foldl (fun m x => if m < x then x else m) m)
  | m, [], pre, j, e0, h, hj, e => by
    rw [List.append_nil] at e0
    subst e0
    rw [e, h]; rfl
  | m, x :: xs, pre, j, e0, h, hj, e => by
    have e1 : ms = (pre ++ [x]) ++ xs := by simp [e0]
    have hx : ms[pre.length]? = some x := by simp [e0]
    have hx' : ms.getD pre.length 0 = x := by rw [List.getD_eq_getElem?_getD, hx]; rfl
    have hm' : ms.getD j 0 = m := by rw [List.getD_eq_getElem?_getD, h]; rfl
    have step : argBest (fun i j => decide (ms.getD j 0 < ms.getD i 0)) pre.length = if m < x then pre.length else j := by
      have hp : pre.length = (pre.length - 1) + 1 := by omega
      rw [hp, argBest, e, ← hp, hx', hm']
      simp
    rw [List.foldl_cons]
    by_cases hlt : m < x
    · rw [if_pos hlt] at step ⊢
      exact most_at ms x xs (pre ++ [x]) pre.length e1 hx (by simp) (by simpa using step)
    · rw [if_neg hlt] at step ⊢
      exact most_at ms m xs (pre ++ [x]) j e1 h (by simp; omega) (by simpa using step)
theorem call_maxA (hc : X.calm = true) : CallR X (.builtin "max") rMaxA := by
  intro pins s σ H xs us Q I r ⟨v, n, ns, e, ⟨a, e2, h⟩, q⟩
  subst e e2
  obtain ⟨u, rfl, ru⟩ := vals1 r
  cases ru
  refine call_max_walkH (seq_iter I h fun its ob rv w => ?_)
  obtain ⟨fp, St, W, h0, hb⟩ := w X.A.in1 (I.ok.hd hc)
  have hl : its.length = (n :: ns).length := by have := rv.length; simp at this ⊢; omega
  have item : ∀ {i : Nat} {v : Value}, its[i]? = some v → ∃ t, v = .int ((n :: ns).getD i 0) t := fun {i v} e => by
    have hi : i < (n :: ns).length := by rw [← hl]; exact (List.getElem?_eq_some_iff.mp e).1
    obtain ⟨u, hu, ru⟩ := rv.get (i := i) (x := .int (n :: ns)[i]) (by rw [List.getElem?_map, List.getElem?_eq_getElem hi]; rfl)
    rw [e] at hu; cases hu
    obtain ⟨t, rfl⟩ := ru
    exact ⟨t, by rw [List.getD_eq_getElem?_getD, List.getElem?_eq_getElem hi]; rfl⟩
  refine ⟨_, fp, _, _, its.length, _, St, s.heap, fun i j => decide ((n :: ns).getD j 0 < (n :: ns).getD i 0), rfl, W, h0, hb, by rw [hl]; simp, fun b o e => ?_, fun b o e => Heap.get?_push_of_some _ e, fun i j vi vj s' Q' E' keep h1 h2 hQ => ?_, fun v' s' hv m => ?_⟩
  · intro hm
    have : b = s.heap.objs.size := by simpa using hm
    exact absurd (Heap.lt_size e) (by rw [this]; exact Nat.lt_irrefl _)
  · obtain ⟨t, rfl⟩ := item h1
    obtain ⟨t', rfl⟩ := item h2
    exact gt_int hQ
  · have hp := most_at (n :: ns) n ns [n] 0 rfl rfl (by simp) rfl
    rw [hl] at hv
    obtain ⟨t, rfl⟩ := item hv
    refine ⟨.int (ns.foldl (fun m x => if m < x then x else m) n), H, inv_moved I m, ⟨t, ?_⟩, q⟩
    rw [List.getD_eq_getElem?_getD, hp]; rfl
theorem max_ok : B1ok K .max rMaxA := by
  intro x z F H v Q hz l rx k
  obtain ⟨xs, hxs, hz⟩ := Option.bind_eq_some_iff.mp (show x.seq?.bind _ = some z from hz)
  obtain ⟨ns, hns, hz⟩ := Option.bind_eq_some_iff.mp (show (D.ints xs).bind _ = some z from hz)
  cases ns with
  | nil => cases hz
  | cons n ns =>
    cases hz
    obtain rfl := ints_eq hns
    obtain ⟨vs, sv, r, _⟩ := seqV_of hxs l rx
    obtain rfl := r.ints
    exact ⟨v, n, ns, rfl, sv, k.flat l rfl⟩
end
end Rx
end

section
set_option Elab.async false
set_option linter.all false
set_option maxRecDepth 100000
set_option maxHeartbeats 1000000
set_option autoImplicit false
/-! RxKit: the rules in short; defs. -/
namespace Rx
open PySem PySem.Spec PyProof.Rows L2

/-- the builtins that are called -/
def blts : List Str := ["len", "range", "sum", "min", "max", "all", "any", "tuple", "list", "sorted", "set", "int", "isinstance", "enumerate", "zip", "reversed", "bool", "str"]
structure Good (calm : Bool) (N : List Str) (A : Around) (mg : Str → Option Value) : Prop where
  calm : calm = true
  nd : N.Nodup
  hu : A.units + 66 < cLine
  bl : ∀ b ∈ blts, mg b = none
abbrev GoodX (X : Cx) : Prop := Good X.calm X.N X.A X.mg
/-- a def that may be called -/
structure CalC (P : Program) (w : World) (K : PySem.W.Frag) (mg : Str → Option Value) (base : Heap) (A : Around) (G : Gm) (x : Str) (f n : Nat) : Prop where
  ok : CallC P w K mg base A x n (spD K n (G f))
  len : ∀ ds d, G f ds = some d → ds.length = n
abbrev Cal (X : Cx) (G : Gm) (x : Str) (f n : Nat) : Prop := CalC X.prog X.w X.K X.mg X.base X.A G x f n
section
variable {X : Cx} {G GI : Gm} {e a b c : E} {me ma mb mc tg : Expr} {pos pp p2 : Pos} {fr : Bool} {k : IK} {es : List E} {mes : List Expr} {mst : Stmt} {msts : List Stmt} {st : S} {sts : List S}
theorem gb {s : Shared} {H : Hp} {sc : Scope} {ce : PySem.Env} {fp : List Addr} (g : GoodX X) : GoodX (X.blk s H sc ce fp) := g
theorem cb {s : Shared} {H : Hp} {sc : Scope} {ce : PySem.Env} {fp : List Addr} {x : Str} {f n : Nat} (c : Cal X G x f n) : Cal (X.blk s H sc ce fp) G x f n := c
theorem kpt {t : TT} (h : PW X me t) : PT X me t := h.pt
theorem kfz (h : PE X me (tN X.K G e)) : PE X me (tD X.K G e) := h.frz
def notVar : E → Bool | .var _ => false | _ => true
theorem nv {e : E} (h : notVar e = true) (i : Nat) : e ≠ .var i := fun z => by subst z; cases h
theorem nb (h : PE X me (tD X.K G e)) (hne : notVar e = true := by rfl) : PE X me (tB X.K G e) := tB_of (nv hne) h
theorem nw (h : PE X me (tD X.K G e)) (hne : notVar e = true := by rfl) : PE X me (tW X.K G e) := tW_of (nv hne) h
theorem xT (h : PE X me (tD X.K G e)) : PE X me (tX true X.K G e) := h
theorem xF (h : PE X me (tW X.K G e)) : PE X me (tX false X.K G e) := h
theorem kA (h : PE X ma (tD X.K G a)) (hr : PA X mes (tL X.K G es)) (hs : starEach (ma :: mes) X.env = (false, eval ma X.env) :: starEach mes X.env := by rfl) : PA X (ma :: mes) (tL X.K G (a :: es)) := a_cons h hr hs
theorem kM (h : PE X ma (tX fr X.K G a)) (hr : PA X mes (tM fr X.K G es)) (hs : starEach (ma :: mes) X.env = (false, eval ma X.env) :: starEach mes X.env := by rfl) : PA X (ma :: mes) (tM fr X.K G (a :: es)) := m_cons h hr hs
theorem k_add (ha : PE X ma (tB X.K G a)) (hb : PE X mb (tB X.K G b)) : PE X (.BinOp ma .Add mb pos) (tD X.K G (.bin .add a b)) := r_bin op_addA add_ok ha hb
theorem k_sub (ha : PE X ma (tB X.K G a)) (hb : PE X mb (tB X.K G b)) : PE X (.BinOp ma .Sub mb pos) (tD X.K G (.bin .sub a b)) := r_bin op_sub sub_ok ha hb
theorem k_mul (ha : PE X ma (tB X.K G a)) (hb : PE X mb (tB X.K G b)) : PE X (.BinOp ma .Mult mb pos) (tD X.K G (.bin .mul a b)) := r_bin op_mulA mul_ok ha hb
theorem k_fdiv (ha : PE X ma (tB X.K G a)) (hb : PE X mb (tB X.K G b)) : PE X (.BinOp ma .FloorDiv mb pos) (tD X.K G (.bin .fdiv a b)) := r_bin op_fdivA fdiv_ok ha hb
theorem k_mod (ha : PE X ma (tB X.K G a)) (hb : PE X mb (tB X.K G b)) : PE X (.BinOp ma .Mod mb pos) (tD X.K G (.bin .mod a b)) := r_bin op_modN mod_ok ha hb
theorem k_pow (ha : PE X ma (tB X.K G a)) (hb : PE X mb (tB X.K G b)) : PE X (.BinOp ma .Pow mb pos) (tD X.K G (.bin .pow a b)) := r_bin op_pow pow_ok ha hb
/-! new ones -/
theorem kn_add (ha : PE X ma (tB X.K G a)) (hb : PE X mb (tB X.K G b)) : PE X (.BinOp ma .Add mb pos) (fun σ H Q => tN X.K G (.bin .add a b) σ H Q ∧ ∀ F env d, Ok X.K F H σ env → ev G env (.bin .add a b) = some d → ∃ zs, d = .lst zs) := n_bin op_cat add_new ha hb
theorem kn_mul (ha : PE X ma (tB X.K G a)) (hb : PE X mb (tB X.K G b)) : PE X (.BinOp ma .Mult mb pos) (fun σ H Q => tN X.K G (.bin .mul a b) σ H Q ∧ ∀ F env d, Ok X.K F H σ env → ev G env (.bin .mul a b) = some d → ∃ zs, d = .lst zs) := n_bin op_rep mul_new ha hb
/-! comparisons -/
theorem c_lt (g : GoodX X) (ha : PE X ma (tB X.K G a)) (hb : PE X mb (tB X.K G b)) : PC X .Lt ma mb (tC2 X.K G .lt a b) := pc_op (op_ltA (by have := g.hu; omega)) lt_ok ha hb
theorem c_le (g : GoodX X) (ha : PE X ma (tB X.K G a)) (hb : PE X mb (tB X.K G b)) : PC X .LtE ma mb (tC2 X.K G .le a b) := pc_op op_le le_ok ha hb
theorem c_gt (g : GoodX X) (ha : PE X ma (tB X.K G a)) (hb : PE X mb (tB X.K G b)) : PC X .Gt ma mb (tC2 X.K G .gt a b) := pc_op op_gt gt_ok ha hb
theorem c_ge (g : GoodX X) (ha : PE X ma (tB X.K G a)) (hb : PE X mb (tB X.K G b)) : PC X .GtE ma mb (tC2 X.K G .ge a b) := pc_op op_ge ge_ok ha hb
theorem c_eq (g : GoodX X) (ha : PE X ma (tB X.K G a)) (hb : PE X mb (tB X.K G b)) : PC X .Eq ma mb (tC2 X.K G .eq a b) := pc_op (op_eqD (by have := g.hu; omega)) eq_ok ha hb
theorem c_ne (g : GoodX X) (ha : PE X ma (tB X.K G a)) (hb : PE X mb (tB X.K G b)) : PC X .NotEq ma mb (tC2 X.K G .ne a b) := pc_op (op_neD (by have := g.hu; omega)) ne_ok ha hb
theorem c_is (g : GoodX X) (ha : PE X ma (tB X.K G a)) (hb : PE X mb (tB X.K G b)) : PC X .Is ma mb (tC2 X.K G .is a b) := pc_op op_isN is_ok ha hb
theorem c_isnt (g : GoodX X) (ha : PE X ma (tB X.K G a)) (hb : PE X mb (tB X.K G b)) : PC X .IsNot ma mb (tC2 X.K G .isnt a b) := pc_op op_notN isnt_ok ha hb
theorem c_in (g : GoodX X) (ha : PE X ma (tB X.K G a)) (hb : PE X mb (tB X.K G b)) : PC X .In ma mb (tC2 X.K G .isin a b) := pc_in (by have := g.hu; omega) ha hb
theorem c_notin (g : GoodX X) (ha : PE X ma (tB X.K G a)) (hb : PE X mb (tB X.K G b)) : PC X .NotIn ma mb (tC2 X.K G .notin a b) := pc_notin (by have := g.hu; omega) ha hb
theorem k_cmp {o : CO} {op : CmpOp} (h : PC X op ma mb (tC2 X.K G o a b)) (hm : behindInMarks op mb = false := by rfl) : PE X (.Compare ma [op] [mb] pos) (tD X.K G (.cmp o a b)) := r_cmp h hm
theorem kt_cmp {o : CO} {op : CmpOp} (h : PC X op ma mb (tC2 X.K G o a b)) (hm : behindInMarks op mb = false := by rfl) : PT X (.Compare ma [op] [mb] pos) (tT X.K G (.val (.cmp o a b))) := t_cmp h hm
/-! a < b < c -/
structure Ck (X : Cx) (o : CO) (op : CmpOp) (r : R2) : Prop where
  ho : OpR X (compareOp op) r
  hr : R2ok X.K (cmpD o) r
theorem ck_lt (g : GoodX X) : Ck X .lt .Lt (rLtA X.K) := ⟨op_ltA (by have := g.hu; omega), lt_ok⟩
theorem ck_le (g : GoodX X) : Ck X .le .LtE (rI0 fun i j => .bl (decide (i ≤ j))) := ⟨op_le, le_ok⟩
theorem k_chn {o o' : CO} {op op' : CmpOp} {r r' : R2} (h : Ck X o op r) (h' : Ck X o' op' r') (ha : PE X ma (tB X.K G a)) (hb : PE X mb (tB X.K G b)) (hc : PE X mc (tB X.K G c)) (hm : lastMarks [op, op'] [mb, mc] = false := by rfl) :
    PE X (.Compare ma [op, op'] [mb, mc] pos) (tD X.K G (.chn o o' a b c)) := r_chn h.ho h'.ho h.hr h'.hr ha hb hc hm
theorem kt_chn {o o' : CO} {op op' : CmpOp} {r r' : R2} (h : Ck X o op r) (h' : Ck X o' op' r') (ha : PE X ma (tB X.K G a)) (hb : PE X mb (tB X.K G b)) (hc : PE X mc (tB X.K G c)) (hm : lastMarks [op, op'] [mb, mc] = false := by rfl) :
    PT X (.Compare ma [op, op'] [mb, mc] pos) (tT X.K G (.val (.chn o o' a b c))) := t_chn h.ho h'.ho h.hr h'.hr ha hb hc hm
theorem kt_val (ha : PE X ma (tB X.K G a)) (he : ∀ whole, isTrue ma X.env whole = (do let v ← whole; standAt ma.pos; holding [v] (truthy v)) := by intro _; rfl) : PT X ma (tT X.K G (.val a)) := t_val ha he
/-! subscripts -/
theorem k_ix (g : GoodX X) (ha : PE X ma (tB X.K G a)) (hb : PE X mb (tB X.K G b)) (hs : PlainIx mb := by intro _ _; rfl) : PE X (.Subscript ma mb pos) (tD X.K G (.sub a b)) := r_sub (by have := g.hu; omega) ha hb hs
/-! builtins -/
theorem k_len (g : GoodX X) (ha : PE X ma (tB X.K G a)) (hg : Gl X "len" := by rfl) (hs : starEach [ma] X.env = [(false, eval ma X.env)] := by rfl) : PE X (.Call (.Name "len" pp) [ma] [] pos) (tD X.K G (.b1 .len a)) :=
  r_b1 (id := "len") call_len len_ok hg (g.bl _ (by decide +kernel)) (by decide +kernel) ha hs
theorem k_sum (g : GoodX X) (ha : PE X ma (tB X.K G a)) (hg : Gl X "sum" := by rfl) (hs : starEach [ma] X.env = [(false, eval ma X.env)] := by rfl) : PE X (.Call (.Name "sum" pp) [ma] [] pos) (tD X.K G (.b1 .sum a)) :=
  r_b1 (id := "sum") (call_sumA g.calm) sum_ok hg (g.bl _ (by decide +kernel)) (by decide +kernel) ha hs
theorem k_min (g : GoodX X) (ha : PE X ma (tB X.K G a)) (hg : Gl X "min" := by rfl) (hs : starEach [ma] X.env = [(false, eval ma X.env)] := by rfl) : PE X (.Call (.Name "min" pp) [ma] [] pos) (tD X.K G (.b1 .min a)) :=
  r_b1 (id := "min") (call_minA g.calm (by have := g.hu; omega)) min_ok hg (g.bl _ (by decide +kernel)) (by decide +kernel) ha hs
theorem k_max (g : GoodX X) (ha : PE X ma (tB X.K G a)) (hg : Gl X "max" := by rfl) (hs : starEach [ma] X.env = [(false, eval ma X.env)] := by rfl) : PE X (.Call (.Name "max" pp) [ma] [] pos) (tD X.K G (.b1 .max a)) :=
  r_b1 (id := "max") (call_maxA g.calm) max_ok hg (g.bl _ (by decide +kernel)) (by decide +kernel) ha hs
theorem k_all (g : GoodX X) (ha : PE X ma (tB X.K G a)) (hg : Gl X "all" := by rfl) (hs : starEach [ma] X.env = [(false, eval ma X.env)] := by rfl) : PE X (.Call (.Name "all" pp) [ma] [] pos) (tD X.K G (.b1 .all a)) :=
  r_b1 (id := "all") (cr_all g.calm) all_ok hg (g.bl _ (by decide +kernel)) (by decide +kernel) ha hs
theorem k_any (g : GoodX X) (ha : PE X ma (tB X.K G a)) (hg : Gl X "any" := by rfl) (hs : starEach [ma] X.env = [(false, eval ma X.env)] := by rfl) : PE X (.Call (.Name "any" pp) [ma] [] pos) (tD X.K G (.b1 .any a)) :=
  r_b1 (id := "any") (cr_any g.calm) any_ok hg (g.bl _ (by decide +kernel)) (by decide +kernel) ha hs
theorem k_tuple (g : GoodX X) (ha : PE X ma (tB X.K G a)) (hg : Gl X "tuple" := by rfl) (hs : starEach [ma] X.env = [(false, eval ma X.env)] := by rfl) : PE X (.Call (.Name "tuple" pp) [ma] [] pos) (tD X.K G (.b1 .tuple a)) :=
  r_b1T (id := "tuple") call_tuple_of tuple_ok hg (g.bl _ (by decide +kernel)) (by decide +kernel) ha hs
theorem k_list (g : GoodX X) (ha : PE X ma (tB X.K G a)) (hg : Gl X "list" := by rfl) (hs : starEach [ma] X.env = [(false, eval ma X.env)] := by rfl) : PE X (.Call (.Name "list" pp) [ma] [] pos) (tD X.K G (.b1 .list a)) :=
  r_b1T (id := "list") call_list_of list_ok hg (g.bl _ (by decide +kernel)) (by decide +kernel) ha hs
theorem kn_list (g : GoodX X) (ha : PE X ma (tB X.K G a)) (hg : Gl X "list" := by rfl) (hs : starEach [ma] X.env = [(false, eval ma X.env)] := by rfl) : PE X (.Call (.Name "list" pp) [ma] [] pos) (tN X.K G (.b1 .list a)) :=
  n_list hg (g.bl _ (by decide +kernel)) ha hs
theorem k_int (g : GoodX X) (ha : PE X ma (tB X.K G a)) (hg : Gl X "int" := by rfl) (hs : starEach [ma] X.env = [(false, eval ma X.env)] := by rfl) : PE X (.Call (.Name "int" pp) [ma] [] pos) (tD X.K G (.b1 .int a)) :=
  r_b1T (id := "int") call_int1 int_ok hg (g.bl _ (by decide +kernel)) (by decide +kernel) ha hs
theorem k_max2 (g : GoodX X) (ha : PE X ma (tB X.K G a)) (hb : PE X mb (tB X.K G b)) (hg : Gl X "max" := by rfl) (hs : starEach [ma, mb] X.env = (false, eval ma X.env) :: starEach [mb] X.env := by rfl) (hs2 : starEach [mb] X.env = [(false, eval mb X.env)] := by rfl) :
    PE X (.Call (.Name "max" pp) [ma, mb] [] pos) (tD X.K G (.b2 .max a b)) := r_max2 g.calm hg (g.bl _ (by decide +kernel)) ha hb hs hs2
theorem k_min2 (g : GoodX X) (ha : PE X ma (tB X.K G a)) (hb : PE X mb (tB X.K G b)) (hg : Gl X "min" := by rfl) (hs : starEach [ma, mb] X.env = (false, eval ma X.env) :: starEach [mb] X.env := by rfl) (hs2 : starEach [mb] X.env = [(false, eval mb X.env)] := by rfl) :
    PE X (.Call (.Name "min" pp) [ma, mb] [] pos) (tD X.K G (.b2 .min a b)) := r_min2 g.calm hg (g.bl _ (by decide +kernel)) ha hb hs hs2
/-! iterators -/
theorem kw_r1 (g : GoodX X) (ha : PA X [ma] (tM fr X.K G [a])) (hg : Gl X "range" := by rfl) (hs : starEach [ma] X.env = [(false, eval ma X.env)] := by rfl) : PI X tg (.Call (.Name "range" pp) [ma] [] pos) (tI fr X.K G .r1 [a]) :=
  w_r1 hg (g.bl _ (by decide +kernel)) ha hs
theorem kw_r2 (g : GoodX X) (ha : PA X [ma, mb] (tM fr X.K G [a, b])) (hg : Gl X "range" := by rfl) (hs : starEach [ma, mb] X.env = [(false, eval ma X.env), (false, eval mb X.env)] := by rfl) (hs2 : starEach [mb] X.env = [(false, eval mb X.env)] := by rfl) :
    PI X tg (.Call (.Name "range" pp) [ma, mb] [] pos) (tI fr X.K G .r2 [a, b]) := w_r2 hg (g.bl _ (by decide +kernel)) ha hs hs2
theorem kw_enum {elts : List Expr} {kk : Nat} {tpos : Pos} (g : GoodX X) (ha : PA X [ma] (tM fr X.K G [a])) (hg : Gl X "enumerate" := by rfl) (hs : starEach [ma] X.env = [(false, eval ma X.env)] := by rfl) :
    PI X (.Tuple elts kk tpos) (.Call (.Name "enumerate" pp) [ma] [] pos) (tI fr X.K G .enum [a]) := w_enum hg (g.bl _ (by decide +kernel)) ha hs
theorem kw_rev (g : GoodX X) (ha : PE X ma (tX fr X.K G a)) (hg : Gl X "reversed" := by rfl) (hs : starEach [ma] X.env = (false, eval ma X.env) :: starEach [] X.env := by rfl) : PI X tg (.Call (.Name "reversed" pp) [ma] [] pos) (tI fr X.K G .rev [a]) :=
  w_rev hg (g.bl _ (by decide +kernel)) ha hs
/-! calls -/
theorem k_call {x : Str} {f n : Nat} (c : Cal X G x f n) (ha : PA X (me :: mes) (tL X.K G es)) (hg : Gl X x := by rfl) (hdb : (x == ("__debug__" : Str)) = false := by decide +kernel) (he : starEach (me :: mes) X.env = (false, eval me X.env) :: starEach mes X.env := by rfl)
    (hpl : (backTo pos (starEach mes X.env)).any (·.1) = false := by rfl) : PE X (.Call (.Name x pp) (me :: mes) [] pos) (tD X.K G (.call f es)) := r_call c.ok c.len hg ha hdb he hpl
/-! targets -/
theorem kg (i : Nat) {x : Str} (g : GoodX X) (hi : X.N[i]? = some x := by rfl) (hx : Loc X.env.scope x := by first | exact Or.inl rfl | exact Or.inr rfl) (hf : X.fn x = true ∨ X.env.scope.names.lookup x = some .local := by first | exact Or.inl rfl | exact Or.inr rfl) : PG X (.Name x pos) (tG X.K (.name i)) :=
  g_name (pg_name g.nd hi hx hf)
theorem kgc {t : T} {ts : List T} (h1 : PG X me (tG X.K t)) (h2 : PGs X mes (tGs X.K ts)) (hs : (assignEach (me :: mes) X.env).map (·.2) = assign me X.env :: (assignEach mes X.env).map (·.2) := by rfl) : PGs X (me :: mes) (tGs X.K (t :: ts)) := g_cons h1 h2 hs
theorem kgt {kk n : Nat} {ts : List T} (g : GoodX X) (h : PGs X mes (tGs X.K ts)) (hn : (assignEach mes X.env).length = n := by rfl) (hl : ts.length = n := by rfl) (hst : (assignEach mes X.env).findIdx? (·.1) = none := by rfl) : PG X (.Tuple mes kk pos) (tG X.K (.tup ts)) := g_tup g.calm h hn hl hst
end
end Rx
end

section
set_option Elab.async false
set_option linter.all false
set_option maxRecDepth 100000
set_option maxHeartbeats 1000000
set_option autoImplicit false
/-! RxKit2: statements and comprehensions in short; defs. -/
namespace Rx
open PySem PySem.Spec PyProof.Rows L2
section
variable {X : Cx} {G GI : Gm} {e a b c : E} {me ma mb mc tg : Expr} {pos pp p2 pT : Pos} {fr : Bool} {k : IK} {es : List E} {mes : List Expr} {mst : Stmt} {msts mas mbs : List Stmt} {st : S} {sts : List S}
theorem pT_ (g : GoodX X) {T : String} (hb : (T : Str) ∈ blts) (hv : bootBuiltins T = some (.type T)) (hn : (T : Str) ≠ "__name__") (hd : ((T : Str) == ("__debug__" : Str)) = false) (hT : Gl X T) : PE X (.Name T pT) (tC (.ty T)) :=
  pe_bltn hT (g.bl _ hb) hv rfl hn hd
theorem k_isInt (g : GoodX X) (ha : PE X ma (tB X.K G a)) (hg : Gl X "isinstance" := by rfl) (hT : Gl X "int" := by rfl) (hs : starEach [ma, .Name "int" pT] X.env = (false, eval ma X.env) :: starEach [.Name "int" pT] X.env := by rfl) :
    PE X (.Call (.Name "isinstance" pp) [ma, .Name "int" pT] [] pos) (tD X.K G (.b1 .isInt a)) := r_isa (u := .none) (T := "int") rfl hg (g.bl _ (by decide +kernel)) ha (pT_ g (by decide +kernel) (by decide +kernel) (by decide) (by decide) hT) hs
theorem k_isBool (g : GoodX X) (ha : PE X ma (tB X.K G a)) (hg : Gl X "isinstance" := by rfl) (hT : Gl X "bool" := by rfl) (hs : starEach [ma, .Name "bool" pT] X.env = (false, eval ma X.env) :: starEach [.Name "bool" pT] X.env := by rfl) :
    PE X (.Call (.Name "isinstance" pp) [ma, .Name "bool" pT] [] pos) (tD X.K G (.b1 .isBool a)) := r_isa (u := .none) (T := "bool") rfl hg (g.bl _ (by decide +kernel)) ha (pT_ g (by decide +kernel) (by decide +kernel) (by decide) (by decide) hT) hs
theorem k_isTup (g : GoodX X) (ha : PE X ma (tB X.K G a)) (hg : Gl X "isinstance" := by rfl) (hT : Gl X "tuple" := by rfl) (hs : starEach [ma, .Name "tuple" pT] X.env = (false, eval ma X.env) :: starEach [.Name "tuple" pT] X.env := by rfl) :
    PE X (.Call (.Name "isinstance" pp) [ma, .Name "tuple" pT] [] pos) (tD X.K G (.b1 .isTup a)) := r_isa (u := .none) (T := "tuple") rfl hg (g.bl _ (by decide +kernel)) ha (pT_ g (by decide +kernel) (by decide +kernel) (by decide) (by decide) hT) hs
theorem k_isStr (g : GoodX X) (ha : PE X ma (tB X.K G a)) (hg : Gl X "isinstance" := by rfl) (hT : Gl X "str" := by rfl) (hs : starEach [ma, .Name "str" pT] X.env = (false, eval ma X.env) :: starEach [.Name "str" pT] X.env := by rfl) :
    PE X (.Call (.Name "isinstance" pp) [ma, .Name "str" pT] [] pos) (tD X.K G (.b1 .isStr a)) := r_isa (u := .none) (T := "str") rfl hg (g.bl _ (by decide +kernel)) ha (pT_ g (by decide +kernel) (by decide +kernel) (by decide) (by decide) hT) hs
/-! ### always a list -/
def isL : E → Bool
  | .lst _ => true | .comp _ _ _ _ _ _ => true | .comp2 _ _ _ _ _ _ _ _ _ _ _ => true
  | .bin .add a _ => isL a | .bin .mul a _ => isL a
  | .b1 .list _ => true | .b1 .sorted _ => true
  | _ => false
theorem fits_l {xs : List D} {d : D} (h : fits xs = some d) : ∃ zs, d = .lst zs := by
  unfold fits at h; split at h <;> cases h; exact ⟨_, rfl⟩
theorem isL_ev : ∀ {e : E} {env : Env} {d : D}, isL e = true → ev G env e = some d → ∃ zs, d = .lst zs
  | .lst es, env, d, _, h => by
    obtain ⟨xs, _, h⟩ := Option.bind_eq_some_iff.mp (show (evL G env es).bind _ = some d from h)
    exact fits_l h
  | .comp .., env, d, _, h => by
    unfold ev at h
    obtain ⟨xs, _, h⟩ := Option.bind_eq_some_iff.mp h
    obtain ⟨xs, _, h⟩ := Option.bind_eq_some_iff.mp h
    obtain ⟨xs, _, h⟩ := Option.bind_eq_some_iff.mp h
    exact fits_l h
  | .comp2 .., env, d, _, h => by
    unfold ev at h
    obtain ⟨xs, _, h⟩ := Option.bind_eq_some_iff.mp h
    obtain ⟨xs, _, h⟩ := Option.bind_eq_some_iff.mp h
    obtain ⟨xs, _, h⟩ := Option.bind_eq_some_iff.mp h
    exact fits_l h
  | .bin .add a b, env, d, hl, h => by
    obtain ⟨x, hx, h⟩ := Option.bind_eq_some_iff.mp (show (bo env a (ev G env a)).bind _ = some d from h)
    obtain ⟨y, _, h⟩ := Option.bind_eq_some_iff.mp h
    have hx : ev G env a = some x := by cases a <;> first | exact hx | cases hl
    obtain ⟨zs, rfl⟩ := isL_ev (e := a) hl hx
    exact new_add h rfl
  | .bin .mul a b, env, d, hl, h => by
    obtain ⟨x, hx, h⟩ := Option.bind_eq_some_iff.mp (show (bo env a (ev G env a)).bind _ = some d from h)
    obtain ⟨y, _, h⟩ := Option.bind_eq_some_iff.mp h
    have hx : ev G env a = some x := by cases a <;> first | exact hx | cases hl
    obtain ⟨zs, rfl⟩ := isL_ev (e := a) hl hx
    cases y <;> simp only [opB] at h <;> try cases h
    split at h <;> cases h
    exact ⟨_, rfl⟩
  | .b1 .list a, env, d, _, h => by
    obtain ⟨x, _, h⟩ := Option.bind_eq_some_iff.mp (show (bo env a (ev G env a)).bind _ = some d from h)
    obtain ⟨zs, _, rfl⟩ := Option.map_eq_some_iff.mp (show x.seq?.map D.lst = some d from h)
    exact ⟨_, rfl⟩
  | .b1 .sorted a, env, d, _, h => by
    obtain ⟨x, _, h⟩ := Option.bind_eq_some_iff.mp (show (bo env a (ev G env a)).bind _ = some d from h)
    obtain ⟨zs, _, h⟩ := Option.bind_eq_some_iff.mp (show x.seq?.bind (fun xs => if alikeAll xs && sortable xs && D.plainL xs && decide (D.depthL xs < 60) then some (D.lst (sortD xs)) else none) = some d from h)
    split at h <;> cases h
    exact ⟨_, rfl⟩
theorem kn_of (hl : isL e = true) (h : PE X me (fun σ H Q => tN X.K G e σ H Q ∧ ∀ F env d, Ok X.K F H σ env → ev G env e = some d → ∃ zs, d = .lst zs)) : PE X me (tN X.K G e) :=
  h.imp fun σ H Q q => ⟨q, fun F env d _ he => isL_ev hl he⟩
theorem kn_ad (ha : PE X ma (tB X.K G a)) (hb : PE X mb (tB X.K G b)) (hl : isL (.bin .add a b) = true := by rfl) : PE X (.BinOp ma .Add mb pos) (tN X.K G (.bin .add a b)) := kn_of hl (kn_add ha hb)
theorem kn_ml (ha : PE X ma (tB X.K G a)) (hb : PE X mb (tB X.K G b)) (hl : isL (.bin .mul a b) = true := by rfl) : PE X (.BinOp ma .Mult mb pos) (tN X.K G (.bin .mul a b)) := kn_of hl (kn_mul ha hb)
/-! ### comprehensions -/
def blkB (N : List Str) (sc scope : Scope) (own : List (Str × Nat)) : Bool :=
  (scope.kind == .function) && (scope.names.all fun y => scope.names.lookup y.1 == some y.2) && (own.all fun p => N[p.2]? == some p.1) &&
  (scope.names.all fun y => if y.2 == .free then sc.names.lookup y.1 == some .cell || sc.names.lookup y.1 == some .free else true) &&
  (scope.names.all fun y => if y.2 == .local || y.2 == .cell then (own.map (·.1)).contains y.1 || !N.contains y.1 else true)
theorem blk_of {N : List Str} {sc scope : Scope} {own : List (Str × Nat)} (h : blkB N sc scope own = true) : BlkOk N sc scope own := by
  simp only [blkB, Bool.and_eq_true, List.all_eq_true] at h
  obtain ⟨⟨⟨⟨h1, h2⟩, h3⟩, h4⟩, h5⟩ := h
  refine ⟨by simpa using h1, fun y hy => by simpa using h2 y hy, fun p hp => by simpa using h3 p hp, fun y hy e => ?_, fun y hy e => ?_⟩
  · have := h4 y hy
    rw [if_pos (by simp [e])] at this
    simpa using this
  · have := h5 y hy
    rw [if_pos (by rcases e with e | e <;> simp [e])] at this
    simpa using this
/-- the names of a block, all of them its own -/
def ownB (t : T) (own : List (Str × Nat)) : Bool := (T.names t).all fun j => (own.map (·.2)).contains j
theorem own_of {t : T} {own : List (Str × Nat)} (h : ownB t own = true) : ∀ j ∈ T.names t, j ∈ own.map (·.2) := fun j hj => by
  have := List.all_eq_true.mp h j hj
  simpa using this
def ownB2 (t : T) (vs : List Nat) (own : List (Str × Nat)) : Bool := ((T.names t).all fun j => vs.contains j) && vs.all fun j => (own.map (·.2)).contains j
variable {t t2 : T} {fs fs2 : List C} {elt iter tg1 iter1 : Expr} {ifs ifs1 : List Expr} {scope : Scope} {own : List (Str × Nat)} {vs1 : List Nat} {k2 : IK} {es2 : List E} {spos py : Pos}
theorem kn_comp (own : List (Str × Nat)) (g : GoodX X) (hi : PI X tg iter (tI false X.K G k es))
    (hg : ∀ (s : Shared) (H : Hp) (C : Addr) (cl : List (Str × Addr)) (fp : List Addr), PG (X.blk s H scope (compEnvC scope cl C X.env) fp) tg (tG X.K t)) (ht : ∀ (s : Shared) (H : Hp) (C : Addr) (cl : List (Str × Addr)) (fp : List Addr), PTs (X.blk s H scope (compEnvC scope cl C X.env) fp) ifs (tTL X.K G fs))
    (he : ∀ (s : Shared) (H : Hp) (C : Addr) (cl : List (Str × Addr)) (fp : List Addr), PE (X.blk s H scope (compEnvC scope cl C X.env) fp) elt (tD X.K G e))
    (hnm : ownB t own = true := by rfl) (ok : blkB X.N X.env.scope scope own = true := by kernel_rfl) (hs : ∀ x, foldedSetIterable iter X.env x = pure x := by intro _; rfl) :
    PE X (.ListComp elt [⟨tg, iter, ifs, 0⟩] scope pos) (tN X.K G (.comp e t k es fs (own.map (·.2)))) := r_comp (own_of hnm) g.calm g.nd hi (blk_of ok) hg ht he hs
theorem kn_comp2 (own : List (Str × Nat)) (g : GoodX X) (hi : PI X tg iter (tI false X.K G k es))
    (hg : ∀ (s : Shared) (H : Hp) (C : Addr) (cl : List (Str × Addr)) (fp : List Addr), PG (X.blk s H scope (compEnvC scope cl C X.env) fp) tg (tG X.K t)) (ht : ∀ (s : Shared) (H : Hp) (C : Addr) (cl : List (Str × Addr)) (fp : List Addr), PTs (X.blk s H scope (compEnvC scope cl C X.env) fp) ifs (tTL X.K G fs))
    (hi1 : ∀ (s : Shared) (H : Hp) (C : Addr) (cl : List (Str × Addr)) (fp : List Addr), PI (X.blk s H scope (compEnvC scope cl C X.env) fp) tg1 iter1 (tI false X.K G k2 es2))
    (hg1 : ∀ (s : Shared) (H : Hp) (C : Addr) (cl : List (Str × Addr)) (fp : List Addr), PG (X.blk s H scope (compEnvC scope cl C X.env) fp) tg1 (tG X.K t2)) (ht1 : ∀ (s : Shared) (H : Hp) (C : Addr) (cl : List (Str × Addr)) (fp : List Addr), PTs (X.blk s H scope (compEnvC scope cl C X.env) fp) ifs1 (tTL X.K G fs2))
    (he : ∀ (s : Shared) (H : Hp) (C : Addr) (cl : List (Str × Addr)) (fp : List Addr), PE (X.blk s H scope (compEnvC scope cl C X.env) fp) elt (tD X.K G e))
    (hnm : ownB t own = true := by rfl) (hnm2 : ownB2 t2 vs1 own = true := by rfl) (ok : blkB X.N X.env.scope scope own = true := by kernel_rfl) (hs : ∀ x, foldedSetIterable iter X.env x = pure x := by intro _; rfl) (hs1 : ∀ env x, foldedSetIterable iter1 env x = pure x := by intro _ _; rfl) :
    PE X (.ListComp elt [⟨tg, iter, ifs, 0⟩, ⟨tg1, iter1, ifs1, 0⟩] scope pos) (tN X.K G (.comp2 e t k es fs t2 k2 es2 fs2 (own.map (·.2)) vs1)) := by
  simp only [ownB2, Bool.and_eq_true, List.all_eq_true] at hnm2
  exact r_comp2 (own_of hnm) (fun j hj => by simpa using hnm2.1 j hj) g.calm g.nd hi (blk_of ok) (fun j hj => by simpa using hnm2.2 j hj) hg ht hi1 hg1 ht1 he hs hs1
/-! assigned to a name on the same line -/
theorem ks_comp (i : Nat) {y : Str} (own : List (Str × Nat)) (g : GoodX X) (hi : PI X tg iter (tI false X.K G k es))
    (hg : ∀ (s : Shared) (H : Hp) (C : Addr) (cl : List (Str × Addr)) (fp : List Addr), PG (X.blk s H scope (compEnvC scope cl C X.env) fp) tg (tG X.K t)) (ht : ∀ (s : Shared) (H : Hp) (C : Addr) (cl : List (Str × Addr)) (fp : List Addr), PTs (X.blk s H scope (compEnvC scope cl C X.env) fp) ifs (tTL X.K G fs))
    (he : ∀ (s : Shared) (H : Hp) (C : Addr) (cl : List (Str × Addr)) (fp : List Addr), PE (X.blk s H scope (compEnvC scope cl C X.env) fp) elt (tD X.K G e))
    (hy : X.N[i]? = some y := by rfl) (hyl : X.env.scope.names.lookup y = some .local := by rfl) (hsw : swapsWith (.ListComp elt [⟨tg, iter, ifs, 0⟩] scope pos) (some (.Name y py)) spos.line X.env = pure true := by rfl)
    (hnm : ownB t own = true := by rfl) (ok : blkB X.N X.env.scope scope own = true := by kernel_rfl) (hs : ∀ x, foldedSetIterable iter X.env x = pure x := by intro _; rfl) :
    PS X (.Assign [.Name y py] (.ListComp elt [⟨tg, iter, ifs, 0⟩] scope pos) spos) (tAsg (tN X.K G (.comp e t k es fs (own.map (·.2)))) (gName i)) :=
  (ps_setLc g.calm g.nd hy hyl hsw hi (blk_of ok) hg ht he hs).imp fun D σ H h => lc_reads (own_of hnm) h
theorem ks_comp2 (i : Nat) {y : Str} (own : List (Str × Nat)) (g : GoodX X) (hi : PI X tg iter (tI false X.K G k es))
    (hg : ∀ (s : Shared) (H : Hp) (C : Addr) (cl : List (Str × Addr)) (fp : List Addr), PG (X.blk s H scope (compEnvC scope cl C X.env) fp) tg (tG X.K t)) (ht : ∀ (s : Shared) (H : Hp) (C : Addr) (cl : List (Str × Addr)) (fp : List Addr), PTs (X.blk s H scope (compEnvC scope cl C X.env) fp) ifs (tTL X.K G fs))
    (hi1 : ∀ (s : Shared) (H : Hp) (C : Addr) (cl : List (Str × Addr)) (fp : List Addr), PI (X.blk s H scope (compEnvC scope cl C X.env) fp) tg1 iter1 (tI false X.K G k2 es2))
    (hg1 : ∀ (s : Shared) (H : Hp) (C : Addr) (cl : List (Str × Addr)) (fp : List Addr), PG (X.blk s H scope (compEnvC scope cl C X.env) fp) tg1 (tG X.K t2)) (ht1 : ∀ (s : Shared) (H : Hp) (C : Addr) (cl : List (Str × Addr)) (fp : List Addr), PTs (X.blk s H scope (compEnvC scope cl C X.env) fp) ifs1 (tTL X.K G fs2))
    (he : ∀ (s : Shared) (H : Hp) (C : Addr) (cl : List (Str × Addr)) (fp : List Addr), PE (X.blk s H scope (compEnvC scope cl C X.env) fp) elt (tD X.K G e))
    (hy : X.N[i]? = some y := by rfl) (hyl : X.env.scope.names.lookup y = some .local := by rfl) (hsw : swapsWith (.ListComp elt [⟨tg, iter, ifs, 0⟩, ⟨tg1, iter1, ifs1, 0⟩] scope pos) (some (.Name y py)) spos.line X.env = pure true := by rfl)
    (hnm : ownB t own = true := by rfl) (hnm2 : ownB2 t2 vs1 own = true := by rfl) (ok : blkB X.N X.env.scope scope own = true := by kernel_rfl) (hs : ∀ x, foldedSetIterable iter X.env x = pure x := by intro _; rfl) (hs1 : ∀ env x, foldedSetIterable iter1 env x = pure x := by intro _ _; rfl) :
    PS X (.Assign [.Name y py] (.ListComp elt [⟨tg, iter, ifs, 0⟩, ⟨tg1, iter1, ifs1, 0⟩] scope pos) spos) (tAsg (tN X.K G (.comp2 e t k es fs t2 k2 es2 fs2 (own.map (·.2)) vs1)) (gName i)) := by
  simp only [ownB2, Bool.and_eq_true, List.all_eq_true] at hnm2
  exact (ps_setLc2 g.calm g.nd hy hyl hsw hi (blk_of ok) (fun j hj => by simpa using hnm2.2 j hj) hg ht hi1 hg1 ht1 he hs hs1).imp fun D σ H h => lc2_reads (own_of hnm) (fun j hj => by simpa using hnm2.1 j hj) h
/-! ### statements -/
theorem ks_frz {i : Nat} (h : PS X mst (tAsg (tN X.K G e) (gName i))) : PS X mst (tAsg (tD X.K G e) (gName i)) := h.imp fun D σ H q => tAsg_frz q
theorem ks_set (i : Nat) {x : Str} {te : TE} (g : GoodX X) (he : PE X me te) (hi : X.N[i]? = some x := by rfl) (hx : Loc X.env.scope x := by first | exact Or.inl rfl | exact Or.inr rfl) (hs : swapsWith me (some (.Name x p2)) pos.line X.env = pure false := by rfl)
    (hf : X.fn x = true ∨ X.env.scope.names.lookup x = some .local := by first | exact Or.inl rfl | exact Or.inr rfl) : PS X (.Assign [.Name x p2] me pos) (tAsg te (gName i)) := ps_set g.nd hi hx he hs hf
theorem ks_asgT {gt : TG} {te : TE} (he : PE X me te) (hg : PG X tg gt) (hs : swapsWithSole [tg] me pos.line X.env = pure false := by rfl) (hw : swappedStores [tg] me X.env = pure none := by rfl)
    (h1 : (assignEach [tg] X.env).map (·.2) = [assign tg X.env] := by rfl) : PS X (.Assign [tg] me pos) (tAsg te gt) := ps_asg he hg hs hw h1
theorem kp_val {i : Nat} {ts : List (Nat × Bool)} (ha : PE X ma (tD X.K G a)) (hr : PA X mes (tP X.K G ts es)) (hs : starEach (ma :: mes) X.env = (false, eval ma X.env) :: starEach mes X.env := by rfl) : PA X (ma :: mes) (tP X.K G ((i, false) :: ts) (a :: es)) := p_val ha hr hs
theorem kp_new {i : Nat} {ts : List (Nat × Bool)} (ha : PE X ma (tN X.K G a)) (hr : PA X mes (tP X.K G ts es)) (hs : starEach (ma :: mes) X.env = (false, eval ma X.env) :: starEach mes X.env := by rfl) : PA X (ma :: mes) (tP X.K G ((i, true) :: ts) (a :: es)) := p_new ha hr hs
theorem ks_par2 {i j : Nat} {bi bj : Bool} {x y : Str} {px py pt pt2 : Pos} {kt k2 : Nat} (g : GoodX X) (ha : PA X [ma, mb] (tP X.K G [(i, bi), (j, bj)] es)) (hi : X.N[i]? = some x := by rfl) (hj : X.N[j]? = some y := by rfl) (hij : i ≠ j := by decide)
    (hx : X.env.scope.names.lookup x = some .local := by rfl) (hy : X.env.scope.names.lookup y = some .local := by rfl)
    (hw : swappedStores [.Tuple [.Name x px, .Name y py] kt pt] (.Tuple [ma, mb] k2 pt2) X.env = pure (some [x, y]) := by rfl)
    (hs : swapsWithSole [.Tuple [.Name x px, .Name y py] kt pt] (.Tuple [ma, mb] k2 pt2) pos.line X.env = pure false := by rfl) :
    PS X (.Assign [.Tuple [.Name x px, .Name y py] kt pt] (.Tuple [ma, mb] k2 pt2) pos) (tS X.K G GI (.asgP [(i, bi), (j, bj)] es)) :=
  s_asgP (ts := [(i, bi), (j, bj)]) (par2 (ps_par g.calm g.nd hi hj hij hx hy ha hw hs))
theorem ks_par3 {i j l : Nat} {bi bj bl : Bool} {x y z : Str} {px py pz pt pt2 : Pos} {kt k2 : Nat} (g : GoodX X) (ha : PA X [ma, mb, mc] (tP X.K G [(i, bi), (j, bj), (l, bl)] es)) (hi : X.N[i]? = some x := by rfl) (hj : X.N[j]? = some y := by rfl) (hl : X.N[l]? = some z := by rfl) (hij : i ≠ j := by decide) (hil : i ≠ l := by decide) (hjl : j ≠ l := by decide)
    (hx : X.env.scope.names.lookup x = some .local := by rfl) (hy : X.env.scope.names.lookup y = some .local := by rfl) (hz : X.env.scope.names.lookup z = some .local := by rfl)
    (hw : swappedStores [.Tuple [.Name x px, .Name y py, .Name z pz] kt pt] (.Tuple [ma, mb, mc] k2 pt2) X.env = pure (some [x, y, z]) := by rfl)
    (hs : swapsWithSole [.Tuple [.Name x px, .Name y py, .Name z pz] kt pt] (.Tuple [ma, mb, mc] k2 pt2) pos.line X.env = pure false := by rfl) :
    PS X (.Assign [.Tuple [.Name x px, .Name y py, .Name z pz] kt pt] (.Tuple [ma, mb, mc] k2 pt2) pos) (tS X.K G GI (.asgP [(i, bi), (j, bj), (l, bl)] es)) :=
  s_asgP (ts := [(i, bi), (j, bj), (l, bl)]) (par3 (ps_par3 g.calm g.nd hi hj hl hij hil hjl hx hy hz ha hw hs))
theorem kgn (i : Nat) {x : Str} (g : GoodX X) (hi : X.N[i]? = some x := by rfl) (hx : Loc X.env.scope x := by first | exact Or.inl rfl | exact Or.inr rfl) (hf : X.fn x = true ∨ X.env.scope.names.lookup x = some .local := by first | exact Or.inl rfl | exact Or.inr rfl) : PG X (.Name x pos) (gName i) := pg_name g.nd hi hx hf
theorem ks_parN {ts : List (Nat × Bool)} {kt k2 : Nat} {pt pt2 : Pos} {tes : List Expr} (g : GoodX X) (ha : PA X mes (tP X.K G ts es)) (hg : PGs X tes (gNames (ts.map (·.1)))) (hl : ts.length ≤ 64 := by decide) (hn : (assignEach tes X.env).length = ts.length := by rfl) (hst : (assignEach tes X.env).findIdx? (·.1) = none := by rfl)
    (hs : swapsWithSole [.Tuple tes kt pt] (.Tuple mes k2 pt2) pos.line X.env = pure false := by rfl) (hw : swappedStores [.Tuple tes kt pt] (.Tuple mes k2 pt2) X.env = pure none := by rfl)
    (h1 : (assignEach [.Tuple tes kt pt] X.env).map (·.2) = [assign (.Tuple tes kt pt) X.env] := by rfl) : PS X (.Assign [.Tuple tes kt pt] (.Tuple mes k2 pt2) pos) (tS X.K G GI (.asgP ts es)) :=
  s_asgPN (Nat.le_trans hl (by decide)) (ps_asg (pe_tup ha) (pg_tup g.calm hg hn hst) hs hw h1)
theorem ks_app (i : Nat) {y : Str} {apos : Pos} (hv : PE X (.Name y pp) (L2.tVar i)) (he : PE X me (tD X.K G e))
    (hbase : attributeBase (.Name y pp) "append" X.env (eval (.Name y pp) X.env) = eval (.Name y pp) X.env := by rfl)
    (hfew : ((backTo p2 (starEach [me] X.env)).all (fun x => !x.1) && (backToKw p2 (keywordEach [] X.env)).all (fun x => x.1.isSome)
      && decide ([me].length + ([] : List Keyword).length + (if ([] : List Keyword).isEmpty then 0 else 1) < 30)) = true := by rfl)
    (hline : (apos.endLine == p2.line) = true := by rfl) (hs : starEach [me] X.env = (false, eval me X.env) :: starEach [] X.env := by rfl) (hplain : (backTo p2 (starEach [] X.env)).any (·.1) = false := by rfl)
    (hsw : swapsWith (.Call (.Attribute (.Name y pp) "append" apos) [me] [] p2) none pos.line X.env = pure false := by rfl) :
    PS X (.Expr (.Call (.Attribute (.Name y pp) "append" apos) [me] [] p2) pos) (tS X.K G GI (.app i e)) :=
  s_app (ps_expr (pe_bm PySem.F.plainAttrs_list PySem.F.slot_list_append PySem.F.type_list_append mt_append hv (a_cons he a_nil hs) hbase hfew hline hs hplain) hsw)
theorem ks_ext (i : Nat) {y : Str} {apos : Pos} (hv : PE X (.Name y pp) (L2.tVar i)) (he : PE X me (tD X.K G e))
    (hbase : attributeBase (.Name y pp) "extend" X.env (eval (.Name y pp) X.env) = eval (.Name y pp) X.env := by rfl)
    (hfew : ((backTo p2 (starEach [me] X.env)).all (fun x => !x.1) && (backToKw p2 (keywordEach [] X.env)).all (fun x => x.1.isSome)
      && decide ([me].length + ([] : List Keyword).length + (if ([] : List Keyword).isEmpty then 0 else 1) < 30)) = true := by rfl)
    (hline : (apos.endLine == p2.line) = true := by rfl) (hs : starEach [me] X.env = (false, eval me X.env) :: starEach [] X.env := by rfl) (hplain : (backTo p2 (starEach [] X.env)).any (·.1) = false := by rfl)
    (hsw : swapsWith (.Call (.Attribute (.Name y pp) "extend" apos) [me] [] p2) none pos.line X.env = pure false := by rfl) :
    PS X (.Expr (.Call (.Attribute (.Name y pp) "extend" apos) [me] [] p2) pos) (tS X.K G GI (.ext i e)) :=
  s_ext (ps_expr (pe_bm PySem.F.plainAttrs_list PySem.F.slot_list_extend PySem.F.type_list_extend mt_extend hv (a_cons he a_nil hs) hbase hfew hline hs hplain) hsw)
theorem ks_sset {i : Nat} {y : Str} {ps : Pos} (g : GoodX X) (hv : PE X (.Name y pp) (L2.tVar i)) (hk : PE X ma (tD X.K G a)) (he : PE X me (tD X.K G e))
    (ha : ∀ v, assign (.Subscript (.Name y pp) ma ps) X.env v = (do
      let ov ← holding [v] (eval (.Name y pp) X.env)
      let iv ← holding [v, ov] (eval ma X.env)
      standAt ps
      holding [v, ov, iv] (setItem ov iv v)
      release [v, ov, iv] []) := by intro _; rfl)
    (hs0 : swapsWith me (some (.Subscript (.Name y pp) ma ps)) pos.line X.env = pure false := by rfl)
    (hs : swapsWithSole [.Subscript (.Name y pp) ma ps] me pos.line X.env = pure false := by rfl) (hw : swappedStores [.Subscript (.Name y pp) ma ps] me X.env = pure none := by rfl)
    (h1 : (assignEach [.Subscript (.Name y pp) ma ps] X.env).map (·.2) = [assign (.Subscript (.Name y pp) ma ps) X.env] := by rfl) :
    PS X (.Assign [.Subscript (.Name y pp) ma ps] me pos) (tS X.K G GI (.sset i a e)) :=
  s_sset (ps_asg he (pg_sub hv hk set_list ha) hs hw h1) (ps_dput (by have := g.hu; omega) hv hk he hs0)
theorem ks_saug {i : Nat} {y : Str} {ps : Pos} {o : BO} {op : Operator} {ti : TIp} (g : GoodX X) (ho : P2ok X.K (opA o) ti) (hp : PIp X op ti) (hv : PE X (.Name y pp) (L2.tVar i)) (hk : PE X ma (tD X.K G a)) (he : PE X me (tD X.K G e))
    (ha : ∀ ov iv new, augStore ma ov iv new = (do holding [new, ov, iv] (setItem ov iv new); release [new, ov, iv] []; pure .next) := by intros; rfl) :
    PS X (.AugAssign (.Subscript (.Name y pp) ma ps) op me pos) (tS X.K G GI (.saug i a o e)) :=
  s_saug ho (ps_augS hv hk get_list he hp set_list ha) (ps_daug (by have := g.hu; omega) hv hk he hp ha)
theorem ks_saug_add {i : Nat} {y : Str} {ps : Pos} (g : GoodX X) (hv : PE X (.Name y pp) (L2.tVar i)) (hk : PE X ma (tD X.K G a)) (he : PE X me (tD X.K G e))
    (ha : ∀ ov iv new, augStore ma ov iv new = (do holding [new, ov, iv] (setItem ov iv new); release [new, ov, iv] []; pure .next) := by intros; rfl) :
    PS X (.AugAssign (.Subscript (.Name y pp) ma ps) .Add me pos) (tS X.K G GI (.saug i a .add e)) := ks_saug g ipadd_ok ip_add hv hk he ha
theorem ks_saug_sub {i : Nat} {y : Str} {ps : Pos} (g : GoodX X) (hv : PE X (.Name y pp) (L2.tVar i)) (hk : PE X ma (tD X.K G a)) (he : PE X me (tD X.K G e))
    (ha : ∀ ov iv new, augStore ma ov iv new = (do holding [new, ov, iv] (setItem ov iv new); release [new, ov, iv] []; pure .next) := by intros; rfl) :
    PS X (.AugAssign (.Subscript (.Name y pp) ma ps) .Sub me pos) (tS X.K G GI (.saug i a .sub e)) := ks_saug g ipsub_ok ip_sub hv hk he ha
theorem ks_aug_add (i : Nat) {x : Str} (g : GoodX X) (he : PE X me (tD X.K G e)) (hi : X.N[i]? = some x := by rfl) (hx : Loc X.env.scope x := by first | exact Or.inl rfl | exact Or.inr rfl) (hf : X.fn x = true ∨ X.env.scope.names.lookup x = some .local := by first | exact Or.inl rfl | exact Or.inr rfl) :
    PS X (.AugAssign (.Name x p2) .Add me pos) (tS X.K G GI (.aug i .add e)) := s_aug ipadd_ok (ps_aug g.nd hi hx he ip_add hf)
theorem ks_aug_sub (i : Nat) {x : Str} (g : GoodX X) (he : PE X me (tD X.K G e)) (hi : X.N[i]? = some x := by rfl) (hx : Loc X.env.scope x := by first | exact Or.inl rfl | exact Or.inr rfl) (hf : X.fn x = true ∨ X.env.scope.names.lookup x = some .local := by first | exact Or.inl rfl | exact Or.inr rfl) :
    PS X (.AugAssign (.Name x p2) .Sub me pos) (tS X.K G GI (.aug i .sub e)) := s_aug ipsub_ok (ps_aug g.nd hi hx he ip_sub hf)
theorem ks_aug_mod (i : Nat) {x : Str} (g : GoodX X) (he : PE X me (tD X.K G e)) (hi : X.N[i]? = some x := by rfl) (hx : Loc X.env.scope x := by first | exact Or.inl rfl | exact Or.inr rfl) (hf : X.fn x = true ∨ X.env.scope.names.lookup x = some .local := by first | exact Or.inl rfl | exact Or.inr rfl) :
    PS X (.AugAssign (.Name x p2) .Mod me pos) (tS X.K G GI (.aug i .mod e)) := s_aug ipmod_ok (ps_aug g.nd hi hx he ip_mod hf)
theorem ks_for {iter : Expr} {bs : List S} {kl : List Nat} (hp : PassesOwn (model X.prog X.w) X.A X.env X.xe) (g : GoodX X) (hi : PI X tg iter (tI true X.K G k es)) (hg : PG X tg (tG X.K t)) (hb : PSs X mbs (tSs X.K G GI bs))
    (hs : ∀ x, foldedSetIterable iter X.env x = pure x := by intro _; rfl) : PS X (.For tg iter mbs [] pos) (tS X.K G GI (.for_ t k es bs kl)) := s_for hp g.calm hi hg hb hs
end
/-! ### defs -/
section
variable {P : Program} {w : World} {K : PySem.W.Frag} {mg : Str → Option Value} {base : Heap} {defs : Nat → Option Fn}
abbrev cx (P : Program) (w : World) (K : PySem.W.Frag) (mg : Str → Option Value) (base : Heap) (N : List Str) (x : Str) (sc : Scope) (f : Addr) (cdv : Value) (A : Around) (outer : List PySem.Env) (s : Shared) (H : Hp) (E : XK) : Cx :=
  (cxOf CX0 P w K mg base N x sc f cdv A outer s H E).nox
/-- a def as it stands behind the top -/
structure HasFn (K : PySem.W.Frag) (mg : Str → Option Value) (x : Str) (st : Stmt) (ps : List Str) : Prop where
  ex : ∃ (fa : Addr) (fd : FuncData), FunD K x x (defArgs st) (defBody st) (defScope st) [] [] fa fd ∧ mg x = some (.ref fa) ∧ Binds K fd ps []
structure FnGood (P : Program) (w : World) (K : PySem.W.Frag) (mg : Str → Option Value) (base : Heap) (k : Nat) (x : Str) (ps : List Str) (sp : Sp) : Prop where
  ex : ∃ (fa : Addr) (fd : FuncData), PySem.W.keepIn K (.ref fa) = true ∧ mg x = some (.ref fa) ∧ Binds K fd ps [] ∧ FnOk P w K mg base CX0 k fa fd ps sp
theorem fn_zero {x : Str} {st : Stmt} {ps : List Str} {id n : Nat} (h : HasFn K mg x st ps) (hn : ps.length = n) : FnGood P w K mg base 0 x ps (spD K n (run defs 0 id)) := by
  obtain ⟨fa, fd, F, hm, hb⟩ := h.ex
  exact ⟨fa, fd, F.kp, hm, hb, ⟨fun vs H Q E h => by rw [hn]; exact h.1, fun A outer s H args us vs Q E _ _ _ _ h => by
    obtain ⟨_, F, ds, d, _, _, hd, _⟩ := h
    cases hd⟩⟩
theorem fn_zeroI {x : Str} {st : Stmt} {ps : List Str} {id n : Nat} (h : HasFn K mg x st ps) (hn : ps.length = n) : FnGood P w K mg base 0 x ps (spI K n (runI defs 0 id)) := by
  obtain ⟨fa, fd, F, hm, hb⟩ := h.ex
  exact ⟨fa, fd, F.kp, hm, hb, ⟨fun vs H Q E h => by rw [hn]; exact h.1, fun A outer s H args us vs Q E _ _ _ _ h => by
    obtain ⟨_, F, a, y, ds, ws, d, _, _, _, _, _, hd, _⟩ := h
    cases hd⟩⟩
theorem run_len {k id : Nat} {fn : Fn} (hd : defs id = some fn) (ds : List D) (d : D) (h : run defs k id ds = some d) : ds.length = fn.ps := by
  cases k with
  | zero => cases h
  | succ k =>
    have h : ((defs id).bind fun fn => if fn.io = false ∧ ds.length = fn.ps then retD (exs (run defs k) (runI defs k) (fn.start ds) fn.body) else none) = some d := h
    rw [hd] at h
    have h : (if fn.io = false ∧ ds.length = fn.ps then retD (exs (run defs k) (runI defs k) (fn.start ds) fn.body) else none) = some d := h
    exact Decidable.byContradiction fun n => by rw [if_neg fun z => n z.2] at h; cases h
theorem cal_of {X : Cx} {k id : Nat} {x : Str} {ps : List Str} {fn : Fn} (T : FnGood X.prog X.w X.K X.mg X.base k x ps (spD X.K fn.ps (run defs k id))) (hr : Room k X.A) (hd : defs id = some fn) (hps : ps.length = fn.ps) : Cal X (run defs k) x id fn.ps := by
  obtain ⟨fa, fd, hk, hm, hb, F⟩ := T.ex
  exact ⟨⟨k, fa, fd, ps, hps, F, hr, hm, hk, hb⟩, fun ds d => run_len hd ds d⟩
theorem start_ok {F H : Hp} {N : List Str} {ds : List D} {vs : List V} {fn : Fn} (l : FLe F H) (r : RepL K F ds vs) (hio : fn.io = false) (hv : vs.length = fn.ps) (hN : N.length = fn.ns) (hp : fn.ps ≤ fn.ns) : Ok K F H (L2.start N vs) (fn.start ds) := by
  have hl := r.length
  have e1 : fn.start ds = ds.map Cell.val ++ List.replicate (fn.ns - fn.ps) .unk := by
    unfold Fn.start
    rw [hio]
  rw [e1]
  refine ⟨l, ⟨?_, fun i d h => ?_, fun i d h => ?_, fun i j d e a _ h => ?_⟩⟩
  · unfold L2.start
    simp only [List.length_append, List.length_map, List.length_replicate]
    omega
  · by_cases hi : i < ds.length
    · rw [List.getElem?_append_left (by simpa using hi), List.getElem?_map, List.getElem?_eq_getElem hi] at h
      cases h
      obtain ⟨v, h1, h2⟩ := r.get (List.getElem?_eq_getElem hi)
      refine ⟨v, ?_, h2⟩
      unfold L2.start
      rw [List.getElem?_append_left (by simp; omega), List.getElem?_map, h1]; rfl
    · rw [List.getElem?_append_right (by simpa using hi)] at h
      rw [List.getElem?_replicate] at h
      split at h <;> cases h
  all_goals
    by_cases hi : i < ds.length
    · rw [List.getElem?_append_left (by simpa using hi), List.getElem?_map, List.getElem?_eq_getElem hi] at h
      cases h
    · rw [List.getElem?_append_right (by simpa using hi)] at h
      rw [List.getElem?_replicate] at h
      split at h <;> cases h
theorem fn_body {k id : Nat} {fn : Fn} {N : List Str} {vs : List V} {H : Hp} {Q : VK} {E : XK} (hd : defs id = some fn) (hio : fn.io = false) (hN : N.length = fn.ns) (hp : fn.ps ≤ fn.ns) (h : spD K fn.ps (run defs (k + 1) id) vs H Q E) :
    tSs K (run defs k) (runI defs k) fn.body { nx := fun _ H' => Q .non H', rt := Q } (L2.start N vs) H := by
  obtain ⟨hv, F, ds, d, l, r, hr, q⟩ := h
  have hr : ((defs id).bind fun fn => if fn.io = false ∧ ds.length = fn.ps then retD (exs (run defs k) (runI defs k) (fn.start ds) fn.body) else none) = some d := hr
  rw [hd] at hr
  have hr : (if fn.io = false ∧ ds.length = fn.ps then retD (exs (run defs k) (runI defs k) (fn.start ds) fn.body) else none) = some d := hr
  have hl := r.length
  rw [if_pos ⟨hio, by omega⟩] at hr
  have own : ∀ a, ¬ Own (L2.start N vs) (fn.start ds) a := fun a ⟨i, e, h1, h2⟩ => by
    have e1 : fn.start ds = ds.map Cell.val ++ List.replicate (fn.ns - fn.ps) .unk := by
      unfold Fn.start
      rw [hio]
    rw [e1] at h1
    by_cases hi : i < ds.length
    · rw [List.getElem?_append_left (by simpa using hi), List.getElem?_map, List.getElem?_eq_getElem hi] at h1
      cases h1
    · rw [List.getElem?_append_right (by simpa using hi)] at h1
      rw [List.getElem?_replicate] at h1
      split at h1 <;> cases h1
  have ext : ∀ {F' H'}, Reach F H (L2.start N vs) (fn.start ds) F' H' → Ext F H F' H' := fun re => ⟨re.f, fun a u e => re.h a u e (own a), fun a u e z => re.n a u e z (own a)⟩
  cases hx : exs (run defs k) (runI defs k) (fn.start ds) fn.body with
  | none => rw [hx] at hr; cases hr
  | some r' =>
    rw [hx] at hr
    obtain ⟨fl, env'⟩ := r'
    refine ⟨F, fn.start ds, (fl, env'), start_ok l r hio hv hN hp, hx, ?_⟩
    cases fl with
    | nx => cases hr; exact fun F' H' σ' st => q F' H' .non (ext st.re) st.re.le rfl
    | brk => cases hr
    | rt d' => cases hr; exact fun F' H' v re rd => q F' H' v (ext re) re.le rd
theorem good_of {k : Nat} {A : Around} {N : List Str} (hr : Room k A) (nd : N.Nodup) (hb : ∀ b ∈ blts, mg b = none) : Good true N A mg := ⟨rfl, nd, by have := hr.un; omega, hb⟩
theorem fn_ok {k id : Nat} {x : Str} {st : Stmt} {N ps : List Str} {fn : Fn} {fa : Addr} {fd : FuncData} (F : FunD K x x (defArgs st) (defBody st) (defScope st) [] [] fa fd) (S : FnScope N ps (defScope st)) (hd : defs id = some fn) (hio : fn.io = false) (hps : ps.length = fn.ps) (hN : N.length = fn.ns) (hp : fn.ps ≤ fn.ns)
    (hb : ∀ (f : Addr) (cdv : Value) (A : Around) (outer : List PySem.Env) (s : Shared) (H : Hp) (E : XK), Room k (A.deeper (envOfC x (defScope st) s.heap.objs.size f cdv)) →
      PSs (cx P w K mg base N x (defScope st) f cdv A outer s H E) (defBody st) (tSs K (run defs k) (runI defs k) fn.body)) :
    FnOk P w K mg base CX0 (k + 1) fa fd ps (spD K fn.ps (run defs (k + 1) id)) :=
  F.ok S (fun vs H Q E h => by rw [hps]; exact h.1) fun cdv A outer s H vs Q E hr h => ⟨_, (hb fa cdv A outer s H E hr).nox, fn_body hd hio hN hp h⟩
theorem fn_step {k id : Nat} {x : Str} {st : Stmt} {N ps : List Str} {fn : Fn} (h : HasFn K mg x st ps) (S : FnScope N ps (defScope st)) (hd : defs id = some fn) (hio : fn.io = false) (hps : ps.length = fn.ps) (hN : N.length = fn.ns) (hp : fn.ps ≤ fn.ns)
    (hb : ∀ (f : Addr) (cdv : Value) (A : Around) (outer : List PySem.Env) (s : Shared) (H : Hp) (E : XK), Room k (A.deeper (envOfC x (defScope st) s.heap.objs.size f cdv)) →
      PSs (cx P w K mg base N x (defScope st) f cdv A outer s H E) (defBody st) (tSs K (run defs k) (runI defs k) fn.body)) :
    FnGood P w K mg base (k + 1) x ps (spD K fn.ps (run defs (k + 1) id)) := by
  obtain ⟨fa, fd, F, hm, hbi⟩ := h.ex
  exact ⟨fa, fd, F.kp, hm, hbi, fn_ok F S hd hio hps hN hp hb⟩
end
end Rx
namespace Rx
open PySem PySem.Spec PyProof.Rows L2
section
variable {K : PySem.W.Frag} {defs : Nat → Option Fn}
theorem sp_law {k id : Nat} {ns : List Int} {H : Hp} {a : Addr} {E : XK} (h : run defs k id [.scr ns] = some (.bl true)) (hl : ns.length ≤ 63) (hS : SqL K H a (ns.map V.int)) : spD K 1 (run defs k id) [.ref a] H (fun v _ => v = .bl true) E :=
  ⟨rfl, H, [.scr ns], .bl true, fun _ _ e => .inl e, ⟨_, _, rfl, ⟨a, rfl, hS, Nat.le_trans hl (by decide)⟩, rfl⟩, h, fun F' H' v _ _ r => r⟩
theorem has_mk {d : He.DefD} {ps : List Str} {st : Stmt} {mg : Str → Option Value} {x : Str} {fd : FuncData} {fa : Addr} (F : FunD K x x (defArgs st) (defBody st) (defScope st) [] [] fa fd) (hm : mg x = some (.ref fa))
    (hb : ∀ (kV doc pm : Value) (an : Option Addr) (cdv ct : Value) (us : List Value), us.length = ps.length → bindArgs (PySem.W.fnOf x x (defArgs st) (defBody st) (defScope st) .none kV doc pm an cdv ct) ⟨us, []⟩ = pure (ps.zip us)) : HasFn K mg x st ps :=
  ⟨fa, fd, F, hm, F.bindsN hb⟩
end
end Rx
end

section
set_option Elab.async false
set_option linter.all false
set_option maxRecDepth 100000
set_option maxHeartbeats 1000000
set_option autoImplicit false
/-! RxKit3: further builtins. -/
namespace Rx
open PySem PySem.Spec PyProof.Rows L2
section
variable {X : Cx} {G : Gm} {K : PySem.W.Frag} {F H : Hp} {e a b : E} {me ma mb : Expr} {pos pp p2 pos2 apos : Pos} {pins : List (Addr × Obj)} {s : Shared} {σ : St}
/-! ### bit_length -/
theorem k_bitlen (g : GoodX X) (ha : PE X ma (tB X.K G a)) (hbase : attributeBase ma "bit_length" X.env (eval ma X.env) = eval ma X.env := by rfl) (hline : (apos.endLine == pos.line) = true := by rfl) :
    PE X (.Call (.Attribute ma "bit_length" apos) [] [] pos) (tD X.K G (.b1 .bitlen a)) := (pe_bits ha hbase hline).imp fun σ H Q ⟨F, env, d, ok, hd, k⟩ => by
  obtain ⟨x, hx, hd⟩ := Option.bind_eq_some_iff.mp (show (bo env a (ev G env a)).bind _ = some d from hd)
  cases x <;> simp only [opU] at hd <;> try cases hd
  rename_i i
  split at hd <;> cases hd
  refine runB ok hx fun F1 H1 v x1 o1 r1 => ⟨i, r1.int, ?_⟩
  have e : Builtin.Int.intBits i = bitlen i := by
    unfold Builtin.Int.intBits bitlen
    by_cases h : i = 0
    · subst h; rfl
    · rw [if_neg (by simpa using h), if_neg h]
  rw [e]
  exact k _ _ _ x1 o1.le rfl
/-! ### tuple(reversed(xs)) -/
theorem k_ofw_t_rev (g : GoodX X) (he : PE X ma (tB X.K G a)) (hg : Gl X "tuple" := by rfl) (hg2 : Gl X "reversed" := by rfl) (hs : starEach [ma] X.env = (false, eval ma X.env) :: starEach [] X.env := by rfl)
    (hs2 : starEach [.Call (.Name "reversed" p2) [ma] [] pos2] X.env = (false, eval (.Call (.Name "reversed" p2) [ma] [] pos2) X.env) :: starEach [] X.env := by rfl) :
    PE X (.Call (.Name "tuple" pp) [.Call (.Name "reversed" p2) [ma] [] pos2] [] pos) (tD X.K G (.ofw false .rev [a])) :=
  (RT.pe_tupRev g.calm hg (g.bl _ (by decide +kernel)) hg2 (g.bl _ (by decide +kernel)) he hs hs2).imp fun σ H Q ⟨F, env, d, ok, hd, k⟩ => by
    obtain ⟨vs, hv, hd⟩ := Option.bind_eq_some_iff.mp (show (evB G env [a]).bind _ = some d from hd)
    obtain ⟨xs, hw, hd⟩ := Option.bind_eq_some_iff.mp hd
    obtain ⟨x, hx, hv⟩ := Option.bind_eq_some_iff.mp (show (bo env a (ev G env a)).bind _ = some vs from hv)
    cases hv
    have key : ∃ ys, x = .lst ys ∧ xs = ys.reverse := by
      cases x <;> simp only [walkO] at hw <;> cases hw
      exact ⟨_, rfl, rfl⟩
    obtain ⟨ys, rfl, rfl⟩ := key
    have hd : (if ys.reverse.length ≤ line then some (D.tup ys.reverse) else none) = some d := hd
    have hl : ys.reverse.length ≤ line := Decidable.byContradiction fun n => by rw [if_neg n] at hd; cases hd
    rw [if_pos hl] at hd
    cases hd
    refine runB ok hx fun F1 H1 v x1 o1 r1 => ?_
    obtain ⟨p, vs, rfl, e1, r, z⟩ := r1.lst o1.le
    exact ⟨p, vs, rfl, .inl (.inl e1), fun q n => Want.tup (fun F' H' w x2 l2 r2 => k F' H' w (x1.trans x2) l2 r2) o1.le r.reverse hl n⟩
/-! ### sorted -/
theorem toPy_alike : ∀ {xs : List D}, alikeAll xs = true → PySem.W.AllAlike (D.toPyL xs) := by
  intro xs h d hd d' hd'
  rw [toPyL_eq] at hd hd'
  obtain ⟨x, hx, rfl⟩ := List.mem_map.mp hd
  obtain ⟨y, hy, rfl⟩ := List.mem_map.mp hd'
  exact alike_plain x y (alike_all h hx hy)
theorem toPy_sortable {xs : List D} (h : sortable xs = true) : PySem.W.Sortable (D.toPyL xs) := by
  unfold sortable at h
  rw [toPyL_eq]
  rcases Bool.or_eq_true_iff.mp h with h | h
  · right
    intro d hd
    obtain ⟨x, hx, rfl⟩ := List.mem_map.mp hd
    have := List.all_eq_true.mp h x hx
    match x, this with
    | .int i, _ => simp [D.toPy]
  · left
    intro d hd
    obtain ⟨x, hx, rfl⟩ := List.mem_map.mp hd
    have := List.all_eq_true.mp h x hx
    match x, this with
    | .tup (y :: ys), _ => exact ⟨D.toPy y, D.toPyL ys, by rw [D.toPy, D.toPyL]⟩
abbrev leP (p q : V × D) : Bool := !D.ltb q.2 p.2
def rSort (K : PySem.W.Frag) : List V → Hp → VK → Prop := fun vs H Q => ∃ (l : Addr) (bs : List (V × D)), vs = [.ref l] ∧ (H l = some (.lst (bs.map (·.1))) ∨ H l = some (.tup (bs.map (·.1)))) ∧ bs.length ≤ line ∧ DpAll K H (bs.map (·.1)) (D.toPyL (bs.map (·.2))) ∧ alikeAll (bs.map (·.2)) = true ∧ sortable (bs.map (·.2)) = true ∧ D.depthL (bs.map (·.2)) < 60 ∧
  ∀ p, H p = none → Q (.ref p) (upd H p (.lst ((bs.mergeSort leP).map (·.1))))
theorem each_of : ∀ {bs : List (V × D)} {its : List Value}, Vals (bs.map (·.1)) its → PySem.W.EachIs (fun v (p : V × D) => RelV p.1 v) its bs
  | [], _, r => by cases r; exact .nil
  | p :: bs, _, r => by
    cases r with
    | cons h t => exact .cons h (each_of t)
theorem vals_each : ∀ {bs : List (V × D)} {its : List Value}, PySem.W.EachIs (fun v (p : V × D) => RelV p.1 v) its bs → Vals (bs.map (·.1)) its
  | [], _, h => by cases h; exact .nil
  | p :: bs, _, h => by
    cases h with
    | cons h t => exact .cons h (vals_each t)
theorem each_reads {h : Heap} : ∀ {bs : List (V × D)} {its : List Value} {as : List Addr}, ReadsAll h its (D.toPyL (bs.map (·.2))) as → PySem.W.EachIs (fun v (p : V × D) => ∃ as, Reads h v (D.toPy p.2) as) its bs
  | [], _, _, r => by cases r; exact .nil
  | p :: bs, _, _, r => by
    rw [List.map_cons, D.toPyL] at r
    cases r with
    | cons h t => exact .cons ⟨_, h⟩ (each_reads t)
theorem sort_le {bs : List (V × D)} (hal : alikeAll (bs.map (·.2)) = true) : bs.mergeSort (PySem.W.dataLe false fun p : V × D => D.toPy p.2) = bs.mergeSort leP := by
  have h := List.map_mergeSort (r := PySem.W.dataLe false fun p : V × D => D.toPy p.2) (s := leP) (f := id) (l := bs) fun p hp q hq => by
    show (!PySem.W.dataLt (D.toPy q.2) (D.toPy p.2)) = !D.ltb q.2 p.2
    rw [toPy_lt q.2 p.2 (alike_all hal (List.mem_map.mpr ⟨q, hq, rfl⟩) (List.mem_map.mpr ⟨p, hp, rfl⟩))]
  simpa using h
/-- sorted(ts), ts a tuple -/
theorem sorted_dataT {prog : Program} {w : World} {A : Around} {E : Value → Shared → Prop} {s : Shared} {β : Type} {R : Value → β → Prop} {enc : β → PyData} {vs : List Value} {bs : List β} {l : Addr} {Q : Value → Shared → Prop} (hl : IsTup s.heap l vs.toArray) (e : PySem.W.EachIs R vs bs) (er : PySem.W.EachIs (fun v b => ∃ as, Reads s.heap v (enc b) as) vs bs) (hal : PySem.W.AllAlike (bs.map enc)) (hk : PySem.W.Sortable (bs.map enc)) (hL : bs.length ≤ sizeLine)
    (hu : ∀ b, b ∈ bs → A.units + 2 + (enc b).depth < cLine)
    (h : ∀ (h' : Heap) (out : List Value), (∀ b o, s.heap.get? b = some o → h'.get? b = some o) → out.length = bs.length → PySem.W.EachIs R out (bs.mergeSort (PySem.W.dataLe false enc)) →
      Q (.ref h'.objs.size) { s with heap := sortedHeap (h'.push (seqObj "list" vs.toArray 0)) h'.objs.size vs (List.toArray out) }) :
    wpAny (model prog w) A (call (.builtin "sorted") [.ref l]) Q E s := by
  obtain ⟨o, ho, hc, n, hd⟩ := hl
  refine Calls.call_function_entry kind_sorted plain_sorted entry_sorted (args_sorted1 _) ?_
  unfold Builtin.«sorted»
  refine wpAny_bind (m := checkCount "sorted" 1 1 _) (wpAny_pure ?_)
  refine wpAny_bind (wpAny_collect_seq (it := l) (.inr rfl) ho hc hd (fun h' hk' => ?_) (by have := e.length; simp only [List.size_toArray]; omega))
  refine wpAny_bind (wpAny_newList ?_ (by have := e.length; simp only; omega))
  have hob : (h'.push { cls := .type "list", data := .seq vs.toArray }).get? h'.objs.size = some (seqObj "list" vs.toArray 0) := Heap.get?_push_size _ rfl
  have kb : ∀ b o, s.heap.get? b = some o → (PySem.W.sortingHeap (h'.push { cls := .type "list", data := .seq vs.toArray }) h'.objs.size vs).get? b = some o := fun b o q =>
    PySem.W.sortingHeap_old (Nat.ne_of_lt (Heap.lt_size (hk' b o q))) (Heap.get?_push_of_some _ (hk' b o q))
  have er' : PySem.W.EachIs (fun v b => ∃ as, Reads (PySem.W.sortingHeap (h'.push { cls := .type "list", data := .seq vs.toArray }) h'.objs.size vs) v (enc b) as) vs bs := er.mono fun _ _ ⟨as, r⟩ => ⟨as, PyProof.Rows.Reads.keeps kb r⟩
  refine wpAny_bind (wpAny_holding (wpAny_call_entry slot_list_sort ⟨_, hob, rfl⟩ entry_list_sort
    (PySem.W.list_sort_vals (s := { s with heap := h'.push { cls := .type "list", data := .seq vs.toArray } }) (κ := PySem.W.dataKind (PySem.W.sortingHeap (h'.push { cls := .type "list", data := .seq vs.toArray }) h'.objs.size vs) (bs.map enc)) hob
      (PySem.W.SortsAt.data (s := { s with heap := PySem.W.sortingHeap (h'.push { cls := .type "list", data := .seq vs.toArray }) h'.objs.size vs }) (PySem.W.each_map (R := fun v d => ∃ as, Reads (PySem.W.sortingHeap (h'.push { cls := .type "list", data := .seq vs.toArray }) h'.objs.size vs) v d as) enc er') hal hk (PySem.W.bound_map (A := A.in1.in1) hu)) (by rw [e.length]; exact hL)
      ⟨.none, rfl, wpAny_pure ⟨_, rfl, ?_⟩⟩) (args_list_sort _)))
  exact h h' _ hk' (by rw [PySem.W.sortVals_length false rfl]; exact e.length) (PySem.W.sortVals_data false e er' hal)
theorem call_sortedA (hc : X.calm = true) (hu : X.A.units + 65 < cLine) : CallR X (.builtin "sorted") (rSort X.K) := by
  intro pins s σ H xs us Q I r ⟨l, bs, e, hl, hz, dp, hal, hso, hdep, q⟩
  subst e
  obtain ⟨u, rfl, ru⟩ := vals1 r
  cases ru
  have hm : (D.toPyL (bs.map (·.2))) = bs.map fun p => D.toPy p.2 := by rw [toPyL_eq, List.map_map]; rfl
  have hdp : ∀ p ∈ bs, X.A.in1.in1.units + (D.toPy p.2).depth < cLine := fun p hp => by
    have h1 := toPy_depth p.2
    have h2 := depth_at (List.mem_map.mpr ⟨p, hp, rfl⟩ : p.2 ∈ bs.map (·.2))
    show X.A.units + 2 + _ < _
    omega
  rcases hl with hl | hl
  · obtain ⟨its, rv, p, hz'⟩ := I.list (SqL.of hl)
    obtain ⟨as, ra⟩ := Dp.readsAll I _ _ _ dp rv
    refine PySem.W.sorted_data (bs := bs) (enc := fun p => D.toPy p.2) (R := fun v (p : V × D) => RelV p.1 v) p.isList (each_of rv) (each_reads ra) (by rw [← hm]; exact toPy_alike hal) (by rw [← hm]; exact toPy_sortable hso) (by rw [line_eq]; exact hz) hdp fun out ho eo => ?_
    rw [sort_le hal] at eo
    obtain ⟨c, hc'⟩ := PyProof.Rows.sortedAll_at s.heap its out.toArray
    refine ⟨.ref (s.heap.objs.size + 1), _, I.laid (t' := s.toks) (o := .lst ((bs.mergeSort leP).map (·.1))) (fun b ob q => PyProof.Rows.sortedAll_old q) (Nat.le_succ _) ⟨?_, out, c, vals_each eo, hc'⟩, rfl, q _ (I.hok.fresh (Nat.le_succ _))⟩
    rw [List.length_map, List.length_mergeSort, line_eq]; exact hz
  · obtain ⟨its, rv, p, hz'⟩ := I.tuple (SqT.of hl)
    obtain ⟨as, ra⟩ := Dp.readsAll I _ _ _ dp rv
    refine sorted_dataT (bs := bs) (enc := fun p => D.toPy p.2) (R := fun v (p : V × D) => RelV p.1 v) p (each_of rv) (each_reads ra) (by rw [← hm]; exact toPy_alike hal) (by rw [← hm]; exact toPy_sortable hso) (by rw [line_eq]; exact hz) hdp fun h' out hk ho eo => ?_
    rw [sort_le hal] at eo
    obtain ⟨c, hc'⟩ := PyProof.Rows.sortedHeap_at (vs := its) (out := out.toArray) (Heap.get?_push_size h' (o := seqObj "list" its.toArray 0) rfl)
    have I' : Inv X pins σ H { s with heap := h', toks := s.toks } := I.kept hk
    refine ⟨.ref h'.objs.size, _, I'.laid (t' := s.toks) (o := .lst ((bs.mergeSort leP).map (·.1))) (fun b ob q => (PyProof.Rows.sortedHeap_old (Nat.ne_of_lt (Heap.lt_size q)) (Heap.lt_size (Heap.get?_push_of_some _ q))).trans (Heap.get?_push_of_some _ q)) (Nat.le_refl _) ⟨?_, out, c, vals_each eo, hc'⟩, rfl, q _ (I'.hok.fresh (Nat.le_refl _))⟩
    rw [List.length_map, List.length_mergeSort, line_eq]; exact hz
theorem repL_zip : ∀ {ds : List D} {vs : List V}, RepL K F ds vs → (vs.zip ds).map (·.1) = vs ∧ (vs.zip ds).map (·.2) = ds ∧ ∀ p ∈ vs.zip ds, Rep K F p.2 p.1
  | [], _, h => by cases h; exact ⟨rfl, rfl, by simp⟩
  | d :: ds, _, h => by
    obtain ⟨v, r, rfl, h1, h2⟩ := h
    obtain ⟨q1, q2, q3⟩ := repL_zip h2
    refine ⟨by simp [q1], by simp [q2], fun p hp => ?_⟩
    rw [List.zip_cons_cons] at hp
    rcases List.mem_cons.mp hp with rfl | hp
    · exact h1
    · exact q3 p hp
theorem repL_of : ∀ {bs : List (V × D)}, (∀ p ∈ bs, Rep K F p.2 p.1) → RepL K F (bs.map (·.2)) (bs.map (·.1))
  | [], _ => rfl
  | p :: bs, h => ⟨_, _, rfl, h p (List.mem_cons_self ..), repL_of fun q hq => h q (List.mem_cons_of_mem _ hq)⟩
theorem sortD_of (bs : List (V × D)) : (bs.mergeSort leP).map (·.2) = sortD (bs.map (·.2)) :=
  List.map_mergeSort (r := leP) (s := fun a b => !D.ltb b a) (f := (·.2)) fun _ _ _ _ => rfl
theorem kn_sorted (g : GoodX X) (ha : PE X ma (tB X.K G a)) (hg : Gl X "sorted" := by rfl) (hs : starEach [ma] X.env = [(false, eval ma X.env)] := by rfl) : PE X (.Call (.Name "sorted" pp) [ma] [] pos) (tN X.K G (.b1 .sorted a)) :=
  (pe_callB (call_sortedA g.calm (by have := g.hu; omega)) hg (g.bl _ (by decide +kernel)) (by decide +kernel) (b_one ha hs) (by decide) (by decide) hs rfl).imp fun σ H Q ⟨F, env, d, ok, hd, k⟩ => by
    obtain ⟨x, hx, hz⟩ := Option.bind_eq_some_iff.mp (show (bo env a (ev G env a)).bind _ = some d from hd)
    refine runLB ok (show evB G env [a] = some [x] by show (bo env a (ev G env a)).bind _ = _; rw [hx]; rfl) fun F1 H1 vs x1 o1 r1 => ?_
    obtain ⟨v, r', rfl, r1, e1⟩ := r1
    cases e1
    obtain ⟨xs, hsx, hz⟩ := Option.bind_eq_some_iff.mp (show x.seq?.bind (fun xs => if alikeAll xs && sortable xs && D.plainL xs && decide (D.depthL xs < 60) then some (D.lst (sortD xs)) else none) = some d from hz)
    have hz : (if (alikeAll xs && sortable xs && D.plainL xs && decide (D.depthL xs < 60)) = true then some (D.lst (sortD xs)) else none) = some d := hz
    have hh : (alikeAll xs && sortable xs && D.plainL xs && decide (D.depthL xs < 60)) = true := Decidable.byContradiction fun n => by rw [if_neg n] at hz; cases hz
    rw [if_pos hh] at hz
    cases hz
    simp only [Bool.and_eq_true, decide_eq_true_eq] at hh
    obtain ⟨vs, ⟨l, rfl, e⟩, r, z⟩ := seqV_of hsx o1.le r1
    obtain ⟨q1, q2, q3⟩ := repL_zip r
    refine ⟨l, vs.zip xs, rfl, by rw [q1]; exact e, ?_, ?_, by rw [q2]; exact hh.1.1.1, by rw [q2]; exact hh.1.1.2, by rw [q2]; exact hh.2, fun p n => ?_⟩
    · rw [List.length_zip, r.length]; omega
    · rw [q1, q2]; exact repL_dp o1.le _ hh.1.2 r
    · have rr : RepL X.K F1 (sortD xs) (((vs.zip xs).mergeSort leP).map (·.1)) := by
        have := repL_of (K := X.K) (F := F1) (bs := (vs.zip xs).mergeSort leP) fun p hp => q3 p (List.mem_mergeSort.mp hp)
        rw [sortD_of, q2] at this
        exact this
      exact WantN.lst (wantN_ext x1 k) o1.le rr (by unfold sortD; rw [List.length_mergeSort]; exact z) n
theorem k_sorted (g : GoodX X) (ha : PE X ma (tB X.K G a)) (hg : Gl X "sorted" := by rfl) (hs : starEach [ma] X.env = [(false, eval ma X.env)] := by rfl) : PE X (.Call (.Name "sorted" pp) [ma] [] pos) (tD X.K G (.b1 .sorted a)) := (kn_sorted g ha hg hs).frz
end
end Rx
end

section
set_option Elab.async false
set_option linter.all false
set_option maxRecDepth 100000
set_option maxHeartbeats 1000000
set_option autoImplicit false
/-! RxKit4: slices with a step, ranges as lists, ranges with a step, calls that change a list. -/
namespace Rx
open PySem PySem.Spec PyProof.Rows L2
/-! ### xs[::g] -/
/-- every g-th one -/
def evN {α : Type} (g : Nat) : Nat → List α → List α
  | _, [] => []
  | 0, x :: xs => x :: evN g (g - 1) xs
  | k + 1, _ :: xs => evN g k xs
theorem everyN_eq (g : Nat) : ∀ (k : Nat) (xs : List D), everyN g k xs = evN g k xs
  | _, [] => by cases ‹Nat› <;> rfl
  | 0, x :: xs => by rw [everyN, evN, everyN_eq g (g - 1) xs]
  | k + 1, _ :: xs => by rw [everyN, evN, everyN_eq g k xs]
theorem evN_drop {α : Type} (g : Nat) : ∀ (k : Nat) (xs : List α), evN g k xs = evN g 0 (xs.drop k)
  | 0, xs => by rw [List.drop_zero]
  | k + 1, [] => by simp [evN]
  | k + 1, x :: xs => by rw [evN, List.drop_succ_cons]; exact evN_drop g k xs
theorem evN_len {α : Type} (g : Nat) : ∀ (k : Nat) (xs : List α), (evN g k xs).length ≤ xs.length
  | _, [] => by cases ‹Nat› <;> simp [evN]
  | 0, x :: xs => by rw [evN]; simp; exact evN_len g (g - 1) xs
  | k + 1, _ :: xs => by rw [evN]; have := evN_len g k xs; simp; omega
theorem evN_vals (g : Nat) : ∀ (k : Nat) (xs : List V) (ys : List Value), Vals xs ys → Vals (evN g k xs) (evN g k ys)
  | k, [], _, h => by cases h; cases k <;> exact .nil
  | 0, x :: xs, _, h => by cases h with | cons h t => exact .cons h (evN_vals g (g - 1) xs _ t)
  | k + 1, _ :: xs, _, h => by cases h with | cons h t => exact evN_vals g k xs _ t
theorem evN_rep {K : PySem.W.Frag} {F : Hp} (g : Nat) : ∀ (k : Nat) {xs : List D} {vs : List V}, RepL K F xs vs → RepL K F (evN g k xs) (evN g k vs)
  | k, [], _, h => by cases h; cases k <;> exact rfl
  | 0, x :: xs, _, h => by
    obtain ⟨v, r, rfl, h1, h2⟩ := h
    exact ⟨v, _, rfl, h1, evN_rep g (g - 1) h2⟩
  | k + 1, _ :: xs, _, h => by
    obtain ⟨v, r, rfl, h1, h2⟩ := h
    exact evN_rep g k h2
theorem fm_congr {α β : Type} {f g : α → Option β} : ∀ {l : List α}, (∀ x ∈ l, f x = g x) → l.filterMap f = l.filterMap g
  | [], _ => rfl
  | a :: l, h => by rw [List.filterMap_cons, List.filterMap_cons, h a (List.mem_cons_self ..), fm_congr fun x hx => h x (List.mem_cons_of_mem _ hx)]
theorem evN_pick {α : Type} (g : Nat) (hg : 0 < g) (n : Nat) : ∀ (xs : List α), xs.length ≤ n → evN g 0 xs = (List.range ((xs.length + g - 1) / g)).filterMap fun k => xs[k * g]? := by
  induction n with
  | zero =>
    intro xs h
    obtain rfl : xs = [] := List.length_eq_zero_iff.mp (by omega)
    have : (0 + g - 1) / g = 0 := Nat.div_eq_of_lt (by omega)
    simp [evN, this]
  | succ n ih =>
    intro xs h
    cases xs with
    | nil =>
      have : (0 + g - 1) / g = 0 := Nat.div_eq_of_lt (by omega)
      simp [evN, this]
    | cons x xs =>
      have hl : (xs.drop (g - 1)).length = xs.length - (g - 1) := List.length_drop
      have hlen : ((x :: xs).length + g - 1) / g = ((xs.drop (g - 1)).length + g - 1) / g + 1 := by
        rw [hl, List.length_cons]
        by_cases hc : g - 1 ≤ xs.length
        · rw [show xs.length + 1 + g - 1 = (xs.length - (g - 1) + g - 1) + g by omega, Nat.add_div_right _ hg]
        · rw [show xs.length - (g - 1) + g - 1 = g - 1 by omega, Nat.div_eq_of_lt (show g - 1 < g by omega), show xs.length + 1 + g - 1 = xs.length + g by omega, Nat.add_div_right _ hg, Nat.div_eq_of_lt (by omega)]
      rw [evN, evN_drop, ih (xs.drop (g - 1)) (by rw [hl]; simp at h; omega), hlen, List.range_succ_eq_map, List.filterMap_cons]
      simp only [Nat.zero_mul, List.getElem?_cons_zero]
      rw [List.filterMap_map]
      congr 1
      refine fm_congr fun k _ => ?_
      show (xs.drop (g - 1))[k * g]? = (x :: xs)[(k + 1) * g]?
      have e : (k + 1) * g = (g - 1 + k * g) + 1 := by rw [Nat.succ_mul]; omega
      rw [e, List.getElem?_cons_succ, List.getElem?_drop]
theorem pick_step {g : Nat} (hg : 0 < g) (its : List Value) : slicePick its.toArray none none (some (g : Int)) = (evN g 0 its).toArray := by
  unfold slicePick
  have hb : sliceBounds none none (some (g : Int)) its.toArray.size = (0, (its.toArray.size : Int), (g : Int)) := by
    simp only [sliceBounds, Option.getD_some]
    rw [if_pos (by omega), if_pos (by omega)]
  rw [hb]
  congr 1
  rw [evN_pick g hg its.length its (Nat.le_refl _)]
  unfold sliceRange
  have hg' : ((g : Int) > 0) := by omega
  simp only [hg', if_true, List.size_toArray]
  by_cases h : (0 : Int) < (its.length : Int)
  · rw [if_pos h]
    have e : (((its.length : Int) - 0 + (g : Int) - 1) / (g : Int)).toNat = (its.length + g - 1) / g := by
      rw [show (its.length : Int) - 0 + (g : Int) - 1 = ((its.length + g - 1 : Nat) : Int) by omega, ← Int.natCast_ediv, Int.toNat_natCast]
    rw [e, List.filterMap_map]
    refine fm_congr fun k _ => ?_
    show its.toArray[((0 : Int) + (g : Int) * (k : Int)).toNat]? = its[k * g]?
    rw [show ((0 : Int) + (g : Int) * (k : Int)).toNat = k * g by rw [Int.zero_add, ← Int.natCast_mul, Int.toNat_natCast, Nat.mul_comm]]
    simp
  · rw [if_neg h]
    have : its.length = 0 := by omega
    rw [this]
    have : (0 + g - 1) / g = 0 := Nat.div_eq_of_lt (by omega)
    rw [this]; rfl
/-- xs[::i] of a list, i above 0 -/
def tStpL (K : PySem.W.Frag) (te ts : TE) : TE := fun σ H Q => te σ H fun x H1 => tPart ts σ H1 fun o H2 => ∃ a xs i, x = .ref a ∧ o = some i ∧ 0 < i ∧ SqL K H2 a xs ∧ ∀ p, H2 p = none → Q (.ref p) (upd H2 p (.lst (evN i.toNat 0 xs)))
section
variable {X : Cx} {G GI : Gm} {K : PySem.W.Frag} {F H : Hp} {e a b c : E} {me ma mb mc tg : Expr} {pos pp p2 pos2 : Pos} {fr : Bool}
theorem pe_stpL {te ts : TE} (he : PE X ma te) (hb : PE X mb ts) : PE X (.Subscript ma (.Slice none none (some mb) p2) pos) (tStpL X.K te ts) := by
  refine ⟨fun pins s σ H Q I h => ?_⟩
  refine Subscript_ (thn (he.run pins s σ H _ I h) fun v s1 ⟨x, H1, I1, r1, q1⟩ => ?_)
  have hst : PO X (some mb) (tPart ts) := po_some hb
  refine wpAny_Slice (thn (po_none.run pins s1 σ H1 (fun o H2 => o = none ∧ H2 = H1) I1 ⟨rfl, rfl⟩) fun vl s2 ⟨l, H2, I2, pl, el, e2⟩ => ?_)
  subst el e2
  refine thn (po_none.run pins s2 σ H2 (fun o H3 => o = none ∧ H3 = H2) I2 ⟨rfl, rfl⟩) fun vu s3 ⟨u, H3, I3, pu, eu, e3⟩ => ?_
  subst eu e3
  refine thn (hst.run pins s3 σ H3 _ I3 q1) fun vs s4 ⟨o, H4, I4, ps, a, xs, i, ex, eo, hi, hx, q⟩ => ?_
  subst ex eo
  cases r1
  have I5 : Inv X pins σ H4 { s4 with heap := s4.heap.push { cls := .type "slice", data := .fields #[vl, vu, vs] } } := I4.kept (t' := s4.toks) fun b ob q => Heap.get?_push_of_some _ q
  obtain ⟨its, r, ht, hz⟩ := I5.list hx
  have hlen := r.length
  show wpAny (model X.prog X.w) X.A (subscriptTail ma (.Slice none none (some mb) p2) (.ref a) (.ref s4.heap.objs.size)) (EP X pins σ Q) X.xe { s4 with heap := s4.heap.push { cls := .type "slice", data := .fields #[vl, vu, vs] } }
  refine tail_any (ops := [.ref a, .ref s4.heap.objs.size]) ht.isList.typeIs (PySem.slot_list_getitem.lookup) ?_ (by with_unfolding_all rfl)
  refine wpAny_getItem_list_slice ht.isList (Heap.IsSliceOf.new _ vl vu vs) pl pu ps (by simp; omega) ?_ (by rw [List.size_toArray]; omega)
  have e1 : ((i.toNat : Nat) : Int) = i := Int.toNat_of_nonneg (by omega)
  rw [← e1, pick_step (by omega)]
  refine ⟨.ref _, _, I5.laid (t' := s4.toks) (o := .lst (evN i.toNat 0 xs)) (fun b ob q => Heap.get?_push_of_some _ q) (Nat.le_refl _) ?_, rfl, q _ (I5.hok.fresh (Nat.le_refl _))⟩
  exact ⟨Nat.le_trans (evN_len _ _ _) hz, _, 0, evN_vals _ 0 _ _ r, Heap.get?_push_size _ rfl⟩
theorem k_stp (g : GoodX X) (ha : PE X ma (tB X.K G a)) (hb : PE X mb (tD X.K G b)) : PE X (.Subscript ma (.Slice none none (some mb) p2) pos) (tD X.K G (.stp a b)) :=
  (pe_stpL ha hb).imp fun σ H Q ⟨F, env, z, ok, hd, k⟩ => by
    obtain ⟨x, hx, hd⟩ := Option.bind_eq_some_iff.mp (show (bo env a (ev G env a)).bind _ = some z from hd)
    obtain ⟨y, hy, hd⟩ := Option.bind_eq_some_iff.mp hd
    have key : ∃ xs i, x = .lst xs ∧ y = .int i ∧ 0 < i ∧ z = .lst (evN i.toNat 0 xs) := by
      cases x <;> cases y <;> (try (simp only [opStp] at hd; done)) <;> (try (cases hd; done))
      rename_i xs _ i
      have hd : (if 0 < i ∧ i < 2 ^ 62 then some (D.lst (everyN i.toNat 0 xs)) else none) = some z := hd
      have hc : 0 < i ∧ i < 2 ^ 62 := Decidable.byContradiction fun n => by rw [if_neg n] at hd; cases hd
      rw [if_pos hc] at hd
      cases hd
      exact ⟨_, _, rfl, rfl, hc.1, by rw [everyN_eq]⟩
    obtain ⟨xs, i, rfl, rfl, hi, rfl⟩ := key
    refine runB ok hx fun F1 H1 v x1 o1 r1 => runD o1 hy fun F2 H2 u x2 o2 r2 => ?_
    obtain ⟨l, vs, rfl, e, r, zl⟩ := (r1.ext x2).lst o2.le
    exact ⟨i, r2, l, vs, i, rfl, rfl, hi, .of e, fun p n => Want.lst (fun F' H' w x3 l2 r3 => k F' H' w ((x1.trans x2).trans x3) l2 r3) o2.le (evN_rep _ 0 r) (Nat.le_trans (evN_len _ _ _) zl) n⟩
/-! ### range(a, b, c) -/
theorem rgC_of {i j c : Int} (hi : -(2 ^ 61) ≤ i) (hi' : i < 2 ^ 61) (hj : -(2 ^ 61) ≤ j) (hj' : j < 2 ^ 61) (hc : c ≠ 0) (hc' : c.natAbs < 2 ^ 30) : RgC i j c (rsize i j c) := by
  have hs : Builtin.Range.rangeSize i j c = rsize i j c := by
    unfold Builtin.Range.rangeSize rsize
    by_cases hp : c > 0
    · rw [if_pos hp, if_pos (show 0 < c from hp)]
      obtain ⟨d, rfl⟩ : ∃ d : Nat, c = d := ⟨c.toNat, by omega⟩
      by_cases hl : i < j
      · rw [if_pos hl]
        obtain ⟨m, hm⟩ : ∃ m : Nat, j - i = m + 1 := ⟨(j - i - 1).toNat, by omega⟩
        rw [show j - i - 1 = (m : Int) by omega, show j - i + (d : Int) - 1 = ((m + d : Nat) : Int) by omega, Int.toNat_natCast, Int.toNat_natCast]
        rw [Nat.add_div_right _ (by omega), ← Int.natCast_ediv]; simp
      · rw [if_neg hl, Nat.div_eq_of_lt (by omega)]; rfl
    · rw [if_neg hp, if_neg (show ¬ 0 < c from hp)]
      obtain ⟨d, rfl⟩ : ∃ d : Nat, c = -(d : Int) := ⟨(-c).toNat, by omega⟩
      by_cases hl : i > j
      · rw [if_pos hl]
        obtain ⟨m, hm⟩ : ∃ m : Nat, i - j = m + 1 := ⟨(i - j - 1).toNat, by omega⟩
        rw [show i - j - 1 = (m : Int) by omega, show i - j - -(d : Int) - 1 = ((m + d : Nat) : Int) by omega, show - -(d : Int) = (d : Int) by omega, Int.toNat_natCast, Int.toNat_natCast]
        rw [Nat.add_div_right _ (by omega), ← Int.natCast_ediv]; simp
      · rw [if_neg hl, Nat.div_eq_of_lt (by omega)]; rfl
  have hb : rsize i j c ≤ 2 ^ 62 + 2 ^ 30 := by
    unfold rsize
    split
    · exact Nat.le_trans (Nat.div_le_self _ _) (by omega)
    · exact Nat.le_trans (Nat.div_le_self _ _) (by omega)
  refine ⟨hc, hc', ?_, hs⟩
  unfold Builtin.Range.small
  rw [hs]
  simp only [Builtin.Range.rangeFitsLong, Bool.and_eq_true, Bool.or_eq_true, decide_eq_true_eq, beq_iff_eq]
  refine ⟨⟨⟨⟨?_, ?_⟩, ?_⟩, ?_⟩, .inr ?_⟩
  · constructor <;> omega
  · constructor <;> omega
  · constructor <;> omega
  · constructor <;> omega
  · split <;> simp only [Bool.and_eq_true, decide_eq_true_eq] <;> constructor <;> omega
theorem kw_r3 (g : GoodX X) (ha : PA X [ma, mb, mc] (tM fr X.K G [a, b, c])) (hg : Gl X "range" := by rfl) (hs : starEach [ma, mb, mc] X.env = (false, eval ma X.env) :: starEach [mb, mc] X.env := by rfl) (hpl : (backTo pos (starEach [mb, mc] X.env)).any (·.1) = false := by rfl) :
    PI X tg (.Call (.Name "range" pp) [ma, mb, mc] [] pos) (tI fr X.K G .r3 [a, b, c]) :=
  (pi_range3 hg (g.bl _ (by decide +kernel)) ha hs hpl).imp fun σ H R ⟨F, env, vs, xs, o, hv, hw, k⟩ => by
    refine runM o hv fun F1 H1 ws x1 o1 st r1 => ?_
    rcases vs with _ | ⟨d, _ | ⟨d2, _ | ⟨d3, _ | ⟨d4, r⟩⟩⟩⟩ <;> (try simp only [walk] at hw) <;> try cases hw
    all_goals (cases d <;> (try simp only [walk] at hw) <;> try cases hw)
    all_goals (cases d2 <;> (try simp only [walk] at hw) <;> try cases hw)
    all_goals (cases d3 <;> (try simp only [walk] at hw) <;> try cases hw)
    split at hw <;> cases hw
    rename_i hb
    obtain ⟨v, r', rfl, r1, u, r'', rfl, r2, t, r3, rfl, q3, e⟩ := r1
    cases e
    exact ⟨_, _, _, _, by rw [r1.int, r2.int, q3.int], rgC_of hb.1 hb.2.1 hb.2.2.1 hb.2.2.2.1 hb.2.2.2.2.1 hb.2.2.2.2.2, k _ _ _ x1 o1.le (walk_rngC fun _ _ => SM.le)⟩
/-! ### list(range(..)), tuple(range(..)) -/
def rgCV (i c : Int) (n : Nat) : List V := (List.range n).map fun (k : Nat) => V.int (i + k * c)
theorem rgCV_len {i c : Int} {n : Nat} : (rgCV i c n).length = n := by simp [rgCV]
theorem vals_rgC {a c : Int} {n : Nat} {acc : Array Value} (h : ItemsOf (fun i v => ∃ t, v = .int (a + i * c) t) acc n) : Vals (rgCV a c n) acc.toList := by
  have e : acc.toList.length = n := by rw [Array.length_toList]; exact h.1
  unfold rgCV
  rw [← e]
  refine vals_of_get acc.toList _ fun j u hj => ?_
  obtain ⟨t, rfl⟩ := h.2 j u (by rw [← hj, Array.getElem?_toList])
  exact ⟨t, rfl⟩
theorem rep_rgC {i c : Int} : ∀ {ks : List Nat}, RepL K F (ks.map fun (k : Nat) => .int (i + k * c)) (ks.map fun (k : Nat) => V.int (i + k * c))
  | [] => rfl
  | k :: ks => ⟨_, _, rfl, rfl, rep_rgC⟩
def PR3 (X : Cx) (e : Expr) (t : St → Hp → (Int → Int → Int → Hp → Prop) → Prop) : Prop :=
  ∀ (pins : List (Addr × Obj)) (s : Shared) (σ : St) (H : Hp) (Q : Int → Int → Int → Hp → Prop), Inv X pins σ H s → t σ H Q →
    wpAny (model X.prog X.w) X.A (eval e X.env) (fun x s' => ∃ r a b c t u v H', x = .ref r ∧ IsRange s'.heap r a b c t u v ∧ Inv X pins σ H' s' ∧ Q a b c H') X.xe s
theorem pr3_1 {ta : TA} (hg : Gl X "range") (hm : X.mg "range" = none) (ha : PA X [ma] ta) (hs : starEach [ma] X.env = [(false, eval ma X.env)]) : PR3 X (.Call (.Name "range" pp) [ma] [] pos) (fun σ H Q => ta σ H fun vs H1 => ∃ n, vs = [.int n] ∧ Q 0 n 1 H1) := by
  intro pins s σ H Q I h
  refine Call_ (ld_blt I hg hm boot_range (PyProof.Rows.callWith_type1 (thn (ha.run pos pins s σ H _ I h) fun us s1 ⟨vs, H1, I1, r1, q1⟩ => ?_) hs rfl))
  obtain ⟨n, e, q⟩ := q1
  subst e
  cases r1 with
  | cons r rr =>
    cases rr
    obtain ⟨t, rfl⟩ := r
    exact call_range_1 ⟨_, 0, n, 1, _, _, _, H1, rfl, IsRange.new _ _ _ _ _ _ _, I1.kept fun b u e => Heap.get?_push_of_some _ e, q⟩
theorem pr3_2 {ta : TA} (hg : Gl X "range") (hm : X.mg "range" = none) (ha : PA X [ma, mb] ta) (hs : starEach [ma, mb] X.env = [(false, eval ma X.env), (false, eval mb X.env)]) (hs2 : starEach [mb] X.env = [(false, eval mb X.env)]) : PR3 X (.Call (.Name "range" pp) [ma, mb] [] pos) (fun σ H Q => ta σ H fun vs H1 => ∃ i j, vs = [.int i, .int j] ∧ Q i j 1 H1) := by
  intro pins s σ H Q I h
  refine Call_ (ld_blt I hg hm boot_range (PyProof.Rows.callWith_type1 (thn (ha.run pos pins s σ H _ I h) fun us s1 ⟨vs, H1, I1, r1, q1⟩ => ?_) (by rw [hs, hs2]) (by rw [hs2]; rfl)))
  obtain ⟨i, j, e, q⟩ := q1
  subst e
  cases r1 with
  | cons r rr =>
    cases rr with
    | cons r' rr =>
      cases rr
      obtain ⟨t, rfl⟩ := r
      obtain ⟨t', rfl⟩ := r'
      exact call_range_2 ⟨_, i, j, 1, _, _, _, H1, rfl, IsRange.new _ _ _ _ _ _ _, I1.kept fun b u e => Heap.get?_push_of_some _ e, q⟩
theorem pr3_3 {ta : TA} (hg : Gl X "range") (hm : X.mg "range" = none) (ha : PA X [ma, mb, mc] ta) (hs : starEach [ma, mb, mc] X.env = (false, eval ma X.env) :: starEach [mb, mc] X.env) (hpl : (backTo pos (starEach [mb, mc] X.env)).any (·.1) = false) : PR3 X (.Call (.Name "range" pp) [ma, mb, mc] [] pos) (fun σ H Q => ta σ H fun vs H1 => ∃ i j k, vs = [.int i, .int j, .int k] ∧ k ≠ 0 ∧ k.natAbs < 1073741824 ∧ Q i j k H1) := by
  intro pins s σ H Q I h
  refine Call_ (ld_blt I hg hm boot_range (PyProof.Rows.callWith_type1 (thn (ha.run pos pins s σ H _ I h) fun us s1 ⟨vs, H1, I1, r1, q1⟩ => ?_) hs hpl))
  obtain ⟨i, j, k, e, c0, c1, q⟩ := q1
  subst e
  cases r1 with
  | cons r rr =>
    cases rr with
    | cons r' rr =>
      cases rr with
      | cons r'' rr =>
        cases rr
        obtain ⟨t, rfl⟩ := r
        obtain ⟨t', rfl⟩ := r'
        obtain ⟨t'', rfl⟩ := r''
        exact call_range_3 c0 ⟨_, i, j, k, _, _, _, H1, rfl, IsRange.new _ _ _ _ _ _ _, I1.kept fun b u e => Heap.get?_push_of_some _ e, q⟩ (.inl (PyProof.noPylong_small c1))
def tR3 (l : Bool) (te : St → Hp → (Int → Int → Int → Hp → Prop) → Prop) : TE := fun σ H Q => te σ H fun a b c H1 => ∃ n, RgC a b c n ∧ n ≤ 2 ^ 24 ∧ ∀ q, H1 q = none → Q (.ref q) (upd H1 q (if l then .lst (rgCV a c n) else .tup (rgCV a c n)))
theorem pe_listR3 {te : St → Hp → (Int → Int → Int → Hp → Prop) → Prop} (hc : X.calm = true) (hg : Gl X "list") (hm : X.mg "list" = none) (he : PR3 X me te) (na : starEach [me] X.env = (false, eval me X.env) :: starEach [] X.env) : PE X (.Call (.Name "list" pp) [me] [] pos) (tR3 true te) := by
  refine ⟨fun pins s σ H Q I h => ?_⟩
  refine Call_ (ld_blt I hg hm boot_list (PyProof.Rows.callWith_type1 (args_cons (thn (he pins s σ H _ I h) fun x s1 ⟨r, a, b, c, t, u, v, H1, ex, hr, I1, n, ⟨c0, c1, c2, c3⟩, hn, q⟩ => args_nil ?_) na) na))
  subst ex
  refine call_list_range (n := n) (I1.ok.hd hc) hr c2 c3 hn fun h' tk acc c' hk e' hi => ?_
  refine ⟨.ref s1.heap.objs.size, upd H1 s1.heap.objs.size (.lst (rgCV a c n)), I1.laid hk (Nat.le_refl _) (show ObjOk X.prog X.w _ _ _ (.lst (rgCV a c n)) from ⟨?_, acc.toList, c', vals_rgC hi, ?_⟩), rfl, q _ (I1.hok.fresh (Nat.le_refl _))⟩
  · rw [rgCV_len, sizeLine_eq]; omega
  · rw [Array.toArray_toList]; exact e'
theorem pe_tupR3 {te : St → Hp → (Int → Int → Int → Hp → Prop) → Prop} (hc : X.calm = true) (hg : Gl X "tuple") (hm : X.mg "tuple" = none) (he : PR3 X me te) (na : starEach [me] X.env = (false, eval me X.env) :: starEach [] X.env) : PE X (.Call (.Name "tuple" pp) [me] [] pos) (tR3 false te) := by
  refine ⟨fun pins s σ H Q I h => ?_⟩
  refine Call_ (ld_blt I hg hm boot_tuple (PyProof.Rows.callWith_type1 (args_cons (thn (he pins s σ H _ I h) fun x s1 ⟨r, a, b, c, t, u, v, H1, ex, hr, I1, n, ⟨c0, c1, c2, c3⟩, hn, q⟩ => args_nil ?_) na) na))
  subst ex
  refine call_tuple_range (n := n) (I1.ok.hd hc) hr c2 c3 hn fun h' tk acc hk hi => ?_
  have I2 : Inv X pins σ H1 { s1 with heap := h', toks := tk } := I1.kept hk
  refine ⟨.ref h'.objs.size, upd H1 h'.objs.size (.tup (rgCV a c n)), I2.laid (t' := tk) (fun c o e => Heap.get?_push_of_some _ e) (Nat.le_refl _) (show ObjOk X.prog X.w _ _ _ (.tup (rgCV a c n)) from ⟨?_, acc.toList, vals_rgC hi, ?_⟩), rfl, q _ (I2.hok.fresh (Nat.le_refl _))⟩
  · rw [rgCV_len, sizeLine_eq]; omega
  · rw [Array.toArray_toList]; exact IsTup.new _ _
theorem ofw_rep {l : Bool} {k : IK} {es : List E} {env : Env} {d : D} {vs : List D} (hd : ev G env (.ofw l k es) = some d) (hv : evB G env es = some vs) : ∃ xs, walkO k vs = some xs ∧ xs.length ≤ line ∧ d = if l then .lst xs else .tup xs := by
  obtain ⟨vs', hv', hd⟩ := Option.bind_eq_some_iff.mp (show (evB G env es).bind _ = some d from hd)
  rw [hv] at hv'; cases hv'
  obtain ⟨xs, hw, hd⟩ := Option.bind_eq_some_iff.mp hd
  have hl : xs.length ≤ line := Decidable.byContradiction fun n => by rw [if_neg n] at hd; cases hd
  rw [if_pos hl] at hd
  cases hd
  exact ⟨xs, hw, hl, rfl⟩
theorem rgD_C (lo : Int) (n : Nat) : rgD lo n = (List.range n).map fun (k : Nat) => .int (lo + k * 1) := by
  unfold rgD; exact List.map_congr_left fun k _ => by rw [Int.mul_one]
theorem rgc_one {i j : Int} (h : -(2 ^ 62) ≤ i ∧ i < 2 ^ 62 ∧ -(2 ^ 62) ≤ j ∧ j < 2 ^ 62) : RgC i j 1 (j - i).toNat := ⟨by decide, by decide, small_one h.1 h.2.1 h.2.2.1 h.2.2.2, rangeSize_nat i j⟩
theorem lay_R3 {Q : VK} {F1 H1 : Hp} {l : Bool} {i c : Int} {n : Nat} (le : FLe F1 H1) (hn : n ≤ line) (k : Want K F1 H1 (if l then .lst ((List.range n).map fun (j : Nat) => .int (i + j * c)) else .tup ((List.range n).map fun (j : Nat) => .int (i + j * c))) Q) : ∀ q, H1 q = none → Q (.ref q) (upd H1 q (if l then .lst (rgCV i c n) else .tup (rgCV i c n))) := by
  intro q nn
  cases l with
  | true => exact Want.lst k le rep_rgC (by simpa using hn) nn
  | false => exact Want.tup k le rep_rgC (by simpa using hn) nn
theorem k_ofw_r1 {l : Bool} {ty : Str} (h1 : ∀ {te}, PR3 X (.Call (.Name "range" p2) [ma] [] pos2) te → PE X (.Call (.Name ty pp) [.Call (.Name "range" p2) [ma] [] pos2] [] pos) (tR3 l te)) (g : GoodX X) (ha : PA X [ma] (tM false X.K G [a])) (hg : Gl X "range") (hs : starEach [ma] X.env = [(false, eval ma X.env)]) :
    PE X (.Call (.Name ty pp) [.Call (.Name "range" p2) [ma] [] pos2] [] pos) (tD X.K G (.ofw l .r1 [a])) :=
  (h1 (pr3_1 hg (g.bl _ (by decide +kernel)) ha hs)).imp fun σ H Q ⟨F, env, d, o, hd, k⟩ => by
    obtain ⟨vs, hv, -⟩ := Option.bind_eq_some_iff.mp (show (evB G env [a]).bind _ = some d from hd)
    obtain ⟨xs, hw, hl, e0⟩ := ofw_rep hd hv
    clear hd
    subst e0
    refine runM (fr := false) o hv fun F1 H1 ws x1 o1 st r1 => ?_
    rcases vs with _ | ⟨d, _ | ⟨d2, r⟩⟩ <;> (try simp only [walkO, walk] at hw) <;> try cases hw
    all_goals (cases d <;> (try simp only [walkO, walk] at hw) <;> try cases hw)
    split at hw <;> cases hw
    rename_i n hb
    obtain ⟨v, r', rfl, r1, e⟩ := r1
    cases e
    have hl' : n.toNat ≤ line := by simpa [rgD] using hl
    rw [rgD_C] at k
    have hc := rgc_one (i := 0) (j := n) ⟨by decide, by decide, hb.1, hb.2⟩
    rw [Int.sub_zero] at hc
    exact ⟨n, by rw [r1.int], n.toNat, hc, hl', lay_R3 o1.le hl' fun F' H' w x2 l2 r2 => k F' H' w (x1.trans x2) l2 r2⟩
theorem k_ofw_r2 {l : Bool} {ty : Str} (h1 : ∀ {te}, PR3 X (.Call (.Name "range" p2) [ma, mb] [] pos2) te → PE X (.Call (.Name ty pp) [.Call (.Name "range" p2) [ma, mb] [] pos2] [] pos) (tR3 l te)) (g : GoodX X) (ha : PA X [ma, mb] (tM false X.K G [a, b])) (hg : Gl X "range") (hs : starEach [ma, mb] X.env = [(false, eval ma X.env), (false, eval mb X.env)]) (hs2 : starEach [mb] X.env = [(false, eval mb X.env)]) :
    PE X (.Call (.Name ty pp) [.Call (.Name "range" p2) [ma, mb] [] pos2] [] pos) (tD X.K G (.ofw l .r2 [a, b])) :=
  (h1 (pr3_2 hg (g.bl _ (by decide +kernel)) ha hs hs2)).imp fun σ H Q ⟨F, env, d, o, hd, k⟩ => by
    obtain ⟨vs, hv, -⟩ := Option.bind_eq_some_iff.mp (show (evB G env [a, b]).bind _ = some d from hd)
    obtain ⟨xs, hw, hl, e0⟩ := ofw_rep hd hv
    clear hd
    subst e0
    refine runM (fr := false) o hv fun F1 H1 ws x1 o1 st r1 => ?_
    rcases vs with _ | ⟨d, _ | ⟨d2, _ | ⟨d3, r⟩⟩⟩ <;> (try simp only [walkO, walk] at hw) <;> try cases hw
    all_goals (cases d <;> (try simp only [walkO, walk] at hw) <;> try cases hw)
    all_goals (cases d2 <;> (try simp only [walkO, walk] at hw) <;> try cases hw)
    split at hw <;> cases hw
    rename_i i j hb
    obtain ⟨v, r', rfl, r1, u, r'', rfl, r2, e⟩ := r1
    cases e
    have hl' : (j - i).toNat ≤ line := by simpa [rgD] using hl
    rw [rgD_C] at k
    exact ⟨i, j, by rw [r1.int, r2.int], _, rgc_one hb, hl', lay_R3 o1.le hl' fun F' H' w x2 l2 r2 => k F' H' w (x1.trans x2) l2 r2⟩
theorem k_ofw_r3 {l : Bool} {ty : Str} (h1 : ∀ {te}, PR3 X (.Call (.Name "range" p2) [ma, mb, mc] [] pos2) te → PE X (.Call (.Name ty pp) [.Call (.Name "range" p2) [ma, mb, mc] [] pos2] [] pos) (tR3 l te)) (g : GoodX X) (ha : PA X [ma, mb, mc] (tM false X.K G [a, b, c])) (hg : Gl X "range") (hs : starEach [ma, mb, mc] X.env = (false, eval ma X.env) :: starEach [mb, mc] X.env) (hpl : (backTo pos2 (starEach [mb, mc] X.env)).any (·.1) = false) :
    PE X (.Call (.Name ty pp) [.Call (.Name "range" p2) [ma, mb, mc] [] pos2] [] pos) (tD X.K G (.ofw l .r3 [a, b, c])) :=
  (h1 (pr3_3 hg (g.bl _ (by decide +kernel)) ha hs hpl)).imp fun σ H Q ⟨F, env, d, o, hd, k⟩ => by
    obtain ⟨vs, hv, -⟩ := Option.bind_eq_some_iff.mp (show (evB G env [a, b, c]).bind _ = some d from hd)
    obtain ⟨xs, hw, hl, e0⟩ := ofw_rep hd hv
    clear hd
    subst e0
    refine runM (fr := false) o hv fun F1 H1 ws x1 o1 st r1 => ?_
    rcases vs with _ | ⟨d, _ | ⟨d2, _ | ⟨d3, _ | ⟨d4, r⟩⟩⟩⟩ <;> (try simp only [walkO, walk] at hw) <;> try cases hw
    all_goals (cases d <;> (try simp only [walkO, walk] at hw) <;> try cases hw)
    all_goals (cases d2 <;> (try simp only [walkO, walk] at hw) <;> try cases hw)
    all_goals (cases d3 <;> (try simp only [walkO, walk] at hw) <;> try cases hw)
    split at hw <;> cases hw
    rename_i i j c' hb
    obtain ⟨v, r', rfl, r1, u, r'', rfl, r2, t, r3, rfl, q3, e⟩ := r1
    cases e
    have hl' : rsize i j c' ≤ line := by simpa using hl
    exact ⟨i, j, c', by rw [r1.int, r2.int, q3.int], hb.2.2.2.2.1, hb.2.2.2.2.2, _, rgC_of hb.1 hb.2.1 hb.2.2.1 hb.2.2.2.1 hb.2.2.2.2.1 hb.2.2.2.2.2, hl', lay_R3 o1.le hl' fun F' H' w x2 l2 r2 => k F' H' w (x1.trans x2) l2 r2⟩
theorem k_ofw_l_r1 (g : GoodX X) (ha : PA X [ma] (tM false X.K G [a])) (hL : Gl X "list" := by rfl) (hg : Gl X "range" := by rfl) (hs : starEach [ma] X.env = [(false, eval ma X.env)] := by rfl) (na : starEach [.Call (.Name "range" p2) [ma] [] pos2] X.env = (false, eval (.Call (.Name "range" p2) [ma] [] pos2) X.env) :: starEach [] X.env := by rfl) :
    PE X (.Call (.Name "list" pp) [.Call (.Name "range" p2) [ma] [] pos2] [] pos) (tD X.K G (.ofw true .r1 [a])) := k_ofw_r1 (fun h => pe_listR3 g.calm hL (g.bl _ (by decide +kernel)) h na) g ha hg hs
theorem k_ofw_l_r2 (g : GoodX X) (ha : PA X [ma, mb] (tM false X.K G [a, b])) (hL : Gl X "list" := by rfl) (hg : Gl X "range" := by rfl) (hs : starEach [ma, mb] X.env = [(false, eval ma X.env), (false, eval mb X.env)] := by rfl) (hs2 : starEach [mb] X.env = [(false, eval mb X.env)] := by rfl) (na : starEach [.Call (.Name "range" p2) [ma, mb] [] pos2] X.env = (false, eval (.Call (.Name "range" p2) [ma, mb] [] pos2) X.env) :: starEach [] X.env := by rfl) :
    PE X (.Call (.Name "list" pp) [.Call (.Name "range" p2) [ma, mb] [] pos2] [] pos) (tD X.K G (.ofw true .r2 [a, b])) := k_ofw_r2 (fun h => pe_listR3 g.calm hL (g.bl _ (by decide +kernel)) h na) g ha hg hs hs2
theorem k_ofw_t_r1 (g : GoodX X) (ha : PA X [ma] (tM false X.K G [a])) (hL : Gl X "tuple" := by rfl) (hg : Gl X "range" := by rfl) (hs : starEach [ma] X.env = [(false, eval ma X.env)] := by rfl) (na : starEach [.Call (.Name "range" p2) [ma] [] pos2] X.env = (false, eval (.Call (.Name "range" p2) [ma] [] pos2) X.env) :: starEach [] X.env := by rfl) :
    PE X (.Call (.Name "tuple" pp) [.Call (.Name "range" p2) [ma] [] pos2] [] pos) (tD X.K G (.ofw false .r1 [a])) := k_ofw_r1 (fun h => pe_tupR3 g.calm hL (g.bl _ (by decide +kernel)) h na) g ha hg hs
theorem k_ofw_t_r2 (g : GoodX X) (ha : PA X [ma, mb] (tM false X.K G [a, b])) (hL : Gl X "tuple" := by rfl) (hg : Gl X "range" := by rfl) (hs : starEach [ma, mb] X.env = [(false, eval ma X.env), (false, eval mb X.env)] := by rfl) (hs2 : starEach [mb] X.env = [(false, eval mb X.env)] := by rfl) (na : starEach [.Call (.Name "range" p2) [ma, mb] [] pos2] X.env = (false, eval (.Call (.Name "range" p2) [ma, mb] [] pos2) X.env) :: starEach [] X.env := by rfl) :
    PE X (.Call (.Name "tuple" pp) [.Call (.Name "range" p2) [ma, mb] [] pos2] [] pos) (tD X.K G (.ofw false .r2 [a, b])) := k_ofw_r2 (fun h => pe_tupR3 g.calm hL (g.bl _ (by decide +kernel)) h na) g ha hg hs hs2
theorem k_ofw_l_r3 (g : GoodX X) (ha : PA X [ma, mb, mc] (tM false X.K G [a, b, c])) (hL : Gl X "list" := by rfl) (hg : Gl X "range" := by rfl) (hs : starEach [ma, mb, mc] X.env = (false, eval ma X.env) :: starEach [mb, mc] X.env := by rfl) (hpl : (backTo pos2 (starEach [mb, mc] X.env)).any (·.1) = false := by rfl) (na : starEach [.Call (.Name "range" p2) [ma, mb, mc] [] pos2] X.env = (false, eval (.Call (.Name "range" p2) [ma, mb, mc] [] pos2) X.env) :: starEach [] X.env := by rfl) :
    PE X (.Call (.Name "list" pp) [.Call (.Name "range" p2) [ma, mb, mc] [] pos2] [] pos) (tD X.K G (.ofw true .r3 [a, b, c])) := k_ofw_r3 (fun h => pe_listR3 g.calm hL (g.bl _ (by decide +kernel)) h na) g ha hg hs hpl
end
end Rx
/-! ### defs that change their first argument's list -/
namespace Rx
open PySem PySem.Spec PyProof.Rows L2
section
variable {P : Program} {w : World} {K : PySem.W.Frag} {mg : Str → Option Value} {base : Heap} {defs : Nat → Option Fn}
structure CalI (P : Program) (w : World) (K : PySem.W.Frag) (mg : Str → Option Value) (base : Heap) (A : Around) (GI : Gm) (x : Str) (f n : Nat) : Prop where
  ok : CallC P w K mg base A x n (spI K n (GI f))
  len : ∀ ds d, GI f ds = some d → ds.length = n
abbrev CaI (X : Cx) (GI : Gm) (x : Str) (f n : Nat) : Prop := CalI X.prog X.w X.K X.mg X.base X.A GI x f n
theorem runI_len {k id : Nat} {fn : Fn} (hd : defs id = some fn) (ds : List D) (d : D) (h : runI defs k id ds = some d) : ds.length = fn.ps := by
  cases k with
  | zero => cases h
  | succ k =>
    have h : ((defs id).bind fun fn => if fn.io = true ∧ ds.length = fn.ps then retI (exs (run defs k) (runI defs k) (fn.start ds) fn.body) else none) = some d := h
    rw [hd] at h
    have h : (if fn.io = true ∧ ds.length = fn.ps then retI (exs (run defs k) (runI defs k) (fn.start ds) fn.body) else none) = some d := h
    exact Decidable.byContradiction fun n => by rw [if_neg fun z => n z.2] at h; cases h
theorem calI_of {X : Cx} {k id : Nat} {x : Str} {ps : List Str} {fn : Fn} (T : FnGood X.prog X.w X.K X.mg X.base k x ps (spI X.K fn.ps (runI defs k id))) (hr : Room k X.A) (hd : defs id = some fn) (hps : ps.length = fn.ps) : CaI X (runI defs k) x id fn.ps := by
  obtain ⟨fa, fd, hk, hm, hb, F⟩ := T.ex
  exact ⟨⟨k, fa, fd, ps, hps, F, hr, hm, hk, hb⟩, fun ds d => runI_len hd ds d⟩
theorem startI_eq {fn : Fn} (hio : fn.io = true) (x : D) (ds : List D) : fn.start (x :: ds) = .own x :: (ds.map Cell.val ++ List.replicate (fn.ns - fn.ps) .unk) := by
  unfold Fn.start
  rw [hio]; rfl
theorem start_okI {F H : Hp} {N : List Str} {x : D} {ds : List D} {a : Addr} {ws : List V} {fn : Fn} (l : FLe F H) (f : F a = none) (ow : OwnAt K F H a x) (r : RepL K F ds ws) (hio : fn.io = true) (hv : ws.length + 1 = fn.ps) (hN : N.length = fn.ns) (hp : fn.ps ≤ fn.ns) : Ok K F H (L2.start N (.ref a :: ws)) (fn.start (x :: ds)) := by
  have hl := r.length
  rw [startI_eq hio]
  refine ⟨l, ⟨?_, fun i d h => ?_, fun i d h => ?_, fun i j d e b hij h1 h2 h3 => ?_⟩⟩
  · unfold L2.start
    simp only [List.length_append, List.length_map, List.length_replicate, List.length_cons]
    omega
  · cases i with
    | zero => cases h
    | succ i =>
      rw [List.getElem?_cons_succ] at h
      by_cases hi : i < ds.length
      · rw [List.getElem?_append_left (by simpa using hi), List.getElem?_map, List.getElem?_eq_getElem hi] at h
        cases h
        obtain ⟨v, h1, h2⟩ := r.get (List.getElem?_eq_getElem hi)
        refine ⟨v, ?_, h2⟩
        unfold L2.start
        rw [List.map_cons, List.cons_append, List.getElem?_cons_succ, List.getElem?_append_left (by simp; omega), List.getElem?_map, h1]; rfl
      · rw [List.getElem?_append_right (by simpa using hi)] at h
        rw [List.getElem?_replicate] at h
        split at h <;> cases h
  · cases i with
    | zero =>
      rw [List.getElem?_cons_zero] at h
      cases h
      exact ⟨a, rfl, f, ow⟩
    | succ i =>
      rw [List.getElem?_cons_succ] at h
      by_cases hi : i < ds.length
      · rw [List.getElem?_append_left (by simpa using hi), List.getElem?_map, List.getElem?_eq_getElem hi] at h
        cases h
      · rw [List.getElem?_append_right (by simpa using hi)] at h
        rw [List.getElem?_replicate] at h
        split at h <;> cases h
  · have key : ∀ {i : Nat} {d : D}, (Cell.own x :: (ds.map Cell.val ++ List.replicate (fn.ns - fn.ps) .unk))[i]? = some (.own d) → i = 0 := by
      intro i d h
      cases i with
      | zero => rfl
      | succ i =>
        rw [List.getElem?_cons_succ] at h
        by_cases hi : i < ds.length
        · rw [List.getElem?_append_left (by simpa using hi), List.getElem?_map, List.getElem?_eq_getElem hi] at h
          cases h
        · rw [List.getElem?_append_right (by simpa using hi)] at h
          rw [List.getElem?_replicate] at h
          split at h <;> cases h
    exact absurd ((key h1).trans (key h2).symm) hij
theorem own_start {N : List Str} {x : D} {ds : List D} {a b : Addr} {ws : List V} {fn : Fn} (hio : fn.io = true) (h : Own (L2.start N (.ref a :: ws)) (fn.start (x :: ds)) b) : b = a := by
  obtain ⟨i, e, h1, h2⟩ := h
  rw [startI_eq hio] at h1
  cases i with
  | zero =>
    have h2 : some (some (V.ref a)) = some (some (V.ref b)) := h2
    injection h2 with h2
    injection h2 with h2
    injection h2 with h2
    exact h2.symm
  | succ i =>
    rw [List.getElem?_cons_succ] at h1
    by_cases hi : i < ds.length
    · rw [List.getElem?_append_left (by simpa using hi), List.getElem?_map, List.getElem?_eq_getElem hi] at h1
      cases h1
    · rw [List.getElem?_append_right (by simpa using hi)] at h1
      rw [List.getElem?_replicate] at h1
      split at h1 <;> cases h1
theorem fn_bodyI {k id : Nat} {fn : Fn} {N : List Str} {vs : List V} {H : Hp} {Q : VK} {E : XK} (hd : defs id = some fn) (hio : fn.io = true) (hmk : mkSs fn.body = false) (hN : N.length = fn.ns) (hp : fn.ps ≤ fn.ns) (h : spI K fn.ps (runI defs (k + 1) id) vs H Q E) :
    tSs K (run defs k) (runI defs k) fn.body { nx := fun _ H' => Q .non H', rt := Q } (L2.start N vs) H := by
  obtain ⟨hv, F, a, x, ds, ws, d, rfl, l, f, ow, r, hr, q⟩ := h
  have hr : ((defs id).bind fun fn => if fn.io = true ∧ (x :: ds).length = fn.ps then retI (exs (run defs k) (runI defs k) (fn.start (x :: ds)) fn.body) else none) = some d := hr
  rw [hd] at hr
  have hr : (if fn.io = true ∧ (x :: ds).length = fn.ps then retI (exs (run defs k) (runI defs k) (fn.start (x :: ds)) fn.body) else none) = some d := hr
  have hl := r.length
  simp only [List.length_cons] at hv
  rw [if_pos ⟨hio, by rw [List.length_cons]; omega⟩] at hr
  cases hx : exs (run defs k) (runI defs k) (fn.start (x :: ds)) fn.body with
  | none => rw [hx] at hr; cases hr
  | some r' =>
    rw [hx] at hr
    obtain ⟨fl, env'⟩ := r'
    have key : fl = .nx ∧ ∃ rest, env' = .own d :: rest := by
      cases fl with
      | nx =>
        cases env' with
        | nil => cases hr
        | cons c rest =>
          cases c with
          | own d' => cases hr; exact ⟨rfl, rest, rfl⟩
          | val d' => cases hr
          | unk => cases hr
      | brk => cases hr
      | rt d' => cases hr
    obtain ⟨rfl, rest, rfl⟩ := key
    refine ⟨F, fn.start (x :: ds), (.nx, .own d :: rest), start_okI l f ow r hio (by omega) hN hp, hx, ?_⟩
    intro F' H' σ' st
    obtain ⟨a', h1, h2, h3⟩ := st.ok.en.own 0 d rfl
    have ea : a' = a := by
      rcases st.ow a' ⟨0, d, rfl, h1⟩ with z | ⟨_, z⟩
      · exact own_start hio z
      · rw [hmk] at z; cases z
    subst ea
    have no : ∀ b, b ≠ a' → ¬ Own (L2.start N (.ref a' :: ws)) (fn.start (x :: ds)) b := fun b nb z => nb (own_start hio z)
    exact q F' H' st.re.f (fun b u e nb => ⟨st.re.h b u e (no b nb), fun z => st.re.n b u e z (no b nb)⟩) st.re.le h2 h3
theorem fn_stepI {k id : Nat} {x : Str} {st : Stmt} {N ps : List Str} {fn : Fn} (h : HasFn K mg x st ps) (S : FnScope N ps (defScope st)) (hd : defs id = some fn) (hio : fn.io = true) (hmk : mkSs fn.body = false) (hps : ps.length = fn.ps) (hN : N.length = fn.ns) (hp : fn.ps ≤ fn.ns)
    (hb : ∀ (f : Addr) (cdv : Value) (A : Around) (outer : List PySem.Env) (s : Shared) (H : Hp) (E : XK), Room k (A.deeper (envOfC x (defScope st) s.heap.objs.size f cdv)) →
      PSs (cx P w K mg base N x (defScope st) f cdv A outer s H E) (defBody st) (tSs K (run defs k) (runI defs k) fn.body)) :
    FnGood P w K mg base (k + 1) x ps (spI K fn.ps (runI defs (k + 1) id)) := by
  obtain ⟨fa, fd, F, hm, hbi⟩ := h.ex
  exact ⟨fa, fd, F.kp, hm, hbi, F.ok S (fun vs H Q E h => by rw [hps]; exact h.1) fun cdv A outer s H vs Q E hr h => ⟨_, (hb fa cdv A outer s H E hr).nox, fn_bodyI hd hio hmk hN hp h⟩⟩
variable {X : Cx} {G GI : Gm} {es : List E} {mes : List Expr} {pos pos' pp py : Pos} {y : Str}
theorem ks_callIO {x : Str} {f n i : Nat} (c : CaI X GI x f n) (hv : PE X (.Name y py) (L2.tVar i)) (ha : PA X mes (tL X.K G es)) (hg : Gl X x := by rfl) (hdb : (x == ("__debug__" : Str)) = false := by decide +kernel)
    (hs : starEach (.Name y py :: mes) X.env = (false, eval (.Name y py) X.env) :: starEach mes X.env := by rfl) (hpl : (backTo pos (starEach mes X.env)).any (·.1) = false := by rfl) (hsw : swapsWith (.Call (.Name x pp) (.Name y py :: mes) [] pos) none pos'.line X.env = pure false := by rfl) :
    PS X (.Expr (.Call (.Name x pp) (.Name y py :: mes) [] pos) pos') (tS X.K G GI (.callIO f i es)) := s_callIO c.ok c.len hg hv ha hdb hs hpl hsw
variable {a b : E} {ma mb : Expr}
theorem c_isin (g : GoodX X) (ha : PE X ma (tB X.K G a)) (hb : PE X mb (tB X.K G b)) : PC X .In ma mb (tC2 X.K G .isin a b) := c_in g ha hb
end
end Rx
end

section
set_option Elab.async false
set_option linter.all false
set_option maxRecDepth 100000
set_option maxHeartbeats 4000000
set_option autoImplicit false
/-! RxKit5: sorted(set(xs)). -/
namespace Rx
open PySem PySem.Spec PyProof.Rows L2
section
variable {P : Program} {w : World} {A : Around} {E : Value → Shared → Prop} {s : Shared}
/-- set(l), l a list of ints (SetFor's road, from a list) -/
theorem call_set_lstI {l : Addr} {items : Array Value} (ns : List Int) {Q : Value → Shared → Prop} (hh : A.handled = none) (hl : s.heap.IsList l items) (hit : IntsAre items.toList ns) (hb : ns.length + 1 < scanBound)
    (h : ∀ (h' : Heap) (tk c : Nat), SetR w h' s.heap.objs.size (fun j => decide (j ∈ ns)) c → c ≤ ns.length → (∀ b o, s.heap.get? b = some o → h'.get? b = some o) → Q (.ref s.heap.objs.size) { s with heap := h', toks := tk }) :
    wpAny (model P w) A (call (.type "set") [.ref l]) Q E s := by
  have hisz : items.size = ns.length := (Array.length_toList).symm.trans (IntsAre.length hit)
  obtain ⟨c, tl, hmro⟩ := F.called_set.mro
  have hmade := F.called_set.made
  have hsub := F.called_set.sub
  refine wpAny_call (codeAny_of_tree ?_)
  show wpAny _ _ (callAny (.type "set") _) _ _ _
  refine wpAny_pure ⟨Code.quiet_builtin _ (by decide +kernel), codeAny_builtin F.entry_type_call ?_⟩
  rw [Around.under_plain (weight_type_call_type "set" [.ref l] []) rfl]
  have h1 := F.called_set.notType
  have h2 := F.called_set.canCreate
  have hct := F.typeCall_set_1 (.ref l)
  repeat (any_goals (first | assumption | wp_step))
  generalize hN : s.heap.push { cls := .type "set", dict := none, data := .set #[] 0 (.fresh 0 0 (!w.params.followText "set-order")) } = N
  have hNz : N.objs.size = s.heap.objs.size + 1 := by rw [← hN]; exact Heap.size_push ..
  have hNS : N.get? s.heap.objs.size = some { cls := .type "set", dict := none, data := .set #[] 0 (.fresh 0 0 (!w.params.followText "set-order")) } := by rw [← hN]; exact Heap.get?_push_size _ rfl
  have hNk : ∀ b o, s.heap.get? b = some o → N.get? b = some o := fun b o e => by rw [← hN]; exact Heap.get?_push_of_some _ e
  refine codeAny_mono (code_set_led1 (.ref l) (E := E) (Q₁ := fun obj s₁ => obj = .ref s.heap.objs.size ∧ s₁ = { s with heap := N }) ⟨rfl, by rw [hN]⟩) fun r s₁ hr => ?_
  cases r with
  | error e => exact hr
  | ok fl =>
    cases fl with
    | ret obj =>
      obtain ⟨rfl, rfl⟩ := hr
      have hT : Shared.TypeIs { s with heap := N } (.ref s.heap.objs.size) "set" := ⟨_, hNS, rfl⟩
      have hli := F.called_set.init.lookup
      have hbi := F.called_set.init.bind (.ref s.heap.objs.size)
      repeat (any_goals (first | assumption | wp_step))
      refine codeAny_mono (codeAny_call_builtin (R := wants (fun r s₂ => r = .none ∧ ∃ h' tk c, s₂ = { s with heap := h', toks := tk } ∧ SetR w h' s.heap.objs.size (fun j => decide (j ∈ ns)) c ∧ c ≤ ns.length ∧
          (∀ b o, s.heap.get? b = some o → h'.get? b = some o)) E) F.called_set.init.plain F.entry_set_init (check_set_init_1 hT ?_)) fun r₂ s₂ hr₂ => ?_
      · obtain ⟨⟨ocls, odict, odata, oslots⟩, hol, hcl, nl, hdl⟩ := hl
        simp only at hcl hdl
        subst hcl; subst hdl
        have hol' := hNk _ _ hol
        have hsls := F.sub_list_set
        have hslf := F.sub_list_frozenset
        have hne : (Value.type "list" == Value.type "dict") = false := by decide
        have hl1 : N.IsList l items := ⟨_, hol', rfl, nl, rfl⟩
        unfold Builtin.«set.__init__» noKeywords Builtin.Frozenset.updateFrom
        generalize hPI : pyIter = PI
        wp_walk
        subst hPI
        refine wpAny_pyIter_list hl1 ?_
        refine wpAny_bind (wpAny_runValue ?_)
        have hlS : l < s.heap.objs.size := Heap.lt_size hol
        have hh3 : A.in1.in1.in1.handled = none := by simp [hh]
        have hneI : l ≠ N.objs.size := fun e => Nat.lt_irrefl _ (Nat.lt_trans hlS (Nat.lt_of_lt_of_eq (Nat.lt_succ_self _) (hNz.symm.trans e.symm)))
        have hSf : s.heap.objs.size ∉ [N.objs.size, l] := by
          simp only [List.mem_cons, List.not_mem_nil, or_false, not_or]
          exact ⟨fun e => Nat.ne_of_lt (Nat.lt_succ_self _) (e.trans hNz), Nat.ne_of_gt hlS⟩
        have hval : ∀ (i : Nat) (v : Value), items[i]? = some v → ∃ k t, ns[i]? = some k ∧ v = .int k t := fun i v hv => by
          have hi : i < ns.length := by rw [← hisz]; exact (Array.getElem?_eq_some_iff.mp hv).1
          obtain ⟨t, e⟩ := PyProof.Rows.IntsAre.int_at hit i v (by rw [Array.getElem?_toList]; exact hv)
          exact ⟨ns[i], t, List.getElem?_eq_getElem hi, by rw [e, List.getD_eq_getElem?_getD, List.getElem?_eq_getElem hi] <;> rfl⟩
        refine set_update_ints ((Walks.list hh3 _ l hneI items).toS) s.heap.objs.size hSf ns hisz hb hval (items.size - 0) 0 _ (by omega) (Nat.zero_le _)
          ⟨⟨_, Heap.get?_push_size _ rfl, rfl, rfl⟩, (hl1.push _)⟩ ⟨0, Nat.le_refl 0, setR_new_at (Heap.get?_push_of_some _ hNS)⟩ fun s' c' hm hc' hS' => ?_
        obtain ⟨h', g2, d', tk', os'⟩ := s'
        have eg : g2 = s.gens := hm.gens
        have ed : d' = s.drawn := hm.drawn
        have eo : os' = s.os := hm.os
        subst eg; subst ed; subst eo
        show wpAny _ _ _ _ _ _
        refine wpAny_pure ?_
        show wpAny _ _ (ret Value.none) _ _ _
        rw [hisz] at hc'
        refine wpAny_pure ⟨rfl, h', tk', c', rfl, hS', hc', fun b o e => hm.heap b o ?_ (Heap.get?_push_of_some _ (hNk b o e))⟩
        have hb0 : b < s.heap.objs.size := Heap.lt_size e
        simp only [List.mem_cons, List.not_mem_nil, or_false, not_or]
        exact ⟨Nat.ne_of_lt hb0, fun e => Nat.ne_of_lt (Nat.lt_succ_of_lt hb0) (e.trans hNz)⟩
      · cases r₂ with
        | error e => exact hr₂
        | ok fl₂ =>
          cases fl₂ with
          | ret r =>
            obtain ⟨rfl, h', tk, c', rfl, hS', hc', hk'⟩ := hr₂
            repeat (any_goals (first | assumption | wp_step))
            exact h _ _ _ hS' hc' hk'
          | _ => exact hr₂.elim
    | _ => exact hr.elim
end
/-- set(xs), a list or a tuple of fewer than 64 ints -/
def rSetI (w : World) : List V → Hp → VK → Prop := fun vs H Q => ∃ (l : Addr) (ns : List Int), vs = [.ref l] ∧ (H l = some (.lst (ns.map V.int)) ∨ H l = some (.tup (ns.map V.int))) ∧ ns.length < 64 ∧
  ∀ p c, c ≤ ns.length → H p = none → Q (.ref p) (upd H p (SetO w p (fun j => decide (j ∈ ns)) c))
section
variable {X : Cx} {G : Gm} {a : E} {ma : Expr} {pos pp p2 pos2 : Pos}
theorem cr_setI (hc : X.calm = true) : CallR X (.type "set") (rSetI X.w) := by
  intro pins s σ H xs us Q I r h
  obtain ⟨l, ns, rfl, hl, hz, q⟩ := h
  rw [Vals.ref1 r]
  rcases hl with hl | hl
  · obtain ⟨its, rv, p, _⟩ := I.list (SqL.of hl)
    refine call_set_lstI ns (I.ok.hd hc) p.isList (by simpa using ints_of_vals rv) (by unfold scanBound; omega) fun h' tk c R hcn k => ?_
    exact ⟨.ref _, _, I.laid (t' := tk) k (Nat.le_refl _) (setO_new R), rfl, q _ c hcn (I.hok.fresh (Nat.le_refl _))⟩
  · obtain ⟨its, rv, p, _⟩ := I.tuple (SqT.of hl)
    refine call_set_tupI ns (I.ok.hd hc) p (by simpa using ints_of_vals rv) (by unfold scanBound; omega) fun h' tk c R hcn k => ?_
    exact ⟨.ref _, _, I.laid (t' := tk) k (Nat.le_refl _) (setO_new R), rfl, q _ c hcn (I.hok.fresh (Nat.le_refl _))⟩
theorem dedup_mem : ∀ (xs : List Int) (x : Int), x ∈ dedup xs ↔ x ∈ xs
  | [], _ => Iff.rfl
  | y :: xs, x => by
    unfold dedup
    by_cases h : xs.contains y = true
    · rw [if_pos h, dedup_mem xs x]
      refine ⟨fun z => List.mem_cons_of_mem _ z, fun z => ?_⟩
      rcases List.mem_cons.mp z with rfl | z
      · simpa using h
      · exact z
    · rw [if_neg h, List.mem_cons, List.mem_cons, dedup_mem xs x]
theorem dedup_nodup : ∀ (xs : List Int), (dedup xs).Nodup
  | [] => List.nodup_nil
  | y :: xs => by
    unfold dedup
    by_cases h : xs.contains y = true
    · rw [if_pos h]; exact dedup_nodup xs
    · rw [if_neg h, List.nodup_cons]
      exact ⟨fun z => h (by simpa using (dedup_mem xs y).mp z), dedup_nodup xs⟩
theorem setSort_mem (xs : List Int) (x : Int) : x ∈ setSort xs ↔ x ∈ xs := by unfold setSort; rw [List.mem_mergeSort, dedup_mem]
theorem setSort_lt (xs : List Int) : (setSort xs).Pairwise (· < ·) := by
  have h1 : (setSort xs).Pairwise (· ≤ ·) := by
    have := List.pairwise_mergeSort (le := fun a b : Int => decide (a ≤ b)) (fun a b c h1 h2 => by simp at *; omega) (fun a b => by simp; omega) (dedup xs)
    exact this.imp fun h => by simpa using h
  have h2 := List.nodup_iff_pairwise_ne.mp ((List.mergeSort_perm (dedup xs) fun a b => decide (a ≤ b)).nodup_iff.mpr (dedup_nodup xs))
  exact (List.Pairwise.and h1 h2).imp fun h => by omega
theorem asc_uniq : ∀ {l m : List Int}, l.Pairwise (· < ·) → m.Pairwise (· < ·) → (∀ x, x ∈ l ↔ x ∈ m) → l = m
  | [], [], _, _, _ => rfl
  | [], b :: m, _, _, h => by have := (h b).mpr (List.mem_cons_self ..); cases this
  | a :: l, [], _, _, h => by have := (h a).mp (List.mem_cons_self ..); cases this
  | a :: l, b :: m, h1, h2, h => by
    obtain ⟨a1, a2⟩ := List.pairwise_cons.mp h1
    obtain ⟨b1, b2⟩ := List.pairwise_cons.mp h2
    have e : a = b := by
      rcases List.mem_cons.mp ((h a).mp (List.mem_cons_self ..)) with q | q
      · exact q
      · rcases List.mem_cons.mp ((h b).mpr (List.mem_cons_self ..)) with z | z
        · exact z.symm
        · have := b1 a q; have := a1 b z; omega
    subst e
    refine congrArg (a :: ·) (asc_uniq a2 b2 fun x => ?_)
    constructor
    · intro z
      rcases List.mem_cons.mp ((h x).mp (List.mem_cons_of_mem _ z)) with q | q
      · have := a1 x z; omega
      · exact q
    · intro z
      rcases List.mem_cons.mp ((h x).mpr (List.mem_cons_of_mem _ z)) with q | q
      · have := b1 x z; omega
      · exact q
theorem kn_sset (g : GoodX X) (ha : PE X ma (tB X.K G a)) (hg : Gl X "sorted" := by rfl) (hg2 : Gl X "set" := by rfl) (hs : starEach [ma] X.env = [(false, eval ma X.env)] := by rfl)
    (hs2 : starEach [.Call (.Name "set" p2) [ma] [] pos2] X.env = (false, eval (.Call (.Name "set" p2) [ma] [] pos2) X.env) :: starEach [] X.env := by rfl) :
    PE X (.Call (.Name "sorted" pp) [.Call (.Name "set" p2) [ma] [] pos2] [] pos) (tN X.K G (.b1 .sset a)) :=
  (pe_callB (cr_sortedSet g.calm) hg (g.bl _ (by decide +kernel)) (by decide +kernel) (pa_cons (pe_callTy (cr_setI g.calm) hg2 (g.bl _ (by decide +kernel)) (by decide +kernel) (b_one ha hs) (by decide) (by decide) hs rfl) pa_nil hs2) (by decide) (by decide) hs2 rfl).imp fun σ H Q ⟨F, env, d, ok, hd, k⟩ => by
    obtain ⟨x, hx, hz⟩ := Option.bind_eq_some_iff.mp (show (bo env a (ev G env a)).bind _ = some d from hd)
    obtain ⟨xs, hsx, hz⟩ := Option.bind_eq_some_iff.mp (show x.seq?.bind (fun xs => (D.ints xs).bind fun ns => if ns.length < 64 then some (D.lst ((setSort ns).map .int)) else none) = some d from hz)
    obtain ⟨ns, hns, hz⟩ := Option.bind_eq_some_iff.mp hz
    have hl : ns.length < 64 := Decidable.byContradiction fun n => by rw [if_neg n] at hz; cases hz
    rw [if_pos hl] at hz
    cases hz
    refine runLB ok (show evB G env [a] = some [x] by show (bo env a (ev G env a)).bind _ = _; rw [hx]; rfl) fun F1 H1 vs x1 o1 r1 => ?_
    obtain ⟨v, r', rfl, r1, e1⟩ := r1
    cases e1
    obtain ⟨vs, ⟨l, rfl, e⟩, r, z⟩ := seqV_of hsx o1.le r1
    rw [ints_eq hns] at r
    rw [RepL.ints r] at e
    refine ⟨l, ns, rfl, e, hl, fun p c hc hn => ?_⟩
    show rSortedSet X.w [.ref p] _ Q
    refine ⟨p, _, c, rfl, upd_same, by omega, fun ms q hms hmem hlen hq => ?_⟩
    have em : ms = setSort ns := asc_uniq hms (setSort_lt ns) fun x => by rw [hmem, decide_eq_true_eq, setSort_mem]
    subst em
    have x2 : Ext F1 H1 F1 (upd H1 p (SetO X.w p (fun j => decide (j ∈ ns)) c)) := Ext.made hn
    exact WantN.lst (wantN_ext (x1.trans x2) k) (o1.le.made hn) (RepL.ofInts (setSort ns)) (by rw [List.length_map, hlen]; show _ ≤ 16777216; omega) hq
theorem k_sset (g : GoodX X) (ha : PE X ma (tB X.K G a)) (hg : Gl X "sorted" := by rfl) (hg2 : Gl X "set" := by rfl) (hs : starEach [ma] X.env = [(false, eval ma X.env)] := by rfl)
    (hs2 : starEach [.Call (.Name "set" p2) [ma] [] pos2] X.env = (false, eval (.Call (.Name "set" p2) [ma] [] pos2) X.env) :: starEach [] X.env := by rfl) :
    PE X (.Call (.Name "sorted" pp) [.Call (.Name "set" p2) [ma] [] pos2] [] pos) (tD X.K G (.b1 .sset a)) := (kn_sset g ha hg hg2 hs hs2).frz
end
end Rx
end

section
set_option Elab.async false
set_option linter.all false
set_option maxRecDepth 100000
set_option maxHeartbeats 1000000
set_option autoImplicit false
/-! RxKit6: t[::-1] of a tuple. -/
namespace Rx
open PySem PySem.Spec PyProof.Rows L2
section
variable {prog : Program} {w : World} {A : Around} {E : Value → Shared → Prop} {s : Shared}
theorem applied_back {sl : Addr} {vl vu vs : Value} {n : Nat} {Q : Int × Int × Nat → Shared → Prop} (hs : s.heap.IsSliceOf sl vl vu vs) (pl : IsPart vl none) (pu : IsPart vu none) (ps : IsPart vs (some (-1)))
    (h : Q ((n : Int) - 1, -1, n) s) : wpAny (model prog w) A (Builtin.Slice.sliceApplied (.ref sl) (pure (n : Int))) Q E s := by
  obtain ⟨os, hos, hcs, hds⟩ := id hs
  unfold Builtin.Slice.sliceApplied Builtin.Slice.sliceFields
  refine wpAny_bind (wpAny_bind (wpAny_field hos hds (x := vl) rfl (wpAny_bind (wpAny_field hos hds (x := vu) rfl (wpAny_bind (wpAny_field hos hds (x := vs) rfl (wpAny_pure ?_)))))))
  refine wpAny_bind (HT.slicePart_ ps ?_)
  show wpAny _ _ (if ((-1 : Int) == 0) = true then _ else _) _ _ s
  rw [if_neg (by decide)]
  refine wpAny_bind (HT.slicePart_ pl (wpAny_bind (HT.slicePart_ pu (wpAny_bind (wpAny_pure ?_)))))
  show wpAny _ _ (pure ((n : Int) - 1, (-1 : Int), Builtin.Slice.slicePlaces ((n : Int) - 1) (-1) (-1))) _ _ s
  have e : Builtin.Slice.slicePlaces ((n : Int) - 1) (-1) (-1) = n := by
    unfold Builtin.Slice.slicePlaces
    rw [if_neg (by omega)]
    by_cases q : ((n : Int) - 1) > -1
    · rw [if_pos q, show -(-1 : Int) = 1 by omega, Int.ediv_one]; omega
    · rw [if_neg q]; omega
  rw [e]
  exact wpAny_pure h
theorem pick_back (xs : List Value) : ((List.range xs.length).filterMap fun (m : Nat) => xs.toArray[(((xs.length : Int) - 1) + (m : Int) * (-1)).toNat]?).toArray = xs.reverse.toArray := by
  congr 1
  have h : ∀ m ∈ List.range xs.length, (xs.toArray[(((xs.length : Int) - 1) + (m : Int) * (-1)).toNat]?) = xs.reverse[m]? := fun m hm => by
    have hm := List.mem_range.mp hm
    rw [show (((xs.length : Int) - 1) + (m : Int) * (-1)).toNat = xs.length - 1 - m by omega, List.getElem?_reverse hm]
    simp
  rw [fm_congr h]
  have key : ∀ (ys : List Value), (List.range ys.length).filterMap (fun m => ys[m]?) = ys := by
    intro ys
    induction ys with
    | nil => rfl
    | cons y ys ih =>
      rw [List.length_cons, List.range_succ_eq_map, List.filterMap_cons]
      simp only [List.getElem?_cons_zero]
      rw [List.filterMap_map]
      congr 1
  have := key xs.reverse
  rw [List.length_reverse] at this
  exact this
theorem getItem_tuple_back {t sl : Addr} {its : List Value} {vl vu vs : Value} {Q : Value → Shared → Prop} (ht : IsTup s.heap t its.toArray) (hs : s.heap.IsSliceOf sl vl vu vs) (pl : IsPart vl none) (pu : IsPart vu none) (ps : IsPart vs (some (-1)))
    (h : Q (.ref s.heap.objs.size) { s with heap := s.heap.push { cls := .type "tuple", data := .seq its.reverse.toArray } }) (hsz : its.length ≤ sizeLine) : wpAny (model prog w) A (getItem (.ref t) (.ref sl)) Q E s := by
  have htake : sizeOk (.seq its.reverse.toArray) := by
    show its.reverse.toArray.size ≤ sizeLine
    rw [List.size_toArray, List.length_reverse]; exact hsz
  obtain ⟨os, hos, hcs, hds⟩ := id hs
  have hTs : s.TypeIs (.ref sl) "slice" := ⟨os, hos, hcs⟩
  unfold getItem
  try with_reducible refine wpAny_holding ?_
  first | refine wpAny_bind (wpAny_pure ?_) | skip
  refine wpAny_bind (wpAny_sequenceKey ht.typeIs (by decide) ?_)
  refine wpAny_bind (wpAny_callSpecial?_slot (name := Str.ofString "__getitem__") ht.typeIs PyProof.Rows.slot_tuple_getitem
    (wpAny_call_entry PyProof.Rows.slot_tuple_getitem ht.typeIs entry_tuple_getitem ?_ (args_tuple_getitem _ _)))
  show wpAny _ _ (Builtin.Tuple.tupleItemsOf (.ref t) >>= _) _ _ s
  refine wpAny_bind (tupleItemsOf_ ht ?_)
  refine wpAny_bind (wpAny_typeOf hTs ?_)
  rw [if_pos (by decide)]
  have e0 : its.toArray.size = its.length := by simp
  rw [e0]
  refine wpAny_bind (applied_back hs pl pu ps ?_)
  have hno : ¬ ((((its.length : Int) - 1) == 0 && (-1 : Int) == 1 && its.length == its.length) = true) := by simp
  show wpAny _ _ (if (((its.length : Int) - 1) == 0 && (-1 : Int) == 1 && its.length == its.length) = true then _ else _) _ _ s
  rw [if_neg hno, pick_back]
  first
    | exact wpAny_bind (m := Builtin.Tuple.tupleExact _) (wpAny_newObj_type (wpAny_pure ⟨_, rfl, wpAny_pure h⟩) htake)
    | exact wpAny_bind (m := Builtin.Tuple.tupleExact _) (wpAny_newObj_type (wpAny_bind (wpAny_pure (wpAny_pure ⟨_, rfl, wpAny_pure h⟩))) htake)
    | exact wpAny_bind (wpAny_bind (m := Builtin.Tuple.tupleExact _) (wpAny_newObj_type (wpAny_pure (wpAny_pure ⟨_, rfl, wpAny_pure h⟩)) htake))
    | exact wpAny_bind (wpAny_bind (m := Builtin.Tuple.tupleExact _) (wpAny_newObj_type (wpAny_pure ⟨_, rfl, wpAny_pure h⟩) htake))
end
def tRevA (te : TE) : TE := fun σ H Q => te σ H fun x H1 => ∃ a xs, x = .ref a ∧ ((H1 a = some (.lst xs) ∧ ∀ p, H1 p = none → Q (.ref p) (upd H1 p (.lst xs.reverse))) ∨ (H1 a = some (.tup xs) ∧ ∀ p, H1 p = none → Q (.ref p) (upd H1 p (.tup xs.reverse))))
section
variable {X : Cx} {G : Gm} {a : E} {ma : Expr} {k : Nat} {p1 p2 p3 pos : Pos}
theorem pe_revA {te : TE} (he : PE X ma te) : PE X (.Subscript ma (.Slice none none (some (.UnaryOp .USub (.Constant (.int 1) k p1) p2)) p3) pos) (tRevA te) := by
  refine ⟨fun pins s σ H Q I h => ?_⟩
  refine Subscript_ (thn (he.run pins s σ H _ I h) fun v s1 ⟨x, H1, I1, r1, q1⟩ => ?_)
  obtain ⟨l, xs, ex, q⟩ := q1
  subst ex
  cases r1
  have hst : PO X (some (.UnaryOp .USub (.Constant (.int 1) k p1) p2)) (tPart (tUn (rU fun i => .int (-i)) (tC (.int 1)))) := po_some (pe_un un_neg pe_int)
  refine wpAny_Slice (thn (po_none.run pins s1 σ H1 (fun o H2 => o = none ∧ H2 = H1) I1 ⟨rfl, rfl⟩) fun vl s2 ⟨o1, H2, I2, pl, el, e2⟩ => ?_)
  subst el e2
  refine thn (po_none.run pins s2 σ H2 (fun o H3 => o = none ∧ H3 = H2) I2 ⟨rfl, rfl⟩) fun vu s3 ⟨o2, H3, I3, pu, eu, e3⟩ => ?_
  subst eu e3
  refine thn (hst.run pins s3 σ H3 (fun o H4 => o = some (-1) ∧ H4 = H3) I3 ⟨1, rfl, -1, rfl, rfl, rfl⟩) fun vs s4 ⟨o, H4, I4, ps, eo, e4⟩ => ?_
  subst eo e4
  have I5 : Inv X pins σ H4 { s4 with heap := s4.heap.push { cls := .type "slice", data := .fields #[vl, vu, vs] } } := I4.kept (t' := s4.toks) fun b ob q => Heap.get?_push_of_some _ q
  show wpAny (model X.prog X.w) X.A (subscriptTail ma (.Slice none none (some (.UnaryOp .USub (.Constant (.int 1) k p1) p2)) p3) (.ref l) (.ref s4.heap.objs.size)) (EP X pins σ Q) X.xe { s4 with heap := s4.heap.push { cls := .type "slice", data := .fields #[vl, vu, vs] } }
  rcases q with ⟨hx, q⟩ | ⟨hx, q⟩
  · obtain ⟨its, r, ht, hz⟩ := I5.list (SqL.of hx)
    have hlen := r.length
    refine tail_any (ops := [.ref l, .ref s4.heap.objs.size]) ht.isList.typeIs (PySem.slot_list_getitem.lookup) ?_ (by with_unfolding_all rfl)
    refine wpAny_getItem_list_slice ht.isList (Heap.IsSliceOf.new _ vl vu vs) pl pu ps (by decide) ?_ (by rw [List.size_toArray]; omega)
    rw [PySem.W.krv_pick]
    refine ⟨.ref _, _, I5.laid (t' := s4.toks) (o := .lst xs.reverse) (fun b ob q => Heap.get?_push_of_some _ q) (Nat.le_refl _) ?_, rfl, q _ (I5.hok.fresh (Nat.le_refl _))⟩
    exact ⟨by rw [List.length_reverse]; exact hz, _, 0, r.reverse, Heap.get?_push_size _ rfl⟩
  · obtain ⟨its, r, ht, hz⟩ := I5.tuple (SqT.of hx)
    have hlen := r.length
    refine tail_any (ops := [.ref l, .ref s4.heap.objs.size]) ht.typeIs (PyProof.Rows.slot_tuple_getitem.lookup) ?_ (by with_unfolding_all rfl)
    refine getItem_tuple_back ht (Heap.IsSliceOf.new _ vl vu vs) pl pu ps ?_ (by omega)
    refine ⟨.ref _, _, I5.laid (t' := s4.toks) (o := .tup xs.reverse) (fun b ob q => Heap.get?_push_of_some _ q) (Nat.le_refl _) ?_, rfl, q _ (I5.hok.fresh (Nat.le_refl _))⟩
    exact ⟨by rw [List.length_reverse]; exact hz, _, r.reverse, IsTup.new _ _⟩
theorem k_rev (g : GoodX X) (ha : PE X ma (tB X.K G a)) : PE X (.Subscript ma (.Slice none none (some (.UnaryOp .USub (.Constant (.int 1) k p1) p2)) p3) pos) (tD X.K G (.b1 .rev a)) :=
  (pe_revA ha).imp fun σ H Q ⟨F, env, d, ok, hd, k⟩ => by
    obtain ⟨x, hx, hz⟩ := Option.bind_eq_some_iff.mp (show (bo env a (ev G env a)).bind _ = some d from hd)
    refine runB ok hx fun F1 H1 v x1 o1 r1 => ?_
    cases x <;> simp only [opU] at hz <;> (try cases hz)
    · rename_i xs
      obtain ⟨l, vs, rfl, e, r, z⟩ := r1.tup
      refine ⟨l, vs, rfl, .inr ⟨o1.le.tup e, fun p hp => ?_⟩⟩
      have rr := (r.reverse)
      exact Want.tup (fun F' H' w x2 l2 r2 => k F' H' w (x1.trans x2) l2 r2) o1.le rr (by simpa using z) hp
    · rename_i xs
      obtain ⟨l, vs, rfl, e, r, z⟩ := r1.lst o1.le
      refine ⟨l, vs, rfl, .inl ⟨e, fun p hp => ?_⟩⟩
      exact Want.lst (fun F' H' w x2 l2 r2 => k F' H' w (x1.trans x2) l2 r2) o1.le r.reverse (by simpa using z) hp
end
end Rx
end

section
set_option Elab.async false
set_option linter.all false
set_option maxRecDepth 100000
set_option maxHeartbeats 1000000
set_option autoImplicit false
/-! RxKit7: dict displays of one pair. -/
namespace Rx
open PySem PySem.Spec PyProof.Rows L2
section
variable {X : Cx} {G : Gm} {a b : E} {ma mb : Expr} {pos : Pos}
theorem kn_dic1 (g : GoodX X) (ha : PE X ma (tD X.K G a)) (hb : PE X mb (tD X.K G b)) : PE X (.Dict [some ma] [mb] pos) (tN X.K G (.dic1 false a b)) :=
  (pe_disp (pps_cons ha hb pps_nil) rfl rfl (by simp) (by simp)).imp fun σ H Q ⟨F, env, d, ok, hd, k⟩ p hp => by
    obtain ⟨x, hx, hz⟩ := Option.bind_eq_some_iff.mp (show (ev G env a).bind (fun x => (ev G env b).bind fun y => if isKey false x then some (D.dic false [(x, y)]) else none) = some d from hd)
    obtain ⟨y, hy, hz⟩ := Option.bind_eq_some_iff.mp hz
    have hk : isKey false x = true := Decidable.byContradiction fun n => by rw [if_neg n] at hz; cases hz
    rw [if_pos hk] at hz
    cases hz
    obtain ⟨i, rfl⟩ : ∃ i, x = .int i := by cases x <;> first | exact ⟨_, rfl⟩ | (exfalso; revert hk; simp [isKey])
    have ok1 : Ok X.K F (upd H p (.dK [])) σ env := ok.ext (Ext.made hp) (ok.le.made hp)
    show tD X.K G a σ (upd H p (.dK [])) _
    refine runD ok1 hx fun F1 H1 v x1 o1 r1 => ?_
    show tD X.K G b σ H1 _
    refine runD o1 hy fun F2 H2 u x2 o2 r2 => ?_
    have x12 := x1.trans x2
    have hp2 : H2 p = some (.dK []) := x12.h p _ upd_same
    have fp : F p = none := ok.le.free hp
    have fp2 : F2 p = none := by rw [x12.n p _ upd_same rfl]; exact fp
    obtain rfl : v = V.int i := r1
    refine ⟨hp2, [(Sum.inl i, u)], rfl, by simp, ?_⟩
    refine k F2 _ p ⟨x12.f, fun c w e => ?_, fun c w e z => ?_⟩ (fun c w e => ?_) hp fp2 ⟨_, upd_same, Sum.inl i, u, [], rfl, ⟨i, rfl, rfl⟩, r2, rfl⟩
    · have hc : c ≠ p := fun z => by rw [z, hp] at e; cases e
      rw [upd_ne hc]
      exact x12.h c w (by rw [upd_ne hc]; exact e)
    · have hc : c ≠ p := fun z => by rw [z, hp] at e; cases e
      exact x12.n c w (by rw [upd_ne hc]; exact e) z
    · have hc : c ≠ p := fun z => by rw [z, fp2] at e; cases e
      rw [upd_ne hc]
      exact o2.le c w e
end
end Rx
end

section
set_option Elab.async false
set_option linter.all false
set_option maxRecDepth 100000
set_option maxHeartbeats 2000000
set_option autoImplicit false
/-! RxKit8: zip of two and of three, lists and tuples. -/
namespace Rx
open PySem PySem.Spec PyProof.Rows L2
/-! ### a list (true) or a tuple (false) -/
def SqB (q : Bool) (K : PySem.W.Frag) (H : Hp) (a : Addr) (xs : List V) : Prop := if q = true then SqL K H a xs else SqT K H a xs
def SeqB (q : Bool) (h : Heap) (a : Addr) (its : Array Value) : Prop := if q = true then h.IsList a its else h.IsTuple a its
def ItB (q : Bool) (h : Heap) (it a : Addr) (i : Nat) : Prop := if q = true then h.IsListIter it a i else h.IsTupleIter it a i
def objB (q : Bool) (a : Addr) : Obj := if q = true then { cls := .type "list_iterator", data := .fields #[.ref a, .int 0 0] } else { cls := .type "tuple_iterator", data := .fields #[.ref a, .int 0 0] }
theorem ItB.there {q : Bool} {h : Heap} {it a : Addr} {i : Nat} (x : ItB q h it a i) : ∃ o, h.get? it = some o ∧ ∀ v, o.data ≠ .cell v := by
  cases q
  · obtain ⟨o, e, _, d⟩ := (show h.IsTupleIter it a i from x)
    exact ⟨o, e, fun v z => by rw [d] at z; cases z⟩
  · obtain ⟨o, e, _, d⟩ := (show h.IsListIter it a i from x)
    exact ⟨o, e, fun v z => by rw [d] at z; cases z⟩
theorem ItB.to {q : Bool} {h h' : Heap} {it a : Addr} {i : Nat} (x : ItB q h it a i) (k : ∀ o, h.get? it = some o → h'.get? it = some o) : ItB q h' it a i := by
  cases q
  · exact Heap.IsTupleIter.at (show h.IsTupleIter it a i from x) k
  · exact Heap.IsListIter.at (show h.IsListIter it a i from x) k
theorem objB_it {q : Bool} {h : Heap} {it a : Addr} (e : h.get? it = some (objB q a)) : ItB q h it a 0 := by
  cases q
  · exact ⟨_, e, rfl, rfl⟩
  · exact ⟨_, e, rfl, rfl⟩
theorem drawsB (q : Bool) {P : Program} {w : World} {A : Around} (hh : A.handled = none) (it a : Addr) (ne : a ≠ it) (its : Array Value) : Draws P w A it [it, a] its.size (fun i v => its[i]? = some v) (fun i h => ItB q h it a i ∧ SeqB q h a its) := by
  cases q
  · exact Draws.tuple hh it a ne its
  · exact Draws.list hh it a ne its
theorem beginB (q : Bool) (a : Addr) (its : Array Value) : Begins (.ref a) (objB q a) fun h => SeqB q h a its := by
  cases q
  · exact begins_tuple a its
  · exact begins_list a its
section
variable {X : Cx} {pins : List (Addr × Obj)} {σ : St} {H : Hp} {s : Shared} {a : Addr} {xs ys : List V} {q : Bool}
theorem inv_seqB (I : Inv X pins σ H s) (h : SqB q X.K H a xs) : ∃ its : List Value, Vals xs its ∧ SeqB q s.heap a its.toArray ∧ a < s.heap.objs.size := by
  cases q
  · obtain ⟨its, r, p, _⟩ := I.tuple (show SqT X.K H a xs from h)
    obtain ⟨o, e, _⟩ := id p
    exact ⟨its, r, p, Heap.lt_size e⟩
  · obtain ⟨its, r, p, _⟩ := I.list (show SqL X.K H a xs from h)
    exact ⟨its, r, p.isList, p.lt⟩
theorem inv_injB (I : Inv X pins σ H s) (h : SqB q X.K H a xs) (h' : SqB q X.K H a ys) : xs = ys := by
  cases q
  · exact I.tuple_inj h h'
  · exact I.list_inj h h'
end
/-! ### zip of two -/
/-- the pairs of what stands at a and at b -/
def ItzB (K : PySem.W.Frag) (q1 q2 : Bool) (a b : Addr) : It :=
  ⟨fun i H => ∃ (us vs : List V) (u v : V), SqB q1 K H a us ∧ SqB q2 K H b vs ∧ us[i]? = some u ∧ vs[i]? = some v,
    fun i H y H' => ∃ (T : Addr) (u v : V), y = .ref T ∧ H T = none ∧ H' = upd H T (.tup [u, v]) ∧ (∀ us, SqB q1 K H a us → us[i]? = some u) ∧ (∀ vs, SqB q2 K H b vs → vs[i]? = some v),
    fun i H => ∃ us vs : List V, SqB q1 K H a us ∧ SqB q2 K H b vs ∧ i = min us.length vs.length⟩
theorem sep2 {z TI TO j1 j2 a b : Addr} (Z : ZipApart z TI TO j1 j2 a b) : ZipSep2 z TI TO j1 j2 [j1, a] [j2, b] where
  TIz := Z.TIz
  TOz := Z.TOz
  TITO := Z.TITO
  TIi1 := Z.TIi1
  mem1 := by simp
  zf1 := by simp only [List.mem_cons, List.not_mem_nil, or_false, not_or]; exact ⟨Z.i1z.symm, Z.l1z.symm⟩
  Tf1 := by simp only [List.mem_cons, List.not_mem_nil, or_false, not_or]; exact ⟨Z.TOi1, Z.l1TO.symm⟩
  TIi2 := Z.TIi2
  mem2 := by simp
  zf2 := by simp only [List.mem_cons, List.not_mem_nil, or_false, not_or]; exact ⟨Z.i2z.symm, Z.l2z.symm⟩
  Tf2 := by simp only [List.mem_cons, List.not_mem_nil, or_false, not_or]; exact ⟨Z.TOi2, Z.l2TO.symm⟩
  sep1_2 := by simp only [List.mem_cons, List.not_mem_nil, or_false, not_or]; exact ⟨Z.i12, Z.l2i1.symm⟩
  sep2_1 := by simp only [List.mem_cons, List.not_mem_nil, or_false, not_or]; exact ⟨Z.i12.symm, Z.l1i2.symm⟩
theorem turnB2 {P : Program} {w : World} {K : PySem.W.Frag} {els : List Expr} {kk : Nat} {tpos : Pos} (q1 q2 : Bool) {a b z TI TO j1 j2 : Addr} (Z : ZipApart z TI TO j1 j2 a b) :
    Turn P w K (.Tuple els kk tpos) (ItzB K q1 q2 a b) [z, TI, TO, j1, j2] z (fun i h => IsZip h z TI TO .none ∧ IsTupOf2 h TI (.ref j1) (.ref j2) ∧ (∃ u v, IsTupOf2 h TO u v) ∧ ItB q1 h j1 a i ∧ ItB q2 h j2 b i) where
  mem := by simp
  obj := fun i h ⟨c1, c2, ⟨u, v, c3⟩, c4, c5⟩ c hc => by
    have hc : c = z ∨ c = TI ∨ c = TO ∨ c = j1 ∨ c = j2 := by simpa using hc
    rcases hc with rfl | rfl | rfl | rfl | rfl
    · exact ⟨_, c1, fun v y => nomatch y⟩
    · exact ⟨_, c2, fun v y => nomatch y⟩
    · exact ⟨_, c3, fun v y => nomatch y⟩
    · exact c4.there
    · exact c5.there
  keep := fun i h h' ⟨c1, c2, ⟨u, v, c3⟩, c4, c5⟩ k => ⟨k z (by simp) _ c1, k TI (by simp) _ c2, ⟨u, v, k TO (by simp) _ c3⟩, c4.to fun o y => k j1 (by simp) o y, c5.to fun o y => k j2 (by simp) o y⟩
  item := by
    intro X hP hw hK hc i pins s σ H E I hf ⟨c1, c2, ⟨u0, v0, c3⟩, c4, c5⟩ ⟨us, vs, u, v, m1, m2, g1, g2⟩
    subst hP hw hK
    obtain ⟨ks, r1, p1, _⟩ := inv_seqB I m1
    obtain ⟨ls, r2, p2, _⟩ := inv_seqB I m2
    obtain ⟨x, hx, rx⟩ := r1.get g1
    obtain ⟨y, hy, ry⟩ := r2.get g2
    have lz : z < s.heap.objs.size := Heap.lt_size c1
    have b1 : i < ks.toArray.size := by rw [List.size_toArray]; exact (List.getElem?_eq_some_iff.mp hx).1
    have b2 : i < ls.toArray.size := by rw [List.size_toArray]; exact (List.getElem?_eq_some_iff.mp hy).1
    refine wpAny_pyNext_zipD2_item (sep2 Z) (drawsB q1 (A := X.A.in1) (I.ok.hd hc) j1 a Z.l1i1 ks.toArray) (drawsB q2 (A := X.A.in1) (I.ok.hd hc) j2 b Z.l2i2 ls.toArray) c1 c2 c3 ⟨c4, p1⟩ ⟨c5, p2⟩ b1 b2 fun x' y' h' tk e1 e2 z1 o1 t1 t2 n1 hsz hk => ?_
    obtain rfl : x' = x := by
      have : ks.toArray[i]? = some x := by simpa using hx
      rw [this] at e1; exact (Option.some.inj e1).symm
    obtain rfl : y' = y := by
      have : ls.toArray[i]? = some y := by simpa using hy
      rw [this] at e2; exact (Option.some.inj e2).symm
    refine ⟨_, rfl, wpAny_letOwnedTupleGo_zip (s := { s with heap := h', toks := tk }) z1 fun h2 z2 sb => ?_⟩
    have nT : h2.get? s.heap.objs.size = some { cls := .type "tuple", data := .seq #[x', y'] } := (sb.2 _ (Nat.ne_of_gt lz)).trans n1
    have new : ObjOk X.prog X.w (upd H s.heap.objs.size (.tup [u, v])) h2 s.heap.objs.size (.tup [u, v]) := ⟨by show 2 ≤ sizeLine; decide, [x', y'], .cons rx (.cons ry .nil), ⟨_, nT, rfl, _, rfl⟩⟩
    have I1 : Inv X pins σ (upd H s.heap.objs.size (.tup [u, v])) { s with heap := h2, toks := tk } := I.turnedNew (t' := tk) (ch := [z, TI, TO, j1, j2]) (fun c o hb y => by
      simp only [List.mem_cons, List.not_mem_nil, or_false, not_or] at hb
      exact (sb.2 c hb.1).trans (hk c o hb.1 hb.2.2.1 hb.2.2.2.1 hb.2.2.2.2 y)) hf (Nat.le_refl _) new
    refine ⟨.ref s.heap.objs.size, _, I1, rfl, ⟨_, u, v, rfl, I.hok.fresh (Nat.le_refl _), rfl, fun l hl => by rw [inv_injB I hl m1]; exact g1, fun l hl => by rw [inv_injB I hl m2]; exact g2⟩, ⟨z2, (sb.2 _ Z.TIz).trans (hk _ _ Z.TIz Z.TITO Z.TIi1 Z.TIi2 c2), ⟨x', y', (sb.2 _ Z.TOz).trans o1⟩, t1.1.to fun o y => (sb.2 _ Z.i1z).trans y, t2.1.to fun o y => (sb.2 _ Z.i2z).trans y⟩, fun c hcm => ?_⟩
    have hlt : c < s.heap.objs.size := by
      have hcm : c = z ∨ c = TI ∨ c = TO ∨ c = j1 ∨ c = j2 := by simpa using hcm
      rcases hcm with rfl | rfl | rfl | rfl | rfl
      · exact lz
      · exact Heap.lt_size c2
      · exact Heap.lt_size c3
      · obtain ⟨_, y, _⟩ := c4.there; exact Heap.lt_size y
      · obtain ⟨_, y, _⟩ := c5.there; exact Heap.lt_size y
    rw [upd_ne (Nat.ne_of_lt hlt)]
    exact (hf c hcm).1
  done := by
    intro X hP hw hK hc i pins s σ H E I hf ⟨c1, c2, ⟨u0, v0, c3⟩, c4, c5⟩ ⟨us, vs, m1, m2, hi⟩
    subst hP hw hK
    obtain ⟨ks, r1, p1, _⟩ := inv_seqB I m1
    obtain ⟨ls, r2, p2, _⟩ := inv_seqB I m2
    have l1 : ks.toArray.size = us.length := by rw [List.size_toArray, r1.length]
    have l2 : ls.toArray.size = vs.length := by rw [List.size_toArray, r2.length]
    exact wpAny_pyNext_zipD2_end (sep2 Z) (drawsB q1 (A := X.A.in1) (I.ok.hd hc) j1 a Z.l1i1 ks.toArray) (drawsB q2 (A := X.A.in1) (I.ok.hd hc) j2 b Z.l2i2 ls.toArray) c1 c2 c3 ⟨c4, p1⟩ ⟨c5, p2⟩ (by omega) (by omega) (by omega) fun h' tk hk => ⟨rfl, I.turnedL (t' := tk) (ch := [z, TI, TO, j1, j2]) (fun c o hb y => by
      simp only [List.mem_cons, List.not_mem_nil, or_false, not_or] at hb
      exact hk c o hb.1 hb.2.2.1 hb.2.2.2.1 hb.2.2.2.2 y) hf⟩
  self := fun A i s Q E c h => wpAny_pyIter_zip c.1 h
def iZipB (K : PySem.W.Frag) (ta : TA) : TI := fun σ H R => ta σ H fun vs H1 => ∃ (q1 q2 : Bool) (a b : Addr) (xs ys : List V), vs = [.ref a, .ref b] ∧ SqB q1 K H1 a xs ∧ SqB q2 K H1 b ys ∧ R (ItzB K q1 q2 a b) H1
theorem pi_zipB {X : Cx} {m1 m2 : Expr} {ta : TA} {p pos tpos : Pos} {els : List Expr} {kk : Nat} (hg : Gl X "zip") (hm : X.mg "zip" = none) (ha : PA X [m1, m2] ta)
    (hs : starEach [m1, m2] X.env = (false, eval m1 X.env) :: starEach [m2] X.env) (hpl : (backTo pos (starEach [m2] X.env)).any (·.1) = false) : PI X (.Tuple els kk tpos) (.Call (.Name "zip" p) [m1, m2] [] pos) (iZipB X.K ta) := by
  refine ⟨fun pins s σ H R I h => ?_⟩
  refine Call_ (ld_blt I hg hm PyProof.Rows.boot_zip (PyProof.Rows.callWith_type1 (thn (ha.run pos pins s σ H _ I h) fun us s1 ⟨vs, H1, I1, r1, q1, q2, a, b, xs, ys, ex, m1, m2, q⟩ => ?_) hs hpl))
  subst ex
  cases r1 with
  | cons r rr =>
    cases rr with
    | cons r' rr =>
      cases rr
      cases r
      cases r'
      obtain ⟨ks, _, p1, la⟩ := inv_seqB I1 m1
      obtain ⟨ls, _, p2, lb⟩ := inv_seqB I1 m2
      refine zip_begins2 (beginB q1 a ks.toArray) (beginB q2 b ls.toArray) p1 p2 fun h' hz hTI hTO g1 g2 hsz hk => wpAny_pyIter_zip hz ?_
      have I2 : Inv X pins σ H1 { s1 with heap := h' } := I1.kept (t' := s1.toks) hk
      refine ⟨s1.heap.objs.size + 4, [s1.heap.objs.size + 4, s1.heap.objs.size + 2, s1.heap.objs.size + 3, s1.heap.objs.size, s1.heap.objs.size + 1], _, _, H1, rfl, I2, turnB2 q1 q2 (PySem.W.ktu_apart s1.heap.objs.size a b la lb), ⟨hz, hTI, ⟨_, _, hTO⟩, objB_it g1, objB_it g2⟩, fun c hcm => ?_, q⟩
      have hle : s1.heap.objs.size ≤ c := by
        have hcm : c = s1.heap.objs.size + 4 ∨ c = s1.heap.objs.size + 2 ∨ c = s1.heap.objs.size + 3 ∨ c = s1.heap.objs.size ∨ c = s1.heap.objs.size + 1 := by simpa using hcm
        rcases hcm with y | y | y | y | y
        · rw [y]; exact Nat.le_add_right _ _
        · rw [y]; exact Nat.le_add_right _ _
        · rw [y]; exact Nat.le_add_right _ _
        · rw [y]; exact Nat.le_refl _
        · rw [y]; exact Nat.le_add_right _ _
      exact I1.fpOk hle (I1.hok.fresh hle)
abbrev isLD (x : D) : Bool := match x with | .lst _ => true | _ => false
section
variable {K : PySem.W.Frag} {S : Hp → Hp → Prop}
theorem stays_seqB {F H : Hp} {x : D} {xs : List D} {v : V} (hx : x.seq? = some xs) (l : FLe F H) (r : RepB K F H x v) : ∃ (a : Addr) (vs : List V), v = .ref a ∧ SqB (isLD x) K H a vs ∧ RepL K F xs vs := by
  rcases seq_some hx with rfl | rfl
  · obtain ⟨a, vs, rfl, ea, ra, _⟩ := r.tup
    exact ⟨a, vs, rfl, SqT.of (l.tup ea), ra⟩
  · obtain ⟨a, vs, rfl, ea, ra, _⟩ := r.lst l
    exact ⟨a, vs, rfl, SqL.of ea, ra⟩
theorem walk_zipB {x y : D} {xs ys : List D} {a b : Addr} (hx : x.seq? = some xs) (hy : y.seq? = some ys) (h1 : Stays K S x (.ref a)) (h2 : Stays K S y (.ref b)) : WalkD K S ((xs.zip ys).map fun p => .tup [p.1, p.2]) (ItzB K (isLD x) (isLD y) a b) where
  go := fun i F H s hi => by
    obtain ⟨l, r1⟩ := h1 F H s
    obtain ⟨_, r2⟩ := h2 F H s
    obtain ⟨_, us, e1, m1, g1⟩ := stays_seqB hx l r1
    obtain ⟨_, vs, e2, m2, g2⟩ := stays_seqB hy l r2
    cases e1
    cases e2
    have k1 := g1.length
    have k2 := g2.length
    simp only [List.length_map, List.length_zip] at hi
    exact ⟨us, vs, us[i]'(by omega), vs[i]'(by omega), m1, m2, by simp, by simp⟩
  stop := fun F H s => by
    obtain ⟨l, r1⟩ := h1 F H s
    obtain ⟨_, r2⟩ := h2 F H s
    obtain ⟨_, us, e1, m1, g1⟩ := stays_seqB hx l r1
    obtain ⟨_, vs, e2, m2, g2⟩ := stays_seqB hy l r2
    cases e1
    cases e2
    exact ⟨us, vs, m1, m2, by rw [List.length_map, List.length_zip, g1.length, g2.length]⟩
  yld := fun i F H v H' s hi ⟨T, u, w, e1, n, e2, y1, y2⟩ => by
    obtain ⟨l, r1⟩ := h1 F H s
    obtain ⟨_, r2⟩ := h2 F H s
    obtain ⟨_, us, ex1, m1, g1⟩ := stays_seqB hx l r1
    obtain ⟨_, vs, ex2, m2, g2⟩ := stays_seqB hy l r2
    cases ex1
    cases ex2
    subst e1 e2
    obtain ⟨d, hd, rd⟩ := g1.get' (y1 us m1)
    obtain ⟨e, he, re⟩ := g2.get' (y2 vs m2)
    obtain ⟨F', x1, l1, rr⟩ := yld_pair l n rd re
    exact ⟨F', _, x1, l1, by rw [List.getElem?_map, List.getElem?_zip_eq_some (z := (d, e)) |>.mpr ⟨hd, he⟩]; rfl, rr⟩
end
section
variable {X : Cx} {G : Gm} {fr : Bool} {a b c : E} {ma mb mc : Expr} {pos pp tpos : Pos} {els : List Expr} {kk : Nat}
theorem kw_zip2 (g : GoodX X) (ha : PA X [ma, mb] (tM fr X.K G [a, b])) (hg : Gl X "zip" := by rfl) (hs : starEach [ma, mb] X.env = (false, eval ma X.env) :: starEach [mb] X.env := by rfl) (hpl : (backTo pos (starEach [mb] X.env)).any (·.1) = false := by rfl) :
    PI X (.Tuple els kk tpos) (.Call (.Name "zip" pp) [ma, mb] [] pos) (tI fr X.K G .zip2 [a, b]) :=
  (pi_zipB hg (g.bl _ (by decide +kernel)) ha hs hpl).imp fun σ H R ⟨F, env, vs, xs, o, hv, hw, k⟩ => by
    refine runM o hv fun F1 H1 ws x1 o1 st r1 => ?_
    rcases vs with _ | ⟨x, _ | ⟨y, _ | ⟨_, _⟩⟩⟩ <;> (try simp only [walk] at hw) <;> try cases hw
    obtain ⟨ds, hd, hw⟩ := Option.bind_eq_some_iff.mp hw
    obtain ⟨es, he, rfl⟩ := Option.map_eq_some_iff.mp hw
    obtain ⟨v, r', rfl, r1, u, r'', rfl, r2, ex⟩ := r1
    cases ex
    obtain ⟨_, _, ew, s1, _, _, ew2, s2, _⟩ := st
    cases ew
    cases ew2
    obtain ⟨l1, us, rfl, m1, _⟩ := stays_seqB hd o1.le r1
    obtain ⟨l2, vs, rfl, m2, _⟩ := stays_seqB he o1.le r2
    exact ⟨_, _, l1, l2, us, vs, rfl, m1, m2, k _ _ _ x1 o1.le (walk_zipB hd he s1 s2)⟩
end
end Rx
end

section
set_option Elab.async false
set_option linter.all false
set_option maxRecDepth 100000
set_option maxHeartbeats 2000000
set_option autoImplicit false
/-! RxKit9: d.get(k), d.get(k, x); for k in d. -/
namespace Rx
open PySem PySem.Spec PyProof.Rows L2
section
variable {X : Cx} {G GI : Gm} {a b c : E} {ma mb mc : Expr} {pos apos pp : Pos}
theorem got_of {K : PySem.W.Frag} {F : Hp} {od : Option D} {o : Option V} (h : RelG K F od o) : Rep K F (od.getD .non) (o.getD .non) := by
  cases od <;> cases o <;> first | exact h | exact False.elim h | rfl
theorem got_or {K : PySem.W.Frag} {F : Hp} {od : Option D} {o : Option V} {d : D} {v : V} (h : RelG K F od o) (r : Rep K F d v) : Rep K F (od.getD d) (o.getD v) := by
  cases od <;> cases o <;> first | exact h | exact False.elim h | exact r
theorem k_get (g : GoodX X) (ha : PE X ma (tB X.K G a)) (hb : PE X mb (tD X.K G b)) (m : M1 X ma "get" apos mb pos := by exact ⟨rfl, rfl, rfl, rfl⟩) : PE X (.Call (.Attribute ma "get" apos) [mb] [] pos) (tD X.K G (.b2 .get a b)) :=
  (pe_dget1 (by have := g.hu; omega) ha hb m).imp fun σ H Q ⟨F, env, d, ok, hd, k⟩ => by
    obtain ⟨x, hx, hd⟩ := Option.bind_eq_some_iff.mp (show (bo env a (ev G env a)).bind _ = some d from hd)
    obtain ⟨y, hy, hd⟩ := Option.bind_eq_some_iff.mp hd
    have key : ∃ t kvs, x = .dic t kvs := by cases x <;> first | exact ⟨_, _, rfl⟩ | cases hd
    obtain ⟨t, kvs, rfl⟩ := key
    have hd : (if isKey t y = true then some ((D.get kvs y).getD .non) else none) = some d := hd
    have hk : isKey t y = true := Decidable.byContradiction fun n => by rw [if_neg n] at hd; cases hd
    rw [if_pos hk] at hd
    cases hd
    refine runB ok hx fun F1 H1 v x1 o1 r1 => ?_
    have hD : ∃ p, v = .ref p ∧ IsD H1 p := by
      cases t with
      | false => obtain ⟨p, ws, rfl, e, _⟩ := r1.dicK o1.le; exact ⟨p, rfl, .inl ⟨ws, e⟩⟩
      | true => obtain ⟨p, ws, rfl, e, _⟩ := r1.dicT o1.le; exact ⟨p, rfl, .inr ⟨ws, e⟩⟩
    obtain ⟨p, rfl, hD⟩ := hD
    refine ⟨p, rfl, hD, runD o1 hy fun F2 H2 u x2 o2 r2 => ?_⟩
    obtain ⟨p', o, e, dg, rg, _⟩ := dget_of o2.le hk (r1.ext x2) (.inl r2)
    cases e
    exact ⟨o, dg, k F2 H2 _ (x1.trans x2) o2.le (got_of rg)⟩
theorem k_get2 (g : GoodX X) (ha : PE X ma (tB X.K G a)) (hb : PE X mb (tD X.K G b)) (hc : PE X mc (tD X.K G c)) (m : M2 X ma "get" apos mb mc pos := by exact ⟨rfl, rfl, rfl, rfl⟩) : PE X (.Call (.Attribute ma "get" apos) [mb, mc] [] pos) (tD X.K G (.get2 a b c)) :=
  (pe_dget2 (by have := g.hu; omega) ha hb hc m).imp fun σ H Q ⟨F, env, d, ok, hd, k⟩ => by
    obtain ⟨x, hx, hd⟩ := Option.bind_eq_some_iff.mp (show (bo env a (ev G env a)).bind _ = some d from hd)
    obtain ⟨y, hy, hd⟩ := Option.bind_eq_some_iff.mp hd
    obtain ⟨z, hz, hd⟩ := Option.bind_eq_some_iff.mp hd
    have key : ∃ t kvs, x = .dic t kvs := by cases x <;> first | exact ⟨_, _, rfl⟩ | cases hd
    obtain ⟨t, kvs, rfl⟩ := key
    have hd : (if isKey t y = true then some ((D.get kvs y).getD z) else none) = some d := hd
    have hk : isKey t y = true := Decidable.byContradiction fun n => by rw [if_neg n] at hd; cases hd
    rw [if_pos hk] at hd
    cases hd
    refine runB ok hx fun F1 H1 v x1 o1 r1 => ?_
    have hD : ∃ p, v = .ref p ∧ IsD H1 p := by
      cases t with
      | false => obtain ⟨p, ws, rfl, e, _⟩ := r1.dicK o1.le; exact ⟨p, rfl, .inl ⟨ws, e⟩⟩
      | true => obtain ⟨p, ws, rfl, e, _⟩ := r1.dicT o1.le; exact ⟨p, rfl, .inr ⟨ws, e⟩⟩
    obtain ⟨p, rfl, hD⟩ := hD
    refine ⟨p, rfl, hD, runD o1 hy fun F2 H2 u x2 o2 r2 => runD o2 hz fun F3 H3 w x3 o3 r3 => ?_⟩
    obtain ⟨p', o, e, dg, rg, _⟩ := dget_of o3.le hk ((r1.ext x2).ext x3) (.inl (r2.mono x3.f))
    cases e
    exact ⟨o, dg, k F3 H3 _ ((x1.trans x2).trans x3) o3.le (got_or rg r3)⟩
end
/-! ### for k in d, the dict locked meanwhile -/
section
variable {mk : Prop} {K : PySem.W.Frag} {F H F' H' : Hp} {σ σ' : St} {env env' : Env} {p : Addr} {u : HO} {od : Obj}
theorem Reach.unlock (hF : F p = some u) (hH : H p = some u) (n : ¬ Own σ env p) (s : Reach F (upd H p (.frz od u)) σ env F' H') : H' p = some (.frz od u) ∧ Reach F H σ env F' (upd H' p u) := by
  refine ⟨s.h p _ upd_same n, s.f, fun c w e nn => ?_, fun c w e z nn => ?_, fun c w e => ?_⟩
  · by_cases hc : c = p
    · subst hc; rw [upd_same]; rw [hH] at e; exact e
    · rw [upd_ne hc]; exact s.h c w (by rw [upd_ne hc]; exact e) nn
  · by_cases hc : c = p
    · subst hc; rw [s.f _ _ hF, hF]
    · exact s.n c w (by rw [upd_ne hc]; exact e) z nn
  · by_cases hc : c = p
    · subst hc
      rw [s.f _ _ hF] at e
      left
      rw [upd_same]; exact e
    · rw [upd_ne hc]; exact s.le c w e
theorem Step.unlock (hF : F p = some u) (hH : H p = some u) (n : ¬ Own σ env p) (s : Step mk K F (L2.upd H p (.frz od u)) σ env F' H' σ' env') : H' p = some (.frz od u) ∧ Step mk K F H σ env F' (L2.upd H' p u) σ' env' := by
  obtain ⟨h1, h2⟩ := s.re.unlock hF hH n
  refine ⟨h1, h2, ⟨h2.le, s.ok.en.len, s.ok.en.val, fun i d e => ?_, s.ok.en.sep⟩, fun c z => ?_⟩
  · obtain ⟨q, g1, g2, g3⟩ := s.ok.en.own i d e
    have hq : q ≠ p := fun z => by rw [z, s.re.f _ _ hF] at g2; cases g2
    exact ⟨q, g1, g2, g3.mono (.refl _) fun w y => by rw [upd_ne hq]; exact y⟩
  · rcases s.ow c z with g | ⟨g, m⟩
    · exact .inl g
    · have hc : c ≠ p := fun z => by rw [z, upd_same] at g; cases g
      rw [upd_ne hc] at g
      exact .inr ⟨g, m⟩
theorem own_not (o : Ok K F H σ env) (hF : F p = some u) : ¬ Own σ env p := fun ⟨i, d, h1, h2⟩ => by
  obtain ⟨q, g1, g2, _⟩ := o.en.own i d h1
  rw [h2] at g1
  cases g1
  rw [hF] at g2; cases g2
theorem Ok.lock (o : Ok K F H σ env) (hF : F p = some u) (hd : isDic u = true) : Ok K F (upd H p (.frz od u)) σ env := by
  refine ⟨fun c w e => ?_, o.en.len, o.en.val, fun i d e => ?_, o.en.sep⟩
  · by_cases hc : c = p
    · subst hc
      rw [hF] at e
      cases e
      exact .inr ⟨hd, od, upd_same⟩
    · rw [upd_ne hc]; exact o.le c w e
  · obtain ⟨q, g1, g2, g3⟩ := o.en.own i d e
    have hq : q ≠ p := fun z => by rw [z, hF] at g2; cases g2
    exact ⟨q, g1, g2, g3.mono (.refl _) fun w y => by rw [upd_ne hq]; exact y⟩
theorem Post.lock {r : Fl × Env} {D : Ends} (hF : F p = some u) (hH : H p = some u) (n : ¬ Own σ env p) (q : Post mk K F H σ env r D) :
    Post mk K F (upd H p (.frz od u)) σ env r ⟨fun σ' H' => H' p = some (.frz od u) ∧ D.nx σ' (upd H' p u), fun v H' => H' p = some (.frz od u) ∧ D.rt v (upd H' p u), fun σ' H' => H' p = some (.frz od u) ∧ D.bk σ' (upd H' p u), fun σ' H' => H' p = some (.frz od u) ∧ D.ct σ' (upd H' p u)⟩ := by
  obtain ⟨f, e'⟩ := r
  cases f with
  | nx => exact fun F' H' σ' s => let ⟨h1, h2⟩ := s.unlock hF hH n; ⟨h1, q F' _ σ' h2⟩
  | brk => exact fun F' H' σ' s => let ⟨h1, h2⟩ := s.unlock hF hH n; ⟨h1, q F' _ σ' h2⟩
  | rt d => exact fun F' H' v s w => let ⟨h1, h2⟩ := s.unlock hF hH n; ⟨h1, q F' _ v h2 w⟩
/-- wherever the dict at p stands locked -/
def SK (F : Hp) (p : Addr) (u : HO) (od : Obj) : Hp → Hp → Prop := fun F1 H1 => FMono F F1 ∧ FLe F1 H1 ∧ H1 p = some (.frz od u)
theorem repK_get : ∀ {kvs : List (D × D)} {ws : List (Key × V)} {i : Nat} {k : Key} {v : V}, RepK K F kvs ws → ws[i]? = some (k, v) → ∃ d x, kvs[i]? = some (d, x) ∧ KeyI d k
  | [], _, i, _, _, h, e => by cases h; simp at e
  | (d, x) :: r, _, 0, _, _, h, e => by
    obtain ⟨k', v', r', rfl, hk, _, _⟩ := h
    simp at e
    obtain ⟨rfl, rfl⟩ := e
    exact ⟨d, x, rfl, hk⟩
  | (d, x) :: r, _, i + 1, _, _, h, e => by
    obtain ⟨k', v', r', rfl, hk, _, h⟩ := h
    simp at e
    obtain ⟨d', x', e1, e2⟩ := repK_get h e
    exact ⟨d', x', by simpa using e1, e2⟩
theorem repT_get : ∀ {kvs : List (D × D)} {ws : List (List Key × V)} {i : Nat} {k : List Key} {v : V}, RepT K F kvs ws → ws[i]? = some (k, v) → ∃ d x, kvs[i]? = some (d, x) ∧ KeyT d k
  | [], _, i, _, _, h, e => by cases h; simp at e
  | (d, x) :: r, _, 0, _, _, h, e => by
    obtain ⟨k', v', r', rfl, hk, _, _⟩ := h
    simp at e
    obtain ⟨rfl, rfl⟩ := e
    exact ⟨d, x, rfl, hk⟩
  | (d, x) :: r, _, i + 1, _, _, h, e => by
    obtain ⟨k', v', r', rfl, hk, _, h⟩ := h
    simp at e
    obtain ⟨d', x', e1, e2⟩ := repT_get h e
    exact ⟨d', x', by simpa using e1, e2⟩
theorem walk_keysK {kvs : List (D × D)} {ws : List (Key × V)} (r : RepK K F kvs ws) : WalkD K (SK F p (.dK ws) od) (kvs.map (·.1)) (Itk p od ws) where
  go := fun i F1 H1 s hi => ⟨s.2.2, by rw [r.len]; simpa using hi⟩
  stop := fun F1 H1 s => ⟨s.2.2, by rw [r.len]; simp⟩
  yld := fun i F1 H1 x H2 s hi ⟨e, k, v, hw, ex⟩ => by
    subst e ex
    obtain ⟨d, y, h1, j, rfl, rfl⟩ := repK_get r hw
    exact ⟨F1, .int j, .refl _ _, s.2.1, by rw [List.getElem?_map, h1]; rfl, rfl⟩
theorem walk_keysT {kvs : List (D × D)} {ws : List (List Key × V)} (r : RepT K F kvs ws) : WalkD K (SK F p (.dT ws) od) (kvs.map (·.1)) (Itkt p od ws) where
  go := fun i F1 H1 s hi => ⟨s.2.2, by rw [r.len]; simpa using hi⟩
  stop := fun F1 H1 s => ⟨s.2.2, by rw [r.len]; simp⟩
  yld := fun i F1 H1 x H2 s hi ⟨e, k, v, q, hw, ex, hq⟩ => by
    subst e ex
    obtain ⟨d, y, h1, ns, rfl, rfl, hl⟩ := repT_get r hw
    have old : ∀ w, F1 q = some w → w = .tup ((ns.map Sum.inl).map kV) := fun w e => by
      rcases s.2.1 q w e with z | ⟨_, _, z⟩
      · rw [hq] at z; exact (Option.some.inj z).symm
      · rw [hq] at z; cases z
    refine ⟨upd F1 q (.tup ((ns.map Sum.inl).map kV)), .tup (ns.map .int), ⟨fun c w e => ?_, fun _ _ e => e, fun c w e z => ?_⟩, fun c w e => ?_, by rw [List.getElem?_map, h1]; rfl, q, _, rfl, upd_same, ?_, by simpa using hl⟩
    · by_cases hc : c = q
      · subst hc; rw [upd_same, old w e]
      · rw [upd_ne hc]; exact e
    · have hc : c ≠ q := fun y => by rw [y, hq] at e; cases e; cases z
      rw [upd_ne hc]
    · by_cases hc : c = q
      · subst hc
        rw [upd_same] at e
        cases e
        exact .inl hq
      · rw [upd_ne hc] at e; exact s.2.1 c w e
    · rw [List.map_map]
      exact RepL.ofInts ns
end
section
variable {X : Cx} {G GI : Gm} {K : PySem.W.Frag} {F H : Hp} {σ : St} {env : Env} {t : T} {bs : List S} {kl : List Nat} {r : Fl × Env} {En : Ends}
/-- a loop over what J hands out -/
theorem for_any {J : It} {Sx : Hp → Hp → Prop} {xs : List D} (o : Ok K F H σ env) (W : WalkD K Sx xs J) (hS : ∀ F2 H2 σ2 env2, Step (mkSs bs = true) K F H σ env F2 H2 σ2 env2 → Sx F2 H2)
    (hx : forL (fun x e => (bind t x e).bind fun e' => exs G GI e' bs) kl xs env = some r) (p : Post (mkSs bs = true) K F H σ env r En) :
    ∃ Y : Nat → Nat → St → Hp → Prop, (∃ m, Y 0 m σ H) ∧ ∀ i m σ H, Y i m σ H → (J.stop i H ∧ En.nx σ H) ∨ (J.go i H ∧ ∃ N : St → Hp → Prop, (∀ σ' H', N σ' H' → ∃ m', m' < m ∧ Y (i + 1) m' σ' H') ∧
      ∀ x H', J.yld i H x H' → tG K t x σ H' fun σ2 H2 => tSs K G GI bs { En with nx := N, ct := N, bk := En.nx } σ2 H2) := by
  refine ⟨fun i m σ2 H2 => m = xs.length - i ∧ i ≤ xs.length ∧ ∃ F2 env2, Step (mkSs bs = true) K F H σ env F2 H2 σ2 env2 ∧ forL (fun x e => (bind t x e).bind fun e' => exs G GI e' bs) kl (xs.drop i) env2 = some r, ⟨xs.length, by simp, Nat.zero_le _, F, env, .refl o, hx⟩, ?_⟩
  rintro i m σ2 H2 ⟨rfl, hi, F2, env2, s2, h2⟩
  have hs2 := hS F2 H2 σ2 env2 s2
  by_cases hlt : i < xs.length
  · refine .inr ⟨W.go i F2 H2 hs2 hlt, fun σ' H' => ∃ F' env', Step (mkSs bs = true) K F H σ env F' H' σ' env' ∧ forL (fun x e => (bind t x e).bind fun e' => exs G GI e' bs) kl (xs.drop (i + 1)) env' = some r, fun σ' H' n => ⟨xs.length - (i + 1), by omega, rfl, hlt, n⟩, fun x H' y => ?_⟩
    obtain ⟨F3, d, x3, l3, hd, rd⟩ := W.yld i F2 H2 x H' hs2 hlt y
    have s3 : Step (mkSs bs = true) K F H σ env F3 H' σ2 env2 := s2.trans ⟨.of_ext x3 l3, s2.ok.ext x3 l3, fun _ h => .inl h⟩
    have e1 : xs.drop i = d :: xs.drop (i + 1) := by
      rw [List.getElem?_eq_getElem hlt] at hd
      cases hd
      exact List.drop_eq_getElem_cons hlt
    rw [e1] at h2
    obtain ⟨r1, hr1, h2⟩ := Option.bind_eq_some_iff.mp (show ((bind t d env2).bind fun e' => exs G GI e' bs).bind _ = some r from h2)
    obtain ⟨env3, hb3, hr1⟩ := Option.bind_eq_some_iff.mp hr1
    refine ⟨F3, env2, d, env3, s3.ok, rd, hb3, fun σ3 o3 _ sm => ?_⟩
    have s4 : Step (mkSs bs = true) K F H σ env F3 H' σ3 env3 := s3.trans ⟨.refl l3, o3, fun a ⟨j, e, q1, q2⟩ => by
      obtain ⟨q3, n1⟩ := bind_own t d hb3 q1
      rw [sm j n1] at q2
      exact .inl ⟨j, e, q3, q2⟩⟩
    refine ⟨F3, env3, r1, o3, hr1, ?_⟩
    obtain ⟨f, e1⟩ := r1
    cases f with
    | nx => exact fun F' H' σ' s => ⟨F', _, (s4.trans s).trans (.kill s.ok kl), h2⟩
    | brk => cases h2; exact fun F' H' σ' s => p F' H' σ' ((s4.trans s).trans (.kill s.ok kl))
    | rt d => cases h2; exact fun F' H' v q w => p F' H' v (s4.reach q) w
  · have e : i = xs.length := by omega
    subst e
    rw [List.drop_of_length_le (Nat.le_refl _)] at h2
    cases h2
    exact .inl ⟨W.stop F2 H2 hs2, p F2 H2 σ2 (s2.trans (.kill s2.ok kl))⟩
theorem forK_core {i : Nat} {a : Addr} {u : HO} {od : Obj} {kvs : List (D × D)} (o : Ok K F H σ env) (hF : F a = some u) (hL : H a = some (.frz od u)) (hi : σ[i]? = some (some (.ref a)))
    (hk : (∃ ws, u = .dK ws ∧ RepK K F kvs ws) ∨ ∃ ws, u = .dT ws ∧ RepT K F kvs ws) (hx : forL (fun x e => (bind t x e).bind fun e' => exs G GI e' bs) kl (kvs.map (·.1)) env = some r) (p : Post (mkSs bs = true) K F H σ env r En) :
    tFor (iKeys (L2.tVar i)) (tG K t) (tSs K G GI bs) En σ H := by
  have hS : ∀ F2 H2 σ2 env2, Step (mkSs bs = true) K F H σ env F2 H2 σ2 env2 → SK F a u od F2 H2 := fun F2 H2 σ2 env2 s => ⟨s.re.f, s.re.le, s.re.h a _ hL (own_not o hF)⟩
  refine ⟨.ref a, hi, a, od, rfl, ?_⟩
  rcases hk with ⟨ws, rfl, rr⟩ | ⟨ws, rfl, rr⟩
  · exact .inl ⟨ws, hL, for_any o (walk_keysK rr) hS hx p⟩
  · exact .inr ⟨ws, hL, for_any o (walk_keysT rr) hS hx p⟩
theorem ks_forK {i : Nat} {y : Str} {pp pos : Pos} {tg : Expr} {mbs : List Stmt} (hp : PassesOwn (model X.prog X.w) X.A X.env X.xe) (g : GoodX X) (hv : PE X (.Name y pp) (L2.tVar i)) (hg : PG X tg (tG X.K t)) (hb : PSs X mbs (tSs X.K G GI bs))
    (hs : ∀ x, foldedSetIterable (.Name y pp) X.env x = pure x := by intro _; rfl) : PS X (.For tg (.Name y pp) mbs [] pos) (tS X.K G GI (.for_ t .keys [.var i] bs kl)) :=
  ((ps_for hp g.calm (pi_keys hv) hg hb hs).or (ps_lock (ps_for hp g.calm (pi_keys hv) hg hb hs))).imp fun D σ H ⟨F, env, r, o, hx, p⟩ => by
    obtain ⟨vs, hvs, hx⟩ := Option.bind_eq_some_iff.mp (show (evL G env [.var i]).bind _ = some r from hx)
    obtain ⟨xs, hw, hx⟩ := Option.bind_eq_some_iff.mp hx
    obtain ⟨d, hd, hvs⟩ := Option.bind_eq_some_iff.mp (show (env.val i).bind _ = some vs from hvs)
    cases hvs
    have key : ∃ t kvs, d = .dic t kvs := by cases d <;> first | exact ⟨_, _, rfl⟩ | cases hw
    obtain ⟨tk, kvs, rfl⟩ := key
    have hw : some (kvs.map (·.1)) = some xs := hw
    cases hw
    obtain ⟨v, hi, rv⟩ := o.en.val i _ (val_some hd)
    have key : ∃ (a : Addr) (u : HO), v = .ref a ∧ F a = some u ∧ isDic u = true ∧ Mut (some u) ∧ ((∃ ws, u = .dK ws ∧ RepK X.K F kvs ws) ∨ ∃ ws, u = .dT ws ∧ RepT X.K F kvs ws) := by
      cases tk with
      | false => obtain ⟨a, ws, rfl, e, rr⟩ := rv; exact ⟨a, _, rfl, e, rfl, True.intro, .inl ⟨ws, rfl, rr⟩⟩
      | true => obtain ⟨a, ws, rfl, e, rr⟩ := rv; exact ⟨a, _, rfl, e, rfl, True.intro, .inr ⟨ws, rfl, rr⟩⟩
    obtain ⟨a, u, rfl, hF, hdic, mu, hk⟩ := key
    rcases o.le a u hF with hH | ⟨_, od, hL⟩
    · exact .inr ⟨a, u, hH, mu, fun od => forK_core (o.lock hF hdic) hF upd_same hi hk hx (p.lock hF hH (own_not o hF))⟩
    · exact .inl (forK_core o hF hL hi hk hx p)
end
end Rx
end

section
set_option Elab.async false
set_option linter.all false
set_option maxRecDepth 100000
set_option autoImplicit false
/-! RxRun: how runs are computed by lemma. -/
namespace Rx
/-! ### loops -/
theorem forL_fold {σ : Type} {step : D → Env → Option (Fl × Env)} {kl : List Nat} (mk : σ → Env) (g : σ → D → σ) (P : σ → Prop) :
    ∀ {xs : List D} {s : σ}, P s → (∀ s, P s → (mk s).kill kl = mk s) → (∀ s x, x ∈ xs → P s → P (g s x) ∧ ∃ e', step x (mk s) = some (.nx, e') ∧ e'.kill kl = mk (g s x)) → forL step kl xs (mk s) = some (.nx, mk (xs.foldl g s)) ∧ P (xs.foldl g s)
  | [], s, p, hk, _ => ⟨by rw [forL, hk s p]; rfl, p⟩
  | x :: xs, s, p, hk, h => by
    obtain ⟨p2, e', h1, h2⟩ := h s x (List.mem_cons_self ..) p
    have ih := forL_fold mk g P (xs := xs) (s := g s x) p2 hk fun s y hy => h s y (List.mem_cons_of_mem _ hy)
    refine ⟨?_, ih.2⟩
    rw [forL, h1]
    show forL step kl xs (e'.kill kl) = _
    rw [h2]; exact ih.1
/-- by turns -/
theorem forL_turns {step : D → Env → Option (Fl × Env)} {kl : List Nat} (I : Nat → Env → Prop) :
    ∀ {xs : List D} {env : Env} (j : Nat), I j env → (∀ (i : Nat) x e, xs[i]? = some x → I (j + i) e → ∃ e', step x e = some (.nx, e') ∧ I (j + i + 1) (e'.kill kl)) → (∀ e, I (j + xs.length) e → I (j + xs.length) (e.kill kl)) →
      ∃ e', forL step kl xs env = some (.nx, e') ∧ I (j + xs.length) e'
  | [], env, j, h0, _, hk => ⟨_, rfl, hk _ h0⟩
  | x :: xs, env, j, h0, h, hk => by
    obtain ⟨e', h1, h2⟩ := h 0 x env rfl h0
    obtain ⟨e2, h3, h4⟩ := forL_turns I (xs := xs) (env := e'.kill kl) (j + 1) h2 (fun i y e hy hi => by
      have := h (i + 1) y e (by simpa using hy) (by rw [show j + (i + 1) = j + 1 + i by omega]; exact hi)
      rw [show j + (i + 1) + 1 = j + 1 + i + 1 by omega] at this
      exact this) (fun e he => by
        have := hk e (by rw [List.length_cons, show j + (xs.length + 1) = j + 1 + xs.length by omega]; exact he)
        rw [List.length_cons, show j + (xs.length + 1) = j + 1 + xs.length by omega] at this
        exact this)
    refine ⟨e2, ?_, by rw [List.length_cons, show j + (xs.length + 1) = j + 1 + xs.length by omega]; exact h4⟩
    rw [forL, h1]
    exact h3
theorem compL_fm {f : D → Option (Option D)} (g : D → Option D) : ∀ {xs : List D}, (∀ x ∈ xs, f x = some (g x)) → compL f xs = some (xs.filterMap g)
  | [], _ => rfl
  | x :: xs, h => by
    rw [compL, h x (List.mem_cons_self ..), Option.bind_some, compL_fm g fun y hy => h y (List.mem_cons_of_mem _ hy)]
    rw [List.filterMap_cons]
    cases g x <;> rfl
theorem compL_map {f : D → Option (Option D)} (g : D → D) {xs : List D} (h : ∀ x ∈ xs, f x = some (some (g x))) : compL f xs = some (xs.map g) := by
  rw [compL_fm (fun x => some (g x)) h, List.filterMap_eq_map']
theorem compLL_flat {f : D → Option (List D)} (g : D → List D) : ∀ {xs : List D}, (∀ x ∈ xs, f x = some (g x)) → compLL f xs = some (xs.flatMap g)
  | [], _ => rfl
  | x :: xs, h => by
    rw [compLL, h x (List.mem_cons_self ..), Option.bind_some, compLL_flat g fun y hy => h y (List.mem_cons_of_mem _ hy)]
    rfl
theorem fits_of {xs : List D} (h : xs.length ≤ line) : fits xs = some (.lst xs) := if_pos h
theorem rgD_map {α : Type} (f : D → α) (n : Nat) : (rgD 0 n).map f = (List.range n).map fun (k : Nat) => f (.int k) := by
  rw [rgD, List.map_map]
  refine List.map_congr_left fun k _ => ?_
  simp
theorem mem_rgD {x : D} {n : Nat} (h : x ∈ rgD 0 n) : ∃ k : Nat, k < n ∧ x = .int k := by
  obtain ⟨k, hk, rfl⟩ := List.mem_map.mp h
  exact ⟨k, List.mem_range.mp hk, by simp⟩
theorem ixN_nat {n i : Nat} (h : i < n) : ixN n (i : Int) = some i := by
  unfold ixN
  rw [if_pos (Int.natCast_nonneg i), if_pos (by omega)]; simp
theorem atI_nat {xs : List D} {i : Nat} {d : D} (h : xs[i]? = some d) : atI xs (i : Int) = some d := by
  unfold atI
  rw [ixN_nat (List.getElem?_eq_some_iff.mp h).1]
  exact h
theorem atI_map {α : Type} {f : α → D} {xs : List α} {i : Nat} (h : i < xs.length) : atI (xs.map f) (i : Int) = some (f xs[i]) := atI_nat (by rw [List.getElem?_map, List.getElem?_eq_getElem h]; rfl)

/-! ### steps -/
section
variable {G GI : Nat → List D → Option D} {env : Env} {i j : Int} {a b : E} {x y d : D}
@[simp] theorem opB_add : opB .add (.int i) (.int j) = some (.int (i + j)) := rfl
@[simp] theorem opB_sub : opB .sub (.int i) (.int j) = some (.int (i - j)) := rfl
theorem mulOk_r (h : j.natAbs < 18446744073709551616) : mulOk i j = true := by simp [mulOk, h]
theorem mulOk_l (h : i.natAbs < 18446744073709551616) : mulOk i j = true := by simp [mulOk, h]
@[simp] theorem opB_mulr (h : j.natAbs < 18446744073709551616) : opB .mul (.int i) (.int j) = some (.int (i * j)) := by simp [opB, mulOk_r h]
theorem opB_mull (h : i.natAbs < 18446744073709551616) : opB .mul (.int i) (.int j) = some (.int (i * j)) := by simp [opB, mulOk_l h]
@[simp] theorem opB_mod (h : 0 < j) : opB .mod (.int i) (.int j) = some (.int (i % j)) := by
  have : j ≠ 0 := by omega
  simp [opB, this, Int.fmod_eq_emod_of_nonneg _ (show 0 ≤ j by omega)]
theorem divOk_s (h0 : 0 < j) (h : j < 1073741824) : divOk j = true := by
  have h1 : j ≠ 0 := by omega
  have h2 : j.natAbs < 2 ^ 30 := by omega
  simp only [divOk, h1, h2, decide_true, ne_eq, not_false_eq_true, Bool.and_self, Bool.true_or]
@[simp] theorem opB_fdiv (h0 : 0 < j) (h : j < 1073741824) : opB .fdiv (.int i) (.int j) = some (.int (i / j)) := by
  simp only [opB, divOk_s h0 h, if_true, Int.fdiv_eq_ediv_of_nonneg _ (show 0 ≤ j by omega)]
@[simp] theorem opC_gt : opC .gt (.int i) (.int j) = some (decide (j < i)) := rfl
@[simp] theorem opC_ge : opC .ge (.int i) (.int j) = some (decide (j ≤ i)) := rfl
@[simp] theorem opC_le : opC .le (.int i) (.int j) = some (decide (i ≤ j)) := rfl
@[simp] theorem opC_lt : opC .lt (.int i) (.int j) = some (decide (i < j)) := rfl
@[simp] theorem opC_eq : opC .eq (.int i) (.int j) = some (decide (i = j)) := rfl
@[simp] theorem opC_ne : opC .ne (.int i) (.int j) = some (!decide (i = j)) := rfl
@[simp] theorem opC_is : opC .is x .non = some (D.isNon x) := rfl
@[simp] theorem opC_isnt : opC .isnt x .non = some (!D.isNon x) := rfl
@[simp] theorem opU_int : opU .int (.int i) = some (.int i) := rfl
@[simp] theorem opU_intb {c : Bool} : opU .int (.bl c) = some (.int (if c then 1 else 0)) := rfl
@[simp] theorem opU_lenL {xs : List D} : opU .len (.lst xs) = some (.int xs.length) := rfl
@[simp] theorem opU_lenT {xs : List D} : opU .len (.tup xs) = some (.int xs.length) := rfl
@[simp] theorem opU_lenS {xs : List Int} : opU .len (.scr xs) = some (.int xs.length) := rfl
@[simp] theorem opU_tupL {xs : List D} : opU .tuple (.lst xs) = some (.tup xs) := rfl
@[simp] theorem opU_listT {xs : List D} : opU .list (.tup xs) = some (.lst xs) := rfl
@[simp] theorem opU_listL {xs : List D} : opU .list (.lst xs) = some (.lst xs) := rfl
@[simp] theorem opU2_max : opU2 .max (.int i) (.int j) = some (.int (max i j)) := by
  show some (D.int (if j > i then j else i)) = _
  congr 2
  by_cases h : j > i
  · rw [if_pos h]; omega
  · rw [if_neg h]; omega
@[simp] theorem opU2_min : opU2 .min (.int i) (.int j) = some (.int (min i j)) := by
  show some (D.int (if j < i then j else i)) = _
  congr 2
  by_cases h : j < i
  · rw [if_pos h]; omega
  · rw [if_neg h]; omega
@[simp] theorem opSub_tup {xs : List D} : opSub (.tup xs) (.int i) = atI xs i := rfl
@[simp] theorem opSub_lst {xs : List D} : opSub (.lst xs) (.int i) = atI xs i := rfl
@[simp] theorem opSub_scr {xs : List Int} : opSub (.scr xs) (.int i) = atI (xs.map .int) i := rfl
/-! expressions -/
theorem ev_bin {o : BO} : ev G env (.bin o a b) = (bo env a (ev G env a)).bind fun x => (bo env b (ev G env b)).bind fun y => opB o x y := rfl
@[simp] theorem truth_int : D.truth (.int i) = some (i != 0) := rfl
@[simp] theorem truth_bl {c : Bool} : D.truth (.bl c) = some c := rfl
@[simp] theorem truth_non : D.truth .non = some false := rfl
@[simp] theorem truth_lst {xs : List D} : D.truth (.lst xs) = some !xs.isEmpty := rfl
@[simp] theorem truth_tup {xs : List D} : D.truth (.tup xs) = some !xs.isEmpty := rfl
theorem ev_b1 {f : B1} {z : D} (h : bo env a (ev G env a) = some x) (hu : opU f x = some z) : ev G env (.b1 f a) = some z := by
  show (bo env a (ev G env a)).bind _ = _
  rw [h]; exact hu
theorem ev_b1c {f : B1} {z : D} {e : E} {t : T} {k : IK} {es : List E} {fs : List C} {own : List Nat} (h : ev G env (.comp e t k es fs own) = some x) (hu : opU f x = some z) : ev G env (.b1 f (.comp e t k es fs own)) = some z := ev_b1 h hu
theorem ts_val {c : Bool} (h : bo env a (ev G env a) = some x) (ht : D.truth x = some c) : ts G env (.val a) = some c := by
  show (bo env a (ev G env a)).bind D.truth = _
  rw [h]; exact ht
theorem ts_not {p : C} {c c' : Bool} (h : ts G env p = some c) (hc : c' = !c) : ts G env (.not p) = some c' := by
  show (ts G env p).map not = _
  rw [h, hc]; rfl
theorem ts_orF {p q : C} {c : Bool} (h : ts G env p = some false) (h2 : ts G env q = some c) : ts G env (.or p q) = some c := by
  show (ts G env p).bind _ = _
  rw [h]; exact h2
theorem ts_orT {p q : C} (h : ts G env p = some true) : ts G env (.or p q) = some true := by
  show (ts G env p).bind _ = _
  rw [h]; rfl
theorem ts_andT {p q : C} {c : Bool} (h : ts G env p = some true) (h2 : ts G env q = some c) : ts G env (.and p q) = some c := by
  show (ts G env p).bind _ = _
  rw [h]; exact h2
theorem ts_andF {p q : C} (h : ts G env p = some false) : ts G env (.and p q) = some false := by
  show (ts G env p).bind _ = _
  rw [h]; rfl
theorem ev_call {f : Nat} {es : List E} {ds : List D} (h : evL G env es = some ds) (hg : G f ds = some d) : ev G env (.call f es) = some d := by
  show (evL G env es).bind _ = _
  rw [h]; exact hg
theorem ev_andT {c : Bool} (h : ev G env a = some (.bl true)) (h2 : ev G env b = some (.bl c)) : ev G env (.and a b) = some (.bl c) := by
  show (ev G env a).bind _ = _
  rw [h]; exact h2
/-! statements -/
variable {ss : List S} {s : S} {n : Nat}
theorem exs_cons : exs G GI env (s :: ss) = seqS (ex G GI env s) fun e => exs G GI e ss := rfl
theorem exs_asg {e : E} (h : ev G env e = some d) : exs G GI env (.asg n e :: ss) = exs G GI (env.set n (.val d)) ss := by simp [exs, ex, h, seqS]
theorem exs_asgO {e : E} (h : ev G env e = some d) (hn : isNew e = true) : exs G GI env (.asgO n e :: ss) = exs G GI (env.set n (.own d)) ss := by simp [exs, ex, h, seqS, hn]
theorem exs_asgT {t : T} {e : E} {env' : Env} (h : ev G env e = some d) (hb : bind t d env = some env') : exs G GI env (.asgT t e :: ss) = exs G GI env' ss := by simp [exs, ex, h, seqS, hb]
theorem exs_asgP {is : List (Nat × Bool)} {es : List E} {ds : List D} {env' : Env} (h : evL G env es = some ds) (hb : stores is ds env = some env') : exs G GI env (.asgP is es :: ss) = exs G GI env' ss := by simp [exs, ex, h, seqS, hb]
theorem exs_app {e : E} {xs : List D} (ho : env.ow n = some (.lst xs)) (h : ev G env e = some d) (hl : xs.length < line) : exs G GI env (.app n e :: ss) = exs G GI (env.set n (.own (.lst (xs ++ [d])))) ss := by simp [exs, ex, h, ho, seqS, if_pos hl]
theorem exs_sset {e k : E} {v kd : D} (h : ev G env e = some v) (ho : env.ow n = some x) (hk : ev G env k = some kd) (hp : putAt x kd v = some d) : exs G GI env (.sset n k e :: ss) = exs G GI (env.set n (.own d)) ss := by simp [exs, ex, h, ho, hk, hp, seqS]
theorem exs_aug {o : BO} {e : E} (hx : env.val n = some x) (h : ev G env e = some y) (ha : opA o x y = some d) : exs G GI env (.aug n o e :: ss) = exs G GI (env.set n (.val d)) ss := by simp [exs, ex, h, hx, ha, seqS]
theorem exs_nil : exs G GI env [] = some (.nx, env) := rfl
theorem exs_frz (h : env.bor n = some d) : exs G GI env (.frz n :: ss) = exs G GI (env.set n (.val d)) ss := by simp [exs, ex, h, seqS]
theorem exs_kill {is : List Nat} : exs G GI env (.kill is :: ss) = exs G GI (env.kill is) ss := by simp [exs, ex, seqS]
theorem exs_move {m : Nat} (h : env.ow m = some d) : exs G GI env (.move n m :: ss) = exs G GI ((env.set m .unk).set n (.own d)) ss := by simp [exs, ex, h, seqS]
theorem exs_ret {e : E} (h : ev G env e = some d) : exs G GI env (.ret e :: ss) = some (.rt d, env) := by simp [exs, ex, h, seqS]
theorem exs_if {c : C} {as bs : List S} {r : Bool} (h : ts G env c = some r) : exs G GI env (.ifs c as bs :: ss) = seqS (if r then exs G GI env as else exs G GI env bs) fun e => exs G GI e ss := by simp [exs, ex, h, seqS]
theorem exs_ifT {c : C} {as bs : List S} {env' : Env} (h : ts G env c = some true) (ha : exs G GI env as = some (.nx, env')) : exs G GI env (.ifs c as bs :: ss) = exs G GI env' ss := by simp [exs, ex, h, seqS, ha]
theorem exs_ifF {c : C} {as bs : List S} {env' : Env} (h : ts G env c = some false) (ha : exs G GI env bs = some (.nx, env')) : exs G GI env (.ifs c as bs :: ss) = exs G GI env' ss := by simp [exs, ex, h, seqS, ha]
theorem exs_ifR {c : C} {as bs : List S} {env' : Env} (h : ts G env c = some true) (ha : exs G GI env as = some (.rt d, env')) : exs G GI env (.ifs c as bs :: ss) = some (.rt d, env') := by simp [exs, ex, h, seqS, ha]
/-- a test that leaves when it is not kept -/
theorem exs_skip {c : C} {as : List S} (h : ts G env c = some false) : exs G GI env (.ifs c as [] :: ss) = exs G GI env ss := exs_ifF h rfl
theorem exs_for {t : T} {k : IK} {es : List E} {bs : List S} {kl : List Nat} {vs xs : List D} {env' : Env} (h : evL G env es = some vs) (hw : walk k vs = some xs) (hf : forL (fun x e => (bind t x e).bind fun e' => exs G GI e' bs) kl xs env = some (.nx, env')) :
    exs G GI env (.for_ t k es bs kl :: ss) = exs G GI env' ss := by simp [exs, ex, h, hw, hf, seqS]
theorem exs_whl {c : C} {bs : List S} {kl : List Nat} {env' : Env} (h : whlL (fun e => ts G e c) (fun e => exs G GI e bs) kl 1000000 env = some (.nx, env')) : exs G GI env (.whl c bs kl :: ss) = exs G GI env' ss := by simp [exs, ex, h, seqS]
end
theorem run_of {defs : Nat → Option Fn} {c f : Nat} {ds : List D} {fn : Fn} {d : D} (hd : defs f = some fn) (hio : fn.io = false) (hl : ds.length = fn.ps) (h : retD (exs (run defs c) (runI defs c) (ds.map Cell.val ++ List.replicate (fn.ns - fn.ps) .unk) fn.body) = some d) : run defs (c + 1) f ds = some d := by
  show ((defs f).bind fun fn => if fn.io = false ∧ ds.length = fn.ps then retD (exs (run defs c) (runI defs c) (fn.start ds) fn.body) else none) = some d
  rw [hd]
  show (if fn.io = false ∧ ds.length = fn.ps then retD (exs (run defs c) (runI defs c) (fn.start ds) fn.body) else none) = some d
  rw [if_pos ⟨hio, hl⟩, ← h]
  unfold Fn.start
  rw [hio]
section
variable {G : Nat → List D → Option D} {env : Env} {a b c : E} {p q : C}
@[simp] theorem se_var {i : Nat} : ev G env (.var i) = env.val i := by rw [ev]
@[simp] theorem se_int {n : Int} : ev G env (.int n) = some (.int n) := by rw [ev]
@[simp] theorem se_bl {n : Bool} : ev G env (.bl n) = some (.bl n) := by rw [ev]
@[simp] theorem se_non : ev G env .non = some .non := by rw [ev]
@[simp] theorem se_bin {o : BO} : ev G env (.bin o a b) = (bo env a (ev G env a)).bind fun x => (bo env b (ev G env b)).bind fun y => opB o x y := by rw [ev]
def negF : D → Option D | .int i => some (.int (-i)) | _ => none
def andF (r : Option D) : D → Option D | .bl c => if c then r else some (.bl false) | _ => none
def orF (r : Option D) : D → Option D | .bl c => if c then some (.bl true) else r | _ => none
@[simp] theorem negF_int {i : Int} : negF (.int i) = some (.int (-i)) := by rw [negF]
@[simp] theorem andF_bl {r : Option D} {c : Bool} : andF r (.bl c) = if c then r else some (.bl false) := by rw [andF]
@[simp] theorem orF_bl {r : Option D} {c : Bool} : orF r (.bl c) = if c then some (.bl true) else r := by rw [orF]
@[simp] theorem se_neg : ev G env (.neg a) = (ev G env a).bind negF := by rw [ev]; congr 1
@[simp] theorem se_not : ev G env (.not a) = (bo env a (ev G env a)).bind fun x => (D.truth x).map fun c => .bl (!c) := by rw [ev]
@[simp] theorem se_and : ev G env (.and a b) = (ev G env a).bind (andF (ev G env b)) := by rw [ev]; congr 1
@[simp] theorem se_or : ev G env (.or a b) = (ev G env a).bind (orF (ev G env b)) := by rw [ev]; congr 1
@[simp] theorem se_cmp {o : CO} : ev G env (.cmp o a b) = (bo env a (ev G env a)).bind fun x => (bo env b (ev G env b)).bind fun y => (opC o x y).map .bl := by rw [ev]
@[simp] theorem se_chn {o o' : CO} : ev G env (.chn o o' a b c) = (ev G env a).bind fun x => (ev G env b).bind fun y => (opC o x y).bind fun r => if r then (ev G env c).bind fun z => (opC o' y z).map .bl else some (.bl false) := by rw [ev]
@[simp] theorem se_ife : ev G env (.ife p a b) = (ts G env p).bind fun r => if r then ev G env a else ev G env b := by rw [ev]
@[simp] theorem se_sub : ev G env (.sub a b) = (bo env a (ev G env a)).bind fun x => (ev G env b).bind fun y => opSub x y := by rw [ev]
@[simp] theorem se_slo : ev G env (.slo a b) = (bo env a (ev G env a)).bind fun x => (ev G env b).bind fun y => opLo x y := by rw [ev]
@[simp] theorem se_shi : ev G env (.shi a b) = (bo env a (ev G env a)).bind fun x => (ev G env b).bind fun y => opHi x y := by rw [ev]
@[simp] theorem se_b1 {f : B1} : ev G env (.b1 f a) = (bo env a (ev G env a)).bind fun x => opU f x := by rw [ev]
@[simp] theorem se_b2 {f : B2} : ev G env (.b2 f a b) = (bo env a (ev G env a)).bind fun x => (ev G env b).bind fun y => opU2 f x y := by rw [ev]
theorem se_call {f : Nat} {es : List E} : ev G env (.call f es) = (evL G env es).bind fun xs => G f xs := by rw [ev]
@[simp] theorem se_nil : evL G env [] = some [] := by rw [evL]
@[simp] theorem se_cons {es : List E} : evL G env (a :: es) = (ev G env a).bind fun x => (evL G env es).map (x :: ·) := by rw [evL]
@[simp] theorem sb_nil : evB G env [] = some [] := by rw [evB]
@[simp] theorem sb_cons {es : List E} : evB G env (a :: es) = (bo env a (ev G env a)).bind fun x => (evB G env es).map (x :: ·) := by rw [evB]
@[simp] theorem st_not : ts G env (.not p) = (ts G env p).map not := by rw [ts]
@[simp] theorem st_and : ts G env (.and p q) = (ts G env p).bind fun c => if c then ts G env q else some false := by rw [ts]
@[simp] theorem st_or : ts G env (.or p q) = (ts G env p).bind fun c => if c then some true else ts G env q := by rw [ts]
@[simp] theorem st_val : ts G env (.val a) = (bo env a (ev G env a)).bind D.truth := by rw [ts]
@[simp] theorem sl_nil : tsL G env [] = some true := by rw [tsL]
@[simp] theorem sl_cons {ps : List C} : tsL G env (p :: ps) = (ts G env p).bind fun c => if c then tsL G env ps else some false := by rw [tsL]
theorem ev_lst {es : List E} {xs : List D} (h : evL G env es = some xs) (hl : xs.length ≤ line) : ev G env (.lst es) = some (.lst xs) := by
  show (evL G env es).bind fits = _
  rw [h]; exact fits_of hl
theorem ev_tup {es : List E} {xs : List D} (h : evL G env es = some xs) (hl : xs.length ≤ line) : ev G env (.tup es) = some (.tup xs) := by
  show (evL G env es).bind _ = _
  rw [h]; exact if_pos hl
theorem line_pos {n : Nat} (h : n ≤ 16777216) : n ≤ line := h
theorem ev_bin_of {o : BO} {x y z : D} (ha : bo env a (ev G env a) = some x) (hb : bo env b (ev G env b) = some y) (h : opB o x y = some z) : ev G env (.bin o a b) = some z := by
  show (bo env a (ev G env a)).bind _ = _
  rw [ha]
  show (bo env b (ev G env b)).bind _ = _
  rw [hb]; exact h
theorem ev_lst0 : ev G env (.lst []) = some (.lst []) := ev_lst se_nil (line_pos (Nat.zero_le _))
theorem ev_lst1 {x : D} (h : ev G env a = some x) : ev G env (.lst [a]) = some (.lst [x]) := ev_lst (by simp [h]) (line_pos (by simp))
@[simp] theorem bo_var {i : Nat} {r : Option D} : bo env (.var i) r = env.bor i := by rw [bo]
theorem bo_oth {r : Option D} (h : ∀ i, a ≠ .var i) : bo env a r = r := by cases a <;> first | rfl | exact absurd rfl (h _)
@[simp] theorem bo_int {n : Int} {r : Option D} : bo env (.int n) r = r := bo_oth (by simp)
@[simp] theorem bo_bl {n : Bool} {r : Option D} : bo env (.bl n) r = r := bo_oth (by simp)
@[simp] theorem bo_non {r : Option D} : bo env .non r = r := bo_oth (by simp)
@[simp] theorem bo_bin {o : BO} {r : Option D} : bo env (.bin o a b) r = r := bo_oth (by simp)
@[simp] theorem bo_neg {r : Option D} : bo env (.neg a) r = r := bo_oth (by simp)
@[simp] theorem bo_not {r : Option D} : bo env (.not a) r = r := bo_oth (by simp)
@[simp] theorem bo_and {r : Option D} : bo env (.and a b) r = r := bo_oth (by simp)
@[simp] theorem bo_or {r : Option D} : bo env (.or a b) r = r := bo_oth (by simp)
@[simp] theorem bo_cmp {o : CO} {r : Option D} : bo env (.cmp o a b) r = r := bo_oth (by simp)
@[simp] theorem bo_chn {o o' : CO} {r : Option D} : bo env (.chn o o' a b c) r = r := bo_oth (by simp)
@[simp] theorem bo_ife {r : Option D} : bo env (.ife p a b) r = r := bo_oth (by simp)
@[simp] theorem bo_sub {r : Option D} : bo env (.sub a b) r = r := bo_oth (by simp)
@[simp] theorem bo_slo {r : Option D} : bo env (.slo a b) r = r := bo_oth (by simp)
@[simp] theorem bo_shi {r : Option D} : bo env (.shi a b) r = r := bo_oth (by simp)
@[simp] theorem bo_b1 {f : B1} {r : Option D} : bo env (.b1 f a) r = r := bo_oth (by simp)
@[simp] theorem bo_b2 {f : B2} {r : Option D} : bo env (.b2 f a b) r = r := bo_oth (by simp)
@[simp] theorem bo_call {f : Nat} {es : List E} {r : Option D} : bo env (.call f es) r = r := bo_oth (by simp)
@[simp] theorem bo_lst {es : List E} {r : Option D} : bo env (.lst es) r = r := bo_oth (by simp)
@[simp] theorem bo_tup {es : List E} {r : Option D} : bo env (.tup es) r = r := bo_oth (by simp)
@[simp] theorem bo_comp {e : E} {t : T} {k : IK} {es : List E} {fs : List C} {own : List Nat} {r : Option D} : bo env (.comp e t k es fs own) r = r := bo_oth (by simp)
end
section
variable {env env' : Env} {i : Nat} {is : List Nat} {d : D} {ds xs : List D} {t : T} {ts : List T} {n : Int} {c : Bool}
@[simp] theorem x_val : Env.val env i = (match env[i]? with | some (.val d) => some d | _ => none) := rfl
@[simp] theorem x_bor : Env.bor env i = (match env[i]? with | some (.val d) => some d | some (.own d) => some d | _ => none) := rfl
@[simp] theorem x_ow : Env.ow env i = (match env[i]? with | some (.own d) => some d | _ => none) := rfl
@[simp] theorem x_kill0 : Env.kill env [] = env := by rw [Env.kill]
@[simp] theorem x_kill1 : Env.kill env (i :: is) = Env.kill (env.set i .unk) is := by rw [Env.kill]
@[simp] theorem x_bindN : bind (.name i) d env = some (env.set i (.val d)) := by rw [bind]
@[simp] theorem x_bindT : bind (.tup ts) (.tup ds) env = bindL ts ds env := by rw [bind]
@[simp] theorem x_bindL : bind (.tup ts) (.lst ds) env = bindL ts ds env := by rw [bind]
@[simp] theorem x_bindL0 : bindL [] [] env = some env := by rw [bindL]
@[simp] theorem x_bindL1 : bindL (t :: ts) (d :: ds) env = (bind t d env).bind fun e => bindL ts ds e := by rw [bindL]
@[simp] theorem x_stores0 : stores [] [] env = some env := by rw [stores]
@[simp] theorem x_stores1 {o : Bool} {js : List (Nat × Bool)} : stores ((i, o) :: js) (d :: ds) env = stores js ds (env.set i (if o then .own d else .val d)) := by rw [stores]
@[simp] theorem x_non : D.isNon .non = true := rfl
@[simp] theorem x_nonI : D.isNon (.int n) = false := rfl
@[simp] theorem x_nonB : D.isNon (.bl c) = false := rfl
@[simp] theorem x_nonT : D.isNon (.tup xs) = false := rfl
@[simp] theorem x_nonL : D.isNon (.lst xs) = false := rfl
@[simp] theorem x_keyI : isKey false (.int n) = true := rfl
end

/-! ### common defs -/
/-- 2: 0 first 1 second -/
def f_divisor : Fn := ⟨2, 2, false, [
  .whl (.val (.cmp .gt (.var 1) (.int 0))) [.asgP [(0, false), (1, false)] [(.var 1), (.bin .mod (.var 0) (.var 1))]] [],
  .ret (.var 0)]⟩
/-- 7: 0 script 1 k 2 cell 3 first 4 second 5 third -/
def f_law_mixed : Fn := ⟨2, 6, false, [
  .asg 2 (.int 0),
  .ifs (.val (.cmp .gt (.b1 .len (.var 0)) (.int 0))) [.asg 2 (.sub (.var 0) (.bin .mod (.var 1) (.b1 .len (.var 0))))] [],
  .asg 3 (.bin .mod (.b1 .int (.bin .add (.bin .add (.bin .mul (.var 2) (.int 48271)) (.bin .mul (.var 1) (.int 69621))) (.int 8191))) (.int 2147483647)),
  .asg 4 (.bin .mod (.b1 .int (.bin .add (.bin .add (.bin .mul (.var 3) (.var 3)) (.bin .fdiv (.var 3) (.int 7))) (.bin .mul (.var 1) (.int 16807)))) (.int 2147483629)),
  .asg 5 (.bin .mod (.b1 .int (.bin .add (.bin .add (.bin .mul (.var 4) (.var 4)) (.bin .fdiv (.var 4) (.int 11))) (.int 40692))) (.int 2147483563)),
  .ret (.bin .mod (.bin .fdiv (.var 5) (.int 5)) (.int 1000003))]⟩
/-- 8: 0 script 1 many 2 big 3 row 4 k -/
def f_law_row : Fn := ⟨2, 5, false, [
  .asg 2 (.int 0),
  .ifs (.and (.val (.cmp .gt (.b1 .len (.var 0)) (.int 0))) (.val (.cmp .ge (.sub (.var 0) (.int 0)) (.bin .pow (.int 10) (.int 18))))) [.asg 2 (.sub (.var 0) (.int 0))] [],
  .asgO 3 (.lst []),
  .for_ (.name 4) .r1 [(.var 1)] [.ifs (.val (.cmp .gt (.var 2) (.int 0))) [.app 3 (.bin .mod (.b1 .int (.var 2)) (.int 1000)), .asg 2 (.bin .fdiv (.var 2) (.int 1000))] [.app 3 (.call 7 [(.var 0), (.var 4)])]] [4],
  .frz 3,
  .ret (.var 3)]⟩
/-- 9: 0 value -/
def f_law_is_int : Fn := ⟨1, 1, false, [
  .ret (.and (.b1 .isInt (.var 0)) (.not (.b1 .isBool (.var 0))))]⟩
/-- 10: 0 value 1 due 2 k -/
def f_law_like : Fn := ⟨2, 3, false, [
  .ifs (.val (.cmp .is (.var 1) .non)) [.ret (.cmp .is (.var 0) .non)] [],
  .ifs (.val (.b1 .isBool (.var 1))) [.ret (.and (.b1 .isBool (.var 0)) (.cmp .eq (.var 0) (.var 1)))] [],
  .ifs (.val (.b1 .isTup (.var 1))) [.ifs (.or (.not (.val (.b1 .isTup (.var 0)))) (.val (.cmp .ne (.b1 .len (.var 0)) (.b1 .len (.var 1))))) [.ret (.bl false)] [], .ret (.b1 .all (.comp (.call 10 [(.sub (.var 0) (.var 2)), (.sub (.var 1) (.var 2))]) (.name 2) .r1 [(.b1 .len (.var 1))] [] [2]))] [],
  .ifs (.val (.b1 .isStr (.var 1))) [.ret (.and (.b1 .isStr (.var 0)) (.cmp .eq (.var 0) (.var 1)))] [],
  .ret (.and (.call 9 [(.var 0)]) (.cmp .eq (.var 0) (.var 1)))]⟩
mutual
/-- None, truth values, ints and tuples of them -/
def D.simple : D → Bool
  | .non => true | .bl _ => true | .int _ => true
  | .tup xs => D.simpleL xs && decide (xs.length ≤ 100000)
  | _ => false
def D.simpleL : List D → Bool
  | [] => true
  | x :: xs => D.simple x && D.simpleL xs
end
theorem simpleL_mem : ∀ {xs : List D}, D.simpleL xs = true → ∀ x ∈ xs, D.simple x = true
  | y :: ys, h, x, hx => by
    simp only [D.simpleL, Bool.and_eq_true] at h
    rcases List.mem_cons.mp hx with rfl | hx
    · exact h.1
    · exact simpleL_mem h.2 x hx
theorem depthL_mem : ∀ {xs : List D} {x : D}, x ∈ xs → D.depth x ≤ D.depthL xs
  | y :: ys, x, hx => by
    rw [D.depthL]
    rcases List.mem_cons.mp hx with rfl | hx
    · omega
    · have := depthL_mem hx; omega
theorem walk_r1 {n : Nat} (h : n < 4611686018427387904) : walk .r1 [.int n] = some (rgD 0 n) := by
  simp only [walk]
  rw [if_pos ⟨by omega, by omega⟩]; simp
theorem bools_true (n : Nat) : D.bools (List.replicate n (.bl true)) = some (List.replicate n true) := by
  induction n with
  | zero => rfl
  | succ n ih => rw [List.replicate_succ, D.bools, ih]; rfl
theorem all_true (n : Nat) : opU .all (.lst (List.replicate n (.bl true))) = some (.bl true) := by
  show (D.bools _).map _ = _
  rw [bools_true]; simp
/-- all of a list of tests that hold -/
theorem all_map {α : Type} (xs : List α) (g : α → D) (h : ∀ x ∈ xs, g x = .bl true) : opU .all (.lst (xs.map g)) = some (.bl true) := by
  have : xs.map g = List.replicate xs.length (.bl true) := by
    rw [List.eq_replicate_iff]
    refine ⟨by simp, fun b hb => ?_⟩
    obtain ⟨x, hx, rfl⟩ := List.mem_map.mp hb
    exact h x hx
  rw [this]; exact all_true _
theorem bools_map' {α : Type} (xs : List α) (g : α → Bool) : D.bools (xs.map fun x => .bl (g x)) = some (xs.map g) := by
  induction xs with
  | nil => rfl
  | cons x xs ih => rw [List.map_cons, D.bools, ih]; rfl
theorem all_bl {α : Type} (xs : List α) (g : α → Bool) : opU .all (.lst (xs.map fun x => .bl (g x))) = some (.bl (xs.all g)) := by
  show (D.bools _).map _ = _
  rw [bools_map']
  simp [Function.comp_def]
theorem any_bl {α : Type} (xs : List α) (g : α → Bool) : opU .any (.lst (xs.map fun x => .bl (g x))) = some (.bl (xs.any g)) := by
  show (D.bools _).map _ = _
  rw [bools_map']
  simp [Function.comp_def]
section
variable {G : Nat → List D → Option D} {env : Env}
/-- a comprehension without tests -/
theorem ev_comp {e : E} {t : T} {k : IK} {es : List E} {own : List Nat} {vs xs : List D} (g : D → D) (h : evB G env es = some vs) (hw : walk k vs = some xs) (hl : xs.length ≤ line)
    (hg : ∀ x ∈ xs, ∃ env', bind t x (env.kill own) = some env' ∧ ev G env' e = some (g x)) : ev G env (.comp e t k es [] own) = some (.lst (xs.map g)) := by
  unfold ev
  rw [h]
  show (walk k vs).bind _ = _
  rw [hw]
  show (compL _ xs).bind fits = _
  rw [compL_map g fun x hx => by
    obtain ⟨env', h1, h2⟩ := hg x hx
    simp [h1, h2, tsL]]
  exact fits_of (by simpa using hl)
/-- with a test -/
theorem ev_compF {e : E} {t : T} {k : IK} {es : List E} {c : C} {own : List Nat} {vs xs : List D} (g : D → D) (p : D → Bool) (h : evB G env es = some vs) (hw : walk k vs = some xs) (hl : xs.length ≤ line)
    (hg : ∀ x ∈ xs, ∃ env', bind t x (env.kill own) = some env' ∧ ts G env' c = some (p x) ∧ (p x = true → ev G env' e = some (g x))) : ev G env (.comp e t k es [c] own) = some (.lst ((xs.filter p).map g)) := by
  unfold ev
  rw [h]
  show (walk k vs).bind _ = _
  rw [hw]
  show (compL _ xs).bind fits = _
  rw [compL_fm (fun x => if p x then some (g x) else none) fun x hx => by
    obtain ⟨env', h1, h2, h3⟩ := hg x hx
    cases hp : p x with
    | false => simp [h1, h2, hp, tsL]
    | true => simp [h1, h2, hp, h3 hp, tsL]]
  have : (xs.filterMap fun x => if p x then some (g x) else none) = (xs.filter p).map g := by
    clear hl hw hg
    induction xs with
    | nil => rfl
    | cons x xs ih => rw [List.filterMap_cons, List.filter_cons]; cases p x <;> simp [ih]
  rw [Option.bind_some, this]
  exact fits_of (by simpa using Nat.le_trans (List.length_filter_le p xs) hl)
end
section
variable {defs : Nat → Option Fn}
theorem run_mixed (h : defs 7 = some f_law_mixed) (c : Nat) (ns : List Int) (k : Nat) (hk : k < 1000) : ∃ v : Int, 0 ≤ v ∧ v < 1000003 ∧ run defs (c + 1) 7 [.scr ns, .int k] = some (.int v) := by
  have key : ∀ cell : Int, ∃ v : Int, 0 ≤ v ∧ v < 1000003 ∧ retD (exs (run defs c) (runI defs c) [.val (.scr ns), .val (.int k), .val (.int cell), .unk, .unk, .unk] (f_law_mixed.body.drop 2)) = some (.int v) := by
    intro cell
    have e1 : ∃ a : Int, 0 ≤ a ∧ a < 2147483647 ∧ a = (cell * 48271 + k * 69621 + 8191) % 2147483647 := ⟨_, by omega, by omega, rfl⟩
    obtain ⟨a, a0, a1, ea⟩ := e1
    have e2 : ∃ b : Int, 0 ≤ b ∧ b < 2147483629 ∧ b = (a * a + a / 7 + k * 16807) % 2147483629 := ⟨_, by omega, by omega, rfl⟩
    obtain ⟨b, b0, b1, eb⟩ := e2
    have e3 : ∃ d : Int, 0 ≤ d ∧ d < 2147483563 ∧ d = (b * b + b / 11 + 40692) % 2147483563 := ⟨_, by omega, by omega, rfl⟩
    obtain ⟨d, d0, d1, ed⟩ := e3
    refine ⟨d / 5 % 1000003, by omega, by omega, ?_⟩
    show retD (exs _ _ _ [_, _, _, _]) = _
    have ma : a.natAbs < 18446744073709551616 := by omega
    have mb : b.natAbs < 18446744073709551616 := by omega
    rw [exs_asg (d := .int a) (by simp [ea])]
    rw [exs_asg (d := .int b) (by simp [ma, eb])]
    rw [exs_asg (d := .int d) (by simp [mb, ed])]
    rw [exs_ret (d := .int (d / 5 % 1000003)) (by simp)]
    rfl
  have cellv : ∃ cell : Int, exs (run defs c) (runI defs c) [.val (.scr ns), .val (.int k), .val (.int 0), .unk, .unk, .unk] (f_law_mixed.body.drop 1) = exs (run defs c) (runI defs c) [.val (.scr ns), .val (.int k), .val (.int cell), .unk, .unk, .unk] (f_law_mixed.body.drop 2) := by
    cases ns with
    | nil => exact ⟨0, exs_skip (by simp)⟩
    | cons n ns =>
      have hj : k % (n :: ns).length < (n :: ns).length := Nat.mod_lt _ (by simp)
      refine ⟨(n :: ns)[k % (n :: ns).length], exs_ifT (by simp) ?_⟩
      refine (exs_asg (d := .int ((n :: ns)[k % (n :: ns).length])) ?_).trans rfl
      have hp : (0 : Int) < ((n :: ns).length : Int) := by simp
      have e : ((k : Int) % ((n :: ns).length : Int)) = ((k % (n :: ns).length : Nat) : Int) := by omega
      have h1 : opB .mod (.int k) (.int (n :: ns).length) = some (.int ((k % (n :: ns).length : Nat) : Int)) := by rw [opB_mod hp, e]
      have h2 : opSub (.scr (n :: ns)) (.int ((k % (n :: ns).length : Nat) : Int)) = some (.int ((n :: ns)[k % (n :: ns).length])) := atI_map hj
      show (opB .mod (.int k) (.int (n :: ns).length)).bind (fun y => opSub (.scr (n :: ns)) y) = _
      rw [h1]; exact h2
  obtain ⟨cell, hc⟩ := cellv
  obtain ⟨v, v0, v1, hv⟩ := key cell
  refine ⟨v, v0, v1, run_of h rfl rfl ?_⟩
  rw [← hv, ← hc]
  rfl
theorem run_row (h7 : defs 7 = some f_law_mixed) (h8 : defs 8 = some f_law_row) (c : Nat) (ns : List Int) (many : Nat) (hm : many < 1000) : ∃ vs : List Int, vs.length = many ∧ (∀ v ∈ vs, 0 ≤ v ∧ v < 1000003) ∧ run defs (c + 2) 8 [.scr ns, .int many] = some (.lst (vs.map .int)) := by
  have h1 : ∃ big : Int, exs (run defs (c + 1)) (runI defs (c + 1)) [.val (.scr ns), .val (.int many), .val (.int 0), .unk, .unk] (f_law_row.body.drop 1) = exs (run defs (c + 1)) (runI defs (c + 1)) [.val (.scr ns), .val (.int many), .val (.int big), .unk, .unk] (f_law_row.body.drop 2) := by
    cases ns with
    | nil => exact ⟨0, exs_skip (by simp)⟩
    | cons n ns =>
      have hz : opSub (.scr (n :: ns)) (.int 0) = some (.int n) := atI_map (f := D.int) (xs := n :: ns) (i := 0) (by simp)
      have hp : opB .pow (.int 10) (.int 18) = some (.int 1000000000000000000) := by simp [opB]
      have hz' : atI (D.int n :: List.map D.int ns) 0 = some (.int n) := atI_map (f := D.int) (xs := n :: ns) (i := 0) (by simp)
      by_cases hb : (1000000000000000000 : Int) ≤ n
      · exact ⟨n, exs_ifT (by simp [hz, hz', hp, hb]) ((exs_asg (d := .int n) (by simp [hz, hz'])).trans rfl)⟩
      · exact ⟨0, exs_skip (by simp [hz, hz', hp, hb])⟩
  obtain ⟨big, hb⟩ := h1
  have hl := forL_turns (step := fun x e => (bind (.name 4) x e).bind fun e' => exs (run defs (c + 1)) (runI defs (c + 1)) e' [.ifs (.val (.cmp .gt (.var 2) (.int 0))) [.app 3 (.bin .mod (.b1 .int (.var 2)) (.int 1000)), .asg 2 (.bin .fdiv (.var 2) (.int 1000))] [.app 3 (.call 7 [(.var 0), (.var 4)])]]) (kl := [4])
    (fun i e => i ≤ many ∧ ∃ (big : Int) (vs : List Int), vs.length = i ∧ (∀ v ∈ vs, 0 ≤ v ∧ v < 1000003) ∧ e = [.val (.scr ns), .val (.int many), .val (.int big), .own (.lst (vs.map .int)), .unk])
    (xs := rgD 0 many) (env := [.val (.scr ns), .val (.int many), .val (.int big), .own (.lst []), .unk]) 0 ⟨Nat.zero_le _, big, [], rfl, by simp, rfl⟩
    (fun i x e hx ⟨_, big, vs, hv, hr, he⟩ => by
      have hi : i < many := by
        have := (List.getElem?_eq_some_iff.mp hx).1
        simpa [rgD] using this
      have hx' : x = .int i := by
        rw [rgD, List.getElem?_map, List.getElem?_range hi] at hx
        simpa using hx.symm
      subst he hx'
      have hlt : (vs.map D.int).length < line := by simp; show _ < 16777216; omega
      by_cases hb : (0 : Int) < big
      · refine ⟨[.val (.scr ns), .val (.int many), .val (.int (big / 1000)), .own (.lst ((vs ++ [big % 1000]).map .int)), .val (.int i)], ?_, by omega, big / 1000, vs ++ [big % 1000], by simp; omega, fun v hv => ?_, rfl⟩
        · show exs _ _ [_, _, _, _, _] _ = _
          refine exs_ifT (by simp [hb]) ?_
          rw [exs_app (xs := vs.map .int) (d := .int (big % 1000)) (by simp) (by simp) hlt]
          rw [exs_asg (d := .int (big / 1000)) (by simp)]
          simp [exs_nil]
        · rcases List.mem_append.mp hv with hv | hv
          · exact hr v hv
          · simp at hv; omega
      · obtain ⟨v, v0, v1, hrun⟩ := run_mixed h7 c ns i (by omega)
        refine ⟨[.val (.scr ns), .val (.int many), .val (.int big), .own (.lst ((vs ++ [v]).map .int)), .val (.int i)], ?_, by omega, big, vs ++ [v], by simp; omega, fun w hw => ?_, rfl⟩
        · show exs _ _ [_, _, _, _, _] _ = _
          refine exs_ifF (by simp [hb]) ?_
          rw [exs_app (xs := vs.map .int) (d := .int v) (by simp) (ev_call (ds := [.scr ns, .int i]) (by simp) hrun) hlt]
          simp [exs_nil]
        · rcases List.mem_append.mp hw with hw | hw
          · exact hr w hw
          · simp at hw; subst hw; exact ⟨v0, v1⟩)
    (fun e ⟨hi, big, vs, h1, h2, h3⟩ => ⟨hi, big, vs, h1, h2, by subst h3; rfl⟩)
  obtain ⟨e', hf, _, big', vs, hv, hr, rfl⟩ := hl
  refine ⟨vs, by simpa [rgD] using hv, hr, run_of h8 rfl rfl ?_⟩
  show retD (exs _ _ [.val (.scr ns), .val (.int many), .unk, .unk, .unk] (.asg 2 (.int 0) :: f_law_row.body.drop 1)) = _
  rw [exs_asg (d := .int 0) rfl]
  show retD (exs _ _ [.val (.scr ns), .val (.int many), .val (.int 0), .unk, .unk] (f_law_row.body.drop 1)) = _
  rw [hb]
  show retD (exs _ _ _ (.asgO 3 (.lst []) :: f_law_row.body.drop 3)) = _
  rw [exs_asgO (d := .lst []) ev_lst0 rfl]
  show retD (exs _ _ [.val (.scr ns), .val (.int many), .val (.int big), .own (.lst []), .unk] (.for_ _ _ _ _ _ :: f_law_row.body.drop 4)) = _
  rw [exs_for (vs := [.int many]) (by simp) (walk_r1 (by omega)) hf]
  show retD (exs _ _ _ [.frz 3, .ret (.var 3)]) = _
  rw [exs_frz (d := .lst (vs.map .int)) (by simp), exs_ret (d := .lst (vs.map .int)) (by simp)]
  rfl
theorem run_is_int (h9 : defs 9 = some f_law_is_int) (c : Nat) (i : Int) : run defs (c + 1) 9 [.int i] = some (.bl true) := by
  refine run_of h9 rfl rfl ?_
  show retD (exs _ _ _ [.ret _]) = _
  rw [exs_ret (d := .bl true) (by simp [opU])]
  rfl
theorem like_self (h9 : defs 9 = some f_law_is_int) (h10 : defs 10 = some f_law_like) (c : Nat) : ∀ (m : Nat) (x : D), D.simple x = true → D.depth x ≤ m → run defs (c + m + 2) 10 [x, x] = some (.bl true) := by
  intro m
  induction m with
  | zero =>
    intro x hs hd
    refine run_of h10 rfl rfl ?_
    cases x with
    | non => show retD (exs _ _ [.val .non, .val .non, .unk] (.ifs _ _ [] :: _)) = _; rw [exs_ifR (d := .bl true) (by simp) (exs_ret (by simp))]; rfl
    | bl b =>
      show retD (exs _ _ [.val (.bl b), .val (.bl b), .unk] (.ifs _ _ [] :: .ifs _ _ [] :: _)) = _
      rw [exs_skip (by simp), exs_ifR (d := .bl true) (by simp [opU]) (exs_ret (by simp [opU, opC, D.plain, D.depth, D.eqb]))]; rfl
    | int i =>
      show retD (exs _ _ [.val (.int i), .val (.int i), .unk] (.ifs _ _ [] :: .ifs _ _ [] :: .ifs _ _ [] :: .ifs _ _ [] :: [.ret _])) = _
      rw [exs_skip (by simp), exs_skip (by simp [opU]), exs_skip (by simp [opU]), exs_skip (by simp [opU]), exs_ret (d := .bl true) (ev_andT (ev_call (ds := [.int i]) (by simp) (run_is_int h9 _ i)) (by simp))]; rfl
    | tup xs => simp [D.depth] at hd
    | lst xs => simp [D.simple] at hs
    | dic t kvs => simp [D.simple] at hs
    | rng a b => simp [D.simple] at hs
    | scr a => simp [D.simple] at hs
  | succ m ih =>
    intro x hs hd
    refine run_of h10 rfl rfl ?_
    cases x with
    | non => show retD (exs _ _ [.val .non, .val .non, .unk] (.ifs _ _ [] :: _)) = _; rw [exs_ifR (d := .bl true) (by simp) (exs_ret (by simp))]; rfl
    | bl b =>
      show retD (exs _ _ [.val (.bl b), .val (.bl b), .unk] (.ifs _ _ [] :: .ifs _ _ [] :: _)) = _
      rw [exs_skip (by simp), exs_ifR (d := .bl true) (by simp [opU]) (exs_ret (by simp [opU, opC, D.plain, D.depth, D.eqb]))]; rfl
    | int i =>
      show retD (exs _ _ [.val (.int i), .val (.int i), .unk] (.ifs _ _ [] :: .ifs _ _ [] :: .ifs _ _ [] :: .ifs _ _ [] :: [.ret _])) = _
      rw [exs_skip (by simp), exs_skip (by simp [opU]), exs_skip (by simp [opU]), exs_skip (by simp [opU]), exs_ret (d := .bl true) (ev_andT (ev_call (ds := [.int i]) (by simp) (run_is_int h9 _ i)) (by simp))]; rfl
    | tup xs =>
      simp only [D.simple, Bool.and_eq_true, decide_eq_true_eq] at hs
      simp only [D.depth] at hd
      have hl : xs.length ≤ 100000 := hs.2
      show retD (exs _ _ [.val (.tup xs), .val (.tup xs), .unk] (.ifs _ _ [] :: .ifs _ _ [] :: .ifs _ _ [] :: _)) = _
      rw [exs_skip (by simp), exs_skip (by simp [opU]), exs_ifR (d := .bl true) (env' := [.val (.tup xs), .val (.tup xs), .unk]) (by simp [opU]) ?_]
      · rfl
      rw [exs_skip (by simp [opU])]
      refine exs_ret ?_
      have hc := ev_comp (G := run defs (c + (m + 1) + 1)) (env := [.val (.tup xs), .val (.tup xs), .unk]) (e := .call 10 [(.sub (.var 0) (.var 2)), (.sub (.var 1) (.var 2))]) (t := .name 2) (k := .r1) (es := [.b1 .len (.var 1)]) (own := [2]) (vs := [.int xs.length]) (xs := rgD 0 xs.length) (fun _ => .bl true) (by simp) (walk_r1 (by omega)) (by simp [rgD]; show _ ≤ 16777216; omega)
        (fun x hx => by
          obtain ⟨i, hi, rfl⟩ := mem_rgD hx
          have hat : atI xs (i : Int) = some xs[i] := atI_nat (List.getElem?_eq_getElem hi)
          have hm := List.getElem_mem hi
          have := ih xs[i] (simpleL_mem hs.1 _ hm) (by have := depthL_mem hm; omega)
          refine ⟨_, rfl, ?_⟩
          exact ev_call (ds := [xs[i], xs[i]]) (by simp [hat]) this)
      exact ev_b1c hc (all_map _ _ fun _ _ => rfl)
    | lst xs => simp [D.simple] at hs
    | dic t kvs => simp [D.simple] at hs
    | rng a b => simp [D.simple] at hs
    | scr a => simp [D.simple] at hs
/-- Euclid -/
theorem whl_gcd {G GI : Nat → List D → Option D} : ∀ (k a b m : Nat), b < 2 ^ k → 2 * k + 1 ≤ m →
    whlL (fun e => ts G e (.val (.cmp .gt (.var 1) (.int 0)))) (fun e => exs G GI e [.asgP [(0, false), (1, false)] [(.var 1), (.bin .mod (.var 0) (.var 1))]]) [] m [.val (.int a), .val (.int b)] = some (.nx, [.val (.int (Nat.gcd a b : Nat)), .val (.int 0)]) := by
  have fin : ∀ (a m : Nat), 1 ≤ m → whlL (fun e => ts G e (.val (.cmp .gt (.var 1) (.int 0)))) (fun e => exs G GI e [.asgP [(0, false), (1, false)] [(.var 1), (.bin .mod (.var 0) (.var 1))]]) [] m [.val (.int a), .val (.int (0 : Nat))] = some (.nx, [.val (.int (Nat.gcd a 0 : Nat)), .val (.int 0)]) := by
    intro a m hm
    obtain ⟨m, rfl⟩ : ∃ j, m = j + 1 := ⟨m - 1, by omega⟩
    rw [whlL]
    simp
  have one : ∀ (a b m : Nat), 0 < b → whlL (fun e => ts G e (.val (.cmp .gt (.var 1) (.int 0)))) (fun e => exs G GI e [.asgP [(0, false), (1, false)] [(.var 1), (.bin .mod (.var 0) (.var 1))]]) [] (m + 1) [.val (.int a), .val (.int b)]
      = whlL (fun e => ts G e (.val (.cmp .gt (.var 1) (.int 0)))) (fun e => exs G GI e [.asgP [(0, false), (1, false)] [(.var 1), (.bin .mod (.var 0) (.var 1))]]) [] m [.val (.int b), .val (.int (a % b : Nat))] := by
    intro a b m hb
    have hb' : (0 : Int) < b := by omega
    rw [whlL]
    rw [exs_asgP (ds := [.int b, .int (a % b : Nat)]) (env' := [.val (.int b), .val (.int (a % b : Nat))]) (by simp [opB_mod hb']) (by simp)]
    simp [hb, exs_nil]
  intro k
  induction k with
  | zero =>
    intro a b m hb hm
    obtain rfl : b = 0 := by simpa using hb
    exact fin a m (by omega)
  | succ k ih =>
    intro a b m hb hm
    by_cases h0 : b = 0
    · subst h0; exact fin a m (by omega)
    · obtain ⟨m, rfl⟩ : ∃ j, m = j + 1 + 1 := ⟨m - 2, by omega⟩
      rw [one a b (m + 1) (by omega)]
      by_cases h1 : a % b = 0
      · rw [h1]
        have := fin b (m + 1) (by omega)
        have e : Nat.gcd a b = Nat.gcd b 0 := by rw [Nat.gcd_comm, Nat.gcd_rec, h1, Nat.gcd_comm]
        rw [e]; exact this
      · rw [one b (a % b) m (by omega)]
        have hr : a % b < b := Nat.mod_lt _ (by omega)
        have h2 : b % (a % b) < 2 ^ k := by
          have q1 : b % (a % b) < a % b := Nat.mod_lt _ (by omega)
          have q2 : (a % b) + b % (a % b) ≤ b := by
            have := Nat.div_add_mod b (a % b)
            have hq : 1 ≤ b / (a % b) := Nat.div_pos (by omega) (by omega)
            have : (a % b) * 1 ≤ (a % b) * (b / (a % b)) := Nat.mul_le_mul_left _ hq
            omega
          rw [Nat.pow_succ] at hb
          omega
        have e : Nat.gcd a b = Nat.gcd (a % b) (b % (a % b)) := by
          rw [Nat.gcd_comm a b, Nat.gcd_rec b a, Nat.gcd_rec (a % b) b, Nat.gcd_comm]
        rw [e]
        exact ih (a % b) (b % (a % b)) m h2 (by omega)
theorem run_divisor (h2 : defs 2 = some f_divisor) (c a b : Nat) (hb : b < 2 ^ 1000) : run defs (c + 1) 2 [.int a, .int b] = some (.int (Nat.gcd a b : Nat)) := by
  refine run_of h2 rfl rfl ?_
  show retD (exs _ _ [.val (.int a), .val (.int b)] (.whl _ _ [] :: [.ret _])) = _
  rw [exs_whl (whl_gcd 1000 a b 1000000 hb (by decide))]
  rw [exs_ret (d := .int (Nat.gcd a b : Nat)) (by simp)]
  rfl
theorem divOk_w {j : Int} (h0 : 0 < j) (h : j.natAbs < 2 ^ 1000) : divOk j = true := by
  have h1 : j.natAbs < 2 ^ 8192 := Nat.lt_of_lt_of_le h (Nat.pow_le_pow_right (by decide) (by decide))
  unfold divOk
  rw [decide_eq_true h0, decide_eq_true h1]
  simp
theorem opB_fdivw {i j : Int} (h0 : 0 < j) (h : j.natAbs < 2 ^ 1000) : opB .fdiv (.int i) (.int j) = some (.int (i / j)) := by
  simp only [opB, divOk_w h0 h, if_true, Int.fdiv_eq_ediv_of_nonneg _ (show 0 ≤ j by omega)]
end
end Rx
namespace Rx
/-! ### comprehensions over lists of anything -/
section
variable {G : Nat → List D → Option D} {env : Env} {α β : Type}
theorem compL_fa {f : D → Option (Option D)} (r : α → D) (k : α → Option D) : ∀ {l : List α}, (∀ a ∈ l, f (r a) = some (k a)) → compL f (l.map r) = some (l.filterMap k)
  | [], _ => rfl
  | x :: xs, h => by
    rw [List.map_cons, compL, h x (List.mem_cons_self ..), Option.bind_some, compL_fa r k fun y hy => h y (List.mem_cons_of_mem _ hy), List.filterMap_cons]
    cases k x <;> rfl
theorem compLL_fa {f : D → Option (List D)} (r : α → D) (k : α → List D) : ∀ {l : List α}, (∀ a ∈ l, f (r a) = some (k a)) → compLL f (l.map r) = some (l.flatMap k)
  | [], _ => rfl
  | x :: xs, h => by
    rw [List.map_cons, compLL, h x (List.mem_cons_self ..), Option.bind_some, compLL_fa r k fun y hy => h y (List.mem_cons_of_mem _ hy)]
    rfl
theorem fm_filter (p : α → Bool) (g : α → D) : ∀ l : List α, (l.filterMap fun x => if p x then some (g x) else none) = (l.filter p).map g
  | [] => rfl
  | x :: xs => by rw [List.filterMap_cons, List.filter_cons]; cases p x <;> simp [fm_filter p g xs]
theorem ev_compM {e : E} {t : T} {k : IK} {es : List E} {own : List Nat} {vs : List D} (l : List α) (r g : α → D) (h : evB G env es = some vs) (hw : walk k vs = some (l.map r)) (hl : l.length ≤ line)
    (hg : ∀ a ∈ l, ∃ env', bind t (r a) (env.kill own) = some env' ∧ ev G env' e = some (g a)) : ev G env (.comp e t k es [] own) = some (.lst (l.map g)) := by
  unfold ev
  rw [h]
  show (walk k vs).bind _ = _
  rw [hw]
  show (compL _ (l.map r)).bind fits = _
  rw [compL_fa r (fun a => some (g a)) fun x hx => by
    obtain ⟨env', h1, h2⟩ := hg x hx
    simp [h1, h2]]
  rw [Option.bind_some, List.filterMap_eq_map']
  exact fits_of (by simpa using hl)
theorem ev_compA {e : E} {t : T} {k : IK} {es : List E} {c : C} {own : List Nat} {vs : List D} (l : List α) (r g : α → D) (p : α → Bool) (h : evB G env es = some vs) (hw : walk k vs = some (l.map r)) (hl : l.length ≤ line)
    (hg : ∀ a ∈ l, ∃ env', bind t (r a) (env.kill own) = some env' ∧ ts G env' c = some (p a) ∧ (p a = true → ev G env' e = some (g a))) : ev G env (.comp e t k es [c] own) = some (.lst ((l.filter p).map g)) := by
  unfold ev
  rw [h]
  show (walk k vs).bind _ = _
  rw [hw]
  show (compL _ (l.map r)).bind fits = _
  rw [compL_fa r (fun a => if p a then some (g a) else none) fun x hx => by
    obtain ⟨env', h1, h2, h3⟩ := hg x hx
    rw [h1]
    simp only [Option.bind_some, tsL, h2]
    cases hp : p x with
    | false => simp
    | true => simp [h3 hp]]
  rw [Option.bind_some, fm_filter]
  exact fits_of (by simpa using Nat.le_trans (List.length_filter_le p l) hl)
/-- two loops, the inner one with a test -/
theorem ev_comp2A {e : E} {t t2 : T} {k k2 : IK} {es es2 : List E} {c2 : C} {own own2 : List Nat} {vs : List D} (l : List α) (r : α → D) (m : α → List β) (r2 g : α → β → D) (p2 : α → β → Bool) (h : evB G env es = some vs) (hw : walk k vs = some (l.map r))
    (hl : (l.flatMap fun a => (m a).filter (p2 a)).length ≤ line)
    (hg : ∀ a ∈ l, ∃ env' ws, bind t (r a) (env.kill own) = some env' ∧ evB G env' es2 = some ws ∧ walk k2 ws = some ((m a).map (r2 a)) ∧
      ∀ b ∈ m a, ∃ env2, bind t2 (r2 a b) (env'.kill own2) = some env2 ∧ ts G env2 c2 = some (p2 a b) ∧ (p2 a b = true → ev G env2 e = some (g a b))) :
    ev G env (.comp2 e t k es [] t2 k2 es2 [c2] own own2) = some (.lst (l.flatMap fun a => ((m a).filter (p2 a)).map (g a))) := by
  unfold ev
  rw [h]
  show (walk k vs).bind _ = _
  rw [hw]
  show (compLL _ (l.map r)).bind fits = _
  rw [compLL_fa r (fun a => ((m a).filter (p2 a)).map (g a)) fun x hx => by
    obtain ⟨env', ws, h1, h2, h3, h4⟩ := hg x hx
    rw [h1]
    simp only [Option.bind_some, tsL, if_true, h2, h3]
    rw [compL_fa (r2 x) (fun b => if p2 x b then some (g x b) else none) fun b hb => by
      obtain ⟨env2, q1, q2, q3⟩ := h4 b hb
      rw [q1]
      simp only [Option.bind_some, q2]
      cases hp : p2 x b with
      | false => simp
      | true => simp [q3 hp]]
    rw [fm_filter]]
  rw [Option.bind_some]
  refine fits_of ?_
  have : (l.flatMap fun a => ((m a).filter (p2 a)).map (g a)).length = (l.flatMap fun a => (m a).filter (p2 a)).length := by
    simp [List.length_flatMap]
  rw [this]; exact hl
end
theorem walk_enumA {α : Type} [Inhabited α] (f : α → D) (xs : List α) : walk .enum [.tup (xs.map f)] = some ((List.range xs.length).map fun (k : Nat) => .tup [.int k, f (xs.getD k default)]) := by
  show some ((List.range (xs.map f).length).map fun (k : Nat) => D.tup [.int k, (xs.map f).getD k .non]) = _
  rw [List.length_map]
  congr 1
  refine List.map_congr_left fun k hk => ?_
  have hk := List.mem_range.mp hk
  simp [List.getD_eq_getElem?_getD, hk]
/-- the least one is one of them -/
theorem leastD_mem : ∀ (m : D) (xs : List D), leastD m xs = m ∨ leastD m xs ∈ xs
  | m, [] => .inl rfl
  | m, x :: xs => by
    unfold leastD
    rcases leastD_mem (if D.ltb x m then x else m) xs with h | h
    · rw [h]
      split
      · exact .inr (List.mem_cons_self ..)
      · exact .inl rfl
    · exact .inr (List.mem_cons_of_mem _ h)
theorem alike_ints : ∀ (xs ys : List Nat), xs.length = ys.length → D.alikeL (xs.map fun (k : Nat) => D.int k) (ys.map fun (k : Nat) => D.int k) = true
  | [], [], _ => rfl
  | x :: xs, y :: ys, h => by
    simp only [List.map_cons, D.alikeL, D.alike, Bool.true_and]
    exact alike_ints xs ys (by simpa using h)
  | [], _ :: _, h => by simp at h
  | _ :: _, [], h => by simp at h
theorem plain_ints : ∀ (xs : List Nat), D.plainL (xs.map fun (k : Nat) => D.int k) = true
  | [] => rfl
  | x :: xs => by simp only [List.map_cons, D.plainL, D.plain, Bool.true_and]; exact plain_ints xs
theorem depth_ints : ∀ (xs : List Nat), D.depthL (xs.map fun (k : Nat) => D.int k) = 0
  | [] => rfl
  | x :: xs => by simp only [List.map_cons, D.depthL, D.depth, depth_ints xs]; rfl
/-- the least of tuples of ints, all of one length -/
theorem min_rows {l : List (List Nat)} (hl : l ≠ []) (n : Nat) (h : ∀ p ∈ l, p.length = n) : ∃ d, opU .min (.lst (l.map fun p => .tup (p.map fun (k : Nat) => .int k))) = some d ∧ D.isNon d = false := by
  cases l with
  | nil => exact absurd rfl hl
  | cons p ps =>
    have e1 : ∀ q : List (List Nat), (∀ p ∈ q, p.length = n) → D.plainL (q.map fun p => .tup (p.map fun (k : Nat) => .int k)) = true := by
      intro q hq
      induction q with
      | nil => rfl
      | cons a q ih => simp only [List.map_cons, D.plainL, D.plain, plain_ints, Bool.true_and]; exact ih fun p hp => hq p (List.mem_cons_of_mem _ hp)
    have e2 : ∀ q : List (List Nat), D.depthL (q.map fun p => .tup (p.map fun (k : Nat) => .int k)) ≤ 1 := by
      intro q
      induction q with
      | nil => exact Nat.zero_le _
      | cons a q ih => simp only [List.map_cons, D.depthL, D.depth, depth_ints]; omega
    have e3 : alikeAll ((p :: ps).map fun p => .tup (p.map fun (k : Nat) => .int k)) = true := by
      unfold alikeAll
      rw [List.all_eq_true]
      intro x hx
      rw [List.all_eq_true]
      intro y hy
      obtain ⟨a, ha, rfl⟩ := List.mem_map.mp hx
      obtain ⟨b, hb, rfl⟩ := List.mem_map.mp hy
      simp only [D.alike]
      exact alike_ints a b (by rw [h a ha, h b hb])
    refine ⟨leastD (.tup (p.map fun (k : Nat) => .int k)) (ps.map fun p => .tup (p.map fun (k : Nat) => .int k)), ?_, ?_⟩
    · have h3 := e1 (p :: ps) h
      have h4 : D.depthL ((p :: ps).map fun p => D.tup (p.map fun (k : Nat) => .int k)) < 60 := by have := e2 (p :: ps); omega
      have h5 : (alikeAll ((p :: ps).map fun p => D.tup (p.map fun (k : Nat) => .int k)) && D.plainL ((p :: ps).map fun p => D.tup (p.map fun (k : Nat) => .int k)) && decide (D.depthL ((p :: ps).map fun p => D.tup (p.map fun (k : Nat) => .int k)) < 60)) = true := by rw [e3, h3, decide_eq_true h4]; rfl
      exact if_pos h5
    · rcases leastD_mem (.tup (p.map fun (k : Nat) => .int k)) (ps.map fun p => .tup (p.map fun (k : Nat) => .int k)) with q | q
      · rw [q]; rfl
      · obtain ⟨a, _, q⟩ := List.mem_map.mp q
        rw [← q]; rfl
end Rx
end

section
set_option Elab.async false
set_option linter.all false
set_option maxRecDepth 100000
set_option autoImplicit false
namespace Rx
/-! ### the program as data -/
/-- 26: 0 coinage 1 most 2 found 3 amount 4 before 5 value 6 number -/
def f_least_numbers : Fn := ⟨2, 7, false, [
  .asgO 2 (.bin .add (.lst [(.int 0)]) (.bin .mul (.lst [.non]) (.var 1))),
  .for_ (.name 3) .r2 [(.int 1), (.bin .add (.var 1) (.int 1))] [.asg 4 (.comp (.sub (.var 2) (.bin .sub (.var 3) (.var 5))) (.name 5) .seq [(.var 0)] [(.val (.cmp .le (.var 5) (.var 3)))] [5]), .asg 4 (.comp (.var 6) (.name 6) .seq [(.var 4)] [(.val (.cmp .isnt (.var 6) .non))] [6]), .ifs (.val (.var 4)) [.sset 2 (.var 3) (.bin .add (.int 1) (.b1 .min (.var 4)))] []] [3, 4],
  .frz 2,
  .ret (.var 2)]⟩
/-- 27: 0 coinage 1 amount -/
def f_least_number : Fn := ⟨2, 2, false, [
  .ret (.sub (.call 26 [(.var 0), (.var 1)]) (.var 1))]⟩
/-- 28: 0 coinage 1 amount 2 numbers 3 counts 4 place 5 value 6 rest -/
def f_best_payment : Fn := ⟨2, 7, false, [
  .asg 2 (.call 26 [(.var 0), (.var 1)]),
  .ifs (.val (.cmp .is (.sub (.var 2) (.var 1)) .non)) [.ret .non] [],
  .asgO 3 (.bin .mul (.lst [(.int 0)]) (.b1 .len (.var 0))),
  .asg 4 (.bin .sub (.b1 .len (.var 0)) (.int 1)),
  .whl (.val (.cmp .gt (.var 1) (.int 0))) [.asg 5 (.sub (.var 0) (.var 4)), .asg 6 (.ife (.val (.cmp .le (.var 5) (.var 1))) (.sub (.var 2) (.bin .sub (.var 1) (.var 5))) .non), .ifs (.and (.val (.cmp .isnt (.var 6) .non)) (.val (.cmp .eq (.bin .add (.var 6) (.int 1)) (.sub (.var 2) (.var 1))))) [.saug 3 (.var 4) .add (.int 1), .aug 1 .sub (.var 5)] [.aug 4 .sub (.int 1)]] [5, 6],
  .ret (.b1 .tuple (.var 3))]⟩
/-- 49: 0 coinage 1 amount 2 counts 3 value -/
def f_greedy_payment : Fn := ⟨2, 4, false, [
  .asgO 2 (.lst []),
  .for_ (.name 3) .rev [(.var 0)] [.app 2 (.bin .fdiv (.var 1) (.var 3)), .aug 1 .mod (.var 3)] [3],
  .ret (.ife (.val (.cmp .gt (.var 1) (.int 0))) .non (.ofw false .rev [(.var 2)]))]⟩
/-- 165: 0 payment 1 other -/
def f_is_better : Fn := ⟨2, 2, false, [
  .ret (.or (.cmp .is (.var 1) .non) (.cmp .lt (.call 166 [(.var 0)]) (.call 166 [(.var 1)])))]⟩
/-- 166: 0 payment 1 count -/
def f_payment_key : Fn := ⟨1, 2, false, [
  .ret (.tup [(.b1 .sum (.var 0)), (.b1 .tuple (.comp (.neg (.var 1)) (.name 1) .rev [(.var 0)] [] [1]))])]⟩
/-- 167: 0 coinage 1 purse 2 best 3 value 4 count 5 grown 6 amount 7 taken 8 payment -/
def f_parts_of : Fn := ⟨2, 9, false, [
  .asg 2 (.dic1 false (.int 0) (.tup [])),
  .for_ (.tup [(.name 3), (.name 4)]) .zip2 [(.var 0), (.var 1)] [.asgO 5 (.dic0 false), .for_ (.name 6) .keys [(.var 2)] [.for_ (.name 7) .r1 [(.bin .add (.var 4) (.int 1))] [.asg 8 (.bin .add (.sub (.var 2) (.var 6)) (.tup [(.var 7)])), .ifs (.val (.call 165 [(.var 8), (.b2 .get (.var 5) (.bin .add (.var 6) (.bin .mul (.var 7) (.var 3))))])) [.sset 5 (.bin .add (.var 6) (.bin .mul (.var 7) (.var 3))) (.var 8)] []] [7, 8]] [6, 7, 8], .frz 5, .asg 2 (.var 5)] [3, 4, 5, 6, 7, 8],
  .ret (.var 2)]⟩
/-- 168: 0 coinage 1 purse 2 amount -/
def f_pay : Fn := ⟨3, 3, false, [
  .ret (.b2 .get (.call 167 [(.var 0), (.var 1)]) (.var 2))]⟩
/-- 159: 0 row 1 at 2 most 3 top 4 found 5 k 6 value -/
def f_law_coins : Fn := ⟨4, 7, false, [
  .asgO 4 (.lst []),
  .for_ (.name 5) .r1 [(.bin .add (.int 1) (.bin .mod (.b1 .int (.sub (.var 0) (.var 1))) (.var 2)))] [.asg 6 (.bin .add (.int 1) (.bin .mod (.b1 .int (.sub (.var 0) (.bin .add (.bin .add (.var 1) (.int 1)) (.var 5)))) (.var 3))), .ifs (.val (.cmp .notin (.var 6) (.var 4))) [.app 4 (.var 6)] []] [5, 6],
  .ret (.b1 .tuple (.b1 .sorted (.var 4)))]⟩
/-- 52: 0 values 1 payment 2 amount 3 count 4 k -/
def f_law_paid : Fn := ⟨3, 5, false, [
  .ifs (.or (.not (.val (.b1 .isTup (.var 1)))) (.val (.cmp .ne (.b1 .len (.var 1)) (.b1 .len (.var 0))))) [.ret (.bl false)] [],
  .ifs (.not (.val (.b1 .all (.comp (.and (.call 9 [(.var 3)]) (.cmp .ge (.var 3) (.int 0))) (.name 3) .seq [(.var 1)] [] [3])))) [.ret (.bl false)] [],
  .ret (.cmp .eq (.b1 .sum (.comp (.bin .mul (.sub (.var 0) (.var 4)) (.sub (.var 1) (.var 4))) (.name 4) .r1 [(.b1 .len (.var 0))] [] [4])) (.var 2))]⟩
/-- 169: 0 payment 1 place -/
def f_law_less : Fn := ⟨2, 2, false, [
  .ret (.bin .add (.bin .add (.shi (.var 0) (.var 1)) (.tup [(.bin .sub (.sub (.var 0) (.var 1)) (.int 1))])) (.slo (.var 0) (.bin .add (.var 1) (.int 1))))]⟩
/-- 170: 0 payment 1 cell 2 there 3 k -/
def f_law_place : Fn := ⟨2, 4, false, [
  .asg 2 (.comp (.var 3) (.name 3) .r1 [(.b1 .len (.var 0))] [(.val (.cmp .gt (.sub (.var 0) (.var 3)) (.int 0)))] [3]),
  .ret (.sub (.var 2) (.bin .mod (.b1 .int (.var 1)) (.b1 .len (.var 2))))]⟩
/-- 171: 0 values 1 amount 2 row 3 best 4 turn 5 place -/
def f_law_best_down : Fn := ⟨3, 6, false, [
  .asg 3 (.call 28 [(.var 0), (.var 1)]),
  .ifs (.or (.not (.val (.call 52 [(.var 0), (.var 3), (.var 1)]))) (.not (.val (.call 10 [(.call 27 [(.var 0), (.var 1)]), (.b1 .sum (.var 3))])))) [.ret (.bl false)] [],
  .for_ (.name 4) .r1 [(.int 4)] [.ifs (.val (.cmp .eq (.b1 .sum (.var 3)) (.int 0))) [.brk] [], .asg 5 (.call 170 [(.var 3), (.sub (.var 2) (.bin .add (.int 20) (.var 4)))]), .asgP [(3, false), (1, false)] [(.call 169 [(.var 3), (.var 5)]), (.bin .sub (.var 1) (.sub (.var 0) (.var 5)))], .ifs (.not (.val (.call 10 [(.call 28 [(.var 0), (.var 1)]), (.var 3)]))) [.ret (.bl false)] []] [4, 5],
  .ret (.call 10 [(.call 27 [(.var 0), (.var 1)]), (.b1 .sum (.var 3))])]⟩
/-- 172: 0 values 1 amount 2 row 3 told 4 turn 5 place -/
def f_law_greedy_down : Fn := ⟨3, 6, false, [
  .asg 3 (.call 49 [(.var 0), (.var 1)]),
  .ifs (.val (.cmp .is (.var 3) .non)) [.ret (.cmp .gt (.sub (.var 0) (.int 0)) (.int 1))] [],
  .ifs (.not (.val (.call 52 [(.var 0), (.var 3), (.var 1)]))) [.ret (.bl false)] [],
  .for_ (.name 4) .r1 [(.int 6)] [.ifs (.val (.cmp .eq (.b1 .sum (.var 3)) (.int 0))) [.brk] [], .asg 5 (.call 170 [(.var 3), (.sub (.var 2) (.bin .add (.int 26) (.var 4)))]), .asgP [(3, false), (1, false)] [(.call 169 [(.var 3), (.var 5)]), (.bin .sub (.var 1) (.sub (.var 0) (.var 5)))], .ifs (.not (.val (.call 10 [(.call 49 [(.var 0), (.var 1)]), (.var 3)]))) [.ret (.bl false)] []] [4, 5],
  .ret (.bl true)]⟩
/-- 173: 0 values 1 purse 2 part 3 row 4 amount 5 told 6 turn 7 place 8 k -/
def f_law_purse_down : Fn := ⟨4, 9, false, [
  .asg 4 (.b1 .sum (.comp (.bin .mul (.sub (.var 0) (.var 8)) (.sub (.var 2) (.var 8))) (.name 8) .r1 [(.b1 .len (.var 0))] [] [8])),
  .asg 5 (.call 168 [(.var 0), (.var 1), (.var 4)]),
  .ifs (.or (.not (.val (.call 52 [(.var 0), (.var 5), (.var 4)]))) (.not (.val (.b1 .all (.comp (.cmp .le (.sub (.var 5) (.var 8)) (.sub (.var 1) (.var 8))) (.name 8) .r1 [(.b1 .len (.var 0))] [] [8]))))) [.ret (.bl false)] [],
  .ifs (.val (.cmp .gt (.b1 .sum (.var 5)) (.b1 .sum (.var 2)))) [.ret (.bl false)] [],
  .for_ (.name 6) .r1 [(.int 3)] [.ifs (.val (.cmp .eq (.b1 .sum (.var 5)) (.int 0))) [.brk] [], .asg 7 (.call 170 [(.var 5), (.sub (.var 3) (.bin .add (.int 32) (.var 6)))]), .asgP [(5, false), (1, false), (4, false)] [(.call 169 [(.var 5), (.var 7)]), (.call 169 [(.var 1), (.var 7)]), (.bin .sub (.var 4) (.sub (.var 0) (.var 7)))], .ifs (.not (.val (.call 10 [(.call 168 [(.var 0), (.var 1), (.var 4)]), (.var 5)]))) [.ret (.bl false)] []] [6, 7],
  .ret (.bl true)]⟩
/-- 174: 0 script 1 row 2 values 3 amount 4 top 5 k 6 room 7 purse 8 part 9 most 10 below 11 high 12 base 13 more 14 best -/
def f_law : Fn := ⟨1, 15, false, [
  .asg 1 (.call 8 [(.var 0), (.int 54)]),
  .asg 2 (.call 159 [(.var 1), (.int 0), (.int 5), (.sub (.tup [(.int 12), (.int 30), (.int 60)]) (.bin .mod (.b1 .int (.sub (.var 1) (.int 6))) (.int 3)))]),
  .asgP [(3, false), (4, false)] [(.int 0), (.int 400)],
  .for_ (.name 5) .r1 [(.b1 .len (.var 2))] [.asg 3 (.bin .add (.var 3) (.bin .mul (.sub (.var 2) (.var 5)) (.bin .mod (.b1 .int (.sub (.var 1) (.bin .add (.int 7) (.var 5)))) (.int 5))))] [5],
  .ifs (.and (.val (.cmp .le (.var 3) (.var 4))) (.or (.not (.val (.call 171 [(.var 2), (.var 3), (.var 1)]))) (.not (.val (.call 172 [(.var 2), (.var 3), (.var 1)]))))) [.ret (.bl false)] [],
  .asg 6 (.sub (.tup [(.int 7), (.int 7), (.int 5), (.int 3), (.int 3)]) (.bin .sub (.b1 .len (.var 2)) (.int 1))),
  .asg 7 (.b1 .tuple (.comp (.bin .mod (.b1 .int (.sub (.var 1) (.bin .add (.int 12) (.var 5)))) (.var 6)) (.name 5) .r1 [(.b1 .len (.var 2))] [] [5])),
  .asg 8 (.b1 .tuple (.comp (.bin .mod (.b1 .int (.sub (.var 1) (.bin .add (.int 38) (.var 5)))) (.bin .add (.sub (.var 7) (.var 5)) (.int 1))) (.name 5) .r1 [(.b1 .len (.var 2))] [] [5])),
  .ifs (.not (.val (.call 173 [(.var 2), (.var 7), (.var 8), (.var 1)]))) [.ret (.bl false)] [],
  .asgP [(9, false), (10, false)] [(.sub (.var 2) (.neg (.int 1))), (.bin .add (.tup [(.int 0)]) (.shi (.var 2) (.neg (.int 1))))],
  .asg 11 (.b2 .max (.int 0) (.bin .add (.bin .sub (.bin .mul (.bin .sub (.var 9) (.int 1)) (.sub (.var 10) (.neg (.int 1)))) (.var 9)) (.int 1))),
  .asgP [(12, false), (13, false)] [(.bin .add (.var 11) (.bin .mod (.b1 .int (.sub (.var 1) (.int 43))) (.int 61))), (.bin .add (.int 1) (.bin .mod (.b1 .int (.sub (.var 1) (.int 44))) (.int 5)))],
  .ifs (.val (.cmp .gt (.bin .add (.var 12) (.bin .mul (.var 13) (.var 9))) (.int 2000))) [.ret (.bl true)] [],
  .asg 14 (.call 28 [(.var 2), (.var 12)]),
  .ifs (.val (.cmp .is (.var 14) .non)) [.ret (.cmp .is (.call 28 [(.var 2), (.bin .add (.var 12) (.bin .mul (.var 13) (.var 9)))]) .non)] [],
  .ifs (.not (.val (.call 52 [(.var 2), (.var 14), (.var 12)]))) [.ret (.bl false)] [],
  .ret (.call 10 [(.call 28 [(.var 2), (.bin .add (.var 12) (.bin .mul (.var 13) (.var 9)))]), (.bin .add (.shi (.var 14) (.neg (.int 1))) (.tup [(.bin .add (.sub (.var 14) (.neg (.int 1))) (.var 13))]))])]⟩
def defs : Nat → Option Fn := fun n => match n with
  | 26 => some f_least_numbers
  | 27 => some f_least_number
  | 28 => some f_best_payment
  | 49 => some f_greedy_payment
  | 165 => some f_is_better
  | 166 => some f_payment_key
  | 167 => some f_parts_of
  | 168 => some f_pay
  | 7 => some f_law_mixed
  | 8 => some f_law_row
  | 9 => some f_law_is_int
  | 10 => some f_law_like
  | 159 => some f_law_coins
  | 52 => some f_law_paid
  | 169 => some f_law_less
  | 170 => some f_law_place
  | 171 => some f_law_best_down
  | 172 => some f_law_greedy_down
  | 173 => some f_law_purse_down
  | 174 => some f_law
  | _ => none
end Rx
end

section
set_option Elab.async false
set_option linter.all false
set_option maxRecDepth 100000
set_option autoImplicit false
/-! RxEq: statements as equations, for simp; lists of numbers. -/
namespace Rx
section
variable {G GI : Nat → List D → Option D} {env : Env} {a b e : E} {x y d : D} {ss : List S} {n : Nat} {q : C} {as bs : List S}
theorem xs_asg : exs G GI env (.asg n e :: ss) = (ev G env e).bind fun d => exs G GI (env.set n (.val d)) ss := by
  rw [exs_cons, ex]; cases ev G env e <;> rfl
theorem xs_asgO : exs G GI env (.asgO n e :: ss) = if isNew e = true then (ev G env e).bind fun d => exs G GI (env.set n (.own d)) ss else none := by
  rw [exs_cons, ex]
  split
  · cases ev G env e <;> rfl
  · rfl
theorem xs_asgT {t : T} : exs G GI env (.asgT t e :: ss) = (ev G env e).bind fun d => (bind t d env).bind fun env' => exs G GI env' ss := by
  rw [exs_cons, ex]; cases ev G env e with
  | none => rfl
  | some d => simp only [Option.bind_some]; cases bind t d env <;> rfl
theorem xs_asgP {is : List (Nat × Bool)} {es : List E} : exs G GI env (.asgP is es :: ss) = (evL G env es).bind fun ds => (stores is ds env).bind fun env' => exs G GI env' ss := by
  rw [exs_cons, ex]; cases evL G env es with
  | none => rfl
  | some d => simp only [Option.bind_some]; cases stores is d env <;> rfl
theorem xs_aug {o : BO} : exs G GI env (.aug n o e :: ss) = (env.val n).bind fun x => (ev G env e).bind fun y => (opA o x y).bind fun z => exs G GI (env.set n (.val z)) ss := by
  rw [exs_cons, ex]; cases env.val n with
  | none => rfl
  | some d => simp only [Option.bind_some]; cases ev G env e with
    | none => rfl
    | some y => simp only [Option.bind_some]; cases opA o d y <;> rfl
theorem xs_sset {k : E} : exs G GI env (.sset n k e :: ss) = (ev G env e).bind fun v => (env.ow n).bind fun x => (ev G env k).bind fun k => (putAt x k v).bind fun d => exs G GI (env.set n (.own d)) ss := by
  rw [exs_cons, ex]; cases ev G env e with
  | none => rfl
  | some v => simp only [Option.bind_some]; cases env.ow n with
    | none => rfl
    | some x => simp only [Option.bind_some]; cases ev G env k with
      | none => rfl
      | some k => simp only [Option.bind_some]; cases putAt x k v <;> rfl
theorem xs_saug {o : BO} {k : E} : exs G GI env (.saug n k o e :: ss) = (env.ow n).bind fun x => (ev G env k).bind fun k => (opSub x k).bind fun y => (ev G env e).bind fun v => (opA o y v).bind fun z => (putAt x k z).bind fun d => exs G GI (env.set n (.own d)) ss := by
  rw [exs_cons, ex]; cases env.ow n with
  | none => rfl
  | some x => simp only [Option.bind_some]; cases ev G env k with
    | none => rfl
    | some k => simp only [Option.bind_some]; cases opSub x k with
      | none => rfl
      | some y => simp only [Option.bind_some]; cases ev G env e with
        | none => rfl
        | some v => simp only [Option.bind_some]; cases opA o y v with
          | none => rfl
          | some z => simp only [Option.bind_some]; cases putAt x k z <;> rfl
theorem xs_ret : exs G GI env (.ret e :: ss) = (ev G env e).map fun d => (.rt d, env) := by
  rw [exs_cons, ex]; cases ev G env e <;> rfl
theorem xs_kill {is : List Nat} : exs G GI env (.kill is :: ss) = exs G GI (env.kill is) ss := exs_kill
theorem xs_frz : exs G GI env (.frz n :: ss) = (env.bor n).bind fun d => exs G GI (env.set n (.val d)) ss := by
  rw [exs_cons, ex]; cases env.bor n <;> rfl
theorem xs_move {m : Nat} : exs G GI env (.move n m :: ss) = (env.ow m).bind fun d => exs G GI ((env.set m .unk).set n (.own d)) ss := by
  rw [exs_cons, ex]; cases env.ow m <;> rfl
theorem xs_brk : exs G GI env (.brk :: ss) = some (.brk, env) := by rw [exs_cons, ex]; rfl
theorem xs_nil : exs G GI env [] = some (.nx, env) := rfl
theorem xs_callIO {f : Nat} {es : List E} : exs G GI env (.callIO f n es :: ss) = (env.ow n).bind fun x => (evL G env es).bind fun ds => (GI f (x :: ds)).bind fun d => exs G GI (env.set n (.own d)) ss := by
  rw [exs_cons, ex]; cases env.ow n with
  | none => rfl
  | some x => simp only [Option.bind_some]; cases evL G env es with
    | none => rfl
    | some ds => simp only [Option.bind_some]; cases GI f (x :: ds) <;> rfl
theorem seqS_nx {e1 : Env} {f : Env → Option (Fl × Env)} : seqS (some (.nx, e1)) f = f e1 := rfl
theorem seqS_rt {e1 : Env} {f : Env → Option (Fl × Env)} : seqS (some (.rt d, e1)) f = some (.rt d, e1) := rfl
theorem seqS_brk {e1 : Env} {f : Env → Option (Fl × Env)} : seqS (some (.brk, e1)) f = some (.brk, e1) := rfl
theorem xs_ifs : exs G GI env (.ifs q as bs :: ss) = (ts G env q).bind fun r => seqS (if r = true then exs G GI env as else exs G GI env bs) fun e => exs G GI e ss := by
  rw [exs_cons, ex]
  cases ts G env q with
  | none => rfl
  | some r => rfl
theorem xs_app {e : E} : exs G GI env (.app n e :: ss) = (env.ow n).bind fun x => (ev G env e).bind fun v => match x with
    | .lst xs => if xs.length < line then exs G GI (env.set n (.own (.lst (xs ++ [v])))) ss else none
    | _ => none := by
  rw [exs_cons, ex]
  cases env.ow n with
  | none => rfl
  | some x => simp only [Option.bind_some]; cases ev G env e with
    | none => rfl
    | some v =>
      simp only [Option.bind_some]
      cases x <;> first | rfl | (simp only; split <;> rfl)
theorem exs_ext {e : E} {xs ys : List D} (ho : env.ow n = some (.lst xs)) (h : ev G env e = some (.lst ys)) (hl : xs.length + ys.length ≤ line) : exs G GI env (.ext n e :: ss) = exs G GI (env.set n (.own (.lst (xs ++ ys)))) ss := by
  rw [exs_cons, ex, ho, h]
  simp only [Option.bind_some]
  rw [if_pos hl]; rfl
theorem exs_callIO {f : Nat} {es : List E} {ds : List D} (ho : env.ow n = some x) (h : evL G env es = some ds) (hg : GI f (x :: ds) = some d) : exs G GI env (.callIO f n es :: ss) = exs G GI (env.set n (.own d)) ss := by
  rw [xs_callIO, ho, Option.bind_some, h, Option.bind_some, hg, Option.bind_some]
theorem exs_forR {t : T} {k : IK} {es : List E} {kl : List Nat} {vs xs : List D} {env' : Env} (h : evL G env es = some vs) (hw : walk k vs = some xs) (hf : forL (fun x e => (bind t x e).bind fun e' => exs G GI e' bs) kl xs env = some (.rt d, env')) :
    exs G GI env (.for_ t k es bs kl :: ss) = some (.rt d, env') := by simp [exs, ex, h, hw, hf, seqS]
end
theorem runI_of {defs : Nat → Option Fn} {c f : Nat} {x : D} {ds : List D} {fn : Fn} {d : D} (hd : defs f = some fn) (hio : fn.io = true) (hl : (x :: ds).length = fn.ps) (h : retI (exs (run defs c) (runI defs c) (.own x :: (ds.map Cell.val ++ List.replicate (fn.ns - fn.ps) .unk)) fn.body) = some d) : runI defs (c + 1) f (x :: ds) = some d := by
  show ((defs f).bind fun fn => if fn.io = true ∧ (x :: ds).length = fn.ps then retI (exs (run defs c) (runI defs c) (fn.start (x :: ds)) fn.body) else none) = some d
  rw [hd]
  show (if fn.io = true ∧ (x :: ds).length = fn.ps then retI (exs (run defs c) (runI defs c) (fn.start (x :: ds)) fn.body) else none) = some d
  rw [if_pos ⟨hio, hl⟩, ← h]
  unfold Fn.start
  rw [hio]; rfl
/-- loops whose turns keep the names -/
theorem forL_same {step : D → Env → Option (Fl × Env)} {kl : List Nat} {env : Env} (hk : env.kill kl = env) : ∀ {xs : List D}, (∀ x ∈ xs, ∃ e', step x env = some (.nx, e') ∧ e'.kill kl = env) → forL step kl xs env = some (.nx, env)
  | [], _ => by rw [forL, hk]
  | x :: xs, h => by
    obtain ⟨e', h1, h2⟩ := h x (List.mem_cons_self ..)
    rw [forL, h1]
    show forL step kl xs (e'.kill kl) = _
    rw [h2]
    exact forL_same hk fun y hy => h y (List.mem_cons_of_mem _ hy)
/-- a loop over data of α, the state in σ -/
theorem forL_foldA {α σ : Type} {step : D → Env → Option (Fl × Env)} {kl : List Nat} (r : α → D) (mk : σ → Env) (g : σ → α → σ) (P : Nat → σ → Prop) :
    ∀ (l : List α) (i : Nat) (s : σ), P i s → (∀ s, (mk s).kill kl = mk s) → (∀ j a s, l[j]? = some a → P (i + j) s → P (i + j + 1) (g s a) ∧ ∃ e', step (r a) (mk s) = some (.nx, e') ∧ e'.kill kl = mk (g s a)) → forL step kl (l.map r) (mk s) = some (.nx, mk (l.foldl g s)) ∧ P (i + l.length) (l.foldl g s)
  | [], i, s, p, hk, _ => ⟨by rw [List.map_nil, forL, hk s]; rfl, p⟩
  | x :: xs, i, s, p, hk, h => by
    obtain ⟨p2, e', h1, h2⟩ := h 0 x s rfl p
    have ih := forL_foldA r mk g P xs (i + 1) (g s x) p2 hk fun j a s hj hp => by
      have := h (j + 1) a s (by simpa using hj) (by rw [show i + (j + 1) = i + 1 + j by omega]; exact hp)
      rw [show i + (j + 1) = i + 1 + j by omega] at this
      exact this
    refine ⟨?_, by rw [List.length_cons, show i + (xs.length + 1) = i + 1 + xs.length by omega]; exact ih.2⟩
    rw [List.map_cons, forL, h1]
    show forL step kl (xs.map r) (e'.kill kl) = _
    rw [h2]; exact ih.1
theorem rgD_nat (n : Nat) : rgD 0 n = (List.range n).map fun (k : Nat) => D.int k := by simp [rgD]
theorem walk_r2 {lo hi : Nat} (h1 : lo < 4611686018427387904) (h2 : hi < 4611686018427387904) : walk .r2 [.int lo, .int hi] = some ((List.range (hi - lo)).map fun (k : Nat) => .int ((lo + k : Nat) : Int)) := by
  simp only [walk]
  rw [if_pos ⟨by omega, by omega, by omega, by omega⟩]
  unfold rgD
  rw [show ((hi : Int) - (lo : Int)).toNat = hi - lo by omega]
  simp
theorem walk_r1m {n : Nat} (h : n < 4611686018427387904) : walk .r1 [.int n] = some ((List.range n).map fun (k : Nat) => D.int k) := by rw [walk_r1 h, rgD_nat]
/-! ### lists of numbers -/
def dV (v : List Nat) : List D := v.map fun (k : Nat) => .int k
def gt (v : List Nat) (i : Nat) : Nat := v.getD i 0
theorem dV_len (v : List Nat) : (dV v).length = v.length := by simp [dV]
theorem dV_get {v : List Nat} {i : Nat} (h : i < v.length) : atI (dV v) (i : Int) = some (.int (gt v i : Nat)) := by
  rw [atI_nat (xs := dV v) (i := i) (d := .int v[i]) (by simp [dV, h])]
  simp [gt, List.getD_eq_getElem?_getD, h]
theorem dV_at {ws : List Nat} {i : Nat} {j : Int} (h : i < ws.length) (hj : j = i) : atI (dV ws) j = some (.int (gt ws i : Nat)) := by
  rw [hj, dV_get h]
theorem gt_lt {v : List Nat} {i : Nat} (h : i < v.length) : gt v i = v[i] := by simp [gt, List.getD_eq_getElem?_getD, h]
theorem gt_mem {v : List Nat} {i : Nat} (h : i < v.length) : gt v i ∈ v := by rw [gt_lt h]; exact List.getElem_mem h
theorem run_rowN {defs : Nat → Option Fn} (h7 : defs 7 = some f_law_mixed) (h8 : defs 8 = some f_law_row) (c : Nat) (ns : List Int) (many : Nat) (hm : many < 1000) : ∃ ws : List Nat, ws.length = many ∧ run defs (c + 2) 8 [.scr ns, .int many] = some (.lst (dV ws)) := by
  obtain ⟨vs, h1, h2, h3⟩ := run_row h7 h8 c ns many hm
  refine ⟨vs.map Int.toNat, by simpa using h1, ?_⟩
  rw [h3]
  congr 2
  unfold dV
  rw [List.map_map]
  refine List.map_congr_left fun v hv => ?_
  have := (h2 v hv).1
  show D.int v = D.int (v.toNat : Nat)
  congr 1; omega
section
variable {G GI : Nat → List D → Option D}
theorem ev_at {env : Env} {ws : List Nat} {i : Nat} {e : E} {v : Nat} {j : Int} (hv : env.bor v = some (.lst (dV ws))) (he : ev G env e = some (.int j)) (h : i < ws.length) (hj : j = i) : ev G env (.b1 .int (.sub (.var v) e)) = some (.int (gt ws i : Nat)) := by
  rw [se_b1, bo_sub, se_sub, bo_var, hv, Option.bind_some, he, Option.bind_some, opSub_lst, dV_at h hj]; rfl
/-- int(row[e]) % m -/
theorem ev_mod {env : Env} {e em : E} {x m : Nat} (he : ev G env e = some (.int (x : Nat))) (hne : ∀ r, bo env e r = r) (hm : bo env em (ev G env em) = some (.int (m : Nat))) (h0 : 0 < m) : ev G env (.bin .mod e em) = some (.int ((x % m : Nat) : Int)) := by
  refine ev_bin_of (by rw [hne, he]) hm ?_
  rw [opB_mod (by omega)]; simp
theorem ev_rowmod {env : Env} {ws : List Nat} {v : Nat} (hv : env.bor v = some (.lst (dV ws))) (i m : Nat) (hi : i < ws.length) (hm : 0 < m) : ev G env (.bin .mod (.b1 .int (.sub (.var v) (.int i))) (.int m)) = some (.int ((gt ws i % m : Nat) : Int)) :=
  ev_mod (ev_at hv se_int hi rfl) (fun _ => bo_b1) (by rw [bo_int, se_int]) hm
theorem ts_call' {env : Env} {f : Nat} {es : List E} {c : Bool} (h : ev G env (.call f es) = some (.bl c)) : ts G env (.val (.call f es)) = some c := ts_val (by rw [bo_call]; exact h) rfl
theorem ev_pure_mul {x y : Nat} (h : x < 18446744073709551616) : opB .mul (.int x) (.int y) = some (.int ((x * y : Nat) : Int)) := by rw [opB_mull (by omega)]; simp
theorem opB_addN {x y : Nat} : opB .add (.int x) (.int y) = some (.int ((x + y : Nat) : Int)) := by rw [opB_add]; simp
theorem opB_modN {x y : Nat} (h : 0 < y) : opB .mod (.int x) (.int y) = some (.int ((x % y : Nat) : Int)) := by rw [opB_mod (by omega)]; simp
theorem opB_fdivN {x y : Nat} (h0 : 0 < y) (h : y < 1073741824) : opB .fdiv (.int x) (.int y) = some (.int ((x / y : Nat) : Int)) := by rw [opB_fdiv (by omega) (by omega)]; simp
theorem opB_subN {x y : Nat} (h : y ≤ x) : opB .sub (.int x) (.int y) = some (.int ((x - y : Nat) : Int)) := by rw [opB_sub]; congr 2; omega
theorem deq_nat {a b : Nat} : decide ((a : Int) = (b : Int)) = decide (a = b) := by
  by_cases h : a = b
  · rw [decide_eq_true h, decide_eq_true (by omega)]
  · rw [decide_eq_false h, decide_eq_false (by omega)]
theorem dle_nat {a b : Nat} : decide ((a : Int) ≤ (b : Int)) = decide (a ≤ b) := by
  by_cases h : a ≤ b
  · rw [decide_eq_true h, decide_eq_true (by omega)]
  · rw [decide_eq_false h, decide_eq_false (by omega)]
theorem dlt_nat {a b : Nat} : decide ((a : Int) < (b : Int)) = decide (a < b) := by
  by_cases h : a < b
  · rw [decide_eq_true h, decide_eq_true (by omega)]
  · rw [decide_eq_false h, decide_eq_false (by omega)]
end
end Rx
end

section
set_option Elab.async false
set_option linter.all false
set_option maxRecDepth 100000
set_option maxHeartbeats 1000000
set_option autoImplicit false
/-! P5: in lists of numbers. -/
namespace Rx
theorem isIn_any (v : List Nat) (k : Nat) (h1 : D.plainL (dV v) = true) (h2 : D.depthL (dV v) = 0) : (dV v).any (fun z => D.eqb z (.int k)) = decide (k ∈ v) := by
  rw [Bool.eq_iff_iff, List.any_eq_true, decide_eq_true_eq]
  constructor
  · rintro ⟨x, hx, he⟩
    obtain ⟨j, hj, rfl⟩ := List.mem_map.mp hx
    have : (j : Int) = (k : Int) := of_decide_eq_true he
    have : j = k := by omega
    exact this ▸ hj
  · intro h
    exact ⟨.int k, List.mem_map.mpr ⟨k, h, rfl⟩, decide_eq_true rfl⟩
theorem isIn_lst (v : List Nat) (k : Nat) : D.isIn (.int k) (.lst (dV v)) = some (decide (k ∈ v)) := by
  have h1 : D.plainL (dV v) = true := plain_ints v
  have h2 : D.depthL (dV v) = 0 := depth_ints v
  have h3 : (D.plain (.int k) && D.plainL (dV v) && decide (D.depth (.int k) < 60) && decide (D.depthL (dV v) < 60)) = true := by
    rw [h1, decide_eq_true (show D.depthL (dV v) < 60 by omega)]; rfl
  have h4 : D.isIn (.int k) (.lst (dV v)) = some ((dV v).any fun z => D.eqb z (.int k)) := if_pos h3
  rw [h4, isIn_any v k h1 h2]
theorem isIn_tup (v : List Nat) (k : Nat) : D.isIn (.int k) (.tup (dV v)) = some (decide (k ∈ v)) := by
  have h1 : D.plainL (dV v) = true := plain_ints v
  have h2 : D.depthL (dV v) = 0 := depth_ints v
  have h3 : (D.plain (.int k) && D.plainL (dV v) && decide (D.depth (.int k) < 60) && decide (D.depthL (dV v) < 60)) = true := by
    rw [h1, decide_eq_true (show D.depthL (dV v) < 60 by omega)]; rfl
  have h4 : D.isIn (.int k) (.tup (dV v)) = some ((dV v).any fun z => D.eqb z (.int k)) := if_pos h3
  rw [h4, isIn_any v k h1 h2]
end Rx
end

section
set_option Elab.async false
set_option linter.all false
set_option maxRecDepth 100000
set_option maxHeartbeats 1000000
set_option autoImplicit false
/-! C1: payments; least payable sums by remainders, in plain Lean. -/
namespace Rx
/-! ### Bezout -/
theorem bezI : ∀ (a b : Nat), ∃ x y : Int, (Nat.gcd a b : Int) = a * x + b * y := by
  intro a b
  induction a, b using Nat.gcd.induction with
  | H0 n => exact ⟨0, 1, by simp⟩
  | H1 m n hm ih =>
    obtain ⟨x, y, h⟩ := ih
    refine ⟨y - (n / m : Nat) * x, x, ?_⟩
    rw [Nat.gcd_rec, h]
    have e : (n : Int) = m * (n / m : Nat) + (n % m : Nat) := by
      have := Nat.div_add_mod n m
      exact_mod_cast this.symm
    have e2 : ((n % m : Nat) : Int) = n - m * (n / m : Nat) := by omega
    rw [e2, Int.mul_sub, Int.sub_mul]
    have : (m : Int) * ((n / m : Nat) * x) = m * (n / m : Nat) * x := by rw [Int.mul_assoc]
    omega
/-- some multiple of a leaves the divisor, times k -/
theorem bez (a b k : Nat) (hb : 0 < b) : ∃ x, (a * x) % b = (Nat.gcd a b * k) % b := by
  obtain ⟨x, y, h⟩ := bezI a b
  refine ⟨((x * k) % (b : Int)).toNat, ?_⟩
  have h0 : 0 ≤ (x * k) % (b : Int) := Int.emod_nonneg _ (by omega)
  have e : (((a * ((x * k) % (b : Int)).toNat % b : Nat)) : Int) = ((Nat.gcd a b * k % b : Nat) : Int) := by
    rw [Int.natCast_emod, Int.natCast_mul, Int.toNat_of_nonneg h0, Int.natCast_emod, Int.natCast_mul, h]
    rw [Int.mul_emod, Int.emod_emod_of_dvd _ (Int.dvd_refl _), ← Int.mul_emod, Int.add_mul, Int.mul_assoc, Int.mul_assoc]
    rw [Int.add_mul_emod_self_left]
  exact_mod_cast e
/-! ### payments -/
def dot : List Nat → List Nat → Nat
  | c :: cs, v :: vs => c * v + dot cs vs
  | _, _ => 0
def Pay (vs : List Nat) (s : Nat) : Prop := ∃ cs : List Nat, cs.length = vs.length ∧ dot cs vs = s
theorem pay_nil {s : Nat} : Pay [] s ↔ s = 0 := by
  constructor
  · rintro ⟨cs, h, rfl⟩
    cases cs with
    | nil => rfl
    | cons c cs => simp at h
  · rintro rfl; exact ⟨[], rfl, rfl⟩
theorem pay_cons {v : Nat} {vs : List Nat} {s : Nat} : Pay (v :: vs) s ↔ ∃ j t, Pay vs t ∧ s = j * v + t := by
  constructor
  · rintro ⟨cs, h, rfl⟩
    cases cs with
    | nil => simp at h
    | cons c cs => exact ⟨c, dot cs vs, ⟨cs, by simpa using h, rfl⟩, rfl⟩
  · rintro ⟨j, t, ⟨cs, h, rfl⟩, rfl⟩
    exact ⟨j :: cs, by simp [h], rfl⟩
theorem pay_zero : ∀ (vs : List Nat), Pay vs 0
  | [] => pay_nil.mpr rfl
  | v :: vs => pay_cons.mpr ⟨0, 0, pay_zero vs, by simp⟩
theorem pay_add : ∀ {vs : List Nat} {s t : Nat}, Pay vs s → Pay vs t → Pay vs (s + t)
  | [], s, t, h1, h2 => by rw [pay_nil] at h1 h2 ⊢; omega
  | v :: vs, s, t, h1, h2 => by
    rw [pay_cons] at h1 h2 ⊢
    obtain ⟨j, s', p1, rfl⟩ := h1
    obtain ⟨k, t', p2, rfl⟩ := h2
    exact ⟨j + k, s' + t', pay_add p1 p2, by rw [Nat.add_mul]; omega⟩
theorem pay_mem : ∀ {vs : List Nat} {v : Nat}, v ∈ vs → Pay vs v
  | u :: vs, v, h => by
    rw [pay_cons]
    rcases List.mem_cons.mp h with rfl | h
    · exact ⟨1, 0, pay_zero vs, by simp⟩
    · exact ⟨0, v, pay_mem h, by simp⟩
theorem pay_mul {vs : List Nat} {s : Nat} (h : Pay vs s) : ∀ k, Pay vs (k * s)
  | 0 => by rw [Nat.zero_mul]; exact pay_zero vs
  | k + 1 => by rw [Nat.succ_mul]; exact pay_add (pay_mul h k) h
theorem pay_app {v : Nat} : ∀ {vs : List Nat} {s : Nat}, Pay (vs ++ [v]) s ↔ ∃ j t, Pay vs t ∧ s = t + j * v
  | [], s => by
    rw [List.nil_append, pay_cons]
    constructor
    · rintro ⟨j, t, h, rfl⟩; exact ⟨j, t, h, by omega⟩
    · rintro ⟨j, t, h, rfl⟩; exact ⟨j, t, h, by omega⟩
  | u :: vs, s => by
    rw [List.cons_append, pay_cons]
    constructor
    · rintro ⟨j, t, h, rfl⟩
      obtain ⟨k, t', h', rfl⟩ := pay_app.mp h
      exact ⟨k, j * u + t', pay_cons.mpr ⟨j, t', h', rfl⟩, by omega⟩
    · rintro ⟨k, t, h, rfl⟩
      obtain ⟨j, t', h', rfl⟩ := pay_cons.mp h
      exact ⟨j, t' + k * v, pay_app.mpr ⟨k, t', h', rfl⟩, by omega⟩
/-- a payment of something has a coin -/
theorem pay_step : ∀ {vs : List Nat} {s : Nat}, Pay vs s → s = 0 ∨ ∃ v ∈ vs, v ≤ s ∧ Pay vs (s - v)
  | [], s, h => .inl (pay_nil.mp h)
  | u :: vs, s, h => by
    obtain ⟨j, t, h', rfl⟩ := pay_cons.mp h
    cases j with
    | succ j =>
      right
      refine ⟨u, List.mem_cons_self .., by rw [Nat.succ_mul]; omega, pay_cons.mpr ⟨j, t, h', by rw [Nat.succ_mul]; omega⟩⟩
    | zero =>
      rcases pay_step h' with h0 | ⟨v, hv, hle, hp⟩
      · left; omega
      · right
        refine ⟨v, List.mem_cons_of_mem _ hv, by omega, pay_cons.mpr ⟨0, t - v, hp, by omega⟩⟩
theorem pay_of_step {vs : List Nat} {v s : Nat} (hv : v ∈ vs) (hle : v ≤ s) (h : Pay vs (s - v)) : Pay vs s := by
  have := pay_add h (pay_mem hv)
  rwa [Nat.sub_add_cancel hle] at this
/-- everything payable is a sum of such -/
theorem pay_ind {vs : List Nat} {P : Nat → Prop} (h0 : P 0) (ha : ∀ s v, v ∈ vs → P s → P (s + v)) : ∀ {s}, Pay vs s → P s := by
  have : ∀ (us : List Nat), (∀ u ∈ us, u ∈ vs) → ∀ s, Pay us s → ∀ b, P b → P (b + s) := by
    intro us
    induction us with
    | nil => intro _ s h b hb; rw [pay_nil] at h; subst h; exact hb
    | cons u us ih =>
      intro hm s h b hb
      obtain ⟨j, t, h', rfl⟩ := pay_cons.mp h
      have hj : ∀ j b, P b → P (b + j * u) := by
        intro j
        induction j with
        | zero => intro b hb; simpa using hb
        | succ j ihj =>
          intro b hb
          have := ha _ u (hm u (List.mem_cons_self ..)) (ihj b hb)
          rw [Nat.succ_mul, ← Nat.add_assoc]; exact this
      have := ih (fun u hu => hm u (List.mem_cons_of_mem _ hu)) t h' _ (hj j b hb)
      rw [← Nat.add_assoc]; exact this
  intro s h
  have := this vs (fun _ h => h) s h 0 h0
  rwa [Nat.zero_add] at this
theorem pay_sub {vs us : List Nat} (h : ∀ v ∈ vs, Pay us v) {s : Nat} (p : Pay vs s) : Pay us s :=
  pay_ind (vs := vs) (P := Pay us) (pay_zero us) (fun s v hv ps => pay_add ps (h v hv)) p
/-! ### the table of least sums -/
/-- what stands at r, at most s -/
def Le (F : List (Option Nat)) (r s : Nat) : Prop := ∃ m, F[r]? = some (some m) ∧ m ≤ s
def relaxN (v : Nat) (F : List (Option Nat)) (rest : Nat) : List (Option Nat) :=
  match F.getD rest none with
  | none => F
  | some m => match F.getD ((rest + v) % F.length) none with
    | none => F.set ((rest + v) % F.length) (some (m + v))
    | some k => if m + v < k then F.set ((rest + v) % F.length) (some (m + v)) else F
theorem relaxN_len (v : Nat) (F : List (Option Nat)) (rest : Nat) : (relaxN v F rest).length = F.length := by
  unfold relaxN
  split
  · rfl
  · split
    · simp
    · split <;> simp
def layN (v : Nat) : Nat → List (Option Nat) → Nat → List (Option Nat)
  | 0, F, _ => F
  | k + 1, F, rest => layN v k (relaxN v F rest) ((rest + v) % F.length)
theorem layN_len (v : Nat) : ∀ (k : Nat) (F : List (Option Nat)) (rest : Nat), (layN v k F rest).length = F.length
  | 0, _, _ => rfl
  | k + 1, F, rest => by rw [layN, layN_len, relaxN_len]
def startsN (v steps : Nat) : Nat → List (Option Nat) → List (Option Nat)
  | 0, F => F
  | k + 1, F => layN v steps (startsN v steps k F) k
theorem startsN_len (v steps : Nat) : ∀ (k : Nat) (F : List (Option Nat)), (startsN v steps k F).length = F.length
  | 0, _ => rfl
  | k + 1, F => by rw [startsN, layN_len, startsN_len]
def valueN (n : Nat) (F : List (Option Nat)) (v : Nat) : List (Option Nat) := startsN v (2 * n / Nat.gcd n v) (Nat.gcd n v) F
def firstN (vs : List Nat) : List (Option Nat) := match vs with
  | [] => []
  | a :: us => us.foldl (valueN a) ((List.replicate a none).set 0 (some 0))
section
variable {v : Nat} {F : List (Option Nat)}
theorem getD_some {r m : Nat} (h : F.getD r none = some m) : F[r]? = some (some m) := by
  rw [List.getD_eq_getElem?_getD] at h
  cases e : F[r]? with
  | none => rw [e] at h; cases h
  | some x => rw [e] at h; simp at h; rw [h]
/-- what stands only gets less -/
theorem relaxN_le {rest r s : Nat} (h : Le F r s) : Le (relaxN v F rest) r s := by
  obtain ⟨m, h1, h2⟩ := h
  have hr := (List.getElem?_eq_some_iff.mp h1).1
  unfold relaxN
  split
  · exact ⟨m, h1, h2⟩
  · rename_i q hq
    have key : ∀ (k : Nat), (∀ k', F.getD ((rest + v) % F.length) none = some k' → q + v ≤ k') → Le (F.set ((rest + v) % F.length) (some (q + v))) r s := by
      intro _ hk
      by_cases e : (rest + v) % F.length = r
      · rw [e]
        refine ⟨q + v, by simp [hr], ?_⟩
        have := hk m (by rw [e, List.getD_eq_getElem?_getD, h1]; rfl)
        omega
      · exact ⟨m, by rw [List.getElem?_set_ne e]; exact h1, h2⟩
    split
    · rename_i hn
      exact key 0 fun k' hk' => by rw [hn] at hk'; cases hk'
    · rename_i k hk
      split
      · rename_i hlt
        exact key 0 fun k' hk' => by rw [hk] at hk'; cases hk'; omega
      · exact ⟨m, h1, h2⟩
theorem relaxN_new {rest s : Nat} (hF : 0 < F.length) (h : Le F rest s) : Le (relaxN v F rest) ((rest + v) % F.length) (s + v) := by
  obtain ⟨m, h1, h2⟩ := h
  have hr : (rest + v) % F.length < F.length := Nat.mod_lt _ hF
  have hm : F.getD rest none = some m := by rw [List.getD_eq_getElem?_getD, h1]; rfl
  unfold relaxN
  rw [hm]
  simp only
  split
  · exact ⟨m + v, by simp [hr], by omega⟩
  · rename_i k hk
    split
    · exact ⟨m + v, by simp [hr], by omega⟩
    · exact ⟨k, getD_some hk, by omega⟩
/-- what stands is right -/
def Right (P : Nat → Prop) (n : Nat) (F : List (Option Nat)) : Prop := ∀ r m, F[r]? = some (some m) → m % n = r ∧ P m
theorem relaxN_right {P : Nat → Prop} {n rest : Nat} (hl : F.length = n) (hP : ∀ m, P m → P (m + v)) (h : Right P n F) : Right P n (relaxN v F rest) := by
  unfold relaxN
  split
  · exact h
  · rename_i q hq
    have hq' := h rest q (getD_some hq)
    have key : Right P n (F.set ((rest + v) % F.length) (some (q + v))) := by
      intro r m hm
      by_cases e : (rest + v) % F.length = r
      · rw [e] at hm
        by_cases hr : r < F.length
        · rw [List.getElem?_set_self hr] at hm
          cases hm
          refine ⟨?_, hP q hq'.2⟩
          rw [← e, hl, ← hq'.1, Nat.add_mod q v n, Nat.add_mod (q % n) v n, Nat.mod_mod]
        · rw [List.getElem?_eq_none (by simpa using hr)] at hm; cases hm
      · rw [List.getElem?_set_ne e] at hm; exact h r m hm
    split
    · exact key
    · split
      · exact key
      · exact h
theorem layN_le {r s : Nat} : ∀ (k : Nat) {F : List (Option Nat)} {rest : Nat}, Le F r s → Le (layN v k F rest) r s
  | 0, _, _, h => h
  | k + 1, F, rest, h => layN_le k (relaxN_le h)
theorem layN_right {P : Nat → Prop} {n : Nat} (hP : ∀ m, P m → P (m + v)) : ∀ (k : Nat) {F : List (Option Nat)} {rest : Nat}, F.length = n → Right P n F → Right P n (layN v k F rest)
  | 0, _, _, _, h => h
  | k + 1, F, rest, hl, h => layN_right hP k (by rw [relaxN_len]; exact hl) (relaxN_right hl hP h)
/-- from a place on the round j coins on -/
theorem layN_on {n : Nat} (hn : 0 < n) : ∀ (k i j : Nat) {F : List (Option Nat)} {rest s : Nat}, F.length = n → rest < n → i + j ≤ k → Le F ((rest + i * v) % n) s → Le (layN v k F rest) ((rest + (i + j) * v) % n) (s + j * v)
  | 0, i, j, F, rest, s, hl, hr, hk, h => by
    obtain rfl : i = 0 := by omega
    obtain rfl : j = 0 := by omega
    simpa [layN] using h
  | k + 1, 0, 0, F, rest, s, hl, hr, hk, h => by
    have := layN_le (v := v) (k + 1) (rest := rest) h
    simpa using this
  | k + 1, 0, j + 1, F, rest, s, hl, hr, hk, h => by
    rw [layN, hl]
    rw [Nat.zero_mul, Nat.add_zero, Nat.mod_eq_of_lt hr] at h
    have h1 := relaxN_new (v := v) (by rw [hl]; exact hn) h
    rw [hl] at h1
    have hlt : (rest + v) % n < n := Nat.mod_lt _ hn
    have := layN_on hn k 0 j (F := relaxN v F rest) (rest := (rest + v) % n) (s := s + v) (by rw [relaxN_len]; exact hl) hlt (by omega) (by rw [Nat.zero_mul, Nat.add_zero, Nat.mod_eq_of_lt hlt]; exact h1)
    rw [Nat.zero_add] at this ⊢
    have e1 : ((rest + v) % n + j * v) % n = (rest + (j + 1) * v) % n := by
      rw [Nat.add_mod, Nat.mod_mod, ← Nat.add_mod, Nat.succ_mul]; congr 1; omega
    have e2 : s + v + j * v = s + (j + 1) * v := by rw [Nat.succ_mul]; omega
    rw [e1, e2] at this
    exact this
  | k + 1, i + 1, j, F, rest, s, hl, hr, hk, h => by
    rw [layN, hl]
    have e1 : ∀ x, ((rest + v) % n + x * v) % n = (rest + (x + 1) * v) % n := fun x => by
      rw [Nat.add_mod, Nat.mod_mod, ← Nat.add_mod, Nat.succ_mul]; congr 1; omega
    have := layN_on hn k i j (F := relaxN v F rest) (rest := (rest + v) % n) (s := s) (by rw [relaxN_len]; exact hl) (Nat.mod_lt _ hn) (by omega) (by rw [e1]; exact relaxN_le h)
    rw [e1, show i + j + 1 = i + 1 + j by omega] at this
    exact this
theorem startsN_le {r s steps : Nat} : ∀ (k : Nat) {F : List (Option Nat)}, Le F r s → Le (startsN v steps k F) r s
  | 0, _, h => h
  | k + 1, F, h => layN_le _ (startsN_le k h)
theorem startsN_right {P : Nat → Prop} {n steps : Nat} (hP : ∀ m, P m → P (m + v)) : ∀ (k : Nat) {F : List (Option Nat)}, F.length = n → Right P n F → Right P n (startsN v steps k F)
  | 0, _, _, h => h
  | k + 1, F, hl, h => layN_right hP _ (by rw [startsN_len]; exact hl) (startsN_right hP k hl h)
theorem startsN_on {n steps : Nat} (hn : 0 < n) : ∀ (k : Nat) {F : List (Option Nat)} {st i j s : Nat}, F.length = n → st < k → k ≤ n → i + j ≤ steps → Le F ((st + i * v) % n) s → Le (startsN v steps k F) ((st + (i + j) * v) % n) (s + j * v)
  | k + 1, F, st, i, j, s, hl, hs, hk, hij, h => by
    by_cases e : st = k
    · subst e
      exact layN_on hn steps i j (by rw [startsN_len]; exact hl) (by omega) hij (startsN_le st h)
    · exact layN_le _ (startsN_on hn k hl (by omega) (by omega) hij h)
/-- the table tells P -/
structure Table (P : Nat → Prop) (n : Nat) (F : List (Option Nat)) : Prop where
  len : F.length = n
  ri : Right P n F
  le : ∀ s, P s → Le F (s % n) s
theorem valueN_table {P : Nat → Prop} {n : Nat} (hn : 0 < n) (hv : 0 < v) (hP : ∀ s, P s → P (s + n)) (h : Table P n F) : Table (fun s => ∃ j t, P t ∧ s = t + j * v) n (valueN n F v) := by
  have hd : 0 < Nat.gcd n v := Nat.gcd_pos_of_pos_left _ hn
  have hdn : Nat.gcd n v ∣ n := Nat.gcd_dvd_left n v
  have hdv : Nat.gcd n v ∣ v := Nat.gcd_dvd_right n v
  refine ⟨by unfold valueN; rw [startsN_len]; exact h.len, ?_, ?_⟩
  · refine startsN_right (fun m ⟨j, t, ht, e⟩ => ⟨j + 1, t, ht, by rw [e, Nat.succ_mul]; omega⟩) _ h.len fun r m hm => ?_
    obtain ⟨h1, h2⟩ := h.ri r m hm
    exact ⟨h1, 0, m, h2, by simp⟩
  · rintro s ⟨j, t, ht, rfl⟩
    have hPm : ∀ k s, P s → P (s + k * n) := by
      intro k
      induction k with
      | zero => intro s hs; simpa using hs
      | succ k ih => intro s hs; rw [Nat.succ_mul, ← Nat.add_assoc]; exact hP _ (ih s hs)
    obtain ⟨q, hq⟩ := hdv
    obtain ⟨L, hL⟩ := hdn
    have hsteps : 2 * n / Nat.gcd n v = 2 * L := by
      have : 2 * n = Nat.gcd n v * (2 * L) := by
        calc 2 * n = 2 * (Nat.gcd n v * L) := by rw [← hL]
          _ = _ := by ac_rfl
      rw [this, Nat.mul_div_cancel_left _ hd]
    have hb := fun k => bez v n k hn
    rw [Nat.gcd_comm v n] at hb
    unfold valueN
    rw [hsteps]
    generalize Nat.gcd n v = d at *
    have hL0 : 0 < L := by
      rcases Nat.eq_zero_or_pos L with z | z
      · rw [z] at hL; omega
      · exact z
    have hdn : d ≤ n := by rw [hL]; exact Nat.le_mul_of_pos_right _ hL0
    have hLv : L * v = q * n := by rw [hq, hL]; ac_rfl
    -- fewer coins
    have ht' : P (t + j / L * q * n) := hPm _ t ht
    have hs : t + j * v = (t + j / L * q * n) + j % L * v := by
      have e := Nat.div_add_mod j L
      have : j * v = j / L * (L * v) + j % L * v := by
        calc j * v = (L * (j / L) + j % L) * v := by rw [e]
          _ = L * (j / L) * v + j % L * v := Nat.add_mul _ _ _
          _ = _ := by rw [show L * (j / L) * v = j / L * (L * v) by ac_rfl]
      rw [this, hLv, Nat.mul_assoc, Nat.add_assoc]
    have hj : j % L < L := Nat.mod_lt _ hL0
    rw [hs]
    generalize t + j / L * q * n = t' at ht' ⊢
    generalize j % L = j' at hj ⊢
    obtain ⟨x, hx⟩ := hb (t' / d)
    have hst : t' % d < d := Nat.mod_lt _ hd
    have hplace : ∀ y, (t' % d + (x % L + y) * v) % n = (t' + y * v) % n := by
      intro y
      have e1 : x * v = x / L * q * n + x % L * v := by
        have e := Nat.div_add_mod x L
        calc x * v = (L * (x / L) + x % L) * v := by rw [e]
          _ = L * (x / L) * v + x % L * v := Nat.add_mul _ _ _
          _ = x / L * (L * v) + x % L * v := by rw [show L * (x / L) * v = x / L * (L * v) by ac_rfl]
          _ = x / L * (q * n) + x % L * v := by rw [hLv]
          _ = _ := by rw [Nat.mul_assoc]
      have e2 : (t' % d + x * v) % n = t' % n := by
        rw [Nat.add_mod, Nat.mul_comm x v, hx, ← Nat.add_mod]
        congr 1
        have := Nat.mod_add_div t' d
        omega
      have e3 : (t' % d + (x % L + y) * v) + x / L * q * n = (t' % d + x * v) + y * v := by
        rw [e1, Nat.add_mul]; omega
      have e4 : (t' % d + (x % L + y) * v) % n = ((t' % d + (x % L + y) * v) + x / L * q * n) % n := by rw [Nat.add_mul_mod_self_right]
      rw [e4, e3, Nat.add_mod, e2, ← Nat.add_mod]
    have h0 : Le F ((t' % d + x % L * v) % n) t' := by
      have := hplace 0
      rw [Nat.add_zero, Nat.zero_mul, Nat.add_zero] at this
      rw [this]; exact h.le t' ht'
    have hxl : x % L < L := Nat.mod_lt _ hL0
    have := startsN_on (v := v) (steps := 2 * L) hn d (i := x % L) (j := j') h.len hst hdn (by omega) h0
    rw [hplace] at this
    exact this
theorem table_first {n : Nat} (hn : 0 < n) : Table (Pay [n]) n ((List.replicate n none).set 0 (some 0)) := by
  refine ⟨by simp, fun r m hm => ?_, fun s hs => ?_⟩
  · by_cases e : 0 = r
    · subst e
      rw [List.getElem?_set_self (by simpa using hn)] at hm
      cases hm
      exact ⟨Nat.zero_mod _, pay_zero _⟩
    · rw [List.getElem?_set_ne e, List.getElem?_replicate] at hm
      split at hm <;> cases hm
  · obtain ⟨j, t, ht, rfl⟩ := pay_cons.mp hs
    rw [pay_nil] at ht
    subst ht
    rw [Nat.add_zero, Nat.mul_mod_left]
    exact ⟨0, by rw [List.getElem?_set_self (by simpa using hn)], Nat.zero_le _⟩
theorem Table.congr {P Q : Nat → Prop} {n : Nat} {F : List (Option Nat)} (h : Table P n F) (e : ∀ s, P s ↔ Q s) : Table Q n F :=
  ⟨h.len, fun r m hm => ⟨(h.ri r m hm).1, (e m).mp (h.ri r m hm).2⟩, fun s hs => h.le s ((e s).mpr hs)⟩
/-- the table of a coinage -/
theorem table_fold {n : Nat} (hn : 0 < n) : ∀ (us vs : List Nat) (F : List (Option Nat)), n ∈ vs → (∀ u ∈ us, 0 < u) → Table (Pay vs) n F → Table (Pay (vs ++ us)) n (us.foldl (valueN n) F)
  | [], vs, F, _, _, h => by rw [List.append_nil]; exact h
  | u :: us, vs, F, hm, hu, h => by
    have h1 := (valueN_table hn (hu u (List.mem_cons_self ..)) (fun s hs => pay_add hs (pay_mem hm)) h).congr fun s => (pay_app (v := u) (vs := vs) (s := s)).symm
    have := table_fold hn us (vs ++ [u]) _ (List.mem_append_left _ hm) (fun w hw => hu w (List.mem_cons_of_mem _ hw)) h1
    rw [List.append_assoc] at this
    exact this
theorem table_of {n : Nat} {us : List Nat} (hn : 0 < n) (hu : ∀ u ∈ us, 0 < u) : Table (Pay (n :: us)) n (firstN (n :: us)) :=
  table_fold hn us [n] _ (List.mem_cons_self ..) hu (table_first hn)
/-- the least payable sum that leaves r -/
def fst (vs : List Nat) (r : Nat) : Option Nat := (firstN vs).getD r none
/-- payable, told by the table -/
def reached (F : List (Option Nat)) (s : Nat) : Bool := match F.getD (s % F.length) none with | none => false | some m => decide (m ≤ s)
theorem reached_iff {P : Nat → Prop} {n : Nat} {F : List (Option Nat)} (hn : 0 < n) (hP : ∀ s, P s → P (s + n)) (h : Table P n F) (s : Nat) : reached F s = true ↔ P s := by
  have hPm : ∀ k s, P s → P (s + k * n) := by
    intro k
    induction k with
    | zero => intro s hs; simpa using hs
    | succ k ih => intro s hs; rw [Nat.succ_mul, ← Nat.add_assoc]; exact hP _ (ih s hs)
  unfold reached
  rw [h.len]
  constructor
  · intro hr
    cases hm : F.getD (s % n) none with
    | none => rw [hm] at hr; cases hr
    | some m =>
      rw [hm] at hr
      have hle : m ≤ s := of_decide_eq_true hr
      obtain ⟨h1, h2⟩ := h.ri _ _ (getD_some hm)
      have e : s = m + (s - m) / n * n := by
        have hd : n ∣ s - m := Nat.dvd_of_mod_eq_zero (Nat.sub_mod_eq_zero_of_mod_eq h1.symm)
        rw [Nat.div_mul_cancel hd]; omega
      rw [e]; exact hPm _ m h2
  · intro hp
    obtain ⟨m, h1, h2⟩ := h.le s hp
    have : F.getD (s % n) none = some m := by rw [List.getD_eq_getElem?_getD, h1]; rfl
    rw [this]
    exact decide_eq_true h2
theorem reached_pay {n : Nat} {us : List Nat} (hn : 0 < n) (hu : ∀ u ∈ us, 0 < u) (s : Nat) : reached (firstN (n :: us)) s = true ↔ Pay (n :: us) s :=
  reached_iff hn (fun s hs => pay_add hs (pay_mem (List.mem_cons_self ..))) (table_of hn hu) s
end
end Rx
end

section
set_option Elab.async false
set_option linter.all false
set_option maxRecDepth 100000
set_option maxHeartbeats 1000000
set_option autoImplicit false
/-! P6: payments by counts, least numbers, the best payment. -/
namespace Rx
def bump (cs : List Nat) (i : Nat) : List Nat := cs.set i (gt cs i + 1)
def unb (cs : List Nat) (i : Nat) : List Nat := cs.set i (gt cs i - 1)
theorem gt_set {cs : List Nat} {i j x : Nat} (hi : i < cs.length) : gt (cs.set i x) j = if i = j then x else gt cs j := by
  unfold gt
  rw [List.getD_eq_getElem?_getD, List.getD_eq_getElem?_getD, List.getElem?_set]
  by_cases h : i = j
  · subst h; simp [hi]
  · simp [h]
theorem gt_ge {cs : List Nat} {i : Nat} (h : cs.length ≤ i) : gt cs i = 0 := by simp [gt, List.getD_eq_getElem?_getD, List.getElem?_eq_none h]
theorem gt_bump {cs : List Nat} {i j : Nat} (hi : i < cs.length) : gt (bump cs i) j = gt cs j + (if i = j then 1 else 0) := by
  unfold bump
  rw [gt_set hi]
  by_cases h : i = j
  · subst h; simp
  · simp [h]
theorem dot_bump : ∀ {cs vs : List Nat} {i : Nat}, cs.length = vs.length → i < cs.length → dot (bump cs i) vs = dot cs vs + gt vs i
  | c :: cs, v :: vs, 0, _, _ => by
    show (c + 1) * v + dot cs vs = c * v + dot cs vs + v
    rw [Nat.succ_mul]; omega
  | c :: cs, v :: vs, i + 1, h, hi => by
    have := dot_bump (cs := cs) (vs := vs) (i := i) (by simpa using h) (by simpa using hi)
    show c * v + dot (bump cs i) vs = c * v + dot cs vs + gt vs i
    omega
  | [], _, _, _, hi => by simp at hi
  | _ :: _, [], _, h, _ => by simp at h
theorem sum_bump : ∀ {cs : List Nat} {i : Nat}, i < cs.length → (bump cs i).sum = cs.sum + 1
  | c :: cs, 0, _ => by
    show ((c + 1) :: cs).sum = _
    rw [List.sum_cons, List.sum_cons]; omega
  | c :: cs, i + 1, hi => by
    have := sum_bump (cs := cs) (i := i) (by simpa using hi)
    show (c :: bump cs i).sum = _
    rw [List.sum_cons, List.sum_cons]; omega
  | [], _, hi => by simp at hi
theorem bump_len {cs : List Nat} {i : Nat} : (bump cs i).length = cs.length := by simp [bump]
theorem unb_len {cs : List Nat} {i : Nat} : (unb cs i).length = cs.length := by simp [unb]
theorem ext_gt {a b : List Nat} (hl : a.length = b.length) (h : ∀ i, i < a.length → gt a i = gt b i) : a = b :=
  List.ext_getElem hl fun i h1 h2 => by rw [← gt_lt h1, ← gt_lt h2]; exact h i h1
theorem gt_unb {cs : List Nat} {i j : Nat} (hi : i < cs.length) : gt (unb cs i) j = if i = j then gt cs i - 1 else gt cs j := gt_set hi
theorem bump_un {cs : List Nat} {i : Nat} (hi : i < cs.length) (h : 0 < gt cs i) : bump (unb cs i) i = cs :=
  ext_gt (by rw [bump_len, unb_len]) fun j _ => by
    rw [gt_bump (by rw [unb_len]; exact hi), gt_unb hi]
    by_cases e : i = j
    · subst e; simp; omega
    · simp [e]
theorem dot_zero : ∀ {cs vs : List Nat}, (∀ i, i < cs.length → gt cs i = 0) → dot cs vs = 0 ∧ cs.sum = 0
  | [], _, _ => ⟨by rw [dot]; simp, rfl⟩
  | c :: cs, vs, h => by
    have h0 : c = 0 := h 0 (by simp)
    obtain ⟨h1, h2⟩ := dot_zero (cs := cs) (vs := vs.tail) fun i hi => h (i + 1) (by simpa using hi)
    subst h0
    refine ⟨?_, by rw [List.sum_cons, h2]⟩
    cases vs with
    | nil => rw [dot]; simp
    | cons v vs => show 0 * v + dot cs vs = 0; rw [Nat.zero_mul, Nat.zero_add]; exact h1
/-- counts less counts -/
def subL (b c : List Nat) : List Nat := List.zipWith (· - ·) b c
theorem subL_len {b c : List Nat} (h : b.length = c.length) : (subL b c).length = c.length := by simp [subL, h]
theorem gt_subL {b c : List Nat} (h : b.length = c.length) (i : Nat) : gt (subL b c) i = gt b i - gt c i := by
  by_cases hi : i < c.length
  · rw [gt_lt (by rw [subL_len h]; exact hi), gt_lt (by omega), gt_lt hi]; simp [subL]
  · rw [gt_ge (by rw [subL_len h]; omega), gt_ge (by omega)]; simp
theorem dot_sub : ∀ {b c vs : List Nat}, b.length = c.length → c.length = vs.length → (∀ i, gt c i ≤ gt b i) → dot (subL b c) vs + dot c vs = dot b vs ∧ (subL b c).sum + c.sum = b.sum
  | [], [], vs, _, _, _ => by simp [subL, dot]
  | x :: b, y :: c, v :: vs, h1, h2, h => by
    obtain ⟨i1, i2⟩ := dot_sub (b := b) (c := c) (vs := vs) (by simpa using h1) (by simpa using h2) fun i => h (i + 1)
    have h0 : y ≤ x := h 0
    refine ⟨?_, ?_⟩
    · show (x - y) * v + dot (subL b c) vs + (y * v + dot c vs) = x * v + dot b vs
      have : (x - y) * v + y * v = x * v := by rw [← Nat.add_mul]; congr 1; omega
      omega
    · show ((x - y) :: subL b c).sum + (y :: c).sum = (x :: b).sum
      simp only [List.sum_cons]; omega
  | [], _ :: _, _, h, _, _ => by simp at h
  | _ :: _, [], _, h, _, _ => by simp at h
  | _ :: _, _ :: _, [], _, h, _ => by simp at h
/-! payments -/
structure Pays (vs : List Nat) (s k : Nat) (cs : List Nat) : Prop where
  len : cs.length = vs.length
  val : dot cs vs = s
  num : cs.sum = k
section
variable {vs : List Nat} {s k i : Nat} {cs : List Nat}
theorem Pays.bump (h : Pays vs s k cs) (hi : i < vs.length) : Pays vs (s + gt vs i) (k + 1) (bump cs i) :=
  ⟨by rw [bump_len]; exact h.len, by rw [dot_bump h.len (by rw [h.len]; exact hi), h.val], by rw [sum_bump (by rw [h.len]; exact hi), h.num]⟩
theorem Pays.un (h : Pays vs s k cs) (hi : i < vs.length) (hp : 0 < gt cs i) : gt vs i ≤ s ∧ 1 ≤ k ∧ Pays vs (s - gt vs i) (k - 1) (unb cs i) := by
  have hi' : i < (unb cs i).length := by rw [unb_len, h.len]; exact hi
  have e := bump_un (by rw [h.len]; exact hi) hp
  have h1 := dot_bump (cs := unb cs i) (vs := vs) (by rw [unb_len]; exact h.len) hi'
  have h2 := sum_bump hi'
  rw [e] at h1 h2
  rw [h.val] at h1
  rw [h.num] at h2
  exact ⟨by omega, by omega, by rw [unb_len]; exact h.len, by omega, by omega⟩
theorem Pays.some (h : Pays vs s k cs) (hs : 0 < s) : ∃ i, i < vs.length ∧ 0 < gt cs i := by
  apply Classical.byContradiction
  intro hn
  have := (dot_zero (cs := cs) (vs := vs) fun i hi => Nat.eq_zero_of_not_pos fun q => hn ⟨i, by rw [← h.len]; exact hi, q⟩).1
  rw [h.val] at this; omega
theorem pays_zero (vs : List Nat) : Pays vs 0 0 (List.replicate vs.length 0) := by
  obtain ⟨h1, h2⟩ := dot_zero (cs := List.replicate vs.length 0) (vs := vs) fun i hi => by rw [gt_lt hi]; simp
  exact ⟨by simp, h1, h2⟩
def PayN (vs : List Nat) (s k : Nat) : Prop := ∃ cs, Pays vs s k cs
def LeastIs (vs : List Nat) (s : Nat) : Option Nat → Prop
  | none => ∀ k, ¬ PayN vs s k
  | some k => PayN vs s k ∧ ∀ j, PayN vs s j → k ≤ j
theorem least_uniq {o o' : Option Nat} (h : LeastIs vs s o) (h' : LeastIs vs s o') : o = o' := by
  cases o with
  | none =>
    cases o' with
    | none => rfl
    | some k => exact absurd h'.1 (h k)
  | some k =>
    cases o' with
    | none => exact absurd h.1 (h' k)
    | some k' =>
      have h1 := h.2 k' h'.1
      have h2 := h'.2 k h.1
      rw [show k = k' by omega]
theorem payN_zero (hv : ∀ v ∈ vs, 0 < v) (h : PayN vs 0 k) : k = 0 := by
  obtain ⟨cs, h⟩ := h
  refine Nat.eq_zero_of_not_pos fun hk => ?_
  have : ∃ i, i < vs.length ∧ 0 < gt cs i := by
    apply Classical.byContradiction
    intro hn
    have := (dot_zero (cs := cs) (vs := vs) fun i hi => Nat.eq_zero_of_not_pos fun q => hn ⟨i, by rw [← h.len]; exact hi, q⟩).2
    rw [h.num] at this; omega
  obtain ⟨i, hi, hp⟩ := this
  have := (h.un hi hp).1
  have := hv _ (gt_mem hi)
  omega
theorem least_zero (hv : ∀ v ∈ vs, 0 < v) : LeastIs vs 0 (some 0) := ⟨⟨_, pays_zero vs⟩, fun j _ => Nat.zero_le j⟩
/-! the table -/
def minF (b : Nat) (bs : List Nat) : Nat := bs.foldl (fun m x => if x < m then x else m) b
theorem minF_le : ∀ (b : Nat) (bs : List Nat), minF b bs ≤ b ∧ ∀ x ∈ bs, minF b bs ≤ x
  | b, [] => ⟨Nat.le_refl _, by simp⟩
  | b, x :: bs => by
    obtain ⟨h1, h2⟩ := minF_le (if x < b then x else b) bs
    show minF (if x < b then x else b) bs ≤ b ∧ ∀ y ∈ x :: bs, minF (if x < b then x else b) bs ≤ y
    by_cases q : x < b
    · rw [if_pos q] at h1 h2 ⊢
      refine ⟨by omega, fun y hy => ?_⟩
      rcases List.mem_cons.mp hy with rfl | hy
      · exact h1
      · exact h2 y hy
    · rw [if_neg q] at h1 h2 ⊢
      refine ⟨h1, fun y hy => ?_⟩
      rcases List.mem_cons.mp hy with rfl | hy
      · omega
      · exact h2 y hy
theorem minF_mem : ∀ (b : Nat) (bs : List Nat), minF b bs ∈ b :: bs
  | b, [] => List.mem_cons_self ..
  | b, x :: bs => by
    have := minF_mem (if x < b then x else b) bs
    show minF (if x < b then x else b) bs ∈ _
    by_cases q : x < b
    · rw [if_pos q] at this ⊢; exact List.mem_cons_of_mem _ this
    · rw [if_neg q] at this ⊢
      rcases List.mem_cons.mp this with h | h
      · rw [h]; exact List.mem_cons_self ..
      · exact List.mem_cons_of_mem _ (List.mem_cons_of_mem _ h)
def bef (vs : List Nat) (F : List (Option Nat)) (a : Nat) : List Nat := ((vs.filter fun v => decide (v ≤ a)).map fun v => F.getD (a - v) none).filterMap id
theorem bef_mem {F : List (Option Nat)} {a b : Nat} : b ∈ bef vs F a ↔ ∃ i, i < vs.length ∧ gt vs i ≤ a ∧ F.getD (a - gt vs i) none = some b := by
  unfold bef
  rw [List.mem_filterMap]
  constructor
  · rintro ⟨x, hx, e⟩
    obtain ⟨v, hv, rfl⟩ := List.mem_map.mp hx
    obtain ⟨h1, h2⟩ := List.mem_filter.mp hv
    obtain ⟨i, hi, he⟩ := List.getElem_of_mem h1
    have he : gt vs i = v := by rw [gt_lt hi]; exact he
    exact ⟨i, hi, by rw [he]; exact of_decide_eq_true h2, by rw [he]; exact e⟩
  · rintro ⟨i, hi, h1, h2⟩
    exact ⟨some b, List.mem_map.mpr ⟨gt vs i, List.mem_filter.mpr ⟨gt_mem hi, decide_eq_true h1⟩, h2⟩, rfl⟩
def entryN (vs : List Nat) (F : List (Option Nat)) (a : Nat) : Option Nat := match bef vs F a with | [] => none | b :: bs => some (1 + minF b bs)
theorem least_step {a : Nat} (hv : ∀ v ∈ vs, 0 < v) {F : List (Option Nat)} (hF : ∀ s, s < a → LeastIs vs s (F.getD s none)) (ha : 0 < a) {k : Nat} (h : PayN vs a k) : ∃ b, b ∈ bef vs F a ∧ b + 1 ≤ k := by
  obtain ⟨cs, h⟩ := h
  obtain ⟨i, hi, hp⟩ := h.some ha
  obtain ⟨h1, h2, h3⟩ := h.un hi hp
  have hlt : a - gt vs i < a := by have := hv _ (gt_mem hi); omega
  have L := hF _ hlt
  cases hb : F.getD (a - gt vs i) none with
  | none => rw [hb] at L; exact absurd ⟨_, h3⟩ (L (k - 1))
  | some b =>
    rw [hb] at L
    exact ⟨b, bef_mem.mpr ⟨i, hi, h1, hb⟩, by have := L.2 _ ⟨_, h3⟩; omega⟩
theorem entry_is {a : Nat} (hv : ∀ v ∈ vs, 0 < v) {F : List (Option Nat)} (hF : ∀ s, s < a → LeastIs vs s (F.getD s none)) (ha : 0 < a) : LeastIs vs a (entryN vs F a) := by
  unfold entryN
  cases hb : bef vs F a with
  | nil =>
    intro k hk
    obtain ⟨b, h1, _⟩ := least_step hv hF ha hk
    rw [hb] at h1; cases h1
  | cons b bs =>
    have hm := minF_mem b bs
    rw [← hb] at hm
    obtain ⟨i, hi, h1, h2⟩ := bef_mem.mp hm
    have hlt : a - gt vs i < a := by have := hv _ (gt_mem hi); omega
    have L := hF _ hlt
    rw [h2] at L
    obtain ⟨⟨cs, hc⟩, _⟩ := L
    have hbp := hc.bump hi
    rw [show a - gt vs i + gt vs i = a by omega, Nat.add_comm (minF b bs) 1] at hbp
    refine ⟨⟨_, hbp⟩, fun j hj => ?_⟩
    obtain ⟨x, h3, h4⟩ := least_step hv hF ha hj
    rw [hb] at h3
    obtain ⟨q1, q2⟩ := minF_le b bs
    rcases List.mem_cons.mp h3 with rfl | h3
    · omega
    · have := q2 x h3; omega
def stepT (vs : List Nat) (F : List (Option Nat)) (i : Nat) : List (Option Nat) := match bef vs F (1 + i) with | [] => F | b :: bs => F.set (1 + i) (some (1 + minF b bs))
def numT (vs : List Nat) (most : Nat) : List (Option Nat) := (List.range most).foldl (stepT vs) (some 0 :: List.replicate most none)
structure NumIs (vs : List Nat) (most i : Nat) (F : List (Option Nat)) : Prop where
  len : F.length = most + 1
  is : ∀ s, s ≤ i → LeastIs vs s (F.getD s none)
  non : ∀ s, i < s → F.getD s none = none
theorem num_zero (hv : ∀ v ∈ vs, 0 < v) (most : Nat) : NumIs vs most 0 (some 0 :: List.replicate most none) := by
  refine ⟨by simp, fun s hs => ?_, fun s hs => ?_⟩
  · obtain rfl : s = 0 := by omega
    exact least_zero hv
  · obtain ⟨t, rfl⟩ : ∃ t, s = t + 1 := ⟨s - 1, by omega⟩
    show (List.replicate most none).getD t none = none
    rw [List.getD_eq_getElem?_getD]
    by_cases q : t < most
    · simp [q]
    · simp [q]
theorem num_step (hv : ∀ v ∈ vs, 0 < v) {most i : Nat} {F : List (Option Nat)} (h : NumIs vs most i F) (hi : i < most) : NumIs vs most (i + 1) (stepT vs F i) := by
  have e := entry_is hv (a := 1 + i) (fun s hs => h.is s (by omega)) (by omega)
  unfold entryN at e
  unfold stepT
  cases hb : bef vs F (1 + i) with
  | nil =>
    rw [hb] at e
    refine ⟨h.len, fun s hs => ?_, fun s hs => h.non s (by omega)⟩
    by_cases q : s ≤ i
    · exact h.is s q
    · obtain rfl : s = 1 + i := by omega
      rw [h.non _ (by omega)]; exact e
  | cons b bs =>
    rw [hb] at e
    have hg : ∀ s, (F.set (1 + i) (some (1 + minF b bs))).getD s none = if 1 + i = s then some (1 + minF b bs) else F.getD s none := by
      intro s
      rw [List.getD_eq_getElem?_getD, List.getD_eq_getElem?_getD, List.getElem?_set]
      by_cases q : 1 + i = s
      · subst q
        have : 1 + i < F.length := by rw [h.len]; omega
        simp [this]
      · simp [q]
    refine ⟨by rw [List.length_set]; exact h.len, fun s hs => ?_, fun s hs => ?_⟩
    · rw [hg]
      by_cases q : 1 + i = s
      · rw [if_pos q, ← q]; exact e
      · rw [if_neg q]; exact h.is s (by omega)
    · rw [hg, if_neg (by omega)]; exact h.non s (by omega)
theorem num_fold (hv : ∀ v ∈ vs, 0 < v) (most : Nat) : ∀ i, i ≤ most → NumIs vs most i ((List.range i).foldl (stepT vs) (some 0 :: List.replicate most none))
  | 0, _ => num_zero hv most
  | i + 1, h => by
    rw [List.range_succ, List.foldl_append]
    exact num_step hv (num_fold hv most i (by omega)) (by omega)
theorem num_is (hv : ∀ v ∈ vs, 0 < v) (most : Nat) : NumIs vs most most (numT vs most) := num_fold hv most most (Nat.le_refl _)
end
/-! the best payment -/
structure Best (vs : List Nat) (A m : Nat) (c : List Nat) : Prop where
  pays : Pays vs A m c
  least : LeastIs vs A (some m)
  lex : ∀ b, Pays vs A m b → ∀ i, i < vs.length → (∀ j, i < j → gt b j = gt c j) → gt b i ≤ gt c i
structure BInv (vs : List Nat) (A m p a : Nat) (c : List Nat) : Prop where
  len : c.length = vs.length
  pl : p < vs.length
  val : dot c vs + a = A
  num : ∃ k, LeastIs vs a (some k) ∧ c.sum + k = m
  low : ∀ j, j < p → gt c j = 0
  use : ∀ d k, LeastIs vs a (some k) → Pays vs a k d → ∀ j, p < j → gt d j = 0
  lex : ∀ i, p < i → i < vs.length → ∀ b, Pays vs A m b → (∀ j, i < j → gt b j = gt c j) → gt b i ≤ gt c i
section
variable {vs : List Nat} {A m p a : Nat} {c : List Nat}
/-- the difference of a payment that is more at p -/
theorem BInv.rest (h : BInv vs A m p a c) {b : List Nat} (hb : Pays vs A m b) {i : Nat} (hi : i ≤ p) (ha : ∀ j, i < j → gt b j = gt c j) (hg : gt c i ≤ gt b i) : ∃ k, LeastIs vs a (some k) ∧ Pays vs a k (subL b c) := by
  obtain ⟨k, hk, hs⟩ := h.num
  have hle : ∀ j, gt c j ≤ gt b j := by
    intro j
    rcases Nat.lt_trichotomy j i with q | q | q
    · rw [h.low j (by omega)]; exact Nat.zero_le _
    · rw [q]; exact hg
    · rw [ha j q]; exact Nat.le_refl _
  obtain ⟨d1, d2⟩ := dot_sub (vs := vs) (by rw [hb.len, h.len]) h.len hle
  have := h.val
  rw [hb.val] at d1
  rw [hb.num] at d2
  exact ⟨k, hk, by rw [subL_len (by rw [hb.len, h.len]), h.len], by omega, by omega⟩
/-- no coin at p -/
theorem BInv.no (h : BInv vs A m p a c) (hv : ∀ v ∈ vs, 0 < v) {o o' : Option Nat} (hF : LeastIs vs a o) (hF' : gt vs p ≤ a → LeastIs vs (a - gt vs p) o') (ht : ¬ (gt vs p ≤ a ∧ ∃ r, o' = some r ∧ o = some (r + 1))) {k : Nat} {d : List Nat} (hk : LeastIs vs a (some k)) (hd : Pays vs a k d) : gt d p = 0 := by
  refine Nat.eq_zero_of_not_pos fun hp => ht ?_
  obtain ⟨h1, h2, h3⟩ := hd.un h.pl hp
  have L := hF' h1
  cases o' with
  | none => exact absurd ⟨_, h3⟩ (L (k - 1))
  | some r =>
    refine ⟨h1, r, rfl, ?_⟩
    have e := least_uniq hF hk
    rw [e]
    have hle := L.2 _ ⟨_, h3⟩
    obtain ⟨cs, hc⟩ := L.1
    have := hc.bump h.pl
    rw [show a - gt vs p + gt vs p = a by omega] at this
    have := hk.2 _ ⟨_, this⟩
    rw [show k = r + 1 by omega]
theorem BInv.down (h : BInv vs A m p a c) (hv : ∀ v ∈ vs, 0 < v) {o o' : Option Nat} (hF : LeastIs vs a o) (hF' : gt vs p ≤ a → LeastIs vs (a - gt vs p) o') (ht : ¬ (gt vs p ≤ a ∧ ∃ r, o' = some r ∧ o = some (r + 1))) (ha : 0 < a) : 0 < p ∧ BInv vs A m (p - 1) a c := by
  have hno : ∀ {k : Nat} {d : List Nat}, LeastIs vs a (some k) → Pays vs a k d → gt d p = 0 := fun hk hd => h.no hv hF hF' ht hk hd
  have hp : 0 < p := by
    obtain ⟨k, hk, _⟩ := h.num
    obtain ⟨d, hd⟩ := hk.1
    obtain ⟨i, hi, hg⟩ := hd.some ha
    rcases Nat.lt_trichotomy i p with q | q | q
    · omega
    · subst q; have := hno hk hd; omega
    · have := h.use d k hk hd i q; omega
  refine ⟨hp, h.len, by have := h.pl; omega, h.val, h.num, fun j hj => h.low j (by omega), fun d k hk hd j hj => ?_, fun i hi hi2 b hb hab => ?_⟩
  · rcases Nat.lt_or_ge p j with q | q
    · exact h.use d k hk hd j q
    · obtain rfl : j = p := by omega
      exact hno hk hd
  · rcases Nat.lt_or_ge p i with q | q
    · exact h.lex i q hi2 b hb hab
    · obtain rfl : i = p := by omega
      refine Nat.le_of_not_lt fun hlt => ?_
      obtain ⟨k, hk, hd⟩ := h.rest hb (Nat.le_refl _) hab (Nat.le_of_lt hlt)
      have := hno hk hd
      rw [gt_subL (by rw [hb.len, h.len])] at this
      omega
theorem BInv.take (h : BInv vs A m p a c) {r : Nat} (h1 : gt vs p ≤ a) (hF : LeastIs vs a (some (r + 1))) (hF' : LeastIs vs (a - gt vs p) (some r)) : BInv vs A m p (a - gt vs p) (bump c p) := by
  have hpc : p < c.length := by rw [h.len]; exact h.pl
  refine ⟨by rw [bump_len]; exact h.len, h.pl, by rw [dot_bump h.len hpc]; have := h.val; omega, ⟨r, hF', ?_⟩, fun j hj => ?_, fun d k hk hd j hj => ?_, fun i hi hi2 b hb hab => ?_⟩
  · obtain ⟨k, hk, hs⟩ := h.num
    have := least_uniq hk hF
    have : k = r + 1 := by injection this
    rw [sum_bump hpc]; omega
  · rw [gt_bump hpc, h.low j hj, if_neg (by omega)]
  · have e : k = r := by have := least_uniq hk hF'; injection this
    subst e
    have hb := hd.bump h.pl
    rw [show a - gt vs p + gt vs p = a by omega] at hb
    have := h.use _ _ hF hb j hj
    rw [gt_bump (by rw [hd.len]; exact h.pl)] at this
    omega
  · rw [gt_bump hpc, if_neg (by omega)]
    refine h.lex i hi hi2 b hb fun j hj => ?_
    rw [hab j hj, gt_bump hpc, if_neg (by omega)]; rfl
theorem BInv.done (h : BInv vs A m p 0 c) (hv : ∀ v ∈ vs, 0 < v) (hA : LeastIs vs A (some m)) : Best vs A m c := by
  obtain ⟨k, hk, hs⟩ := h.num
  have hk0 := payN_zero hv hk.1
  subst hk0
  have hval := h.val
  refine ⟨⟨h.len, by omega, by omega⟩, hA, fun b hb i hi hab => ?_⟩
  rcases Nat.lt_or_ge p i with q | q
  · exact h.lex i q hi b hb hab
  · refine Nat.le_of_not_lt fun hlt => ?_
    obtain ⟨k, hk, hd⟩ := h.rest hb q hab (Nat.le_of_lt hlt)
    have hi' : 0 < gt (subL b c) i := by rw [gt_subL (by rw [hb.len, h.len])]; omega
    have := (hd.un hi hi').1
    have := hv _ (gt_mem hi)
    omega
theorem BInv.start (hA : LeastIs vs A (some m)) (hn : 0 < vs.length) : BInv vs A m (vs.length - 1) A (List.replicate vs.length 0) := by
  have z := pays_zero vs
  refine ⟨by simp, by omega, by rw [z.val]; omega, ⟨m, hA, by rw [z.num]; omega⟩, fun j hj => by rw [gt_lt (by simp; omega)]; simp, fun d k hk hd j hj => gt_ge (by rw [hd.len]; omega), fun i hi hi2 => by omega⟩
end
end Rx
end

section
set_option Elab.async false
set_option linter.all false
set_option maxRecDepth 100000
set_option maxHeartbeats 1000000
set_option autoImplicit false
/-! P7: the greedy payment; where it first fails. -/
namespace Rx
/-- of all payments the greatest one, read from the greatest value -/
structure Gr (vs : List Nat) (s : Nat) (g : List Nat) : Prop where
  pays : Pays vs s g.sum g
  lex : ∀ b k, Pays vs s k b → ∀ i, i < vs.length → (∀ j, i < j → gt b j = gt g j) → gt b i ≤ gt g i
/-- two that are greatest among the same are one -/
theorem lex_uniq {n : Nat} {g h : List Nat} (hg : g.length = n) (hh : h.length = n) (h1 : ∀ i, i < n → (∀ j, i < j → gt h j = gt g j) → gt h i ≤ gt g i) (h2 : ∀ i, i < n → (∀ j, i < j → gt g j = gt h j) → gt g i ≤ gt h i) : g = h := by
  have key : ∀ d i, n ≤ i + d → gt g i = gt h i := by
    intro d
    induction d with
    | zero => intro i hi; rw [gt_ge (by omega), gt_ge (by omega)]
    | succ d ih =>
      intro i hi
      by_cases q : n ≤ i
      · rw [gt_ge (by omega), gt_ge (by omega)]
      · have hab : ∀ j, i < j → gt g j = gt h j := fun j hj => ih j (by omega)
        have a := h1 i (by omega) fun j hj => (hab j hj).symm
        have b := h2 i (by omega) hab
        omega
  exact ext_gt (by omega) fun i _ => key n i (by omega)
theorem Gr.uniq {vs : List Nat} {s : Nat} {g h : List Nat} (hg : Gr vs s g) (hh : Gr vs s h) : g = h :=
  lex_uniq hg.pays.len hh.pays.len (hg.lex h _ hh.pays) (hh.lex g _ hg.pays)
theorem Best.uniq {vs : List Nat} {s m : Nat} {g h : List Nat} (hg : Best vs s m g) (hh : Best vs s m h) : g = h :=
  lex_uniq hg.pays.len hh.pays.len (hg.lex h hh.pays) (hh.lex g hg.pays)
theorem Gr.best {vs : List Nat} {s m : Nat} {g : List Nat} (hg : Gr vs s g) (hm : LeastIs vs s (some m)) (e : g.sum = m) : Best vs s m g := by
  subst e
  exact ⟨hg.pays, hm, fun b hb => hg.lex b _ hb⟩
/-- one coin less -/
theorem Gr.less {vs : List Nat} {s i : Nat} {g : List Nat} (hg : Gr vs s g) (hi : i < vs.length) (hp : 0 < gt g i) : gt vs i ≤ s ∧ Gr vs (s - gt vs i) (unb g i) ∧ (unb g i).sum + 1 = g.sum := by
  obtain ⟨h1, h2, h3⟩ := hg.pays.un hi hp
  have hgi : i < g.length := by rw [hg.pays.len]; exact hi
  have hs : (unb g i).sum = g.sum - 1 := h3.num
  refine ⟨h1, ⟨by rw [hs]; exact h3, fun b k hb j hj hab => ?_⟩, by omega⟩
  have hb2 := hb.bump hi
  rw [show s - gt vs i + gt vs i = s by omega] at hb2
  have hbi : i < b.length := by rw [hb.len]; exact hi
  have eq : ∀ l, gt (unb g i) l + (if i = l then 1 else 0) = gt g l := fun l => by
    have := gt_bump (cs := unb g i) (i := i) (j := l) (by rw [unb_len]; exact hgi)
    rw [bump_un hgi hp] at this
    exact this.symm
  have := hg.lex _ _ hb2 j hj fun l hl => by rw [gt_bump hbi, hab l hl, eq]
  rw [gt_bump hbi] at this
  have := eq j
  omega
/-- a least payment with one coin less -/
theorem least_less {vs : List Nat} {s m i : Nat} {b : List Nat} (hm : LeastIs vs s (some m)) (hb : Pays vs s m b) (hi : i < vs.length) (hp : 0 < gt b i) : gt vs i ≤ s ∧ 0 < m ∧ LeastIs vs (s - gt vs i) (some (m - 1)) ∧ Pays vs (s - gt vs i) (m - 1) (unb b i) := by
  obtain ⟨h1, h2, h3⟩ := hb.un hi hp
  refine ⟨h1, by omega, ⟨⟨_, h3⟩, fun j ⟨c, hc⟩ => ?_⟩, h3⟩
  have := hc.bump hi
  rw [show s - gt vs i + gt vs i = s by omega] at this
  have := hm.2 _ ⟨_, this⟩
  omega
theorem Best.less {vs : List Nat} {s m i : Nat} {b : List Nat} (hb : Best vs s m b) (hi : i < vs.length) (hp : 0 < gt b i) : gt vs i ≤ s ∧ 0 < m ∧ Best vs (s - gt vs i) (m - 1) (unb b i) := by
  obtain ⟨h1, h2, h3, h4⟩ := least_less hb.least hb.pays hi hp
  refine ⟨h1, h2, h4, h3, fun c hc j hj hab => ?_⟩
  have hbi : i < b.length := by rw [hb.pays.len]; exact hi
  have hci : i < c.length := by rw [hc.len]; exact hi
  have hc2 := hc.bump hi
  rw [show s - gt vs i + gt vs i = s by omega, show m - 1 + 1 = m by omega] at hc2
  have eq : ∀ l, gt (unb b i) l + (if i = l then 1 else 0) = gt b l := fun l => by
    have := gt_bump (cs := unb b i) (i := i) (j := l) (by rw [unb_len]; exact hbi)
    rw [bump_un hbi hp] at this
    exact this.symm
  have := hb.lex _ hc2 j hj fun l hl => by rw [gt_bump hci, hab l hl, eq]
  rw [gt_bump hci] at this
  have := eq j
  omega
/-! systems with the coin 1 -/
structure Sys (vs : List Nat) : Prop where
  asc : vs.Pairwise (· < ·)
  pos : ∀ v ∈ vs, 0 < v
  one : 1 ∈ vs
theorem Sys.len {vs : List Nat} (h : Sys vs) : 0 < vs.length := List.length_pos_of_mem h.one
theorem Sys.pay {vs : List Nat} (h : Sys vs) : ∀ s, ∃ b, Pays vs s b.sum b
  | 0 => ⟨_, by rw [(pays_zero vs).num]; exact pays_zero vs⟩
  | s + 1 => by
    obtain ⟨b, hb⟩ := h.pay s
    obtain ⟨i, hi, he⟩ := List.getElem_of_mem h.one
    have := hb.bump hi
    rw [gt_lt hi, he] at this
    exact ⟨_, by rw [this.num]; exact this⟩
theorem Sys.le {vs : List Nat} (h : Sys vs) {i j : Nat} (hij : i ≤ j) (hj : j < vs.length) : gt vs i ≤ gt vs j := by
  rcases Nat.lt_or_eq_of_le hij with q | q
  · rw [gt_lt (by omega), gt_lt hj]
    exact Nat.le_of_lt (List.pairwise_iff_getElem.mp h.asc i j (by omega) hj q)
  · rw [q]; exact Nat.le_refl _
/-- the greatest coin that fits is in the greedy payment -/
theorem Gr.top {vs : List Nat} {s : Nat} {g : List Nat} (h : Sys vs) (hg : Gr vs s g) (hs : gt vs (vs.length - 1) ≤ s) : 0 < gt g (vs.length - 1) := by
  have hl := h.len
  obtain ⟨b, hb⟩ := h.pay (s - gt vs (vs.length - 1))
  have hb2 := hb.bump (i := vs.length - 1) (by omega)
  rw [show s - gt vs (vs.length - 1) + gt vs (vs.length - 1) = s by omega] at hb2
  have := hg.lex _ _ hb2 (vs.length - 1) (by omega) fun j hj => by rw [gt_ge (by rw [hb2.len]; omega), gt_ge (by rw [hg.pays.len]; omega)]
  rw [gt_bump (by rw [hb.len]; omega), if_pos rfl] at this
  omega
/-- the first place where the greedy payment has too many coins -/
structure Fault (vs : List Nat) (f : Nat) : Prop where
  bad : ∀ g m, Gr vs f g → LeastIs vs f (some m) → m < g.sum
  low : ∀ s, s < f → ∀ g m, Gr vs s g → LeastIs vs s (some m) → g.sum = m
/-- greedy and a least payment share no coin there -/
theorem Fault.apart {vs : List Nat} {f m i : Nat} {g b : List Nat} (h : Fault vs f) (hv : ∀ v ∈ vs, 0 < v) (hg : Gr vs f g) (hm : LeastIs vs f (some m)) (hb : Pays vs f m b) (hi : i < vs.length) : ¬ (0 < gt g i ∧ 0 < gt b i) := by
  rintro ⟨h1, h2⟩
  obtain ⟨a1, a2, a3⟩ := hg.less hi h1
  obtain ⟨b1, b2, b3, _⟩ := least_less hm hb hi h2
  have hvp := hv _ (gt_mem hi)
  have := h.low (f - gt vs i) (by omega) _ _ a2 b3
  have := h.bad g m hg hm
  omega
/-- the place lies below the sum of the two greatest coins -/
theorem Fault.small {vs : List Nat} {f : Nat} (S : Sys vs) (h : Fault vs f) (ex : ∀ s, ∃ g, Gr vs s g) (exm : ∀ s, ∃ m, LeastIs vs s (some m)) : 2 ≤ vs.length ∧ f < gt vs (vs.length - 1) + gt vs (vs.length - 2) := by
  obtain ⟨g, hg⟩ := ex f
  obtain ⟨m, hm⟩ := exm f
  obtain ⟨b, hb⟩ := hm.1
  have hbad := h.bad g m hg hm
  have hl := S.len
  have f0 : 0 < f := Nat.pos_of_ne_zero fun z => by
    subst z
    have := payN_zero S.pos ⟨g, hg.pays⟩
    omega
  obtain ⟨i, hi, hbi⟩ := hb.some f0
  have hvi := S.pos _ (gt_mem hi)
  -- a coin of the least payment is not the greatest one where the greatest one fits
  have hnot : gt vs (vs.length - 1) ≤ f → i ≠ vs.length - 1 := fun hle e => h.apart S.pos hg hm hb hi ⟨by rw [e]; exact hg.top S hle, hbi⟩
  obtain ⟨c1, c2, c3, c4⟩ := least_less hm hb hi hbi
  have key : gt vs (vs.length - 1) ≤ f → i < vs.length - 1 → gt vs (vs.length - 1) ≤ f - gt vs i → False := by
    intro htop hit hfit
    obtain ⟨g', hg'⟩ := ex (f - gt vs i)
    have e1 := h.low _ (by omega) g' _ hg' c3
    have ht := hg'.top S hfit
    have hin : vs.length - 1 < vs.length := by omega
    obtain ⟨d1, d2, d3⟩ := hg'.less hin ht
    -- the greatest coin in a least payment of f
    have hb2 := hg'.pays.bump hi
    rw [show f - gt vs i + gt vs i = f by omega, show g'.sum + 1 = m by omega] at hb2
    refine h.apart S.pos hg hm hb2 hin ⟨hg.top S htop, ?_⟩
    rw [gt_bump (by rw [hg'.pays.len]; exact hi)]
    omega
  by_cases htop : gt vs (vs.length - 1) ≤ f
  · have hne := hnot htop
    have hlt : i < vs.length - 1 := by omega
    refine ⟨by omega, Nat.lt_of_not_le fun hle => ?_⟩
    have := S.le (i := i) (j := vs.length - 2) (by omega) (by omega)
    exact key htop hlt (by omega)
  · have h2 : 2 ≤ vs.length := by
      refine Nat.le_of_not_lt fun q => ?_
      obtain ⟨j, hj, he⟩ := List.getElem_of_mem S.one
      obtain rfl : j = 0 := by omega
      have e : gt vs (vs.length - 1) = 1 := by
        rw [show vs.length - 1 = 0 by omega, gt_lt hj, he]
      omega
    exact ⟨h2, by omega⟩
/-! the payment that the program makes -/
def gD : List Nat → Nat → List Nat
  | [], _ => []
  | v :: r, s => (s / v) :: gD r (s % v)
def gRest : List Nat → Nat → Nat
  | [], s => s
  | v :: r, s => gRest r (s % v)
theorem gD_len : ∀ (r : List Nat) (s : Nat), (gD r s).length = r.length
  | [], _ => rfl
  | v :: r, s => by rw [gD, List.length_cons, List.length_cons, gD_len r]
end Rx
end

section
set_option Elab.async false
set_option linter.all false
set_option maxRecDepth 100000
set_option maxHeartbeats 1000000
set_option autoImplicit false
/-! C2: the runs of the coinages' defs. -/
namespace Rx
theorem big1000 {k : Nat} (h : k < 1073741824) : k < 2 ^ 1000 := Nat.lt_of_lt_of_le h (Nat.le_trans (show 1073741824 ≤ 2 ^ 30 by decide) (Nat.pow_le_pow_right (by decide) (by decide)))
def gcds (l : List Nat) : Nat := l.foldl Nat.gcd 0
/-! ### the table -/
def dN : Option Nat → D
  | none => .non
  | some k => .int k
theorem dN_non (x : Option Nat) : D.isNon (dN x) = x.isNone := by cases x <;> rfl
theorem dN_at {F : List (Option Nat)} {i : Nat} (h : i < F.length) : atI (F.map dN) (i : Int) = some (dN (F.getD i none)) := by
  rw [atI_map h]; simp [List.getD_eq_getElem?_getD, h]
abbrev lbody : List S := [.asg 6 (.bin .mod (.bin .add (.var 4) (.var 1)) (.b1 .len (.var 0))), .ifs (.val (.cmp .isnt (.sub (.var 0) (.var 4)) .non)) [.asg 7 (.bin .add (.sub (.var 0) (.var 4)) (.var 1)), .ifs (.or (.val (.cmp .is (.sub (.var 0) (.var 6)) .non)) (.val (.cmp .lt (.var 7) (.sub (.var 0) (.var 6))))) [.sset 0 (.var 6) (.var 7)] []] [], .kill [7], .asg 4 (.var 6)]
theorem lay_turn {G GI : Nat → List D → Option D} (F : List (Option Nat)) (hF : 0 < F.length) (v st steps rest : Nat) (hr : rest < F.length) (c5 : Cell) :
    exs G GI [.own (.lst (F.map dN)), .val (.int v), .val (.int st), .val (.int steps), .val (.int rest), c5, .unk, .unk] lbody
      = some (.nx, [.own (.lst ((relaxN v F rest).map dN)), .val (.int v), .val (.int st), .val (.int steps), .val (.int ((rest + v) % F.length : Nat)), c5, .val (.int ((rest + v) % F.length : Nat)), .unk]) := by
  have hf : (rest + v) % F.length < F.length := Nat.mod_lt _ hF
  rw [exs_asg (d := .int ((rest + v) % F.length : Nat)) (ev_bin_of (x := .int ((rest + v : Nat) : Int)) (y := .int F.length) (by simp) (by rw [bo_b1, ev_b1 (x := .lst (F.map dN)) (z := .int F.length) (by simp) (by simp)]) (opB_modN hF))]
  simp only [List.set_cons_succ, List.set_cons_zero]
  generalize hfo : (rest + v) % F.length = fo at hf ⊢
  have last : ∀ (F' : List (Option Nat)) (c7 : Cell), exs G GI [.own (.lst (F'.map dN)), .val (.int v), .val (.int st), .val (.int steps), .val (.int rest), c5, .val (.int fo), c7] [.kill [7], .asg 4 (.var 6)] = some (.nx, [.own (.lst (F'.map dN)), .val (.int v), .val (.int st), .val (.int steps), .val (.int fo), c5, .val (.int fo), .unk]) := by
    intro F' c7
    rw [exs_kill, exs_asg (d := .int fo) (by rw [se_var]; rfl), exs_nil]
    rfl
  have e0 : ∀ c7 : Cell, ev G [.own (.lst (F.map dN)), .val (.int v), .val (.int st), .val (.int steps), .val (.int rest), c5, .val (.int fo), c7] (.sub (.var 0) (.var 4)) = some (dN (F.getD rest none)) := by
    intro c7; rw [se_sub]; simp [dN_at hr]
  have e1 : ∀ c7 : Cell, ev G [.own (.lst (F.map dN)), .val (.int v), .val (.int st), .val (.int steps), .val (.int rest), c5, .val (.int fo), c7] (.sub (.var 0) (.var 6)) = some (dN (F.getD fo none)) := by
    intro c7; rw [se_sub]; simp [dN_at hf]
  cases hm : F.getD rest none with
  | none =>
    rw [hm] at e0
    have hrl : relaxN v F rest = F := by unfold relaxN; rw [hm]
    rw [hrl, exs_skip (ts_val (x := .bl false) (by rw [bo_cmp, se_cmp, bo_sub, e0]; rfl) rfl)]
    exact last F .unk
  | some m =>
    rw [hm] at e0
    have hput : putAt (.lst (F.map dN)) (.int fo) (.int ((m + v : Nat) : Int)) = some (.lst ((F.set fo (some (m + v))).map dN)) := by
      show (ixN (F.map dN).length (fo : Int)).map _ = _
      rw [ixN_nat (by simpa using hf), List.map_set]; rfl
    have hset : exs G GI [.own (.lst (F.map dN)), .val (.int v), .val (.int st), .val (.int steps), .val (.int rest), c5, .val (.int fo), .val (.int ((m + v : Nat) : Int))] [.sset 0 (.var 6) (.var 7)] = some (.nx, [.own (.lst ((F.set fo (some (m + v))).map dN)), .val (.int v), .val (.int st), .val (.int steps), .val (.int rest), c5, .val (.int fo), .val (.int ((m + v : Nat) : Int))]) := by
      rw [exs_sset (v := .int ((m + v : Nat) : Int)) (kd := .int fo) (x := .lst (F.map dN)) (d := .lst ((F.set fo (some (m + v))).map dN)) (by rw [se_var]; rfl) rfl (by rw [se_var]; rfl) hput, exs_nil]
      rfl
    have hamt : ev G [.own (.lst (F.map dN)), .val (.int v), .val (.int st), .val (.int steps), .val (.int rest), c5, .val (.int fo), .unk] (.bin .add (.sub (.var 0) (.var 4)) (.var 1)) = some (.int ((m + v : Nat) : Int)) := ev_bin_of (x := .int m) (y := .int v) (by rw [bo_sub]; exact e0 _) (by simp) opB_addN
    have htest : ts G [.own (.lst (F.map dN)), .val (.int v), .val (.int st), .val (.int steps), .val (.int rest), c5, .val (.int fo), .val (.int ((m + v : Nat) : Int))] (.or (.val (.cmp .is (.sub (.var 0) (.var 6)) .non)) (.val (.cmp .lt (.var 7) (.sub (.var 0) (.var 6))))) = some (match F.getD fo none with | none => true | some k => decide (m + v < k)) := by
      have e1' := e1 (.val (.int ((m + v : Nat) : Int)))
      cases hk : F.getD fo none with
      | none =>
        rw [hk] at e1'
        exact ts_orT (ts_val (x := .bl true) (by rw [bo_cmp, se_cmp, bo_sub, e1']; rfl) rfl)
      | some k =>
        rw [hk] at e1'
        refine ts_orF (ts_val (x := .bl false) (by rw [bo_cmp, se_cmp, bo_sub, e1']; rfl) rfl) (ts_val (x := .bl (decide (m + v < k))) ?_ rfl)
        rw [bo_cmp, se_cmp, bo_sub, e1', bo_var]
        show (opC .lt (.int ((m + v : Nat) : Int)) (.int k)).map D.bl = _
        rw [opC_lt, dlt_nat]; rfl
    rw [exs_ifT (env' := [.own (.lst ((relaxN v F rest).map dN)), .val (.int v), .val (.int st), .val (.int steps), .val (.int rest), c5, .val (.int fo), .val (.int ((m + v : Nat) : Int))]) (ts_val (x := .bl true) (by rw [bo_cmp, se_cmp, bo_sub, e0]; rfl) rfl) (by
      rw [exs_asg hamt]
      simp only [List.set_cons_succ, List.set_cons_zero]
      unfold relaxN
      rw [hm, hfo]
      simp only
      cases hk : F.getD fo none with
      | none =>
        rw [hk] at htest
        rw [exs_ifT htest hset, exs_nil]
      | some k =>
        rw [hk] at htest
        by_cases hlt : m + v < k
        · simp only [hlt, decide_true] at htest
          rw [exs_ifT htest hset, exs_nil]
          simp only [hlt, if_true]
        · simp only [hlt, decide_false] at htest
          rw [exs_skip htest, exs_nil]
          simp only [hlt, if_false])]
    exact last _ _
end Rx
end

section
set_option Elab.async false
set_option linter.all false
set_option maxRecDepth 100000
set_option maxHeartbeats 1000000
set_option autoImplicit false
/-! C3: which remainders are reached; bounds; plain. -/
namespace Rx
def gcdL (l : List Nat) : Nat := l.foldl Nat.gcd 0
theorem gcdL_app (l : List Nat) (v : Nat) : gcdL (l ++ [v]) = Nat.gcd (gcdL l) v := by simp [gcdL]
theorem gfold_dvd : ∀ (l : List Nat) (w : Nat), l.foldl Nat.gcd w ∣ w ∧ ∀ k ∈ l, l.foldl Nat.gcd w ∣ k
  | [], w => ⟨Nat.dvd_refl _, by simp⟩
  | a :: l, w => by
    obtain ⟨h1, h2⟩ := gfold_dvd l (Nat.gcd w a)
    rw [List.foldl_cons]
    refine ⟨Nat.dvd_trans h1 (Nat.gcd_dvd_left _ _), fun k hk => ?_⟩
    rcases List.mem_cons.mp hk with rfl | hk
    · exact Nat.dvd_trans h1 (Nat.gcd_dvd_right _ _)
    · exact h2 k hk
theorem gcdL_dvd {l : List Nat} {k : Nat} (h : k ∈ l) : gcdL l ∣ k := (gfold_dvd l 0).2 k h
theorem gcdL_pos {l : List Nat} {k : Nat} (h : k ∈ l) (hk : 0 < k) : 0 < gcdL l := Nat.pos_of_dvd_of_pos (gcdL_dvd h) hk
theorem pay_dvd {vs : List Nat} {s d : Nat} (hd : ∀ v ∈ vs, d ∣ v) (h : Pay vs s) : d ∣ s :=
  pay_ind (vs := vs) (P := fun s => d ∣ s) (Nat.dvd_zero d) (fun s v hv hs => Nat.dvd_add hs (hd v hv)) h
/-- each multiple of the divisor is left by some payment -/
theorem pay_mod (n : Nat) (hn : 0 < n) (B : Nat) : ∀ (us : List Nat), (∀ u ∈ us, u ≤ B) → ∀ k, ∃ s, Pay (n :: us) s ∧ s % n = (gcdL (n :: us) * k) % n ∧ s ≤ us.length * (n * B) := by
  intro us
  have key : ∀ (r : List Nat), (∀ u ∈ r, u ≤ B) → ∀ k, ∃ s, Pay (n :: r.reverse) s ∧ s % n = (gcdL (n :: r.reverse) * k) % n ∧ s ≤ r.length * (n * B) := by
    intro r
    induction r with
    | nil =>
      intro _ k
      refine ⟨0, pay_zero _, ?_, Nat.zero_le _⟩
      simp [gcdL]
    | cons v r ih =>
      intro hB k
      have e : n :: (v :: r).reverse = (n :: r.reverse) ++ [v] := by simp
      rw [e, gcdL_app]
      obtain ⟨x, y, h⟩ := bezI (gcdL (n :: r.reverse)) v
      obtain ⟨s, p1, p2, p3⟩ := ih (fun u hu => hB u (List.mem_cons_of_mem _ hu)) ((x * k) % (n : Int)).toNat
      have hx0 : 0 ≤ (x * k) % (n : Int) := Int.emod_nonneg _ (by omega)
      have hy0 : 0 ≤ (y * k) % (n : Int) := Int.emod_nonneg _ (by omega)
      have hyn : (y * k) % (n : Int) < n := Int.emod_lt_of_pos _ (by omega)
      refine ⟨s + ((y * k) % (n : Int)).toNat * v, pay_app.mpr ⟨_, s, p1, rfl⟩, ?_, ?_⟩
      · have e1 : (((s + ((y * k) % (n : Int)).toNat * v) % n : Nat) : Int) = ((Nat.gcd (gcdL (n :: r.reverse)) v * k % n : Nat) : Int) := by
          have p2' : ((s % n : Nat) : Int) = (((gcdL (n :: r.reverse)) * ((x * k) % (n : Int)).toNat % n : Nat) : Int) := by rw [p2]
          rw [Int.natCast_emod, Int.natCast_emod, Int.natCast_mul, Int.toNat_of_nonneg hx0] at p2'
          rw [Int.natCast_emod, Int.natCast_add, Int.natCast_mul, Int.toNat_of_nonneg hy0, Int.natCast_emod, Int.natCast_mul, h]
          rw [Int.add_emod, p2', ← Int.add_emod]
          have m1 : ((gcdL (n :: r.reverse) : Int) * ((x * k) % (n : Int))) % n = ((gcdL (n :: r.reverse) : Int) * (x * k)) % n := by
            rw [Int.mul_emod, Int.emod_emod_of_dvd _ (Int.dvd_refl _), ← Int.mul_emod]
          have m2 : ((y * k) % (n : Int) * (v : Int)) % n = ((y * k) * (v : Int)) % n := by
            rw [Int.mul_emod, Int.emod_emod_of_dvd _ (Int.dvd_refl _), ← Int.mul_emod]
          rw [Int.add_emod, m1, m2, ← Int.add_emod, Int.add_mul]
          congr 2
          · rw [Int.mul_assoc]
          · rw [Int.mul_comm (y * k) v, Int.mul_assoc]
        exact_mod_cast e1
      · rw [List.length_cons, Nat.succ_mul]
        have : ((y * k) % (n : Int)).toNat * v ≤ n * B := Nat.mul_le_mul (by omega) (hB v (List.mem_cons_self ..))
        omega
  intro hB k
  have := key us.reverse (fun u hu => hB u (List.mem_reverse.mp hu)) k
  rwa [List.reverse_reverse, List.length_reverse] at this
section
variable {n : Nat} {us : List Nat}
/-- what stands at r -/
theorem first_some (hn : 0 < n) (hu : ∀ u ∈ us, 0 < u) (B : Nat) (hB : ∀ u ∈ us, u ≤ B) {r : Nat} (hr : r < n) (hg : gcdL (n :: us) ∣ r) : ∃ m, (firstN (n :: us)).getD r none = some m ∧ m ≤ us.length * (n * B) := by
  obtain ⟨k, rfl⟩ := hg
  obtain ⟨s, p1, p2, p3⟩ := pay_mod n hn B us hB k
  obtain ⟨m, h1, h2⟩ := (table_of hn hu).le s p1
  rw [p2, Nat.mod_eq_of_lt hr] at h1
  exact ⟨m, by rw [List.getD_eq_getElem?_getD, h1]; rfl, by omega⟩
theorem first_is (hn : 0 < n) (hu : ∀ u ∈ us, 0 < u) {r m : Nat} (h : (firstN (n :: us)).getD r none = some m) : m % n = r ∧ Pay (n :: us) m ∧ gcdL (n :: us) ∣ r ∧ r < n ∧ ∀ s, Pay (n :: us) s → s % n = r → m ≤ s := by
  have T := table_of hn hu
  obtain ⟨h1, h2⟩ := T.ri r m (getD_some h)
  have hr : r < n := by rw [← h1]; exact Nat.mod_lt _ hn
  have hg : gcdL (n :: us) ∣ m := pay_dvd (fun v hv => gcdL_dvd hv) h2
  refine ⟨h1, h2, ?_, hr, fun s hs he => ?_⟩
  · rw [← h1]
    have hgn : gcdL (n :: us) ∣ n := gcdL_dvd (List.mem_cons_self ..)
    exact (Nat.dvd_mod_iff hgn).mpr hg
  · obtain ⟨m', k1, k2⟩ := T.le s hs
    rw [he] at k1
    rw [getD_some h] at k1
    injection k1 with k1
    injection k1 with k1
    omega
/-- the least sums by multiples of the divisor -/
def firsts (vs : List Nat) : List Nat := (List.range (vs.headD 0 / gcdL vs)).map fun k => ((firstN vs).getD (k * gcdL vs) none).getD 0
theorem firsts_len : (firsts (n :: us)).length = n / gcdL (n :: us) := by simp [firsts]
theorem firsts_get {k : Nat} (hk : k < n / gcdL (n :: us)) : gt (firsts (n :: us)) k = ((firstN (n :: us)).getD (k * gcdL (n :: us)) none).getD 0 := by
  rw [gt_lt (by rw [firsts_len]; exact hk)]
  simp [firsts]
theorem firsts_is (hn : 0 < n) (hu : ∀ u ∈ us, 0 < u) {k : Nat} (hk : k < n / gcdL (n :: us)) : (firstN (n :: us)).getD (k * gcdL (n :: us)) none = some (gt (firsts (n :: us)) k) := by
  have hg := gcdL_pos (List.mem_cons_self (a := n) (l := us)) hn
  have hlt : k * gcdL (n :: us) < n := by
    have := Nat.mul_lt_mul_of_pos_right hk hg
    rwa [Nat.div_mul_cancel (gcdL_dvd (List.mem_cons_self ..))] at this
  have hB : ∀ u ∈ us, u ≤ us.sum := by
    intro u h
    clear hk hlt hg hu
    induction us with
    | nil => cases h
    | cons a l ih =>
      rw [List.sum_cons]
      rcases List.mem_cons.mp h with rfl | h
      · omega
      · have := ih h; omega
  obtain ⟨m, h1, _⟩ := first_some hn hu _ hB hlt (Nat.dvd_mul_left _ _)
  rw [firsts_get hk, h1]; rfl
/-- the k-th one, told -/
structure FirstIs (n : Nat) (us : List Nat) (k m : Nat) : Prop where
  mod : m % n = k * gcdL (n :: us)
  pay : Pay (n :: us) m
  least : ∀ s, Pay (n :: us) s → s % n = k * gcdL (n :: us) → m ≤ s
theorem firsts_at (hn : 0 < n) (hu : ∀ u ∈ us, 0 < u) {k : Nat} (hk : k < n / gcdL (n :: us)) : FirstIs n us k (gt (firsts (n :: us)) k) := by
  obtain ⟨h1, h2, _, _, h5⟩ := first_is hn hu (firsts_is hn hu hk)
  exact ⟨h1, h2, h5⟩
theorem firsts_bd (hn : 0 < n) (hu : ∀ u ∈ us, 0 < u) {B : Nat} (hB : ∀ u ∈ us, u ≤ B) {k : Nat} (hk : k < n / gcdL (n :: us)) : gt (firsts (n :: us)) k ≤ us.length * (n * B) := by
  have hg := gcdL_pos (List.mem_cons_self (a := n) (l := us)) hn
  have hlt : k * gcdL (n :: us) < n := by
    have := Nat.mul_lt_mul_of_pos_right hk hg
    rwa [Nat.div_mul_cancel (gcdL_dvd (List.mem_cons_self ..))] at this
  obtain ⟨m, h1, h2⟩ := first_some hn hu B hB hlt (Nat.dvd_mul_left _ _)
  have := firsts_is hn hu hk
  rw [h1] at this
  injection this with this
  omega
/-! gaps -/
/-- rest, rest + n, .. below first -/
def rowG (n r m : Nat) : List Nat := (List.range ((m - r + n - 1) / n)).map fun j => r + j * n
def gapsU (n : Nat) (F : List (Option Nat)) : List Nat := (List.range F.length).flatMap fun r => match F.getD r none with | none => [] | some m => rowG n r m
def sortN (l : List Nat) : List Nat := l.mergeSort fun a b => decide (a ≤ b)
def gapsN (vs : List Nat) : List Nat := sortN (gapsU (vs.headD 0) (firstN vs))
theorem rowG_mem {n r m s : Nat} (hn : 0 < n) (hm : r ≤ m) (hmr : m % n = r % n) : s ∈ rowG n r m ↔ r ≤ s ∧ s % n = r % n ∧ s < m := by
  have hd : n ∣ m - r := Nat.dvd_of_mod_eq_zero (Nat.sub_mod_eq_zero_of_mod_eq hmr)
  obtain ⟨q, hq⟩ := hd
  have hlen : (m - r + n - 1) / n = q := by
    rw [hq, show n * q + n - 1 = (n - 1) + n * q by omega, Nat.add_mul_div_left _ _ hn, Nat.div_eq_of_lt (by omega), Nat.zero_add]
  unfold rowG
  rw [hlen, List.mem_map]
  constructor
  · rintro ⟨j, hj, rfl⟩
    have hj := List.mem_range.mp hj
    refine ⟨by omega, by rw [Nat.add_mul_mod_self_right], ?_⟩
    have : j * n < q * n := Nat.mul_lt_mul_of_pos_right hj hn
    rw [Nat.mul_comm n q] at hq
    omega
  · rintro ⟨h1, h2, h3⟩
    have hd2 : n ∣ s - r := Nat.dvd_of_mod_eq_zero (Nat.sub_mod_eq_zero_of_mod_eq h2)
    obtain ⟨j, hj⟩ := hd2
    rw [Nat.mul_comm] at hj hq
    refine ⟨j, List.mem_range.mpr ?_, by omega⟩
    have : j * n < q * n := by omega
    exact Nat.lt_of_mul_lt_mul_right this
theorem gaps_mem (hn : 0 < n) (hu : ∀ u ∈ us, 0 < u) {s : Nat} : s ∈ gapsN (n :: us) ↔ gcdL (n :: us) ∣ s ∧ ¬ Pay (n :: us) s := by
  have T := table_of hn hu
  unfold gapsN sortN gapsU
  rw [List.mem_mergeSort, List.mem_flatMap]
  have hgn : gcdL (n :: us) ∣ n := gcdL_dvd (List.mem_cons_self ..)
  constructor
  · rintro ⟨r, hr, h⟩
    have hr := List.mem_range.mp hr
    cases hm : (firstN (n :: us)).getD r none with
    | none => rw [hm] at h; cases h
    | some m =>
      rw [hm] at h
      obtain ⟨h1, h2, h3, h4, h5⟩ := first_is hn hu hm
      have hrm : r ≤ m := by rw [← h1]; exact Nat.mod_le _ _
      obtain ⟨k1, k2, k3⟩ := (rowG_mem hn hrm (by rw [h1, Nat.mod_eq_of_lt h4])).mp h
      rw [Nat.mod_eq_of_lt h4] at k2
      refine ⟨?_, fun hp => ?_⟩
      · rw [← k2] at h3; exact (Nat.dvd_mod_iff hgn).mp h3
      · have := h5 s hp k2; omega
  · rintro ⟨h1, h2⟩
    have hr : s % n < n := Nat.mod_lt _ hn
    have hgr : gcdL (n :: us) ∣ s % n := (Nat.dvd_mod_iff hgn).mpr h1
    refine ⟨s % n, List.mem_range.mpr (by rw [T.len]; exact hr), ?_⟩
    have hB : ∀ u ∈ us, u ≤ us.sum := by
      intro u h
      clear hgr hr h1 h2 hgn T hu
      induction us with
      | nil => cases h
      | cons a l ih =>
        rw [List.sum_cons]
        rcases List.mem_cons.mp h with rfl | h
        · omega
        · have := ih h; omega
    obtain ⟨m, hm, _⟩ := first_some hn hu _ hB hr hgr
    rw [hm]
    obtain ⟨k1, k2, k3, k4, k5⟩ := first_is hn hu hm
    have hrm : s % n ≤ m := by rw [← k1]; exact Nat.mod_le _ _
    refine (rowG_mem hn hrm (by rw [k1, Nat.mod_eq_of_lt hr])).mpr ⟨Nat.mod_le _ _, by rw [Nat.mod_mod], ?_⟩
    refine Nat.lt_of_not_le fun hle => h2 ?_
    have hd : n ∣ s - m := Nat.dvd_of_mod_eq_zero (Nat.sub_mod_eq_zero_of_mod_eq (by rw [k1]))
    obtain ⟨j, hj⟩ := hd
    have e : s = m + j * n := by rw [Nat.mul_comm] at hj; omega
    rw [e]; exact pay_add k2 (pay_mul (pay_mem (List.mem_cons_self ..)) j)
theorem rowG_nodup {n r m : Nat} (hn : 0 < n) : (rowG n r m).Nodup := by
  unfold rowG
  rw [List.nodup_iff_pairwise_ne, List.pairwise_map]
  refine List.Pairwise.imp ?_ List.nodup_range
  intro a b hab h
  exact hab (Nat.eq_of_mul_eq_mul_right hn (by omega))
theorem flat_nodup {α β : Type} (f : α → List β) : ∀ (l : List α), l.Nodup → (∀ a ∈ l, (f a).Nodup) → (∀ a ∈ l, ∀ b ∈ l, a ≠ b → ∀ x, x ∈ f a → x ∉ f b) → (l.flatMap f).Nodup
  | [], _, _, _ => by simp
  | a :: l, hn, h1, h2 => by
    rw [List.flatMap_cons, List.nodup_append]
    have hn' := List.nodup_cons.mp hn
    refine ⟨h1 a (List.mem_cons_self ..), flat_nodup f l hn'.2 (fun b hb => h1 b (List.mem_cons_of_mem _ hb)) (fun b hb c hc => h2 b (List.mem_cons_of_mem _ hb) c (List.mem_cons_of_mem _ hc)), ?_⟩
    intro x hx y hy e
    subst e
    obtain ⟨b, hb, hxb⟩ := List.mem_flatMap.mp hy
    exact h2 a (List.mem_cons_self ..) b (List.mem_cons_of_mem _ hb) (fun e => hn'.1 (e ▸ hb)) x hx hxb
theorem gaps_nodup (hn : 0 < n) (hu : ∀ u ∈ us, 0 < u) : (gapsN (n :: us)).Nodup := by
  have T := table_of hn hu
  unfold gapsN sortN
  refine (List.mergeSort_perm _ _).nodup_iff.mpr ?_
  unfold gapsU
  have hin : ∀ r s, s ∈ (match (firstN (n :: us)).getD r none with | none => [] | some m => rowG n r m) → s % n = r := by
    intro r s h
    cases hm : (firstN (n :: us)).getD r none with
    | none => rw [hm] at h; cases h
    | some m =>
      rw [hm] at h
      obtain ⟨h1, h2, h3, h4, h5⟩ := first_is hn hu hm
      have hrm : r ≤ m := by rw [← h1]; exact Nat.mod_le _ _
      obtain ⟨k1, k2, k3⟩ := (rowG_mem hn hrm (by rw [h1, Nat.mod_eq_of_lt h4])).mp h
      rw [Nat.mod_eq_of_lt h4] at k2
      exact k2
  refine flat_nodup _ _ List.nodup_range (fun r hr => ?_) (fun r hr q hq hne s h1 h2 => ?_)
  · cases hm : (firstN (n :: us)).getD r none with
    | none => simp
    | some m => exact rowG_nodup hn
  · exact hne ((hin r s h1).symm.trans (hin q s h2))
theorem sortN_le (l : List Nat) : (sortN l).Pairwise (· ≤ ·) := by
  have := List.pairwise_mergeSort (le := fun a b : Nat => decide (a ≤ b)) (by intro a b c; simp; omega) (by intro a b; simp; omega) l
  exact this.imp (by intro a b h; simpa using h)
theorem gaps_lt (hn : 0 < n) (hu : ∀ u ∈ us, 0 < u) : (gapsN (n :: us)).Pairwise (· < ·) := by
  have h1 := sortN_le (gapsU n (firstN (n :: us)))
  have h2 := List.nodup_iff_pairwise_ne.mp (gaps_nodup hn hu)
  have := List.Pairwise.and h1 h2
  exact this.imp fun h => by omega
end
/-- the least one of different ones stands first -/
theorem sort_head {l : List Nat} {m : Nat} (hm : m ∈ l) (hmin : ∀ x ∈ l, m ≤ x) (hn : l.Nodup) : ∃ t, sortN l = m :: t ∧ (∀ x ∈ t, m < x ∧ x ∈ l) ∧ t.length + 1 = l.length := by
  have hp : (sortN l).Perm l := List.mergeSort_perm _ _
  have hs := sortN_le l
  have hnd := hp.nodup_iff.mpr hn
  cases h : sortN l with
  | nil =>
    have := hp.mem_iff.mpr hm
    rw [h] at this; cases this
  | cons a t =>
    rw [h] at hp hs hnd
    have hs := List.pairwise_cons.mp hs
    have hnd := List.nodup_cons.mp hnd
    have ha : a ∈ l := hp.mem_iff.mp (List.mem_cons_self ..)
    have e : a = m := by
      rcases List.mem_cons.mp (hp.mem_iff.mpr hm) with e | e
      · exact e.symm
      · have := hs.1 m e
        have := hmin a ha
        omega
    subst e
    refine ⟨t, rfl, fun x hx => ⟨?_, hp.mem_iff.mp (List.mem_cons_of_mem _ hx)⟩, ?_⟩
    · have := hs.1 x hx
      have : x ≠ a := fun e => hnd.1 (e ▸ hx)
      omega
    · have := hp.length_eq
      simpa using this
end Rx
end

section
set_option Elab.async false
set_option linter.all false
set_option maxRecDepth 100000
set_option maxHeartbeats 1000000
set_option autoImplicit false
/-! C4: runs: first sums, payable, gaps. -/
namespace Rx
theorem everyN_get (g : Nat) (hg : 0 < g) : ∀ (xs : List D) (k i : Nat), (everyN g k xs)[i]? = xs[k + i * g]?
  | [], k, i => by cases k <;> simp [everyN]
  | x :: xs, 0, 0 => by simp [everyN]
  | x :: xs, 0, i + 1 => by
    rw [everyN, List.getElem?_cons_succ, everyN_get g hg xs (g - 1) i]
    rw [show 0 + (i + 1) * g = (g - 1 + i * g) + 1 by rw [Nat.succ_mul]; omega, List.getElem?_cons_succ]
  | x :: xs, k + 1, i => by
    rw [everyN, everyN_get g hg xs k i, show k + 1 + i * g = (k + i * g) + 1 by omega, List.getElem?_cons_succ]
theorem gcds_L (l : List Nat) : gcds l = gcdL l := rfl
/-- a coinage whose numbers are small -/
structure Small (n : Nat) (us : List Nat) : Prop where
  n0 : 0 < n
  n1 : n ≤ 1000
  u0 : ∀ u ∈ us, 0 < u
  u1 : ∀ u ∈ us, u ≤ 1000
  ul : us.length ≤ 8
section
variable {n : Nat} {us : List Nat}
theorem Small.mem (S : Small n us) : ∀ k ∈ n :: us, k < 1073741824 := fun k hk => by
  rcases List.mem_cons.mp hk with rfl | hk
  · have := S.n1; omega
  · have := S.u1 k hk; omega
theorem Small.gpos (S : Small n us) : 0 < gcdL (n :: us) := gcdL_pos (List.mem_cons_self ..) S.n0
theorem Small.gle (S : Small n us) : gcdL (n :: us) ≤ n := Nat.le_of_dvd S.n0 (gcdL_dvd (List.mem_cons_self ..))
theorem Small.bd (S : Small n us) {k : Nat} (hk : k < n / gcdL (n :: us)) : gt (firsts (n :: us)) k ≤ 8000000 :=
  Nat.le_trans (firsts_bd S.n0 S.u0 S.u1 hk) (Nat.le_trans (Nat.mul_le_mul S.ul (Nat.mul_le_mul S.n1 (Nat.le_refl 1000))) (by decide))
theorem Small.bdF (S : Small n us) {r m : Nat} (h : (firstN (n :: us)).getD r none = some m) : m ≤ 8000000 := by
  obtain ⟨h1, h2, h3, h4, h5⟩ := first_is S.n0 S.u0 h
  obtain ⟨m', k1, k2⟩ := first_some S.n0 S.u0 1000 S.u1 h4 h3
  rw [h] at k1
  injection k1 with k1
  rw [← k1] at k2
  exact Nat.le_trans k2 (Nat.le_trans (Nat.mul_le_mul S.ul (Nat.mul_le_mul S.n1 (Nat.le_refl 1000))) (by decide))
end
/-! sorted, max -/
theorem alikeAll_dV (v : List Nat) : alikeAll (dV v) = true := by
  unfold alikeAll
  rw [List.all_eq_true]
  intro x hx
  rw [List.all_eq_true]
  intro y hy
  obtain ⟨a, _, rfl⟩ := List.mem_map.mp hx
  obtain ⟨b, _, rfl⟩ := List.mem_map.mp hy
  rfl
theorem sortable_dV (v : List Nat) : sortable (dV v) = true := by
  unfold sortable
  rw [Bool.or_eq_true]
  left
  rw [List.all_eq_true]
  intro x hx
  obtain ⟨a, _, rfl⟩ := List.mem_map.mp hx
  rfl
theorem sort_dVT (v : List Nat) : opU .sorted (.tup (dV v)) = some (.lst (dV (sortN v))) := by
  have h3 : D.plainL (dV v) = true := plain_ints v
  have h4 : D.depthL (dV v) < 60 := by
    have : D.depthL (dV v) = 0 := depth_ints v
    omega
  have hc : (alikeAll (dV v) && sortable (dV v) && D.plainL (dV v) && decide (D.depthL (dV v) < 60)) = true := by rw [alikeAll_dV, sortable_dV, h3, decide_eq_true h4]; rfl
  have h : opU .sorted (.tup (dV v)) = some (.lst (sortD (dV v))) := if_pos hc
  rw [h]
  have e : dV (sortN v) = sortD (dV v) := by
    unfold dV sortN sortD
    refine List.map_mergeSort (r := fun a b : Nat => decide (a ≤ b)) (s := fun a b => !D.ltb b a) (f := fun (k : Nat) => D.int k) fun a _ b _ => ?_
    show decide (a ≤ b) = !decide ((b : Int) < (a : Int))
    rw [dlt_nat]
    by_cases h : a ≤ b
    · rw [decide_eq_true h, decide_eq_false (by omega)]; rfl
    · rw [decide_eq_false h, decide_eq_true (by omega)]; rfl
  rw [e]
theorem sort_dV (v : List Nat) : opU .sorted (.lst (dV v)) = some (.lst (dV (sortN v))) := by
  have h3 : D.plainL (dV v) = true := plain_ints v
  have h4 : D.depthL (dV v) < 60 := by
    have : D.depthL (dV v) = 0 := depth_ints v
    omega
  have hc : (alikeAll (dV v) && sortable (dV v) && D.plainL (dV v) && decide (D.depthL (dV v) < 60)) = true := by rw [alikeAll_dV, sortable_dV, h3, decide_eq_true h4]; rfl
  have h : opU .sorted (.lst (dV v)) = some (.lst (sortD (dV v))) := if_pos hc
  rw [h]
  have e : dV (sortN v) = sortD (dV v) := by
    unfold dV sortN sortD
    refine List.map_mergeSort (r := fun a b : Nat => decide (a ≤ b)) (s := fun a b => !D.ltb b a) (f := fun (k : Nat) => D.int k) fun a _ b _ => ?_
    show decide (a ≤ b) = !decide ((b : Int) < (a : Int))
    rw [dlt_nat]
    by_cases h : a ≤ b
    · rw [decide_eq_true h, decide_eq_false (by omega)]; rfl
    · rw [decide_eq_false h, decide_eq_true (by omega)]; rfl
  rw [e]
def maxL (l : List Nat) : Nat := l.foldl max 0
theorem maxL_le : ∀ (l : List Nat) (w : Nat), w ≤ l.foldl max w ∧ ∀ k ∈ l, k ≤ l.foldl max w
  | [], w => ⟨Nat.le_refl _, by simp⟩
  | a :: l, w => by
    obtain ⟨h1, h2⟩ := maxL_le l (max w a)
    rw [List.foldl_cons]
    refine ⟨by omega, fun k hk => ?_⟩
    rcases List.mem_cons.mp hk with rfl | hk
    · omega
    · exact h2 k hk
theorem maxL_mem : ∀ (l : List Nat) (w : Nat), l.foldl max w = w ∨ l.foldl max w ∈ l
  | [], w => .inl rfl
  | a :: l, w => by
    rw [List.foldl_cons]
    rcases maxL_mem l (max w a) with h | h
    · rw [h]
      rcases Nat.le_total w a with q | q
      · rw [Nat.max_eq_right q]; exact .inr (List.mem_cons_self ..)
      · rw [Nat.max_eq_left q]; exact .inl rfl
    · exact .inr (List.mem_cons_of_mem _ h)
theorem maxL_ge {l : List Nat} {k : Nat} (h : k ∈ l) : k ≤ maxL l := (maxL_le l 0).2 k h
theorem maxL_in {l : List Nat} (h : l ≠ []) : maxL l ∈ l := by
  rcases maxL_mem l 0 with q | q
  · cases l with
    | nil => exact absurd rfl h
    | cons a l =>
      have : a ≤ maxL (a :: l) := maxL_ge (List.mem_cons_self ..)
      have e : maxL (a :: l) = 0 := q
      have : a = maxL (a :: l) := by omega
      rw [← this]; exact List.mem_cons_self ..
  · exact q
theorem ints_dV : ∀ (v : List Nat), D.ints (dV v) = some (v.map fun (k : Nat) => (k : Int))
  | [] => rfl
  | a :: v => by show (D.ints (dV v)).map _ = _; rw [ints_dV v]; rfl
theorem max_fold : ∀ (l : List Nat) (w : Nat), (l.map fun (k : Nat) => (k : Int)).foldl (fun m x => if m < x then x else m) (w : Int) = ((l.foldl max w : Nat) : Int)
  | [], w => rfl
  | a :: l, w => by
    rw [List.map_cons, List.foldl_cons, List.foldl_cons]
    by_cases h : w < a
    · rw [if_pos (by omega), max_fold l a, Nat.max_eq_right (by omega)]
    · rw [if_neg (by omega), max_fold l w, Nat.max_eq_left (by omega)]
theorem max_dV {v : List Nat} (h : v ≠ []) (t : Bool) : opU .max (if t then .tup (dV v) else .lst (dV v)) = some (.int (maxL v : Nat)) := by
  have key : (D.ints (dV v)).bind (fun ns => match ns with | [] => none | n :: ns => some (D.int (ns.foldl (fun m x => if m < x then x else m) n))) = some (.int (maxL v : Nat)) := by
    rw [ints_dV, Option.bind_some]
    cases v with
    | nil => exact absurd rfl h
    | cons a v =>
      show some (D.int ((v.map fun (k : Nat) => (k : Int)).foldl (fun m x => if m < x then x else m) (a : Int))) = _
      rw [max_fold]
      unfold maxL
      rw [List.foldl_cons, Nat.zero_max]
  cases t <;> exact key
/-! gaps -/
theorem fold_flat {α β : Type} (f : α → List β) : ∀ (l : List α) (acc : List β), l.foldl (fun acc a => acc ++ f a) acc = acc ++ l.flatMap f
  | [], acc => by simp
  | a :: l, acc => by rw [List.foldl_cons, fold_flat f l, List.flatMap_cons, List.append_assoc]
theorem dV_app (a b : List Nat) : dV (a ++ b) = dV a ++ dV b := by simp [dV]
theorem rowG_len {n r m : Nat} : (rowG n r m).length = (m - r + n - 1) / n := by simp [rowG]
theorem ofw_r3 {G : Nat → List D → Option D} {env : Env} {e1 e2 e3 : E} {r m n : Nat} (h : evB G env [e1, e2, e3] = some [.int r, .int m, .int n]) (hn : 0 < n) (hrm : r ≤ m) (hm : m < 100000000) (hn1 : n < 1000000) (hl : (m - r + n - 1) / n ≤ 16777216) : ev G env (.ofw true .r3 [e1, e2, e3]) = some (.lst (dV (rowG n r m))) := by
  have hw : walkO .r3 [.int r, .int m, .int n] = some (dV (rowG n r m)) := by
    simp only [walkO, walk]
    rw [if_pos ⟨by omega, by omega, by omega, by omega, by omega, by omega⟩]
    have hs : rsize r m n = (m - r + n - 1) / n := by
      unfold rsize
      rw [if_pos (by omega), show ((m : Int) - r + n - 1).toNat = m - r + n - 1 by omega, Int.toNat_natCast]
    rw [hs]
    unfold dV rowG
    rw [List.map_map]
    refine congrArg some (List.map_congr_left fun k _ => ?_)
    show D.int ((r : Int) + (k : Int) * (n : Int)) = D.int ((r + k * n : Nat) : Int)
    rw [Int.natCast_add, Int.natCast_mul]
  rw [ev, h, Option.bind_some, hw, Option.bind_some, if_pos (by rw [dV_len, rowG_len]; exact hl)]
  rfl
section
variable {n : Nat} {us : List Nat}
theorem firsts_ne (S : Small n us) : firsts (n :: us) ≠ [] := fun z => by
  have := firsts_len (n := n) (us := us)
  rw [z] at this
  have h := Nat.div_pos S.gle S.gpos
  simp at this; omega
end
end Rx
end

section
set_option Elab.async false
set_option linter.all false
set_option maxRecDepth 100000
set_option maxHeartbeats 1000000
set_option autoImplicit false
/-! C5: the laws' helpers. -/
namespace Rx
section
variable {G GI : Nat → List D → Option D}
abbrev dbody : List S := [.ifs (.val (.cmp .eq (.var 1) (.int 0))) [.brk] [], .asgP [(0, false), (1, false)] [(.var 1), (.bin .mod (.b1 .int (.var 0)) (.var 1))]]
theorem for_gcd : ∀ (k a b : Nat) (l : List D), b < 2 ^ k → 2 * k ≤ l.length → ∃ y : Nat,
    forL (fun d e => (bind (.name 2) d e).bind fun e' => exs G GI e' dbody) [2] l [.val (.int a), .val (.int b), .unk] = some (.nx, [.val (.int (Nat.gcd a b : Nat)), .val (.int y), .unk]) := by
  have fin : ∀ (a : Nat) (l : List D), ∃ y : Nat, forL (fun d e => (bind (.name 2) d e).bind fun e' => exs G GI e' dbody) [2] l [.val (.int a), .val (.int (0 : Nat)), .unk] = some (.nx, [.val (.int (Nat.gcd a 0 : Nat)), .val (.int y), .unk]) := by
    intro a l
    cases l with
    | nil => exact ⟨0, by rw [forL]; simp⟩
    | cons d l =>
      refine ⟨0, ?_⟩
      rw [forL]
      show (exs G GI [.val (.int a), .val (.int (0 : Nat)), .val d] dbody).bind _ = _
      have : exs G GI [.val (.int a), .val (.int (0 : Nat)), .val d] dbody = some (.brk, [.val (.int a), .val (.int (0 : Nat)), .val d]) := by
        rw [exs_cons]
        have : ex G GI [.val (.int a), .val (.int (0 : Nat)), .val d] (.ifs (.val (.cmp .eq (.var 1) (.int 0))) [.brk] []) = some (.brk, [.val (.int a), .val (.int (0 : Nat)), .val d]) := by
          unfold ex
          rw [show ts G [.val (.int a), .val (.int (0 : Nat)), .val d] (.val (.cmp .eq (.var 1) (.int 0))) = some true by simp, Option.bind_some]
          rfl
        rw [this]; rfl
      rw [this]
      simp
  have one : ∀ (a b : Nat) (d : D) (l : List D), 0 < b → forL (fun d e => (bind (.name 2) d e).bind fun e' => exs G GI e' dbody) [2] (d :: l) [.val (.int a), .val (.int b), .unk]
      = forL (fun d e => (bind (.name 2) d e).bind fun e' => exs G GI e' dbody) [2] l [.val (.int b), .val (.int (a % b : Nat)), .unk] := by
    intro a b d l hb
    have hb' : (0 : Int) < b := by omega
    rw [forL]
    show (exs G GI [.val (.int a), .val (.int b), .val d] dbody).bind _ = _
    rw [exs_skip (by simp; omega), exs_asgP (ds := [.int b, .int (a % b : Nat)]) (env' := [.val (.int b), .val (.int (a % b : Nat)), .val d]) (by simp [opB_mod hb']) (by simp)]
    rfl
  intro k
  induction k with
  | zero =>
    intro a b l hb _
    obtain rfl : b = 0 := by simpa using hb
    exact fin a l
  | succ k ih =>
    intro a b l hb hl
    by_cases h0 : b = 0
    · subst h0; exact fin a l
    · match l, hl with
      | d1 :: d2 :: l, hl =>
        rw [one a b d1 (d2 :: l) (by omega)]
        by_cases h1 : a % b = 0
        · rw [h1]
          have e : Nat.gcd a b = Nat.gcd b 0 := by rw [Nat.gcd_comm, Nat.gcd_rec, h1, Nat.gcd_comm]
          rw [e]; exact fin b _
        · rw [one b (a % b) d2 l (by omega)]
          have h2 : b % (a % b) < 2 ^ k := by
            have q1 : b % (a % b) < a % b := Nat.mod_lt _ (by omega)
            have hr : a % b < b := Nat.mod_lt _ (by omega)
            have q2 : (a % b) + b % (a % b) ≤ b := by
              have := Nat.div_add_mod b (a % b)
              have hq : 1 ≤ b / (a % b) := Nat.div_pos (by omega) (by omega)
              have : (a % b) * 1 ≤ (a % b) * (b / (a % b)) := Nat.mul_le_mul_left _ hq
              omega
            rw [Nat.pow_succ] at hb
            omega
          have e : Nat.gcd a b = Nat.gcd (a % b) (b % (a % b)) := by
            rw [Nat.gcd_comm a b, Nat.gcd_rec b a, Nat.gcd_rec (a % b) b, Nat.gcd_comm]
          rw [e]
          exact ih (a % b) (b % (a % b)) l h2 (by simp at hl; omega)
end
theorem simple_dV : ∀ (v : List Nat), D.simpleL (dV v) = true
  | [] => rfl
  | a :: v => by show (D.simple (.int a) && D.simpleL (dV v)) = true; rw [simple_dV v]; rfl
theorem like_dV (c : Nat) (v : List Nat) (h : v.length ≤ 100000) : run defs (c + 3) 10 [.tup (dV v), .tup (dV v)] = some (.bl true) := by
  refine like_self (defs := defs) rfl rfl c 1 (.tup (dV v)) ?_ ?_
  · show (D.simpleL (dV v) && decide ((dV v).length ≤ 100000)) = true
    rw [simple_dV, dV_len, decide_eq_true h]; rfl
  · have : D.depthL (dV v) = 0 := depth_ints v
    show D.depthL (dV v) + 1 ≤ 1
    omega
theorem like_bl (c : Nat) (b : Bool) : run defs (c + 2) 10 [.bl b, .bl b] = some (.bl true) := like_self (defs := defs) rfl rfl c 0 (.bl b) rfl (Nat.le_refl 0)
theorem like_int (c : Nat) (b : Int) : run defs (c + 2) 10 [.int b, .int b] = some (.bl true) := like_self (defs := defs) rfl rfl c 0 (.int b) rfl (Nat.le_refl 0)
theorem like_non (c : Nat) : run defs (c + 2) 10 [.non, .non] = some (.bl true) := like_self (defs := defs) rfl rfl c 0 .non rfl (Nat.le_refl 0)
theorem like_dN (c : Nat) (x : Option Nat) : run defs (c + 2) 10 [dN x, dN x] = some (.bl true) := by
  cases x with
  | none => exact like_non c
  | some k => exact like_int c k
end Rx
end

section
set_option Elab.async false
set_option linter.all false
set_option maxRecDepth 100000
set_option maxHeartbeats 1000000
set_option autoImplicit false
/-! C11: the run of law_coins; lists without repetition. -/
namespace Rx
theorem filter_ne_len (a : Nat) : ∀ w : List Nat, w.Nodup → w.length ≤ (w.filter fun x => decide (x ≠ a)).length + 1
  | [], _ => by simp
  | x :: w, h => by
    obtain ⟨h1, h2⟩ := List.nodup_cons.mp h
    by_cases q : x = a
    · subst q
      have : (w.filter fun y => decide (y ≠ x)) = w := List.filter_eq_self.mpr fun y hy => decide_eq_true fun e => h1 (e ▸ hy)
      rw [List.filter_cons_of_neg (by simp), this, List.length_cons]
      exact Nat.le_refl _
    · have e : (x :: w).filter (fun y => decide (y ≠ a)) = x :: w.filter (fun y => decide (y ≠ a)) := List.filter_cons_of_pos (by simp [q])
      rw [e, List.length_cons, List.length_cons]
      have := filter_ne_len a w h2
      omega
theorem nodup_sub_len : ∀ (l w : List Nat), w.Nodup → (∀ x ∈ w, x ∈ l) → w.length ≤ l.length
  | [], [], _, _ => Nat.le_refl _
  | [], x :: w, _, h => by have := h x (List.mem_cons_self ..); cases this
  | a :: l, w, hn, h => by
    have h1 := filter_ne_len a w hn
    have h2 := nodup_sub_len l (w.filter fun x => decide (x ≠ a)) (hn.filter _) fun x hx => by
      obtain ⟨a1, a2⟩ := List.mem_filter.mp hx
      exact (List.mem_cons.mp (h x a1)).resolve_left (of_decide_eq_true a2)
    rw [List.length_cons]; omega
theorem asc_nodup {l : List Nat} (h : l.Pairwise (· < ·)) : l.Nodup := List.nodup_iff_pairwise_ne.mpr (h.imp fun q => by omega)
theorem sort_asc' {l : List Nat} (h : l.Nodup) : (sortN l).Pairwise (· < ·) := by
  have h1 := sortN_le l
  have h2 := List.nodup_iff_pairwise_ne.mp ((List.mergeSort_perm l fun a b => decide (a ≤ b)).nodup_iff.mpr h)
  exact (List.Pairwise.and h1 h2).imp fun h => by omega
structure Fnd (top i : Nat) (v : List Nat) : Prop where
  nd : v.Nodup
  bd : ∀ y ∈ v, 1 ≤ y ∧ y ≤ top
  len : v.length ≤ i
  ne : 0 < i → v ≠ []
abbrev kenv (ws : List Nat) (at' most top : Nat) (c4 c5 c6 : Cell) : Env := [.val (.lst (dV ws)), .val (.int at'), .val (.int most), .val (.int top), c4, c5, c6]
theorem run_law_coins (c : Nat) {ws : List Nat} (at' most top : Nat) (hm : 0 < most) (ht : 0 < top) (hm4 : most ≤ 100) (ht60 : top ≤ 1000) (hw : at' + 1 + most ≤ ws.length) : ∃ v : List Nat, run defs (c + 1) 159 [.lst (dV ws), .int at', .int most, .int top] = some (.tup (dV v)) ∧ v.Pairwise (· < ·) ∧ v ≠ [] ∧ (∀ y ∈ v, 1 ≤ y ∧ y ≤ top) ∧ v.length ≤ most := by
  generalize hG : run defs c = G
  generalize hGI : runI defs c = GI
  have hN := Nat.mod_lt (gt ws at') hm
  generalize hNN : 1 + gt ws at' % most = N
  have hloop := forL_foldA (kl := [5, 6]) (step := fun d e => (bind (.name 5) d e).bind fun e' => exs G GI e' [.asg 6 (.bin .add (.int 1) (.bin .mod (.b1 .int (.sub (.var 0) (.bin .add (.bin .add (.var 1) (.int 1)) (.var 5)))) (.var 3))), .ifs (.val (.cmp .notin (.var 6) (.var 4))) [.app 4 (.var 6)] []]) (fun (k : Nat) => .int k) (fun (v : List Nat) => kenv ws at' most top (.own (.lst (dV v))) .unk .unk) (fun v k => if 1 + gt ws (at' + 1 + k) % top ∈ v then v else v ++ [1 + gt ws (at' + 1 + k) % top]) (fun i v => Fnd top i v) (List.range N) 0 [] ⟨by simp, by simp, by simp, by simp⟩ (fun _ => rfl) (fun j a v hj hp => by
    have hk : j < N := by have := (List.getElem?_eq_some_iff.mp hj).1; simpa using this
    have hae : a = j := by rw [List.getElem?_range hk] at hj; simpa using hj.symm
    subst hae
    rw [Nat.zero_add] at hp ⊢
    have hmod := Nat.mod_lt (gt ws (at' + 1 + a)) ht
    have e7 : ev G (kenv ws at' most top (.own (.lst (dV v))) (.val (.int a)) .unk) (.bin .add (.int 1) (.bin .mod (.b1 .int (.sub (.var 0) (.bin .add (.bin .add (.var 1) (.int 1)) (.var 5)))) (.var 3))) = some (.int ((1 + gt ws (at' + 1 + a) % top : Nat) : Int)) := by
      refine ev_bin_of (x := .int (1 : Nat)) (y := .int ((gt ws (at' + 1 + a) % top : Nat) : Int)) (by simp) ?_ opB_addN
      rw [bo_bin]
      exact ev_mod (m := top) (ev_at (ws := ws) (i := at' + 1 + a) rfl (ev_bin_of (x := .int ((at' + 1 : Nat) : Int)) (y := .int a) (by rw [bo_bin, ev_bin_of (x := .int at') (y := .int (1 : Nat)) (by rw [bo_var]; rfl) (by simp) opB_addN]) (by rw [bo_var]; rfl) opB_addN) (by omega) rfl) (fun _ => bo_b1) (by rw [bo_var]; rfl) ht
    have hx : 1 ≤ 1 + gt ws (at' + 1 + a) % top ∧ 1 + gt ws (at' + 1 + a) % top ≤ top := by omega
    generalize 1 + gt ws (at' + 1 + a) % top = x at e7 hx ⊢
    have t1 : ts G (kenv ws at' most top (.own (.lst (dV v))) (.val (.int a)) (.val (.int x))) (.val (.cmp .notin (.var 6) (.var 4))) = some (!decide (x ∈ v)) := by
      have e1 : opC .notin (.int x) (.lst (dV v)) = some (!decide (x ∈ v)) := by show (D.isIn _ _).map not = _; rw [isIn_lst]; rfl
      exact ts_val (x := .bl (!decide (x ∈ v))) (by rw [bo_cmp, se_cmp]; simp [e1]) rfl
    by_cases hin : x ∈ v
    · rw [if_pos hin]
      rw [decide_eq_true hin] at t1
      refine ⟨⟨hp.nd, hp.bd, by have := hp.len; omega, fun _ => List.ne_nil_of_mem hin⟩, kenv ws at' most top (.own (.lst (dV v))) (.val (.int a)) (.val (.int x)), ?_, rfl⟩
      rw [x_bindN, Option.bind_some]
      simp only [List.set_cons_succ, List.set_cons_zero]
      rw [exs_asg e7]
      simp only [List.set_cons_succ, List.set_cons_zero]
      rw [exs_skip t1, exs_nil]
    · rw [if_neg hin]
      rw [decide_eq_false hin] at t1
      refine ⟨⟨?_, fun y hy => ?_, by have := hp.len; simp; omega, fun _ => by simp⟩, kenv ws at' most top (.own (.lst (dV (v ++ [x])))) (.val (.int a)) (.val (.int x)), ?_, rfl⟩
      · rw [List.nodup_append]
        refine ⟨hp.nd, by simp, fun y hy z hz => ?_⟩
        simp at hz
        subst hz
        intro e; subst e; exact hin hy
      · rcases List.mem_append.mp hy with hy | hy
        · exact hp.bd y hy
        · simp at hy; subst hy; exact hx
      · rw [x_bindN, Option.bind_some]
        simp only [List.set_cons_succ, List.set_cons_zero]
        rw [exs_asg e7]
        simp only [List.set_cons_succ, List.set_cons_zero]
        have happ := exs_app (G := G) (GI := GI) (env := kenv ws at' most top (.own (.lst (dV v))) (.val (.int a)) (.val (.int x))) (n := 4) (ss := []) (xs := dV v) (e := .var 6) (d := .int x) rfl (by rw [se_var]; rfl) (by rw [dV_len]; have := hp.len; show _ < 16777216; omega)
        rw [exs_ifT t1 happ, exs_nil, dV_app]
        rfl)
  obtain ⟨hf, hv⟩ := hloop
  rw [Nat.zero_add, List.length_range] at hv
  generalize (List.range N).foldl (fun v k => if 1 + gt ws (at' + 1 + k) % top ∈ v then v else v ++ [1 + gt ws (at' + 1 + k) % top]) [] = v at hf hv
  have hmem : ∀ x, x ∈ sortN v ↔ x ∈ v := fun x => by unfold sortN; exact List.mem_mergeSort
  have hlen : (sortN v).length = v.length := by unfold sortN; exact List.length_mergeSort v
  refine ⟨sortN v, run_of (fn := f_law_coins) rfl rfl rfl ?_, sort_asc' hv.nd, fun z => hv.ne (by omega) (by cases v with | nil => rfl | cons a v => rw [z] at hlen; simp at hlen), fun y hy => hv.bd y ((hmem y).mp hy), by rw [hlen]; have := hv.len; omega⟩
  rw [hG, hGI]
  show retD (exs G GI (kenv ws at' most top .unk .unk .unk) (.asgO 4 _ :: .for_ _ _ _ _ _ :: [.ret _])) = _
  rw [exs_asgO (d := .lst []) ev_lst0 rfl]
  show retD (exs G GI (kenv ws at' most top (.own (.lst (dV []))) .unk .unk) _) = _
  have eN : evL G (kenv ws at' most top (.own (.lst (dV []))) .unk .unk) [(.bin .add (.int 1) (.bin .mod (.b1 .int (.sub (.var 0) (.var 1))) (.var 2)))] = some [.int (N : Nat)] := by
    rw [se_cons, ev_bin_of (x := .int (1 : Nat)) (y := .int ((gt ws at' % most : Nat) : Int)) (by simp) (by
      rw [bo_bin]
      exact ev_mod (m := most) (ev_at (ws := ws) (i := at') rfl (by rw [se_var]; rfl) (by omega) rfl) (fun _ => bo_b1) (by rw [bo_var]; rfl) hm) opB_addN, hNN, se_nil]; rfl
  rw [exs_for eN (walk_r1m (by omega)) hf]
  rw [exs_ret (d := .tup (dV (sortN v))) (by rw [ev_b1 (x := .lst (dV (sortN v))) (z := .tup (dV (sortN v))) (by rw [bo_b1, ev_b1 (x := .lst (dV v)) (by rw [bo_var]; rfl) (sort_dV v)]) rfl])]
  rfl
end Rx
end

section
set_option Elab.async false
set_option linter.all false
set_option maxRecDepth 100000
set_option maxHeartbeats 1000000
set_option autoImplicit false
/-! C10: the runs of least_numbers, least_number, best_payment. -/
namespace Rx
theorem fm_dN : ∀ (F : List (Option Nat)), (F.filter fun x => x.isSome).map dN = dV (F.filterMap id)
  | [] => rfl
  | none :: F => by
    show (F.filter fun x => x.isSome).map dN = dV (F.filterMap id)
    exact fm_dN F
  | some a :: F => by
    show dN (some a) :: (F.filter fun x => x.isSome).map dN = D.int a :: dV (F.filterMap id)
    rw [fm_dN F]; rfl
theorem leastD_ints : ∀ (b : Nat) (bs : List Nat), leastD (.int b) (dV bs) = .int (minF b bs : Nat)
  | b, [] => rfl
  | b, x :: bs => by
    show leastD (if decide ((x : Int) < (b : Int)) = true then D.int x else D.int b) (dV bs) = .int (minF (if x < b then x else b) bs : Nat)
    rw [dlt_nat]
    by_cases q : x < b
    · rw [if_pos (decide_eq_true q), if_pos q]; exact leastD_ints x bs
    · rw [if_neg (by simpa using q), if_neg q]; exact leastD_ints b bs
theorem min_dV (b : Nat) (bs : List Nat) : opU .min (.lst (dV (b :: bs))) = some (.int (minF b bs : Nat)) := by
  have h3 : D.plainL (dV (b :: bs)) = true := plain_ints _
  have h4 : D.depthL (dV (b :: bs)) < 60 := by
    have : D.depthL (dV (b :: bs)) = 0 := depth_ints _
    omega
  have hc : (alikeAll (dV (b :: bs)) && D.plainL (dV (b :: bs)) && decide (D.depthL (dV (b :: bs)) < 60)) = true := by rw [alikeAll_dV, h3, decide_eq_true h4]; rfl
  show (if (alikeAll (dV (b :: bs)) && D.plainL (dV (b :: bs)) && decide (D.depthL (dV (b :: bs)) < 60)) = true then some (leastD (.int b) (dV bs)) else none) = _
  rw [if_pos hc, leastD_ints]
theorem nones_d (A : Nat) (hA : A ≤ 16000000) : opB .mul (.lst [.non]) (.int A) = some (.lst ((List.replicate A none).map dN)) := by
  have hc : -(2 ^ 62) < (A : Int) ∧ (A : Int) < 2 ^ 62 ∧ [D.non].length * (A : Int).toNat ≤ line := ⟨by omega, by omega, by rw [Int.toNat_natCast]; show 1 * A ≤ 16777216; omega⟩
  simp only [opB]
  have hflat : ∀ k : Nat, (List.replicate k [D.non]).flatten = List.replicate k D.non := by
    intro k
    induction k with
    | zero => rfl
    | succ k ih => rw [List.replicate_succ, List.flatten_cons, ih, List.replicate_succ]; rfl
  rw [if_pos hc, Int.toNat_natCast, hflat, List.map_replicate]; rfl
theorem zeros_d' (A : Nat) (hA : A ≤ 16000000) : opB .mul (.lst [.int (0 : Nat)]) (.int A) = some (.lst (dV (List.replicate A 0))) := by
  have hc : -(2 ^ 62) < (A : Int) ∧ (A : Int) < 2 ^ 62 ∧ [D.int (0 : Nat)].length * (A : Int).toNat ≤ line := ⟨by omega, by omega, by rw [Int.toNat_natCast]; show 1 * A ≤ 16777216; omega⟩
  simp only [opB]
  have hflat : ∀ k : Nat, (List.replicate k [D.int (0 : Nat)]).flatten = List.replicate k (D.int (0 : Nat)) := by
    intro k
    induction k with
    | zero => rfl
    | succ k ih => rw [List.replicate_succ, List.flatten_cons, ih, List.replicate_succ]; rfl
  rw [if_pos hc, Int.toNat_natCast, hflat]
  unfold dV
  rw [List.map_replicate]
theorem putAt_N {F : List (Option Nat)} {i x : Nat} (h : i < F.length) : putAt (.lst (F.map dN)) (.int i) (.int x) = some (.lst ((F.set i (some x)).map dN)) := by
  show (ixN (F.map dN).length (i : Int)).map _ = _
  rw [ixN_nat (by simpa using h), List.map_set]; rfl
abbrev ebody : List S := [.asg 4 (.comp (.sub (.var 2) (.bin .sub (.var 3) (.var 5))) (.name 5) .seq [(.var 0)] [(.val (.cmp .le (.var 5) (.var 3)))] [5]), .asg 4 (.comp (.var 6) (.name 6) .seq [(.var 4)] [(.val (.cmp .isnt (.var 6) .non))] [6]), .ifs (.val (.var 4)) [.sset 2 (.var 3) (.bin .add (.int 1) (.b1 .min (.var 4)))] []]
theorem run_nums (c : Nat) (vs : List Nat) (A : Nat) (hA : A ≤ 1000000) (hl : vs.length ≤ 1000) : run defs (c + 1) 26 [.tup (dV vs), .int A] = some (.lst ((numT vs A).map dN)) := by
  refine run_of (fn := f_least_numbers) rfl rfl rfl ?_
  generalize run defs c = G
  generalize runI defs c = GI
  show retD (exs G GI [.val (.tup (dV vs)), .val (.int A), .unk, .unk, .unk, .unk, .unk] (.asgO 2 _ :: .for_ _ _ _ _ _ :: _)) = _
  have e0 : ev G [.val (.tup (dV vs)), .val (.int A), .unk, .unk, .unk, .unk, .unk] (.lst [.int 0]) = some (.lst [dN (some 0)]) := by
    rw [ev, show evL G [.val (.tup (dV vs)), .val (.int A), .unk, .unk, .unk, .unk, .unk] [.int 0] = some [.int (0 : Nat)] by simp, Option.bind_some]; exact fits_of (by show 1 ≤ 16777216; omega)
  have en : ev G [.val (.tup (dV vs)), .val (.int A), .unk, .unk, .unk, .unk, .unk] (.lst [.non]) = some (.lst [.non]) := by
    rw [ev, show evL G [.val (.tup (dV vs)), .val (.int A), .unk, .unk, .unk, .unk, .unk] [.non] = some [.non] by simp, Option.bind_some]; exact fits_of (by show 1 ≤ 16777216; omega)
  have hadd : opB .add (.lst [dN (some 0)]) (.lst ((List.replicate A none).map dN)) = some (.lst ((some 0 :: List.replicate A none).map dN)) := by
    have hl : [dN (some 0)].length + ((List.replicate A none).map dN).length ≤ line := by simp; show _ ≤ 16777216; omega
    show (if [dN (some 0)].length + ((List.replicate A none).map dN).length ≤ line then some (D.lst ([dN (some 0)] ++ (List.replicate A none).map dN)) else none) = _
    rw [if_pos hl]; rfl
  rw [exs_asgO (d := .lst ((some 0 :: List.replicate A none).map dN)) (ev_bin_of (x := .lst [dN (some 0)]) (y := .lst ((List.replicate A none).map dN)) (by rw [bo_lst, e0]) (by rw [bo_bin]; exact ev_bin_of (x := .lst [.non]) (y := .int A) (by rw [bo_lst, en]) (by simp) (nones_d A (by omega))) hadd) rfl]
  simp only [List.set_cons_succ, List.set_cons_zero]
  have hf := forL_foldA (kl := [3, 4]) (step := fun d e => (bind (.name 3) d e).bind fun e' => exs G GI e' ebody) (fun (k : Nat) => .int ((1 + k : Nat) : Int)) (fun (F : List (Option Nat)) => [.val (.tup (dV vs)), .val (.int A), .own (.lst (F.map dN)), .unk, .unk, .unk, .unk]) (stepT vs) (fun _ F => F.length = A + 1) (List.range A) 0 (some 0 :: List.replicate A none) (by simp) (fun _ => rfl) (fun j k F hj hp => by
    have hk : k < A := by
      have := List.mem_of_getElem? hj
      exact List.mem_range.mp this
    have hlen : (stepT vs F k).length = A + 1 := by unfold stepT; split <;> simp [hp]
    refine ⟨hlen, ?_⟩
    rw [x_bindN, Option.bind_some]
    simp only [List.set_cons_succ, List.set_cons_zero]
    have hc1 := ev_compA (G := G) (env := [.val (.tup (dV vs)), .val (.int A), .own (.lst (F.map dN)), .val (.int ((1 + k : Nat) : Int)), .unk, .unk, .unk]) (e := .sub (.var 2) (.bin .sub (.var 3) (.var 5))) (t := .name 5) (k := .seq) (es := [.var 0]) (c := .val (.cmp .le (.var 5) (.var 3))) (own := [5]) (vs := [.tup (dV vs)]) vs (fun (v : Nat) => .int v) (fun v => dN (F.getD (1 + k - v) none)) (fun v => decide (v ≤ 1 + k)) (by simp) rfl (line_pos (by omega)) (fun v hv => by
      refine ⟨_, x_bindN, ts_val (x := .bl (decide (v ≤ 1 + k))) (by
        rw [bo_cmp, se_cmp]
        show (opC .le (.int (v : Nat)) (.int ((1 + k : Nat) : Int))).map D.bl = _
        rw [opC_le, dle_nat]; rfl) rfl, fun q => ?_⟩
      have q := of_decide_eq_true q
      have hlt : 1 + k - v < F.length := by omega
      rw [se_sub, ev_bin_of (x := .int ((1 + k : Nat) : Int)) (y := .int v) (z := .int ((1 + k - v : Nat) : Int)) (by rw [bo_var]; rfl) (by rw [bo_var]; rfl) (opB_subN q)]
      show Option.bind (some (D.lst (F.map dN))) _ = _
      rw [Option.bind_some, Option.bind_some, opSub_lst, dN_at hlt])
    have hm1 : (vs.filter fun v => decide (v ≤ 1 + k)).map (fun v => dN (F.getD (1 + k - v) none)) = ((vs.filter fun v => decide (v ≤ 1 + k)).map fun v => F.getD (1 + k - v) none).map dN := by rw [List.map_map]; rfl
    rw [hm1] at hc1
    rw [exs_asg hc1]
    simp only [List.set_cons_succ, List.set_cons_zero]
    have hb : bef vs F (1 + k) = ((vs.filter fun v => decide (v ≤ 1 + k)).map fun v => F.getD (1 + k - v) none).filterMap id := rfl
    have hL : ((vs.filter fun v => decide (v ≤ 1 + k)).map fun v => F.getD (1 + k - v) none).length ≤ 16777216 := by
      rw [List.length_map]
      have := List.length_filter_le (fun v => decide (v ≤ 1 + k)) vs
      omega
    generalize ((vs.filter fun v => decide (v ≤ 1 + k)).map fun v => F.getD (1 + k - v) none) = L at hb hL
    have hc2 := ev_compA (G := G) (env := [.val (.tup (dV vs)), .val (.int A), .own (.lst (F.map dN)), .val (.int ((1 + k : Nat) : Int)), .val (.lst (L.map dN)), .unk, .unk]) (e := .var 6) (t := .name 6) (k := .seq) (es := [.var 4]) (c := .val (.cmp .isnt (.var 6) .non)) (own := [6]) (vs := [.lst (L.map dN)]) L dN dN (fun x => x.isSome) (by simp) rfl (line_pos hL) (fun x hx => by
      refine ⟨_, x_bindN, ts_val (x := .bl x.isSome) (by
        rw [bo_cmp, se_cmp]
        show (opC .isnt (dN x) .non).map D.bl = _
        show some (D.bl (!D.isNon (dN x))) = _
        rw [dN_non]; cases x <;> rfl) rfl, fun _ => by rw [se_var]; rfl⟩)
    rw [fm_dN, ← hb] at hc2
    rw [exs_asg hc2]
    simp only [List.set_cons_succ, List.set_cons_zero]
    refine ⟨[.val (.tup (dV vs)), .val (.int A), .own (.lst ((stepT vs F k).map dN)), .val (.int ((1 + k : Nat) : Int)), .val (.lst (dV (bef vs F (1 + k)))), .unk, .unk], ?_, rfl⟩
    unfold stepT
    cases hbb : bef vs F (1 + k) with
    | nil =>
      rw [exs_skip (ts_val (x := .lst (dV [])) (by rw [bo_var]; rfl) rfl), exs_nil]
    | cons b bs =>
      rw [exs_ifT (env' := [.val (.tup (dV vs)), .val (.int A), .own (.lst ((F.set (1 + k) (some (1 + minF b bs))).map dN)), .val (.int ((1 + k : Nat) : Int)), .val (.lst (dV (b :: bs))), .unk, .unk]) (ts_val (x := .lst (dV (b :: bs))) (by rw [bo_var]; rfl) rfl) (by
        rw [exs_sset (v := .int ((1 + minF b bs : Nat) : Int)) (kd := .int ((1 + k : Nat) : Int)) (x := .lst (F.map dN)) (d := .lst ((F.set (1 + k) (some (1 + minF b bs))).map dN)) (ev_bin_of (x := .int (1 : Nat)) (y := .int (minF b bs : Nat)) (by simp) (by rw [bo_b1]; exact ev_b1 (x := .lst (dV (b :: bs))) (by rw [bo_var]; rfl) (min_dV b bs)) opB_addN) rfl (by rw [se_var]; rfl) (putAt_N (by omega)), exs_nil]; rfl), exs_nil])
  have hw : walk .r2 [.int 1, .int ((A : Int) + 1)] = some ((List.range A).map fun (k : Nat) => .int ((1 + k : Nat) : Int)) := by
    have := walk_r2 (lo := 1) (hi := A + 1) (by omega) (by omega)
    rw [show A + 1 - 1 = A by omega] at this
    exact this
  rw [exs_for (vs := [.int 1, .int ((A : Int) + 1)]) (by simp) hw hf.1]
  show retD (exs G GI [.val (.tup (dV vs)), .val (.int A), .own (.lst ((numT vs A).map dN)), .unk, .unk, .unk, .unk] _) = _
  rw [exs_frz (d := .lst ((numT vs A).map dN)) rfl, exs_ret (d := .lst ((numT vs A).map dN)) (by rw [se_var]; rfl)]
  rfl
section
variable {vs : List Nat}
theorem run_num (c : Nat) (A : Nat) (hA : A ≤ 1000000) (hl : vs.length ≤ 1000) (hv : ∀ v ∈ vs, 0 < v) : run defs (c + 2) 27 [.tup (dV vs), .int A] = some (dN ((numT vs A).getD A none)) := by
  refine run_of (fn := f_least_number) rfl rfl rfl ?_
  have h := run_nums c vs A hA hl
  generalize run defs (c + 1) = G at h ⊢
  generalize runI defs (c + 1) = GI
  show retD (exs G GI [.val (.tup (dV vs)), .val (.int A)] [.ret _]) = _
  have hlen := (num_is hv A).len
  rw [exs_ret (d := dN ((numT vs A).getD A none)) (by
    rw [se_sub, bo_call, ev_call (ds := [.tup (dV vs), .int A]) (by simp) h, Option.bind_some, se_var]
    show opSub (.lst ((numT vs A).map dN)) (.int A) = _
    rw [opSub_lst, dN_at (by omega)])]
  rfl
theorem run_best_non (c : Nat) (A : Nat) (hA : A ≤ 1000000) (hl : vs.length ≤ 1000) (hv : ∀ v ∈ vs, 0 < v) (hn : (numT vs A).getD A none = none) : run defs (c + 2) 28 [.tup (dV vs), .int A] = some .non := by
  refine run_of (fn := f_best_payment) rfl rfl rfl ?_
  have h := run_nums c vs A hA hl
  generalize run defs (c + 1) = G at h ⊢
  generalize runI defs (c + 1) = GI
  show retD (exs G GI [.val (.tup (dV vs)), .val (.int A), .unk, .unk, .unk, .unk, .unk] (.asg 2 _ :: .ifs _ _ _ :: _)) = _
  have hlen := (num_is hv A).len
  rw [exs_asg (ev_call (ds := [.tup (dV vs), .int A]) (by simp) h)]
  simp only [List.set_cons_succ, List.set_cons_zero]
  rw [exs_ifR (d := .non) (env' := [.val (.tup (dV vs)), .val (.int A), .val (.lst ((numT vs A).map dN)), .unk, .unk, .unk, .unk]) (ts_val (x := .bl true) (by
    rw [bo_cmp, se_cmp, bo_sub, se_sub, se_var]
    show Option.bind (opSub (.lst ((numT vs A).map dN)) (.int A)) _ = _
    rw [opSub_lst, dN_at (by omega), hn]; rfl) rfl) (by rw [exs_ret (d := .non) (by simp)])]
  rfl
abbrev bbody : List S := [.asg 5 (.sub (.var 0) (.var 4)), .asg 6 (.ife (.val (.cmp .le (.var 5) (.var 1))) (.sub (.var 2) (.bin .sub (.var 1) (.var 5))) .non), .ifs (.and (.val (.cmp .isnt (.var 6) .non)) (.val (.cmp .eq (.bin .add (.var 6) (.int 1)) (.sub (.var 2) (.var 1))))) [.saug 3 (.var 4) .add (.int 1), .aug 1 .sub (.var 5)] [.aug 4 .sub (.int 1)]]
abbrev benv (vs : List Nat) (a : Nat) (F : List (Option Nat)) (c : List Nat) (p : Nat) (c5 c6 : Cell) : Env := [.val (.tup (dV vs)), .val (.int a), .val (.lst (F.map dN)), .own (.lst (dV c)), .val (.int p), c5, c6]
theorem best_turn {G GI : Nat → List D → Option D} {A m p a : Nat} {c : List Nat} {F : List (Option Nat)} (hv : ∀ v ∈ vs, 0 < v) (hF : NumIs vs A A F) (h : BInv vs A m p a c) (ha : 0 < a) : ∃ p' a' c' e', exs G GI (benv vs a F c p .unk .unk) bbody = some (.nx, e') ∧ e'.kill [5, 6] = benv vs a' F c' p' .unk .unk ∧ BInv vs A m p' a' c' ∧ p' + a' < p + a := by
  have hpl := h.pl
  have haA : a ≤ A := by have := h.val; omega
  have hFa := hF.is a haA
  rw [exs_asg (d := .int (gt vs p : Nat)) (by rw [se_sub, se_var]; show opSub (.tup (dV vs)) (.int p) = _; rw [opSub_tup, dV_get hpl])]
  simp only [List.set_cons_succ, List.set_cons_zero]
  have e6 : ev G (benv vs a F c p (.val (.int (gt vs p : Nat))) .unk) (.ife (.val (.cmp .le (.var 5) (.var 1))) (.sub (.var 2) (.bin .sub (.var 1) (.var 5))) .non) = some (dN (if gt vs p ≤ a then F.getD (a - gt vs p) none else none)) := by
    rw [se_ife, ts_val (x := .bl (decide (gt vs p ≤ a))) (by
      rw [bo_cmp, se_cmp]
      show (opC .le (.int (gt vs p : Nat)) (.int a)).map D.bl = _
      rw [opC_le, dle_nat]; rfl) rfl, Option.bind_some]
    by_cases q : gt vs p ≤ a
    · rw [decide_eq_true q, if_pos rfl, if_pos q, se_sub, ev_bin_of (x := .int a) (y := .int (gt vs p : Nat)) (by rw [bo_var]; rfl) (by rw [bo_var]; rfl) (opB_subN q)]
      show opSub (.lst (F.map dN)) (.int ((a - gt vs p : Nat) : Int)) = _
      rw [opSub_lst, dN_at (by rw [hF.len]; omega)]
    · rw [decide_eq_false q, if_neg (by simp), if_neg q, se_non]; rfl
  rw [exs_asg e6]
  simp only [List.set_cons_succ, List.set_cons_zero]
  have eFa : ∀ c5 c6, ev G (benv vs a F c p c5 c6) (.sub (.var 2) (.var 1)) = some (dN (F.getD a none)) := by
    intro c5 c6
    rw [se_sub, se_var]
    show opSub (.lst (F.map dN)) (.int a) = _
    rw [opSub_lst, dN_at (by rw [hF.len]; omega)]
  obtain ⟨k, hk, hks⟩ := h.num
  have hak : F.getD a none = some k := least_uniq hFa hk
  have hF' : gt vs p ≤ a → LeastIs vs (a - gt vs p) (F.getD (a - gt vs p) none) := fun _ => hF.is _ (by omega)
  generalize ho : F.getD (a - gt vs p) none = o at hF' e6
  have fail : ¬ (gt vs p ≤ a ∧ ∃ r, o = some r ∧ some k = some (r + 1)) → ts G (benv vs a F c p (.val (.int (gt vs p : Nat))) (.val (dN (if gt vs p ≤ a then o else none)))) (.and (.val (.cmp .isnt (.var 6) .non)) (.val (.cmp .eq (.bin .add (.var 6) (.int 1)) (.sub (.var 2) (.var 1))))) = some false →
      ∃ p' a' c' e', exs G GI (benv vs a F c p (.val (.int (gt vs p : Nat))) (.val (dN (if gt vs p ≤ a then o else none)))) [.ifs (.and (.val (.cmp .isnt (.var 6) .non)) (.val (.cmp .eq (.bin .add (.var 6) (.int 1)) (.sub (.var 2) (.var 1))))) [.saug 3 (.var 4) .add (.int 1), .aug 1 .sub (.var 5)] [.aug 4 .sub (.int 1)]] = some (.nx, e') ∧ e'.kill [5, 6] = benv vs a' F c' p' .unk .unk ∧ BInv vs A m p' a' c' ∧ p' + a' < p + a := by
    intro hf ht
    obtain ⟨hp0, hd⟩ := h.down hv hk hF' hf ha
    refine ⟨p - 1, a, c, benv vs a F c (p - 1) (.val (.int (gt vs p : Nat))) (.val (dN (if gt vs p ≤ a then o else none))), ?_, rfl, hd, by omega⟩
    rw [exs_ifF (env' := benv vs a F c (p - 1) (.val (.int (gt vs p : Nat))) (.val (dN (if gt vs p ≤ a then o else none)))) ht (by
      rw [exs_aug (x := .int p) (y := .int 1) (d := .int ((p - 1 : Nat) : Int)) rfl (by simp) (by show some (D.int ((p : Int) - 1)) = _; rw [show ((p - 1 : Nat) : Int) = (p : Int) - 1 by omega]), exs_nil]; rfl), exs_nil]
  by_cases q : gt vs p ≤ a
  · rw [if_pos q] at fail ⊢
    cases hor : o with
    | none =>
      rw [hor] at fail
      refine fail (fun ⟨_, r, z, _⟩ => by cases z) (ts_andF (ts_val (x := .bl false) (by rw [bo_cmp, se_cmp]; rfl) rfl))
    | some r =>
      rw [hor] at fail hF'
      have t2 : ts G (benv vs a F c p (.val (.int (gt vs p : Nat))) (.val (dN (some r)))) (.and (.val (.cmp .isnt (.var 6) .non)) (.val (.cmp .eq (.bin .add (.var 6) (.int 1)) (.sub (.var 2) (.var 1))))) = some (decide (r + 1 = k)) := by
        refine ts_andT (ts_val (x := .bl true) (by rw [bo_cmp, se_cmp]; rfl) rfl) (ts_val (x := .bl (decide (r + 1 = k))) ?_ rfl)
        rw [bo_cmp, se_cmp, bo_bin, ev_bin_of (x := .int r) (y := .int (1 : Nat)) (by rw [bo_var]; rfl) (by simp) opB_addN, bo_sub, eFa, hak]
        show (opC .eq (.int ((r + 1 : Nat) : Int)) (.int k)).map D.bl = _
        rw [opC_eq, deq_nat]; rfl
      by_cases hrk : r + 1 = k
      · rw [decide_eq_true hrk] at t2
        refine ⟨p, a - gt vs p, bump c p, benv vs (a - gt vs p) F (bump c p) p (.val (.int (gt vs p : Nat))) (.val (dN (some r))), ?_, rfl, h.take q (by rw [hrk]; exact hk) (hF' q), by have := hv _ (gt_mem hpl); omega⟩
        have hpc : p < c.length := by rw [h.len]; exact hpl
        rw [exs_ifT (env' := benv vs (a - gt vs p) F (bump c p) p (.val (.int (gt vs p : Nat))) (.val (dN (some r)))) t2 (by
          rw [xs_saug]
          show Option.bind (some (D.lst (dV c))) _ = _
          rw [Option.bind_some, se_var]
          show Option.bind (some (D.int (p : Nat))) _ = _
          rw [Option.bind_some]
          show Option.bind (opSub (.lst (dV c)) (.int p)) _ = _
          rw [opSub_lst, dV_get hpc, Option.bind_some, se_int, Option.bind_some]
          show Option.bind (some (D.int ((gt c p : Nat) + 1 : Int))) _ = _
          rw [Option.bind_some, show ((gt c p : Nat) + 1 : Int) = ((gt c p + 1 : Nat) : Int) by omega]
          have hput : putAt (.lst (dV c)) (.int p) (.int (gt c p + 1 : Nat)) = some (.lst (dV (bump c p))) := by
            show (ixN (dV c).length (p : Int)).map _ = _
            rw [ixN_nat (by rw [dV_len]; exact hpc)]
            show some (D.lst ((dV c).set p (.int (gt c p + 1 : Nat)))) = _
            unfold dV bump
            rw [List.map_set]
          rw [hput, Option.bind_some]
          rw [exs_aug (x := .int a) (y := .int (gt vs p : Nat)) (d := .int ((a - gt vs p : Nat) : Int)) rfl (by rw [se_var]; rfl) (by show some (D.int ((a : Int) - (gt vs p : Nat))) = _; rw [show ((a - gt vs p : Nat) : Int) = (a : Int) - (gt vs p : Nat) by omega]), exs_nil]; rfl), exs_nil]
      · rw [decide_eq_false hrk] at t2
        refine fail (fun ⟨_, r', z, z2⟩ => hrk ?_) t2
        injection z with z
        injection z2 with z2
        omega
  · rw [if_neg q] at fail ⊢
    exact fail (fun z => q z.1) (ts_andF (ts_val (x := .bl false) (by rw [bo_cmp, se_cmp]; rfl) rfl))
theorem best_loop {G GI : Nat → List D → Option D} {A m : Nat} {F : List (Option Nat)} (hv : ∀ v ∈ vs, 0 < v) (hF : NumIs vs A A F) (hA : LeastIs vs A (some m)) : ∀ (fuel p a : Nat) (c : List Nat), p + a < fuel → BInv vs A m p a c → ∃ p' c', whlL (fun e => ts G e (.val (.cmp .gt (.var 1) (.int 0)))) (fun e => exs G GI e bbody) [5, 6] fuel (benv vs a F c p .unk .unk) = some (.nx, benv vs 0 F c' p' .unk .unk) ∧ Best vs A m c'
  | 0, _, _, _, hf, _ => by omega
  | fuel + 1, p, a, c, hf, h => by
    have ht : ts G (benv vs a F c p .unk .unk) (.val (.cmp .gt (.var 1) (.int 0))) = some (decide (0 < a)) := ts_val (x := .bl (decide (0 < a))) (by
      rw [bo_cmp, se_cmp]
      show (opC .gt (.int a) (.int 0)).map D.bl = _
      rw [opC_gt, show decide ((0 : Int) < (a : Int)) = decide (0 < a) from dlt_nat (a := 0)]; rfl) rfl
    rw [whlL, ht, Option.bind_some]
    by_cases ha : 0 < a
    · obtain ⟨p', a', c', e', h1, h2, h3, h4⟩ := best_turn (G := G) (GI := GI) hv hF h ha
      rw [decide_eq_true ha, if_pos rfl, h1, Option.bind_some]
      show ∃ p' c', whlL _ _ [5, 6] fuel (e'.kill [5, 6]) = _ ∧ _
      rw [h2]
      exact best_loop hv hF hA fuel p' a' c' (by omega) h3
    · obtain rfl : a = 0 := by omega
      exact ⟨p, c, by rw [decide_eq_false ha]; rfl, h.done hv hA⟩
theorem run_best (c : Nat) (A m : Nat) (hA : A ≤ 900000) (hl : vs.length ≤ 1000) (hn : 0 < vs.length) (hv : ∀ v ∈ vs, 0 < v) (hm : LeastIs vs A (some m)) : ∃ cs, Best vs A m cs ∧ run defs (c + 2) 28 [.tup (dV vs), .int A] = some (.tup (dV cs)) := by
  have hI := num_is hv A
  obtain ⟨p', c', h1, h2⟩ := best_loop (G := run defs (c + 1)) (GI := runI defs (c + 1)) hv hI hm 1000000 (vs.length - 1) A (List.replicate vs.length 0) (by omega) (BInv.start hm hn)
  refine ⟨c', h2, run_of (fn := f_best_payment) rfl rfl rfl ?_⟩
  have h := run_nums c vs A (by omega) hl
  have hAm : (numT vs A).getD A none = some m := least_uniq (hI.is A (Nat.le_refl _)) hm
  have hlen := hI.len
  generalize run defs (c + 1) = G at h h1 ⊢
  generalize runI defs (c + 1) = GI at h1 ⊢
  show retD (exs G GI [.val (.tup (dV vs)), .val (.int A), .unk, .unk, .unk, .unk, .unk] (.asg 2 _ :: .ifs _ _ _ :: _)) = _
  rw [exs_asg (ev_call (ds := [.tup (dV vs), .int A]) (by simp) h)]
  simp only [List.set_cons_succ, List.set_cons_zero]
  rw [exs_skip (ts_val (x := .bl false) (by
    rw [bo_cmp, se_cmp, bo_sub, se_sub, se_var]
    show Option.bind (opSub (.lst ((numT vs A).map dN)) (.int A)) _ = _
    rw [opSub_lst, dN_at (by omega), hAm]; rfl) rfl)]
  have elen : ev G [.val (.tup (dV vs)), .val (.int A), .val (.lst ((numT vs A).map dN)), .unk, .unk, .unk, .unk] (.b1 .len (.var 0)) = some (.int (vs.length : Nat)) := by
    rw [ev_b1 (x := .tup (dV vs)) (z := .int (vs.length : Nat)) (by rw [bo_var]; rfl) (by show some (D.int ((dV vs).length : Nat)) = _; rw [dV_len])]
  rw [exs_asgO (d := .lst (dV (List.replicate vs.length 0))) (ev_bin_of (x := .lst [.int (0 : Nat)]) (y := .int (vs.length : Nat)) (by
    rw [bo_lst, ev, show evL G [.val (.tup (dV vs)), .val (.int A), .val (.lst ((numT vs A).map dN)), .unk, .unk, .unk, .unk] [.int 0] = some [.int (0 : Nat)] by simp, Option.bind_some]; exact fits_of (by show 1 ≤ 16777216; omega)) (by rw [bo_b1, elen]) (zeros_d' vs.length (by omega))) rfl]
  simp only [List.set_cons_succ, List.set_cons_zero]
  rw [exs_asg (d := .int ((vs.length - 1 : Nat) : Int)) (ev_bin_of (x := .int (vs.length : Nat)) (y := .int (1 : Nat)) (by rw [bo_b1, ev_b1 (x := .tup (dV vs)) (z := .int (vs.length : Nat)) (by rw [bo_var]; rfl) (by show some (D.int ((dV vs).length : Nat)) = _; rw [dV_len])]) (by simp) (opB_subN hn))]
  simp only [List.set_cons_succ, List.set_cons_zero]
  rw [exs_whl h1, exs_ret (d := .tup (dV c')) (by rw [ev_b1 (x := .lst (dV c')) (z := .tup (dV c')) (by rw [bo_var]; rfl) rfl])]
  rfl
end
end Rx
end

section
set_option Elab.async false
set_option linter.all false
set_option maxRecDepth 100000
set_option maxHeartbeats 1000000
set_option autoImplicit false
/-! C12: the run of greedy_payment. -/
namespace Rx
/-! the counts, from the greatest value down -/
theorem gRest_one : ∀ (r : List Nat) (s : Nat), 1 ∈ r → (∀ v ∈ r, 0 < v) → gRest r s = 0
  | [], _, h, _ => by cases h
  | v :: r, s, h, hp => by
    rw [gRest]
    rcases List.mem_cons.mp h with e | h
    · rw [← e, Nat.mod_one]
      clear h e
      induction r with
      | nil => rfl
      | cons w r ih =>
        rw [gRest, Nat.zero_mod]
        exact ih fun x hx => hp x (by
          rcases List.mem_cons.mp hx with e | hx
          · rw [e]; exact List.mem_cons_self ..
          · exact List.mem_cons_of_mem _ (List.mem_cons_of_mem _ hx))
    · exact gRest_one r (s % v) h fun x hx => hp x (List.mem_cons_of_mem _ hx)
theorem dot_app : ∀ (a b v w : List Nat), a.length = v.length → dot (a ++ b) (v ++ w) = dot a v + dot b w
  | [], b, [], w, _ => by simp [dot]
  | x :: a, b, y :: v, w, h => by
    show x * y + dot (a ++ b) (v ++ w) = x * y + dot a v + dot b w
    rw [dot_app a b v w (by simpa using h)]; omega
  | [], _, _ :: _, _, h => by simp at h
  | _ :: _, _, [], _, h => by simp at h
theorem gD_dot : ∀ (r : List Nat) (s : Nat), dot (gD r s).reverse r.reverse + gRest r s = s
  | [], s => by simp [gD, gRest, dot]
  | v :: r, s => by
    rw [gD, gRest, List.reverse_cons, List.reverse_cons, dot_app _ _ _ _ (by rw [List.length_reverse, List.length_reverse, gD_len])]
    have := gD_dot r (s % v)
    have h2 := Nat.div_add_mod s v
    have e : dot [s / v] [v] = v * (s / v) := by simp [dot, Nat.mul_comm]
    omega
/-- greedy is the greatest: by the counts from the greatest value down -/
theorem gD_lex : ∀ (r : List Nat) (s : Nat), (∀ v ∈ r, 0 < v) → ∀ b : List Nat, b.length = r.length → dot b.reverse r.reverse ≤ s → ∀ i, i < r.length → (∀ j, j < i → gt b j = gt (gD r s) j) → gt b i ≤ gt (gD r s) i
  | [], _, _, _, _, _, i, hi, _ => by simp at hi
  | v :: r, s, hp, x :: b, hl, hd, 0, _, _ => by
    show x ≤ s / v
    rw [List.reverse_cons, List.reverse_cons, dot_app _ _ _ _ (by simpa using hl)] at hd
    have e : dot [x] [v] = x * v := by simp [dot]
    rw [e] at hd
    exact (Nat.le_div_iff_mul_le (hp v (List.mem_cons_self ..))).mpr (by omega)
  | v :: r, s, hp, x :: b, hl, hd, i + 1, hi, hab => by
    have h0 : x = s / v := hab 0 (by omega)
    rw [List.reverse_cons, List.reverse_cons, dot_app _ _ _ _ (by simpa using hl)] at hd
    have e : dot [x] [v] = x * v := by simp [dot]
    rw [e, h0] at hd
    have h2 := Nat.div_add_mod s v
    rw [Nat.mul_comm] at h2
    exact gD_lex r (s % v) (fun w hw => hp w (List.mem_cons_of_mem _ hw)) b (by simpa using hl) (by omega) i (by simpa using hi) fun j hj => hab (j + 1) (by omega)
  | _ :: _, _, _, [], hl, _, _, _, _ => by simp at hl
theorem gt_rev {l : List Nat} {i : Nat} (h : i < l.length) : gt l.reverse i = gt l (l.length - 1 - i) := by
  rw [gt_lt (by simpa using h), gt_lt (by omega), List.getElem_reverse]
def greedyC (vs : List Nat) (s : Nat) : List Nat := (gD vs.reverse s).reverse
theorem greedy_len (vs : List Nat) (s : Nat) : (greedyC vs s).length = vs.length := by unfold greedyC; rw [List.length_reverse, gD_len, List.length_reverse]
theorem greedy_gr {vs : List Nat} {s : Nat} (hp : ∀ v ∈ vs, 0 < v) (h0 : gRest vs.reverse s = 0) : Gr vs s (greedyC vs s) := by
  have hd := gD_dot vs.reverse s
  rw [h0, List.reverse_reverse] at hd
  refine ⟨⟨greedy_len vs s, hd, rfl⟩, fun b k hb i hi hab => ?_⟩
  have hbl := hb.len
  have hgl : (gD vs.reverse s).length = vs.length := by rw [gD_len, List.length_reverse]
  have h := gD_lex vs.reverse s (fun v hv => hp v (List.mem_reverse.mp hv)) b.reverse (by simp [hbl]) (by rw [List.reverse_reverse, List.reverse_reverse, hb.val]; exact Nat.le_refl _) (vs.length - 1 - i) (by rw [List.length_reverse]; omega) fun j hj => by
    have := hab (vs.length - 1 - j) (by omega)
    unfold greedyC at this
    rw [gt_rev (by omega), hgl] at this
    rw [gt_rev (by omega), hbl, this]
    congr 1; omega
  rw [gt_rev (by omega), hbl, show vs.length - 1 - (vs.length - 1 - i) = i by omega] at h
  unfold greedyC
  rw [gt_rev (by omega), hgl]
  exact h
theorem Sys.greedy {vs : List Nat} (S : Sys vs) (s : Nat) : gRest vs.reverse s = 0 ∧ Gr vs s (greedyC vs s) := by
  have h := gRest_one vs.reverse s (List.mem_reverse.mpr S.one) fun v hv => S.pos v (List.mem_reverse.mp hv)
  exact ⟨h, greedy_gr S.pos h⟩
theorem run_greedy (c : Nat) (vs : List Nat) (s : Nat) (hp : ∀ v ∈ vs, 0 < v ∧ v ≤ 1000000) (hl : vs.length ≤ 1000) : run defs (c + 1) 49 [.tup (dV vs), .int s] = some (if 0 < gRest vs.reverse s then .non else .tup (dV (greedyC vs s))) := by
  refine run_of (fn := f_greedy_payment) rfl rfl rfl ?_
  generalize run defs c = G
  generalize runI defs c = GI
  show retD (exs G GI [.val (.tup (dV vs)), .val (.int s), .unk, .unk] (.asgO 2 _ :: .for_ _ _ _ _ _ :: [.ret _])) = _
  rw [exs_asgO (d := .lst []) ev_lst0 rfl]
  simp only [List.set_cons_succ, List.set_cons_zero]
  have key : ∀ (r : List Nat) (t : Nat) (acc : List Nat), (∀ v ∈ r, 0 < v ∧ v ≤ 1000000) → acc.length + r.length ≤ 1000 →
      forL (fun d e => (bind (.name 3) d e).bind fun e' => exs G GI e' [.app 2 (.bin .fdiv (.var 1) (.var 3)), .aug 1 .mod (.var 3)]) [3] (dV r) [.val (.tup (dV vs)), .val (.int t), .own (.lst (dV acc)), .unk] = some (.nx, [.val (.tup (dV vs)), .val (.int (gRest r t : Nat)), .own (.lst (dV (acc ++ gD r t))), .unk]) := by
    intro r
    induction r with
    | nil => intro t acc _ _; show forL _ _ [] _ = _; rw [forL, gRest, gD, List.append_nil]; rfl
    | cons v r ih =>
      intro t acc hr hlen
      obtain ⟨v0, v1⟩ := hr v (List.mem_cons_self ..)
      rw [List.length_cons] at hlen
      show forL _ _ (.int v :: dV r) _ = _
      rw [forL, x_bindN, Option.bind_some]
      show Option.bind (exs G GI [.val (.tup (dV vs)), .val (.int t), .own (.lst (dV acc)), .val (.int v)] _) _ = _
      rw [exs_app (xs := dV acc) (d := .int ((t / v : Nat) : Int)) rfl (ev_bin_of (x := .int t) (y := .int v) (by rw [bo_var]; rfl) (by rw [bo_var]; rfl) (opB_fdivN v0 (by omega))) (by rw [dV_len]; show _ < 16777216; omega)]
      simp only [List.set_cons_succ, List.set_cons_zero]
      rw [exs_aug (x := .int t) (y := .int v) (d := .int ((t % v : Nat) : Int)) rfl (by rw [se_var]; rfl) (by
        show (if (0 : Int) < (v : Int) then some (D.int ((t : Int) % (v : Int))) else none) = _
        rw [if_pos (by omega)]; simp), exs_nil]
      simp only [List.set_cons_succ, List.set_cons_zero]
      show forL _ _ (dV r) [.val (.tup (dV vs)), .val (.int ((t % v : Nat) : Int)), .own (.lst (dV acc ++ [.int ((t / v : Nat) : Int)])), .unk] = _
      have e : dV acc ++ [D.int ((t / v : Nat) : Int)] = dV (acc ++ [t / v]) := by rw [dV_app]; rfl
      rw [e, ih (t % v) (acc ++ [t / v]) (fun x hx => hr x (List.mem_cons_of_mem _ hx)) (by simp; omega), gRest, gD, List.append_assoc]
      rfl
  have hk := key vs.reverse s [] (fun v hv => hp v (List.mem_reverse.mp hv)) (by simp; omega)
  rw [List.nil_append] at hk
  have hw : walk .rev [.tup (dV vs)] = some (dV vs.reverse) := by
    show some (dV vs).reverse = _
    unfold dV
    rw [List.map_reverse]
  show retD (exs G GI [.val (.tup (dV vs)), .val (.int s), .own (.lst (dV [])), .unk] _) = _
  rw [exs_for (vs := [.tup (dV vs)]) (by simp) hw hk]
  have hgl : (gD vs.reverse s).length = vs.length := by rw [gD_len, List.length_reverse]
  generalize gRest vs.reverse s = t
  have tq : ts G [.val (.tup (dV vs)), .val (.int t), .own (.lst (dV (gD vs.reverse s))), .unk] (.val (.cmp .gt (.var 1) (.int 0))) = some (decide (0 < t)) := ts_val (x := .bl (decide (0 < t))) (by
    rw [bo_cmp, se_cmp]
    show (opC .gt (.int (t : Nat)) (.int (0 : Nat))).map D.bl = _
    rw [opC_gt, dlt_nat]; rfl) rfl
  have hrev : ev G [.val (.tup (dV vs)), .val (.int t), .own (.lst (dV (gD vs.reverse s))), .unk] (.ofw false .rev [(.var 2)]) = some (.tup (dV (greedyC vs s))) := by
    have hl2 : (dV (gD vs.reverse s)).reverse.length ≤ line := by rw [List.length_reverse, dV_len, hgl]; show _ ≤ 16777216; omega
    have e : dV (greedyC vs s) = (dV (gD vs.reverse s)).reverse := by unfold greedyC dV; rw [List.map_reverse]
    rw [e]
    rw [ev, show evB G [.val (.tup (dV vs)), .val (.int t), .own (.lst (dV (gD vs.reverse s))), .unk] [.var 2] = some [.lst (dV (gD vs.reverse s))] from by rw [sb_cons, bo_var, sb_nil]; rfl, Option.bind_some]
    show (if (dV (gD vs.reverse s)).reverse.length ≤ line then some (D.tup (dV (gD vs.reverse s)).reverse) else none) = _
    rw [if_pos hl2]
  rw [exs_ret (d := if 0 < t then .non else .tup (dV (greedyC vs s))) (by
    rw [se_ife, tq, Option.bind_some]
    by_cases q : 0 < t
    · rw [decide_eq_true q, if_pos rfl, if_pos q, se_non]
    · rw [decide_eq_false q, if_neg (by simp), if_neg q, hrev])]
  rfl
end Rx
end

section
set_option Elab.async false
set_option linter.all false
set_option maxRecDepth 100000
set_option maxHeartbeats 1000000
set_option autoImplicit false
/-! L80a: large sums have a greatest coin in each best payment; a coin of the greedy payment taken off; in plain Lean. -/
namespace Rx
/-! ### drawers -/
theorem same_two (c : Nat) (f : Nat → Nat) (hf : ∀ t, t ≤ c → f t < c) : ∃ i j, i < j ∧ j ≤ c ∧ f i = f j := by
  apply Classical.byContradiction
  intro hn
  have hnd : ((List.range (c + 1)).map f).Nodup := by
    rw [List.nodup_iff_pairwise_ne, List.pairwise_map]
    have : (List.range (c + 1)).Pairwise (fun a b => a < b ∧ b ≤ c) := by
      have h1 : (List.range (c + 1)).Pairwise (· < ·) := List.pairwise_lt_range
      exact (List.Pairwise.and_mem.mp h1).imp fun {a b} ⟨_, hb, hab⟩ => ⟨hab, by have := List.mem_range.mp hb; omega⟩
    exact this.imp fun {a b} ⟨h1, h2⟩ e => hn ⟨a, b, h1, h2, e⟩
  have := nodup_sub_len (List.range c) _ hnd fun x hx => by
    obtain ⟨t, ht, rfl⟩ := List.mem_map.mp hx
    exact List.mem_range.mpr (hf t (by have := List.mem_range.mp ht; omega))
  simp at this
  omega
theorem some_less : ∀ (d b : List Nat), d.length = b.length → d.sum < b.sum → ∃ i, i < b.length ∧ gt d i < gt b i
  | [], [], _, h => by simp at h
  | x :: d, y :: b, hl, h => by
    by_cases q : x < y
    · exact ⟨0, by simp, q⟩
    · rw [List.sum_cons, List.sum_cons] at h
      obtain ⟨i, h1, h2⟩ := some_less d b (by simpa using hl) (by omega)
      exact ⟨i + 1, by simpa using h1, h2⟩
  | [], _ :: _, h, _ => by simp at h
  | _ :: _, [], h, _ => by simp at h
theorem sum_bump' {d : List Nat} {i : Nat} (h : i < d.length) : (bump d i).sum = d.sum + 1 := sum_bump h
/-- a chain of parts of b, a coin more each time -/
theorem chain (b : List Nat) : ∀ t, t ≤ b.sum → ∃ D : Nat → List Nat, (∀ s, s ≤ t → (D s).length = b.length ∧ (D s).sum = s ∧ ∀ i, gt (D s) i ≤ gt b i) ∧ ∀ s u, s ≤ u → u ≤ t → ∀ i, gt (D s) i ≤ gt (D u) i
  | 0, _ => ⟨fun _ => List.replicate b.length 0, fun s hs => by
      refine ⟨by simp, by simp; omega, fun i => ?_⟩
      by_cases h : i < b.length
      · rw [gt_lt (by simpa using h)]; simp
      · rw [gt_ge (by simpa using h)]; exact Nat.zero_le _, fun _ _ _ _ _ => Nat.le_refl _⟩
  | t + 1, h => by
    obtain ⟨D, h1, h2⟩ := chain b t (by omega)
    obtain ⟨l1, s1, b1⟩ := h1 t (Nat.le_refl t)
    obtain ⟨i, hi, hlt⟩ := some_less (D t) b l1 (by omega)
    refine ⟨fun s => if s ≤ t then D s else bump (D t) i, fun s hs => ?_, fun s u hsu hu j => ?_⟩
    · by_cases q : s ≤ t
      · simp only [if_pos q]; exact h1 s q
      · obtain rfl : s = t + 1 := by omega
        simp only [if_neg q]
        refine ⟨by rw [bump_len]; exact l1, by rw [sum_bump (by omega), s1], fun j => ?_⟩
        rw [gt_bump (by omega)]
        have := b1 j
        split
        · rename_i e; subst e; omega
        · omega
    · by_cases q : u ≤ t
      · simp only [if_pos q, if_pos (show s ≤ t by omega)]; exact h2 s u hsu q j
      · by_cases q2 : s ≤ t
        · simp only [if_pos q2, if_neg q]
          have := h2 s t q2 (Nat.le_refl t) j
          rw [gt_bump (by omega)]; omega
        · simp only [if_neg q2, if_neg q]; exact Nat.le_refl _
theorem dot_le {B : Nat} : ∀ (c vs : List Nat), c.length = vs.length → (∀ i, i < c.length → 0 < gt c i → gt vs i ≤ B) → dot c vs ≤ c.sum * B
  | [], [], _, _ => by simp [dot]
  | x :: c, v :: vs, hl, h => by
    have ih := dot_le c vs (by simpa using hl) fun i hi hp => h (i + 1) (by simpa using hi) hp
    show x * v + dot c vs ≤ (x :: c).sum * B
    rw [List.sum_cons, Nat.add_mul]
    have : x * v ≤ x * B := by
      rcases Nat.eq_zero_or_pos x with z | z
      · subst z; simp
      · exact Nat.mul_le_mul_left _ (h 0 (by simp) z)
    omega
  | [], _ :: _, h, _ => by simp at h
  | _ :: _, [], h, _ => by simp at h
/-- what is paid with coins of other values is less than the greatest value times their number -/
theorem dot_lt {B : Nat} (c vs : List Nat) (hl : c.length = vs.length) (h : ∀ i, i < c.length → 0 < gt c i → gt vs i < B) (hp : 0 < c.sum) : dot c vs < c.sum * B := by
  cases B with
  | zero =>
    obtain ⟨i, h1, h2⟩ := some_less (List.replicate c.length 0) c (by simp) (by simpa using hp)
    exact absurd (h i h1 (by omega)) (by omega)
  | succ B =>
    have := dot_le (B := B) c vs hl fun i hi hq => by have := h i hi hq; omega
    rw [Nat.mul_succ]; omega
section
variable {vs : List Nat} {s m : Nat} {b : List Nat}
/-- coins that may be changed for fewer greatest ones are in no least payment -/
theorem no_change {d : List Nat} {q n : Nat} (hn : n < vs.length) (hb : Pays vs s m b) (hm : LeastIs vs s (some m)) (hl : d.length = b.length) (hd : ∀ i, gt d i ≤ gt b i) (hq : dot d vs = q * gt vs n) : d.sum ≤ q := by
  obtain ⟨d1, d2⟩ := dot_sub (vs := vs) hl.symm (by rw [hl]; exact hb.len) hd
  have hp : Pays vs (s - dot d vs) (m - d.sum) (subL b d) := ⟨by rw [subL_len hl.symm, hl]; exact hb.len, by have := hb.val; omega, by have := hb.num; omega⟩
  have up : ∀ k, PayN vs (s - dot d vs + k * gt vs n) (m - d.sum + k) := by
    intro k
    induction k with
    | zero => exact ⟨_, by simpa using hp⟩
    | succ k ih =>
      obtain ⟨c, hc⟩ := ih
      have := hc.bump hn
      exact ⟨_, by rw [show s - dot d vs + (k + 1) * gt vs n = s - dot d vs + k * gt vs n + gt vs n by rw [Nat.succ_mul]; omega]; exact this⟩
  have h1 := up q
  rw [← hq] at h1
  have hv := hb.val
  have hnm := hb.num
  rw [show s - dot d vs + dot d vs = s by omega] at h1
  have := hm.2 _ h1
  omega
theorem has_top {n B : Nat} (hv : vs.length = n + 1) (hc : 0 < gt vs n) (hB : ∀ i, i < n → gt vs i ≤ B) (hlt : ∀ i, i < n → gt vs i < gt vs n) (hs : (gt vs n - 1) * B < s) (hb : Pays vs s m b) (hm : LeastIs vs s (some m)) : 0 < gt b n := by
  refine Nat.pos_of_ne_zero fun hz => ?_
  have hlow : ∀ i, i < b.length → 0 < gt b i → i < n := fun i hi hp => by
    have := hb.len
    rcases Nat.lt_or_ge i n with q | q
    · exact q
    · obtain rfl : i = n := by omega
      omega
  have hk : gt vs n ≤ b.sum := by
    have h1 := dot_le (B := B) b vs hb.len fun i hi hp => hB i (hlow i hi hp)
    rw [hb.val] at h1
    have h2 : (gt vs n - 1) * B < b.sum * B := by omega
    have := Nat.lt_of_mul_lt_mul_right h2
    omega
  obtain ⟨D, h1, h2⟩ := chain b (gt vs n) hk
  obtain ⟨i, j, hij, hj, e⟩ := same_two (gt vs n) (fun t => dot (D t) vs % gt vs n) fun t _ => Nat.mod_lt _ hc
  obtain ⟨li, si, _⟩ := h1 i (by omega)
  obtain ⟨lj, sj, bj⟩ := h1 j hj
  obtain ⟨d1, d2⟩ := dot_sub (vs := vs) (b := D j) (c := D i) (by omega) (by rw [li]; exact hb.len) (h2 i j (by omega) hj)
  have hdl : (subL (D j) (D i)).length = b.length := by rw [subL_len (by omega), li]
  have hdb : ∀ l, gt (subL (D j) (D i)) l ≤ gt b l := fun l => by
    rw [gt_subL (by omega)]
    have := bj l
    omega
  have hdiv : gt vs n ∣ dot (subL (D j) (D i)) vs := by
    have : dot (subL (D j) (D i)) vs = dot (D j) vs - dot (D i) vs := by omega
    rw [this]
    exact Nat.dvd_of_mod_eq_zero (Nat.sub_mod_eq_zero_of_mod_eq e.symm)
  obtain ⟨q, hq⟩ := hdiv
  have hle := no_change (d := subL (D j) (D i)) (q := q) (n := n) (by omega) hb hm hdl hdb (by rw [hq, Nat.mul_comm])
  have hlt2 := dot_lt (B := gt vs n) (subL (D j) (D i)) vs (by rw [hdl]; exact hb.len) (fun l hl hp => hlt l (hlow l (by omega) (by have := hdb l; omega))) (by omega)
  rw [hq, Nat.mul_comm] at hlt2
  have := Nat.lt_of_mul_lt_mul_right hlt2
  omega
/-- so many greatest coins more -/
theorem best_tops {n B : Nat} (hv : vs.length = n + 1) (hc : 0 < gt vs n) (hB : ∀ i, i < n → gt vs i ≤ B) (hlt : ∀ i, i < n → gt vs i < gt vs n) (hs : (gt vs n - 1) * B < s + gt vs n) : ∀ k,
    (∀ b m, Best vs s m b → Best vs (s + k * gt vs n) (m + k) (b.set n (gt b n + k))) ∧ (LeastIs vs s none → LeastIs vs (s + k * gt vs n) none) := by
  intro k
  induction k with
  | zero =>
    refine ⟨fun b m hb => ?_, fun h => by simpa using h⟩
    have : b.set n (gt b n + 0) = b := by
      refine ext_gt (by simp) fun i hi => ?_
      have hn : n < b.length := by rw [hb.pays.len]; omega
      rw [gt_set hn]
      split
      · rename_i e; rw [e]; rfl
      · rfl
    rw [this]; simpa using hb
  | succ k ih =>
    have hsum : s + (k + 1) * gt vs n = s + k * gt vs n + gt vs n := by rw [Nat.succ_mul]; omega
    have hs2 : (gt vs n - 1) * B < s + (k + 1) * gt vs n := by
      rw [hsum]
      omega
    refine ⟨fun b m hb => ?_, fun h j hj => ?_⟩
    · have h1 := ih.1 b m hb
      obtain ⟨c0, hc0⟩ : ∃ c, Pays vs (s + (k + 1) * gt vs n) (m + k + 1) c := by
        rw [hsum]; exact ⟨_, h1.pays.bump (by omega)⟩
      have hn : n < b.length := by rw [hb.pays.len]; omega
      -- least
      have hleast : LeastIs vs (s + (k + 1) * gt vs n) (some (m + k + 1)) := by
        refine ⟨⟨c0, hc0⟩, fun j ⟨c, hcj⟩ => ?_⟩
        -- the least one
        apply Classical.byContradiction
        intro hn'
        have : ∃ j0, PayN vs (s + (k + 1) * gt vs n) j0 ∧ ∀ j, PayN vs (s + (k + 1) * gt vs n) j → j0 ≤ j := by
          have : ∀ d j, j ≤ d → PayN vs (s + (k + 1) * gt vs n) j → ∃ j0, j0 ≤ j ∧ PayN vs (s + (k + 1) * gt vs n) j0 ∧ ∀ j, PayN vs (s + (k + 1) * gt vs n) j → j0 ≤ j := by
            intro d
            induction d with
            | zero => intro j hj h; exact ⟨j, Nat.le_refl _, h, fun l _ => by omega⟩
            | succ d ihd =>
              intro j hj h
              by_cases q : ∃ l, l < j ∧ PayN vs (s + (k + 1) * gt vs n) l
              · obtain ⟨l, hl, hp⟩ := q
                obtain ⟨j0, a, b, c⟩ := ihd l (by omega) hp
                exact ⟨j0, by omega, b, c⟩
              · exact ⟨j, Nat.le_refl _, h, fun l hl => Nat.le_of_not_lt fun z => q ⟨l, z, hl⟩⟩
          obtain ⟨j0, _, h2, h3⟩ := this j j (Nat.le_refl _) ⟨c, hcj⟩
          exact ⟨j0, h2, h3⟩
        obtain ⟨j0, ⟨c1, hc1⟩, h3⟩ := this
        have hj0 := h3 j ⟨c, hcj⟩
        have htop := has_top hv hc hB hlt hs2 hc1 ⟨⟨c1, hc1⟩, h3⟩
        obtain ⟨_, p1, p2⟩ := hc1.un (by omega) htop
        rw [hsum, show s + k * gt vs n + gt vs n - gt vs n = s + k * gt vs n by omega] at p2
        have := h1.least.2 _ ⟨_, p2⟩
        omega
      have hset : b.set n (gt b n + (k + 1)) = bump (b.set n (gt b n + k)) n := by
        unfold bump
        rw [gt_set hn, if_pos rfl, List.set_set]
        rfl
      rw [hset]
      have hp := h1.pays.bump (show n < vs.length by omega)
      rw [← hsum] at hp
      refine ⟨hp, hleast, fun c hcp i hi hab => ?_⟩
      have htop := has_top hv hc hB hlt hs2 hcp hleast
      obtain ⟨_, p1, p2⟩ := hcp.un (show n < vs.length by omega) htop
      rw [hsum, show s + k * gt vs n + gt vs n - gt vs n = s + k * gt vs n by omega, show m + (k + 1) - 1 = m + k by omega] at p2
      have hcl : n < c.length := by rw [hcp.len]; omega
      have hbl : n < (b.set n (gt b n + k)).length := by simpa using hn
      have g1 : ∀ l, gt c l = gt (unb c n) l + (if n = l then 1 else 0) := fun l => by
        have := gt_bump (cs := unb c n) (i := n) (j := l) (by rw [unb_len]; exact hcl)
        rw [bump_un hcl htop] at this
        exact this
      have := h1.lex _ p2 i hi fun l hl => by
        have := hab l hl
        rw [g1 l, gt_bump hbl] at this
        omega
      rw [g1 i, gt_bump hbl]
      omega
    · obtain ⟨c, hcj⟩ := hj
      have : ∀ d j, j ≤ d → PayN vs (s + (k + 1) * gt vs n) j → ∃ j0, PayN vs (s + (k + 1) * gt vs n) j0 ∧ ∀ j, PayN vs (s + (k + 1) * gt vs n) j → j0 ≤ j := by
        intro d
        induction d with
        | zero => intro j hj h; exact ⟨j, h, fun l _ => by omega⟩
        | succ d ihd =>
          intro j hj h
          by_cases q : ∃ l, l < j ∧ PayN vs (s + (k + 1) * gt vs n) l
          · obtain ⟨l, hl, hp⟩ := q
            exact ihd l (by omega) hp
          · exact ⟨j, h, fun l hl => Nat.le_of_not_lt fun z => q ⟨l, z, hl⟩⟩
      obtain ⟨j0, ⟨c1, hc1⟩, h3⟩ := this j j (Nat.le_refl _) ⟨c, hcj⟩
      have htop := has_top hv hc hB hlt hs2 hc1 ⟨⟨c1, hc1⟩, h3⟩
      obtain ⟨_, p1, p2⟩ := hc1.un (show n < vs.length by omega) htop
      rw [hsum, show s + k * gt vs n + gt vs n - gt vs n = s + k * gt vs n by omega] at p2
      exact ih.2 h _ ⟨_, p2⟩
end
/-! ### greedy, a coin less -/
theorem gD_less : ∀ (r : List Nat) (s i : Nat), (∀ v ∈ r, 0 < v) → i < r.length → 0 < gt (gD r s) i → gt r i ≤ s ∧ gD r (s - gt r i) = unb (gD r s) i ∧ gRest r (s - gt r i) = gRest r s
  | v :: r, s, 0, hv, _, hp => by
    have v0 := hv v (List.mem_cons_self ..)
    have hp : 0 < s / v := hp
    have hle : v ≤ s := by
      rcases Nat.lt_or_ge s v with q | q
      · rw [Nat.div_eq_of_lt q] at hp; omega
      · exact q
    show v ≤ s ∧ gD (v :: r) (s - v) = _ ∧ gRest (v :: r) (s - v) = _
    have e1 : (s - v) % v = s % v := by rw [← Nat.mod_eq_sub_mod hle]
    have e2 : (s - v) / v = s / v - 1 := by
      have : s / v = (s - v + v) / v := by rw [Nat.sub_add_cancel hle]
      rw [this, Nat.add_div_right _ v0]; rfl
    refine ⟨hle, ?_, ?_⟩
    · rw [gD, e1, e2, gD]; rfl
    · rw [gRest, e1, gRest]
  | v :: r, s, i + 1, hv, hi, hp => by
    have v0 := hv v (List.mem_cons_self ..)
    obtain ⟨h1, h2, h3⟩ := gD_less r (s % v) i (fun u hu => hv u (List.mem_cons_of_mem _ hu)) (by simpa using hi) (by rw [gD] at hp; exact hp)
    have hm := Nat.mod_lt s v0
    have hle : s % v ≤ s := Nat.mod_le s v
    have hx : gt (v :: r) (i + 1) = gt r i := rfl
    rw [hx]
    generalize gt r i = x at *
    have hds := Nat.div_add_mod s v
    have e1 : (s - x) / v = s / v := by
      rw [show s - x = s % v - x + v * (s / v) by omega, Nat.add_mul_div_left _ _ v0, Nat.div_eq_of_lt (by omega), Nat.zero_add]
    have e2 : (s - x) % v = s % v - x := by
      rw [show s - x = s % v - x + v * (s / v) by omega, Nat.add_mul_mod_self_left, Nat.mod_eq_of_lt (by omega)]
    refine ⟨by omega, ?_, ?_⟩
    · rw [gD, gD, e1, e2, h2]; rfl
    · rw [gRest, gRest, e2, h3]
theorem unb_rev {l : List Nat} {i : Nat} (h : i < l.length) : (unb l i).reverse = unb l.reverse (l.length - 1 - i) := by
  refine ext_gt (by simp [unb]) fun j hj => ?_
  have hj' : j < l.length := by simpa [unb] using hj
  rw [gt_rev (by rw [unb_len]; exact hj'), unb_len, gt_unb h, gt_unb (by simp; omega), gt_rev (by omega), gt_rev hj']
  by_cases q : i = l.length - 1 - j
  · rw [if_pos q, if_pos (by omega), show l.length - 1 - (l.length - 1 - i) = i by omega]
  · rw [if_neg q, if_neg (by omega)]
theorem greedy_less {vs : List Nat} {s i : Nat} (hv : ∀ v ∈ vs, 0 < v) (hi : i < vs.length) (hp : 0 < gt (greedyC vs s) i) : gt vs i ≤ s ∧ greedyC vs (s - gt vs i) = unb (greedyC vs s) i ∧ gRest vs.reverse (s - gt vs i) = gRest vs.reverse s := by
  have hl : (gD vs.reverse s).length = vs.length := by rw [gD_len, List.length_reverse]
  have hg : gt (greedyC vs s) i = gt (gD vs.reverse s) (vs.length - 1 - i) := by
    unfold greedyC
    rw [gt_rev (by omega), hl]
  have hr : gt vs.reverse (vs.length - 1 - i) = gt vs i := by
    rw [gt_rev (by omega)]; congr 1; omega
  rw [hg] at hp
  obtain ⟨h1, h2, h3⟩ := gD_less vs.reverse s (vs.length - 1 - i) (fun v h => hv v (List.mem_reverse.mp h)) (by simp; omega) hp
  rw [hr] at h1 h2 h3
  refine ⟨h1, ?_, h3⟩
  unfold greedyC
  rw [h2, unb_rev (by omega), hl]
  congr 1
  omega
end Rx
end

section
set_option Elab.async false
set_option linter.all false
set_option maxRecDepth 100000
set_option maxHeartbeats 1000000
set_option autoImplicit false
/-! L80b: which payment is better; best payments out of a purse, in plain Lean. -/
namespace Rx
/-- read from the greatest value: more coins first -/
def ltR : List Nat → List Nat → Bool
  | x :: xs, y :: ys => if x = y then ltR xs ys else decide (y < x)
  | _, _ => false
def bt (p q : List Nat) : Bool := if p.sum = q.sum then ltR p.reverse q.reverse else decide (p.sum < q.sum)
theorem ltR_tri : ∀ {x y : List Nat}, x.length = y.length → x ≠ y → ltR x y = true ∨ ltR y x = true
  | [], [], _, h => absurd rfl h
  | a :: x, b :: y, hl, h => by
    unfold ltR
    by_cases q : a = b
    · subst q
      rw [if_pos rfl, if_pos rfl]
      exact ltR_tri (by simpa using hl) fun e => h (by rw [e])
    · rw [if_neg q, if_neg (Ne.symm q), decide_eq_true_eq, decide_eq_true_eq]; omega
  | [], _ :: _, h, _ => by simp at h
  | _ :: _, [], h, _ => by simp at h
theorem ltR_asym : ∀ {x y : List Nat}, ltR x y = true → ltR y x = false
  | [], [], h => by simp [ltR] at h
  | a :: x, b :: y, h => by
    unfold ltR at h ⊢
    by_cases q : a = b
    · subst q
      rw [if_pos rfl] at h ⊢
      exact ltR_asym h
    · rw [if_neg q] at h
      rw [if_neg (Ne.symm q)]
      simp at h ⊢; omega
  | [], _ :: _, h => by simp [ltR] at h
  | _ :: _, [], h => by simp [ltR] at h
theorem ltR_co : ∀ {x y z : List Nat}, x.length = y.length → y.length = z.length → ltR x z = true → ltR x y = true ∨ ltR y z = true
  | [], [], [], _, _, h => by simp [ltR] at h
  | a :: x, b :: y, c :: z, h1, h2, h => by
    unfold ltR at h ⊢
    by_cases q1 : a = b
    · subst q1
      rw [if_pos rfl]
      by_cases q2 : a = c
      · subst q2
        rw [if_pos rfl] at h ⊢
        exact ltR_co (by simpa using h1) (by simpa using h2) h
      · rw [if_neg q2] at h ⊢; exact .inr h
    · rw [if_neg q1]
      by_cases q2 : b = c
      · subst q2
        rw [if_neg q1] at h; exact .inl h
      · rw [if_neg q2, decide_eq_true_eq, decide_eq_true_eq]
        by_cases q3 : a = c
        · omega
        · rw [if_neg q3, decide_eq_true_eq] at h; omega
  | [], [], _ :: _, _, h, _ => by simp at h
  | [], _ :: _, _, h, _, _ => by simp at h
  | _ :: _, [], _, h, _, _ => by simp at h
  | _ :: _, _ :: _, [], _, h, _ => by simp at h
theorem bt_irr (p : List Nat) : bt p p = false := by
  unfold bt
  rw [if_pos rfl]
  cases h : ltR p.reverse p.reverse with
  | false => rfl
  | true => have := ltR_asym h; rw [h] at this; cases this
theorem bt_asym {p q : List Nat} (h : bt p q = true) : bt q p = false := by
  unfold bt at h ⊢
  by_cases e : p.sum = q.sum
  · rw [if_pos e] at h
    rw [if_pos e.symm]
    exact ltR_asym h
  · rw [if_neg e, decide_eq_true_eq] at h
    rw [if_neg (Ne.symm e), decide_eq_false_iff_not]; omega
theorem bt_tri {p q : List Nat} (hl : p.length = q.length) (h : p ≠ q) : bt p q = true ∨ bt q p = true := by
  unfold bt
  by_cases e : p.sum = q.sum
  · rw [if_pos e, if_pos e.symm]
    exact ltR_tri (by simpa using hl) fun z => h (List.reverse_inj.mp z)
  · rw [if_neg e, if_neg (Ne.symm e), decide_eq_true_eq, decide_eq_true_eq]; omega
theorem bt_co {p q r : List Nat} (h1 : p.length = q.length) (h2 : q.length = r.length) (h : bt p r = true) : bt p q = true ∨ bt q r = true := by
  unfold bt at h ⊢
  by_cases e1 : p.sum = q.sum
  · rw [if_pos e1]
    by_cases e2 : q.sum = r.sum
    · rw [if_pos e2]
      rw [if_pos (e1.trans e2)] at h
      exact ltR_co (by simpa using h1) (by simpa using h2) h
    · rw [if_neg e2]
      rw [if_neg (by omega), decide_eq_true_eq] at h
      right
      rw [decide_eq_true_eq]; omega
  · rw [if_neg e1]
    by_cases e2 : q.sum = r.sum
    · rw [if_neg (by omega), decide_eq_true_eq] at h
      left
      rw [decide_eq_true_eq]; omega
    · rw [if_neg e2, decide_eq_true_eq, decide_eq_true_eq]
      by_cases e3 : p.sum = r.sum
      · omega
      · rw [if_neg e3, decide_eq_true_eq] at h; omega
theorem bt_snoc (p q : List Nat) (t : Nat) : bt (p ++ [t]) (q ++ [t]) = bt p q := by
  unfold bt
  rw [List.sum_append, List.sum_append, List.reverse_append, List.reverse_append]
  simp only [List.sum_singleton, List.reverse_cons, List.reverse_nil, List.nil_append, List.singleton_append]
  by_cases e : p.sum = q.sum
  · rw [if_pos e, if_pos (by omega), ltR, if_pos rfl]
  · rw [if_neg e, if_neg (by omega)]
    by_cases q2 : p.sum < q.sum
    · rw [decide_eq_true q2, decide_eq_true (by omega)]
    · rw [decide_eq_false q2, decide_eq_false (by omega)]
theorem ltR_set : ∀ (x y : List Nat) (j : Nat), j < x.length → x.length = y.length → ltR (bump x j) (bump y j) = ltR x y
  | a :: x, b :: y, 0, _, _ => by
    show ltR ((a + 1) :: x) ((b + 1) :: y) = _
    unfold ltR
    by_cases q : a = b
    · rw [if_pos q, if_pos (by omega)]
    · rw [if_neg q, if_neg (by omega)]
      by_cases q2 : b < a
      · rw [decide_eq_true q2, decide_eq_true (by omega)]
      · rw [decide_eq_false q2, decide_eq_false (by omega)]
  | a :: x, b :: y, j + 1, hj, hl => by
    show ltR (a :: bump x j) (b :: bump y j) = _
    unfold ltR
    rw [ltR_set x y j (by simpa using hj) (by simpa using hl)]
  | [], _, _, h, _ => by simp at h
  | _ :: _, [], _, _, h => by simp at h
theorem bump_rev {l : List Nat} {i : Nat} (h : i < l.length) : (bump l i).reverse = bump l.reverse (l.length - 1 - i) := by
  refine ext_gt (by simp [bump]) fun j hj => ?_
  have hj' : j < l.length := by simpa [bump] using hj
  rw [gt_rev (by rw [bump_len]; exact hj'), bump_len, gt_bump h, gt_bump (by simp; omega), gt_rev hj']
  by_cases q : i = l.length - 1 - j
  · rw [if_pos q, if_pos (by omega)]
  · rw [if_neg q, if_neg (by omega)]
theorem bt_bump {p q : List Nat} {i : Nat} (hl : p.length = q.length) (hi : i < p.length) : bt (bump p i) (bump q i) = bt p q := by
  unfold bt
  rw [sum_bump hi, sum_bump (by omega), bump_rev hi, bump_rev (by omega), ← hl, ltR_set _ _ _ (by simp; omega) (by simpa using hl)]
  by_cases e : p.sum = q.sum
  · rw [if_pos e, if_pos (by omega)]
  · rw [if_neg e, if_neg (by omega)]
    by_cases q2 : p.sum < q.sum
    · rw [decide_eq_true q2, decide_eq_true (by omega)]
    · rw [decide_eq_false q2, decide_eq_false (by omega)]
/-! ### payments out of a purse -/
structure Out (vs ps : List Nat) (A : Nat) (b : List Nat) : Prop where
  len : b.length = vs.length
  val : dot b vs = A
  le : ∀ i, gt b i ≤ gt ps i
structure MinP (vs ps : List Nat) (A : Nat) (c : List Nat) : Prop where
  out : Out vs ps A c
  min : ∀ b, Out vs ps A b → bt b c = false
section
variable {vs ps : List Nat} {A v k : Nat}
theorem MinP.uniq {c c' : List Nat} (h : MinP vs ps A c) (h' : MinP vs ps A c') : c = c' := by
  apply Classical.byContradiction
  intro hn
  rcases bt_tri (h.out.len.trans h'.out.len.symm) hn with q | q
  · rw [h'.min c h.out] at q; cases q
  · rw [h.min c' h'.out] at q; cases q
/-- a coin of it taken off, out of the purse too -/
theorem MinP.less {c : List Nat} {i : Nat} (h : MinP vs ps A c) (hpl : ps.length = vs.length) (hi : i < vs.length) (hp : 0 < gt c i) : gt vs i ≤ A ∧ MinP vs (unb ps i) (A - gt vs i) (unb c i) ∧ (unb c i).sum + 1 = c.sum ∧ 0 < gt ps i := by
  have hci : i < c.length := by rw [h.out.len]; exact hi
  have hps : 0 < gt ps i := Nat.lt_of_lt_of_le hp (h.out.le i)
  have hP : Pays vs A c.sum c := ⟨h.out.len, h.out.val, rfl⟩
  obtain ⟨h1, h2, h3⟩ := hP.un hi hp
  refine ⟨h1, ⟨⟨by rw [unb_len]; exact h.out.len, h3.val, fun j => ?_⟩, fun b hb => ?_⟩, by have := h3.num; omega, hps⟩
  · rw [gt_unb hci, gt_unb (by omega)]
    have := h.out.le j
    split
    · have := h.out.le i; omega
    · exact this
  · have hbi : i < b.length := by rw [hb.len]; exact hi
    have := h.min (bump b i) ⟨by rw [bump_len]; exact hb.len, by rw [dot_bump hb.len hbi, hb.val]; omega, fun j => by
      rw [gt_bump hbi]
      have := hb.le j
      rw [gt_unb (by omega)] at this
      split
      · rename_i e; subst e; rw [if_pos rfl] at this; omega
      · rename_i e; rw [if_neg e] at this; omega⟩
    rw [← bump_un hci hp, bt_bump (by rw [hb.len, unb_len, h.out.len]) hbi] at this
    exact this
theorem gt_snoc (b : List Nat) (t i : Nat) : gt (b ++ [t]) i = if i = b.length then t else gt b i := by
  unfold gt
  rw [List.getD_eq_getElem?_getD, List.getD_eq_getElem?_getD]
  by_cases q : i < b.length
  · rw [List.getElem?_append_left q, if_neg (by omega)]
  · rw [List.getElem?_append_right (by omega)]
    by_cases q2 : i = b.length
    · subst q2; simp
    · rw [if_neg q2, List.getElem?_eq_none (by simp; omega), List.getElem?_eq_none (by omega)]
theorem dot_snoc : ∀ (b vs : List Nat) (t v : Nat), b.length = vs.length → dot (b ++ [t]) (vs ++ [v]) = dot b vs + t * v
  | [], [], t, v, _ => by simp [dot]
  | x :: b, u :: vs, t, v, h => by
    show x * u + dot (b ++ [t]) (vs ++ [v]) = x * u + dot b vs + t * v
    rw [dot_snoc b vs t v (by simpa using h)]; omega
  | [], _ :: _, _, _, h => by simp at h
  | _ :: _, [], _, _, h => by simp at h
theorem out_snoc {b : List Nat} (hpl : ps.length = vs.length) : Out (vs ++ [v]) (ps ++ [k]) A b ↔ ∃ c t, b = c ++ [t] ∧ t ≤ k ∧ t * v ≤ A ∧ Out vs ps (A - t * v) c := by
  constructor
  · intro h
    have hl := h.len
    rw [List.length_append, List.length_singleton] at hl
    have hne : b ≠ [] := fun z => by rw [z] at hl; simp at hl
    refine ⟨b.dropLast, b.getLast hne, (List.dropLast_concat_getLast hne).symm, ?_, ?_⟩
    all_goals
      have hb := (List.dropLast_concat_getLast hne).symm
      generalize b.dropLast = c at hb
      generalize b.getLast hne = t at hb
      subst hb
      have hcl : c.length = vs.length := by simpa using hl
    · have := h.le c.length
      rw [gt_snoc, gt_snoc, if_pos rfl, if_pos (by omega)] at this
      exact this
    · have hv := h.val
      rw [dot_snoc c vs t v hcl] at hv
      refine ⟨by omega, hcl, by omega, fun i => ?_⟩
      have := h.le i
      rw [gt_snoc, gt_snoc] at this
      by_cases q : i < c.length
      · rw [if_neg (by omega), if_neg (by omega)] at this; exact this
      · rw [gt_ge (by omega)]; exact Nat.zero_le _
  · rintro ⟨c, t, rfl, h1, h2, h3⟩
    refine ⟨by simp [h3.len], by rw [dot_snoc c vs t v h3.len, h3.val]; omega, fun i => ?_⟩
    rw [gt_snoc, gt_snoc, h3.len, hpl]
    split
    · exact h1
    · exact h3.le i
/-- g tells for each sum the best payment -/
structure Tells (vs ps : List Nat) (g : Nat → Option (List Nat)) : Prop where
  is : ∀ A c, g A = some c → MinP vs ps A c
  all : ∀ A b, Out vs ps A b → g A ≠ none
theorem tells_nil : Tells [] [] (fun A => if A = 0 then some [] else none) := by
  refine ⟨fun A c h => ?_, fun A b h => ?_⟩
  · have h : (if A = 0 then some ([] : List Nat) else none) = some c := h
    by_cases q : A = 0
    · subst q
      rw [if_pos rfl] at h
      cases h
      exact ⟨⟨rfl, rfl, fun _ => Nat.le_refl _⟩, fun b hb => by
        have : b = [] := List.length_eq_zero_iff.mp hb.len
        subst this; exact bt_irr []⟩
    · rw [if_neg q] at h; cases h
  · have : b = [] := List.length_eq_zero_iff.mp h.len
    subst this
    have : A = 0 := h.val.symm
    subst this; simp
/-- what a pair of a sum and a number of coins gives -/
def Cd (prc : Nat → Nat → Prop) (g : Nat → Option (List Nat)) (v A : Nat) (q : List Nat) : Prop := ∃ a t c, prc a t ∧ g a = some c ∧ q = c ++ [t] ∧ A = a + t * v
structure Hinv (prc : Nat → Nat → Prop) (g : Nat → Option (List Nat)) (v : Nat) (h : Nat → Option (List Nat)) : Prop where
  is : ∀ A p, h A = some p → Cd prc g v A p ∧ ∀ q, Cd prc g v A q → bt q p = false
  all : ∀ A q, Cd prc g v A q → h A ≠ none
def btO (p : List Nat) (o : Option (List Nat)) : Bool := match o with | none => true | some q => bt p q
/-- kept if none is there or the one there is worse -/
def put1 (h : Nat → Option (List Nat)) (A : Nat) (q : List Nat) : Nat → Option (List Nat) :=
  if btO q (h A) = true then fun B => if B = A then some q else h B else h
theorem Hinv.step {prc : Nat → Nat → Prop} {g h : Nat → Option (List Nat)} {v n a t : Nat} {c : List Nat} (hg : ∀ A c, g A = some c → c.length = n) (H : Hinv prc g v h) (ha : g a = some c) : Hinv (fun a' t' => prc a' t' ∨ (a' = a ∧ t' = t)) g v (put1 h (a + t * v) (c ++ [t])) := by
  have cd : ∀ A q, Cd (fun a' t' => prc a' t' ∨ (a' = a ∧ t' = t)) g v A q ↔ Cd prc g v A q ∨ (A = a + t * v ∧ q = c ++ [t]) := by
    intro A q
    constructor
    · rintro ⟨a', t', c', h1 | ⟨rfl, rfl⟩, h2, h3, h4⟩
      · exact .inl ⟨a', t', c', h1, h2, h3, h4⟩
      · rw [ha] at h2; cases h2
        exact .inr ⟨h4, h3⟩
    · rintro (⟨a', t', c', h1, h2, h3, h4⟩ | ⟨h1, h2⟩)
      · exact ⟨a', t', c', .inl h1, h2, h3, h4⟩
      · exact ⟨a, t, c, .inr ⟨rfl, rfl⟩, ha, h2, h1⟩
  have len : ∀ A q, Cd prc g v A q → q.length = n + 1 := by
    rintro A q ⟨a', t', c', _, h2, rfl, _⟩
    simp [hg _ _ h2]
  have lc : (c ++ [t]).length = n + 1 := by simp [hg _ _ ha]
  unfold put1
  by_cases hb : btO (c ++ [t]) (h (a + t * v)) = true
  · rw [if_pos hb]
    refine ⟨fun A p hp => ?_, fun A q hq => ?_⟩
    · have hp : (if A = a + t * v then some (c ++ [t]) else h A) = some p := hp
      by_cases e : A = a + t * v
      · subst e
        rw [if_pos rfl] at hp
        cases hp
        refine ⟨(cd _ _).mpr (.inr ⟨rfl, rfl⟩), fun q hq => ?_⟩
        rcases (cd _ _).mp hq with hq | ⟨_, rfl⟩
        · cases hh : h (a + t * v) with
          | none => exact absurd hh (H.all _ _ hq)
          | some p =>
            rw [hh] at hb
            obtain ⟨h1, h2⟩ := H.is _ _ hh
            cases hbt : bt q (c ++ [t]) with
            | false => rfl
            | true =>
              rcases bt_co ((len _ _ hq).trans (len _ _ h1).symm) ((len _ _ h1).trans lc.symm) hbt with z | z
              · rw [h2 q hq] at z; cases z
              · rw [bt_asym hb] at z; cases z
        · exact bt_irr _
      · rw [if_neg e] at hp
        obtain ⟨h1, h2⟩ := H.is _ _ hp
        refine ⟨(cd _ _).mpr (.inl h1), fun q hq => ?_⟩
        rcases (cd _ _).mp hq with hq | ⟨z, _⟩
        · exact h2 q hq
        · exact absurd z e
    · show (if A = a + t * v then some (c ++ [t]) else h A) ≠ none
      by_cases e : A = a + t * v
      · rw [if_pos e]; exact fun z => by cases z
      · rw [if_neg e]
        rcases (cd _ _).mp hq with hq | ⟨z, _⟩
        · exact H.all _ _ hq
        · exact absurd z e
  · rw [if_neg hb]
    cases hh : h (a + t * v) with
    | none => rw [hh] at hb; exact absurd rfl hb
    | some p0 =>
      rw [hh] at hb
      have hb : bt (c ++ [t]) p0 = false := by simpa [btO] using hb
      refine ⟨fun A p hp => ?_, fun A q hq => ?_⟩
      · obtain ⟨h1, h2⟩ := H.is _ _ hp
        refine ⟨(cd _ _).mpr (.inl h1), fun q hq => ?_⟩
        rcases (cd _ _).mp hq with hq | ⟨rfl, rfl⟩
        · exact h2 q hq
        · rw [hh] at hp; cases hp; exact hb
      · rcases (cd _ _).mp hq with hq | ⟨rfl, rfl⟩
        · exact H.all _ _ hq
        · rw [hh]; exact fun z => by cases z
theorem Hinv.congr {prc prc' : Nat → Nat → Prop} {g h : Nat → Option (List Nat)} {v : Nat} (e : ∀ a t, g a ≠ none → (prc a t ↔ prc' a t)) (H : Hinv prc g v h) : Hinv prc' g v h := by
  have cd : ∀ A q, Cd prc g v A q ↔ Cd prc' g v A q := fun A q => by
    constructor
    · rintro ⟨a, t, c, h1, h2, h3, h4⟩; exact ⟨a, t, c, (e a t (by rw [h2]; exact fun z => by cases z)).mp h1, h2, h3, h4⟩
    · rintro ⟨a, t, c, h1, h2, h3, h4⟩; exact ⟨a, t, c, (e a t (by rw [h2]; exact fun z => by cases z)).mpr h1, h2, h3, h4⟩
  exact ⟨fun A p hp => let ⟨h1, h2⟩ := H.is A p hp; ⟨(cd _ _).mp h1, fun q hq => h2 q ((cd _ _).mpr hq)⟩, fun A q hq => H.all A q ((cd _ _).mpr hq)⟩
theorem hinv_nil {prc : Nat → Nat → Prop} {g : Nat → Option (List Nat)} {v : Nat} (e : ∀ a t, g a ≠ none → ¬ prc a t) : Hinv prc g v (fun _ => none) :=
  ⟨fun A p h => (by cases h), fun A q hq => by
    obtain ⟨a, t, c, h1, h2, _⟩ := hq
    exact absurd h1 (e a t (by rw [h2]; exact fun z => by cases z))⟩
/-- all pairs done -/
theorem Hinv.done {g h : Nat → Option (List Nat)} (hpl : ps.length = vs.length) (T : Tells vs ps g) (H : Hinv (fun _ t => t ≤ k) g v h) : Tells (vs ++ [v]) (ps ++ [k]) h := by
  refine ⟨fun A p hp => ?_, fun A b hb => ?_⟩
  · obtain ⟨⟨a, t, c, h1, h2, rfl, rfl⟩, h3⟩ := H.is A p hp
    have hc := T.is a c h2
    refine ⟨(out_snoc hpl).mpr ⟨c, t, rfl, h1, by omega, by rw [Nat.add_sub_cancel]; exact hc.out⟩, fun b hb => ?_⟩
    obtain ⟨d, u, rfl, e1, e2, e3⟩ := (out_snoc hpl).mp hb
    cases hg : g (a + t * v - u * v) with
    | none => exact absurd hg (T.all _ _ e3)
    | some c' =>
      have hc' := T.is _ _ hg
      have q := h3 (c' ++ [u]) ⟨_, u, c', e1, hg, rfl, by omega⟩
      have q2 : bt (d ++ [u]) (c' ++ [u]) = false := by rw [bt_snoc]; exact hc'.min d e3
      cases hbt : bt (d ++ [u]) (c ++ [t]) with
      | false => rfl
      | true =>
        rcases bt_co (q := c' ++ [u]) (by simp [e3.len, hc'.out.len]) (by simp [hc.out.len, hc'.out.len]) hbt with z | z
        · rw [q2] at z; cases z
        · rw [q] at z; cases z
  · obtain ⟨d, u, rfl, e1, e2, e3⟩ := (out_snoc hpl).mp hb
    cases hg : g (A - u * v) with
    | none => exact absurd hg (T.all _ _ e3)
    | some c' => exact H.all A (c' ++ [u]) ⟨_, u, c', e1, hg, rfl, by omega⟩
end
end Rx
end

section
set_option Elab.async false
set_option linter.all false
set_option maxRecDepth 100000
set_option maxHeartbeats 1000000
set_option autoImplicit false
/-! L80c: runs of payment_key, is_better, parts_of, pay. -/
namespace Rx
def ngV (r : List Nat) : List D := r.map fun (k : Nat) => .int (-(k : Int))
def keyD (p : List Nat) : D := .tup [.int (p.sum : Nat), .tup (ngV p.reverse)]
theorem ints_dVn (v : List Nat) : D.ints (dV v) = some (v.map fun (k : Nat) => (k : Int)) := by
  induction v with
  | nil => rfl
  | cons x v ih => show (D.ints (dV v)).map ((x : Int) :: ·) = _; rw [ih]; rfl
theorem sum_castN : ∀ v : List Nat, (v.map fun (k : Nat) => (k : Int)).sum = ((v.sum : Nat) : Int)
  | [] => rfl
  | x :: v => by rw [List.map_cons, List.sum_cons, List.sum_cons, sum_castN v]; simp
theorem sum_tup (v : List Nat) : opU .sum (.tup (dV v)) = some (.int (v.sum : Nat)) := by
  show (D.ints (dV v)).map _ = _
  rw [ints_dVn]
  show some (D.int _) = _
  rw [sum_castN]
theorem sum_lst (v : List Nat) : opU .sum (.lst (dV v)) = some (.int (v.sum : Nat)) := by
  show (D.ints (dV v)).map _ = _
  rw [ints_dVn]
  show some (D.int _) = _
  rw [sum_castN]
theorem run_key (c : Nat) (p : List Nat) (hl : p.length ≤ 1000) : run defs (c + 1) 166 [.tup (dV p)] = some (keyD p) := by
  refine run_of (fn := f_payment_key) rfl rfl rfl ?_
  generalize run defs c = G
  generalize runI defs c = GI
  show retD (exs G GI [.val (.tup (dV p)), .unk] [.ret _]) = _
  have hw : walk .rev [.tup (dV p)] = some (p.reverse.map fun (k : Nat) => .int k) := by
    show some (dV p).reverse = _
    unfold dV
    rw [List.map_reverse]
  have hc := ev_compM (G := G) (env := [.val (.tup (dV p)), .unk]) (e := .neg (.var 1)) (t := .name 1) (k := .rev) (es := [.var 0]) (own := [1]) (vs := [.tup (dV p)]) p.reverse (fun (k : Nat) => .int k) (fun (k : Nat) => .int (-(k : Int))) (by simp) hw (line_pos (by simp; omega)) fun a ha => ⟨_, x_bindN, by simp⟩
  rw [exs_ret (ev_tup (xs := [.int (p.sum : Nat), .tup (ngV p.reverse)]) (by
    rw [se_cons, ev_b1 (x := .tup (dV p)) (by rw [bo_var]; rfl) (sum_tup p), se_cons, ev_b1c hc rfl, se_nil]; rfl) (line_pos (by simp)))]
  rfl
theorem eqb_ng : ∀ x y : List Nat, D.eqbL (ngV x) (ngV y) = decide (x = y)
  | [], [] => rfl
  | [], _ :: _ => rfl
  | _ :: _, [] => rfl
  | a :: x, b :: y => by
    show (decide (-(a : Int) = -(b : Int)) && D.eqbL (ngV x) (ngV y)) = _
    rw [eqb_ng x y]
    by_cases q : a = b
    · subst q; simp
    · rw [decide_eq_false (show ¬ (-(a : Int) = -(b : Int)) by omega), decide_eq_false (show ¬ (a :: x = b :: y) from fun z => q (List.cons.inj z).1)]; rfl
theorem ltb_ng : ∀ x y : List Nat, x.length = y.length → D.ltbL (ngV x) (ngV y) = ltR x y
  | [], [], _ => rfl
  | a :: x, b :: y, h => by
    show (if decide (-(a : Int) = -(b : Int)) = true then D.ltbL (ngV x) (ngV y) else decide (-(a : Int) < -(b : Int))) = ltR (a :: x) (b :: y)
    rw [ltb_ng x y (by simpa using h), ltR]
    by_cases q : a = b
    · rw [if_pos (decide_eq_true (by omega)), if_pos q]
    · rw [if_neg (by rw [decide_eq_true_eq]; omega), if_neg q]
      by_cases q2 : b < a
      · rw [decide_eq_true q2, decide_eq_true (by omega)]
      · rw [decide_eq_false q2, decide_eq_false (by omega)]
  | [], _ :: _, h => by simp at h
  | _ :: _, [], h => by simp at h
theorem ltb_key {p q : List Nat} (h : p.length = q.length) : D.ltb (keyD p) (keyD q) = bt p q := by
  show (if decide (((p.sum : Nat) : Int) = ((q.sum : Nat) : Int)) = true then (if D.eqbL (ngV p.reverse) (ngV q.reverse) = true then false else D.ltbL (ngV p.reverse) (ngV q.reverse)) else decide (((p.sum : Nat) : Int) < ((q.sum : Nat) : Int))) = bt p q
  unfold bt
  rw [eqb_ng, ltb_ng _ _ (by simpa using h), deq_nat, dlt_nat]
  by_cases e : p.sum = q.sum
  · rw [if_pos (decide_eq_true e), if_pos e]
    by_cases z : p.reverse = q.reverse
    · rw [if_pos (decide_eq_true z), z]
      cases hh : ltR q.reverse q.reverse with
      | false => rfl
      | true => have := ltR_asym hh; rw [hh] at this; cases this
    · rw [if_neg (by simpa using z)]
  · rw [if_neg (by simpa using e), if_neg e]
theorem alike_ng : ∀ x y : List Nat, x.length = y.length → D.alikeL (ngV x) (ngV y) = true
  | [], [], _ => rfl
  | a :: x, b :: y, h => alike_ng x y (by simpa using h)
  | [], _ :: _, h => by simp at h
  | _ :: _, [], h => by simp at h
theorem plain_ng : ∀ x : List Nat, D.plainL (ngV x) = true
  | [] => rfl
  | a :: x => plain_ng x
theorem depth_ng : ∀ x : List Nat, D.depthL (ngV x) = 0
  | [] => rfl
  | a :: x => by show max 0 (D.depthL (ngV x)) = 0; rw [depth_ng x]; rfl
theorem lt_key {p q : List Nat} (h : p.length = q.length) : opC .lt (keyD p) (keyD q) = some (bt p q) := by
  have h1 : D.plain (keyD p) = true := by show (true && (D.plainL (ngV p.reverse) && true)) = true; rw [plain_ng]; rfl
  have h2 : D.plain (keyD q) = true := by show (true && (D.plainL (ngV q.reverse) && true)) = true; rw [plain_ng]; rfl
  have h3 : D.alike (keyD p) (keyD q) = true := by show (true && (D.alikeL (ngV p.reverse) (ngV q.reverse) && true)) = true; rw [alike_ng _ _ (by simpa using h)]; rfl
  have h4 : D.depth (keyD p) < 60 := by show max 0 (max (D.depthL (ngV p.reverse) + 1) 0) + 1 < 60; rw [depth_ng]; decide
  show (if (D.plain (keyD p) && D.plain (keyD q) && D.alike (keyD p) (keyD q) && decide (D.depth (keyD p) < 60)) = true then some (D.ltb (keyD p) (keyD q)) else none) = _
  rw [if_pos (by rw [h1, h2, h3, decide_eq_true h4]; rfl), ltb_key h]
def oP (o : Option (List Nat)) : D := match o with | none => .non | some q => .tup (dV q)
theorem run_better (c : Nat) (p : List Nat) (o : Option (List Nat)) (hl : p.length ≤ 1000) (ho : ∀ q, o = some q → p.length = q.length) : run defs (c + 2) 165 [.tup (dV p), oP o] = some (.bl (btO p o)) := by
  refine run_of (fn := f_is_better) rfl rfl rfl ?_
  have h1 := run_key c p hl
  have h2 := fun q (hq : q.length ≤ 1000) => run_key c q hq
  generalize run defs (c + 1) = G at h1 h2 ⊢
  generalize runI defs (c + 1) = GI
  show retD (exs G GI [.val (.tup (dV p)), .val (oP o)] [.ret _]) = _
  cases o with
  | none =>
    rw [exs_ret (d := .bl true) (by rw [se_or, se_cmp]; simp [oP])]
    rfl
  | some q =>
    have hq := ho q rfl
    rw [exs_ret (d := .bl (bt p q)) (by
      have e : ev G [.val (.tup (dV p)), .val (oP (some q))] (.cmp .is (.var 1) .non) = some (.bl false) := by rw [se_cmp]; simp [oP]
      rw [se_or, e, Option.bind_some, orF_bl, if_neg (by decide), se_cmp, bo_call, ev_call (ds := [.tup (dV p)]) (by simp) h1, Option.bind_some, bo_call, ev_call (ds := [.tup (dV q)]) (by simp [oP]) (h2 q (by omega)), Option.bind_some, lt_key hq]
      rfl)]
    rfl
/-! ### dicts of payments -/
def encT (L : List (Nat × List Nat)) : List (D × D) := L.map fun p => (.int p.1, .tup (dV p.2))
def lkL : List (Nat × List Nat) → Nat → Option (List Nat)
  | [], _ => none
  | p :: L, A => if p.1 = A then some p.2 else lkL L A
def ptL (L : List (Nat × List Nat)) (A : Nat) (q : List Nat) : List (Nat × List Nat) := if (L.any fun p => decide (p.1 = A)) = true then L.map (fun p => if p.1 = A then (p.1, q) else p) else L ++ [(A, q)]
theorem get_enc : ∀ (L : List (Nat × List Nat)) (A : Nat), (D.get (encT L) (.int A)).getD .non = oP (lkL L A) ∧ D.get (encT L) (.int A) = (lkL L A).map fun c => .tup (dV c)
  | [], A => ⟨rfl, rfl⟩
  | p :: L, A => by
    have h2 : D.get (encT (p :: L)) (.int A) = (lkL (p :: L) A).map fun c => .tup (dV c) := by
      show ((((D.int p.1, D.tup (dV p.2)) :: encT L).find? fun kv => D.eqb kv.1 (.int A)).map (·.2)) = _
      rw [List.find?_cons, lkL]
      show Option.map (fun kv : D × D => kv.2) (match decide ((p.1 : Int) = (A : Int)) with | true => some (D.int p.1, D.tup (dV p.2)) | false => (encT L).find? fun kv => D.eqb kv.1 (.int A)) = _
      rw [deq_nat]
      by_cases q : p.1 = A
      · rw [decide_eq_true q, if_pos q]; rfl
      · rw [decide_eq_false q, if_neg q]
        exact (get_enc L A).2
    refine ⟨?_, h2⟩
    rw [h2]
    cases lkL (p :: L) A <;> rfl
theorem put_enc (L : List (Nat × List Nat)) (A : Nat) (q : List Nat) : D.put (encT L) (.int A) (.tup (dV q)) = encT (ptL L A q) := by
  have h1 : ((encT L).any fun kv => D.eqb kv.1 (.int A)) = L.any fun p => decide (p.1 = A) := by
    unfold encT
    rw [List.any_map]
    congr 1
    funext p
    show decide ((p.1 : Int) = (A : Int)) = _
    rw [deq_nat]
  unfold D.put ptL
  rw [h1]
  by_cases h : (L.any fun p => decide (p.1 = A)) = true
  · rw [if_pos h, if_pos h]
    unfold encT
    rw [List.map_map, List.map_map]
    refine List.map_congr_left fun p _ => ?_
    show (if decide ((p.1 : Int) = (A : Int)) = true then (D.int p.1, D.tup (dV q)) else (D.int p.1, D.tup (dV p.2))) = (fun p : Nat × List Nat => (D.int p.1, D.tup (dV p.2))) (if p.1 = A then (p.1, q) else p)
    rw [deq_nat]
    by_cases z : p.1 = A
    · rw [if_pos (decide_eq_true z), if_pos z]
    · rw [if_neg (by simpa using z), if_neg z]
  · rw [if_neg h, if_neg h]
    unfold encT
    rw [List.map_append]; rfl
theorem lk_any : ∀ (L : List (Nat × List Nat)) (A : Nat), (L.any fun p => decide (p.1 = A)) = (lkL L A).isSome
  | [], _ => rfl
  | p :: L, A => by
    rw [List.any_cons, lkL, lk_any L A]
    by_cases q : p.1 = A
    · rw [if_pos q, decide_eq_true q]; rfl
    · rw [if_neg q, decide_eq_false q]; rfl
theorem lk_app : ∀ (L : List (Nat × List Nat)) (A B : Nat) (q : List Nat), lkL (L ++ [(A, q)]) B = match lkL L B with | some c => some c | none => if A = B then some q else none
  | [], A, B, q => rfl
  | p :: L, A, B, q => by
    show (if p.1 = B then some p.2 else lkL (L ++ [(A, q)]) B) = _
    rw [lkL, lk_app L A B q]
    by_cases z : p.1 = B
    · rw [if_pos z, if_pos z]
    · rw [if_neg z, if_neg z]
theorem lk_map : ∀ (L : List (Nat × List Nat)) (A B : Nat) (q : List Nat), lkL (L.map fun p => if p.1 = A then (p.1, q) else p) B = if B = A then (if (lkL L A).isSome = true then some q else none) else lkL L B
  | [], A, B, q => by
    show none = if B = A then (if false = true then some q else none) else none
    split <;> rfl
  | p :: L, A, B, q => by
    rw [List.map_cons, lkL, lkL, lk_map L A B q, lkL]
    by_cases z : p.1 = A
    · simp only [if_pos z]
      by_cases y : p.1 = B
      · rw [if_pos y, if_pos (y.symm.trans z)]; rfl
      · rw [if_neg y, if_neg (fun e => y (z.trans e.symm)), if_neg y, if_neg (fun e => y (z.trans e.symm))]
    · simp only [if_neg z]
      by_cases y : p.1 = B
      · rw [if_pos y, if_neg (fun e => z (y.trans e)), if_pos y]
      · rw [if_neg y, if_neg y]
theorem lk_put (L : List (Nat × List Nat)) (A B : Nat) (q : List Nat) : lkL (ptL L A q) B = if B = A then some q else lkL L B := by
  unfold ptL
  rw [lk_any]
  by_cases h : (lkL L A).isSome = true
  · rw [if_pos h, lk_map, if_pos h]
  · rw [if_neg h, lk_app]
    by_cases e : B = A
    · subst e
      cases hh : lkL L B with
      | none => simp
      | some c => rw [hh] at h; exact absurd rfl h
    · rw [if_neg e]
      cases lkL L B with
      | none => rw [if_neg (Ne.symm e)]
      | some c => rfl
theorem lk_key {L : List (Nat × List Nat)} {A : Nat} : A ∈ L.map (·.1) ↔ lkL L A ≠ none := by
  induction L with
  | nil => simp [lkL]
  | cons p L ih =>
    rw [List.map_cons, List.mem_cons, lkL, ih]
    by_cases q : p.1 = A
    · rw [if_pos q]; simp [q]
    · rw [if_neg q]; simp [Ne.symm q]
theorem put_nodup {L : List (Nat × List Nat)} {A : Nat} {q : List Nat} (h : (L.map (·.1)).Nodup) : ((ptL L A q).map (·.1)).Nodup := by
  unfold ptL
  by_cases z : (L.any fun p => decide (p.1 = A)) = true
  · rw [if_pos z, List.map_map]
    have : L.map ((·.1) ∘ fun p : Nat × List Nat => if p.1 = A then (p.1, q) else p) = L.map (·.1) := List.map_congr_left fun p _ => by
      show (if p.1 = A then (p.1, q) else p).1 = p.1
      split <;> rfl
    rw [this]; exact h
  · rw [if_neg z, List.map_append, List.nodup_append]
    refine ⟨h, by simp, fun x hx y hy => ?_⟩
    simp at hy
    subst hy
    intro e
    subst e
    rw [lk_any] at z
    have := lk_key.mp hx
    cases hh : lkL L x with
    | none => exact this hh
    | some c => rw [hh] at z; exact z rfl
def stpL (v a : Nat) (c : List Nat) (L : List (Nat × List Nat)) (t : Nat) : List (Nat × List Nat) := if btO (c ++ [t]) (lkL L (a + t * v)) = true then ptL L (a + t * v) (c ++ [t]) else L
theorem lk_stp (v a : Nat) (c : List Nat) (L : List (Nat × List Nat)) (t : Nat) : lkL (stpL v a c L t) = put1 (lkL L) (a + t * v) (c ++ [t]) := by
  unfold stpL put1
  by_cases h : btO (c ++ [t]) (lkL L (a + t * v)) = true
  · rw [if_pos h, if_pos h]
    funext B
    exact lk_put L _ B _
  · rw [if_neg h, if_neg h]
/-- what a table in the making is -/
structure TabI (prc : Nat → Nat → Prop) (g : Nat → Option (List Nat)) (v n M : Nat) (L : List (Nat × List Nat)) : Prop where
  nd : (L.map (·.1)).Nodup
  inv : Hinv prc g v (lkL L)
  bd : ∀ A q, lkL L A = some q → A ≤ M ∧ q.length = n
theorem TabI.len {prc : Nat → Nat → Prop} {g : Nat → Option (List Nat)} {v n M : Nat} {L : List (Nat × List Nat)} (h : TabI prc g v n M L) : L.length ≤ M + 1 := by
  have := nodup_sub_len (List.range (M + 1)) (L.map (·.1)) h.nd fun x hx => by
    cases hh : lkL L x with
    | none => exact absurd hh (lk_key.mp hx)
    | some q => have := (h.bd x q hh).1; exact List.mem_range.mpr (by omega)
  simpa using this
theorem TabI.step {prc : Nat → Nat → Prop} {g : Nat → Option (List Nat)} {v n M : Nat} {L : List (Nat × List Nat)} (h : TabI prc g v (n + 1) M L) (hg : ∀ A c, g A = some c → c.length = n) {a t : Nat} {c : List Nat} (ha : g a = some c) (hM : a + t * v ≤ M) :
    TabI (fun a' t' => prc a' t' ∨ (a' = a ∧ t' = t)) g v (n + 1) M (stpL v a c L t) := by
  refine ⟨?_, by rw [lk_stp]; exact h.inv.step hg ha, fun A q hq => ?_⟩
  · unfold stpL
    split
    · exact put_nodup h.nd
    · exact h.nd
  · unfold stpL at hq
    by_cases z : btO (c ++ [t]) (lkL L (a + t * v)) = true
    · rw [if_pos z, lk_put] at hq
      by_cases e : A = a + t * v
      · rw [if_pos e] at hq
        cases hq
        exact ⟨by omega, by simp [hg _ _ ha]⟩
      · rw [if_neg e] at hq; exact h.bd A q hq
    · rw [if_neg z] at hq; exact h.bd A q hq
theorem opB_addTn {a b : List Nat} (h : a.length + b.length ≤ 16777216) : opB .add (.tup (dV a)) (.tup (dV b)) = some (.tup (dV (a ++ b))) := by
  have hl : (dV a).length + (dV b).length ≤ line := by rw [dV_len, dV_len]; exact h
  show (if (dV a).length + (dV b).length ≤ line then some (D.tup (dV a ++ dV b)) else none) = _
  rw [if_pos hl]
  unfold dV
  rw [List.map_append]
abbrev penv (vs ps : List Nat) (B : List (Nat × List Nat)) (c3 c4 c5 c6 c7 c8 : Cell) : Env := [.val (.tup (dV vs)), .val (.tup (dV ps)), .val (.dic false (encT B)), c3, c4, c5, c6, c7, c8]
abbrev tbody : List S := [.asg 8 (.bin .add (.sub (.var 2) (.var 6)) (.tup [(.var 7)])), .ifs (.val (.call 165 [(.var 8), (.b2 .get (.var 5) (.bin .add (.var 6) (.bin .mul (.var 7) (.var 3))))])) [.sset 5 (.bin .add (.var 6) (.bin .mul (.var 7) (.var 3))) (.var 8)] []]
section
variable {G GI : Nat → List D → Option D} {vs ps : List Nat} {B : List (Nat × List Nat)} {v k n M : Nat}
theorem turn_taken {a t : Nat} {c : List Nat} {L : List (Nat × List Nat)} (h165 : ∀ p o, p.length ≤ 1000 → (∀ q, o = some q → p.length = q.length) → G 165 [.tup (dV p), oP o] = some (.bl (btO p o)))
    (hB : lkL B a = some c) (hc : c.length = n) (hn : n < 1000) (hL : ∀ A q, lkL L A = some q → q.length = n + 1) (hll : L.length < 16777216) (ht : t < 1000000) :
    ∃ e', exs G GI (penv vs ps B (.val (.int v)) (.val (.int k)) (.own (.dic false (encT L))) (.val (.int a)) (.val (.int t)) .unk) tbody = some (.nx, e') ∧ e'.kill [7, 8] = penv vs ps B (.val (.int v)) (.val (.int k)) (.own (.dic false (encT (stpL v a c L t)))) (.val (.int a)) .unk .unk := by
  have e1 : ev G (penv vs ps B (.val (.int v)) (.val (.int k)) (.own (.dic false (encT L))) (.val (.int a)) (.val (.int t)) .unk) (.bin .add (.sub (.var 2) (.var 6)) (.tup [(.var 7)])) = some (.tup (dV (c ++ [t]))) := by
    refine ev_bin_of (x := .tup (dV c)) (y := .tup (dV [t])) ?_ ?_ (opB_addTn (by simp; omega))
    · rw [bo_sub, se_sub, bo_var, se_var]
      show (if isKey false (.int a) = true then D.get (encT B) (.int a) else none) = _
      rw [if_pos x_keyI, (get_enc B a).2, hB]; rfl
    · rw [bo_tup]
      exact ev_tup (xs := [.int t]) (by simp) (line_pos (by simp))
  rw [exs_asg e1]
  simp only [List.set_cons_succ, List.set_cons_zero]
  have ea : ∀ c8 : Cell, ev G (penv vs ps B (.val (.int v)) (.val (.int k)) (.own (.dic false (encT L))) (.val (.int a)) (.val (.int t)) c8) (.bin .add (.var 6) (.bin .mul (.var 7) (.var 3))) = some (.int ((a + t * v : Nat) : Int)) := fun c8 => by
    refine ev_bin_of (x := .int a) (y := .int ((t * v : Nat) : Int)) (by rw [bo_var]; rfl) ?_ opB_addN
    rw [bo_bin]
    exact ev_bin_of (x := .int t) (y := .int v) (by rw [bo_var]; rfl) (by rw [bo_var]; rfl) (ev_pure_mul (by omega))
  have eg : ev G (penv vs ps B (.val (.int v)) (.val (.int k)) (.own (.dic false (encT L))) (.val (.int a)) (.val (.int t)) (.val (.tup (dV (c ++ [t]))))) (.b2 .get (.var 5) (.bin .add (.var 6) (.bin .mul (.var 7) (.var 3)))) = some (oP (lkL L (a + t * v))) := by
    rw [se_b2, ea]
    show (if isKey false (.int ((a + t * v : Nat) : Int)) = true then some ((D.get (encT L) (.int ((a + t * v : Nat) : Int))).getD .non) else none) = _
    rw [if_pos x_keyI, (get_enc L _).1]
  have tt := ts_call' (G := G) (env := penv vs ps B (.val (.int v)) (.val (.int k)) (.own (.dic false (encT L))) (.val (.int a)) (.val (.int t)) (.val (.tup (dV (c ++ [t]))))) (ev_call (f := 165) (es := [.var 8, .b2 .get (.var 5) (.bin .add (.var 6) (.bin .mul (.var 7) (.var 3)))]) (ds := [.tup (dV (c ++ [t])), oP (lkL L (a + t * v))]) (by rw [se_cons, se_var, se_cons, eg, se_nil]; rfl) (h165 (c ++ [t]) (lkL L (a + t * v)) (by simp; omega) fun q hq => by rw [hL _ _ hq]; simp [hc]))
  unfold stpL
  by_cases hb : btO (c ++ [t]) (lkL L (a + t * v)) = true
  · rw [hb] at tt
    rw [if_pos hb]
    refine ⟨penv vs ps B (.val (.int v)) (.val (.int k)) (.own (.dic false (encT (ptL L (a + t * v) (c ++ [t]))))) (.val (.int a)) (.val (.int t)) (.val (.tup (dV (c ++ [t])))), ?_, rfl⟩
    rw [exs_ifT tt (exs_sset (v := .tup (dV (c ++ [t]))) (kd := .int ((a + t * v : Nat) : Int)) (x := .dic false (encT L)) (d := .dic false (encT (ptL L (a + t * v) (c ++ [t])))) (by rw [se_var]; rfl) rfl (ea _) (by
      show (if isKey false (.int ((a + t * v : Nat) : Int)) = true ∧ (encT L).length < line then some (D.dic false (D.put (encT L) (.int ((a + t * v : Nat) : Int)) (.tup (dV (c ++ [t]))))) else none) = _
      rw [if_pos ⟨rfl, by unfold encT; rw [List.length_map]; exact hll⟩, put_enc])), exs_nil]
    rfl
  · rw [if_neg hb]
    have hb : btO (c ++ [t]) (lkL L (a + t * v)) = false := by simpa using hb
    rw [hb] at tt
    refine ⟨penv vs ps B (.val (.int v)) (.val (.int k)) (.own (.dic false (encT L))) (.val (.int a)) (.val (.int t)) (.val (.tup (dV (c ++ [t])))), ?_, rfl⟩
    rw [exs_skip tt, exs_nil]
end
end Rx
end

section
set_option Elab.async false
set_option linter.all false
set_option maxRecDepth 100000
set_option maxHeartbeats 1000000
set_option autoImplicit false
/-! L80d: the runs of parts_of and pay. -/
namespace Rx
theorem out_bd {vs ps : List Nat} {A : Nat} {b : List Nat} (hv : ∀ v ∈ vs, v ≤ 1000) (hp : ∀ p ∈ ps, p ≤ 100) (h : Out vs ps A b) : A ≤ vs.length * 100000 := by
  have h1 := dot_le (B := 1000) b vs h.len fun i hi _ => by
    by_cases q : i < vs.length
    · exact hv _ (gt_mem q)
    · rw [gt_ge (by omega)]; exact Nat.zero_le _
  have h2 : ∀ l : List Nat, (∀ i, gt l i ≤ 100) → l.sum ≤ l.length * 100 := by
    intro l
    induction l with
    | nil => intro _; simp
    | cons x l ih =>
      intro hh
      have h0 := hh 0
      have := ih fun i => hh (i + 1)
      have h0 : x ≤ 100 := h0
      rw [List.sum_cons, List.length_cons, Nat.succ_mul]; omega
  have h3 := h2 b fun i => Nat.le_trans (h.le i) (by
    by_cases q : i < ps.length
    · exact hp _ (gt_mem q)
    · rw [gt_ge (by omega)]; exact Nat.zero_le _)
  rw [h.val] at h1
  rw [h.len] at h3
  omega
def amtL (v k : Nat) (B L : List (Nat × List Nat)) (a : Nat) : List (Nat × List Nat) := (List.range (k + 1)).foldl (stpL v a ((lkL B a).getD [])) L
def prtL (B : List (Nat × List Nat)) (x : Nat × Nat) : List (Nat × List Nat) := (B.map (·.1)).foldl (amtL x.1 x.2 B) []
section
variable {G GI : Nat → List D → Option D} {vs ps : List Nat} {B : List (Nat × List Nat)} {v k n M : Nat}
theorem loop_amounts (h165 : ∀ p o, p.length ≤ 1000 → (∀ q, o = some q → p.length = q.length) → G 165 [.tup (dV p), oP o] = some (.bl (btO p o))) (hn : n < 1000) (hk : k ≤ 100) (hv : v ≤ 1000) (hnd : (B.map (·.1)).Nodup)
    (hB : ∀ a c, lkL B a = some c → c.length = n ∧ a + k * v ≤ M) (hM : M ≤ 10000000) (c8 : Cell) :
    forL (fun d e => (bind (.name 6) d e).bind fun e' => exs G GI e' [.for_ (.name 7) .r1 [(.bin .add (.var 4) (.int 1))] tbody [7, 8]]) [6, 7, 8] ((B.map (·.1)).map fun (a : Nat) => .int a) (penv vs ps B (.val (.int v)) (.val (.int k)) (.own (.dic false (encT []))) .unk .unk .unk)
      = some (.nx, penv vs ps B (.val (.int v)) (.val (.int k)) (.own (.dic false (encT (prtL B (v, k))))) .unk .unk .unk) ∧ TabI (fun _ t => t ≤ k) (lkL B) v (n + 1) M (prtL B (v, k)) := by
  have hgl : ∀ A c, lkL B A = some c → c.length = n := fun A c h => (hB A c h).1
  have hf := forL_foldA (kl := [6, 7, 8]) (step := fun d e => (bind (.name 6) d e).bind fun e' => exs G GI e' [.for_ (.name 7) .r1 [(.bin .add (.var 4) (.int 1))] tbody [7, 8]])
    (fun (a : Nat) => .int a) (fun L => penv vs ps B (.val (.int v)) (.val (.int k)) (.own (.dic false (encT L))) .unk .unk .unk) (amtL v k B) (fun i L => TabI (fun a t => a ∈ (B.map (·.1)).take i ∧ t ≤ k) (lkL B) v (n + 1) M L) (B.map (·.1)) 0 []
    ⟨by simp, hinv_nil (fun a t _ h => by simp at h), fun A q h => by cases h⟩ (fun s => rfl) (fun i a L hi hp => by
      rw [Nat.zero_add] at hp ⊢
      have ham : a ∈ B.map (·.1) := List.mem_of_getElem? hi
      obtain ⟨c, hc⟩ : ∃ c, lkL B a = some c := by
        cases hh : lkL B a with
        | none => exact absurd hh (lk_key.mp ham)
        | some c => exact ⟨c, rfl⟩
      obtain ⟨hcn, hcM⟩ := hB a c hc
      have htk : (B.map (·.1)).take (i + 1) = (B.map (·.1)).take i ++ [a] := by rw [List.take_add_one, hi]; rfl
      have hin := forL_foldA (kl := [7, 8]) (step := fun d e => (bind (.name 7) d e).bind fun e' => exs G GI e' tbody)
        (fun (t : Nat) => .int t) (fun L => penv vs ps B (.val (.int v)) (.val (.int k)) (.own (.dic false (encT L))) (.val (.int a)) .unk .unk) (stpL v a c) (fun j L => TabI (fun a' t => (a' ∈ (B.map (·.1)).take i ∧ t ≤ k) ∨ (a' = a ∧ t < j)) (lkL B) v (n + 1) M L) (List.range (k + 1)) 0 L
        ⟨hp.nd, hp.inv.congr fun a' t _ => by simp, hp.bd⟩ (fun s => rfl) (fun j t L hj hq => by
          have hjk : j < k + 1 := by have := (List.getElem?_eq_some_iff.mp hj).1; simpa using this
          have hae : t = j := by rw [List.getElem?_range hjk] at hj; simpa using hj.symm
          subst hae
          rw [Nat.zero_add] at hq ⊢
          have hle : t * v ≤ k * v := Nat.mul_le_mul_right _ (by omega)
          have hs := hq.step hgl hc (t := t) (by omega)
          refine ⟨⟨hs.nd, hs.inv.congr fun a' t' _ => ?_, hs.bd⟩, ?_⟩
          · constructor
            · rintro ((h | ⟨h1, h2⟩) | ⟨h1, h2⟩)
              · exact .inl h
              · exact .inr ⟨h1, by omega⟩
              · exact .inr ⟨h1, by omega⟩
            · rintro (h | ⟨h1, h2⟩)
              · exact .inl (.inl h)
              · by_cases q : t' = t
                · exact .inr ⟨h1, q⟩
                · exact .inl (.inr ⟨h1, by omega⟩)
          · have hlen := hq.len
            obtain ⟨e', h1, h2⟩ := turn_taken (GI := GI) (vs := vs) (ps := ps) (B := B) (v := v) (k := k) (n := n) (a := a) (t := t) (c := c) (L := L) h165 hc hcn hn (fun A q h => (hq.bd A q h).2) (by omega) (by omega)
            exact ⟨e', by rw [x_bindN, Option.bind_some]; exact h1, h2⟩)
      obtain ⟨hfi, hti⟩ := hin
      have ham2 : amtL v k B L a = (List.range (k + 1)).foldl (stpL v a c) L := by unfold amtL; rw [hc]; rfl
      refine ⟨?_, penv vs ps B (.val (.int v)) (.val (.int k)) (.own (.dic false (encT (amtL v k B L a)))) (.val (.int a)) .unk .unk, ?_, rfl⟩
      · rw [ham2]
        rw [List.length_range] at hti
        refine ⟨hti.nd, hti.inv.congr fun a' t' _ => ?_, hti.bd⟩
        rw [htk, List.mem_append, List.mem_singleton]
        constructor
        · rintro (⟨h1, h2⟩ | ⟨h1, h2⟩)
          · exact ⟨.inl h1, h2⟩
          · exact ⟨.inr h1, by omega⟩
        · rintro ⟨h1 | h1, h2⟩
          · exact .inl ⟨h1, h2⟩
          · exact .inr ⟨h1, by omega⟩
      · rw [x_bindN, Option.bind_some]
        simp only [List.set_cons_succ, List.set_cons_zero]
        rw [exs_for (vs := [.int ((k + 1 : Nat) : Int)]) (by
          rw [se_cons, ev_bin_of (x := .int k) (y := .int (1 : Nat)) (by rw [bo_var]; rfl) (by simp) opB_addN, se_nil]; rfl) (walk_r1m (by omega)) hfi, exs_nil, ham2])
  obtain ⟨hfo, hto⟩ := hf
  refine ⟨hfo, hto.nd, hto.inv.congr fun a t hg => ?_, hto.bd⟩
  rw [Nat.zero_add, List.take_length]
  exact ⟨fun h => h.2, fun h => ⟨lk_key.mpr hg, h⟩⟩
end
/-- the table of all payments out of a purse -/
def parT (vs ps : List Nat) : List (Nat × List Nat) := (vs.zip ps).foldl prtL [(0, [])]
structure TabT (vs ps : List Nat) (L : List (Nat × List Nat)) : Prop where
  nd : (L.map (·.1)).Nodup
  tells : Tells vs ps (lkL L)
theorem run_parts (c : Nat) (vs ps : List Nat) (hpl : ps.length = vs.length) (hl : vs.length ≤ 8) (hv : ∀ v ∈ vs, v ≤ 1000) (hp : ∀ p ∈ ps, p ≤ 100) : run defs (c + 3) 167 [.tup (dV vs), .tup (dV ps)] = some (.dic false (encT (parT vs ps))) ∧ Tells vs ps (lkL (parT vs ps)) := by
  have h165 := fun p o h1 h2 => run_better c p o h1 h2
  generalize hG : run defs (c + 2) = G at h165
  generalize hGI : runI defs (c + 2) = GI
  have hf := forL_foldA (kl := [3, 4, 5, 6, 7, 8]) (step := fun d e => (bind (.tup [(.name 3), (.name 4)]) d e).bind fun e' => exs G GI e' [.asgO 5 (.dic0 false), .for_ (.name 6) .keys [(.var 2)] [.for_ (.name 7) .r1 [(.bin .add (.var 4) (.int 1))] tbody [7, 8]] [6, 7, 8], .frz 5, .asg 2 (.var 5)])
    (fun (p : Nat × Nat) => .tup [.int p.1, .int p.2]) (fun B => penv vs ps B .unk .unk .unk .unk .unk .unk) prtL (fun i B => TabT (vs.take i) (ps.take i) B) (vs.zip ps) 0 [(0, [])]
    ⟨by simp, by
      have e : lkL [(0, ([] : List Nat))] = fun A => if A = 0 then some [] else none := by
        funext A
        show (if 0 = A then some ([] : List Nat) else none) = _
        by_cases q : A = 0
        · subst q; rfl
        · rw [if_neg q, if_neg (Ne.symm q)]
      rw [e]
      exact tells_nil⟩ (fun s => rfl) (fun i x B hi hT => by
      rw [Nat.zero_add] at hT ⊢
      obtain ⟨v, k⟩ := x
      obtain ⟨h1, h2⟩ := List.getElem?_zip_eq_some.mp hi
      have hvi := (List.getElem?_eq_some_iff.mp h1).1
      have hpi := (List.getElem?_eq_some_iff.mp h2).1
      have hv1 := hv v (List.mem_of_getElem? h1)
      have hp1 := hp k (List.mem_of_getElem? h2)
      have t1 : vs.take (i + 1) = vs.take i ++ [v] := by rw [List.take_add_one, h1]; rfl
      have t2 : ps.take (i + 1) = ps.take i ++ [k] := by rw [List.take_add_one, h2]; rfl
      have hkv : k * v ≤ 100 * 1000 := Nat.mul_le_mul hp1 hv1
      have hlen : (vs.take i).length = i := by rw [List.length_take]; omega
      obtain ⟨hr, hti⟩ := loop_amounts (G := G) (GI := GI) (vs := vs) (ps := ps) (B := B) (v := v) (k := k) (n := i) (M := 1000000) h165 (by omega) hp1 hv1 hT.nd (fun a c h => by
        have hm := hT.tells.is a c h
        have := out_bd (fun v h => hv v (List.mem_of_mem_take h)) (fun p h => hp p (List.mem_of_mem_take h)) hm.out
        rw [hlen] at this
        exact ⟨by rw [hm.out.len, hlen], by omega⟩) (by omega) .unk
      refine ⟨⟨hti.nd, ?_⟩, penv vs ps (prtL B (v, k)) (.val (.int v)) (.val (.int k)) (.val (.dic false (encT (prtL B (v, k))))) .unk .unk .unk, ?_, rfl⟩
      · rw [t1, t2]
        exact hti.inv.done (by rw [List.length_take, List.length_take]; omega) hT.tells
      · rw [x_bindT, x_bindL1, x_bindN, Option.bind_some, x_bindL1, x_bindN, Option.bind_some, x_bindL0, Option.bind_some]
        simp only [List.set_cons_succ, List.set_cons_zero]
        rw [exs_asgO (d := .dic false (encT [])) (by rw [ev]; rfl) rfl]
        simp only [List.set_cons_succ, List.set_cons_zero]
        have hw : walk .keys [.dic false (encT B)] = some ((B.map (·.1)).map fun (a : Nat) => .int a) := by
          show some ((encT B).map (·.1)) = _
          unfold encT
          rw [List.map_map, List.map_map]; rfl
        rw [exs_for (vs := [.dic false (encT B)]) (by rw [se_cons, se_var, se_nil]; rfl) hw hr]
        rw [exs_frz (d := .dic false (encT (prtL B (v, k)))) rfl]
        simp only [List.set_cons_succ, List.set_cons_zero]
        rw [exs_asg (d := .dic false (encT (prtL B (v, k)))) (by rw [se_var]; rfl), exs_nil]
        rfl)
  obtain ⟨hfo, hT⟩ := hf
  have hzl : (vs.zip ps).length = vs.length := by rw [List.length_zip]; omega
  rw [Nat.zero_add, hzl, List.take_length, ← hpl, List.take_length] at hT
  refine ⟨run_of (fn := f_parts_of) rfl rfl rfl ?_, hT.tells⟩
  rw [hG, hGI]
  show retD (exs G GI [.val (.tup (dV vs)), .val (.tup (dV ps)), .unk, .unk, .unk, .unk, .unk, .unk, .unk] (.asg 2 _ :: .for_ _ _ _ _ _ :: [.ret _])) = _
  have e0 : ev G [.val (.tup (dV vs)), .val (.tup (dV ps)), .unk, .unk, .unk, .unk, .unk, .unk, .unk] (.dic1 false (.int 0) (.tup [])) = some (.dic false (encT [(0, [])])) := by
    rw [ev, se_int, Option.bind_some, ev_tup (xs := []) (by simp) (line_pos (by simp)), Option.bind_some, if_pos x_keyI]; rfl
  rw [exs_asg e0]
  simp only [List.set_cons_succ, List.set_cons_zero]
  have hw : walk .zip2 [.tup (dV vs), .tup (dV ps)] = some ((vs.zip ps).map fun (p : Nat × Nat) => .tup [.int p.1, .int p.2]) := by
    show some (((dV vs).zip (dV ps)).map fun p => D.tup [p.1, p.2]) = _
    unfold dV
    rw [List.zip_map, List.map_map]; rfl
  rw [exs_for (vs := [.tup (dV vs), .tup (dV ps)]) (by rw [se_cons, se_var, se_cons, se_var, se_nil]; rfl) hw hfo]
  rw [exs_ret (d := .dic false (encT (parT vs ps))) (by rw [se_var]; rfl)]
  rfl
theorem run_pay (c : Nat) {vs ps : List Nat} {A : Nat} {b : List Nat} (hpl : ps.length = vs.length) (hl : vs.length ≤ 8) (hv : ∀ v ∈ vs, v ≤ 1000) (hp : ∀ p ∈ ps, p ≤ 100) (hb : MinP vs ps A b) : run defs (c + 4) 168 [.tup (dV vs), .tup (dV ps), .int A] = some (.tup (dV b)) := by
  refine run_of (fn := f_pay) rfl rfl rfl ?_
  obtain ⟨h167, hT⟩ := run_parts c vs ps hpl hl hv hp
  generalize run defs (c + 3) = G at h167 ⊢
  generalize runI defs (c + 3) = GI
  show retD (exs G GI [.val (.tup (dV vs)), .val (.tup (dV ps)), .val (.int A)] [.ret _]) = _
  have hlk : lkL (parT vs ps) A = some b := by
    cases hh : lkL (parT vs ps) A with
    | none => exact absurd hh (hT.all A b hb.out)
    | some c => rw [(hT.is A c hh).uniq hb]
  rw [exs_ret (d := .tup (dV b)) (by
    rw [se_b2, bo_call, ev_call (ds := [.tup (dV vs), .tup (dV ps)]) (by simp) h167, Option.bind_some, se_var]
    show (if isKey false (.int A) = true then some ((D.get (encT (parT vs ps)) (.int A)).getD .non) else none) = _
    rw [if_pos x_keyI, (get_enc _ _).1, hlk]; rfl)]
  rfl
/-- there is a best one where there is one -/
theorem min_ex (vs ps : List Nat) (hpl : ps.length = vs.length) (hl : vs.length ≤ 8) (hv : ∀ v ∈ vs, v ≤ 1000) (hp : ∀ p ∈ ps, p ≤ 100) {A : Nat} {b : List Nat} (h : Out vs ps A b) : ∃ c, MinP vs ps A c := by
  obtain ⟨_, hT⟩ := run_parts 0 vs ps hpl hl hv hp
  cases hh : lkL (parT vs ps) A with
  | none => exact absurd hh (hT.all A b h)
  | some c => exact ⟨c, hT.is A c hh⟩
end Rx
end

section
set_option Elab.async false
set_option linter.all false
set_option maxRecDepth 100000
set_option maxHeartbeats 1000000
set_option autoImplicit false
/-! L80e: runs of law_paid, law_less, law_place, law_best_down, law_greedy_down. -/
namespace Rx
theorem dot_sumN : ∀ (cs vs : List Nat), cs.length = vs.length → ((List.range vs.length).map fun k => gt vs k * gt cs k).sum = dot cs vs
  | [], [], _ => by simp [dot]
  | c :: cs, v :: vs, h => by
    have ih := dot_sumN cs vs (by simpa using h)
    rw [List.length_cons, List.range_succ_eq_map, List.map_cons, List.sum_cons, List.map_map]
    show v * c + ((List.range vs.length).map fun k => gt vs k * gt cs k).sum = c * v + dot cs vs
    rw [ih, Nat.mul_comm]
  | [], _ :: _, h => by simp at h
  | _ :: _, [], h => by simp at h
section
variable {vs : List Nat}
theorem ev_len {G : Nat → List D → Option D} {env : Env} {i : Nat} {l : List Nat} (he : env.bor i = some (.tup (dV l))) : ev G env (.b1 .len (.var i)) = some (.int (l.length : Nat)) := ev_b1 (x := .tup (dV l)) (by rw [bo_var]; exact he) (by rw [opU_lenT, dV_len])
theorem ev_sumT {G : Nat → List D → Option D} {env : Env} {i : Nat} {l : List Nat} (he : env.bor i = some (.tup (dV l))) : ev G env (.b1 .sum (.var i)) = some (.int (l.sum : Nat)) := ev_b1 (x := .tup (dV l)) (by rw [bo_var]; exact he) (sum_tup l)
theorem ev_ixT {G : Nat → List D → Option D} {env : Env} {i j : Nat} {e : E} {l : List Nat} (he : env.bor i = some (.tup (dV l))) (h : ev G env e = some (.int j)) (hj : j < l.length) : ev G env (.sub (.var i) e) = some (.int (gt l j : Nat)) := by
  rw [se_sub, bo_var, he, Option.bind_some, h, Option.bind_some, opSub_tup, dV_get hj]
/-- the sum of values times numbers -/
theorem ev_dotN {G : Nat → List D → Option D} {env : Env} {p q i : Nat} {cs : List Nat} (hl : cs.length = vs.length) (hv : ∀ v ∈ vs, v ≤ 1000000) (hn : vs.length ≤ 1000) (hp : p ≠ i) (hq : q ≠ i) (h1 : env.bor p = some (.tup (dV vs))) (h2 : env.bor q = some (.tup (dV cs))) (hi : i < env.length) :
    ev G env (.b1 .sum (.comp (.bin .mul (.sub (.var p) (.var i)) (.sub (.var q) (.var i))) (.name i) .r1 [(.b1 .len (.var p))] [] [i])) = some (.int (dot cs vs : Nat)) := by
  have hb : ∀ (k : Nat) (c c' : Cell), k ≠ i → Env.bor ((env.set i c).set i c') k = env.bor k := by
    intro k c c' hk
    unfold Env.bor
    rw [List.getElem?_set_ne (by omega), List.getElem?_set_ne (by omega)]
  have hc := ev_compM (G := G) (env := env) (e := .bin .mul (.sub (.var p) (.var i)) (.sub (.var q) (.var i))) (t := .name i) (k := .r1) (es := [(.b1 .len (.var p))]) (own := [i]) (vs := [.int (vs.length : Nat)]) (List.range vs.length) (fun (k : Nat) => .int k) (fun (k : Nat) => .int ((gt vs k * gt cs k : Nat) : Int)) (by rw [sb_cons, bo_b1, ev_len h1, sb_nil]; rfl) (walk_r1m (by omega)) (line_pos (by simp; omega)) fun j hj => by
    have hj := List.mem_range.mp hj
    refine ⟨_, x_bindN, ?_⟩
    have ei : ev G ((Env.kill env [i]).set i (.val (.int j))) (.var i) = some (.int j) := by
      rw [se_var]
      show Env.val ((env.set i .unk).set i (.val (.int j))) i = _
      unfold Env.val
      rw [List.getElem?_set_self (by simpa using hi)]
    have := hv _ (gt_mem hj)
    exact ev_bin_of (by rw [bo_sub]; exact ev_ixT (by show Env.bor ((env.set i .unk).set i (.val (.int j))) p = _; rw [hb _ _ _ hp, h1]) ei hj) (by rw [bo_sub]; exact ev_ixT (by show Env.bor ((env.set i .unk).set i (.val (.int j))) q = _; rw [hb _ _ _ hq, h2]) ei (by omega)) (ev_pure_mul (by omega))
  have e : (List.range vs.length).map (fun (k : Nat) => D.int ((gt vs k * gt cs k : Nat) : Int)) = dV ((List.range vs.length).map fun k => gt vs k * gt cs k) := by unfold dV; rw [List.map_map]; rfl
  rw [e] at hc
  rw [ev_b1c hc (sum_lst _), dot_sumN cs vs hl]
theorem run_paid (c : Nat) {cs : List Nat} {s : Nat} (hlen : cs.length = vs.length) (hdot : dot cs vs = s) (hv : ∀ v ∈ vs, v ≤ 1000000) (hl : vs.length ≤ 1000) : run defs (c + 2) 52 [.tup (dV vs), .tup (dV cs), .int s] = some (.bl true) := by
  refine run_of (fn := f_law_paid) rfl rfl rfl ?_
  have h9 := fun i => run_is_int (defs := defs) rfl c i
  generalize run defs (c + 1) = G at *
  generalize runI defs (c + 1) = GI
  show retD (exs G GI [.val (.tup (dV vs)), .val (.tup (dV cs)), .val (.int s), .unk, .unk] (.ifs _ _ _ :: .ifs _ _ _ :: [.ret _])) = _
  rw [exs_skip (ts_orF (ts_not (c := true) (ts_val (x := .bl true) (by rw [bo_b1, ev_b1 (x := .tup (dV cs)) (z := .bl true) (by rw [bo_var]; rfl) rfl]) rfl) rfl) (ts_val (x := .bl false) (by
    rw [bo_cmp, se_cmp, bo_b1, ev_len (l := cs) rfl, bo_b1, ev_len (l := vs) rfl, Option.bind_some, Option.bind_some, hlen, opC_ne]; simp) rfl))]
  have hc := ev_compM (G := G) (env := [.val (.tup (dV vs)), .val (.tup (dV cs)), .val (.int s), .unk, .unk]) (e := .and (.call 9 [(.var 3)]) (.cmp .ge (.var 3) (.int 0))) (t := .name 3) (k := .seq) (es := [.var 1]) (own := [3]) (vs := [.tup (dV cs)]) cs (fun (k : Nat) => .int k) (fun k => .bl true) (by simp) rfl (line_pos (by omega)) (fun k hk => ⟨_, x_bindN, ev_andT (ev_call (ds := [.int k]) (by rw [se_cons, se_var, se_nil]; rfl) (h9 _)) (by rw [se_cmp]; simp)⟩)
  rw [exs_skip (ts_not (c := true) (ts_val (x := .bl true) (by rw [bo_b1, ev_b1c hc (all_map _ _ fun _ _ => rfl)]) rfl) rfl)]
  rw [exs_ret (d := .bl true) (by
    rw [se_cmp, bo_b1, ev_dotN hlen hv hl (by decide) (by decide) rfl rfl (by simp), hdot]
    simp)]
  rfl
theorem cutN_natN {n i : Nat} (h : i ≤ n) : cutN n (i : Int) = i := by
  unfold cutN
  rw [if_neg (by omega), Int.toNat_natCast]; omega
theorem opHi_dV {l : List Nat} {i : Nat} (h : i ≤ l.length) : opHi (.tup (dV l)) (.int i) = some (.tup (dV (l.take i))) := by
  show some (D.tup ((dV l).take (cutN (dV l).length i))) = _
  rw [dV_len, cutN_natN h]
  unfold dV
  rw [List.map_take]
theorem opLo_dV {l : List Nat} {i : Nat} (h : i ≤ l.length) : opLo (.tup (dV l)) (.int i) = some (.tup (dV (l.drop i))) := by
  show some (D.tup ((dV l).drop (cutN (dV l).length i))) = _
  rw [dV_len, cutN_natN h]
  unfold dV
  rw [List.map_drop]
theorem run_less (c : Nat) {cs : List Nat} {i : Nat} (hi : i < cs.length) (hp : 0 < gt cs i) (hl : cs.length ≤ 1000) : run defs (c + 1) 169 [.tup (dV cs), .int i] = some (.tup (dV (unb cs i))) := by
  refine run_of (fn := f_law_less) rfl rfl rfl ?_
  generalize run defs c = G
  generalize runI defs c = GI
  show retD (exs G GI [.val (.tup (dV cs)), .val (.int i)] [.ret _]) = _
  have e1 : ev G [.val (.tup (dV cs)), .val (.int i)] (.shi (.var 0) (.var 1)) = some (.tup (dV (cs.take i))) := by
    rw [se_shi, se_var, se_var]
    show opHi (.tup (dV cs)) (.int i) = _
    rw [opHi_dV (by omega)]
  have e2 : ev G [.val (.tup (dV cs)), .val (.int i)] (.tup [(.bin .sub (.sub (.var 0) (.var 1)) (.int 1))]) = some (.tup (dV [gt cs i - 1])) := ev_tup (xs := [.int ((gt cs i - 1 : Nat) : Int)]) (by
    rw [se_cons, ev_bin_of (x := .int (gt cs i : Nat)) (y := .int (1 : Nat)) (by rw [bo_sub]; exact ev_ixT rfl (by rw [se_var]; rfl) hi) (by simp) (opB_subN hp), se_nil]; rfl) (line_pos (by simp))
  have e3 : ev G [.val (.tup (dV cs)), .val (.int i)] (.slo (.var 0) (.bin .add (.var 1) (.int 1))) = some (.tup (dV (cs.drop (i + 1)))) := by
    rw [se_slo, ev_bin_of (x := .int i) (y := .int (1 : Nat)) (by rw [bo_var]; rfl) (by simp) opB_addN]
    show opLo (.tup (dV cs)) (.int ((i + 1 : Nat) : Int)) = _
    rw [opLo_dV (by omega)]
  have hset : unb cs i = cs.take i ++ [gt cs i - 1] ++ cs.drop (i + 1) := by
    unfold unb
    rw [List.set_eq_take_append_cons_drop, if_pos hi, List.append_assoc]; rfl
  rw [hset]
  rw [exs_ret (ev_bin_of (by rw [bo_bin]; exact ev_bin_of (by rw [bo_shi]; exact e1) (by rw [bo_tup]; exact e2) (opB_addTn (by simp; omega))) (by rw [bo_slo]; exact e3) (opB_addTn (by simp; omega)))]
  rfl
theorem run_place (c : Nat) {cs : List Nat} (cell : Nat) (hp : 0 < cs.sum) (hl : cs.length ≤ 1000) : ∃ i, i < cs.length ∧ 0 < gt cs i ∧ run defs (c + 1) 170 [.tup (dV cs), .int cell] = some (.int i) := by
  generalize hG : run defs c = G
  generalize hGI : runI defs c = GI
  generalize hT : (List.range cs.length).filter (fun k => decide (0 < gt cs k)) = T
  have hmem : ∀ k ∈ T, k < cs.length ∧ 0 < gt cs k := fun k hk => by
    rw [← hT] at hk
    obtain ⟨h1, h2⟩ := List.mem_filter.mp hk
    exact ⟨List.mem_range.mp h1, of_decide_eq_true h2⟩
  have hne : 0 < T.length := by
    obtain ⟨i, h1, h2⟩ := some_less (List.replicate cs.length 0) cs (by simp) (by simpa using hp)
    exact List.length_pos_of_mem (a := i) (by rw [← hT]; exact List.mem_filter.mpr ⟨List.mem_range.mpr h1, decide_eq_true (by omega)⟩)
  have hlt := Nat.mod_lt cell hne
  obtain ⟨q1, q2⟩ := hmem _ (gt_mem hlt)
  refine ⟨gt T (cell % T.length), q1, q2, run_of (fn := f_law_place) rfl rfl rfl ?_⟩
  rw [hG, hGI]
  show retD (exs G GI [.val (.tup (dV cs)), .val (.int cell), .unk, .unk] (.asg 2 _ :: [.ret _])) = _
  have hc := ev_compA (G := G) (env := [.val (.tup (dV cs)), .val (.int cell), .unk, .unk]) (e := .var 3) (t := .name 3) (k := .r1) (es := [.b1 .len (.var 0)]) (c := .val (.cmp .gt (.sub (.var 0) (.var 3)) (.int 0))) (own := [3]) (vs := [.int (cs.length : Nat)]) (List.range cs.length) (fun (k : Nat) => .int k) (fun (k : Nat) => .int k) (fun k => decide (0 < gt cs k)) (by
    rw [sb_cons, bo_b1, ev_len (l := cs) rfl, sb_nil]; rfl) (walk_r1m (by omega)) (line_pos (by simp; omega)) fun k hk => by
    have hk := List.mem_range.mp hk
    refine ⟨_, x_bindN, ts_val (x := .bl (decide (0 < gt cs k))) (by
      rw [bo_cmp, se_cmp, bo_sub, ev_ixT (l := cs) (j := k) rfl (by rw [se_var]; rfl) hk, Option.bind_some, bo_int, se_int]
      show (opC .gt (.int (gt cs k : Nat)) (.int 0)).map D.bl = _
      rw [opC_gt, show decide ((0 : Int) < ((gt cs k : Nat) : Int)) = decide (0 < gt cs k) from dlt_nat (a := 0)]; rfl) rfl, fun _ => by rw [se_var]; rfl⟩
  rw [hT] at hc
  have e : T.map (fun (k : Nat) => D.int k) = dV T := rfl
  rw [e] at hc
  rw [exs_asg hc]
  simp only [List.set_cons_succ, List.set_cons_zero]
  rw [exs_ret (d := .int (gt T (cell % T.length) : Nat)) (by
    rw [se_sub, ev_mod (x := cell) (m := T.length) (by rw [ev_b1 (x := .int cell) (z := .int cell) (by rw [bo_var]; rfl) rfl]) (fun _ => bo_b1) (by
      rw [bo_b1, ev_b1 (x := .lst (dV T)) (z := .int (T.length : Nat)) (by rw [bo_var]; rfl) (by rw [opU_lenL, dV_len])]) hne]
    show opSub (.lst (dV T)) (.int ((cell % T.length : Nat) : Int)) = _
    rw [opSub_lst, dV_get hlt])]
  rfl
end
/-- loops that may be left -/
theorem forL_brk {step : D → Env → Option (Fl × Env)} {kl : List Nat} {I : Env → Prop} (hk : ∀ e, I e → I (e.kill kl)) : ∀ (xs : List D) (env : Env), I env → (∀ x ∈ xs, ∀ e, I e → ∃ e1, (step x e = some (.nx, e1) ∨ step x e = some (.brk, e1)) ∧ I (e1.kill kl)) → ∃ e', forL step kl xs env = some (.nx, e') ∧ I e'
  | [], env, h, _ => ⟨_, rfl, hk env h⟩
  | x :: xs, env, h, hs => by
    obtain ⟨e1, h1, h2⟩ := hs x (List.mem_cons_self ..) env h
    rcases h1 with h1 | h1
    · obtain ⟨e', h3, h4⟩ := forL_brk hk xs (e1.kill kl) h2 fun y hy => hs y (List.mem_cons_of_mem _ hy)
      exact ⟨e', by rw [forL, h1]; exact h3, h4⟩
    · exact ⟨_, by rw [forL, h1]; rfl, h2⟩
theorem exs_ifB {G GI : Nat → List D → Option D} {env env' : Env} {q : C} {as bs ss : List S} (h : ts G env q = some true) (ha : exs G GI env as = some (.brk, env')) : exs G GI env (.ifs q as bs :: ss) = some (.brk, env') := by simp [exs, ex, h, seqS, ha]
section
variable {vs : List Nat}
theorem ev_rowT {G : Nat → List D → Option D} {env : Env} {ws : List Nat} {p j t b : Nat} (hr : env.bor p = some (.lst (dV ws))) (ht : env.val j = some (.int t)) (hj : env.bor j = some (.int t)) (h : b + t < ws.length) : ev G env (.sub (.var p) (.bin .add (.int (@OfNat.ofNat Int b (@instOfNat b))) (.var j))) = some (.int (gt ws (b + t) : Nat)) := by
  rw [se_sub, bo_var, hr, Option.bind_some, ev_bin_of (x := .int b) (y := .int t) (by rw [bo_int, se_int]; rfl) (by rw [bo_var]; exact hj) opB_addN, Option.bind_some, opSub_lst, dV_get h]
theorem like_dV80 (c : Nat) (v : List Nat) (h : v.length ≤ 100000) : run defs (c + 3) 10 [.tup (dV v), .tup (dV v)] = some (.bl true) := like_dV c v h
theorem best_least_num {A m : Nat} {b : List Nat} (hv0 : ∀ v ∈ vs, 0 < v) (hb : Best vs A m b) : (numT vs A).getD A none = some m := least_uniq ((num_is hv0 A).is A (Nat.le_refl _)) hb.least
theorem run_best_down (c : Nat) {ws : List Nat} {A m0 : Nat} (hw : 40 ≤ ws.length) (hA : A ≤ 100000) (hn : 0 < vs.length) (hl : vs.length ≤ 8) (hv : ∀ v ∈ vs, 0 < v ∧ v ≤ 1000) (hpay : LeastIs vs A (some m0)) : run defs (c + 4) 171 [.tup (dV vs), .int A, .lst (dV ws)] = some (.bl true) := by
  have hv0 := fun v h => (hv v h).1
  have h28 : ∀ a m b, a ≤ 100000 → Best vs a m b → run defs (c + 3) 28 [.tup (dV vs), .int a] = some (.tup (dV b)) := fun a m b ha hb => by
    obtain ⟨b', h1, h2⟩ := run_best (vs := vs) (c + 1) a m (by omega) (by omega) hn hv0 hb.least
    rw [h1.uniq hb] at h2; exact h2
  have h27 : ∀ a m b, a ≤ 100000 → Best vs a m b → run defs (c + 3) 27 [.tup (dV vs), .int a] = some (.int (b.sum : Nat)) := fun a m b ha hb => by
    have := run_num (vs := vs) (c + 1) a (by omega) (by omega) hv0
    rw [best_least_num hv0 hb, ← hb.pays.num] at this; exact this
  have h52 := fun {cs : List Nat} {s : Nat} h1 h2 => run_paid (vs := vs) (c + 1) (cs := cs) (s := s) h1 h2 (fun v h => by have := (hv v h).2; omega) (by omega)
  have h10 := fun i => like_int (c + 1) i
  have h10t := fun v h => like_dV80 c v h
  have h169 := fun {cs : List Nat} {i : Nat} hi hp h => run_less (c + 2) (cs := cs) (i := i) hi hp h
  have h170 := fun {cs : List Nat} cell hp h => run_place (c + 2) (cs := cs) cell hp h
  obtain ⟨b0, hb0, _⟩ := run_best (vs := vs) (c + 1) A m0 (by omega) (by omega) hn hv0 hpay
  refine run_of (fn := f_law_best_down) rfl rfl rfl ?_
  generalize run defs (c + 3) = G at *
  generalize runI defs (c + 3) = GI
  show retD (exs G GI [.val (.tup (dV vs)), .val (.int A), .val (.lst (dV ws)), .unk, .unk, .unk] (.asg 3 _ :: .ifs _ _ _ :: .for_ _ _ _ _ _ :: [.ret _])) = _
  rw [exs_asg (ev_call (ds := [.tup (dV vs), .int A]) (by simp) (h28 A m0 b0 hA hb0))]
  simp only [List.set_cons_succ, List.set_cons_zero]
  rw [exs_skip (ts_orF (ts_not (c := true) (ts_call' (ev_call (ds := [.tup (dV vs), .tup (dV b0), .int A]) (by simp) (h52 hb0.pays.len hb0.pays.val))) rfl) (ts_not (c := true) (ts_call' (ev_call (ds := [.int (b0.sum : Nat), .int (b0.sum : Nat)]) (by
    rw [se_cons, ev_call (ds := [.tup (dV vs), .int A]) (by simp) (h27 A m0 b0 hA hb0), se_cons, ev_sumT (l := b0) rfl, se_nil]; rfl) (h10 _))) rfl))]
  obtain ⟨e', hf, A', b', m', he', hb', hA'⟩ := forL_brk (kl := [4, 5]) (step := fun d e => (bind (.name 4) d e).bind fun e' => exs G GI e' [.ifs (.val (.cmp .eq (.b1 .sum (.var 3)) (.int 0))) [.brk] [], .asg 5 (.call 170 [(.var 3), (.sub (.var 2) (.bin .add (.int 20) (.var 4)))]), .asgP [(3, false), (1, false)] [(.call 169 [(.var 3), (.var 5)]), (.bin .sub (.var 1) (.sub (.var 0) (.var 5)))], .ifs (.not (.val (.call 10 [(.call 28 [(.var 0), (.var 1)]), (.var 3)]))) [.ret (.bl false)] []])
    (I := fun e => ∃ (A : Nat) (b : List Nat) (m : Nat), e = [.val (.tup (dV vs)), .val (.int A), .val (.lst (dV ws)), .val (.tup (dV b)), .unk, .unk] ∧ Best vs A m b ∧ A ≤ 100000)
    (fun e ⟨A, b, m, he, hb, hA⟩ => ⟨A, b, m, by rw [he]; rfl, hb, hA⟩) ((List.range 4).map fun (k : Nat) => .int k) [.val (.tup (dV vs)), .val (.int A), .val (.lst (dV ws)), .val (.tup (dV b0)), .unk, .unk] ⟨A, b0, m0, rfl, hb0, hA⟩ (by
    rintro x hx e ⟨A, b, m, rfl, hb, hA⟩
    obtain ⟨t, ht, rfl⟩ := List.mem_map.mp hx
    have ht := List.mem_range.mp ht
    rw [x_bindN, Option.bind_some]
    simp only [List.set_cons_succ, List.set_cons_zero]
    have hbl := hb.pays.len
    have tz : ts G [.val (.tup (dV vs)), .val (.int A), .val (.lst (dV ws)), .val (.tup (dV b)), .val (.int t), .unk] (.val (.cmp .eq (.b1 .sum (.var 3)) (.int 0))) = some (decide (b.sum = 0)) := ts_val (x := .bl (decide (b.sum = 0))) (by
      rw [bo_cmp, se_cmp, bo_b1, ev_sumT (l := b) rfl, Option.bind_some, bo_int, se_int]
      show (opC .eq (.int (b.sum : Nat)) (.int (0 : Nat))).map D.bl = _
      rw [opC_eq, deq_nat]; rfl) rfl
    by_cases hz : b.sum = 0
    · rw [decide_eq_true hz] at tz
      exact ⟨_, .inr (exs_ifB tz xs_brk), A, b, m, rfl, hb, hA⟩
    · rw [decide_eq_false hz] at tz
      obtain ⟨i, hi, hp, hr⟩ := h170 (cs := b) (gt ws (20 + t)) (by omega) (by omega)
      obtain ⟨l1, l2, l3⟩ := hb.less (show i < vs.length by omega) hp
      rw [exs_skip tz, exs_asg (d := .int i) (ev_call (ds := [.tup (dV b), .int (gt ws (20 + t) : Nat)]) (by
        rw [se_cons, se_var, se_cons, ev_rowT (b := 20) (t := t) rfl rfl rfl (by omega), se_nil]; rfl) hr)]
      simp only [List.set_cons_succ, List.set_cons_zero]
      rw [exs_asgP (ds := [.tup (dV (unb b i)), .int ((A - gt vs i : Nat) : Int)]) (env' := [.val (.tup (dV vs)), .val (.int ((A - gt vs i : Nat) : Int)), .val (.lst (dV ws)), .val (.tup (dV (unb b i))), .val (.int t), .val (.int i)]) (by
        rw [se_cons, ev_call (ds := [.tup (dV b), .int i]) (by simp) (h169 hi hp (by omega)), se_cons, ev_bin_of (x := .int A) (y := .int (gt vs i : Nat)) (by rw [bo_var]; rfl) (by rw [bo_sub]; exact ev_ixT rfl (by rw [se_var]; rfl) (by omega)) (opB_subN l1), se_nil]; rfl) (by simp)]
      rw [exs_skip (ts_not (c := true) (ts_call' (ev_call (ds := [.tup (dV (unb b i)), .tup (dV (unb b i))]) (by
        rw [se_cons, ev_call (ds := [.tup (dV vs), .int ((A - gt vs i : Nat) : Int)]) (by simp) (h28 _ _ _ (by omega) l3), se_cons, se_var, se_nil]; rfl) (h10t _ (by rw [unb_len]; omega)))) rfl), exs_nil]
      exact ⟨_, .inl rfl, A - gt vs i, unb b i, m - 1, rfl, l3, by omega⟩)
  rw [exs_for (vs := [.int (4 : Nat)]) (by simp) (walk_r1m (by omega)) hf, he']
  rw [exs_ret (d := .bl true) (ev_call (ds := [.int (b'.sum : Nat), .int (b'.sum : Nat)]) (by
    rw [se_cons, ev_call (ds := [.tup (dV vs), .int A']) (by simp) (h27 A' m' b' hA' hb'), se_cons, ev_sumT (l := b') rfl, se_nil]; rfl) (h10 _))]
  rfl
theorem run_greedy_down (c : Nat) {ws : List Nat} {A : Nat} (hw : 40 ≤ ws.length) (hn : 0 < vs.length) (hl : vs.length ≤ 8) (hv : ∀ v ∈ vs, 0 < v ∧ v ≤ 1000) : run defs (c + 4) 172 [.tup (dV vs), .int A, .lst (dV ws)] = some (.bl true) := by
  have hv0 := fun v h => (hv v h).1
  have h49 := fun s => run_greedy (c + 2) vs s (fun v h => ⟨(hv v h).1, by have := (hv v h).2; omega⟩) (by omega)
  have h52 := fun {cs : List Nat} {s : Nat} h1 h2 => run_paid (vs := vs) (c + 1) (cs := cs) (s := s) h1 h2 (fun v h => by have := (hv v h).2; omega) (by omega)
  have h10t := fun v h => like_dV80 c v h
  have h169 := fun {cs : List Nat} {i : Nat} hi hp h => run_less (c + 2) (cs := cs) (i := i) hi hp h
  have h170 := fun {cs : List Nat} cell hp h => run_place (c + 2) (cs := cs) cell hp h
  refine run_of (fn := f_law_greedy_down) rfl rfl rfl ?_
  generalize run defs (c + 3) = G at *
  generalize runI defs (c + 3) = GI
  show retD (exs G GI [.val (.tup (dV vs)), .val (.int A), .val (.lst (dV ws)), .unk, .unk, .unk] (.asg 3 _ :: .ifs _ _ _ :: .ifs _ _ _ :: .for_ _ _ _ _ _ :: [.ret _])) = _
  rw [exs_asg (ev_call (ds := [.tup (dV vs), .int A]) (by simp) (h49 A))]
  simp only [List.set_cons_succ, List.set_cons_zero]
  by_cases hz : 0 < gRest vs.reverse A
  · rw [if_pos hz]
    have h1 : 1 < gt vs 0 := by
      have := hv0 _ (gt_mem hn)
      apply Classical.byContradiction
      intro q
      have e : gt vs 0 = 1 := by omega
      have := gRest_one vs.reverse A (List.mem_reverse.mpr (by rw [← e]; exact gt_mem hn)) fun v h => hv0 v (List.mem_reverse.mp h)
      omega
    have e0 : ev G [.val (.tup (dV vs)), .val (.int A), .val (.lst (dV ws)), .val .non, .unk, .unk] (.sub (.var 0) (.int 0)) = some (.int (gt vs 0 : Nat)) := ev_ixT (j := 0) rfl (by simp) hn
    rw [exs_ifR (d := .bl true) (env' := [.val (.tup (dV vs)), .val (.int A), .val (.lst (dV ws)), .val .non, .unk, .unk]) (ts_val (x := .bl true) (by rw [bo_cmp, se_cmp]; simp) rfl) (by
      rw [exs_ret (d := .bl true) (by
        rw [se_cmp, bo_sub, e0, Option.bind_some, bo_int, se_int]
        show (opC .gt (.int (gt vs 0 : Nat)) (.int 1)).map D.bl = _
        rw [opC_gt, decide_eq_true (by omega)]; rfl)])]
    rfl
  · rw [if_neg hz]
    have hr0 : gRest vs.reverse A = 0 := by omega
    have hdot : ∀ a, gRest vs.reverse a = 0 → dot (greedyC vs a) vs = a := fun a h => (greedy_gr hv0 h).pays.val
    rw [exs_skip (ts_val (x := .bl false) (by rw [bo_cmp, se_cmp]; simp) rfl)]
    rw [exs_skip (ts_not (c := true) (ts_call' (ev_call (ds := [.tup (dV vs), .tup (dV (greedyC vs A)), .int A]) (by simp) (h52 (greedy_len vs A) (hdot A hr0)))) rfl)]
    obtain ⟨e', hf, A', he', hb'⟩ := forL_brk (kl := [4, 5]) (step := fun d e => (bind (.name 4) d e).bind fun e' => exs G GI e' [.ifs (.val (.cmp .eq (.b1 .sum (.var 3)) (.int 0))) [.brk] [], .asg 5 (.call 170 [(.var 3), (.sub (.var 2) (.bin .add (.int 26) (.var 4)))]), .asgP [(3, false), (1, false)] [(.call 169 [(.var 3), (.var 5)]), (.bin .sub (.var 1) (.sub (.var 0) (.var 5)))], .ifs (.not (.val (.call 10 [(.call 49 [(.var 0), (.var 1)]), (.var 3)]))) [.ret (.bl false)] []])
      (I := fun e => ∃ A : Nat, e = [.val (.tup (dV vs)), .val (.int A), .val (.lst (dV ws)), .val (.tup (dV (greedyC vs A))), .unk, .unk] ∧ gRest vs.reverse A = 0)
      (fun e ⟨A, he, hb⟩ => ⟨A, by rw [he]; rfl, hb⟩) ((List.range 6).map fun (k : Nat) => .int k) [.val (.tup (dV vs)), .val (.int A), .val (.lst (dV ws)), .val (.tup (dV (greedyC vs A))), .unk, .unk] ⟨A, rfl, hr0⟩ (by
      rintro x hx e ⟨A, rfl, hb⟩
      obtain ⟨t, ht, rfl⟩ := List.mem_map.mp hx
      have ht := List.mem_range.mp ht
      rw [x_bindN, Option.bind_some]
      simp only [List.set_cons_succ, List.set_cons_zero]
      have hbl := greedy_len vs A
      have tz : ts G [.val (.tup (dV vs)), .val (.int A), .val (.lst (dV ws)), .val (.tup (dV (greedyC vs A))), .val (.int t), .unk] (.val (.cmp .eq (.b1 .sum (.var 3)) (.int 0))) = some (decide ((greedyC vs A).sum = 0)) := ts_val (x := .bl (decide ((greedyC vs A).sum = 0))) (by
        rw [bo_cmp, se_cmp, bo_b1, ev_sumT (l := greedyC vs A) rfl, Option.bind_some, bo_int, se_int]
        show (opC .eq (.int ((greedyC vs A).sum : Nat)) (.int (0 : Nat))).map D.bl = _
        rw [opC_eq, deq_nat]; rfl) rfl
      by_cases hz : (greedyC vs A).sum = 0
      · rw [decide_eq_true hz] at tz
        exact ⟨_, .inr (exs_ifB tz xs_brk), A, rfl, hb⟩
      · rw [decide_eq_false hz] at tz
        obtain ⟨i, hi, hp, hr⟩ := h170 (cs := greedyC vs A) (gt ws (26 + t)) (by omega) (by omega)
        obtain ⟨l1, l2, l3⟩ := greedy_less hv0 (show i < vs.length by omega) hp
        rw [exs_skip tz, exs_asg (d := .int i) (ev_call (ds := [.tup (dV (greedyC vs A)), .int (gt ws (26 + t) : Nat)]) (by
          rw [se_cons, se_var, se_cons, ev_rowT (b := 26) (t := t) rfl rfl rfl (by omega), se_nil]; rfl) hr)]
        simp only [List.set_cons_succ, List.set_cons_zero]
        rw [exs_asgP (ds := [.tup (dV (unb (greedyC vs A) i)), .int ((A - gt vs i : Nat) : Int)]) (env' := [.val (.tup (dV vs)), .val (.int ((A - gt vs i : Nat) : Int)), .val (.lst (dV ws)), .val (.tup (dV (unb (greedyC vs A) i))), .val (.int t), .val (.int i)]) (by
          rw [se_cons, ev_call (ds := [.tup (dV (greedyC vs A)), .int i]) (by simp) (h169 hi hp (by omega)), se_cons, ev_bin_of (x := .int A) (y := .int (gt vs i : Nat)) (by rw [bo_var]; rfl) (by rw [bo_sub]; exact ev_ixT rfl (by rw [se_var]; rfl) (by omega)) (opB_subN l1), se_nil]; rfl) (by simp)]
        have hg := h49 (A - gt vs i)
        rw [l3, hb, if_neg (by omega), l2] at hg
        rw [exs_skip (ts_not (c := true) (ts_call' (ev_call (ds := [.tup (dV (unb (greedyC vs A) i)), .tup (dV (unb (greedyC vs A) i))]) (by
          rw [se_cons, ev_call (ds := [.tup (dV vs), .int ((A - gt vs i : Nat) : Int)]) (by simp) hg, se_cons, se_var, se_nil]; rfl) (h10t _ (by rw [unb_len]; omega)))) rfl), exs_nil]
        exact ⟨_, .inl rfl, A - gt vs i, by rw [l2]; rfl, by rw [l3, hb]⟩)
    rw [exs_for (vs := [.int (6 : Nat)]) (by simp) (walk_r1m (by omega)) hf, he']
    rw [exs_ret (d := .bl true) (by simp)]
    rfl
theorem run_purse_down (c : Nat) {ws ps rs : List Nat} (hw : 40 ≤ ws.length) (hn : 0 < vs.length) (hl : vs.length ≤ 8) (hv : ∀ v ∈ vs, 0 < v ∧ v ≤ 1000) (hpl : ps.length = vs.length) (hp100 : ∀ p ∈ ps, p ≤ 100) (hrl : rs.length = vs.length) (hrp : ∀ i, gt rs i ≤ gt ps i) :
    run defs (c + 5) 173 [.tup (dV vs), .tup (dV ps), .tup (dV rs), .lst (dV ws)] = some (.bl true) := by
  have hv0 := fun v h => (hv v h).1
  have hv1 := fun v h => (hv v h).2
  have hO : Out vs ps (dot rs vs) rs := ⟨hrl, rfl, hrp⟩
  obtain ⟨b0, hb0⟩ := min_ex vs ps hpl hl hv1 hp100 hO
  have hle : b0.sum ≤ rs.sum := by
    have := hb0.min rs hO
    unfold bt at this
    by_cases q : rs.sum = b0.sum
    · omega
    · rw [if_neg q, decide_eq_false_iff_not] at this; omega
  have h168 := fun {ps : List Nat} {A : Nat} {b : List Nat} h1 h2 h3 => run_pay c (vs := vs) (ps := ps) (A := A) (b := b) h1 hl hv1 h2 h3
  have h52 := fun {cs : List Nat} {s : Nat} h1 h2 => run_paid (vs := vs) (c + 2) (cs := cs) (s := s) h1 h2 (fun v h => by have := (hv v h).2; omega) (by omega)
  have h10t := fun v h => like_dV80 (c + 1) v h
  have h169 := fun {cs : List Nat} {i : Nat} hi hp h => run_less (c + 3) (cs := cs) (i := i) hi hp h
  have h170 := fun {cs : List Nat} cell hp h => run_place (c + 3) (cs := cs) cell hp h
  generalize hA0 : dot rs vs = A0 at *
  refine run_of (fn := f_law_purse_down) rfl rfl rfl ?_
  generalize run defs (c + 4) = G at *
  generalize runI defs (c + 4) = GI
  show retD (exs G GI [.val (.tup (dV vs)), .val (.tup (dV ps)), .val (.tup (dV rs)), .val (.lst (dV ws)), .unk, .unk, .unk, .unk, .unk] (.asg 4 _ :: .asg 5 _ :: .ifs _ _ _ :: .ifs _ _ _ :: .for_ _ _ _ _ _ :: [.ret _])) = _
  rw [exs_asg (d := .int A0) (by rw [ev_dotN hrl (fun v h => by have := hv1 v h; omega) (by omega) (by decide) (by decide) rfl rfl (by simp), hA0])]
  simp only [List.set_cons_succ, List.set_cons_zero]
  rw [exs_asg (ev_call (ds := [.tup (dV vs), .tup (dV ps), .int A0]) (by simp) (h168 hpl hp100 hb0))]
  simp only [List.set_cons_succ, List.set_cons_zero]
  have hb0l := hb0.out.len
  have hc := ev_compM (G := G) (env := [.val (.tup (dV vs)), .val (.tup (dV ps)), .val (.tup (dV rs)), .val (.lst (dV ws)), .val (.int A0), .val (.tup (dV b0)), .unk, .unk, .unk]) (e := .cmp .le (.sub (.var 5) (.var 8)) (.sub (.var 1) (.var 8))) (t := .name 8) (k := .r1) (es := [(.b1 .len (.var 0))]) (own := [8]) (vs := [.int (vs.length : Nat)]) (List.range vs.length) (fun (k : Nat) => .int k) (fun _ => .bl true) (by rw [sb_cons, bo_b1, ev_len (l := vs) rfl, sb_nil]; rfl) (walk_r1m (by omega)) (line_pos (by simp; omega)) fun j hj => by
    have hj := List.mem_range.mp hj
    refine ⟨_, x_bindN, ?_⟩
    rw [se_cmp, bo_sub, ev_ixT (l := b0) (j := j) rfl (by rw [se_var]; rfl) (by omega), Option.bind_some, bo_sub, ev_ixT (l := ps) (j := j) rfl (by rw [se_var]; rfl) (by omega), Option.bind_some, opC_le, dle_nat, decide_eq_true (hb0.out.le j)]; rfl
  rw [exs_skip (ts_orF (ts_not (c := true) (ts_call' (ev_call (ds := [.tup (dV vs), .tup (dV b0), .int A0]) (by simp) (h52 hb0l hb0.out.val))) rfl) (ts_not (c := true) (ts_val (x := .bl true) (by rw [bo_b1, ev_b1c hc (all_map _ _ fun _ _ => rfl)]) rfl) rfl))]
  rw [exs_skip (ts_val (x := .bl false) (by
    rw [bo_cmp, se_cmp, bo_b1, ev_sumT (l := b0) rfl, Option.bind_some, bo_b1, ev_sumT (l := rs) rfl, Option.bind_some, opC_gt, decide_eq_false (by omega)]; rfl) rfl)]
  obtain ⟨e', hf, A', ps', b', he', _⟩ := forL_brk (kl := [6, 7]) (step := fun d e => (bind (.name 6) d e).bind fun e' => exs G GI e' [.ifs (.val (.cmp .eq (.b1 .sum (.var 5)) (.int 0))) [.brk] [], .asg 7 (.call 170 [(.var 5), (.sub (.var 3) (.bin .add (.int 32) (.var 6)))]), .asgP [(5, false), (1, false), (4, false)] [(.call 169 [(.var 5), (.var 7)]), (.call 169 [(.var 1), (.var 7)]), (.bin .sub (.var 4) (.sub (.var 0) (.var 7)))], .ifs (.not (.val (.call 10 [(.call 168 [(.var 0), (.var 1), (.var 4)]), (.var 5)]))) [.ret (.bl false)] []])
    (I := fun e => ∃ (A : Nat) (ps b : List Nat), e = [.val (.tup (dV vs)), .val (.tup (dV ps)), .val (.tup (dV rs)), .val (.lst (dV ws)), .val (.int A), .val (.tup (dV b)), .unk, .unk, .unk] ∧ MinP vs ps A b ∧ ps.length = vs.length ∧ ∀ p ∈ ps, p ≤ 100)
    (fun e ⟨A, ps, b, he, h⟩ => ⟨A, ps, b, by rw [he]; rfl, h⟩) ((List.range 3).map fun (k : Nat) => .int k) [.val (.tup (dV vs)), .val (.tup (dV ps)), .val (.tup (dV rs)), .val (.lst (dV ws)), .val (.int A0), .val (.tup (dV b0)), .unk, .unk, .unk] ⟨A0, ps, b0, rfl, hb0, hpl, hp100⟩ (by
    rintro x hx e ⟨A, ps, b, rfl, hb, hpl, hp100⟩
    obtain ⟨t, ht, rfl⟩ := List.mem_map.mp hx
    have ht := List.mem_range.mp ht
    rw [x_bindN, Option.bind_some]
    simp only [List.set_cons_succ, List.set_cons_zero]
    have hbl := hb.out.len
    have tz : ts G [.val (.tup (dV vs)), .val (.tup (dV ps)), .val (.tup (dV rs)), .val (.lst (dV ws)), .val (.int A), .val (.tup (dV b)), .val (.int t), .unk, .unk] (.val (.cmp .eq (.b1 .sum (.var 5)) (.int 0))) = some (decide (b.sum = 0)) := ts_val (x := .bl (decide (b.sum = 0))) (by
      rw [bo_cmp, se_cmp, bo_b1, ev_sumT (l := b) rfl, Option.bind_some, bo_int, se_int]
      show (opC .eq (.int (b.sum : Nat)) (.int (0 : Nat))).map D.bl = _
      rw [opC_eq, deq_nat]; rfl) rfl
    by_cases hz : b.sum = 0
    · rw [decide_eq_true hz] at tz
      exact ⟨_, .inr (exs_ifB tz xs_brk), A, ps, b, rfl, hb, hpl, hp100⟩
    · rw [decide_eq_false hz] at tz
      obtain ⟨i, hi, hp, hr⟩ := h170 (cs := b) (gt ws (32 + t)) (by omega) (by omega)
      obtain ⟨l1, l2, _, l4⟩ := hb.less hpl (show i < vs.length by omega) hp
      have hp' : ∀ p ∈ unb ps i, p ≤ 100 := fun p hq => by
        obtain ⟨j, hj, rfl⟩ := List.getElem_of_mem hq
        have hj' : j < ps.length := by rw [unb_len] at hj; exact hj
        rw [← gt_lt hj, gt_unb (by omega)]
        have h1 := hp100 _ (gt_mem hj')
        have h2 := hp100 _ (gt_mem (show i < ps.length by omega))
        split <;> omega
      rw [exs_skip tz, exs_asg (d := .int i) (ev_call (ds := [.tup (dV b), .int (gt ws (32 + t) : Nat)]) (by
        rw [se_cons, se_var, se_cons, ev_rowT (b := 32) (t := t) rfl rfl rfl (by omega), se_nil]; rfl) hr)]
      simp only [List.set_cons_succ, List.set_cons_zero]
      rw [exs_asgP (ds := [.tup (dV (unb b i)), .tup (dV (unb ps i)), .int ((A - gt vs i : Nat) : Int)]) (env' := [.val (.tup (dV vs)), .val (.tup (dV (unb ps i))), .val (.tup (dV rs)), .val (.lst (dV ws)), .val (.int ((A - gt vs i : Nat) : Int)), .val (.tup (dV (unb b i))), .val (.int t), .val (.int i), .unk]) (by
        rw [se_cons, ev_call (ds := [.tup (dV b), .int i]) (by simp) (h169 hi hp (by omega)), se_cons, ev_call (ds := [.tup (dV ps), .int i]) (by simp) (h169 (cs := ps) (by omega) l4 (by omega)), se_cons, ev_bin_of (x := .int A) (y := .int (gt vs i : Nat)) (by rw [bo_var]; rfl) (by rw [bo_sub]; exact ev_ixT rfl (by rw [se_var]; rfl) (by omega)) (opB_subN l1), se_nil]; rfl) (by simp)]
      rw [exs_skip (ts_not (c := true) (ts_call' (ev_call (ds := [.tup (dV (unb b i)), .tup (dV (unb b i))]) (by
        rw [se_cons, ev_call (ds := [.tup (dV vs), .tup (dV (unb ps i)), .int ((A - gt vs i : Nat) : Int)]) (by simp) (h168 (by rw [unb_len]; exact hpl) hp' l2), se_cons, se_var, se_nil]; rfl) (h10t _ (by rw [unb_len]; omega)))) rfl), exs_nil]
      exact ⟨_, .inl rfl, A - gt vs i, unb ps i, unb b i, rfl, l2, by rw [unb_len]; exact hpl, hp'⟩)
  rw [exs_for (vs := [.int (3 : Nat)]) (by simp) (walk_r1m (by omega)) hf, he']
  rw [exs_ret (d := .bl true) (by simp)]
  rfl
end
end Rx
end

section
set_option Elab.async false
set_option linter.all false
set_option maxRecDepth 100000
set_option maxHeartbeats 2000000
set_option autoImplicit false
/-! L80f: the law. -/
namespace Rx
theorem least_ex {vs : List Nat} {s k : Nat} (h : PayN vs s k) : ∃ m, LeastIs vs s (some m) := by
  have : ∀ d j, j ≤ d → PayN vs s j → ∃ m, LeastIs vs s (some m) := by
    intro d
    induction d with
    | zero => intro j hj h; exact ⟨j, h, fun l _ => by omega⟩
    | succ d ih =>
      intro j hj h
      by_cases q : ∃ l, l < j ∧ PayN vs s l
      · obtain ⟨l, hl, hp⟩ := q
        exact ih l (by omega) hp
      · exact ⟨j, h, fun l hl => Nat.le_of_not_lt fun z => q ⟨l, z, hl⟩⟩
  exact this k k (Nat.le_refl _) h
theorem dV_negN {v : List Nat} {j : Nat} (h1 : 0 < j) (h2 : j ≤ v.length) : atI (dV v) (-(j : Int)) = some (.int (gt v (v.length - j) : Nat)) := by
  have hl : (dV v).length = v.length := dV_len v
  unfold atI ixN
  rw [if_neg (by omega), if_pos (by rw [hl]; omega), Option.bind_some, hl, show (-(j : Int) + (v.length : Int)).toNat = v.length - j by omega]
  unfold dV
  rw [List.getElem?_map, List.getElem?_eq_getElem (by omega), gt_lt (by omega)]; rfl
theorem opHi_neg {l : List Nat} (h : 0 < l.length) : opHi (.tup (dV l)) (.int (-1)) = some (.tup (dV (l.take (l.length - 1)))) := by
  show some (D.tup ((dV l).take (cutN (dV l).length (-1)))) = _
  rw [dV_len]
  unfold cutN
  rw [if_pos (by decide), show (-1 + (l.length : Int)).toNat = l.length - 1 by omega]
  unfold dV
  rw [List.map_take]
theorem ev_last {G : Nat → List D → Option D} {env : Env} {i : Nat} {l : List Nat} (he : env.bor i = some (.tup (dV l))) (h : 0 < l.length) : ev G env (.sub (.var i) (.neg (.int 1))) = some (.int (gt l (l.length - 1) : Nat)) := by
  rw [se_sub, bo_var, he, Option.bind_some, se_neg, se_int, Option.bind_some, negF_int, Option.bind_some, opSub_tup]
  exact dV_negN (j := 1) (by omega) h
theorem ev_but {G : Nat → List D → Option D} {env : Env} {i : Nat} {l : List Nat} (he : env.bor i = some (.tup (dV l))) (h : 0 < l.length) : ev G env (.shi (.var i) (.neg (.int 1))) = some (.tup (dV (l.take (l.length - 1)))) := by
  rw [se_shi, bo_var, he, Option.bind_some, se_neg, se_int, Option.bind_some, negF_int, Option.bind_some, opHi_neg h]
abbrev genv (ns : List Int) (ws vs : List Nat) (A : Nat) (c5 c6 c7 c8 c9 c10 c11 c12 c13 c14 : Cell) : Env := [.val (.scr ns), .val (.lst (dV ws)), .val (.tup (dV vs)), .val (.int A), .val (.int (400 : Nat)), c5, c6, c7, c8, c9, c10, c11, c12, c13, c14]
theorem law_true (ns : List Int) (hns : ns.length ≤ 63) : run defs 40 174 [.scr ns] = some (.bl true) := by
  refine run_of (c := 39) (fn := f_law) rfl rfl rfl ?_
  obtain ⟨ws, hws, h8⟩ := run_rowN (defs := defs) rfl rfl 37 ns 54 (by decide)
  have m6 := Nat.mod_lt (gt ws 6) (show 0 < 3 by omega)
  have ht : gt [12, 30, 60] (gt ws 6 % 3) = 12 ∨ gt [12, 30, 60] (gt ws 6 % 3) = 30 ∨ gt [12, 30, 60] (gt ws 6 % 3) = 60 := by
    have : gt ws 6 % 3 = 0 ∨ gt ws 6 % 3 = 1 ∨ gt ws 6 % 3 = 2 := by omega
    rcases this with h | h | h <;> rw [h]
    · exact .inl rfl
    · exact .inr (.inl rfl)
    · exact .inr (.inr rfl)
  generalize htop : gt [12, 30, 60] (gt ws 6 % 3) = top at ht
  obtain ⟨vs, h159, hasc, hne, hv60, hl5⟩ := run_law_coins 38 (ws := ws) 0 5 top (by omega) (by omega) (by omega) (by omega) (by omega)
  have hn : 0 < vs.length := List.length_pos_iff.mpr hne
  have hv : ∀ v ∈ vs, 0 < v ∧ v ≤ 60 := fun v h => by have := hv60 v h; omega
  have hv' : ∀ v ∈ vs, 0 < v ∧ v ≤ 1000 := fun v h => by have := hv v h; omega
  have hv0 := fun v h => (hv v h).1
  have hw40 : 40 ≤ ws.length := by omega
  have h171 := fun A m (hA : A ≤ 100000) hm => run_best_down (vs := vs) 35 (ws := ws) (A := A) (m0 := m) hw40 hA hn (by omega) hv' hm
  have h172 := fun A => run_greedy_down (vs := vs) 35 (ws := ws) (A := A) hw40 hn (by omega) hv'
  have h173 := fun ps rs h1 h2 h3 h4 => run_purse_down (vs := vs) 34 (ws := ws) (ps := ps) (rs := rs) hw40 hn (by omega) hv' h1 h2 h3 h4
  have h28 : ∀ a m b, a ≤ 100000 → Best vs a m b → run defs 39 28 [.tup (dV vs), .int a] = some (.tup (dV b)) := fun a m b ha hb => by
    obtain ⟨b', h1, h2⟩ := run_best (vs := vs) 37 a m (by omega) (by omega) hn hv0 hb.least
    rw [h1.uniq hb] at h2; exact h2
  have h28e : ∀ a m, a ≤ 100000 → LeastIs vs a (some m) → ∃ b, Best vs a m b := fun a m ha hm => by
    obtain ⟨b', h1, _⟩ := run_best (vs := vs) 37 a m (by omega) (by omega) hn hv0 hm
    exact ⟨b', h1⟩
  have h28n : ∀ a, a ≤ 100000 → LeastIs vs a none → run defs 39 28 [.tup (dV vs), .int a] = some .non := fun a ha h => run_best_non (vs := vs) 37 a (by omega) (by omega) hv0 (least_uniq ((num_is hv0 a).is a (Nat.le_refl _)) h)
  have h52 := fun {cs : List Nat} {s : Nat} h1 h2 => run_paid (vs := vs) 37 (cs := cs) (s := s) h1 h2 (fun v h => by have := (hv v h).2; omega) (by omega)
  have h10t := fun v h => like_dV80 36 v h
  generalize run defs 39 = G at *
  generalize runI defs 39 = GI
  unfold f_law
  show retD (exs G GI [.val (.scr ns), .unk, .unk, .unk, .unk, .unk, .unk, .unk, .unk, .unk, .unk, .unk, .unk, .unk, .unk] _) = _
  dsimp only
  rw [exs_asg (d := .lst (dV ws)) (ev_call (ds := [.scr ns, .int 54]) (by simp) h8)]
  simp only [List.set_cons_succ, List.set_cons_zero]
  have etop : ev G [.val (.scr ns), .val (.lst (dV ws)), .unk, .unk, .unk, .unk, .unk, .unk, .unk, .unk, .unk, .unk, .unk, .unk, .unk] (.sub (.tup [(.int 12), (.int 30), (.int 60)]) (.bin .mod (.b1 .int (.sub (.var 1) (.int 6))) (.int 3))) = some (.int top) := by
    have e6 : ev G [.val (.scr ns), .val (.lst (dV ws)), .unk, .unk, .unk, .unk, .unk, .unk, .unk, .unk, .unk, .unk, .unk, .unk, .unk] (.bin .mod (.b1 .int (.sub (.var 1) (.int 6))) (.int 3)) = some (.int ((gt ws 6 % 3 : Nat) : Int)) := ev_rowmod rfl 6 3 (by omega) (by omega)
    rw [se_sub, bo_tup, ev_tup (xs := dV [12, 30, 60]) (by simp [dV]) (line_pos (by simp [dV])), Option.bind_some, e6, Option.bind_some, opSub_tup, dV_get (by simpa using m6), htop]
  rw [exs_asg (d := .tup (dV vs)) (ev_call (ds := [.lst (dV ws), .int (0 : Nat), .int (5 : Nat), .int top]) (by rw [se_cons, se_var, se_cons, se_int, se_cons, se_int, se_cons, etop, se_nil]; rfl) h159)]
  simp only [List.set_cons_succ, List.set_cons_zero]
  rw [exs_asgP (ds := [.int (0 : Nat), .int (400 : Nat)]) (env' := genv ns ws vs 0 .unk .unk .unk .unk .unk .unk .unk .unk .unk .unk) (by simp) (by simp)]
  generalize hcs : (List.range vs.length).map (fun k => gt ws (7 + k) % 5) = cs
  have hcl : cs.length = vs.length := by rw [← hcs]; simp
  have hck : ∀ k, k < vs.length → gt cs k = gt ws (7 + k) % 5 := fun k hk => by
    rw [← hcs, gt_lt (by simpa using hk)]; simp
  have hsumA : ∀ j, j ≤ vs.length → ((List.range j).map fun k => gt vs k * gt cs k).sum ≤ j * 240 := by
    intro j
    induction j with
    | zero => intro _; simp
    | succ j ih =>
      intro hj
      rw [List.range_succ, List.map_append, List.sum_append, List.map_singleton, List.sum_singleton, Nat.succ_mul]
      have := ih (by omega)
      have h1 := (hv _ (gt_mem (show j < vs.length by omega))).2
      have h2 : gt cs j ≤ 4 := by rw [hck j (by omega)]; omega
      have := Nat.mul_le_mul h1 h2
      omega
  have hloop := forL_foldA (kl := [5]) (step := fun d e => (bind (.name 5) d e).bind fun e' => exs G GI e' [.asg 3 (.bin .add (.var 3) (.bin .mul (.sub (.var 2) (.var 5)) (.bin .mod (.b1 .int (.sub (.var 1) (.bin .add (.int 7) (.var 5)))) (.int 5))))])
    (fun (k : Nat) => .int k) (fun (A : Nat) => genv ns ws vs A .unk .unk .unk .unk .unk .unk .unk .unk .unk .unk) (fun A k => A + gt vs k * gt cs k) (fun j A => A = ((List.range j).map fun k => gt vs k * gt cs k).sum) (List.range vs.length) 0 0 rfl (fun _ => rfl) (fun j k A hj hp => by
      have hjl : j < vs.length := by have := (List.getElem?_eq_some_iff.mp hj).1; simpa using this
      have hae : k = j := by rw [List.getElem?_range hjl] at hj; simpa using hj.symm
      subst hae
      rw [Nat.zero_add] at hp ⊢
      refine ⟨by rw [hp, List.range_succ, List.map_append, List.sum_append]; simp, genv ns ws vs (A + gt vs k * gt cs k) (.val (.int k)) .unk .unk .unk .unk .unk .unk .unk .unk .unk, ?_, rfl⟩
      rw [x_bindN, Option.bind_some]
      simp only [List.set_cons_succ, List.set_cons_zero]
      have hvk := (hv _ (gt_mem hjl)).2
      have e5 : ev G (genv ns ws vs A (.val (.int k)) .unk .unk .unk .unk .unk .unk .unk .unk .unk) (.bin .mod (.b1 .int (.sub (.var 1) (.bin .add (.int 7) (.var 5)))) (.int 5)) = some (.int (gt cs k : Nat)) := by
        rw [hck k hjl]
        exact ev_mod (m := 5) (ev_at (ws := ws) (i := 7 + k) rfl (ev_bin_of (x := .int (7 : Nat)) (y := .int k) (by simp) (by rw [bo_var]; rfl) opB_addN) (by omega) rfl) (fun _ => bo_b1) (by simp) (by omega)
      rw [exs_asg (d := .int ((A + gt vs k * gt cs k : Nat) : Int)) (ev_bin_of (x := .int A) (y := .int ((gt vs k * gt cs k : Nat) : Int)) (by rw [bo_var]; rfl) (by
        rw [bo_bin]
        exact ev_bin_of (by rw [bo_sub]; exact ev_ixT rfl (by rw [se_var]; rfl) hjl) (by rw [bo_bin]; exact e5) (ev_pure_mul (by omega))) opB_addN), exs_nil]
      rfl)
  obtain ⟨hf, hA⟩ := hloop
  rw [Nat.zero_add, List.length_range, dot_sumN cs vs hcl] at hA
  have hAb := hsumA vs.length (Nat.le_refl _)
  rw [dot_sumN cs vs hcl, ← hA] at hAb
  generalize (List.range vs.length).foldl (fun A k => A + gt vs k * gt cs k) 0 = A at *
  rw [exs_for (vs := [.int (vs.length : Nat)]) (by rw [se_cons, ev_len (l := vs) rfl, se_nil]; rfl) (walk_r1m (by omega)) hf]
  obtain ⟨m0, hm0⟩ := least_ex (vs := vs) (s := A) (k := cs.sum) ⟨cs, hcl, hA.symm, rfl⟩
  have t4 : ts G (genv ns ws vs A .unk .unk .unk .unk .unk .unk .unk .unk .unk .unk) (.and (.val (.cmp .le (.var 3) (.var 4))) (.or (.not (.val (.call 171 [(.var 2), (.var 3), (.var 1)]))) (.not (.val (.call 172 [(.var 2), (.var 3), (.var 1)]))))) = some false := by
    have tle : ts G (genv ns ws vs A .unk .unk .unk .unk .unk .unk .unk .unk .unk .unk) (.val (.cmp .le (.var 3) (.var 4))) = some (decide (A ≤ 400)) := ts_val (x := .bl (decide (A ≤ 400))) (by
      rw [bo_cmp, se_cmp]
      show (opC .le (.int A) (.int (400 : Nat))).map D.bl = _
      rw [opC_le, dle_nat]; rfl) rfl
    by_cases q : A ≤ 400
    · rw [decide_eq_true q] at tle
      exact ts_andT tle (ts_orF (ts_not (c := true) (ts_call' (ev_call (ds := [.tup (dV vs), .int A, .lst (dV ws)]) (by simp) (h171 A m0 (by omega) hm0))) rfl) (ts_not (c := true) (ts_call' (ev_call (ds := [.tup (dV vs), .int A, .lst (dV ws)]) (by simp) (h172 A))) rfl))
    · rw [decide_eq_false q] at tle
      exact ts_andF tle
  rw [exs_skip t4]
  -- room, purse, part
  have hroom : gt [7, 7, 5, 3, 3] (vs.length - 1) ≤ 7 ∧ 0 < gt [7, 7, 5, 3, 3] (vs.length - 1) := by
    have : vs.length - 1 = 0 ∨ vs.length - 1 = 1 ∨ vs.length - 1 = 2 ∨ vs.length - 1 = 3 ∨ vs.length - 1 = 4 := by omega
    rcases this with h | h | h | h | h <;> rw [h] <;> decide
  have eroom : ev G (genv ns ws vs A .unk .unk .unk .unk .unk .unk .unk .unk .unk .unk) (.sub (.tup [(.int 7), (.int 7), (.int 5), (.int 3), (.int 3)]) (.bin .sub (.b1 .len (.var 2)) (.int 1))) = some (.int (gt [7, 7, 5, 3, 3] (vs.length - 1) : Nat)) := by
    rw [se_sub, bo_tup, ev_tup (xs := dV [7, 7, 5, 3, 3]) (by simp [dV]) (line_pos (by simp [dV])), Option.bind_some, ev_bin_of (x := .int (vs.length : Nat)) (y := .int (1 : Nat)) (by rw [bo_b1, ev_len (l := vs) rfl]) (by simp) (opB_subN (by omega)), Option.bind_some, opSub_tup, dV_get (by simp; omega)]
  rw [exs_asg eroom]
  simp only [List.set_cons_succ, List.set_cons_zero]
  generalize gt [7, 7, 5, 3, 3] (vs.length - 1) = room at hroom
  generalize hps : (List.range vs.length).map (fun k => gt ws (12 + k) % room) = ps
  have hpl : ps.length = vs.length := by rw [← hps]; simp
  have hpk : ∀ k, k < vs.length → gt ps k = gt ws (12 + k) % room := fun k hk => by
    rw [← hps, gt_lt (by simpa using hk)]; simp
  have hp100 : ∀ p ∈ ps, p ≤ 100 := fun p hp => by
    rw [← hps] at hp
    obtain ⟨k, _, rfl⟩ := List.mem_map.mp hp
    have := Nat.mod_lt (gt ws (12 + k)) hroom.2
    omega
  have hcp := ev_compM (G := G) (env := genv ns ws vs A .unk (.val (.int room)) .unk .unk .unk .unk .unk .unk .unk .unk) (e := .bin .mod (.b1 .int (.sub (.var 1) (.bin .add (.int 12) (.var 5)))) (.var 6)) (t := .name 5) (k := .r1) (es := [(.b1 .len (.var 2))]) (own := [5]) (vs := [.int (vs.length : Nat)]) (List.range vs.length) (fun (k : Nat) => .int k) (fun (k : Nat) => .int ((gt ws (12 + k) % room : Nat) : Int)) (by rw [sb_cons, bo_b1, ev_len (l := vs) rfl, sb_nil]; rfl) (walk_r1m (by omega)) (line_pos (by simp; omega)) fun k hk => by
    have hk := List.mem_range.mp hk
    exact ⟨_, x_bindN, ev_mod (m := room) (ev_at (ws := ws) (i := 12 + k) rfl (ev_bin_of (x := .int (12 : Nat)) (y := .int k) (by simp) (by rw [bo_var]; rfl) opB_addN) (by omega) rfl) (fun _ => bo_b1) (by rw [bo_var]; rfl) hroom.2⟩
  have eps : (List.range vs.length).map (fun (k : Nat) => D.int ((gt ws (12 + k) % room : Nat) : Int)) = dV ps := by rw [← hps]; unfold dV; rw [List.map_map]; rfl
  rw [eps] at hcp
  rw [exs_asg (d := .tup (dV ps)) (ev_b1c hcp rfl)]
  simp only [List.set_cons_succ, List.set_cons_zero]
  generalize hrs : (List.range vs.length).map (fun k => gt ws (38 + k) % (gt ps k + 1)) = rs
  have hrl : rs.length = vs.length := by rw [← hrs]; simp
  have hrp : ∀ i, gt rs i ≤ gt ps i := fun i => by
    by_cases q : i < vs.length
    · rw [← hrs, gt_lt (by simpa using q)]
      have := Nat.mod_lt (gt ws (38 + i)) (show 0 < gt ps i + 1 by omega)
      simp; omega
    · rw [gt_ge (by omega)]; exact Nat.zero_le _
  have hcr := ev_compM (G := G) (env := genv ns ws vs A .unk (.val (.int room)) (.val (.tup (dV ps))) .unk .unk .unk .unk .unk .unk .unk) (e := .bin .mod (.b1 .int (.sub (.var 1) (.bin .add (.int 38) (.var 5)))) (.bin .add (.sub (.var 7) (.var 5)) (.int 1))) (t := .name 5) (k := .r1) (es := [(.b1 .len (.var 2))]) (own := [5]) (vs := [.int (vs.length : Nat)]) (List.range vs.length) (fun (k : Nat) => .int k) (fun (k : Nat) => .int ((gt ws (38 + k) % (gt ps k + 1) : Nat) : Int)) (by rw [sb_cons, bo_b1, ev_len (l := vs) rfl, sb_nil]; rfl) (walk_r1m (by omega)) (line_pos (by simp; omega)) fun k hk => by
    have hk := List.mem_range.mp hk
    exact ⟨_, x_bindN, ev_mod (m := gt ps k + 1) (ev_at (ws := ws) (i := 38 + k) rfl (ev_bin_of (x := .int (38 : Nat)) (y := .int k) (by simp) (by rw [bo_var]; rfl) opB_addN) (by omega) rfl) (fun _ => bo_b1) (by
      rw [bo_bin]
      exact ev_bin_of (x := .int (gt ps k : Nat)) (y := .int (1 : Nat)) (by rw [bo_sub]; exact ev_ixT rfl (by rw [se_var]; rfl) (by omega)) (by simp) opB_addN) (by omega)⟩
  have ers : (List.range vs.length).map (fun (k : Nat) => D.int ((gt ws (38 + k) % (gt ps k + 1) : Nat) : Int)) = dV rs := by rw [← hrs]; unfold dV; rw [List.map_map]; rfl
  rw [ers] at hcr
  rw [exs_asg (d := .tup (dV rs)) (ev_b1c hcr rfl)]
  simp only [List.set_cons_succ, List.set_cons_zero]
  rw [exs_skip (ts_not (c := true) (ts_call' (ev_call (ds := [.tup (dV vs), .tup (dV ps), .tup (dV rs), .lst (dV ws)]) (by simp) (h173 ps rs hpl hp100 hrl hrp))) rfl)]
  -- the greatest value and the next one
  obtain ⟨n, hvn⟩ : ∃ n, vs.length = n + 1 := ⟨vs.length - 1, by omega⟩
  generalize hc : gt vs n = c
  generalize hbl : 0 :: vs.take (vs.length - 1) = bl
  have hbll : bl.length = n + 1 := by rw [← hbl]; simp; omega
  have hB : ∀ i, i < n → gt vs i ≤ gt bl n := fun i hi => by
    rw [← hbl]
    have : gt (0 :: vs.take (vs.length - 1)) n = gt vs (n - 1) := by
      obtain ⟨k, rfl⟩ : ∃ k, n = k + 1 := ⟨n - 1, by omega⟩
      show gt (vs.take (vs.length - 1)) k = gt vs k
      rw [gt_lt (by simp; omega), gt_lt (by omega)]; simp
    rw [this]
    by_cases q : i = n - 1
    · rw [q]; exact Nat.le_refl _
    · have := List.pairwise_iff_getElem.mp hasc i (n - 1) (by omega) (by omega) (by omega)
      rw [gt_lt (by omega), gt_lt (by omega)]; omega
  have hlt : ∀ i, i < n → gt vs i < gt vs n := fun i hi => by
    have := List.pairwise_iff_getElem.mp hasc i n (by omega) (by omega) hi
    rw [gt_lt (by omega), gt_lt (by omega)]; exact this
  have hc0 : 0 < c ∧ c ≤ 60 := by rw [← hc]; exact hv _ (gt_mem (by omega))
  have hBb : gt bl n ≤ 60 := by
    rw [← hbl]
    by_cases q : n = 0
    · subst q; exact Nat.zero_le _
    · obtain ⟨k, rfl⟩ : ∃ k, n = k + 1 := ⟨n - 1, by omega⟩
      show gt (vs.take (vs.length - 1)) k ≤ 60
      have h1 : gt (vs.take (vs.length - 1)) k ∈ vs.take (vs.length - 1) := gt_mem (by simp; omega)
      exact (hv _ (List.mem_of_mem_take h1)).2
  have el9 : ∀ c5 c9 c10 c11 c12 c13 c14, ev G (genv ns ws vs A c5 (.val (.int room)) (.val (.tup (dV ps))) (.val (.tup (dV rs))) c9 c10 c11 c12 c13 c14) (.sub (.var 2) (.neg (.int 1))) = some (.int c) := fun c5 c9 c10 c11 c12 c13 c14 => by
    rw [ev_last (l := vs) rfl hn, show vs.length - 1 = n by omega, hc]
  have eb10 : ev G (genv ns ws vs A .unk (.val (.int room)) (.val (.tup (dV ps))) (.val (.tup (dV rs))) .unk .unk .unk .unk .unk .unk) (.bin .add (.tup [(.int 0)]) (.shi (.var 2) (.neg (.int 1)))) = some (.tup (dV bl)) := by
    rw [ev_bin_of (x := .tup (dV [0])) (by rw [bo_tup]; exact ev_tup (xs := [.int (0 : Nat)]) (by simp) (line_pos (by simp))) (by rw [bo_shi]; exact ev_but (l := vs) rfl hn) (opB_addTn (by simp; omega)), ← hbl]; rfl
  rw [exs_asgP (ds := [.int c, .tup (dV bl)]) (env' := genv ns ws vs A .unk (.val (.int room)) (.val (.tup (dV ps))) (.val (.tup (dV rs))) (.val (.int c)) (.val (.tup (dV bl))) .unk .unk .unk .unk) (by rw [se_cons, el9, se_cons, eb10, se_nil]; rfl) (by simp)]
  generalize hBn : gt bl n = B at *
  have hprod : (c - 1) * B ≤ 59 * 60 := Nat.mul_le_mul (by omega) hBb
  have eh : ev G (genv ns ws vs A .unk (.val (.int room)) (.val (.tup (dV ps))) (.val (.tup (dV rs))) (.val (.int c)) (.val (.tup (dV bl))) .unk .unk .unk .unk) (.b2 .max (.int 0) (.bin .add (.bin .sub (.bin .mul (.bin .sub (.var 9) (.int 1)) (.sub (.var 10) (.neg (.int 1)))) (.var 9)) (.int 1))) = some (.int (((c - 1) * B + 1 - c : Nat) : Int)) := by
    have eb : ev G (genv ns ws vs A .unk (.val (.int room)) (.val (.tup (dV ps))) (.val (.tup (dV rs))) (.val (.int c)) (.val (.tup (dV bl))) .unk .unk .unk .unk) (.sub (.var 10) (.neg (.int 1))) = some (.int B) := by
      rw [ev_last (l := bl) rfl (by omega), show bl.length - 1 = n by omega, hBn]
    have em : ev G (genv ns ws vs A .unk (.val (.int room)) (.val (.tup (dV ps))) (.val (.tup (dV rs))) (.val (.int c)) (.val (.tup (dV bl))) .unk .unk .unk .unk) (.bin .mul (.bin .sub (.var 9) (.int 1)) (.sub (.var 10) (.neg (.int 1)))) = some (.int (((c - 1) * B : Nat) : Int)) :=
      ev_bin_of (x := .int ((c - 1 : Nat) : Int)) (y := .int B) (by rw [bo_bin, ev_bin_of (x := .int c) (y := .int (1 : Nat)) (by rw [bo_var]; rfl) (by simp) (opB_subN (by omega))]) (by rw [bo_sub, eb]) (ev_pure_mul (by omega))
    have es : ev G (genv ns ws vs A .unk (.val (.int room)) (.val (.tup (dV ps))) (.val (.tup (dV rs))) (.val (.int c)) (.val (.tup (dV bl))) .unk .unk .unk .unk) (.bin .add (.bin .sub (.bin .mul (.bin .sub (.var 9) (.int 1)) (.sub (.var 10) (.neg (.int 1)))) (.var 9)) (.int 1)) = some (.int ((((c - 1) * B : Nat) : Int) - c + 1)) :=
      ev_bin_of (x := .int ((((c - 1) * B : Nat) : Int) - c)) (y := .int 1) (by
        rw [bo_bin]
        exact ev_bin_of (by rw [bo_bin]; exact em) (by rw [bo_var]; rfl) opB_sub) (by simp) opB_add
    have emax : max (0 : Int) ((((c - 1) * B : Nat) : Int) - c + 1) = (((c - 1) * B + 1 - c : Nat) : Int) := by
      generalize (c - 1) * B = z
      omega
    rw [se_b2, bo_int, se_int, Option.bind_some, es, Option.bind_some, opU2_max, emax]
  rw [exs_asg eh]
  simp only [List.set_cons_succ, List.set_cons_zero]
  have m43 := Nat.mod_lt (gt ws 43) (show 0 < 61 by omega)
  have m44 := Nat.mod_lt (gt ws 44) (show 0 < 5 by omega)
  generalize hH : (c - 1) * B + 1 - c = H at *
  have e43 : ev G (genv ns ws vs A .unk (.val (.int room)) (.val (.tup (dV ps))) (.val (.tup (dV rs))) (.val (.int c)) (.val (.tup (dV bl))) (.val (.int H)) .unk .unk .unk) (.bin .mod (.b1 .int (.sub (.var 1) (.int 43))) (.int 61)) = some (.int ((gt ws 43 % 61 : Nat) : Int)) := ev_rowmod rfl 43 61 (by omega) (by omega)
  have e44 : ev G (genv ns ws vs A .unk (.val (.int room)) (.val (.tup (dV ps))) (.val (.tup (dV rs))) (.val (.int c)) (.val (.tup (dV bl))) (.val (.int H)) .unk .unk .unk) (.bin .mod (.b1 .int (.sub (.var 1) (.int 44))) (.int 5)) = some (.int ((gt ws 44 % 5 : Nat) : Int)) := ev_rowmod rfl 44 5 (by omega) (by omega)
  generalize gt ws 43 % 61 = x43 at *
  generalize gt ws 44 % 5 = x44 at *
  rw [exs_asgP (ds := [.int ((H + x43 : Nat) : Int), .int ((1 + x44 : Nat) : Int)]) (env' := genv ns ws vs A .unk (.val (.int room)) (.val (.tup (dV ps))) (.val (.tup (dV rs))) (.val (.int c)) (.val (.tup (dV bl))) (.val (.int H)) (.val (.int ((H + x43 : Nat) : Int))) (.val (.int ((1 + x44 : Nat) : Int))) .unk) (by
    rw [se_cons, ev_bin_of (x := .int H) (y := .int x43) (by rw [bo_var]; rfl) (by rw [bo_bin, e43]) opB_addN, se_cons, ev_bin_of (x := .int (1 : Nat)) (y := .int x44) (by simp) (by rw [bo_bin, e44]) opB_addN, se_nil]; rfl) (by simp)]
  generalize hbase : H + x43 = base at *
  generalize hmore : 1 + x44 = more at *
  have ebm : ∀ c14, ev G (genv ns ws vs A .unk (.val (.int room)) (.val (.tup (dV ps))) (.val (.tup (dV rs))) (.val (.int c)) (.val (.tup (dV bl))) (.val (.int H)) (.val (.int base)) (.val (.int more)) c14) (.bin .add (.var 12) (.bin .mul (.var 13) (.var 9))) = some (.int ((base + more * c : Nat) : Int)) := fun c14 =>
    ev_bin_of (x := .int base) (y := .int ((more * c : Nat) : Int)) (by rw [bo_var]; rfl) (by rw [bo_bin]; exact ev_bin_of (x := .int more) (y := .int c) (by rw [bo_var]; rfl) (by rw [bo_var]; rfl) (ev_pure_mul (by omega))) opB_addN
  have t12 : ts G (genv ns ws vs A .unk (.val (.int room)) (.val (.tup (dV ps))) (.val (.tup (dV rs))) (.val (.int c)) (.val (.tup (dV bl))) (.val (.int H)) (.val (.int base)) (.val (.int more)) .unk) (.val (.cmp .gt (.bin .add (.var 12) (.bin .mul (.var 13) (.var 9))) (.int 2000))) = some (decide (2000 < base + more * c)) := ts_val (x := .bl (decide (2000 < base + more * c))) (by
    rw [bo_cmp, se_cmp, bo_bin, ebm, Option.bind_some, bo_int, se_int]
    show (opC .gt (.int ((base + more * c : Nat) : Int)) (.int (2000 : Nat))).map D.bl = _
    rw [opC_gt, dlt_nat]; rfl) rfl
  by_cases q2000 : 2000 < base + more * c
  · rw [decide_eq_true q2000] at t12
    rw [exs_ifR t12 (d := .bl true) (env' := genv ns ws vs A .unk (.val (.int room)) (.val (.tup (dV ps))) (.val (.tup (dV rs))) (.val (.int c)) (.val (.tup (dV bl))) (.val (.int H)) (.val (.int base)) (.val (.int more)) .unk) (by rw [exs_ret (d := .bl true) (by simp)])]
    rfl
  · rw [decide_eq_false q2000] at t12
    rw [exs_skip t12]
    have htops := best_tops (vs := vs) (s := base) (n := n) (B := B) hvn (by omega) hB hlt (by rw [hc]; omega) more
    rw [hc] at htops
    cases hnum : (numT vs base).getD base none with
    | none =>
      have hL : LeastIs vs base none := by have := (num_is hv0 base).is base (Nat.le_refl _); rw [hnum] at this; exact this
      rw [exs_asg (ev_call (ds := [.tup (dV vs), .int base]) (by simp) (h28n base (by omega) hL))]
      simp only [List.set_cons_succ, List.set_cons_zero]
      rw [exs_ifR (d := .bl true) (env' := genv ns ws vs A .unk (.val (.int room)) (.val (.tup (dV ps))) (.val (.tup (dV rs))) (.val (.int c)) (.val (.tup (dV bl))) (.val (.int H)) (.val (.int base)) (.val (.int more)) (.val .non)) (ts_val (x := .bl true) (by rw [bo_cmp, se_cmp]; simp) rfl) (by
        rw [exs_ret (d := .bl true) (by
          rw [se_cmp, bo_call, ev_call (ds := [.tup (dV vs), .int ((base + more * c : Nat) : Int)]) (by rw [se_cons, se_var, se_cons, ebm, se_nil]; rfl) (h28n _ (by omega) (htops.2 hL))]
          simp)])]
      rfl
    | some m =>
      have hL : LeastIs vs base (some m) := by have := (num_is hv0 base).is base (Nat.le_refl _); rw [hnum] at this; exact this
      obtain ⟨b, hb⟩ := h28e base m (by omega) hL
      have hbl' := hb.pays.len
      have hb2 := h28 _ _ _ (by omega) (htops.1 b m hb)
      rw [exs_asg (ev_call (ds := [.tup (dV vs), .int base]) (by simp) (h28 base m b (by omega) hb))]
      simp only [List.set_cons_succ, List.set_cons_zero]
      rw [exs_skip (ts_val (x := .bl false) (by rw [bo_cmp, se_cmp]; simp) rfl)]
      rw [exs_skip (ts_not (c := true) (ts_call' (ev_call (ds := [.tup (dV vs), .tup (dV b), .int base]) (by simp) (h52 hb.pays.len hb.pays.val))) rfl)]
      have hset : b.take (b.length - 1) ++ [gt b n + more] = b.set n (gt b n + more) := by
        rw [List.set_eq_take_append_cons_drop, if_pos (by omega), show b.length - 1 = n by omega, List.drop_of_length_le (by omega)]
      have elast : ev G (genv ns ws vs A .unk (.val (.int room)) (.val (.tup (dV ps))) (.val (.tup (dV rs))) (.val (.int c)) (.val (.tup (dV bl))) (.val (.int H)) (.val (.int base)) (.val (.int more)) (.val (.tup (dV b)))) (.bin .add (.shi (.var 14) (.neg (.int 1))) (.tup [(.bin .add (.sub (.var 14) (.neg (.int 1))) (.var 13))])) = some (.tup (dV (b.set n (gt b n + more)))) := by
        rw [← hset]
        refine ev_bin_of (by rw [bo_shi]; exact ev_but (l := b) rfl (by omega)) (by
          rw [bo_tup]
          exact ev_tup (xs := [.int ((gt b n + more : Nat) : Int)]) (by
            rw [se_cons, ev_bin_of (x := .int (gt b n : Nat)) (y := .int more) (by rw [bo_sub, ev_last (l := b) rfl (by omega), show b.length - 1 = n by omega]) (by rw [bo_var]; rfl) opB_addN, se_nil]; rfl) (line_pos (by simp))) (opB_addTn (a := b.take (b.length - 1)) (b := [gt b n + more]) (by simp; omega))
      rw [exs_ret (d := .bl true) (ev_call (ds := [.tup (dV (b.set n (gt b n + more))), .tup (dV (b.set n (gt b n + more)))]) (by
        rw [se_cons, ev_call (ds := [.tup (dV vs), .int ((base + more * c : Nat) : Int)]) (by rw [se_cons, se_var, se_cons, ebm, se_nil]; rfl) hb2, se_cons, elast, se_nil]; rfl) (h10t _ (by simp; omega)))]
      rfl
end Rx
end

section
set_option Elab.async false
set_option linter.all false
set_option maxRecDepth 100000
set_option autoImplicit false
namespace Rx
/-! ### the walk -/
open PySem PySem.Spec PyProof.Rows L2
def topS (i : Nat) : Stmt := PySem.Challenge.pw_changeforall_k80_whole_parts_of_best_pay.main.body.getD i (.Pass ⟨0, 0, 0, 0⟩)
abbrev st_least_numbers : Stmt := topS 1
abbrev N_least_numbers : List Str := ["coinage", "most", "found", "amount", "before", "value", "number"]
abbrev P_least_numbers : List Str := ["coinage", "most"]
theorem sc_least_numbers : FnScope N_least_numbers P_least_numbers (defScope st_least_numbers) := ⟨rfl, rfl, rfl, by decide +kernel, rfl, by decide +kernel, by decide +kernel⟩
abbrev st_least_number : Stmt := topS 2
abbrev N_least_number : List Str := ["coinage", "amount"]
abbrev P_least_number : List Str := ["coinage", "amount"]
theorem sc_least_number : FnScope N_least_number P_least_number (defScope st_least_number) := ⟨rfl, rfl, rfl, by decide +kernel, rfl, by decide +kernel, by decide +kernel⟩
abbrev st_best_payment : Stmt := topS 3
abbrev N_best_payment : List Str := ["coinage", "amount", "numbers", "counts", "place", "value", "rest"]
abbrev P_best_payment : List Str := ["coinage", "amount"]
theorem sc_best_payment : FnScope N_best_payment P_best_payment (defScope st_best_payment) := ⟨rfl, rfl, rfl, by decide +kernel, rfl, by decide +kernel, by decide +kernel⟩
abbrev st_greedy_payment : Stmt := topS 5
abbrev N_greedy_payment : List Str := ["coinage", "amount", "counts", "value"]
abbrev P_greedy_payment : List Str := ["coinage", "amount"]
theorem sc_greedy_payment : FnScope N_greedy_payment P_greedy_payment (defScope st_greedy_payment) := ⟨rfl, rfl, rfl, by decide +kernel, rfl, by decide +kernel, by decide +kernel⟩
abbrev st_is_better : Stmt := topS 7
abbrev N_is_better : List Str := ["payment", "other"]
abbrev P_is_better : List Str := ["payment", "other"]
theorem sc_is_better : FnScope N_is_better P_is_better (defScope st_is_better) := ⟨rfl, rfl, rfl, by decide +kernel, rfl, by decide +kernel, by decide +kernel⟩
abbrev st_payment_key : Stmt := topS 8
abbrev N_payment_key : List Str := ["payment", "count"]
abbrev P_payment_key : List Str := ["payment"]
theorem sc_payment_key : FnScope N_payment_key P_payment_key (defScope st_payment_key) := ⟨rfl, rfl, rfl, by decide +kernel, rfl, by decide +kernel, by decide +kernel⟩
abbrev st_parts_of : Stmt := topS 9
abbrev N_parts_of : List Str := ["coinage", "purse", "best", "value", "count", "grown", "amount", "taken", "payment"]
abbrev P_parts_of : List Str := ["coinage", "purse"]
theorem sc_parts_of : FnScope N_parts_of P_parts_of (defScope st_parts_of) := ⟨rfl, rfl, rfl, by decide +kernel, rfl, by decide +kernel, by decide +kernel⟩
abbrev st_pay : Stmt := topS 10
abbrev N_pay : List Str := ["coinage", "purse", "amount"]
abbrev P_pay : List Str := ["coinage", "purse", "amount"]
theorem sc_pay : FnScope N_pay P_pay (defScope st_pay) := ⟨rfl, rfl, rfl, by decide +kernel, rfl, by decide +kernel, by decide +kernel⟩
abbrev st_law_mixed : Stmt := topS 12
abbrev N_law_mixed : List Str := ["script", "k", "cell", "first", "second", "third"]
abbrev P_law_mixed : List Str := ["script", "k"]
theorem sc_law_mixed : FnScope N_law_mixed P_law_mixed (defScope st_law_mixed) := ⟨rfl, rfl, rfl, by decide +kernel, rfl, by decide +kernel, by decide +kernel⟩
abbrev st_law_row : Stmt := topS 13
abbrev N_law_row : List Str := ["script", "many", "big", "row", "k"]
abbrev P_law_row : List Str := ["script", "many"]
theorem sc_law_row : FnScope N_law_row P_law_row (defScope st_law_row) := ⟨rfl, rfl, rfl, by decide +kernel, rfl, by decide +kernel, by decide +kernel⟩
abbrev st_law_is_int : Stmt := topS 14
abbrev N_law_is_int : List Str := ["value"]
abbrev P_law_is_int : List Str := ["value"]
theorem sc_law_is_int : FnScope N_law_is_int P_law_is_int (defScope st_law_is_int) := ⟨rfl, rfl, rfl, by decide +kernel, rfl, by decide +kernel, by decide +kernel⟩
abbrev st_law_like : Stmt := topS 15
abbrev N_law_like : List Str := ["value", "due", "k"]
abbrev P_law_like : List Str := ["value", "due"]
theorem sc_law_like : FnScope N_law_like P_law_like (defScope st_law_like) := ⟨rfl, rfl, rfl, by decide +kernel, rfl, by decide +kernel, by decide +kernel⟩
abbrev st_law_coins : Stmt := topS 16
abbrev N_law_coins : List Str := ["row", "at", "most", "top", "found", "k", "value"]
abbrev P_law_coins : List Str := ["row", "at", "most", "top"]
theorem sc_law_coins : FnScope N_law_coins P_law_coins (defScope st_law_coins) := ⟨rfl, rfl, rfl, by decide +kernel, rfl, by decide +kernel, by decide +kernel⟩
abbrev st_law_paid : Stmt := topS 17
abbrev N_law_paid : List Str := ["values", "payment", "amount", "count", "k"]
abbrev P_law_paid : List Str := ["values", "payment", "amount"]
theorem sc_law_paid : FnScope N_law_paid P_law_paid (defScope st_law_paid) := ⟨rfl, rfl, rfl, by decide +kernel, rfl, by decide +kernel, by decide +kernel⟩
abbrev st_law_less : Stmt := topS 18
abbrev N_law_less : List Str := ["payment", "place"]
abbrev P_law_less : List Str := ["payment", "place"]
theorem sc_law_less : FnScope N_law_less P_law_less (defScope st_law_less) := ⟨rfl, rfl, rfl, by decide +kernel, rfl, by decide +kernel, by decide +kernel⟩
abbrev st_law_place : Stmt := topS 19
abbrev N_law_place : List Str := ["payment", "cell", "there", "k"]
abbrev P_law_place : List Str := ["payment", "cell"]
theorem sc_law_place : FnScope N_law_place P_law_place (defScope st_law_place) := ⟨rfl, rfl, rfl, by decide +kernel, rfl, by decide +kernel, by decide +kernel⟩
abbrev st_law_best_down : Stmt := topS 20
abbrev N_law_best_down : List Str := ["values", "amount", "row", "best", "turn", "place"]
abbrev P_law_best_down : List Str := ["values", "amount", "row"]
theorem sc_law_best_down : FnScope N_law_best_down P_law_best_down (defScope st_law_best_down) := ⟨rfl, rfl, rfl, by decide +kernel, rfl, by decide +kernel, by decide +kernel⟩
abbrev st_law_greedy_down : Stmt := topS 21
abbrev N_law_greedy_down : List Str := ["values", "amount", "row", "told", "turn", "place"]
abbrev P_law_greedy_down : List Str := ["values", "amount", "row"]
theorem sc_law_greedy_down : FnScope N_law_greedy_down P_law_greedy_down (defScope st_law_greedy_down) := ⟨rfl, rfl, rfl, by decide +kernel, rfl, by decide +kernel, by decide +kernel⟩
abbrev st_law_purse_down : Stmt := topS 22
abbrev N_law_purse_down : List Str := ["values", "purse", "part", "row", "amount", "told", "turn", "place", "k"]
abbrev P_law_purse_down : List Str := ["values", "purse", "part", "row"]
theorem sc_law_purse_down : FnScope N_law_purse_down P_law_purse_down (defScope st_law_purse_down) := ⟨rfl, rfl, rfl, by decide +kernel, rfl, by decide +kernel, by decide +kernel⟩
abbrev st_law : Stmt := topS 23
abbrev N_law : List Str := ["script", "row", "values", "amount", "top", "k", "room", "purse", "part", "most", "below", "high", "base", "more", "best"]
abbrev P_law : List Str := ["script"]
theorem sc_law : FnScope N_law P_law (defScope st_law) := ⟨rfl, rfl, rfl, by decide +kernel, rfl, by decide +kernel, by decide +kernel⟩
section
variable {P : Program} {w : World} {K : PySem.W.Frag} {mg : Str → Option Value} {base : Heap} {f : Addr} {cdv : Value} {A : Around} {outer : List PySem.Env} {s : Shared} {H : Hp} {E : XK} {G GI : Gm}
set_option maxHeartbeats 0 in
theorem b_least_numbers (g : GoodX (cx P w K mg base N_least_numbers "least_numbers" (defScope st_least_numbers) f cdv A outer s H E)) : PSs (cx P w K mg base N_least_numbers "least_numbers" (defScope st_least_numbers) f cdv A outer s H E) (defBody st_least_numbers) (tSs K G GI f_least_numbers.body) :=
    (s_cons (s_asgO (ks_set 2 g (kn_ad (nb (r_lst (kA r_int a_nil))) (nb (k_mul (nb (r_lst (kA r_non a_nil))) (r_varB (pv 1)))))))
    (s_cons (ks_for PassesOwn.never g (kw_r2 g (kM (xT r_int) (kM (xT (k_add (r_varB (pv 1)) (nb r_int))) m_nil))) (kg 3 g) (s_cons (s_asg (ks_frz (ks_comp 4 [("value", 5)] g (w_seq (xF (r_varW (pv 0)))) (fun _ _ _ _ _ => (kg 5 (gb g))) (fun _ _ _ _ _ => (f_one (kt_cmp (c_le (gb g) (r_varB (pv 5)) (r_varB (pv 3)))))) (fun _ _ _ _ _ => (k_ix (gb g) (r_varB (pv 2)) (nb (k_sub (r_varB (pv 3)) (r_varB (pv 5)))))))))
    (s_cons (s_asg (ks_frz (ks_comp 4 [("number", 6)] g (w_seq (xF (r_varW (pv 4)))) (fun _ _ _ _ _ => (kg 6 (gb g))) (fun _ _ _ _ _ => (f_one (kt_cmp (c_isnt (gb g) (r_varB (pv 6)) (nb r_non))))) (fun _ _ _ _ _ => (r_varD (pv 6))))))
    (s_cons (s_if (kt_val (r_varB (pv 4))) (s_cons (ks_sset g (pv 2) (r_varD (pv 3)) (k_add (nb r_int) (nb (k_min g (r_varB (pv 4))))))
    s_nil) s_nil)
    s_nil))))
    (s_frz (s_cons (s_ret (r_varD (pv 2)))
    s_nil))))
set_option maxHeartbeats 0 in
theorem b_least_number (g : GoodX (cx P w K mg base N_least_number "least_number" (defScope st_least_number) f cdv A outer s H E)) (c_26 : Cal (cx P w K mg base N_least_number "least_number" (defScope st_least_number) f cdv A outer s H E) G "least_numbers" 26 2) : PSs (cx P w K mg base N_least_number "least_number" (defScope st_least_number) f cdv A outer s H E) (defBody st_least_number) (tSs K G GI f_least_number.body) :=
    (s_cons (s_ret (k_ix g (nb (k_call c_26 (kA (r_varD (pv 0)) (kA (r_varD (pv 1)) a_nil)))) (r_varB (pv 1))))
    s_nil)
set_option maxHeartbeats 0 in
theorem b_best_payment (g : GoodX (cx P w K mg base N_best_payment "best_payment" (defScope st_best_payment) f cdv A outer s H E)) (c_26 : Cal (cx P w K mg base N_best_payment "best_payment" (defScope st_best_payment) f cdv A outer s H E) G "least_numbers" 26 2) : PSs (cx P w K mg base N_best_payment "best_payment" (defScope st_best_payment) f cdv A outer s H E) (defBody st_best_payment) (tSs K G GI f_best_payment.body) :=
    (s_cons (s_asg (ks_set 2 g (k_call c_26 (kA (r_varD (pv 0)) (kA (r_varD (pv 1)) a_nil)))))
    (s_cons (s_if (kt_cmp (c_is g (nb (k_ix g (r_varB (pv 2)) (r_varB (pv 1)))) (nb r_non))) (s_cons (s_ret r_non)
    s_nil) s_nil)
    (s_cons (s_asgO (ks_set 3 g (kn_ml (nb (r_lst (kA r_int a_nil))) (nb (k_len g (r_varB (pv 0)))))))
    (s_cons (s_asg (ks_set 4 g (k_sub (nb (k_len g (r_varB (pv 0)))) (nb r_int))))
    (s_cons (s_whl PassesOwn.never (kt_cmp (c_gt g (r_varB (pv 1)) (nb r_int))) (s_cons (s_asg (ks_set 5 g (k_ix g (r_varB (pv 0)) (r_varB (pv 4)))))
    (s_cons (s_asg (ks_set 6 g (r_ife (kt_cmp (c_le g (r_varB (pv 5)) (r_varB (pv 1)))) (k_ix g (r_varB (pv 2)) (nb (k_sub (r_varB (pv 1)) (r_varB (pv 5))))) r_non)))
    (s_cons (s_if (kpt (t_and (kt_cmp (c_isnt g (r_varB (pv 6)) (nb r_non))) (pw_and1 (kt_cmp (c_eq g (nb (k_add (r_varB (pv 6)) (nb r_int))) (nb (k_ix g (r_varB (pv 2)) (r_varB (pv 1))))))))) (s_cons (ks_saug_add g (pv 3) (r_varD (pv 4)) r_int)
    (s_cons (ks_aug_sub 1 g (r_varD (pv 5)))
    s_nil)) (s_cons (ks_aug_sub 4 g r_int)
    s_nil))
    s_nil))))
    (s_cons (s_ret (k_tuple g (r_varB (pv 3))))
    s_nil))))))
set_option maxHeartbeats 0 in
theorem b_greedy_payment (g : GoodX (cx P w K mg base N_greedy_payment "greedy_payment" (defScope st_greedy_payment) f cdv A outer s H E)) : PSs (cx P w K mg base N_greedy_payment "greedy_payment" (defScope st_greedy_payment) f cdv A outer s H E) (defBody st_greedy_payment) (tSs K G GI f_greedy_payment.body) :=
    (s_cons (s_asgO (ks_set 2 g (n_lst a_nil)))
    (s_cons (ks_for PassesOwn.never g (kw_rev g (xT (r_varD (pv 0)))) (kg 3 g) (s_cons (ks_app 2 (pv 2) (k_fdiv (r_varB (pv 1)) (r_varB (pv 3))))
    (s_cons (ks_aug_mod 1 g (r_varD (pv 3)))
    s_nil)))
    (s_cons (s_ret (r_ife (kt_cmp (c_gt g (r_varB (pv 1)) (nb r_int))) r_non (k_ofw_t_rev g (r_varB (pv 2)))))
    s_nil)))
set_option maxHeartbeats 0 in
theorem b_is_better (g : GoodX (cx P w K mg base N_is_better "is_better" (defScope st_is_better) f cdv A outer s H E)) (c_166 : Cal (cx P w K mg base N_is_better "is_better" (defScope st_is_better) f cdv A outer s H E) G "payment_key" 166 1) : PSs (cx P w K mg base N_is_better "is_better" (defScope st_is_better) f cdv A outer s H E) (defBody st_is_better) (tSs K G GI f_is_better.body) :=
    (s_cons (s_ret (r_or (k_cmp (c_is g (r_varB (pv 1)) (nb r_non))) (pe_one (k_cmp (c_lt g (nb (k_call c_166 (kA (r_varD (pv 0)) a_nil))) (nb (k_call c_166 (kA (r_varD (pv 1)) a_nil))))))))
    s_nil)
set_option maxHeartbeats 0 in
theorem b_payment_key (g : GoodX (cx P w K mg base N_payment_key "payment_key" (defScope st_payment_key) f cdv A outer s H E)) : PSs (cx P w K mg base N_payment_key "payment_key" (defScope st_payment_key) f cdv A outer s H E) (defBody st_payment_key) (tSs K G GI f_payment_key.body) :=
    (s_cons (s_ret (r_tup (kA (k_sum g (r_varB (pv 0))) (kA (k_tuple g (nb (kfz (kn_comp [("count", 1)] g (kw_rev g (xF (r_varW (pv 0)))) (fun _ _ _ _ _ => (kg 1 (gb g))) (fun _ _ _ _ _ => f_nil) (fun _ _ _ _ _ => (r_neg (r_varD (pv 1)))))))) a_nil))))
    s_nil)
set_option maxHeartbeats 0 in
theorem b_parts_of (g : GoodX (cx P w K mg base N_parts_of "parts_of" (defScope st_parts_of) f cdv A outer s H E)) (c_165 : Cal (cx P w K mg base N_parts_of "parts_of" (defScope st_parts_of) f cdv A outer s H E) G "is_better" 165 2) : PSs (cx P w K mg base N_parts_of "parts_of" (defScope st_parts_of) f cdv A outer s H E) (defBody st_parts_of) (tSs K G GI f_parts_of.body) :=
    (s_cons (s_asg (ks_set 2 g (kfz (kn_dic1 g r_int (r_tup a_nil)))))
    (s_cons (ks_for PassesOwn.never g (kw_zip2 g (kM (xT (r_varD (pv 0))) (kM (xT (r_varD (pv 1))) m_nil))) (kgt g (kgc (kg 3 g) (kgc (kg 4 g) g_nil))) (s_cons (s_asgO (ks_set 5 g n_dic0))
    (s_cons (ks_forK PassesOwn.never g (pv 2) (kg 6 g) (s_cons (ks_for PassesOwn.never g (kw_r1 g (kM (xT (k_add (r_varB (pv 4)) (nb r_int))) m_nil)) (kg 7 g) (s_cons (s_asg (ks_set 8 g (k_add (nb (k_ix g (r_varB (pv 2)) (r_varB (pv 6)))) (nb (r_tup (kA (r_varD (pv 7)) a_nil))))))
    (s_cons (s_if (kt_val (nb (k_call c_165 (kA (r_varD (pv 8)) (kA (k_get g (r_varB (pv 5)) (k_add (r_varB (pv 6)) (nb (k_mul (r_varB (pv 7)) (r_varB (pv 3)))))) a_nil))))) (s_cons (ks_sset g (pv 5) (k_add (r_varB (pv 6)) (nb (k_mul (r_varB (pv 7)) (r_varB (pv 3))))) (r_varD (pv 8)))
    s_nil) s_nil)
    s_nil)))
    s_nil))
    (s_frz (s_cons (s_asg (ks_set 2 g (r_varD (pv 5))))
    s_nil)))))
    (s_cons (s_ret (r_varD (pv 2)))
    s_nil)))
set_option maxHeartbeats 0 in
theorem b_pay (g : GoodX (cx P w K mg base N_pay "pay" (defScope st_pay) f cdv A outer s H E)) (c_167 : Cal (cx P w K mg base N_pay "pay" (defScope st_pay) f cdv A outer s H E) G "parts_of" 167 2) : PSs (cx P w K mg base N_pay "pay" (defScope st_pay) f cdv A outer s H E) (defBody st_pay) (tSs K G GI f_pay.body) :=
    (s_cons (s_ret (k_get g (nb (k_call c_167 (kA (r_varD (pv 0)) (kA (r_varD (pv 1)) a_nil)))) (r_varD (pv 2))))
    s_nil)
set_option maxHeartbeats 0 in
theorem b_law_mixed (g : GoodX (cx P w K mg base N_law_mixed "_law_mixed" (defScope st_law_mixed) f cdv A outer s H E)) : PSs (cx P w K mg base N_law_mixed "_law_mixed" (defScope st_law_mixed) f cdv A outer s H E) (defBody st_law_mixed) (tSs K G GI f_law_mixed.body) :=
    (s_cons (s_asg (ks_set 2 g r_int))
    (s_cons (s_if (kt_cmp (c_gt g (nb (k_len g (r_varB (pv 0)))) (nb r_int))) (s_cons (s_asg (ks_set 2 g (k_ix g (r_varB (pv 0)) (nb (k_mod (r_varB (pv 1)) (nb (k_len g (r_varB (pv 0)))))))))
    s_nil) s_nil)
    (s_cons (s_asg (ks_set 3 g (k_mod (nb (k_int g (nb (k_add (nb (k_add (nb (k_mul (r_varB (pv 2)) (nb r_int))) (nb (k_mul (r_varB (pv 1)) (nb r_int))))) (nb r_int))))) (nb r_int))))
    (s_cons (s_asg (ks_set 4 g (k_mod (nb (k_int g (nb (k_add (nb (k_add (nb (k_mul (r_varB (pv 3)) (r_varB (pv 3)))) (nb (k_fdiv (r_varB (pv 3)) (nb r_int))))) (nb (k_mul (r_varB (pv 1)) (nb r_int))))))) (nb r_int))))
    (s_cons (s_asg (ks_set 5 g (k_mod (nb (k_int g (nb (k_add (nb (k_add (nb (k_mul (r_varB (pv 4)) (r_varB (pv 4)))) (nb (k_fdiv (r_varB (pv 4)) (nb r_int))))) (nb r_int))))) (nb r_int))))
    (s_cons (s_ret (k_mod (nb (k_fdiv (r_varB (pv 5)) (nb r_int))) (nb r_int)))
    s_nil))))))
set_option maxHeartbeats 0 in
theorem b_law_row (g : GoodX (cx P w K mg base N_law_row "_law_row" (defScope st_law_row) f cdv A outer s H E)) (c_7 : Cal (cx P w K mg base N_law_row "_law_row" (defScope st_law_row) f cdv A outer s H E) G "_law_mixed" 7 2) : PSs (cx P w K mg base N_law_row "_law_row" (defScope st_law_row) f cdv A outer s H E) (defBody st_law_row) (tSs K G GI f_law_row.body) :=
    (s_cons (s_asg (ks_set 2 g r_int))
    (s_cons (s_if (kpt (t_and (kt_cmp (c_gt g (nb (k_len g (r_varB (pv 0)))) (nb r_int))) (pw_and1 (kt_cmp (c_ge g (nb (k_ix g (r_varB (pv 0)) (nb r_int))) (nb (k_pow (nb r_int) (nb r_int)))))))) (s_cons (s_asg (ks_set 2 g (k_ix g (r_varB (pv 0)) (nb r_int))))
    s_nil) s_nil)
    (s_cons (s_asgO (ks_set 3 g (n_lst a_nil)))
    (s_cons (ks_for PassesOwn.never g (kw_r1 g (kM (xT (r_varD (pv 1))) m_nil)) (kg 4 g) (s_cons (s_if (kt_cmp (c_gt g (r_varB (pv 2)) (nb r_int))) (s_cons (ks_app 3 (pv 3) (k_mod (nb (k_int g (r_varB (pv 2)))) (nb r_int)))
    (s_cons (s_asg (ks_set 2 g (k_fdiv (r_varB (pv 2)) (nb r_int))))
    s_nil)) (s_cons (ks_app 3 (pv 3) (k_call c_7 (kA (r_varD (pv 0)) (kA (r_varD (pv 4)) a_nil))))
    s_nil))
    s_nil))
    (s_frz (s_cons (s_ret (r_varD (pv 3)))
    s_nil))))))
set_option maxHeartbeats 0 in
theorem b_law_is_int (g : GoodX (cx P w K mg base N_law_is_int "_law_is_int" (defScope st_law_is_int) f cdv A outer s H E)) : PSs (cx P w K mg base N_law_is_int "_law_is_int" (defScope st_law_is_int) f cdv A outer s H E) (defBody st_law_is_int) (tSs K G GI f_law_is_int.body) :=
    (s_cons (s_ret (r_and (k_isInt g (r_varB (pv 0))) (pe_one (r_not (nb (k_isBool g (r_varB (pv 0))))))))
    s_nil)
set_option maxHeartbeats 0 in
theorem b_law_like (g : GoodX (cx P w K mg base N_law_like "_law_like" (defScope st_law_like) f cdv A outer s H E)) (c_9 : Cal (cx P w K mg base N_law_like "_law_like" (defScope st_law_like) f cdv A outer s H E) G "_law_is_int" 9 1) (c_10 : Cal (cx P w K mg base N_law_like "_law_like" (defScope st_law_like) f cdv A outer s H E) G "_law_like" 10 2) : PSs (cx P w K mg base N_law_like "_law_like" (defScope st_law_like) f cdv A outer s H E) (defBody st_law_like) (tSs K G GI f_law_like.body) :=
    (s_cons (s_if (kt_cmp (c_is g (r_varB (pv 1)) (nb r_non))) (s_cons (s_ret (k_cmp (c_is g (r_varB (pv 0)) (nb r_non))))
    s_nil) s_nil)
    (s_cons (s_if (kt_val (nb (k_isBool g (r_varB (pv 1))))) (s_cons (s_ret (r_and (k_isBool g (r_varB (pv 0))) (pe_one (k_cmp (c_eq g (r_varB (pv 0)) (r_varB (pv 1)))))))
    s_nil) s_nil)
    (s_cons (s_if (kt_val (nb (k_isTup g (r_varB (pv 1))))) (s_cons (s_if (kpt (t_or (t_not (kt_val (nb (k_isTup g (r_varB (pv 0)))))) (pw_or1 (kt_cmp (c_ne g (nb (k_len g (r_varB (pv 0)))) (nb (k_len g (r_varB (pv 1))))))))) (s_cons (s_ret r_bl)
    s_nil) s_nil)
    (s_cons (s_ret (k_all g (nb (kfz (kn_comp [("k", 2)] g (kw_r1 g (kM (xF (nw (k_len g (r_varB (pv 1))))) m_nil)) (fun _ _ _ _ _ => (kg 2 (gb g))) (fun _ _ _ _ _ => f_nil) (fun _ _ _ _ _ => (k_call (cb c_10) (kA (k_ix (gb g) (r_varB (pv 0)) (r_varB (pv 2))) (kA (k_ix (gb g) (r_varB (pv 1)) (r_varB (pv 2))) a_nil)))))))))
    s_nil)) s_nil)
    (s_cons (s_if (kt_val (nb (k_isStr g (r_varB (pv 1))))) (s_cons (s_ret (r_and (k_isStr g (r_varB (pv 0))) (pe_one (k_cmp (c_eq g (r_varB (pv 0)) (r_varB (pv 1)))))))
    s_nil) s_nil)
    (s_cons (s_ret (r_and (k_call c_9 (kA (r_varD (pv 0)) a_nil)) (pe_one (k_cmp (c_eq g (r_varB (pv 0)) (r_varB (pv 1)))))))
    s_nil)))))
set_option maxHeartbeats 0 in
theorem b_law_coins (g : GoodX (cx P w K mg base N_law_coins "_law_coins" (defScope st_law_coins) f cdv A outer s H E)) : PSs (cx P w K mg base N_law_coins "_law_coins" (defScope st_law_coins) f cdv A outer s H E) (defBody st_law_coins) (tSs K G GI f_law_coins.body) :=
    (s_cons (s_asgO (ks_set 4 g (n_lst a_nil)))
    (s_cons (ks_for PassesOwn.never g (kw_r1 g (kM (xT (k_add (nb r_int) (nb (k_mod (nb (k_int g (nb (k_ix g (r_varB (pv 0)) (r_varB (pv 1)))))) (r_varB (pv 2)))))) m_nil)) (kg 5 g) (s_cons (s_asg (ks_set 6 g (k_add (nb r_int) (nb (k_mod (nb (k_int g (nb (k_ix g (r_varB (pv 0)) (nb (k_add (nb (k_add (r_varB (pv 1)) (nb r_int))) (r_varB (pv 5)))))))) (r_varB (pv 3)))))))
    (s_cons (s_if (kt_cmp (c_notin g (r_varB (pv 6)) (r_varB (pv 4)))) (s_cons (ks_app 4 (pv 4) (r_varD (pv 6)))
    s_nil) s_nil)
    s_nil)))
    (s_cons (s_ret (k_tuple g (nb (k_sorted g (r_varB (pv 4))))))
    s_nil)))
set_option maxHeartbeats 0 in
theorem b_law_paid (g : GoodX (cx P w K mg base N_law_paid "_law_paid" (defScope st_law_paid) f cdv A outer s H E)) (c_9 : Cal (cx P w K mg base N_law_paid "_law_paid" (defScope st_law_paid) f cdv A outer s H E) G "_law_is_int" 9 1) : PSs (cx P w K mg base N_law_paid "_law_paid" (defScope st_law_paid) f cdv A outer s H E) (defBody st_law_paid) (tSs K G GI f_law_paid.body) :=
    (s_cons (s_if (kpt (t_or (t_not (kt_val (nb (k_isTup g (r_varB (pv 1)))))) (pw_or1 (kt_cmp (c_ne g (nb (k_len g (r_varB (pv 1)))) (nb (k_len g (r_varB (pv 0))))))))) (s_cons (s_ret r_bl)
    s_nil) s_nil)
    (s_cons (s_if (t_not (kt_val (nb (k_all g (nb (kfz (kn_comp [("count", 3)] g (w_seq (xF (r_varW (pv 1)))) (fun _ _ _ _ _ => (kg 3 (gb g))) (fun _ _ _ _ _ => f_nil) (fun _ _ _ _ _ => (r_and (k_call (cb c_9) (kA (r_varD (pv 3)) a_nil)) (pe_one (k_cmp (c_ge (gb g) (r_varB (pv 3)) (nb r_int))))))))))))) (s_cons (s_ret r_bl)
    s_nil) s_nil)
    (s_cons (s_ret (k_cmp (c_eq g (nb (k_sum g (nb (kfz (kn_comp [("k", 4)] g (kw_r1 g (kM (xF (nw (k_len g (r_varB (pv 0))))) m_nil)) (fun _ _ _ _ _ => (kg 4 (gb g))) (fun _ _ _ _ _ => f_nil) (fun _ _ _ _ _ => (k_mul (nb (k_ix (gb g) (r_varB (pv 0)) (r_varB (pv 4)))) (nb (k_ix (gb g) (r_varB (pv 1)) (r_varB (pv 4))))))))))) (r_varB (pv 2)))))
    s_nil)))
set_option maxHeartbeats 0 in
theorem b_law_less (g : GoodX (cx P w K mg base N_law_less "_law_less" (defScope st_law_less) f cdv A outer s H E)) : PSs (cx P w K mg base N_law_less "_law_less" (defScope st_law_less) f cdv A outer s H E) (defBody st_law_less) (tSs K G GI f_law_less.body) :=
    (s_cons (s_ret (k_add (nb (k_add (nb (r_shi (r_varB (pv 0)) (r_varD (pv 1)))) (nb (r_tup (kA (k_sub (nb (k_ix g (r_varB (pv 0)) (r_varB (pv 1)))) (nb r_int)) a_nil))))) (nb (r_slo (r_varB (pv 0)) (k_add (r_varB (pv 1)) (nb r_int))))))
    s_nil)
set_option maxHeartbeats 0 in
theorem b_law_place (g : GoodX (cx P w K mg base N_law_place "_law_place" (defScope st_law_place) f cdv A outer s H E)) : PSs (cx P w K mg base N_law_place "_law_place" (defScope st_law_place) f cdv A outer s H E) (defBody st_law_place) (tSs K G GI f_law_place.body) :=
    (s_cons (s_asg (ks_frz (ks_comp 2 [("k", 3)] g (kw_r1 g (kM (xF (nw (k_len g (r_varB (pv 0))))) m_nil)) (fun _ _ _ _ _ => (kg 3 (gb g))) (fun _ _ _ _ _ => (f_one (kt_cmp (c_gt (gb g) (nb (k_ix (gb g) (r_varB (pv 0)) (r_varB (pv 3)))) (nb r_int))))) (fun _ _ _ _ _ => (r_varD (pv 3))))))
    (s_cons (s_ret (k_ix g (r_varB (pv 2)) (nb (k_mod (nb (k_int g (r_varB (pv 1)))) (nb (k_len g (r_varB (pv 2))))))))
    s_nil))
set_option maxHeartbeats 0 in
theorem b_law_best_down (g : GoodX (cx P w K mg base N_law_best_down "_law_best_down" (defScope st_law_best_down) f cdv A outer s H E)) (c_10 : Cal (cx P w K mg base N_law_best_down "_law_best_down" (defScope st_law_best_down) f cdv A outer s H E) G "_law_like" 10 2) (c_27 : Cal (cx P w K mg base N_law_best_down "_law_best_down" (defScope st_law_best_down) f cdv A outer s H E) G "least_number" 27 2) (c_28 : Cal (cx P w K mg base N_law_best_down "_law_best_down" (defScope st_law_best_down) f cdv A outer s H E) G "best_payment" 28 2) (c_52 : Cal (cx P w K mg base N_law_best_down "_law_best_down" (defScope st_law_best_down) f cdv A outer s H E) G "_law_paid" 52 3) (c_169 : Cal (cx P w K mg base N_law_best_down "_law_best_down" (defScope st_law_best_down) f cdv A outer s H E) G "_law_less" 169 2) (c_170 : Cal (cx P w K mg base N_law_best_down "_law_best_down" (defScope st_law_best_down) f cdv A outer s H E) G "_law_place" 170 2) : PSs (cx P w K mg base N_law_best_down "_law_best_down" (defScope st_law_best_down) f cdv A outer s H E) (defBody st_law_best_down) (tSs K G GI f_law_best_down.body) :=
    (s_cons (s_asg (ks_set 3 g (k_call c_28 (kA (r_varD (pv 0)) (kA (r_varD (pv 1)) a_nil)))))
    (s_cons (s_if (kpt (t_or (t_not (kt_val (nb (k_call c_52 (kA (r_varD (pv 0)) (kA (r_varD (pv 3)) (kA (r_varD (pv 1)) a_nil))))))) (pw_or1 (t_not (kt_val (nb (k_call c_10 (kA (k_call c_27 (kA (r_varD (pv 0)) (kA (r_varD (pv 1)) a_nil))) (kA (k_sum g (r_varB (pv 3))) a_nil))))))))) (s_cons (s_ret r_bl)
    s_nil) s_nil)
    (s_cons (ks_for PassesOwn.never g (kw_r1 g (kM (xT r_int) m_nil)) (kg 4 g) (s_cons (s_if (kt_cmp (c_eq g (nb (k_sum g (r_varB (pv 3)))) (nb r_int))) (s_cons s_brk
    s_nil) s_nil)
    (s_cons (s_asg (ks_set 5 g (k_call c_170 (kA (r_varD (pv 3)) (kA (k_ix g (r_varB (pv 2)) (nb (k_add (nb r_int) (r_varB (pv 4))))) a_nil)))))
    (s_cons (ks_par2 g (kp_val (k_call c_169 (kA (r_varD (pv 3)) (kA (r_varD (pv 5)) a_nil))) (kp_val (k_sub (r_varB (pv 1)) (nb (k_ix g (r_varB (pv 0)) (r_varB (pv 5))))) p_nil)))
    (s_cons (s_if (t_not (kt_val (nb (k_call c_10 (kA (k_call c_28 (kA (r_varD (pv 0)) (kA (r_varD (pv 1)) a_nil))) (kA (r_varD (pv 3)) a_nil)))))) (s_cons (s_ret r_bl)
    s_nil) s_nil)
    s_nil)))))
    (s_cons (s_ret (k_call c_10 (kA (k_call c_27 (kA (r_varD (pv 0)) (kA (r_varD (pv 1)) a_nil))) (kA (k_sum g (r_varB (pv 3))) a_nil))))
    s_nil))))
set_option maxHeartbeats 0 in
theorem b_law_greedy_down (g : GoodX (cx P w K mg base N_law_greedy_down "_law_greedy_down" (defScope st_law_greedy_down) f cdv A outer s H E)) (c_10 : Cal (cx P w K mg base N_law_greedy_down "_law_greedy_down" (defScope st_law_greedy_down) f cdv A outer s H E) G "_law_like" 10 2) (c_49 : Cal (cx P w K mg base N_law_greedy_down "_law_greedy_down" (defScope st_law_greedy_down) f cdv A outer s H E) G "greedy_payment" 49 2) (c_52 : Cal (cx P w K mg base N_law_greedy_down "_law_greedy_down" (defScope st_law_greedy_down) f cdv A outer s H E) G "_law_paid" 52 3) (c_169 : Cal (cx P w K mg base N_law_greedy_down "_law_greedy_down" (defScope st_law_greedy_down) f cdv A outer s H E) G "_law_less" 169 2) (c_170 : Cal (cx P w K mg base N_law_greedy_down "_law_greedy_down" (defScope st_law_greedy_down) f cdv A outer s H E) G "_law_place" 170 2) : PSs (cx P w K mg base N_law_greedy_down "_law_greedy_down" (defScope st_law_greedy_down) f cdv A outer s H E) (defBody st_law_greedy_down) (tSs K G GI f_law_greedy_down.body) :=
    (s_cons (s_asg (ks_set 3 g (k_call c_49 (kA (r_varD (pv 0)) (kA (r_varD (pv 1)) a_nil)))))
    (s_cons (s_if (kt_cmp (c_is g (r_varB (pv 3)) (nb r_non))) (s_cons (s_ret (k_cmp (c_gt g (nb (k_ix g (r_varB (pv 0)) (nb r_int))) (nb r_int))))
    s_nil) s_nil)
    (s_cons (s_if (t_not (kt_val (nb (k_call c_52 (kA (r_varD (pv 0)) (kA (r_varD (pv 3)) (kA (r_varD (pv 1)) a_nil))))))) (s_cons (s_ret r_bl)
    s_nil) s_nil)
    (s_cons (ks_for PassesOwn.never g (kw_r1 g (kM (xT r_int) m_nil)) (kg 4 g) (s_cons (s_if (kt_cmp (c_eq g (nb (k_sum g (r_varB (pv 3)))) (nb r_int))) (s_cons s_brk
    s_nil) s_nil)
    (s_cons (s_asg (ks_set 5 g (k_call c_170 (kA (r_varD (pv 3)) (kA (k_ix g (r_varB (pv 2)) (nb (k_add (nb r_int) (r_varB (pv 4))))) a_nil)))))
    (s_cons (ks_par2 g (kp_val (k_call c_169 (kA (r_varD (pv 3)) (kA (r_varD (pv 5)) a_nil))) (kp_val (k_sub (r_varB (pv 1)) (nb (k_ix g (r_varB (pv 0)) (r_varB (pv 5))))) p_nil)))
    (s_cons (s_if (t_not (kt_val (nb (k_call c_10 (kA (k_call c_49 (kA (r_varD (pv 0)) (kA (r_varD (pv 1)) a_nil))) (kA (r_varD (pv 3)) a_nil)))))) (s_cons (s_ret r_bl)
    s_nil) s_nil)
    s_nil)))))
    (s_cons (s_ret r_bl)
    s_nil)))))
set_option maxHeartbeats 0 in
theorem b_law_purse_down (g : GoodX (cx P w K mg base N_law_purse_down "_law_purse_down" (defScope st_law_purse_down) f cdv A outer s H E)) (c_10 : Cal (cx P w K mg base N_law_purse_down "_law_purse_down" (defScope st_law_purse_down) f cdv A outer s H E) G "_law_like" 10 2) (c_52 : Cal (cx P w K mg base N_law_purse_down "_law_purse_down" (defScope st_law_purse_down) f cdv A outer s H E) G "_law_paid" 52 3) (c_168 : Cal (cx P w K mg base N_law_purse_down "_law_purse_down" (defScope st_law_purse_down) f cdv A outer s H E) G "pay" 168 3) (c_169 : Cal (cx P w K mg base N_law_purse_down "_law_purse_down" (defScope st_law_purse_down) f cdv A outer s H E) G "_law_less" 169 2) (c_170 : Cal (cx P w K mg base N_law_purse_down "_law_purse_down" (defScope st_law_purse_down) f cdv A outer s H E) G "_law_place" 170 2) : PSs (cx P w K mg base N_law_purse_down "_law_purse_down" (defScope st_law_purse_down) f cdv A outer s H E) (defBody st_law_purse_down) (tSs K G GI f_law_purse_down.body) :=
    (s_cons (s_asg (ks_set 4 g (k_sum g (nb (kfz (kn_comp [("k", 8)] g (kw_r1 g (kM (xF (nw (k_len g (r_varB (pv 0))))) m_nil)) (fun _ _ _ _ _ => (kg 8 (gb g))) (fun _ _ _ _ _ => f_nil) (fun _ _ _ _ _ => (k_mul (nb (k_ix (gb g) (r_varB (pv 0)) (r_varB (pv 8)))) (nb (k_ix (gb g) (r_varB (pv 2)) (r_varB (pv 8))))))))))))
    (s_cons (s_asg (ks_set 5 g (k_call c_168 (kA (r_varD (pv 0)) (kA (r_varD (pv 1)) (kA (r_varD (pv 4)) a_nil))))))
    (s_cons (s_if (kpt (t_or (t_not (kt_val (nb (k_call c_52 (kA (r_varD (pv 0)) (kA (r_varD (pv 5)) (kA (r_varD (pv 4)) a_nil))))))) (pw_or1 (t_not (kt_val (nb (k_all g (nb (kfz (kn_comp [("k", 8)] g (kw_r1 g (kM (xF (nw (k_len g (r_varB (pv 0))))) m_nil)) (fun _ _ _ _ _ => (kg 8 (gb g))) (fun _ _ _ _ _ => f_nil) (fun _ _ _ _ _ => (k_cmp (c_le (gb g) (nb (k_ix (gb g) (r_varB (pv 5)) (r_varB (pv 8)))) (nb (k_ix (gb g) (r_varB (pv 1)) (r_varB (pv 8))))))))))))))))) (s_cons (s_ret r_bl)
    s_nil) s_nil)
    (s_cons (s_if (kt_cmp (c_gt g (nb (k_sum g (r_varB (pv 5)))) (nb (k_sum g (r_varB (pv 2)))))) (s_cons (s_ret r_bl)
    s_nil) s_nil)
    (s_cons (ks_for PassesOwn.never g (kw_r1 g (kM (xT r_int) m_nil)) (kg 6 g) (s_cons (s_if (kt_cmp (c_eq g (nb (k_sum g (r_varB (pv 5)))) (nb r_int))) (s_cons s_brk
    s_nil) s_nil)
    (s_cons (s_asg (ks_set 7 g (k_call c_170 (kA (r_varD (pv 5)) (kA (k_ix g (r_varB (pv 3)) (nb (k_add (nb r_int) (r_varB (pv 6))))) a_nil)))))
    (s_cons (ks_parN g (kp_val (k_call c_169 (kA (r_varD (pv 5)) (kA (r_varD (pv 7)) a_nil))) (kp_val (k_call c_169 (kA (r_varD (pv 1)) (kA (r_varD (pv 7)) a_nil))) (kp_val (k_sub (r_varB (pv 4)) (nb (k_ix g (r_varB (pv 0)) (r_varB (pv 7))))) p_nil))) (pgs_cons (kgn 5 g) (pgs_cons (kgn 1 g) (pgs_cons (kgn 4 g) pgs_nil))))
    (s_cons (s_if (t_not (kt_val (nb (k_call c_10 (kA (k_call c_168 (kA (r_varD (pv 0)) (kA (r_varD (pv 1)) (kA (r_varD (pv 4)) a_nil)))) (kA (r_varD (pv 5)) a_nil)))))) (s_cons (s_ret r_bl)
    s_nil) s_nil)
    s_nil)))))
    (s_cons (s_ret r_bl)
    s_nil))))))
set_option maxHeartbeats 0 in
theorem b_law (g : GoodX (cx P w K mg base N_law "law" (defScope st_law) f cdv A outer s H E)) (c_8 : Cal (cx P w K mg base N_law "law" (defScope st_law) f cdv A outer s H E) G "_law_row" 8 2) (c_10 : Cal (cx P w K mg base N_law "law" (defScope st_law) f cdv A outer s H E) G "_law_like" 10 2) (c_28 : Cal (cx P w K mg base N_law "law" (defScope st_law) f cdv A outer s H E) G "best_payment" 28 2) (c_52 : Cal (cx P w K mg base N_law "law" (defScope st_law) f cdv A outer s H E) G "_law_paid" 52 3) (c_159 : Cal (cx P w K mg base N_law "law" (defScope st_law) f cdv A outer s H E) G "_law_coins" 159 4) (c_171 : Cal (cx P w K mg base N_law "law" (defScope st_law) f cdv A outer s H E) G "_law_best_down" 171 3) (c_172 : Cal (cx P w K mg base N_law "law" (defScope st_law) f cdv A outer s H E) G "_law_greedy_down" 172 3) (c_173 : Cal (cx P w K mg base N_law "law" (defScope st_law) f cdv A outer s H E) G "_law_purse_down" 173 4) : PSs (cx P w K mg base N_law "law" (defScope st_law) f cdv A outer s H E) (defBody st_law) (tSs K G GI f_law.body) :=
    (s_cons (s_asg (ks_set 1 g (k_call c_8 (kA (r_varD (pv 0)) (kA r_int a_nil)))))
    (s_cons (s_asg (ks_set 2 g (k_call c_159 (kA (r_varD (pv 1)) (kA r_int (kA r_int (kA (k_ix g (nb (r_tup (kA r_int (kA r_int (kA r_int a_nil))))) (nb (k_mod (nb (k_int g (nb (k_ix g (r_varB (pv 1)) (nb r_int))))) (nb r_int)))) a_nil)))))))
    (s_cons (ks_parN g (kp_val r_int (kp_val r_int p_nil)) (pgs_cons (kgn 3 g) (pgs_cons (kgn 4 g) pgs_nil)))
    (s_cons (ks_for PassesOwn.never g (kw_r1 g (kM (xT (k_len g (r_varB (pv 2)))) m_nil)) (kg 5 g) (s_cons (s_asg (ks_set 3 g (k_add (r_varB (pv 3)) (nb (k_mul (nb (k_ix g (r_varB (pv 2)) (r_varB (pv 5)))) (nb (k_mod (nb (k_int g (nb (k_ix g (r_varB (pv 1)) (nb (k_add (nb r_int) (r_varB (pv 5)))))))) (nb r_int))))))))
    s_nil))
    (s_cons (s_if (kpt (t_and (kt_cmp (c_le g (r_varB (pv 3)) (r_varB (pv 4)))) (pw_and1 (kpt (t_or (t_not (kt_val (nb (k_call c_171 (kA (r_varD (pv 2)) (kA (r_varD (pv 3)) (kA (r_varD (pv 1)) a_nil))))))) (pw_or1 (t_not (kt_val (nb (k_call c_172 (kA (r_varD (pv 2)) (kA (r_varD (pv 3)) (kA (r_varD (pv 1)) a_nil))))))))))))) (s_cons (s_ret r_bl)
    s_nil) s_nil)
    (s_cons (s_asg (ks_set 6 g (k_ix g (nb (r_tup (kA r_int (kA r_int (kA r_int (kA r_int (kA r_int a_nil))))))) (nb (k_sub (nb (k_len g (r_varB (pv 2)))) (nb r_int))))))
    (s_cons (s_asg (ks_set 7 g (k_tuple g (nb (kfz (kn_comp [("k", 5)] g (kw_r1 g (kM (xF (nw (k_len g (r_varB (pv 2))))) m_nil)) (fun _ _ _ _ _ => (kg 5 (gb g))) (fun _ _ _ _ _ => f_nil) (fun _ _ _ _ _ => (k_mod (nb (k_int (gb g) (nb (k_ix (gb g) (r_varB (pv 1)) (nb (k_add (nb r_int) (r_varB (pv 5)))))))) (r_varB (pv 6))))))))))
    (s_cons (s_asg (ks_set 8 g (k_tuple g (nb (kfz (kn_comp [("k", 5)] g (kw_r1 g (kM (xF (nw (k_len g (r_varB (pv 2))))) m_nil)) (fun _ _ _ _ _ => (kg 5 (gb g))) (fun _ _ _ _ _ => f_nil) (fun _ _ _ _ _ => (k_mod (nb (k_int (gb g) (nb (k_ix (gb g) (r_varB (pv 1)) (nb (k_add (nb r_int) (r_varB (pv 5)))))))) (nb (k_add (nb (k_ix (gb g) (r_varB (pv 7)) (r_varB (pv 5)))) (nb r_int)))))))))))
    (s_cons (s_if (t_not (kt_val (nb (k_call c_173 (kA (r_varD (pv 2)) (kA (r_varD (pv 7)) (kA (r_varD (pv 8)) (kA (r_varD (pv 1)) a_nil)))))))) (s_cons (s_ret r_bl)
    s_nil) s_nil)
    (s_cons (ks_par2 g (kp_val (k_ix g (r_varB (pv 2)) (nb (r_neg r_int))) (kp_val (k_add (nb (r_tup (kA r_int a_nil))) (nb (r_shi (r_varB (pv 2)) (r_neg r_int)))) p_nil)))
    (s_cons (s_asg (ks_set 11 g (k_max2 g (nb r_int) (nb (k_add (nb (k_sub (nb (k_mul (nb (k_sub (r_varB (pv 9)) (nb r_int))) (nb (k_ix g (r_varB (pv 10)) (nb (r_neg r_int)))))) (r_varB (pv 9)))) (nb r_int))))))
    (s_cons (ks_par2 g (kp_val (k_add (r_varB (pv 11)) (nb (k_mod (nb (k_int g (nb (k_ix g (r_varB (pv 1)) (nb r_int))))) (nb r_int)))) (kp_val (k_add (nb r_int) (nb (k_mod (nb (k_int g (nb (k_ix g (r_varB (pv 1)) (nb r_int))))) (nb r_int)))) p_nil)))
    (s_cons (s_if (kt_cmp (c_gt g (nb (k_add (r_varB (pv 12)) (nb (k_mul (r_varB (pv 13)) (r_varB (pv 9)))))) (nb r_int))) (s_cons (s_ret r_bl)
    s_nil) s_nil)
    (s_cons (s_asg (ks_set 14 g (k_call c_28 (kA (r_varD (pv 2)) (kA (r_varD (pv 12)) a_nil)))))
    (s_cons (s_if (kt_cmp (c_is g (r_varB (pv 14)) (nb r_non))) (s_cons (s_ret (k_cmp (c_is g (nb (k_call c_28 (kA (r_varD (pv 2)) (kA (k_add (r_varB (pv 12)) (nb (k_mul (r_varB (pv 13)) (r_varB (pv 9))))) a_nil)))) (nb r_non))))
    s_nil) s_nil)
    (s_cons (s_if (t_not (kt_val (nb (k_call c_52 (kA (r_varD (pv 2)) (kA (r_varD (pv 14)) (kA (r_varD (pv 12)) a_nil))))))) (s_cons (s_ret r_bl)
    s_nil) s_nil)
    (s_cons (s_ret (k_call c_10 (kA (k_call c_28 (kA (r_varD (pv 2)) (kA (k_add (r_varB (pv 12)) (nb (k_mul (r_varB (pv 13)) (r_varB (pv 9))))) a_nil))) (kA (k_add (nb (r_shi (r_varB (pv 14)) (r_neg r_int))) (nb (r_tup (kA (k_add (nb (k_ix g (r_varB (pv 14)) (nb (r_neg r_int)))) (r_varB (pv 13))) a_nil)))) a_nil))))
    s_nil)))))))))))))))))
end
section
variable {P : Program} {w : World} {K : PySem.W.Frag} {mg : Str → Option Value} {base : Heap}
structure Has (K : PySem.W.Frag) (mg : Str → Option Value) : Prop where
  h_least_numbers : HasFn K mg "least_numbers" st_least_numbers P_least_numbers
  h_least_number : HasFn K mg "least_number" st_least_number P_least_number
  h_best_payment : HasFn K mg "best_payment" st_best_payment P_best_payment
  h_greedy_payment : HasFn K mg "greedy_payment" st_greedy_payment P_greedy_payment
  h_is_better : HasFn K mg "is_better" st_is_better P_is_better
  h_payment_key : HasFn K mg "payment_key" st_payment_key P_payment_key
  h_parts_of : HasFn K mg "parts_of" st_parts_of P_parts_of
  h_pay : HasFn K mg "pay" st_pay P_pay
  h_law_mixed : HasFn K mg "_law_mixed" st_law_mixed P_law_mixed
  h_law_row : HasFn K mg "_law_row" st_law_row P_law_row
  h_law_is_int : HasFn K mg "_law_is_int" st_law_is_int P_law_is_int
  h_law_like : HasFn K mg "_law_like" st_law_like P_law_like
  h_law_coins : HasFn K mg "_law_coins" st_law_coins P_law_coins
  h_law_paid : HasFn K mg "_law_paid" st_law_paid P_law_paid
  h_law_less : HasFn K mg "_law_less" st_law_less P_law_less
  h_law_place : HasFn K mg "_law_place" st_law_place P_law_place
  h_law_best_down : HasFn K mg "_law_best_down" st_law_best_down P_law_best_down
  h_law_greedy_down : HasFn K mg "_law_greedy_down" st_law_greedy_down P_law_greedy_down
  h_law_purse_down : HasFn K mg "_law_purse_down" st_law_purse_down P_law_purse_down
  h_law : HasFn K mg "law" st_law P_law
  bl : ∀ b ∈ blts, mg b = none
structure All (P : Program) (w : World) (K : PySem.W.Frag) (mg : Str → Option Value) (base : Heap) (k : Nat) : Prop where
  a_least_numbers : FnGood P w K mg base k "least_numbers" P_least_numbers (spD K 2 (run defs k 26))
  a_least_number : FnGood P w K mg base k "least_number" P_least_number (spD K 2 (run defs k 27))
  a_best_payment : FnGood P w K mg base k "best_payment" P_best_payment (spD K 2 (run defs k 28))
  a_greedy_payment : FnGood P w K mg base k "greedy_payment" P_greedy_payment (spD K 2 (run defs k 49))
  a_is_better : FnGood P w K mg base k "is_better" P_is_better (spD K 2 (run defs k 165))
  a_payment_key : FnGood P w K mg base k "payment_key" P_payment_key (spD K 1 (run defs k 166))
  a_parts_of : FnGood P w K mg base k "parts_of" P_parts_of (spD K 2 (run defs k 167))
  a_pay : FnGood P w K mg base k "pay" P_pay (spD K 3 (run defs k 168))
  a_law_mixed : FnGood P w K mg base k "_law_mixed" P_law_mixed (spD K 2 (run defs k 7))
  a_law_row : FnGood P w K mg base k "_law_row" P_law_row (spD K 2 (run defs k 8))
  a_law_is_int : FnGood P w K mg base k "_law_is_int" P_law_is_int (spD K 1 (run defs k 9))
  a_law_like : FnGood P w K mg base k "_law_like" P_law_like (spD K 2 (run defs k 10))
  a_law_coins : FnGood P w K mg base k "_law_coins" P_law_coins (spD K 4 (run defs k 159))
  a_law_paid : FnGood P w K mg base k "_law_paid" P_law_paid (spD K 3 (run defs k 52))
  a_law_less : FnGood P w K mg base k "_law_less" P_law_less (spD K 2 (run defs k 169))
  a_law_place : FnGood P w K mg base k "_law_place" P_law_place (spD K 2 (run defs k 170))
  a_law_best_down : FnGood P w K mg base k "_law_best_down" P_law_best_down (spD K 3 (run defs k 171))
  a_law_greedy_down : FnGood P w K mg base k "_law_greedy_down" P_law_greedy_down (spD K 3 (run defs k 172))
  a_law_purse_down : FnGood P w K mg base k "_law_purse_down" P_law_purse_down (spD K 4 (run defs k 173))
  a_law : FnGood P w K mg base k "law" P_law (spD K 1 (run defs k 174))
theorem all_zero (h : Has K mg) : All P w K mg base 0 := ⟨fn_zero h.h_least_numbers rfl, fn_zero h.h_least_number rfl, fn_zero h.h_best_payment rfl, fn_zero h.h_greedy_payment rfl, fn_zero h.h_is_better rfl, fn_zero h.h_payment_key rfl, fn_zero h.h_parts_of rfl, fn_zero h.h_pay rfl, fn_zero h.h_law_mixed rfl, fn_zero h.h_law_row rfl, fn_zero h.h_law_is_int rfl, fn_zero h.h_law_like rfl, fn_zero h.h_law_coins rfl, fn_zero h.h_law_paid rfl, fn_zero h.h_law_less rfl, fn_zero h.h_law_place rfl, fn_zero h.h_law_best_down rfl, fn_zero h.h_law_greedy_down rfl, fn_zero h.h_law_purse_down rfl, fn_zero h.h_law rfl⟩
theorem all_step {k : Nat} (h : Has K mg) (T : All P w K mg base k) : All P w K mg base (k + 1) where
  a_least_numbers := fn_step (fn := f_least_numbers) (id := 26) h.h_least_numbers sc_least_numbers rfl rfl rfl rfl (by decide) fun f cdv A outer s H E hr => b_least_numbers (good_of hr sc_least_numbers.nd h.bl)
  a_least_number := fn_step (fn := f_least_number) (id := 27) h.h_least_number sc_least_number rfl rfl rfl rfl (by decide) fun f cdv A outer s H E hr => b_least_number (good_of hr sc_least_number.nd h.bl) (cal_of (fn := f_least_numbers) T.a_least_numbers hr rfl rfl)
  a_best_payment := fn_step (fn := f_best_payment) (id := 28) h.h_best_payment sc_best_payment rfl rfl rfl rfl (by decide) fun f cdv A outer s H E hr => b_best_payment (good_of hr sc_best_payment.nd h.bl) (cal_of (fn := f_least_numbers) T.a_least_numbers hr rfl rfl)
  a_greedy_payment := fn_step (fn := f_greedy_payment) (id := 49) h.h_greedy_payment sc_greedy_payment rfl rfl rfl rfl (by decide) fun f cdv A outer s H E hr => b_greedy_payment (good_of hr sc_greedy_payment.nd h.bl)
  a_is_better := fn_step (fn := f_is_better) (id := 165) h.h_is_better sc_is_better rfl rfl rfl rfl (by decide) fun f cdv A outer s H E hr => b_is_better (good_of hr sc_is_better.nd h.bl) (cal_of (fn := f_payment_key) T.a_payment_key hr rfl rfl)
  a_payment_key := fn_step (fn := f_payment_key) (id := 166) h.h_payment_key sc_payment_key rfl rfl rfl rfl (by decide) fun f cdv A outer s H E hr => b_payment_key (good_of hr sc_payment_key.nd h.bl)
  a_parts_of := fn_step (fn := f_parts_of) (id := 167) h.h_parts_of sc_parts_of rfl rfl rfl rfl (by decide) fun f cdv A outer s H E hr => b_parts_of (good_of hr sc_parts_of.nd h.bl) (cal_of (fn := f_is_better) T.a_is_better hr rfl rfl)
  a_pay := fn_step (fn := f_pay) (id := 168) h.h_pay sc_pay rfl rfl rfl rfl (by decide) fun f cdv A outer s H E hr => b_pay (good_of hr sc_pay.nd h.bl) (cal_of (fn := f_parts_of) T.a_parts_of hr rfl rfl)
  a_law_mixed := fn_step (fn := f_law_mixed) (id := 7) h.h_law_mixed sc_law_mixed rfl rfl rfl rfl (by decide) fun f cdv A outer s H E hr => b_law_mixed (good_of hr sc_law_mixed.nd h.bl)
  a_law_row := fn_step (fn := f_law_row) (id := 8) h.h_law_row sc_law_row rfl rfl rfl rfl (by decide) fun f cdv A outer s H E hr => b_law_row (good_of hr sc_law_row.nd h.bl) (cal_of (fn := f_law_mixed) T.a_law_mixed hr rfl rfl)
  a_law_is_int := fn_step (fn := f_law_is_int) (id := 9) h.h_law_is_int sc_law_is_int rfl rfl rfl rfl (by decide) fun f cdv A outer s H E hr => b_law_is_int (good_of hr sc_law_is_int.nd h.bl)
  a_law_like := fn_step (fn := f_law_like) (id := 10) h.h_law_like sc_law_like rfl rfl rfl rfl (by decide) fun f cdv A outer s H E hr => b_law_like (good_of hr sc_law_like.nd h.bl) (cal_of (fn := f_law_is_int) T.a_law_is_int hr rfl rfl) (cal_of (fn := f_law_like) T.a_law_like hr rfl rfl)
  a_law_coins := fn_step (fn := f_law_coins) (id := 159) h.h_law_coins sc_law_coins rfl rfl rfl rfl (by decide) fun f cdv A outer s H E hr => b_law_coins (good_of hr sc_law_coins.nd h.bl)
  a_law_paid := fn_step (fn := f_law_paid) (id := 52) h.h_law_paid sc_law_paid rfl rfl rfl rfl (by decide) fun f cdv A outer s H E hr => b_law_paid (good_of hr sc_law_paid.nd h.bl) (cal_of (fn := f_law_is_int) T.a_law_is_int hr rfl rfl)
  a_law_less := fn_step (fn := f_law_less) (id := 169) h.h_law_less sc_law_less rfl rfl rfl rfl (by decide) fun f cdv A outer s H E hr => b_law_less (good_of hr sc_law_less.nd h.bl)
  a_law_place := fn_step (fn := f_law_place) (id := 170) h.h_law_place sc_law_place rfl rfl rfl rfl (by decide) fun f cdv A outer s H E hr => b_law_place (good_of hr sc_law_place.nd h.bl)
  a_law_best_down := fn_step (fn := f_law_best_down) (id := 171) h.h_law_best_down sc_law_best_down rfl rfl rfl rfl (by decide) fun f cdv A outer s H E hr => b_law_best_down (good_of hr sc_law_best_down.nd h.bl) (cal_of (fn := f_law_like) T.a_law_like hr rfl rfl) (cal_of (fn := f_least_number) T.a_least_number hr rfl rfl) (cal_of (fn := f_best_payment) T.a_best_payment hr rfl rfl) (cal_of (fn := f_law_paid) T.a_law_paid hr rfl rfl) (cal_of (fn := f_law_less) T.a_law_less hr rfl rfl) (cal_of (fn := f_law_place) T.a_law_place hr rfl rfl)
  a_law_greedy_down := fn_step (fn := f_law_greedy_down) (id := 172) h.h_law_greedy_down sc_law_greedy_down rfl rfl rfl rfl (by decide) fun f cdv A outer s H E hr => b_law_greedy_down (good_of hr sc_law_greedy_down.nd h.bl) (cal_of (fn := f_law_like) T.a_law_like hr rfl rfl) (cal_of (fn := f_greedy_payment) T.a_greedy_payment hr rfl rfl) (cal_of (fn := f_law_paid) T.a_law_paid hr rfl rfl) (cal_of (fn := f_law_less) T.a_law_less hr rfl rfl) (cal_of (fn := f_law_place) T.a_law_place hr rfl rfl)
  a_law_purse_down := fn_step (fn := f_law_purse_down) (id := 173) h.h_law_purse_down sc_law_purse_down rfl rfl rfl rfl (by decide) fun f cdv A outer s H E hr => b_law_purse_down (good_of hr sc_law_purse_down.nd h.bl) (cal_of (fn := f_law_like) T.a_law_like hr rfl rfl) (cal_of (fn := f_law_paid) T.a_law_paid hr rfl rfl) (cal_of (fn := f_pay) T.a_pay hr rfl rfl) (cal_of (fn := f_law_less) T.a_law_less hr rfl rfl) (cal_of (fn := f_law_place) T.a_law_place hr rfl rfl)
  a_law := fn_step (fn := f_law) (id := 174) h.h_law sc_law rfl rfl rfl rfl (by decide) fun f cdv A outer s H E hr => b_law (good_of hr sc_law.nd h.bl) (cal_of (fn := f_law_row) T.a_law_row hr rfl rfl) (cal_of (fn := f_law_like) T.a_law_like hr rfl rfl) (cal_of (fn := f_best_payment) T.a_best_payment hr rfl rfl) (cal_of (fn := f_law_paid) T.a_law_paid hr rfl rfl) (cal_of (fn := f_law_coins) T.a_law_coins hr rfl rfl) (cal_of (fn := f_law_best_down) T.a_law_best_down hr rfl rfl) (cal_of (fn := f_law_greedy_down) T.a_law_greedy_down hr rfl rfl) (cal_of (fn := f_law_purse_down) T.a_law_purse_down hr rfl rfl)
theorem all_k (h : Has K mg) : ∀ k, All P w K mg base k
  | 0 => all_zero h
  | k + 1 => all_step h (all_k h k)
theorem ok_law {fa : Addr} {fd : FuncData} (h : Has K mg) (F : FunD K "law" "law" (defArgs st_law) (defBody st_law) (defScope st_law) [] [] fa fd) (k : Nat) : FnOk P w K mg base CX0 (k + 1) fa fd P_law (spD K 1 (run defs (k + 1) 174)) :=
  fn_ok (fn := f_law) (id := 174) F sc_law rfl rfl rfl rfl (by decide) fun f cdv A outer s H E hr => b_law (good_of hr sc_law.nd h.bl) (cal_of (fn := f_law_row) (all_k h k).a_law_row hr rfl rfl) (cal_of (fn := f_law_like) (all_k h k).a_law_like hr rfl rfl) (cal_of (fn := f_best_payment) (all_k h k).a_best_payment hr rfl rfl) (cal_of (fn := f_law_paid) (all_k h k).a_law_paid hr rfl rfl) (cal_of (fn := f_law_coins) (all_k h k).a_law_coins hr rfl rfl) (cal_of (fn := f_law_best_down) (all_k h k).a_law_best_down hr rfl rfl) (cal_of (fn := f_law_greedy_down) (all_k h k).a_law_greedy_down hr rfl rfl) (cal_of (fn := f_law_purse_down) (all_k h k).a_law_purse_down hr rfl rfl)
end
end Rx
end

section
set_option Elab.async false
set_option linter.all false
set_option maxRecDepth 100000
set_option autoImplicit false
namespace Rx
/-! ### the head -/
section
open PySem PySem.Spec PyProof.Rows L2
def dd_least_numbers : He.DefD := ⟨("least_numbers", none), "least_numbers", "least_numbers", defArgs st_least_numbers, defBody st_least_numbers, defScope st_least_numbers, [], []⟩
def dd_least_number : He.DefD := ⟨("least_number", none), "least_number", "least_number", defArgs st_least_number, defBody st_least_number, defScope st_least_number, [], []⟩
def dd_best_payment : He.DefD := ⟨("best_payment", none), "best_payment", "best_payment", defArgs st_best_payment, defBody st_best_payment, defScope st_best_payment, [], []⟩
def dd_greedy_payment : He.DefD := ⟨("greedy_payment", none), "greedy_payment", "greedy_payment", defArgs st_greedy_payment, defBody st_greedy_payment, defScope st_greedy_payment, [], []⟩
def dd_is_better : He.DefD := ⟨("is_better", none), "is_better", "is_better", defArgs st_is_better, defBody st_is_better, defScope st_is_better, [], []⟩
def dd_payment_key : He.DefD := ⟨("payment_key", none), "payment_key", "payment_key", defArgs st_payment_key, defBody st_payment_key, defScope st_payment_key, [], []⟩
def dd_parts_of : He.DefD := ⟨("parts_of", none), "parts_of", "parts_of", defArgs st_parts_of, defBody st_parts_of, defScope st_parts_of, [], []⟩
def dd_pay : He.DefD := ⟨("pay", none), "pay", "pay", defArgs st_pay, defBody st_pay, defScope st_pay, [], []⟩
def dd_law_mixed : He.DefD := ⟨("_law_mixed", none), "_law_mixed", "_law_mixed", defArgs st_law_mixed, defBody st_law_mixed, defScope st_law_mixed, [], []⟩
def dd_law_row : He.DefD := ⟨("_law_row", none), "_law_row", "_law_row", defArgs st_law_row, defBody st_law_row, defScope st_law_row, [], []⟩
def dd_law_is_int : He.DefD := ⟨("_law_is_int", none), "_law_is_int", "_law_is_int", defArgs st_law_is_int, defBody st_law_is_int, defScope st_law_is_int, [], []⟩
def dd_law_like : He.DefD := ⟨("_law_like", none), "_law_like", "_law_like", defArgs st_law_like, defBody st_law_like, defScope st_law_like, [], []⟩
def dd_law_coins : He.DefD := ⟨("_law_coins", none), "_law_coins", "_law_coins", defArgs st_law_coins, defBody st_law_coins, defScope st_law_coins, [], []⟩
def dd_law_paid : He.DefD := ⟨("_law_paid", none), "_law_paid", "_law_paid", defArgs st_law_paid, defBody st_law_paid, defScope st_law_paid, [], []⟩
def dd_law_less : He.DefD := ⟨("_law_less", none), "_law_less", "_law_less", defArgs st_law_less, defBody st_law_less, defScope st_law_less, [], []⟩
def dd_law_place : He.DefD := ⟨("_law_place", none), "_law_place", "_law_place", defArgs st_law_place, defBody st_law_place, defScope st_law_place, [], []⟩
def dd_law_best_down : He.DefD := ⟨("_law_best_down", none), "_law_best_down", "_law_best_down", defArgs st_law_best_down, defBody st_law_best_down, defScope st_law_best_down, [], []⟩
def dd_law_greedy_down : He.DefD := ⟨("_law_greedy_down", none), "_law_greedy_down", "_law_greedy_down", defArgs st_law_greedy_down, defBody st_law_greedy_down, defScope st_law_greedy_down, [], []⟩
def dd_law_purse_down : He.DefD := ⟨("_law_purse_down", none), "_law_purse_down", "_law_purse_down", defArgs st_law_purse_down, defBody st_law_purse_down, defScope st_law_purse_down, [], []⟩
def dd_law : He.DefD := ⟨("law", none), "law", "law", defArgs st_law, defBody st_law, defScope st_law, [], []⟩
def fnD : List He.DefD := [dd_least_numbers, dd_least_number, dd_best_payment, dd_greedy_payment, dd_is_better, dd_payment_key, dd_parts_of, dd_pay, dd_law_mixed, dd_law_row, dd_law_is_int, dd_law_like, dd_law_coins, dd_law_paid, dd_law_less, dd_law_place, dd_law_best_down, dd_law_greedy_down, dd_law_purse_down, dd_law]
def faD : List He.Fa := [.glo "least_numbers", .glo "least_number", .glo "best_payment", .glo "greedy_payment", .glo "is_better", .glo "payment_key", .glo "parts_of", .glo "pay", .glo "_law_mixed", .glo "_law_row", .glo "_law_is_int", .glo "_law_like", .glo "_law_coins", .glo "_law_paid", .glo "_law_less", .glo "_law_place", .glo "_law_best_down", .glo "_law_greedy_down", .glo "_law_purse_down", .glo "law", .free "len", .free "range", .free "sum", .free "min", .free "max", .free "all", .free "any", .free "tuple", .free "list", .free "sorted"] ++ [.free "set", .free "int", .free "isinstance", .free "enumerate", .free "zip", .free "reversed", .free "bool", .free "str"]
abbrev RR : PySem.W.OpenRow := PySem.W.OpenLaw.row PySem.Challenge.rw_changeforall_k80_whole_parts_of_best_pay
def loose : List PySem.Str := ["least_numbers", "least_number", "best_payment", "greedy_payment", "is_better", "payment_key", "parts_of", "pay", "_law_mixed", "_law_row", "_law_is_int", "_law_like", "_law_coins", "_law_paid", "_law_less", "_law_place", "_law_best_down", "_law_greedy_down", "_law_purse_down"]
abbrev hkD : PySem.W.Hook := He.hookD 4 faD fnD
def obD (s : PySem.W.SharedT) : He.AlD := He.obsDG 4 faD fnD (HandSHeadRun.getT s)
theorem obD_eq (s : PySem.W.SharedT) : obD s = hkD.obs s.abs := He.obsDG_eq (HandSHeadRun.getT_eq s)
set_option maxHeartbeats 0 in
theorem run_top (w : World) : HandSHeadRun.RunEq RR (PySem.W.view RR.prog [23]) hkD obD 2000 loose w := by
  intro os
  kernel_rfl
set_option maxHeartbeats 0 in
theorem facts {K : PySem.W.Frag} {h : Heap} {mg : Str → Option Value} (X : K.In h) (G : h.Ns mainGlobals mg) (c : He.SaysD faD fnD K) : Has K mg where
  h_least_numbers := let ⟨fd, F⟩ := c.def_ 0 (d := dd_least_numbers) rfl; has_mk (d := dd_least_numbers) F (He.glo_ok X G (c.fact 0 (f := .glo "least_numbers") rfl)) fun _ _ _ _ _ _ us hl => match us, hl with | [_, _], _ => rfl
  h_least_number := let ⟨fd, F⟩ := c.def_ 1 (d := dd_least_number) rfl; has_mk (d := dd_least_number) F (He.glo_ok X G (c.fact 1 (f := .glo "least_number") rfl)) fun _ _ _ _ _ _ us hl => match us, hl with | [_, _], _ => rfl
  h_best_payment := let ⟨fd, F⟩ := c.def_ 2 (d := dd_best_payment) rfl; has_mk (d := dd_best_payment) F (He.glo_ok X G (c.fact 2 (f := .glo "best_payment") rfl)) fun _ _ _ _ _ _ us hl => match us, hl with | [_, _], _ => rfl
  h_greedy_payment := let ⟨fd, F⟩ := c.def_ 3 (d := dd_greedy_payment) rfl; has_mk (d := dd_greedy_payment) F (He.glo_ok X G (c.fact 3 (f := .glo "greedy_payment") rfl)) fun _ _ _ _ _ _ us hl => match us, hl with | [_, _], _ => rfl
  h_is_better := let ⟨fd, F⟩ := c.def_ 4 (d := dd_is_better) rfl; has_mk (d := dd_is_better) F (He.glo_ok X G (c.fact 4 (f := .glo "is_better") rfl)) fun _ _ _ _ _ _ us hl => match us, hl with | [_, _], _ => rfl
  h_payment_key := let ⟨fd, F⟩ := c.def_ 5 (d := dd_payment_key) rfl; has_mk (d := dd_payment_key) F (He.glo_ok X G (c.fact 5 (f := .glo "payment_key") rfl)) fun _ _ _ _ _ _ us hl => match us, hl with | [_], _ => rfl
  h_parts_of := let ⟨fd, F⟩ := c.def_ 6 (d := dd_parts_of) rfl; has_mk (d := dd_parts_of) F (He.glo_ok X G (c.fact 6 (f := .glo "parts_of") rfl)) fun _ _ _ _ _ _ us hl => match us, hl with | [_, _], _ => rfl
  h_pay := let ⟨fd, F⟩ := c.def_ 7 (d := dd_pay) rfl; has_mk (d := dd_pay) F (He.glo_ok X G (c.fact 7 (f := .glo "pay") rfl)) fun _ _ _ _ _ _ us hl => match us, hl with | [_, _, _], _ => rfl
  h_law_mixed := let ⟨fd, F⟩ := c.def_ 8 (d := dd_law_mixed) rfl; has_mk (d := dd_law_mixed) F (He.glo_ok X G (c.fact 8 (f := .glo "_law_mixed") rfl)) fun _ _ _ _ _ _ us hl => match us, hl with | [_, _], _ => rfl
  h_law_row := let ⟨fd, F⟩ := c.def_ 9 (d := dd_law_row) rfl; has_mk (d := dd_law_row) F (He.glo_ok X G (c.fact 9 (f := .glo "_law_row") rfl)) fun _ _ _ _ _ _ us hl => match us, hl with | [_, _], _ => rfl
  h_law_is_int := let ⟨fd, F⟩ := c.def_ 10 (d := dd_law_is_int) rfl; has_mk (d := dd_law_is_int) F (He.glo_ok X G (c.fact 10 (f := .glo "_law_is_int") rfl)) fun _ _ _ _ _ _ us hl => match us, hl with | [_], _ => rfl
  h_law_like := let ⟨fd, F⟩ := c.def_ 11 (d := dd_law_like) rfl; has_mk (d := dd_law_like) F (He.glo_ok X G (c.fact 11 (f := .glo "_law_like") rfl)) fun _ _ _ _ _ _ us hl => match us, hl with | [_, _], _ => rfl
  h_law_coins := let ⟨fd, F⟩ := c.def_ 12 (d := dd_law_coins) rfl; has_mk (d := dd_law_coins) F (He.glo_ok X G (c.fact 12 (f := .glo "_law_coins") rfl)) fun _ _ _ _ _ _ us hl => match us, hl with | [_, _, _, _], _ => rfl
  h_law_paid := let ⟨fd, F⟩ := c.def_ 13 (d := dd_law_paid) rfl; has_mk (d := dd_law_paid) F (He.glo_ok X G (c.fact 13 (f := .glo "_law_paid") rfl)) fun _ _ _ _ _ _ us hl => match us, hl with | [_, _, _], _ => rfl
  h_law_less := let ⟨fd, F⟩ := c.def_ 14 (d := dd_law_less) rfl; has_mk (d := dd_law_less) F (He.glo_ok X G (c.fact 14 (f := .glo "_law_less") rfl)) fun _ _ _ _ _ _ us hl => match us, hl with | [_, _], _ => rfl
  h_law_place := let ⟨fd, F⟩ := c.def_ 15 (d := dd_law_place) rfl; has_mk (d := dd_law_place) F (He.glo_ok X G (c.fact 15 (f := .glo "_law_place") rfl)) fun _ _ _ _ _ _ us hl => match us, hl with | [_, _], _ => rfl
  h_law_best_down := let ⟨fd, F⟩ := c.def_ 16 (d := dd_law_best_down) rfl; has_mk (d := dd_law_best_down) F (He.glo_ok X G (c.fact 16 (f := .glo "_law_best_down") rfl)) fun _ _ _ _ _ _ us hl => match us, hl with | [_, _, _], _ => rfl
  h_law_greedy_down := let ⟨fd, F⟩ := c.def_ 17 (d := dd_law_greedy_down) rfl; has_mk (d := dd_law_greedy_down) F (He.glo_ok X G (c.fact 17 (f := .glo "_law_greedy_down") rfl)) fun _ _ _ _ _ _ us hl => match us, hl with | [_, _, _], _ => rfl
  h_law_purse_down := let ⟨fd, F⟩ := c.def_ 18 (d := dd_law_purse_down) rfl; has_mk (d := dd_law_purse_down) F (He.glo_ok X G (c.fact 18 (f := .glo "_law_purse_down") rfl)) fun _ _ _ _ _ _ us hl => match us, hl with | [_, _, _, _], _ => rfl
  h_law := let ⟨fd, F⟩ := c.def_ 19 (d := dd_law) rfl; has_mk (d := dd_law) F (He.glo_ok X G (c.fact 19 (f := .glo "law") rfl)) fun _ _ _ _ _ _ us hl => match us, hl with | [_], _ => rfl
  bl := by
    intro b hb
    simp only [blts, List.mem_cons, List.not_mem_nil, or_false] at hb
    rcases hb with rfl | rfl | rfl | rfl | rfl | rfl | rfl | rfl | rfl | rfl | rfl | rfl | rfl | rfl | rfl | rfl | rfl | rfl
    · exact He.free_ok X G (c.fact 20 (f := .free "len") rfl)
    · exact He.free_ok X G (c.fact 21 (f := .free "range") rfl)
    · exact He.free_ok X G (c.fact 22 (f := .free "sum") rfl)
    · exact He.free_ok X G (c.fact 23 (f := .free "min") rfl)
    · exact He.free_ok X G (c.fact 24 (f := .free "max") rfl)
    · exact He.free_ok X G (c.fact 25 (f := .free "all") rfl)
    · exact He.free_ok X G (c.fact 26 (f := .free "any") rfl)
    · exact He.free_ok X G (c.fact 27 (f := .free "tuple") rfl)
    · exact He.free_ok X G (c.fact 28 (f := .free "list") rfl)
    · exact He.free_ok X G (c.fact 29 (f := .free "sorted") rfl)
    · exact He.free_ok X G (c.fact 30 (f := .free "set") rfl)
    · exact He.free_ok X G (c.fact 31 (f := .free "int") rfl)
    · exact He.free_ok X G (c.fact 32 (f := .free "isinstance") rfl)
    · exact He.free_ok X G (c.fact 33 (f := .free "enumerate") rfl)
    · exact He.free_ok X G (c.fact 34 (f := .free "zip") rfl)
    · exact He.free_ok X G (c.fact 35 (f := .free "reversed") rfl)
    · exact He.free_ok X G (c.fact 36 (f := .free "bool") rfl)
    · exact He.free_ok X G (c.fact 37 (f := .free "str") rfl)
theorem has_at {K : PySem.W.Frag} {mg : Str → Option Value} {x : Str} {st : Stmt} {ps : List Str} {fa : Addr} (h : HasFn K mg x st ps) (e : mg x = some (.ref fa)) : ∃ fd, FunD K x x (defArgs st) (defBody st) (defScope st) [] [] fa fd := by
  obtain ⟨fa1, fd1, F1, m1, b1⟩ := h.ex
  rw [e] at m1
  injection m1 with m1
  injection m1 with m1
  subst m1
  exact ⟨fd1, F1⟩
end
end Rx
open PySem PySem.W PySem.Calls PyProof.Rows
set_option maxHeartbeats 0 in
theorem PySem.Challenge.cw_changeforall_k80_whole_parts_of_best_pay_holds : PySem.Challenge.rw_changeforall_k80_whole_parts_of_best_pay.Holds := by
  w_on; o_law
  refine HandSHeadRun.head_any (r := Rx.RR) (q := view Rx.RR.prog [23]) (H := Rx.hkD) (ob := Rx.obD) (M := 2000) (loose := Rx.loose) (d := HandSHeadRun.topDef Rx.RR.prog 23) (kwd := []) Rx.obD_eq
    (by kernel_rfl) (fun s => by kernel_rfl) Rx.run_top (by kernel_rfl) (by kernel_rfl) (by kernel_rfl) (by rfl) (by first | assumption | decide +kernel) (by decide +kernel) ⟨rfl, rfl, rfl, rfl, rfl, by decide +kernel⟩ ?hw ?hc
  case hw => w_witness2
  case hc =>
    refine L2.walk_ofE (l := PySem.Challenge.rw_changeforall_k80_whole_parts_of_best_pay) (n := 63) (k := 40) (x := "script") (CX := L2.CX0) rfl (by decide) (by kernel_rfl) ⟨rfl, by decide, by decide⟩ ?F (fun _ _ _ _ z => z)
    intro w mg fa h Y G hmg0
    obtain ⟨K, KX, c⟩ := Y
    have hmg : mg ("law" : PySem.Str) = some (.ref fa) := by
      have e : (HandSHeadRun.topDef Rx.RR.prog 23).name = ("law" : PySem.Str) := by kernel_rfl
      rw [← e]
      exact hmg0
    have hh := Rx.facts KX G c
    obtain ⟨fd1, F1⟩ := Rx.has_at hh.h_law hmg
    refine ⟨K, fd1, Rx.spD K 1 (Rx.run Rx.defs 40 174), KX, fun s v => ?_, fun H a ns hl _ hS => Rx.sp_law (Rx.law_true ns hl) hl hS, fun base _ _ => ?_⟩
    · exact L2.FunD.bindsA (ps := ["script"]) F1 (fun _ _ _ _ _ _ us hl => match us, hl with | [_], _ => rfl) s [v] rfl
    · exact Rx.ok_law hh F1 39
end
